import PyProof.Rows.All
import Wide.All
import OpenK.AllK
import Wide.FinOn
import HandS.ForMost
import HandS.Codes
import HandS.Property
import HandS.ClsMeth
import KE.KStateDown
import HandS.Head0
import HandS.Head1
import HandS.Head2
import HandS.HeadEnd
import HandS.HeadHook1
import HandS.HeadHook2
import HandS.GenOver
import HandS.GenList
import HandS.Evl
import HandS.TupLen
import HandS.Deep
import HandS.Wide
import HandS.IsInst
import HandS.Style
import HandS.MakeKwOnly
import HandS.Steps
import KE.KDictDisplayH
import HandS.SortInts
import HandS.Conv
import HandS.SetFor
import HandS.Strs
import PySem.Challenge.RW_carpets_k55_whole_parts_beside_windows
set_option Elab.async false
set_option linter.all false
set_option maxRecDepth 100000
set_option maxHeartbeats 1000000
/-! What the top leaves: looked at by addresses. -/
namespace K55
open PySem PySem.Spec PyProof.Rows L2
abbrev topS (i : Nat) : Stmt := PySem.Challenge.pw_carpets_k55_whole_parts_beside_windows.main.body.getD i (.Pass ⟨0, 0, 0, 0⟩)
def letters : Str := "abcdefghijklmnopqrstuvwxyz"
abbrev Fg := PySem.W.Frag
/-- an object's own parts: values, code, a class's names -/
def valsO (o : Obj) : List Addr := match o.data with
  | .dict es _ => es.toList.flatMap fun e => He.refV e.val
  | .seq its _ => its.toList.flatMap He.refV
  | .fields vs => vs.toList.flatMap He.refV
  | _ => []
def codeO (o : Obj) : List Addr := match o.data with
  | .func fd => He.refV fd.code
  | _ => []
def nmsO (o : Obj) : List Addr := match o.data with
  | .cls cd => [cd.ns]
  | _ => []
def ofK (look : Addr → Option Obj) (f : Obj → List Addr) (as : List Addr) : List Addr := as.flatMap fun a => match look a with
  | some o => f o
  | none => []
/-- the module's names; its classes' namespaces; what stands in these; the records' defs; the defs' code -/
def reach (look : Addr → Option Obj) : List Addr :=
  let g1 := ofK look valsO [mainGlobals]
  let g2 := ofK look nmsO g1
  let g3 := ofK look valsO g2
  let g4 := ofK look valsO g3
  let g5 := ofK look (fun o => match o.data with
    | .seq its _ => its.toList.flatMap He.refV
    | _ => []) g1
  cStatics :: mainGlobals :: (g1 ++ (g2 ++ (g3 ++ (g4 ++ (g5 ++ (ofK look codeO g1 ++ (ofK look codeO g3 ++ ofK look codeO g4)))))))
def frK (look : Addr → Option Obj) : Fg := He.frG look (reach look)
/-- the def in a record: a property's, a static method's -/
def recFn (K : Fg) (p : Addr) (T : String) : Addr := match PySem.W.recIn K p T with
  | some (.ref a :: _) => a
  | _ => 0
def recB (K : Fg) (p : Addr) (T : String) : Bool := match PySem.W.recIn K p T with
  | some (.ref _ :: _) => true
  | _ => false
abbrev mA (C m : Str) (K : Fg) : Addr := He.ma K (He.ga K C) m
abbrev gA (x : Str) (K : Fg) : Addr := He.ga K x
def pA (C m : Str) (K : Fg) : Addr := recFn K (mA C m K) "property"
def sA (C m : Str) (K : Fg) : Addr := recFn K (mA C m K) "staticmethod"
/-- a def of the text, and where it stands -/
structure DF where
  wh : Fg → Addr
  nm : Str
  ql : Str
  st : Stmt
/-- the object at an address, as a def: its text, and what is looked at besides -/
def seenF (K : Fg) (a : Addr) : He.FnW × Bool := match K.lookup a with
  | some o => (match o.data with
    | .func fd => (some (fd.name, fd.qualname, fd.params, fd.body, fd.scope, fd.globals, fd.closure, fd.builtins), match fd.defaults with
      | .none => true
      | _ => false)
    | _ => (none, false))
  | none => (none, false)
def codeB (K : Fg) (a : Addr) (q : Str) : Bool := match K.lookup a with
  | some o => (match o.data with
    | .func fd => PySem.W.codeIn K fd.code q
    | _ => false)
  | none => false
def DF.val (d : DF) : He.FnW × Bool := (some (d.nm, d.ql, C8.fnArgs d.st, .stmts (C8.fnBody d.st), C8.fnScope d.st, mainGlobals, [], builtinsNs), true)
def propB (K : Fg) (C f : Str) : Bool := He.eqO (PySem.W.findIn K (.ref (He.ga K C)) f) (some (some (.ref (mA C f K)))) && (He.eqO (PySem.W.specialIn K (.ref (mA C f K)) "__get__") (some (some (.builtin "property.__get__"))) && (decide (PySem.W.takesIn K (.ref (mA C f K)) = some true) && recB K (mA C f K) "property"))
def foundS (K : Fg) (C m : Str) : Bool := match PySem.W.findCls K (.ref (He.ga K C)) (.type "type") m with
  | some (.get (.builtin b) (.ref p) .none (.ref c)) => decide (b = "staticmethod.__get__") && (decide (p = mA C m K) && decide (c = He.ga K C))
  | _ => false
def statB (K : Fg) (C m : Str) : Bool := PySem.W.readsIn K (He.ga K C) (.type "type") && (He.eqO (PySem.W.specialIn K (.ref (He.ga K C)) "__getattribute__") (some (some (.builtin "type.__getattribute__"))) && (foundS K C m && (recB K (mA C m K) "staticmethod" && PySem.W.keepIn K (.ref (sA C m K)))))
def tupA (K : Fg) (a : Addr) (vs : List V) : Bool := match K.lookup a with
  | some o => (match o.cls with
    | .type c => (match o.data with
      | .seq its _ => decide (c = "tuple") && (decide (its.size ≤ sizeLine) && He.relAll vs its.toList)
      | _ => false)
    | _ => false)
  | none => false
def eltA (x : Str) (i : Nat) (K : Fg) : Addr := match K.lookup (He.ga K x) with
  | some o => (match o.data with
    | .seq its _ => (match its.toList[i]? with
      | some (.ref a) => a
      | _ => 0)
    | _ => 0)
  | none => 0
def stepsB (K : Fg) : Bool := tupA K (He.ga K "STEPS") [.ref (eltA "STEPS" 0 K), .ref (eltA "STEPS" 1 K), .ref (eltA "STEPS" 2 K), .ref (eltA "STEPS" 3 K)] && (tupA K (eltA "STEPS" 0 K) [.int 1, .int 0] && (tupA K (eltA "STEPS" 1 K) [.int 0, .int 1] && (tupA K (eltA "STEPS" 2 K) [.int (-1), .int 0] && tupA K (eltA "STEPS" 3 K) [.int 0, .int (-1)])))
/-! ### the Hook -/
abbrev AlK : Type := Bool × List (He.FnW × Bool)
def obsK (ex : Fg → Bool) (fn : List DF) (K : Fg) : AlK := (ex K && fn.all fun d => codeB K (d.wh K) d.ql, fn.map fun d => seenF K (d.wh K))
def valK (fn : List DF) : AlK := (true, fn.map DF.val)
def SaysK (ex : Fg → Bool) (fn : List DF) (K : Fg) : Prop := obsK ex fn K = valK fn
def hookK (ex : Fg → Bool) (fn : List DF) : PySem.W.Hook where
  α := AlK
  obs := fun s => obsK ex fn (frK s.heap.get?)
  val := fun _ => valK fn
  says := fun _ h => ∃ K : Fg, K.In h ∧ SaysK ex fn K
  of := fun _ _ e => ⟨_, He.frG_in, e⟩
  keeps := fun _ _ _ ⟨K, hK, c⟩ k => ⟨K, PySem.W.Frag.In.keeps hK k, c⟩
def obK (ex : Fg → Bool) (fn : List DF) (s : PySem.W.SharedT) : AlK := obsK ex fn (frK (HandSHeadRun.getT s))
theorem obK_eq (ex : Fg → Bool) (fn : List DF) (s : PySem.W.SharedT) : obK ex fn s = (hookK ex fn).obs s.abs := by
  have e : HandSHeadRun.getT s = s.abs.heap.get? := funext (HandSHeadRun.getT_eq s)
  unfold obK
  rw [e]
  rfl
end K55
set_option maxHeartbeats 0
/-! The top's run, and what it leaves. -/
namespace K55
open PySem PySem.Spec PyProof.Rows L2
def fns0 : List DF := [⟨gA "is_integer", "is_integer", "is_integer", (topS 10)⟩, ⟨gA "is_place", "is_place", "is_place", (topS 11)⟩, ⟨gA "check_place", "check_place", "check_place", (topS 12)⟩, ⟨gA "greatest_divisor", "greatest_divisor", "greatest_divisor", (topS 13)⟩, ⟨gA "divisors", "divisors", "divisors", (topS 15)⟩, ⟨gA "plus", "plus", "plus", (topS 16)⟩, ⟨gA "minus", "minus", "minus", (topS 17)⟩, ⟨gA "form_of", "form_of", "form_of", (topS 22)⟩, ⟨gA "are_numbers", "are_numbers", "are_numbers", (topS 23)⟩, ⟨gA "is_row", "is_row", "is_row", (topS 31)⟩, ⟨gA "check_rows", "check_rows", "check_rows", (topS 32)⟩, ⟨gA "checked_block", "checked_block", "checked_block", (topS 33)⟩, ⟨gA "colour_at", "colour_at", "colour_at", (topS 34)⟩, ⟨gA "is_kept", "is_kept", "is_kept", (topS 35)⟩, ⟨gA "kept_net", "kept_net", "kept_net", (topS 36)⟩, ⟨gA "least_cell", "least_cell", "least_cell", (topS 37)⟩, ⟨gA "neighbours", "neighbours", "neighbours", (topS 42)⟩, ⟨gA "line_basis", "line_basis", "line_basis", (topS 43)⟩, ⟨gA "basis_of", "basis_of", "basis_of", (topS 44)⟩, ⟨gA "part_from", "part_from", "part_from", (topS 46)⟩, ⟨gA "parts", "parts", "parts", (topS 47)⟩, ⟨gA "part_at", "part_at", "part_at", (topS 48)⟩, ⟨gA "are_joined", "are_joined", "are_joined", (topS 49)⟩, ⟨gA "_law_tape", "_law_tape", "_law_tape", (topS 51)⟩, ⟨gA "_law_draw", "_law_draw", "_law_draw", (topS 52)⟩]
def fns1 : List DF := [⟨gA "_law_great", "_law_great", "_law_great", (topS 53)⟩, ⟨gA "_law_place", "_law_place", "_law_place", (topS 54)⟩, ⟨gA "_law_low", "_law_low", "_law_low", (topS 55)⟩, ⟨gA "_law_spots", "_law_spots", "_law_spots", (topS 56)⟩, ⟨gA "_law_seen", "_law_seen", "_law_seen", (topS 57)⟩, ⟨gA "_law_net", "_law_net", "_law_net", (topS 58)⟩, ⟨gA "_law_turned", "_law_turned", "_law_turned", (topS 59)⟩, ⟨gA "_law_kinds", "_law_kinds", "_law_kinds", (topS 60)⟩, ⟨gA "_law_carried", "_law_carried", "_law_carried", (topS 61)⟩, ⟨gA "_law_divisor", "_law_divisor", "_law_divisor", (topS 62)⟩, ⟨gA "_law_net_of", "_law_net_of", "_law_net_of", (topS 63)⟩, ⟨gA "_law_keeps", "_law_keeps", "_law_keeps", (topS 64)⟩, ⟨gA "_law_move", "_law_move", "_law_move", (topS 65)⟩, ⟨gA "_law_tied", "_law_tied", "_law_tied", (topS 66)⟩, ⟨gA "_law_letters", "_law_letters", "_law_letters", (topS 67)⟩, ⟨gA "_law_square", "_law_square", "_law_square", (topS 68)⟩, ⟨gA "_law_copied", "_law_copied", "_law_copied", (topS 69)⟩, ⟨gA "_law_woven", "_law_woven", "_law_woven", (topS 70)⟩, ⟨gA "_law_exact", "_law_exact", "_law_exact", (topS 71)⟩, ⟨gA "_law_made", "_law_made", "_law_made", (topS 72)⟩, ⟨gA "_law_is_kept", "_law_is_kept", "_law_is_kept", (topS 73)⟩, ⟨gA "_law_least", "_law_least", "_law_least", (topS 74)⟩, ⟨gA "_law_near", "_law_near", "_law_near", (topS 75)⟩, ⟨gA "_law_groups", "_law_groups", "_law_groups", (topS 76)⟩, ⟨gA "_law_is_inner", "_law_is_inner", "_law_is_inner", (topS 77)⟩]
def fns2 : List DF := [⟨gA "_law_right", "_law_right", "_law_right", (topS 78)⟩, ⟨gA "law", "law", "law", (topS 79)⟩, ⟨mA "Net" "__init__", "__init__", "Net.__init__", (inClass (topS 25) 0)⟩, ⟨mA "Net" "place_in_cell", "place_in_cell", "Net.place_in_cell", (inClass (topS 25) 6)⟩, ⟨mA "Net" "__contains__", "__contains__", "Net.__contains__", (inClass (topS 25) 7)⟩, ⟨mA "Net" "spots", "spots", "Net.spots", (inClass (topS 25) 15)⟩, ⟨mA "Net" "cell", "cell", "Net.cell", (inClass (topS 25) 16)⟩, ⟨mA "Carpet" "__init__", "__init__", "Carpet.__init__", (inClass (topS 38) 0)⟩, ⟨mA "Carpet" "seen", "seen", "Carpet.seen", (inClass (topS 38) 7)⟩, ⟨mA "Carpet" "__getitem__", "__getitem__", "Carpet.__getitem__", (inClass (topS 38) 8)⟩, ⟨mA "Woven" "__init__", "__init__", "Woven.__init__", (inClass (topS 39) 0)⟩, ⟨mA "Part" "__init__", "__init__", "Part.__init__", (inClass (topS 45) 0)⟩, ⟨mA "Part" "carries", "carries", "Part.carries", (inClass (topS 45) 9)⟩, ⟨pA "Net" "numbers", "numbers", "Net.numbers", (inClass (topS 25) 3)⟩, ⟨pA "Net" "size", "size", "Net.size", (inClass (topS 25) 4)⟩, ⟨pA "Carpet" "net", "net", "Carpet.net", (inClass (topS 38) 3)⟩, ⟨pA "Part" "size", "size", "Part.size", (inClass (topS 45) 5)⟩, ⟨pA "Part" "net", "net", "Part.net", (inClass (topS 45) 7)⟩, ⟨sA "Carpet" "on", "on", "Carpet.on", (inClass (topS 38) 1)⟩]
def fns : List DF := fns0 ++ (fns1 ++ (fns2))
def fas0 : List He.Fa := [.glo "is_integer", .glo "is_place", .glo "check_place", .glo "greatest_divisor", .glo "divisors", .glo "plus", .glo "minus", .glo "form_of", .glo "are_numbers", .glo "is_row", .glo "check_rows", .glo "checked_block", .glo "colour_at", .glo "is_kept", .glo "kept_net", .glo "least_cell", .glo "neighbours", .glo "line_basis", .glo "basis_of", .glo "part_from", .glo "parts", .glo "part_at", .glo "are_joined", .glo "_law_tape", .glo "_law_draw"]
def fas1 : List He.Fa := [.glo "_law_great", .glo "_law_place", .glo "_law_low", .glo "_law_spots", .glo "_law_seen", .glo "_law_net", .glo "_law_turned", .glo "_law_kinds", .glo "_law_carried", .glo "_law_divisor", .glo "_law_net_of", .glo "_law_keeps", .glo "_law_move", .glo "_law_tied", .glo "_law_letters", .glo "_law_square", .glo "_law_copied", .glo "_law_woven", .glo "_law_exact", .glo "_law_made", .glo "_law_is_kept", .glo "_law_least", .glo "_law_near", .glo "_law_groups", .glo "_law_is_inner"]
def fas2 : List He.Fa := [.glo "_law_right", .glo "law", .glo "Net", .glo "Carpet", .glo "Woven", .glo "Part", .glo "STEPS", .free "range", .free "len", .free "isinstance", .free "all", .free "abs", .free "int", .free "bool", .free "str", .free "tuple", .free "list", .free "set", .free "sorted", .free "enumerate", .str "LETTERS" letters, .int "MOST_ROWS" 100, .int "MOST_LETTERS" 1000, .int "MOST_PLACES" 2000, .cls "Net"]
def fas3 : List He.Fa := [.cls "Carpet", .cls "Woven", .cls "Part", .mkr "Net", .mkr "Carpet", .mkr "Woven", .mkr "Part", .noat "Net" "own_numbers", .noat "Carpet" "own_net", .noat "Carpet" "own_text", .noat "Woven" "own_net", .noat "Woven" "own_text", .noat "Part" "own_colour", .noat "Part" "own_start", .noat "Part" "known", .noat "Part" "own_places", .noat "Part" "own_basis", .noat "Part" "own_border", .meth "Net" "place_in_cell", .meth "Net" "__contains__", .meth "Net" "spots", .meth "Net" "cell", .meth "Carpet" "seen", .meth "Carpet" "__getitem__", .meth "Woven" "seen"]
def fas4 : List He.Fa := [.meth "Woven" "__getitem__", .meth "Part" "carries", .keep "is_integer", .keep "is_place", .keep "check_place", .keep "greatest_divisor", .keep "divisors", .keep "plus", .keep "minus", .keep "form_of", .keep "are_numbers", .keep "is_row", .keep "check_rows", .keep "checked_block", .keep "colour_at", .keep "is_kept", .keep "kept_net", .keep "least_cell", .keep "neighbours", .keep "line_basis", .keep "basis_of", .keep "part_from", .keep "parts", .keep "part_at", .keep "are_joined"]
def fas5 : List He.Fa := [.keep "_law_tape", .keep "_law_draw", .keep "_law_great", .keep "_law_place", .keep "_law_low", .keep "_law_spots", .keep "_law_seen", .keep "_law_net", .keep "_law_turned", .keep "_law_kinds", .keep "_law_carried", .keep "_law_divisor", .keep "_law_net_of", .keep "_law_keeps", .keep "_law_move", .keep "_law_tied", .keep "_law_letters", .keep "_law_square", .keep "_law_copied", .keep "_law_woven", .keep "_law_exact", .keep "_law_made", .keep "_law_is_kept", .keep "_law_least", .keep "_law_near"]
def fas6 : List He.Fa := [.keep "_law_groups", .keep "_law_is_inner", .keep "_law_right", .keep "law"]
def fas : List He.Fa := fas0 ++ (fas1 ++ (fas2 ++ (fas3 ++ (fas4 ++ (fas5 ++ (fas6))))))
def props (K : Fg) : Bool := propB K "Net" "numbers" && (propB K "Net" "size" && (propB K "Carpet" "net" && (propB K "Part" "size" && (propB K "Part" "net" && (propB K "Woven" "net")))))
def sames (K : Fg) : Bool := decide (mA "Woven" "seen" K = mA "Carpet" "seen" K) && (decide (mA "Woven" "__getitem__" K = mA "Carpet" "__getitem__" K) && decide (pA "Woven" "net" K = pA "Carpet" "net" K))
def rests (K : Fg) : Bool := statB K "Carpet" "on" && (stepsB K && PySem.W.fnIn K (mA "Carpet" "__getitem__" K))
def exK (K : Fg) : Bool := (fas.all fun f => f.ok K) && (props K && (sames K && rests K))
abbrev Rw : PySem.W.OpenRow := PySem.W.OpenLaw.row PySem.Challenge.rw_carpets_k55_whole_parts_beside_windows
abbrev qv : Program := PySem.W.view Rw.prog [79]
end K55
set_option maxHeartbeats 0
/-! The top's run, and what it leaves. -/
namespace K55
open PySem PySem.Spec PyProof.Rows L2
abbrev names : List PySem.Str := (["_wall", "__name__", "CarpetError", "InvalidNet", "InvalidPlace", "InvalidRows", "InvalidNumber", "InvalidText", "LimitExceeded", "is_integer", "is_place", "check_place", "greatest_divisor", "bezout", "divisors", "plus", "minus", "MATRICES", "turned", "form_of", "are_numbers", "common_numbers", "Net", "LETTERS", "MOST_ROWS", "MOST_LETTERS", "MOST_PLACES", "is_row", "check_rows", "checked_block"] : List PySem.Str) ++ (["colour_at", "is_kept", "kept_net", "least_cell", "Carpet", "Woven", "STEPS", "neighbours", "line_basis", "basis_of", "Part", "part_from", "parts", "part_at", "are_joined", "_law_tape", "_law_draw", "_law_great", "_law_place", "_law_low", "_law_spots", "_law_seen", "_law_net", "_law_turned", "_law_kinds", "_law_carried", "_law_divisor", "_law_net_of", "_law_keeps", "_law_move"] : List PySem.Str) ++ (["_law_tied", "_law_letters", "_law_square", "_law_copied", "_law_woven", "_law_exact", "_law_made", "_law_is_kept", "_law_least", "_law_near", "_law_groups", "_law_is_inner", "_law_right"] : List PySem.Str)
theorem top_f (w : World) : HandSHeadRun.RunEq Rw qv (hookK exK fns) (obK exK fns) 12000 names (w.withFollow "special-get-raises" false) := by
  intro os
  kernel_rfl
theorem top_t (w : World) : HandSHeadRun.RunEq Rw qv (hookK exK fns) (obK exK fns) 12000 names (w.withFollow "special-get-raises" true) := by
  intro os
  kernel_rfl
theorem top_run (w : World) : HandSHeadRun.RunEq Rw qv (hookK exK fns) (obK exK fns) 12000 names w :=
  PySem.W.byRow2 "special-get-raises" (P := fun w => HandSHeadRun.RunEq Rw qv (hookK exK fns) (obK exK fns) 12000 names w) top_f top_t w
end K55
/-! Sleeping generators are left alone by code that does not wake them. -/
namespace K55
open PySem
open Sem (wp)

/-! ### what a sleeping generator looks like when it can't be woken -/
def dozed : GenState → GenState
  | .suspended _ l c p fs cl => .suspended (fun _ => .unsupported "asleep") l c p fs cl
  | x => x
theorem dozed_seen (x : GenState) : (dozed x).seen = x.seen := by cases x <;> rfl
theorem dozed_bare (x : GenState) : (dozed x).bare = x.bare := by cases x <;> rfl
def isSusp : GenState → Bool
  | .suspended .. => true
  | _ => false
theorem dozed_other {x : GenState} (h : isSusp x = false) : dozed x = x := by cases x <;> first | rfl | cases h
def wide (T : Nat → Option GenState) (G : Array GenState) : Array GenState := Array.ofFn (n := G.size) fun i => (T i.1).getD G[i]
theorem wide_size (T : Nat → Option GenState) (G : Array GenState) : (wide T G).size = G.size := by simp [wide]
theorem wide_get (T : Nat → Option GenState) (G : Array GenState) (i : Nat) : (wide T G)[i]? = (G[i]?).map fun x => (T i).getD x := by
  unfold wide
  by_cases h : i < G.size
  · simp [h]
  · simp [h]
def ov (T : Nat → Option GenState) (s : Shared) : Shared := { s with gens := wide T s.gens }
theorem ov_get (T : Nat → Option GenState) (s : Shared) (i : Nat) : (ov T s).gens[i]? = (s.gens[i]?).map fun x => (T i).getD x := wide_get T s.gens i
theorem arr_ext {A B : Array GenState} (h : ∀ i : Nat, A[i]? = B[i]?) : A = B := Array.ext_getElem? h
structure Good (T : Nat → Option GenState) (s : Shared) : Prop where
  fine : ∀ i x, T i = some x → isSusp x = true ∧ s.gens[i]? = some (dozed x)
  clean : ∀ i k l c p fs cl, s.gens[i]? = some (.suspended k l c p fs cl) → T i = none → splitAtGen fs = none
theorem Good.out {T : Nat → Option GenState} {s : Shared} (h : Good T s) : T s.gens.size = none := by
  cases e : T s.gens.size with
  | none => rfl
  | some x =>
    have h2 := (h.fine _ _ e).2
    simp at h2
theorem ov_set {T : Nat → Option GenState} {s : Shared} {g : Nat} {x : GenState} (h : T g = none) : ov T (s.setGen g x) = (ov T s).setGen g x := by
  have e : wide T (s.gens.setIfInBounds g x) = (wide T s.gens).setIfInBounds g x := arr_ext fun i => by
    rw [wide_get]
    by_cases z : g = i
    · subst z
      rw [Array.getElem?_setIfInBounds, Array.getElem?_setIfInBounds, if_pos rfl, if_pos rfl, wide_size]
      by_cases q : g < s.gens.size
      · rw [if_pos q]
        show some ((T g).getD x) = some x
        rw [h]
        rfl
      · rw [if_neg q]
        rfl
    · rw [Array.getElem?_setIfInBounds, Array.getElem?_setIfInBounds, if_neg z, if_neg z, wide_get]
  show ({ (s.setGen g x) with gens := wide T (s.gens.setIfInBounds g x) } : Shared) = _
  rw [e]
  rfl
theorem ov_push {T : Nat → Option GenState} {s : Shared} {x : GenState} (h : T s.gens.size = none) : ov T { s with gens := s.gens.push x } = { ov T s with gens := (ov T s).gens.push x } := by
  have e : wide T (s.gens.push x) = (wide T s.gens).push x := arr_ext fun i => by
    rw [wide_get, Array.getElem?_push, Array.getElem?_push, wide_size]
    by_cases z : i = s.gens.size
    · rw [if_pos z, if_pos z]
      show some ((T i).getD x) = some x
      rw [z, h]
      rfl
    · rw [if_neg z, if_neg z, wide_get]
  show ({ s with gens := wide T (s.gens.push x) } : Shared) = _
  rw [e]
  rfl
theorem Good.set {T : Nat → Option GenState} {s : Shared} {g : Nat} {x : GenState} (h : Good T s) (hg : T g = none) (hx : ∀ k l c p fs cl, x = .suspended k l c p fs cl → splitAtGen fs = none) : Good T (s.setGen g x) := by
  refine ⟨fun i y e => ?_, fun i k l c p fs cl e n => ?_⟩
  · obtain ⟨h1, h2⟩ := h.fine i y e
    refine ⟨h1, ?_⟩
    show (s.gens.setIfInBounds g x)[i]? = _
    have z : g ≠ i := fun z => by rw [z, e] at hg; cases hg
    rw [Array.getElem?_setIfInBounds, if_neg z]
    exact h2
  · have e2 : (s.gens.setIfInBounds g x)[i]? = some (.suspended k l c p fs cl) := e
    rw [Array.getElem?_setIfInBounds] at e2
    by_cases z : g = i
    · rw [if_pos z] at e2
      by_cases q : g < s.gens.size
      · rw [if_pos q] at e2
        exact hx k l c p fs cl (Option.some.inj e2)
      · rw [if_neg q] at e2
        cases e2
    · rw [if_neg z] at e2
      exact h.clean i k l c p fs cl e2 n
theorem Good.push {T : Nat → Option GenState} {s : Shared} {c : Code} (h : Good T s) : Good T { s with gens := s.gens.push (.fresh c) } := by
  refine ⟨fun i y e => ?_, fun i k l c p fs cl e n => ?_⟩
  · obtain ⟨h1, h2⟩ := h.fine i y e
    refine ⟨h1, ?_⟩
    show (s.gens.push _)[i]? = _
    have z : i ≠ s.gens.size := fun z => by rw [z, h.out] at e; cases e
    rw [Array.getElem?_push, if_neg z]
    exact h2
  · have e2 : (s.gens.push _)[i]? = some (.suspended k l c p fs cl) := e
    rw [Array.getElem?_push] at e2
    by_cases z : i = s.gens.size
    · rw [if_pos z] at e2
      cases e2
    · rw [if_neg z] at e2
      exact h.clean i k l c p fs cl e2 n
theorem Good.gens {T : Nat → Option GenState} {s s' : Shared} (h : Good T s) (e : s'.gens = s.gens) : Good T s' :=
  ⟨fun i x t => by rw [e]; exact h.fine i x t, fun i k l c p fs cl q => h.clean i k l c p fs cl (by rw [← e]; exact q)⟩

theorem split_app {fs gs : List Frame} (h : splitAtGen fs = none) (h2 : splitAtGen gs = none) : splitAtGen (fs ++ gs) = none := by
  induction fs with
  | nil => exact h2
  | cons F r ih =>
    cases F with
    | ret k hd g l c p kp =>
      have h3 : (splitAtGen r).map _ = none := h
      show (splitAtGen (r ++ gs)).map _ = none
      rw [ih (Option.map_eq_none_iff.mp h3)]
      rfl
    | gen g k l c p => cases h
theorem split_tail {F : Frame} {r : List Frame} (h : splitAtGen (F :: r) = none) : splitAtGen r = none := by
  cases F with
  | ret k hd g l c p kp => exact Option.map_eq_none_iff.mp (show (splitAtGen r).map _ = none from h)
  | gen g k l c p => cases h

section
variable {M : Model}
theorem no_unsup {Γ : Ctx} {p : Pos} {x : String} {fs : List Frame} {s s' : Shared} {e : End} (h : Runs M Γ p (.unsupported x) fs s e s') : False := by
  cases h with
  | segRet a b => cases a
  | segGen a b => cases a
  | segSuspOut a b => cases b
  | segSuspGen a b c d => cases b

/-- the end's frames hold no other generator's -/
def EndOk (e : End) : Prop := ∀ v g l k c p fs, e = .susp v g l k c p fs → splitAtGen fs = none
theorem EndOk.state {e : End} (h : EndOk e) : ∀ k l c p fs cl, e.genState = .suspended k l c p fs cl → splitAtGen fs = none := by
  intro k l c p fs cl q
  cases e with
  | ret r => cases q
  | susp v g l' k' c' p' fs' =>
    have q2 : GenState.suspended k' l' c' p' fs' _ = .suspended k l c p fs cl := q
    injection q2 with _ _ _ _ q3 _
    rw [← q3]
    exact h _ _ _ _ _ _ _ rfl
theorem EndOk.ret {r : Result} : EndOk (.ret r) := fun _ _ _ _ _ _ _ q => by cases q

theorem seen_wide {T : Nat → Option GenState} {s : Shared} {g : Nat} {st : GenState} (h : Good T s) (e : s.gens[g]? = some st) : ∃ st', (ov T s).gens[g]? = some st' ∧ st'.seen = st.seen := by
  rw [ov_get, e]
  cases q : T g with
  | none => exact ⟨st, rfl, rfl⟩
  | some x =>
    have h2 := (h.fine g x q).2
    rw [e] at h2
    refine ⟨x, rfl, ?_⟩
    rw [Option.some.inj h2, dozed_seen]
theorem get_wide {T : Nat → Option GenState} {s : Shared} {g : Nat} {st : GenState} (hg : T g = none) (e : s.gens[g]? = some st) : (ov T s).gens[g]? = some st := by
  rw [ov_get, e, hg]
  rfl
theorem free_of {T : Nat → Option GenState} {s : Shared} {g : Nat} {st : GenState} (h : Good T s) (e : s.gens[g]? = some st) (hs : isSusp st = false) : T g = none := by
  cases q : T g with
  | none => rfl
  | some x =>
    obtain ⟨h1, h2⟩ := h.fine g x q
    rw [e] at h2
    have h3 := Option.some.inj h2
    rw [h3] at hs
    cases x with
    | suspended k l c p fs cl => exact absurd (show true = false from hs) (by decide)
    | _ => cases h1

theorem runs_wide {T : Nat → Option GenState} {Γ : Ctx} {p : Pos} {t : Sem PySem.Fin} {fs : List Frame} {s s' : Shared} {e : End} (h : Runs M Γ p t fs s e s') :
    splitAtGen fs = none → Good T s → Runs M Γ p t fs (ov T s) e (ov T s') ∧ Good T s' ∧ EndOk e := by
  induction h with
  | done => intro _ g; exact ⟨.done, g, .ret⟩
  | raise => intro _ g; exact ⟨.raise, g, .ret⟩
  | again q _ ih => intro f g; obtain ⟨a, b, c⟩ := ih rfl g; exact ⟨.again q a, b, c⟩
  | rule _ ih => intro f g; obtain ⟨a, b, c⟩ := ih rfl g; exact ⟨.rule a, b, c⟩
  | «at» _ ih => intro f g; obtain ⟨a, b, c⟩ := ih rfl g; exact ⟨.at a, b, c⟩
  | load o _ ih => intro f g; obtain ⟨a, b, c⟩ := ih rfl g; exact ⟨.load o a, b, c⟩
  | update o _ ih => intro f g; obtain ⟨a, b, c⟩ := ih rfl (g.gens rfl); exact ⟨.update o a, b, c⟩
  | loadIfAlive _ ih => intro f g; obtain ⟨a, b, c⟩ := ih rfl g; exact ⟨.loadIfAlive a, b, c⟩
  | point _ ih => intro f g; obtain ⟨a, b, c⟩ := ih rfl g; exact ⟨.point a, b, c⟩
  | alloc _ ih => intro f g; obtain ⟨a, b, c⟩ := ih rfl (g.gens rfl); exact ⟨.alloc a, b, c⟩
  | fresh _ ih => intro f g; obtain ⟨a, b, c⟩ := ih rfl (g.gens rfl); exact ⟨.fresh a, b, c⟩
  | ask _ ih => intro f g; obtain ⟨a, b, c⟩ := ih rfl g; exact ⟨.ask a, b, c⟩
  | choose n _ ih => intro f g; obtain ⟨a, b, c⟩ := ih rfl (g.gens rfl); exact ⟨.choose n a, b, c⟩
  | os _ ih => intro f g; obtain ⟨a, b, c⟩ := ih rfl (g.gens rfl); exact ⟨.os a, b, c⟩
  | handled _ ih => intro f g; obtain ⟨a, b, c⟩ := ih rfl g; exact ⟨.handled a, b, c⟩
  | genState q _ ih =>
    intro f g
    obtain ⟨a, b, c⟩ := ih rfl g
    obtain ⟨st', q1, q2⟩ := seen_wide g q
    refine ⟨.genState q1 ?_, b, c⟩
    rw [q2]
    exact a
  | stack _ ih => intro f g; obtain ⟨a, b, c⟩ := ih rfl g; exact ⟨.stack a, b, c⟩
  | thread _ ih => intro f g; obtain ⟨a, b, c⟩ := ih rfl g; exact ⟨.thread a, b, c⟩
  | @newGen Γ p k s c e s' _ ih =>
    intro f g
    obtain ⟨a, b, c⟩ := ih rfl g.push
    rw [ov_push g.out] at a
    refine ⟨.newGen ?_, b, c⟩
    rw [show (ov T s).gens.size = s.gens.size from wide_size T s.gens]
    exact a
  | call _ _ ih1 ih2 =>
    intro f g
    obtain ⟨a1, b1, c1⟩ := ih1 rfl g
    obtain ⟨a2, b2, c2⟩ := ih2 rfl b1
    exact ⟨.call a1 a2, b2, c2⟩
  | callSusp _ ih =>
    intro f g
    obtain ⟨a, b, c⟩ := ih rfl g
    refine ⟨.callSusp a, b, fun v g l k c' p fs q => ?_⟩
    injection q with _ _ _ _ _ _ q
    rw [← q]
    exact split_app (c _ _ _ _ _ _ _ rfl) rfl
  | «yield» =>
    intro f g
    refine ⟨.yield, g, fun v g l k c' p fs q => ?_⟩
    injection q with _ _ _ _ _ _ q
    rw [← q]
    rfl
  | @resumeFresh Γ p g l k s c e₁ s₁ e s' q _ qt _ ih1 ih2 =>
    intro f gd
    have hg := free_of gd q rfl
    obtain ⟨a1, b1, c1⟩ := ih1 rfl (gd.set hg fun _ _ _ _ _ _ z => by cases z)
    obtain ⟨a2, b2, c2⟩ := ih2 rfl (b1.set hg c1.state)
    rw [ov_set hg] at a1 a2
    exact ⟨.resumeFresh (get_wide hg q) a1 qt a2, b2, c2⟩
  | @resumeSuspended Γ p g r l k s k₀ l₀ c₀ p₀ fs cl e₁ s₁ e s' q hr qt _ ih1 ih2 =>
    intro f gd
    cases hg : T g with
    | some x =>
      obtain ⟨h1, h2⟩ := gd.fine g x hg
      rw [q] at h2
      have h3 := Option.some.inj h2
      cases x with
      | suspended k' l' c' p' fs' cl' =>
        injection h3 with h4 _ _ _ _ _
        rw [h4] at hr
        exact (no_unsup hr).elim
      | _ => cases h1
    | none =>
      obtain ⟨a1, b1, c1⟩ := ih1 (gd.clean _ _ _ _ _ _ _ q hg) (gd.set hg fun _ _ _ _ _ _ z => by cases z)
      obtain ⟨a2, b2, c2⟩ := ih2 rfl (b1.set hg c1.state)
      rw [ov_set hg] at a1 a2
      exact ⟨.resumeSuspended (get_wide hg q) a1 qt a2, b2, c2⟩
  | resumeJustStarted q n _ ih =>
    intro f gd
    obtain ⟨a, b, c⟩ := ih rfl gd
    exact ⟨.resumeJustStarted (get_wide (free_of gd q rfl) q) n a, b, c⟩
  | resumeThrowFresh q _ ih =>
    intro f gd
    have hg := free_of gd q rfl
    obtain ⟨a, b, c⟩ := ih rfl (gd.set hg fun _ _ _ _ _ _ z => by cases z)
    rw [ov_set hg] at a
    exact ⟨.resumeThrowFresh (get_wide hg q) a, b, c⟩
  | resumeRunning q _ ih =>
    intro f gd
    obtain ⟨a, b, c⟩ := ih rfl gd
    exact ⟨.resumeRunning (get_wide (free_of gd q rfl) q) a, b, c⟩
  | resumeFinished q _ ih =>
    intro f gd
    obtain ⟨a, b, c⟩ := ih rfl gd
    exact ⟨.resumeFinished (get_wide (free_of gd q rfl) q) a, b, c⟩
  | segRet _ _ ih1 ih2 =>
    intro f gd
    obtain ⟨a1, b1, c1⟩ := ih1 rfl gd
    obtain ⟨a2, b2, c2⟩ := ih2 (split_tail f) b1
    exact ⟨.segRet a1 a2, b2, c2⟩
  | segGen _ _ ih1 ih2 => intro f gd; cases f
  | segSuspOut q _ ih =>
    intro f gd
    obtain ⟨a, b, c⟩ := ih rfl gd
    refine ⟨.segSuspOut q a, b, fun v g l k c' p fs z => ?_⟩
    injection z with _ _ _ _ _ _ z
    rw [← z]
    exact split_app (c _ _ _ _ _ _ _ rfl) f
  | segSuspGen q _ _ _ ih1 ih2 => intro f gd; rw [q] at f; cases f

theorem wakes_wide {T : Nat → Option GenState} {Γ : Ctx} {p : Pos} {g : Nat} {r : Resume} {s s' : Shared} {res : GenResult} (h : Wakes M Γ p g r s res s') (gd : Good T s) : Wakes M Γ p g r (ov T s) res (ov T s') ∧ Good T s' := by
  unfold Wakes at h ⊢
  cases q : s.gens[g]? with
  | none => rw [q] at h; exact h.elim
  | some st =>
    rw [q] at h
    cases st with
    | fresh c =>
      have hg := free_of gd q rfl
      rw [get_wide hg q]
      cases r with
      | send v =>
        by_cases hv : v = .none
        · subst hv
          obtain ⟨e₁, s₁, hr, h1, h2, rfl⟩ := h
          obtain ⟨a1, b1, c1⟩ := runs_wide hr rfl (gd.set hg fun _ _ _ _ _ _ z => by cases z)
          rw [ov_set hg] at a1
          exact ⟨⟨e₁, ov T s₁, a1, h1, h2, ov_set hg⟩, b1.set hg c1.state⟩
        · cases v <;> first | exact absurd rfl hv | exact ⟨⟨h.1, by rw [h.2]⟩, by rw [h.2]; exact gd⟩
      | throw x =>
        refine ⟨⟨h.1, ?_⟩, ?_⟩
        · rw [h.2]; exact ov_set hg
        · rw [h.2]; exact gd.set hg fun _ _ _ _ _ _ z => by cases z
    | suspended k₀ l₀ c₀ p₀ fs cl =>
      obtain ⟨e₁, s₁, hr, h1, h2, rfl⟩ := h
      cases hg : T g with
      | some x =>
        obtain ⟨k1, k2⟩ := gd.fine g x hg
        rw [q] at k2
        have k3 := Option.some.inj k2
        cases x with
        | suspended k' l' c' p' fs' cl' =>
          injection k3 with k4 _ _ _ _ _
          rw [k4] at hr
          exact (no_unsup hr).elim
        | _ => cases k1
      | none =>
        rw [get_wide hg q]
        obtain ⟨a1, b1, c1⟩ := runs_wide hr (gd.clean _ _ _ _ _ _ _ q hg) (gd.set hg fun _ _ _ _ _ _ z => by cases z)
        rw [ov_set hg] at a1
        exact ⟨⟨e₁, ov T s₁, a1, h1, h2, ov_set hg⟩, b1.set hg c1.state⟩
    | running =>
      rw [get_wide (free_of gd q rfl) q]
      exact ⟨⟨h.1, by rw [h.2]⟩, by rw [h.2]; exact gd⟩
    | finished =>
      rw [get_wide (free_of gd q rfl) q]
      exact ⟨⟨h.1, by rw [h.2]⟩, by rw [h.2]; exact gd⟩

/-- behind it: the same state, the sleeping ones as they were -/
def Over (T : Nat → Option GenState) (P : Shared → Prop) (s : Shared) : Prop := ∃ s1, s = ov T s1 ∧ Good T s1 ∧ P s1

theorem wp_wide {α : Type} {T : Nat → Option GenState} (Γ : Ctx) (t : Sem α) : ∀ (Q : α → Pos → Shared → Prop) (E : Value → Pos → Shared → Prop) (p : Pos) (s : Shared), Good T s → wp M Γ t Q E p s →
    wp M Γ t (fun a p' => Over T (Q a p')) (fun e p' => Over T (E e p')) p (ov T s) := by
  induction t with
  | pure a => intro Q E p s g h; exact ⟨s, rfl, g, h⟩
  | raise e => intro Q E p s g h; exact ⟨s, rfl, g, h⟩
  | unsupported _ => intro Q E p s _ h; exact h
  | finish _ => intro Q E p s _ h; exact h
  | register _ _ => intro Q E p s _ h; exact h
  | «yield» _ _ _ _ => intro Q E p s _ h; exact h
  | fork _ _ => intro Q E p s _ h; exact h
  | await _ _ _ _ _ => intro Q E p s _ h; exact h
  | rule _ k ih => intro Q E p s g h; exact ih () Q E p s g h
  | «at» p' k ih => intro Q E p s g h; exact ih () Q E p' s g h
  | point _ k ih => intro Q E p s g h; exact ih () Q E p s g h
  | load a _ k ih => intro Q E p s g h; obtain ⟨o, ho, h⟩ := h; exact ⟨o, ho, ih o Q E p s g h⟩
  | update a _ f k ih => intro Q E p s g h; exact ⟨h.1, ih () Q E p { s with heap := s.heap.update a f } (g.gens rfl) h.2⟩
  | loadIfAlive a k ih => intro Q E p s g h; exact ih _ Q E p s g h
  | alloc o k ih => intro Q E p s g h; exact ih _ Q E p { s with heap := s.heap.push o } (g.gens rfl) h
  | fresh k ih => intro Q E p s g h; exact ih _ Q E p { s with toks := s.toks + 1 } (g.gens rfl) h
  | ask k ih => intro Q E p s g h; exact ih _ Q E p s g h
  | choose src m k ih => intro Q E p s g h; exact ⟨h.1, ih _ Q E p { s with drawn := s.drawn.bump src } (g.gens rfl) h.2⟩
  | os q _ k ih => intro Q E p s g h; exact ih _ Q E p { s with os := (Os.step s.os q).1 } (g.gens rfl) h
  | call c hd _ _ k ih =>
    intro Q E p s g h
    obtain ⟨r, s', hr, h⟩ := h
    obtain ⟨a, b, _⟩ := runs_wide hr rfl g
    exact ⟨r, ov T s', a, ih r Q E p s' b h⟩
  | handled own k ih => intro Q E p s g h; exact ih _ Q E p s g h
  | genState n k ih =>
    intro Q E p s g h
    obtain ⟨st, hs, h⟩ := h
    obtain ⟨st', q1, q2⟩ := seen_wide g hs
    refine ⟨st', q1, ?_⟩
    rw [q2]
    exact ih _ Q E p s g h
  | newGen c k ih =>
    intro Q E p s g h
    have z := ih _ Q E p { s with gens := s.gens.push (.fresh c) } g.push h
    rw [ov_push g.out] at z
    show wp M Γ (k (ov T s).gens.size) _ _ p _
    rw [show (ov T s).gens.size = s.gens.size from wide_size T s.gens]
    exact z
  | resume n r _ k ih =>
    intro Q E p s g h
    obtain ⟨res, s', hw, h⟩ := h
    obtain ⟨a, b⟩ := wakes_wide hw g
    exact ⟨res, ov T s', a, ih res Q E p s' b h⟩
  | stack k ih => intro Q E p s g h; exact ih _ Q E p s g h
  | thread k ih => intro Q E p s g h; exact ih _ Q E p s g h

/-! ### the sleeping ones of a state -/
def sleepers (G : Array GenState) (i : Nat) : Option GenState := match G[i]? with
  | some x => if isSusp x then some x else none
  | none => none
def doze (G : Array GenState) : Array GenState := G.map dozed
theorem doze_get (G : Array GenState) (i : Nat) : (doze G)[i]? = (G[i]?).map dozed := by simp [doze]
theorem good_doze (s : Shared) : Good (sleepers s.gens) { s with gens := doze s.gens } := by
  refine ⟨fun i x e => ?_, fun i k l c p fs cl e n => ?_⟩
  · unfold sleepers at e
    cases q : s.gens[i]? with
    | none => rw [q] at e; cases e
    | some y =>
      rw [q] at e
      by_cases z : isSusp y = true
      · have e2 : (if isSusp y then some y else none) = some x := e
        rw [if_pos z] at e2
        cases e2
        exact ⟨z, by show (doze s.gens)[i]? = _; rw [doze_get, q]; rfl⟩
      · have e2 : (if isSusp y then some y else none) = some x := e
        rw [if_neg z] at e2
        cases e2
  · have e2 : (doze s.gens)[i]? = some (.suspended k l c p fs cl) := e
    rw [doze_get] at e2
    cases q : s.gens[i]? with
    | none => rw [q] at e2; cases e2
    | some y =>
      rw [q] at e2
      have e3 : dozed y = .suspended k l c p fs cl := Option.some.inj e2
      unfold sleepers at n
      rw [q] at n
      cases y with
      | suspended k' l' c' p' fs' cl' => cases n
      | _ => cases e3
theorem ov_doze (s : Shared) : ov (sleepers s.gens) { s with gens := doze s.gens } = s := by
  have e : wide (sleepers s.gens) (doze s.gens) = s.gens := arr_ext fun i => by
    rw [wide_get, doze_get]
    unfold sleepers
    cases q : s.gens[i]? with
    | none => rfl
    | some y =>
      show some ((if isSusp y then some y else none).getD (dozed y)) = some y
      by_cases z : isSusp y = true
      · rw [if_pos z]; rfl
      · rw [if_neg z]
        show some (dozed y) = some y
        rw [dozed_other (Bool.eq_false_iff.mpr z)]
  show ({ s with gens := wide (sleepers s.gens) (doze s.gens) } : Shared) = s
  rw [e]
/-- THE FRAME: what is shown of the dozing state holds of this one, the sleeping generators as they were -/
theorem any_asleep {α : Type} {A : Around} {t : Sem α} {Q : α → Shared → Prop} {E : Value → Shared → Prop} {s : Shared} (h : wpAny M A t Q E { s with gens := doze s.gens }) :
    wpAny M A t (fun a => Over (sleepers s.gens) (Q a)) (fun e => Over (sleepers s.gens) (E e)) s := fun Γ p hΓ => by
  have z := wp_wide (T := sleepers s.gens) Γ t _ _ p _ (good_doze s) (h Γ p hΓ)
  rw [ov_doze] at z
  exact z
theorem over_at {G : Array GenState} {P : Shared → Prop} {s' : Shared} {g : Nat} {x : GenState} (h : Over (sleepers G) P s') (hx : G[g]? = some x) (hs : isSusp x = true) : s'.gens[g]? = some x := by
  obtain ⟨s1, rfl, gd, _⟩ := h
  have e : sleepers G g = some x := by
    unfold sleepers
    rw [hx]
    show (if isSusp x then some x else none) = some x
    rw [if_pos hs]
  rw [ov_get, (gd.fine g x e).2, e]
  rfl
end
end K55
set_option maxHeartbeats 1000000
/-! A generator's body between its yields, seen from whoever walks it in a for. -/
namespace K55
open PySem PySem.Spec PyProof.Rows L2 GenW
open Sem (wp)

/-! ### waking -/
/-- what the next waking wants -/
def nextGo (M : Model) (A : Around) (R : GenEnd) (Y : Protocol) (n : Nat) (gs : GenState) (r : Resume) (s : Shared) : Prop := match n with
  | 0 => False
  | m + 1 => gs.Goes M A R Y m r s
theorem wake_any {M : Model} {A : Around} {R : GenEnd} {Y : Protocol} {n : Nat} {E : Value → Shared → Prop} {s : Shared} {g : Nat} {gs : GenState} {l : List Value} {α : Type} {k : GenResult → Sem α} {Q : α → Shared → Prop}
    (hg : s.gens[g]? = some gs) (hgo : gs.Goes M A R Y n (.send .none) (s.setGen g .running))
    (hR : ∀ x s1, R n (s.setGen g .running) x s1 → wpAny M A (k (End.ret x).result) Q E (s1.setGen g .finished))
    (hY : ∀ v s1 gs', gs'.bare = true → isSusp gs' = true → Y (n - 1) (s.setGen g .running) v s1 (nextGo M A R Y n gs') → wpAny M A (k (.yielded v)) Q E (s1.setGen g gs')) :
    wpAny M A (.resume g (.send .none) l k) Q E s := by
  intro Γ p hΓ
  rw [Sem.wp_resume]
  have step : ∀ (c : Code) (p1 : Pos) (t : Sem PySem.Fin) (fs : List Frame), Seg M A R Y n (s.setGen g .running) c t fs (s.setGen g .running) →
      ∃ e1 s1, Runs M (Γ.wake c p) p1 t fs (s.setGen g .running) e1 s1 ∧ e1.quiet = true ∧ wp M Γ (k e1.result) (fun a _ s' => Q a s') (fun e _ s' => E e s') p (s1.setGen g e1.genState) := by
    intro c p1 t fs hs
    obtain ⟨e1, s1, hr, he⟩ := seg_iff.mp hs (Γ.wake c p) p1 rfl (hΓ.wake c p)
    refine ⟨e1, s1, hr, ?_⟩
    cases e1 with
    | ret x => exact ⟨rfl, hR x s1 he Γ p hΓ⟩
    | susp v g0 l0 k0 c0 p0 fs0 =>
      refine ⟨he.1, hY v s1 _ (End.bare_of_quiet he.1) rfl ?_ Γ p hΓ⟩
      cases n with
      | zero => exact he.2
      | succ m => exact he.2
  cases gs with
  | fresh c =>
    obtain ⟨_, hs⟩ := hgo
    obtain ⟨e1, s1, a, b, d⟩ := step c p _ [] hs
    exact ⟨_, _, by unfold Wakes; rw [hg]; exact ⟨e1, s1, a, b, rfl, rfl⟩, d⟩
  | suspended k0 l0 c0 p0 fs0 cl =>
    obtain ⟨e1, s1, a, b, d⟩ := step c0 p0 _ fs0 hgo
    exact ⟨_, _, by unfold Wakes; rw [hg]; exact ⟨e1, s1, a, b, rfl, rfl⟩, d⟩
  | running => exact hgo.elim
  | finished => exact hgo.elim

/-- a generator's end: it returns nothing, F of the state at the last waking and the one at the end -/
def REn (F : Nat → Shared → Shared → Prop) : GenEnd := fun n s0 r s1 => (r = .ok (.ret .none) ∨ r = .ok .next) ∧ F n s0 s1
theorem next_any {P : Program} {w : World} {A : Around} {E : Value → Shared → Prop} {s : Shared} {a : Addr} {g n : Nat} {gs : GenState} {F : Nat → Shared → Shared → Prop} {Y : Protocol} {Q : Option Value → Shared → Prop}
    (hh : A.handled = none) (hl : s.heap.NoLimit) (hroom : A.depth < recursionLimit) (hg : s.heap.IsGen a g) (hgs : s.gens[g]? = some gs)
    (hgo : gs.Goes (model P w) A.in1 (REn F) Y n (.send .none) (s.setGen g .running))
    (hY : ∀ v s1 gs', gs'.bare = true → isSusp gs' = true → Y (n - 1) (s.setGen g .running) v s1 (nextGo (model P w) A.in1 (REn F) Y n gs') → Q (some v) (s1.setGen g gs'))
    (hP : ∀ s1, F n (s.setGen g .running) s1 → ∀ h', (∀ b o, s1.heap.get? b = some o → h'.get? b = some o) → Q none { s1.setGen g .finished with heap := h' }) :
    wpAny (model P w) A (pyNext (.ref a)) Q E s := by
  unfold pyNext
  refine wpAny_bind (wpAny_attempt (wpAny_callSpecial?_slot (name := Str.ofString "__next__") hg.typeIs slot_gen_next
    (wpAny_call_entry slot_gen_next hg.typeIs entry_gen_next ?_ (args_gen_next _))))
  show wpAny _ A.in1 (Builtin.Generator.genWake (.ref a) (.send .none)) _ _ s
  unfold Builtin.Generator.genWake
  refine wpAny_bind (wpAny_holding (wpAny_genNumber hg (wpAny_bind (wpAny_genState hgs ?_))))
  cases gs with
  | running => exact hgo.elim
  | finished => exact hgo.elim
  | _ =>
    refine wpAny_bind (wpAny_roomToWake hl hroom ?_)
    show wpAny _ A.in1 (.resume g (.send .none) [] _) _ _ s
    refine wake_any hgs hgo (fun x s1 hx => ?_) (fun v s1 gs' hb hs hv => wpAny_pure ⟨v, rfl, wpAny_pure (hY v s1 gs' hb hs hv)⟩)
    obtain ⟨hr, hp⟩ := hx
    have hres : End.result (.ret x) = .returned .none := by
      rcases hr with hr | hr <;> rw [hr] <;> rfl
    rw [hres]
    show wpAny _ A.in1 (newExc (.type "StopIteration") [] >>= _) _ _ _
    refine wpAny_bind ?_
    simp only [newExc, newTuple]
    refine wpAny_bind (wpAny_newObj_type ?_ (by size_fits))
    refine wpAny_bind (m := firstArgMember _ _) (wpAny_of_eq (a := Value.none) (by first | rfl | (simp only [firstArgMember]; rfl)) ?_)
    refine wpAny_newObj_type ?_ (by size_fits)
    simp only [raiseNew]
    refine wpAny_bind (wpAny_bind (wpAny_handled ?_))
    first | rw [show A.in1.handled = none from hh] | rw [hh]
    refine wpAny_throw ?_
    refine wpAny_bind (wpAny_isInstance (T := "StopIteration") (b := true) ⟨_, Heap.get?_push_size _ rfl, rfl⟩ isSubtype_stop ?_)
    exact wpAny_pure (hP s1 hp _ fun b o hb => Heap.get?_push_of_some _ (Heap.get?_push_of_some _ hb))
end K55
set_option maxHeartbeats 1000000
/-! The judgements of a generator's body that a for walks. -/
namespace K55
open PySem PySem.Spec PyProof.Rows L2 GenW
open Sem (wp)

/-! ### the older part of a heap -/
def cutH (n : Nat) (h : Heap) : Heap := { h with objs := h.objs.extract 0 n }
theorem cut_get {n : Nat} {h : Heap} {b : Nat} (hb : b < n) : (cutH n h).get? b = h.get? b := by
  have e : (h.objs.extract 0 n)[b]? = h.objs[b]? := by
    rw [Array.getElem?_extract]
    by_cases q : b < h.objs.size
    · have z : b < min n h.objs.size - 0 := by omega
      rw [if_pos z, Nat.zero_add]
    · have z : ¬ b < min n h.objs.size - 0 := by omega
      rw [if_neg z]
      exact (Array.getElem?_eq_none_iff.mpr (by omega)).symm
  show (match (h.objs.extract 0 n)[b]? with
    | some ⟨_, _, .freed, _⟩ => none
    | o => o) = _
  rw [e]
  rfl
theorem cut_size (n : Nat) (h : Heap) : (cutH n h).objs.size = min n h.objs.size := by
  show (h.objs.extract 0 n).size = _
  rw [Array.size_extract]
  omega
theorem of_cut {n : Nat} {h : Heap} {b : Nat} {o : Obj} (e : (cutH n h).get? b = some o) : b < n ∧ h.get? b = some o := by
  have h1 := Heap.lt_size e
  rw [cut_size] at h1
  have hb : b < n := Nat.lt_of_lt_of_le h1 (Nat.min_le_left _ _)
  exact ⟨hb, by rw [← cut_get hb]; exact e⟩
theorem fun_cut {n : Nat} {h base : Heap} : ∀ {l : List Env}, (∀ b ∈ frs l, b < n) → h.FunFrames base l → (cutH n h).FunFrames base l
  | [], _, _ => trivial
  | env :: r, hb, hl => by
    obtain ⟨hk, ⟨L, o, hf, hn, ho, hd⟩, hr⟩ := hl
    have hL : L < n := hb L (by unfold frs; rw [List.filterMap_cons, hf]; exact List.mem_cons_self)
    exact ⟨hk, ⟨L, o, hf, hn, by rw [cut_get hL]; exact ho, hd⟩, fun_cut (fun b z => hb b (by unfold frs; rw [List.filterMap_cons, hf]; exact List.mem_cons_of_mem _ z)) hr⟩

/-! ### a generator and its walker -/
structure Gn where
  X : Cx
  N : List Str
  qual : Str
  scope : Scope
  f : Addr
  cd : Value
  L : Addr
  own : List (Addr × Obj)
  tot : Nat
  /-- what its walker has at the i-th waking -/
  CI : Nat → Shared → Hp → Prop
  /-- the i-th item -/
  YI : Nat → V → Hp → Hp → Prop
def Gn.env (G : Gn) : Env := envOfC G.qual G.scope G.L G.f G.cd
def Gn.cx (G : Gn) (s : Shared) (H : Hp) : Cx where
  prog := G.X.prog
  w := G.X.w
  K := G.X.K
  mg := G.X.mg
  base := G.X.base
  A := G.X.A.in1.deeper G.env
  N := G.N
  s_0 := { s with heap := cutH G.L s.heap }
  H_0 := H
  env := G.env
  outer := G.X.stack
  stack := G.env :: G.X.stack
  ex := []
  fn := fun _ => true
  calm := true
  pn := G.own
  xe := fun _ _ => False
structure Gn.Ok (G : Gn) : Prop where
  kind : G.scope.kind = .function
  noc : ∀ y ∈ G.scope.names, y.2 ≠ .cell ∧ y.2 ≠ .free
  nol : G.env.cells = []
  hd : G.X.A.handled = none
  at_ : ∀ i s H, G.CI i s H → Env0 G.X.prog G.X.w G.X.K G.X.mg G.X.base G.X.A G.X.stack s H ∧ G.L < s.heap.objs.size
  bL : G.X.base.objs.size ≤ G.L
  fL : ∀ b ∈ frs G.X.stack, b < G.L
  ownL : ∀ p ∈ G.own, G.L < p.1 ∧ ∀ v, p.2.data ≠ .cell v
theorem no_cell {G : Gn} (h : G.Ok) {x : Str} : ¬ (G.env.kindOf x = some .cell ∨ G.env.kindOf x = some .free) := by
  intro z
  have z2 : G.scope.names.lookup x = some .cell ∨ G.scope.names.lookup x = some .free := z
  rcases z2 with z2 | z2
  · exact (h.noc _ (PySem.mem_of_lookup z2)).1 rfl
  · exact (h.noc _ (PySem.mem_of_lookup z2)).2 rfl
theorem cell_no {G : Gn} (h : G.Ok) {x : Str} {c : Addr} (e : G.env.cells.lookup x = some c) : False := by
  rw [h.nol] at e
  cases e
theorem Gn.ok_cx {G : Gn} (h : G.Ok) {i : Nat} {s : Shared} {H : Hp} (c : G.CI i s H) : (G.cx s H).Ok := by
  obtain ⟨e, lt⟩ := h.at_ i s H c
  exact {
    mod := e.mod
    kind := h.kind
    glob := rfl
    blt := rfl
    above := by
      show (cutH G.L s.heap).objs.size ≤ G.L
      rw [cut_size]
      omega
    inj := fun x y c h1 _ => (cell_no h h1).elim
    has := fun x z => (no_cell h z).elim
    cab := fun x c _ h1 => (cell_no h h1).elim
    hd := fun _ => h.hd
    frames := Around.frames_deeper e.frames
    stk := .inr ⟨rfl, rfl⟩
    exf := fun b z => absurd (show b ∈ ([] : List Addr) from z) List.not_mem_nil
    bs := fun b o eb => by
      obtain ⟨h1, h2⟩ := e.bs b o eb
      exact ⟨(cut_get (Nat.lt_of_lt_of_le (Heap.lt_size eb) h.bL)).trans h1, h2⟩
    bsz := by
      have h1 := e.bsz
      have h2 := h.bL
      show G.X.base.objs.size ≤ (cutH G.L s.heap).objs.size
      rw [cut_size]
      omega
    noex := fun b o _ z => absurd (show b ∈ ([] : List Addr) from z) List.not_mem_nil
    exfs := fun b z => absurd (show b ∈ ([] : List Addr) from z) List.not_mem_nil
    funs := fun_cut h.fL e.funs
    frf := e.frf }

/-- its frame, told by slots -/
def Gn.Fr (G : Gn) (τ : L2.St) (h : Heap) : Prop := ∃ m, h.Ns G.L m ∧ ∀ (i : Nat) (x : Str) (v : V), G.N[i]? = some x → τ[i]? = some (some v) → Vis G.env.scope x → ∃ u, RelV v u ∧ Look G.env h m x u
theorem Gn.Fr.at {G : Gn} (h : G.Ok) {τ : L2.St} {h1 h2 : Heap} (f : G.Fr τ h1) (k : ∀ o, h1.get? G.L = some o → h2.get? G.L = some o) : G.Fr τ h2 := by
  obtain ⟨m, ⟨o, es, ep, ho, r⟩, hl⟩ := f
  refine ⟨m, ⟨o, es, ep, k o ho, r⟩, fun i x v e1 e2 e3 => ?_⟩
  obtain ⟨u, r, l⟩ := hl i x v e1 e2 e3
  refine ⟨u, r, ?_⟩
  rcases l with l | ⟨z, _⟩
  · exact .inl l
  · exact (no_cell h z).elim
/-- it stands ready to run -/
theorem Gn.inv {G : Gn} (h : G.Ok) {i : Nat} {s : Shared} {H : Hp} (c : G.CI i s H) {ip : List (Addr × Obj)} {τ : L2.St} (hf : G.Fr τ s.heap) (hL : H G.L = none) (hl : τ.length = G.N.length)
    (hp : ∀ p ∈ G.own ++ ip, s.heap.get? p.1 = some p.2 ∧ H p.1 = none ∧ G.L < p.1 ∧ ∀ v, p.2.data ≠ .cell v) : Inv (G.cx s H) ip τ H s := by
  obtain ⟨e, lt⟩ := h.at_ i s H c
  exact {
    ok := Gn.ok_cx h c
    os := rfl
    bare := e.bare
    base := Un.kept fun b o z => (of_cut z).2
    loc := hf
    cell := fun x c h1 => (cell_no h h1).elim
    free := hL
    freeC := fun x c h1 => (cell_no h h1).elim
    pin := fun p hm => by
      obtain ⟨a1, a2, a3, a4⟩ := hp p hm
      refine ⟨a1, a2, Nat.ne_of_gt a3, fun z => ?_, a4⟩
      exact Nat.lt_asymm a3 (h.fL p.1 z)
    hok := e.hok
    len := hl }
/-- running behind the i-th waking, which found the state s0 -/
def Gn.Run (G : Gn) (i : Nat) (ip : List (Addr × Obj)) (τ : L2.St) (s0 s : Shared) : Prop := ∃ H, G.CI i s0 H ∧ (∀ p ∈ ip, G.L < p.1) ∧ Inv (G.cx s0 H) ip τ H s
/-- what the walker is told at an item -/
def Gn.Y (G : Gn) : Protocol := fun n s0 v s kap => ∃ (i : Nat) (H : Hp) (x : V) (H1 : Hp) (own : List (Addr × Obj)), n + i = G.tot ∧ 1 ≤ n ∧ G.CI i s0 H ∧ G.YI i x H H1 ∧ RelV x v ∧
  s.os = s0.os ∧ AllBare s.gens ∧ HOk G.X.prog G.X.w H1 s.heap ∧ Un (frs G.X.stack) [] H H1 (cutH G.L s0.heap) s.heap ∧ (∀ p ∈ G.own, p ∈ own) ∧ (∀ p ∈ own, s.heap.get? p.1 = some p.2 ∧ H1 p.1 = none ∧ G.L ≤ p.1 ∧ ∀ v, p.2.data ≠ .cell v) ∧
  ∀ s' H', G.CI (i + 1) s' H' → (∀ p ∈ own, s'.heap.get? p.1 = some p.2 ∧ H' p.1 = none) → kap (.send .none) s'
/-- .. at the end -/
def Gn.F (G : Gn) (n : Nat) (s0 s : Shared) : Prop := ∃ (H H1 : Hp), n = 1 ∧ G.CI G.tot s0 H ∧ H1 = H ∧ s.os = s0.os ∧ AllBare s.gens ∧ HOk G.X.prog G.X.w H1 s.heap ∧ Un (frs G.X.stack) [] H H1 (cutH G.L s0.heap) s.heap
/-- where its code stands -/
structure Gn.Pos (G : Gn) (c : Code) (fs : List Frame) (gd : Bool → Bool) : Prop where
  over : G.X.A.in1.over c fs = G.X.A.in1.deeper G.env
  split : splitAtGen fs = none
  guard : fs.any Frame.guarded = false
  gd : gd false = false
abbrev Gn.Seg (G : Gn) (n : Nat) (s0 : Shared) (c : Code) (t : Sem PySem.Fin) (fs : List Frame) (s : Shared) : Prop :=
  PySem.Seg (model G.X.prog G.X.w) G.X.A.in1 (REn G.F) G.Y n s0 c t fs s
section
variable {G : Gn}
theorem Gn.pos_loop {c c' : Code} {fs : List Frame} {gd : Bool → Bool} {k : Result → Sem PySem.Fin} {l kp : List Value} {p : PySem.Pos} (g : G.Pos c fs gd) (hw : c'.weight = 0) (hu : c'.cUnits = 0) :
    G.Pos c' (.ret k none (gd false) l c p kp :: fs) id where
  over := (over_loop hw hu).trans g.over
  split := by
    show (splitAtGen fs).map _ = none
    rw [g.split]
    rfl
  guard := by
    show (gd false || fs.any Frame.guarded) = false
    rw [g.gd, g.guard]
    rfl
  gd := rfl

/-! ### yield -/
theorem Gn.seg_item (h : G.Ok) {e : Expr} {yp pos : PySem.Pos} {te : TE} (he : ∀ s0 H, PE (G.cx s0 H) e te) {i n : Nat} {ip : List (Addr × Obj)} {τ : L2.St} {s0 s : Shared} {c : Code} {fs : List Frame} {K : Flow → Sem PySem.Fin} {J : Value → Sem PySem.Fin} {gd : Bool → Bool} {lv : List Value → List Value}
    (g : G.Pos c fs gd) (hn : n + 1 + i = G.tot + 1) (hlt : i < G.tot) (hr : G.Run i ip τ s0 s) (ht : ∀ H, te τ H fun x H1 => G.YI i x H H1)
    (k : ∀ s', G.Run (i + 1) ip τ s' s' → G.Seg n s' c (K .next) fs s') (hco : G.env.scope.isCoroutine = false) (hi : interactive G.env = false) :
    G.Seg (n + 1) s0 c ((exec (.Expr (.Yield (some e) yp) pos) G.env).wrap K J gd lv) fs s := by
  obtain ⟨H, hc, hip, I⟩ := hr
  refine seg_Expr_Yield g.split g.gd g.guard ?_ hco hi
  rw [g.over]
  refine wpAny_mono ((he s0 H).run ip s τ H _ I (ht H)) (fun v s1 hv => ?_) fun x s' hx => hx.elim
  obtain ⟨x, H1, I1, rv, q⟩ := hv
  intro kap hk
  obtain ⟨m, hm, hl⟩ := id I1.loc
  obtain ⟨o, es, ep, ho, hd, hsk⟩ := id hm
  have ownAt : ∀ p ∈ G.own ++ ip ++ [(G.L, o)], s1.heap.get? p.1 = some p.2 ∧ H1 p.1 = none ∧ G.L ≤ p.1 ∧ ∀ v, p.2.data ≠ .cell v := fun p hp => by
    rcases List.mem_append.mp hp with hp | hp
    · obtain ⟨a1, a2, _, _, a5⟩ := I1.pin p hp
      refine ⟨a1, a2, ?_, a5⟩
      rcases List.mem_append.mp hp with hp | hp
      · exact Nat.le_of_lt (h.ownL p hp).1
      · exact Nat.le_of_lt (hip p hp)
    · rw [List.mem_singleton.mp hp]
      exact ⟨ho, I1.free, Nat.le_refl _, fun v z => by rw [show (o.data = .cell v) from z] at hd; cases hd⟩
  refine ⟨i, H, x, H1, G.own ++ ip ++ [(G.L, o)], (by omega), (by omega), hc, q, rv, I1.os, I1.bare, I1.hok, I1.base, fun p hp => List.mem_append_left _ (List.mem_append_left _ hp), ownAt, fun s' H' hc' hown => hk .none s' ?_⟩
  have hL := hown (G.L, o) (List.mem_append_right _ (List.mem_singleton.mpr rfl))
  refine k s' ⟨H', hc', hip, Gn.inv h hc' (Gn.Fr.at h (h1 := s1.heap) I1.loc fun o' ho' => ?_) hL.2 I1.len fun p hp => ?_⟩
  · have e : some o' = some o := ho'.symm.trans ho
    rw [Option.some.inj e]
    exact hL.1
  · obtain ⟨a1, a2, a3, a4⟩ := ownAt p (List.mem_append_left _ hp)
    obtain ⟨b1, b2⟩ := hown p (List.mem_append_left _ hp)
    refine ⟨b1, b2, ?_, a4⟩
    rcases List.mem_append.mp hp with hp | hp
    · exact (h.ownL p hp).1
    · exact hip p hp
end
end K55
set_option maxHeartbeats 1000000
/-! A for over a range in such a generator's body. -/
namespace K55
open PySem PySem.Spec PyProof.Rows L2 GenW
open Sem (wp)

section
variable {P : Program} {w : World} {A : Around} {R : GenEnd} {Y : Protocol} {n : Nat} {s0 s : Shared} {fs : List Frame} {env : Env}
/-- what a loop's code does with an exception -/
abbrev loopExc (env : Env) (e : Value) : Sem PySem.Fin := (do noteFrame e env; theTreesLotGoes e : Sem Unit).wrap (fun _ => .raise e) .raise id id
abbrev loopFlow (c : Code) (f : Flow) : Sem PySem.Fin := match f with
  | .next | .cont => .pure (.again c)
  | .brk => .pure (.done .next)
  | .ret v => .pure (.done (.ret v))
theorem seg_turn {tg : Expr} {it : Value} {body : List Stmt}
    (h : wpAny (model P w) (A.over (.forLoop tg it body [] env) fs) (pyNext it) (fun r s1 => match r with
        | none => Seg (model P w) A R Y n s0 (.forLoop tg it body [] env) (.pure (.again (.block [] env))) fs s1
        | some v => wpAny (model P w) (A.over (.forLoop tg it body [] env) fs) (letOwnedTupleGo tg it v) (fun _ s2 => wpAny (model P w) (A.over (.forLoop tg it body [] env) fs) (assign tg env v) (fun _ s3 =>
            Seg (model P w) A R Y n s0 (.forLoop tg it body [] env) ((execs body env).wrap (loopFlow (.forLoop tg it body [] env)) (loopExc env) id id) fs s3) (fun _ _ => False) s2) (fun _ _ => False) s1) (fun _ _ => False) s) :
    Seg (model P w) A R Y n s0 (.forLoop tg it body [] env) ((model P w).den (.forLoop tg it body [] env)) fs s := by
  show Seg _ A R Y n s0 _ ((forTurn tg it body [] env).onRaise (fun x => do noteFrame x env; theTreesLotGoes x)) fs s
  unfold forTurn
  rw [Sem.onRaise_eq_wrap]
  refine seg_bind_wrap (wpAny_standAt ?_)
  refine seg_bind_wrap (wpAny_onRaise (wpAny_mono h (fun r s1 h1 => ?_) fun _ _ z => z.elim))
  cases r with
  | none => exact h1
  | some v =>
    refine seg_bind_wrap (wpAny_mono h1 (fun _ s2 h2 => ?_) fun _ _ z => z.elim)
    refine seg_bind_wrap (wpAny_mono h2 (fun _ s3 h3 => ?_) fun _ _ z => z.elim)
    rw [Sem.bind_eq_wrap', Sem.wrap_wrap]
    rw [Sem.wrap_congr (execs body env) _ _ (K' := loopFlow (.forLoop tg it body [] env)) (H' := loopExc env) (fun f => by cases f <;> rfl)
      (fun e => by
        show (do noteFrame e env; theTreesLotGoes e : Sem Unit).bind (fun _ => .raise e) = _
        rw [Sem.bind_eq_wrap])]
    exact h3
theorem seg_block_nil {c : Code} {k : Result → Sem PySem.Fin} {hd : Option Value} {g : Bool} {l kp : List Value} {c1 : Code} {p1 : Pos} (h : Seg (model P w) A R Y n s0 c1 (k (.ok .next)) fs s) :
    Seg (model P w) A R Y n s0 c (.pure (.again (.block [] env))) (.ret k hd g l c1 p1 kp :: fs) s := by
  refine seg_again rfl ?_
  exact seg_leaf (.ok .next) h
end

section
variable {G : Gn}
theorem Gn.seg_for (h : G.Ok) {x : Str} {px pos : PySem.Pos} {j m : Nat} {iter : Expr} {body : List Stmt} {wi : TI} (hi : ∀ s0 H, PI (G.cx s0 H) (.Name x px) iter wi) (hg : ∀ s0 H, PG (G.cx s0 H) (.Name x px) (gName j))
    (Z : Nat → Nat → L2.St → Prop)
    (hb : ∀ k i τ ip n s0 s c fs K J gd lv, k < m → Z k i τ → G.Pos c fs gd → n + i = G.tot + 1 → G.Run i ip (τ.set j (some (.int (k : Int)))) s0 s →
      (∀ i' τ' n' s0' s', Z (k + 1) i' τ' → n' + i' = G.tot + 1 → G.Run i' ip τ' s0' s' → G.Seg n' s0' c (K .next) fs s') → G.Seg n s0 c ((execs body G.env).wrap K J gd lv) fs s)
    {i n : Nat} {ip : List (Addr × Obj)} {τ : L2.St} {s0 s : Shared} {c : Code} {fs : List Frame} {K : Flow → Sem PySem.Fin} {J : Value → Sem PySem.Fin} {gd : Bool → Bool} {lv : List Value → List Value}
    (g : G.Pos c fs gd) (hn : n + i = G.tot + 1) (hr : G.Run i ip τ s0 s) (hz : Z 0 i τ) (hw : ∀ H (Q : It → Hp → Prop), Q (Itr 0 m) H → wi τ H Q)
    (hd : ∀ i' τ' n' s0' s', Z m i' τ' → n' + i' = G.tot + 1 → G.Run i' ip τ' s0' s' → G.Seg n' s0' c (K .next) fs s')
    (hs : ∀ v, foldedSetIterable iter G.env v = pure v) :
    G.Seg n s0 c ((exec (.For (.Name x px) iter body [] pos) G.env).wrap K J gd lv) fs s := by
  obtain ⟨H, hc, hip, I⟩ := hr
  rw [exec_For]
  refine seg_bind_wrap (wpAny_standAt ?_)
  refine seg_bind_wrap ?_
  rw [g.over]
  refine wpAny_mono ((hi s0 H).run ip s τ H (fun J' H' => J' = Itr 0 m ∧ H' = H) I (hw H _ ⟨rfl, rfl⟩)) (fun v s1 hv => ?_) fun _ _ z => z.elim
  refine seg_bind_wrap (wpAny_of_eq (hs v) ?_)
  refine seg_bind_wrap (wpAny_standAt ?_)
  refine seg_bind_wrap (wpAny_holding ?_)
  rw [g.over]
  refine wpAny_mono hv (fun u s2 hu => ?_) fun _ _ z => z.elim
  obtain ⟨it, fp, tn, J', H2, rfl, I2, T, st2, f2, rfl, rfl⟩ := hu
  refine seg_call fun p => ?_
  have gl := fun (kk : Result → Sem PySem.Fin) => Gn.pos_loop (k := kk) (c' := .forLoop (.Name x px) (.ref it) body [] G.env) (l := lv []) (kp := []) (p := p) g rfl rfl
  -- what is known of the iterator's objects whatever the heap
  have fixed : ∀ b ∈ fp, b ≠ G.L ∧ b ∉ frs G.X.stack ∧ G.L < b ∧ ∀ q ∈ G.own ++ ip, q.1 ≠ b := fun b hb' => by
    obtain ⟨_, h2, h3, h4, _, h6⟩ := f2 b hb'
    have h7 : (cutH G.L s0.heap).objs.size ≤ b := by
      rcases h4 with z | z
      · exact absurd (show b ∈ ([] : List Addr) from z) List.not_mem_nil
      · exact z
    have h8 : G.L ≤ b := by
      rw [cut_size] at h7
      have h9 := (h.at_ i s0 H2 hc).2
      have h10 : min G.L s0.heap.objs.size = G.L := Nat.min_eq_left (Nat.le_of_lt h9)
      rw [h10] at h7
      exact h7
    exact ⟨h2, h3, Nat.lt_of_le_of_ne h8 (Ne.symm h2), h6⟩
  have loop : ∀ (r k i n : Nat) (τ : L2.St) (s0 s : Shared) (H : Hp), k + r = m → n + i = G.tot + 1 → Z k i τ → G.CI i s0 H → Inv (G.cx s0 H) ip τ H s → tn k s.heap → (∀ b ∈ fp, H b = none) →
      G.Seg n s0 (.forLoop (.Name x px) (.ref it) body [] G.env) ((model G.X.prog G.X.w).den (.forLoop (.Name x px) (.ref it) body [] G.env))
        (.ret (fun r => ((match r with
          | .ok f => (.pure f : Sem Flow)
          | .error e => .raise e).onRaise fun (x : Value) => do
            if (← field x 1) == Value.none then unsupported "frame.own-activation:exception-without-traceback"
            setFlight x G.env.frame).wrap K J gd lv) none (gd false) (lv []) c p [] :: fs) s := by
    intro r
    induction r with
    | zero =>
      intro k i n τ s0 s H hk hn hz hc I st fr
      obtain rfl : k = m := by omega
      refine seg_turn ?_
      rw [(gl _).over]
      have fpk : ∀ b ∈ fp, FpOk (G.cx s0 H) ip H b := fun b hb' => by
        obtain ⟨a1, a2, a3, a4⟩ := fixed b hb'
        refine ⟨fr b hb', a1, a2, .inr ?_, fun x c h1 => (cell_no h h1).elim, a4⟩
        show (cutH G.L s0.heap).objs.size ≤ b
        rw [cut_size]
        exact Nat.le_trans (Nat.min_le_left _ _) (Nat.le_of_lt a3)
      refine wpAny_mono (T.done (G.cx s0 H) rfl rfl rfl rfl k ip s τ H (fun _ _ => False) I fpk st (Nat.le_refl _)) (fun r s1 hr1 => ?_) fun _ _ z => z.elim
      obtain ⟨rfl, I1⟩ := hr1
      exact seg_block_nil (hd i τ n s0 s1 hz hn ⟨H, hc, hip, I1⟩)
    | succ r ih =>
      intro k i n τ s0 s H hk hn hz hc I st fr
      refine seg_turn ?_
      rw [(gl _).over]
      have fpk : ∀ b ∈ fp, FpOk (G.cx s0 H) ip H b := fun b hb' => by
        obtain ⟨a1, a2, a3, a4⟩ := fixed b hb'
        refine ⟨fr b hb', a1, a2, .inr ?_, fun x c h1 => (cell_no h h1).elim, a4⟩
        show (cutH G.L s0.heap).objs.size ≤ b
        rw [cut_size]
        exact Nat.le_trans (Nat.min_le_left _ _) (Nat.le_of_lt a3)
      refine wpAny_mono (T.item (G.cx s0 H) rfl rfl rfl rfl k ip s τ H (fun _ _ => False) I fpk st (show k < m by omega)) (fun r1 s1 hr1 => ?_) fun _ _ z => z.elim
      obtain ⟨u, rfl, hu⟩ := hr1
      refine wpAny_mono hu (fun _ s2 h2 => ?_) fun _ _ z => z.elim
      obtain ⟨v, H', I2, rv, ⟨eH, ev⟩, st2, fr2⟩ := h2
      subst eH ev
      have I3 := I2.pinned (fun b hb' => ⟨fr2 b hb', (fpk b hb').2⟩) (T.obj _ _ st2)
      refine wpAny_mono ((hg s0 H').run _ s2 τ H' (.int (0 + (k : Int))) u (fun σ3 H3 => σ3 = τ.set j (some (.int (k : Int))) ∧ H3 = H') I3 rv ⟨by rw [Int.zero_add], rfl⟩) (fun _ s3 h3 => ?_) fun _ _ z => z.elim
      obtain ⟨σ3, H3, I4, rfl, rfl⟩ := h3
      have hip2 : ∀ q ∈ ip ++ pinsAt fp s2.heap, G.L < q.1 := fun q hq => by
        rcases List.mem_append.mp hq with z | z
        · exact hip q z
        · exact (fixed q.1 (of_pinsAt z).1).2.2.1
      refine hb k i τ (ip ++ pinsAt fp s2.heap) n s0 s3 _ _ _ _ _ _ (by omega) hz (gl _) hn ⟨H3, hc, hip2, I4⟩ fun i' τ' n' s0' s' hz' hn' hr' => ?_
      obtain ⟨H5, hc5, _, I5⟩ := hr'
      refine seg_again rfl (ih (k + 1) i' n' τ' s0' s' H5 (by omega) hn' hz' hc5 I5.unpinned (T.keep _ _ _ st2 fun b hb' o e => ?_) fun b hb' => ?_)
      · exact (I5.pin (b, o) (List.mem_append_right _ (List.mem_append_right _ (mem_pinsAt hb' e)))).1
      · obtain ⟨o, e, _⟩ := T.obj _ _ st2 b hb'
        exact (I5.pin (b, o) (List.mem_append_right _ (List.mem_append_right _ (mem_pinsAt hb' e)))).2.1
  exact loop m 0 i n τ s0 s2 H2 (Nat.zero_add _) hn hz hc I2 st2 fun b hb' => (f2 b hb').1
end
end K55
set_option maxHeartbeats 1000000
/-! for x in o.m(), o.m a generator method: the walker's side. -/
namespace K55
open PySem PySem.Spec PyProof.Rows L2 GenW
open Sem (wp)

section
variable {X : Cx} {pins : List (Addr × Obj)} {σ : L2.St} {H : Hp} {s : Shared}
theorem inv_gens (I : Inv X pins σ H s) {g : Array GenState} (hg : AllBare g) : Inv X pins σ H { s with gens := g } :=
  I.call' (ch := []) rfl (Un.kept fun _ _ z => z) I.hok hg fun b z => absurd z List.not_mem_nil
theorem bare_doze {G : Array GenState} (h : AllBare G) : AllBare (doze G) := fun y hy => by
  obtain ⟨x, hx, rfl⟩ := Array.mem_map.mp (show y ∈ G.map dozed from hy)
  rw [dozed_bare]
  exact h x hx
theorem bare_ov {T : Nat → Option GenState} {s1 : Shared} (h : AllBare s1.gens) (gd : Good T s1) : AllBare (ov T s1).gens := fun y hy => by
  obtain ⟨i, hi, e⟩ := Array.mem_iff_getElem.mp hy
  have q : (ov T s1).gens[i]? = some y := by rw [Array.getElem?_eq_getElem hi, e]
  rw [ov_get] at q
  cases hT : T i with
  | none =>
    rw [hT] at q
    cases h1 : s1.gens[i]? with
    | none => rw [h1] at q; cases q
    | some z =>
      rw [h1] at q
      have e2 : z = y := Option.some.inj q
      rw [← e2]
      exact h z (Array.mem_of_getElem? h1)
  | some x =>
    have h2 := (gd.fine i x hT).2
    rw [hT, h2] at q
    have e2 : x = y := Option.some.inj q
    rw [← e2, ← dozed_bare]
    exact h _ (Array.mem_of_getElem? h2)
theorem sp_ov {D : Ends} {T : Nat → Option GenState} {f : Flow} {s1 : Shared} (h : SP X pins D f s1) (gd : Good T s1) : SP X pins D f (ov T s1) := by
  cases f with
  | next => obtain ⟨a, b, I, q⟩ := h; exact ⟨a, b, inv_gens I (bare_ov I.bare gd), q⟩
  | brk => obtain ⟨a, b, I, q⟩ := h; exact ⟨a, b, inv_gens I (bare_ov I.bare gd), q⟩
  | cont => obtain ⟨a, b, I, q⟩ := h; exact ⟨a, b, inv_gens I (bare_ov I.bare gd), q⟩
  | ret v => obtain ⟨x, a, b, I, r, q⟩ := h; exact ⟨x, a, b, inv_gens I (bare_ov I.bare gd), r, q⟩
/-- a block, a target, with a generator asleep -/
theorem pss_asleep {body : List Stmt} {t : TS} {D : Ends} {g : Nat} {gs : GenState} (hx : X.xe = fun _ _ => False) (h : PSs X body t) (I : Inv X pins σ H s) (ht : t D σ H) (hg : s.gens[g]? = some gs) (hs : isSusp gs = true) :
    wpAny (model X.prog X.w) X.A (execs body X.env) (fun f s' => SP X pins D f s' ∧ s'.gens[g]? = some gs) (fun _ _ => False) s := by
  have z := any_asleep (h.run pins _ σ H D (inv_gens I (bare_doze I.bare)) ht)
  rw [hx] at z
  refine wpAny_mono z (fun f s' q => ⟨?_, over_at q hg hs⟩) fun e s' q => ?_
  · obtain ⟨s1, rfl, gd, q⟩ := q
    exact sp_ov q gd
  · obtain ⟨_, _, _, q⟩ := q
    exact q
theorem pg_asleep {tg : Expr} {t : TG} {v : V} {u : Value} {Q : L2.St → Hp → Prop} {g : Nat} {gs : GenState} (hx : X.xe = fun _ _ => False) (h : PG X tg t) (I : Inv X pins σ H s) (r : RelV v u) (ht : t v σ H Q) (hg : s.gens[g]? = some gs) (hs : isSusp gs = true) :
    wpAny (model X.prog X.w) X.A (assign tg X.env u) (fun _ s' => (∃ σ' H', Inv X pins σ' H' s' ∧ Q σ' H') ∧ s'.gens[g]? = some gs) (fun _ _ => False) s := by
  have z := any_asleep (h.run pins _ σ H v u Q (inv_gens I (bare_doze I.bare)) r ht)
  rw [hx] at z
  refine wpAny_mono z (fun f s' q => ⟨?_, over_at q hg hs⟩) fun e s' q => ?_
  · obtain ⟨s1, rfl, gd, a, b, J, q⟩ := q
    exact ⟨a, b, inv_gens J (bare_ov J.bare gd), q⟩
  · obtain ⟨_, _, _, q⟩ := q
    exact q
end

/-- behind a run that knew of the older objects alone -/
theorem inv_past {X : Cx} {pins : List (Addr × Obj)} {σ0 σ : L2.St} {H0 H H1 : Hp} {sc s s1 : Shared} (Ic : Inv X pins σ0 H0 sc) (I : Inv X pins σ H s) (un : Un (frs X.stack) [] H H1 (cutH sc.heap.objs.size s.heap) s1.heap) (os : s1.os = s.os)
    (hok : HOk X.prog X.w H1 s1.heap) (hb : AllBare s1.gens) : Inv X pins σ H1 s1 := by
  have nil : ∀ b : Addr, b ∉ ([] : List Addr) := fun b z => absurd z List.not_mem_nil
  have old : ∀ (b : Nat), b ∉ (List.range s.heap.objs.size).filter (fun b => decide (sc.heap.objs.size ≤ b)) → ∀ o, s.heap.get? b = some o → (cutH sc.heap.objs.size s.heap).get? b = some o := fun b hb o e => by
    have h1 : b < s.heap.objs.size := Heap.lt_size e
    have h2 : b < sc.heap.objs.size := by
      by_cases q : b < sc.heap.objs.size
      · exact q
      · exact absurd (List.mem_filter.mpr ⟨List.mem_range.mpr h1, decide_eq_true (Nat.le_of_not_lt q)⟩) hb
    rw [cut_get h2]
    exact e
  refine I.call' (ch := (List.range s.heap.objs.size).filter (fun b => decide (sc.heap.objs.size ≤ b))) os
    ⟨fun b o e n hf hc => un.keep b o (old b hc o e) n hf (nil b), fun b o e n hf hc => un.slot b o (old b hc o e) n hf (nil b), fun b o e n hc => un.free b o (old b hc o e) n (nil b), fun b o e hc => un.there b o (old b hc o e) (nil b), un.tups, un.frzs, un.tbls⟩ hok hb fun b hm => ?_
  have hL : sc.heap.objs.size ≤ b := of_decide_eq_true (List.mem_filter.mp hm).2
  refine ⟨.inr (Nat.le_trans Ic.sz hL), Nat.ne_of_gt (Nat.lt_of_lt_of_le Ic.lt hL), fun x c e z => ?_, fun p hp z => ?_⟩
  · obtain ⟨v, oc, ho, _⟩ := Ic.cell x c e
    rw [z] at ho
    exact absurd (Nat.lt_of_lt_of_le (Heap.lt_size ho) hL) (Nat.lt_irrefl _)
  · have ho := (Ic.pin p hp).1
    rw [z] at ho
    exact absurd (Nat.lt_of_lt_of_le (Heap.lt_size ho) hL) (Nat.lt_irrefl _)
/-- so many items, told by YI -/
def ItG (tot : Nat) (YI : Nat → V → Hp → Hp → Prop) : It := ⟨fun i _ => i < tot, fun i H x H' => YI i x H H', fun i _ => tot ≤ i⟩
abbrev SpGen := V → Hp → Nat → (Nat → V → Hp → Hp → Prop) → Prop
def iGen (C : Addr) (m : Str) (sp : SpGen) (to : TE) : TI := fun σ H R => to σ H fun x H1 => ∃ a dx fs tot YI, x = .ref a ∧ H1 a = some (.ins C dx fs) ∧ fs.lookup m = none ∧ sp (.ref a) H1 tot YI ∧ R (ItG tot YI) H1
/-- the body of a generator def, for whoever walks it -/
def GenRuns (X : Cx) (N : List Str) (qual : Str) (scope : Scope) (body : List Stmt) (f : Addr) (cd : Value) (sp : SpGen) : Prop :=
  ∀ G : Gn, G.Ok → G.X = X → G.N = N → G.qual = qual → G.scope = scope → G.f = f → G.cd = cd → ∀ a H s, sp (.ref a) H G.tot G.YI → G.CI 0 s H → Inv (G.cx s H) [] (start N [.ref a]) H s →
    PySem.Seg (model X.prog X.w) X.A.in1 (REn G.F) G.Y (G.tot + 1) s (.func body G.env) ((model X.prog X.w).den (.func body G.env)) [] s

theorem ps_forGen {X : Cx} {C f : Addr} {m name qual : Str} {params : Arguments} {gbody : List Stmt} {scope : Scope} {kV doc pm cdv ct oc : Value} {an od : Option Addr} {osl : Array (Option Value)} {N : List Str} {sp : SpGen} {kk : Nat}
    {o tg : Expr} {to : TE} {g : TG} {body : List Stmt} {tb : TS} {apos cpos pos : PySem.Pos} {pl : Sem Bool} (hx : X.xe = fun _ _ => False) (hr : Room (kk + 2) X.A)
    (he : PE X o to) (cl : Cls X.K C) (hm : Meth X.K C m f)
    (lk : X.K.lookup f = some ⟨oc, od, .func (PySem.W.fnOf name qual params gbody scope .none kV doc pm an cdv ct), osl⟩) (hcd : PySem.W.codeIn X.K cdv qual = true) (S : GScope N ["self"] scope)
    (noc : ∀ y ∈ scope.names, y.2 ≠ .cell ∧ y.2 ≠ .free) (hself : N[0]? = some ("self" : Str))
    (hbind : ∀ (s : Shared) (u : Value), BindsTo s (PySem.W.fnOf name qual params gbody scope .none kV doc pm an cdv ct) ⟨[u], []⟩ [("self", u)])
    (hgen : GenRuns X N qual scope gbody f cdv sp) (hg : PG X tg g) (hb : PSs X body tb) (htg : ∀ it v, letOwnedTupleGo tg it v = pure ())
    (ht : eval (.Call (.Attribute o m apos) [] [] cpos) X.env = (do
      let ov ← eval o X.env
      standAt apos.atName
      let (f, first) ← holding [ov] (getMethod ov m pl)
      callWith cpos f first (backTo cpos (starEach [] X.env)) (backToKw cpos (keywordEach [] X.env))) := by rfl)
    (hs : ∀ v, foldedSetIterable (.Call (.Attribute o m apos) [] [] cpos) X.env v = pure v := by intro _; rfl) :
    PS X (.For tg (.Call (.Attribute o m apos) [] [] cpos) body [] pos) (tFor (iGen C m sp to) g tb) := by
  refine ⟨fun pins s σ H D I h => ?_⟩
  refine wpAny_For (PySem.W.methodCall_KW (pl := pl) (thn (he.run pins s σ H _ I h) fun u s1 ⟨x, H1, I1, rx, a, dx, fs, tot, YI, ex, ea, l, hsp, W, ⟨m0, w0⟩, turn⟩ => ?_) ht) hs
  subst ex
  obtain rfl : u = Value.ref a := rx
  refine getmeth_ok I1 ea cl hm l ?_
  refine PySem.W.callWith_K0 (first := [.ref a]) I1.kIn hm.kp ?_
  show wpAny _ _ (call (.ref f) [.ref a]) _ _ s1
  have kind1 : ∀ y ∈ (["self"] : List Str).zip [Value.ref a], scope.names.lookup y.1 = some .local ∨ (scope.names.lookup y.1 = some .cell ∧ ((cellsFrom (s1.heap.objs.size + 1) scope.names []).lookup y.1).isSome = true) := fun ⟨n, v⟩ hy => by
    rcases S.par n (List.of_mem_zip hy).1 with q | q
    · exact .inl q
    · exact absurd rfl (noc _ (PySem.mem_of_lookup q)).1
  refine wpAny_call (codeAny_call_generator (by have := hr.dp; omega) (I1.kIn _ _ lk) rfl S.co S.gen rfl (PySem.W.codeRec_of I1.kIn hcd) (hbind s1 (.ref a) _ _ _ _ ?_))
  refine wpAny_newFunctionEnv_cells S.kind kind1 fun env henv s2 x => ?_
  subst henv
  have I0 := inv_startG (E := fun _ _ _ => False) (N := N) (vs := [.ref a]) S hr.hd I1.env0 rfl (.cons rfl .nil) x
  obtain ⟨h2, tk2, es2, hk2⟩ := x.done
  have gens2 : s2.gens = s1.gens := by rw [es2]
  have os2 : s2.os = s1.os := by rw [es2]
  have heap2 : s2.heap = h2 := by rw [es2]
  have lim1 : s1.heap.NoLimit := I1.nolimit
  refine ⟨lim1.keeps fun b o e => by rw [heap2]; exact hk2 b o e, ?_⟩
  have keep3 : ∀ (go : Obj) b o, s1.heap.get? b = some o → (s2.heap.push go).get? b = some o := fun go b o e => Heap.get?_push_of_some _ (by rw [heap2]; exact hk2 b o e)
  have main : ∀ (go : Obj) (nm qn : Value) (s3 : Shared), go.cls = .type "generator" → go.data = .fields #[.int s2.gens.size 0, nm, qn] → go.slots = #[] → (∀ h : Heap, (h.push go).get? h.objs.size = some go) →
      s3.heap = s2.heap.push go → s3.gens = s2.gens.push (.fresh (.func gbody (envOfC qual scope s1.heap.objs.size f cdv))) → s3.os = s2.os →
      wpAny (model X.prog X.w) X.A (pyIter (.ref s2.heap.objs.size)) (fun it s4 => codeAny (model X.prog X.w) X.A (.forLoop tg it body [] X.env) (fun r s' => match r with
        | .ok f => SP X pins D f s'
        | .error e => cameBackBy (model X.prog X.w) X.A X.env X.xe e s') s4) X.xe s3 := by
    intro go nm qn s3 hgc hgd hgs hgp eh eg eo
    have hgo3 : s3.heap.get? s2.heap.objs.size = some go := by rw [eh]; exact hgp _
    have isg : ∀ h : Heap, h.get? s2.heap.objs.size = some go → h.IsGen s2.heap.objs.size s2.gens.size := fun h e => ⟨go, nm, qn, e, hgc, hgd, hgs⟩
    have I3 : Inv X pins σ H1 s3 := I1.call' (ch := []) (by rw [eo, os2]) (Un.kept fun b o e => by rw [eh]; exact keep3 go b o e) (I1.hok.kept fun b o e => by rw [eh]; exact keep3 go b o e)
      (by rw [eg, gens2]; exact AllBare.push I1.bare rfl) fun b z => absurd z List.not_mem_nil
    refine wpAny_pyIter_gen (isg _ hgo3) ?_
    have lt2 : s1.heap.objs.size < s2.heap.objs.size := x.toInCall.ns.lt
    -- the pair
    let G : Gn := ⟨X, N, qual, scope, f, cdv, s1.heap.objs.size, [(s2.heap.objs.size, go)], tot,
      fun i s' H' => ((∃ σ' m', Inv X pins σ' H' s' ∧ W i m' σ' H') ∧ (i = 0 → sp (.ref a) H' tot YI)) ∧ s1.heap.objs.size < s'.heap.objs.size, YI⟩
    have gOk : G.Ok := {
      kind := S.kind
      noc := noc
      nol := by
        have e : ∀ (l : List (Str × NameKind)) (n : Nat), (∀ y ∈ l, y.2 ≠ .cell) → cellsFrom n l [] = [] := by
          intro l
          induction l with
          | nil => intro n _; rfl
          | cons y r ih =>
            intro n hy
            have h1 : (y.2 == NameKind.cell) = false := by
              cases q : y.2 <;> first | rfl | exact absurd q (hy y List.mem_cons_self)
            unfold cellsFrom
            simp only [h1]
            exact ih _ fun z hz => hy z (List.mem_cons_of_mem _ hz)
        exact e _ _ fun y hy => (noc y hy).1
      hd := hr.hd
      at_ := fun i s' H' hc => by
        obtain ⟨⟨⟨σ', m', I', _⟩, _⟩, hlt⟩ := hc
        exact ⟨I'.env0, hlt⟩
      bL := Nat.le_trans I1.ok.bsz I1.sz
      fL := fun b hb' => by
        rcases List.mem_cons.mp (I1.stkSub b hb') with z | z
        · rw [z]
          exact I1.lt
        · obtain ⟨_, ob, ho, _⟩ := I1.ok.funs.mem z
          exact Nat.lt_of_lt_of_le (Heap.lt_size ho) I1.sz
      ownL := fun p hp => by
        rw [List.mem_singleton.mp hp]
        exact ⟨lt2, fun v q => by rw [show go.data = .cell v from q] at hgd; cases hgd⟩ }
    have Ic : Inv X pins σ H1 s1 := I1
    -- the generator's own object, pinned for the walker
    have ownA : ∀ p ∈ G.own, p = (s2.heap.objs.size, go) := fun p hp => List.mem_singleton.mp hp
    have ngo : ∀ v, go.data ≠ .cell v := fun v q => by rw [q] at hgd; cases hgd
    have hlt : s2.gens.size < s3.gens.size := by rw [eg, Array.size_push]; exact Nat.lt_succ_self _
    have start : ∃ gs, s3.gens[s2.gens.size]? = some gs ∧ gs.Goes (model X.prog X.w) X.A.in1 (REn G.F) G.Y (tot + 1) (.send .none) (s3.setGen s2.gens.size .running) := by
      refine ⟨.fresh (.func gbody (envOfC qual scope s1.heap.objs.size f cdv)), by rw [eg]; exact Array.getElem?_push_size .., rfl, ?_⟩
      have I3r : Inv X pins σ H1 (s3.setGen s2.gens.size .running) := inv_gens I3 (allBare_setGen I3.bare rfl)
      have hc0 : G.CI 0 (s3.setGen s2.gens.size .running) H1 := by
        refine ⟨⟨⟨σ, m0, I3r, w0⟩, fun _ => hsp⟩, ?_⟩
        show s1.heap.objs.size < s3.heap.objs.size
        rw [eh, Heap.size_push]
        exact Nat.lt_succ_of_lt lt2
      refine hgen G gOk rfl rfl rfl rfl rfl rfl a H1 _ hsp hc0 (Gn.inv gOk hc0 ?_ I0.free ?_ fun p hp => ?_)
      · refine Gn.Fr.at gOk (h1 := s2.heap) ?_ fun o ho => ?_
        · exact I0.loc
        · show s3.heap.get? _ = _
          rw [eh]
          exact Heap.get?_push_of_some _ ho
      · have hN : 1 ≤ N.length := by
          cases N with
          | nil => cases hself
          | cons _ _ => simp
        show (start N [.ref a]).length = N.length
        unfold L2.start
        rw [List.length_append, List.length_map, List.length_replicate]
        show 1 + (N.length - 1) = N.length
        omega
      · have hp2 : p = (s2.heap.objs.size, go) := by
          rcases List.mem_append.mp hp with z | z
          · exact ownA p z
          · cases z
        rw [hp2]
        refine ⟨hgo3, ?_, lt2, ngo⟩
        exact I0.hok.fresh (Nat.le_refl _)
    refine codeAny_forLoop_any (fun n s' => ∃ i σ' H' m' gs, n = tot - i ∧ i ≤ tot ∧ Inv X pins σ' H' s' ∧ W i m' σ' H' ∧ (i = 0 → sp (.ref a) H' tot YI) ∧ s'.heap.get? s2.heap.objs.size = some go ∧ s'.gens[s2.gens.size]? = some gs ∧
      gs.Goes (model X.prog X.w) X.A.in1 (REn G.F) G.Y (tot + 1 - i) (.send .none) (s'.setGen s2.gens.size .running)) ?_ tot ?_
    · rintro n s4 ⟨i, σ4, H4, m4, gs, rfl, hit, I4, w4, hsp4, hgo4, hgs4, hgoes4⟩
      have hgl : s2.gens.size < s4.gens.size := (Array.getElem?_eq_some_iff.mp hgs4).1
      have nores : ∀ e s', (fun (_ : Value) (_ : Shared) => False) e s' → notedBy (model X.prog X.w) X.A X.env (fun e s' => cameBackBy (model X.prog X.w) X.A X.env X.xe e s') e s' := fun _ _ z => z.elim
      refine wpAny_mono (E := fun _ _ => False) (wpAny_gsz (n := s2.gens.size + 1) hgl (next_any hr.hd I4.nolimit (by have := hr.dp; omega) (isg _ hgo4) hgs4 hgoes4 (fun v s5 gs' hbare hsusp hy => ?_) (fun s5 hF h' hk => ?_))) (fun _ _ z => z) nores
      · intro hsz
        obtain ⟨i', H5, xx, H6, own, hn, h1n, hci, hyi, rv, os5, bare5, hok5, un5, hown0, hown, hkap⟩ := hy
        obtain ⟨⟨⟨σ5, m5, I5, w5⟩, hsp5⟩, hL5⟩ := hci
        have hn' : tot + 1 - i - 1 + i' = tot := hn
        have ei : i' = i := by omega
        subst ei
        rcases turn i' m5 σ5 H5 w5 with ⟨stop, _⟩ | ⟨go5, Nx, hN, step⟩
        · exact absurd (show tot ≤ i' from stop) (by omega)
        have hsz5 : s2.gens.size < s5.gens.size := by
          have q : (s5.setGen s2.gens.size gs').gens.size = s5.gens.size := setGen_size _ _ _
          have q2 : s2.gens.size + 1 ≤ (s5.setGen s2.gens.size gs').gens.size := hsz
          omega
        have I6 : Inv X pins σ5 H6 (s5.setGen s2.gens.size gs') := inv_past Ic I5 un5 os5 hok5 (allBare_setGen bare5 hbare)
        have I6p : Inv X (pins ++ own) σ5 H6 (s5.setGen s2.gens.size gs') := I6.pins_of fun p hp => by
          rcases List.mem_append.mp hp with z | z
          · exact I6.pin p (List.mem_append_right _ z)
          · obtain ⟨o1, o2, o3, o4⟩ := hown p z
            refine ⟨o1, o2, Nat.ne_of_gt (Nat.lt_of_lt_of_le Ic.lt o3), fun hm => ?_, o4⟩
            exact absurd (Nat.lt_of_lt_of_le (gOk.fL p.1 (by
              rcases Ic.ok.stk with e | ⟨e, _⟩
              · show p.1 ∈ frs X.stack
                rw [e]
                exact hm
              · show p.1 ∈ frs X.stack
                rw [e]
                unfold frs
                rw [List.filterMap_cons]
                cases X.env.frame with
                | none => exact hm
                | some _ => exact List.mem_cons_of_mem _ hm)) o3) (Nat.lt_irrefl _)
        refine wpAny_of_eq (htg _ _) ?_
        refine wpAny_mono (pg_asleep hx hg I6p rv (step xx H6 hyi) (setGen_at hsz5) hsusp) (fun _ s6 h6 => ?_) nores
        obtain ⟨⟨σ6, H7, I7, q7⟩, hgs6⟩ := h6
        refine wpAny_mono (pss_asleep hx hb I7 q7 hgs6 hsusp) (fun fl s8 h8 => ?_) nores
        obtain ⟨q8, hgs8⟩ := h8
        have again : ∀ {σ8 : L2.St} {H8 : Hp}, Inv X (pins ++ own) σ8 H8 s8 → Nx σ8 H8 → ∃ m, m < tot - i' ∧ ∃ i σ' H' m' gs, m = tot - i ∧ i ≤ tot ∧ Inv X pins σ' H' s8 ∧ W i m' σ' H' ∧ (i = 0 → sp (.ref a) H' tot YI) ∧ s8.heap.get? s2.heap.objs.size = some go ∧ s8.gens[s2.gens.size]? = some gs ∧
            gs.Goes (model X.prog X.w) X.A.in1 (REn G.F) G.Y (tot + 1 - i) (.send .none) (s8.setGen s2.gens.size .running) := fun {σ8 H8} I8 n8 => by
          obtain ⟨m8, _, w8⟩ := hN σ8 H8 n8
          have hpin : ∀ p ∈ own, s8.heap.get? p.1 = some p.2 ∧ H8 p.1 = none := fun p hp =>
            let q := I8.pin p (List.mem_append_right _ (List.mem_append_right _ hp))
            ⟨q.1, q.2.1⟩
          have hgo8 := (hpin _ (hown0 (s2.heap.objs.size, go) (List.mem_singleton.mpr rfl))).1
          have gol : i' < tot := go5
          refine ⟨tot - (i' + 1), by omega, i' + 1, σ8, H8, m8, gs', rfl, by omega, I8.unpinned, w8, fun z => by omega, hgo8, hgs8, ?_⟩
          have hk8 := hkap (s8.setGen s2.gens.size .running) H8 ⟨⟨⟨σ8, m8, inv_gens I8.unpinned (allBare_setGen I8.bare rfl), w8⟩, fun z => by omega⟩, Nat.lt_trans lt2 (Heap.lt_size hgo8)⟩ hpin
          have e1 : tot + 1 - i' = (tot + 1 - (i' + 1)) + 1 := by omega
          rw [e1] at hk8
          exact hk8
        cases fl with
        | next => obtain ⟨σ8, H8, I8, n8⟩ := q8; exact again I8 n8
        | cont => obtain ⟨σ8, H8, I8, n8⟩ := q8; exact again I8 n8
        | brk => obtain ⟨σ8, H8, I8, q⟩ := q8; exact ⟨σ8, H8, I8.unpinned, q⟩
        | ret v8 => obtain ⟨x8, σ8, H8, I8, r8, q⟩ := q8; exact ⟨x8, σ8, H8, I8.unpinned, r8, q⟩
      · intro hsz
        obtain ⟨H5, H6, hn1, hci, rfl, os5, bare5, hok5, un5⟩ := hF
        have ei : i = tot := by omega
        obtain ⟨⟨⟨σ5, m5, I5, w5⟩, hsp5⟩, hL5⟩ := hci
        rcases turn tot m5 σ5 H6 w5 with ⟨_, qn⟩ | ⟨go5, _⟩
        · have I6 : Inv X pins σ5 H6 (s5.setGen s2.gens.size .finished) := inv_past Ic I5 un5 os5 hok5 (allBare_setGen bare5 rfl)
          have I7 : Inv X pins σ5 H6 { s5.setGen s2.gens.size .finished with heap := h' } := I6.call' (ch := []) rfl (Un.kept hk) (I6.hok.kept hk) I6.bare fun b z => absurd z List.not_mem_nil
          exact wpAny_execs_nil ⟨σ5, H6, I7, qn⟩
        · exact absurd (show tot < tot from go5) (Nat.lt_irrefl _)
    · obtain ⟨gs, h1, h2⟩ := start
      exact ⟨0, σ, H1, m0, gs, rfl, Nat.zero_le _, I3, w0, fun _ => hsp, hgo3, h1, h2⟩
  show wpAny _ _ (pyIter (.ref s2.heap.objs.size)) _ _ _
  exact main _ _ _ _ rfl rfl rfl (fun h => Heap.get?_push_size _ rfl) rfl rfl rfl
end K55
set_option maxHeartbeats 1000000
/-! What a def's slots hold, told as plain data; the heap out of sight. -/
namespace K55
open PySem PySem.Spec PyProof.Rows L2
open Evl (Ex)

/-! ### plain data -/
structure PD where
  colour : Str
  start : Int × Int
  places : Int
  known : List ((Int × Int) × (Int × Int))
  basis : List (Int × Int)
  border : Int
inductive D where
  | non
  | bl (b : Bool)
  | int (i : Int)
  | str (x : Str)
  | tup (l : List D)
  | ktup (l : List D)
  | lst (l : List D)
  | dct (l : List ((Int × Int) × D))
  | net (a b c : Int)
  | car (a b c : Int) (x : Str)
  | part (p : PD)
abbrev D.pl (p : Int × Int) : D := .tup [.int p.1, .int p.2]
abbrev keyP (p : Int × Int) : List Key := [.inl p.1, .inl p.2]
/-- the program's own classes -/
structure Gl where
  K : PySem.W.Frag
  net : Addr
  car : Addr
  wov : Addr
  part : Addr

mutual
inductive R (g : Gl) (H : Hp) : V → D → Prop
  | non : R g H .non .non
  | bl (b : Bool) : R g H (.bl b) (.bl b)
  | int (i : Int) : R g H (.int i) (.int i)
  | str (x : Str) : R g H (.str x) (.str x)
  | tup {a : Addr} {xs : List V} {ds : List D} : H a = some (.tup xs) → Rs g H xs ds → R g H (.ref a) (.tup ds)
  | ktup {a : Addr} {xs : List V} {ds : List D} : SqT g.K H a xs → Rs g H xs ds → R g H (.ref a) (.ktup ds)
  | lst {a : Addr} {xs : List V} {ds : List D} : H a = some (.lst xs) → Rs g H xs ds → R g H (.ref a) (.lst ds)
  | net {p dx : Addr} {w : V} {a b c : Int} : H p = some (.ins g.net dx [("own_numbers", w)]) → R g H w (.tup [.int a, .int b, .int c]) → R g H (.ref p) (.net a b c)
  | car {p dx C : Addr} {w : V} {a b c : Int} {x : Str} : (C = g.car ∨ C = g.wov) → H p = some (.ins C dx [("own_net", w), ("own_text", .str x)]) → R g H w (.net a b c) → R g H (.ref p) (.car a b c x)
  | dct {a : Addr} {ws : List (List Key × V)} {kvs : List ((Int × Int) × D)} : Rd H a (.dT ws) → ws.map (·.1) = kvs.map (fun e => keyP e.1) → Rs g H (ws.map (·.2)) (kvs.map (·.2)) → R g H (.ref a) (.dct kvs)
  | part {p dx : Addr} {vs vb vk : V} {P : PD} : H p = some (.ins g.part dx [("own_colour", .str P.colour), ("own_start", vs), ("known", vk), ("own_places", .int P.places), ("own_basis", vb), ("own_border", .int P.border)]) →
      R g H vs (.tup [.int P.start.1, .int P.start.2]) → R g H vb (.tup (P.basis.map D.pl)) → R g H vk (.dct (P.known.map fun e => (e.1, D.pl e.2))) → R g H (.ref p) (.part P)
inductive Rs (g : Gl) (H : Hp) : List V → List D → Prop
  | nil : Rs g H [] []
  | cons {v : V} {vs : List V} {d : D} {ds : List D} : R g H v d → Rs g H vs ds → Rs g H (v :: vs) (d :: ds)
end

/-- nothing is lost, but for a dict's lock -/
structure Exd (H H' : Hp) : Prop where
  ob : ∀ a o, (∀ kvs, o ≠ .dT kvs) → (∀ od kvs, o ≠ .frz od (.dT kvs)) → H a = some o → H' a = some o
  dt : ∀ a kvs, Rd H a (.dT kvs) → Rd H' a (.dT kvs)
theorem Exd.of {H H' : Hp} (e : Ex H H') : Exd H H' := ⟨fun a o _ _ h => e a o h, fun a kvs h => Evl.ex_rd e h⟩
theorem Exd.refl (H : Hp) : Exd H H := .of (Ex.refl H)
theorem Exd.trans {H H1 H2 : Hp} (a : Exd H H1) (b : Exd H1 H2) : Exd H H2 := ⟨fun x o h1 h2 h => b.ob x o h1 h2 (a.ob x o h1 h2 h), fun x k h => b.dt x k (a.dt x k h)⟩
theorem Exd.tup {H H' : Hp} (e : Exd H H') {a : Addr} {xs : List V} (h : H a = some (.tup xs)) : H' a = some (.tup xs) := e.ob a _ (fun _ z => by cases z) (fun _ _ z => by cases z) h
theorem Exd.lst {H H' : Hp} (e : Exd H H') {a : Addr} {xs : List V} (h : H a = some (.lst xs)) : H' a = some (.lst xs) := e.ob a _ (fun _ z => by cases z) (fun _ _ z => by cases z) h
theorem Exd.ins {H H' : Hp} (e : Exd H H') {a C dx : Addr} {fs : List (Str × V)} (h : H a = some (.ins C dx fs)) : H' a = some (.ins C dx fs) := e.ob a _ (fun _ z => by cases z) (fun _ _ z => by cases z) h
theorem Exd.sqt {H H' : Hp} (e : Exd H H') {K : PySem.W.Frag} {a : Addr} {xs : List V} (h : SqT K H a xs) : SqT K H' a xs := by
  rcases h with (h | ⟨o, h⟩) | h
  · exact .inl (.inl (e.tup h))
  · exact .inl (.inr ⟨o, e.ob a _ (fun _ z => by cases z) (fun _ _ z => by cases z) h⟩)
  · exact .inr h
section
variable {g : Gl} {H H' : Hp}
theorem R.mono {v : V} {d : D} (e : Exd H H') (h : R g H v d) : R g H' v d :=
  R.rec (motive_1 := fun v d _ => R g H' v d) (motive_2 := fun v d _ => Rs g H' v d) .non .bl .int .str
    (fun h _ r => .tup (e.tup h) r) (fun h _ r => .ktup (e.sqt h) r) (fun h _ r => .lst (e.lst h) r) (fun h _ r => .net (e.ins h) r)
    (fun c h _ r => .car c (e.ins h) r) (fun hd hk _ r => .dct (e.dt _ _ hd) hk r) (fun h _ _ _ r1 r2 r3 => .part (e.ins h) r1 r2 r3) .nil (fun _ _ r rs => .cons r rs) h
theorem Rs.mono {v : List V} {d : List D} (e : Exd H H') (h : Rs g H v d) : Rs g H' v d :=
  Rs.rec (motive_1 := fun v d _ => R g H' v d) (motive_2 := fun v d _ => Rs g H' v d) .non .bl .int .str
    (fun h _ r => .tup (e.tup h) r) (fun h _ r => .ktup (e.sqt h) r) (fun h _ r => .lst (e.lst h) r) (fun h _ r => .net (e.ins h) r)
    (fun c h _ r => .car c (e.ins h) r) (fun hd hk _ r => .dct (e.dt _ _ hd) hk r) (fun h _ _ _ r1 r2 r3 => .part (e.ins h) r1 r2 r3) .nil (fun _ _ r rs => .cons r rs) h
theorem Rs.len {vs : List V} {ds : List D} (h : Rs g H vs ds) : vs.length = ds.length := by
  induction vs generalizing ds with
  | nil => cases h; rfl
  | cons v vs ih => cases h with | cons _ t => simp [ih t]
theorem Rs.get {vs : List V} {ds : List D} (h : Rs g H vs ds) {i : Nat} {v : V} (e : vs[i]? = some v) : ∃ d, ds[i]? = some d ∧ R g H v d := by
  induction vs generalizing ds i with
  | nil => cases e
  | cons w vs ih =>
    cases h with
    | cons r t =>
      cases i with
      | zero => cases e; exact ⟨_, rfl, r⟩
      | succ i => exact ih t (by simpa using e)
theorem Rs.getd {vs : List V} {ds : List D} (h : Rs g H vs ds) {i : Nat} {d : D} (e : ds[i]? = some d) : ∃ v, vs[i]? = some v ∧ R g H v d := by
  induction vs generalizing ds i with
  | nil => cases h; cases e
  | cons w vs ih =>
    cases h with
    | cons r t =>
      cases i with
      | zero => cases e; exact ⟨_, rfl, r⟩
      | succ i => exact ih t (by simpa using e)
theorem Rs.append {vs us : List V} {ds es : List D} (h : Rs g H vs ds) (k : Rs g H us es) : Rs g H (vs ++ us) (ds ++ es) := by
  induction vs generalizing ds with
  | nil => cases h; exact k
  | cons w vs ih => cases h with | cons r t => exact .cons r (ih t)
theorem Rs.one {v : V} {d : D} (h : R g H v d) : Rs g H [v] [d] := .cons h .nil
theorem Rs.dropLast {vs : List V} {ds : List D} (h : Rs g H vs ds) : Rs g H vs.dropLast ds.dropLast := by
  induction vs generalizing ds with
  | nil => cases h; exact .nil
  | cons w vs ih =>
    cases h with
    | cons r t =>
      cases t with
      | nil => exact .nil
      | cons r2 t2 => exact .cons r (ih (.cons r2 t2))
end

/-! ### what is hidden, what the tape is -/
def hid (m : List Addr) (H : Hp) : Hp := fun a => if a ∈ m then none else H a
theorem hid_in {m : List Addr} {H : Hp} {a : Addr} (h : a ∈ m) : hid m H a = none := if_pos h
theorem hid_out {m : List Addr} {H : Hp} {a : Addr} (h : a ∉ m) : hid m H a = H a := if_neg h
theorem hid_some {m : List Addr} {H : Hp} {a : Addr} {o : HO} (h : hid m H a = some o) : a ∉ m ∧ H a = some o := by
  by_cases q : a ∈ m
  · rw [hid_in q] at h; cases h
  · rw [hid_out q] at h; exact ⟨q, h⟩
theorem hid_ex (m : List Addr) (H : Hp) : Ex (hid m H) H := fun _ _ h => (hid_some h).2
theorem hid_rd {m : List Addr} {H : Hp} {a : Addr} {u : HO} (h : Rd (hid m H) a u) : a ∉ m ∧ Rd H a u := by
  rcases h with h | ⟨o, h⟩
  · exact ⟨(hid_some h).1, .inl (hid_some h).2⟩
  · exact ⟨(hid_some h).1, .inr ⟨o, (hid_some h).2⟩⟩
theorem rd_hid {m : List Addr} {H : Hp} {a : Addr} {u : HO} (q : a ∉ m) (h : Rd H a u) : Rd (hid m H) a u := by
  rcases h with h | ⟨o, h⟩
  · exact .inl ((hid_out q).trans h)
  · exact .inr ⟨o, (hid_out q).trans h⟩
/-- hiding less -/
theorem hid_less {m m' : List Addr} {H : Hp} (h : ∀ a ∈ m, a ∈ m') : Ex (hid m' H) (hid m H) := fun a o e => by
  obtain ⟨h1, h2⟩ := hid_some e
  rw [hid_out fun z => h1 (h a z)]
  exact h2
theorem hid_upd {m : List Addr} {H : Hp} {a : Addr} {o : HO} (h : a ∈ m) : hid m (upd H a o) = hid m H := by
  funext b
  by_cases q : b ∈ m
  · rw [hid_in q, hid_in q]
  · rw [hid_out q, hid_out q, upd_ne]
    intro z
    rw [z] at q
    exact q h
structure Tid where
  a : Addr
  l : Addr
  ns : List Int
def Tape (τ : Tid) (H : Hp) : Prop := τ.l ≠ τ.a ∧ H τ.l = some (.lst (τ.ns.map V.int)) ∧ τ.ns.length ≤ 63 ∧ ∃ pos cur seed : Int, H τ.a = some (.lst [.ref τ.l, .int pos, .int cur, .int seed]) ∧ 0 ≤ pos ∧ 0 ≤ cur ∧ 0 ≤ seed ∧ seed < 2147483647
/-- all but the tape stands as it stood -/
structure Kp (t : Option Tid) (H H' : Hp) : Prop where
  ob : ∀ a o, (∀ τ, t = some τ → a ≠ τ.a) → H a = some o → H' a = some o
  tp : ∀ τ, t = some τ → Tape τ H → Tape τ H'
theorem Kp.of {t : Option Tid} {H H' : Hp} (e : Ex H H') : Kp t H H' := ⟨fun a o _ h => e a o h, fun τ _ h => by
  obtain ⟨h1, h2, h3, p, c, s, h4, h5⟩ := h
  exact ⟨h1, e _ _ h2, h3, p, c, s, e _ _ h4, h5⟩⟩
theorem Kp.refl {t : Option Tid} (H : Hp) : Kp t H H := .of (Ex.refl H)
theorem Kp.trans {t : Option Tid} {H H1 H2 : Hp} (a : Kp t H H1) (b : Kp t H1 H2) : Kp t H H2 := ⟨fun x o h e => b.ob x o h (a.ob x o h e), fun τ h e => b.tp τ h (a.tp τ h e)⟩
theorem Kp.occ {t : Option Tid} {H H' : Hp} (k : Kp t H H') (ht : ∀ τ, t = some τ → Tape τ H) {a : Addr} (h : H a ≠ none) : H' a ≠ none := by
  by_cases q : ∀ τ, t = some τ → a ≠ τ.a
  · cases e : H a with
    | none => exact absurd e h
    | some o => rw [k.ob a o q e]; exact fun z => by cases z
  · have ⟨τ, h1, h2⟩ : ∃ τ, t = some τ ∧ a = τ.a := Classical.byContradiction fun z => q fun τ h1 h2 => z ⟨τ, h1, h2⟩
    subst h2
    obtain ⟨_, _, _, _, _, _, e, _⟩ := k.tp τ h1 (ht τ h1)
    rw [e]
    exact fun z => by cases z

/-- there, and no tuple -/
def Held (H : Hp) (a : Addr) : Prop := H a ≠ none ∧ ∀ xs, H a ≠ some (.tup xs)
theorem Kp.held {t : Option Tid} {H H' : Hp} (k : Kp t H H') (ht : ∀ τ, t = some τ → Tape τ H) {a : Addr} (h : Held H a) : Held H' a := by
  by_cases q : ∀ τ, t = some τ → a ≠ τ.a
  · cases e : H a with
    | none => exact absurd e h.1
    | some o =>
      have e2 := k.ob a o q e
      exact ⟨fun z => (by rw [e2] at z; cases z), fun xs z => h.2 xs (by rw [e, ← e2, z])⟩
  · have ⟨τ, h1, h2⟩ : ∃ τ, t = some τ ∧ a = τ.a := Classical.byContradiction fun z => q fun τ h1 h2 => z ⟨τ, h1, h2⟩
    subst h2
    obtain ⟨_, _, _, _, _, _, e, _⟩ := k.tp τ h1 (ht τ h1)
    exact ⟨fun z => (by rw [e] at z; cases z), fun xs z => by rw [e] at z; cases z⟩

/-! ### what the slots hold -/
inductive C where
  | un
  | d (x : D)
  | ml (l : List D)
  | md (l : List ((Int × Int) × D))
  | io (l0 Cl : Addr) (fs : List (Str × D))
  | tp
def C.owned : C → Bool
  | .ml _ | .md _ | .io _ _ _ => true
  | _ => false
structure Fr where
  g : Gl
  t : Option Tid
  H0 : Hp
  m0 : List Addr
  lk : List Addr
/-- a value, of which only d and tp are told -/
def Sa (g : Gl) (t : Option Tid) (m : List Addr) (H : Hp) (v : V) : C → Prop
  | .d x => R g (hid m H) v x
  | .tp => ∃ τ, t = some τ ∧ v = .ref τ.a
  | _ => False
def Sl (F : Fr) (m : List Addr) (H : Hp) (v : Option V) : C → Prop
  | .un => True
  | .d x => ∃ w, v = some w ∧ R F.g (hid m H) w x
  | .tp => ∃ τ, F.t = some τ ∧ v = some (.ref τ.a)
  | .ml ds => ∃ l xs, v = some (.ref l) ∧ l ∈ m ∧ (F.H0 l = none ∧ l ∉ F.lk) ∧ H l = some (.lst xs) ∧ Rs F.g (hid m H) xs ds
  | .md kvs => ∃ l ws, v = some (.ref l) ∧ l ∈ m ∧ (F.H0 l = none ∧ l ∉ F.lk) ∧ H l = some (.dT ws) ∧ ws.map (·.1) = kvs.map (fun e => keyP e.1) ∧ Rs F.g (hid m H) (ws.map (·.2)) (kvs.map (·.2))
  | .io l0 Cl fs => ∃ l dx ws, v = some (.ref l) ∧ l ∈ m ∧ (F.H0 l = none ∧ l ∉ F.lk) ∧ H l = some (.ins Cl dx ws) ∧ (l = l0 ∧ ws.map (·.1) = fs.map (·.1)) ∧ Rs F.g (hid m H) (ws.map (·.2)) (fs.map (·.2))
structure S (F : Fr) (m : List Addr) (σ : L2.St) (H : Hp) (Γ : List C) : Prop where
  len : Γ.length = σ.length
  sl : ∀ (i : Nat) (v : Option V) (c : C), σ[i]? = some v → Γ[i]? = some c → Sl F m H v c
  own : ∀ (i j : Nat) (l : Addr) (ci cj : C), i ≠ j → σ[i]? = some (some (.ref l)) → σ[j]? = some (some (.ref l)) → Γ[i]? = some ci → Γ[j]? = some cj → ci.owned = true → cj.owned = true → False
  occ : ∀ a ∈ m, Held H a
  tap : ∀ τ, F.t = some τ → τ.a ∈ F.m0 ∧ Tape τ F.H0
  kp : Kp F.t F.H0 H
  sub : ∀ a ∈ F.m0, a ∈ m
  occ0 : ∀ a ∈ F.m0, F.H0 a ≠ none
  lks : ∀ a ∈ F.lk, a ∈ m
/-- the state later: nothing is lost -/
structure Lt (m : List Addr) (H : Hp) (m' : List Addr) (H' : Hp) : Prop where
  ex : Exd (hid m H) (hid m' H')
theorem Lt.refl (m : List Addr) (H : Hp) : Lt m H m H := ⟨Exd.refl _⟩
theorem Lt.trans {m m1 m2 : List Addr} {H H1 H2 : Hp} (a : Lt m H m1 H1) (b : Lt m1 H1 m2 H2) : Lt m H m2 H2 := ⟨a.ex.trans b.ex⟩

section
variable {F : Fr} {m : List Addr} {σ : L2.St} {H H' : Hp} {Γ : List C}
theorem S.tape (s : S F m σ H Γ) : ∀ τ, F.t = some τ → Tape τ H := fun τ h => s.kp.tp τ h (s.tap τ h).2
theorem S.tin (s : S F m σ H Γ) : ∀ τ, F.t = some τ → τ.a ∈ m := fun τ h => s.sub _ (s.tap τ h).1
theorem ex_kp {t : Option Tid} (ht : ∀ τ, t = some τ → τ.a ∈ m) (k : Kp t H H') : Ex (hid m H) (hid m H') := fun a o e => by
  obtain ⟨h1, h2⟩ := hid_some e
  rw [hid_out h1]
  exact k.ob a o (fun τ h z => h1 (z ▸ ht τ h)) h2
theorem S.lt (s : S F m σ H Γ) (k : Kp F.t H H') : Lt m H m H' := ⟨.of (ex_kp s.tin k)⟩
theorem S.ne (s : S F m σ H Γ) {l : Addr} (h : F.H0 l = none) : ∀ τ, F.t = some τ → l ≠ τ.a := fun τ h1 e => by
  obtain ⟨_, _, _, _, _, _, h2, _⟩ := (s.tap τ h1).2
  rw [← e, h] at h2
  cases h2
/-- the slots stand when all but the tape stands -/
theorem Sl.keep {v : Option V} {c : C} (s : S F m σ H Γ) (k : Kp F.t H H') (h : Sl F m H v c) : Sl F m H' v c := by
  have e := (s.lt k).ex
  cases c with
  | un => trivial
  | d x => obtain ⟨w, h1, h2⟩ := h; exact ⟨w, h1, h2.mono e⟩
  | tp => exact h
  | ml ds => obtain ⟨l, xs, h1, h2, h3, h4, h5⟩ := h; exact ⟨l, xs, h1, h2, h3, k.ob l _ (s.ne h3.1) h4, h5.mono e⟩
  | md kvs => obtain ⟨l, ws, h1, h2, h3, h4, h5, h6⟩ := h; exact ⟨l, ws, h1, h2, h3, k.ob l _ (s.ne h3.1) h4, h5, h6.mono e⟩
  | io l0 Cl fs => obtain ⟨l, dx, ws, h1, h2, h3, h4, h5, h6⟩ := h; exact ⟨l, dx, ws, h1, h2, h3, k.ob l _ (s.ne h3.1) h4, h5, h6.mono e⟩
theorem S.keep (s : S F m σ H Γ) (k : Kp F.t H H') : S F m σ H' Γ :=
  ⟨s.len, fun i v c h1 h2 => (s.sl i v c h1 h2).keep s k, s.own, fun a h => k.held s.tape (s.occ a h), s.tap, s.kp.trans k, s.sub, s.occ0, s.lks⟩
theorem S.at (s : S F m σ H Γ) {i : Nat} {c : C} (h : Γ[i]? = some c) : ∃ v, σ[i]? = some v ∧ Sl F m H v c := by
  have h1 : i < Γ.length := (List.getElem?_eq_some_iff.mp h).1
  rw [s.len] at h1
  exact ⟨σ[i], List.getElem?_eq_getElem h1, s.sl i _ c (List.getElem?_eq_getElem h1) h⟩
/-- a slot gets a value that is not owned -/
theorem S.set (s : S F m σ H Γ) {i : Nat} {v : Option V} {c : C} (hc : c.owned = false) (h : Sl F m H v c) : S F m (σ.set i v) H (Γ.set i c) := by
  refine ⟨by rw [List.length_set, List.length_set, s.len], fun j w e h1 h2 => ?_, fun j k l ci cj n h1 h2 h3 h4 o1 o2 => ?_, s.occ, s.tap, s.kp, s.sub, s.occ0, s.lks⟩
  · rw [List.getElem?_set] at h1 h2
    by_cases q : i = j
    · rw [if_pos q] at h1 h2
      split at h1
      · split at h2
        · cases h1; cases h2; exact h
        · cases h2
      · cases h1
    · rw [if_neg q] at h1 h2
      exact s.sl j w e h1 h2
  · by_cases qj : i = j
    · subst qj
      rw [List.getElem?_set, if_pos rfl] at h3
      split at h3
      · cases h3; rw [hc] at o1; cases o1
      · cases h3
    · by_cases qk : i = k
      · subst qk
        rw [List.getElem?_set, if_pos rfl] at h4
        split at h4
        · cases h4; rw [hc] at o2; cases o2
        · cases h4
      · rw [List.getElem?_set, if_neg qj] at h1 h3
        rw [List.getElem?_set, if_neg qk] at h2 h4
        exact s.own j k l ci cj n h1 h2 h3 h4 o1 o2
theorem S.setd (s : S F m σ H Γ) {i : Nat} {v : V} {d : D} (h : R F.g (hid m H) v d) : S F m (σ.set i (some v)) H (Γ.set i (.d d)) := s.set rfl ⟨v, rfl, h⟩
end
end K55
set_option maxHeartbeats 1000000
/-! Expressions over such slots. -/
namespace K55
open PySem PySem.Spec PyProof.Rows L2
open Evl (Ex)

/-- evaluates to something of P -/
def EvS (g : Gl) (te : TE) (Γ : List C) (P : D → Prop) : Prop := ∀ (F : Fr) (m : List Addr) (σ : L2.St) (H : Hp), F.g = g → S F m σ H Γ → ∀ Q : VK, (∀ v H1 d, Kp F.t H H1 → P d → R g (hid m H1) v d → Q v H1) → te σ H Q
/-- to a new list of P -/
def EvL (g : Gl) (te : TE) (Γ : List C) (P : List D → Prop) : Prop := ∀ (F : Fr) (m : List Addr) (σ : L2.St) (H : Hp), F.g = g → S F m σ H Γ → ∀ Q : VK,
  (∀ p H1 xs ds, Kp F.t H H1 → H p = none → H1 p = some (.lst xs) → P ds → Rs g (hid (p :: m) H1) xs ds → Q (.ref p) H1) → te σ H Q
/-- to a new dict -/
def EvM (g : Gl) (te : TE) (Γ : List C) (P : List ((Int × Int) × D) → Prop) : Prop := ∀ (F : Fr) (m : List Addr) (σ : L2.St) (H : Hp), F.g = g → S F m σ H Γ → ∀ Q : VK,
  (∀ p H1 ws kvs, Kp F.t H H1 → H p = none → H1 p = some (.dT ws) → P kvs → ws.map (·.1) = kvs.map (fun e => keyP e.1) → Rs g (hid (p :: m) H1) (ws.map (·.2)) (kvs.map (·.2)) → Q (.ref p) H1) → te σ H Q
def EvT (g : Gl) (tt : TT) (Γ : List C) (P : Bool → Prop) : Prop := ∀ (F : Fr) (m : List Addr) (σ : L2.St) (H : Hp), F.g = g → S F m σ H Γ → ∀ Q : Bool → Hp → Prop, (∀ b H1, Kp F.t H H1 → P b → Q b H1) → tt σ H Q
/-- arguments -/
abbrev Sas (g : Gl) (t : Option Tid) (m : List Addr) (H : Hp) : List V → List C → Prop := Paired (Sa g t m H)
def EvA (g : Gl) (ta : TA) (Γ : List C) (P : List C → Prop) : Prop := ∀ (F : Fr) (m : List Addr) (σ : L2.St) (H : Hp), F.g = g → S F m σ H Γ → ∀ Q : List V → Hp → Prop, (∀ vs H1 cs, Kp F.t H H1 → P cs → Sas g F.t m H1 vs cs → Q vs H1) → ta σ H Q
/-- written items, all data -/
def EvD (g : Gl) (ta : TA) (Γ : List C) (P : List D → Prop) : Prop := ∀ (F : Fr) (m : List Addr) (σ : L2.St) (H : Hp), F.g = g → S F m σ H Γ → ∀ Q : List V → Hp → Prop, (∀ vs H1 ds, Kp F.t H H1 → P ds → Rs g (hid m H1) vs ds → Q vs H1) → ta σ H Q

section
variable {g : Gl} {Γ : List C} {ta tb te : TE} {tt tu : TT} {A B P P' : D → Prop} {d x y : D} {i j : Int}
theorem EvS.imp (h : EvS g te Γ P) (k : ∀ d, P d → P' d) : EvS g te Γ P' := fun F m σ H e s Q q => h F m σ H e s Q fun v H1 d k1 p r => q v H1 d k1 (k d p) r
theorem EvS.one (h : EvS g te Γ (· = d)) (k : P d) : EvS g te Γ P := h.imp fun _ e => e ▸ k
theorem EvT.imp {A B : Bool → Prop} (h : EvT g tt Γ A) (k : ∀ b, A b → B b) : EvT g tt Γ B := fun F m σ H e s Q q => h F m σ H e s Q fun b H1 k1 p => q b H1 k1 (k b p)
theorem ev_var {i : Nat} (h : Γ[i]? = some (.d d)) : EvS g (tVar i) Γ (· = d) := fun F m σ H e s Q q => by
  obtain ⟨v, h1, w, rfl, r⟩ := s.at h
  subst e
  exact ⟨w, h1, q w H d (Kp.refl H) rfl r⟩
theorem ev_int : EvS g (tC (.int i)) Γ (· = .int i) := fun F m σ H e s Q q => q _ H _ (Kp.refl H) rfl (.int i)
theorem ev_str {z : Str} : EvS g (tC (.str z)) Γ (· = .str z) := fun F m σ H e s Q q => q _ H _ (Kp.refl H) rfl (.str z)
theorem ev_bl {b : Bool} : EvS g (tC (.bl b)) Γ (· = .bl b) := fun F m σ H e s Q q => q _ H _ (Kp.refl H) rfl (.bl b)
theorem ev_non : EvS g (tC .non) Γ (· = .non) := fun F m σ H e s Q q => q _ H _ (Kp.refl H) rfl .non
/-- what a two-place operation does that leaves the heap -/
def Op2 (g : Gl) (r : R2) (x y : D) (P : D → Prop) : Prop := ∀ (m : List Addr) (H : Hp) (v u : V), R g (hid m H) v x → R g (hid m H) u y → ∀ Q : VK, (∀ w z, P z → R g (hid m H) w z → Q w H) → r v u H Q
theorem ev_op {r : R2} (ha : EvS g ta Γ A) (hb : EvS g tb Γ B) (hr : ∀ x y, A x → B y → Op2 g r x y P) : EvS g (tOp r ta tb) Γ P := fun F m σ H e s Q q =>
  ha F m σ H e s _ fun v H1 x k1 a r1 => hb F m σ H1 e (s.keep k1) _ fun u H2 y k2 b r2 =>
    hr x y a b m H2 v u (r1.mono ((s.keep k1).lt k2).ex) r2 Q fun w z p r3 => q w H2 z (k1.trans k2) p r3
theorem ev_op' {r : R2} (ha : EvS g ta Γ (· = x)) (hb : EvS g tb Γ (· = y)) (hr : Op2 g r x y P) : EvS g (tOp r ta tb) Γ P := ev_op ha hb fun _ _ e1 e2 => e1 ▸ e2 ▸ hr
theorem o2_I0 {f : Int → Int → V} {z : D} (h : ∀ H, R g H (f i j) z) : Op2 g (rI0 f) (.int i) (.int j) (· = z) := fun m H v u r1 r2 Q q => by
  cases r1; cases r2
  exact ⟨i, j, rfl, rfl, q _ z rfl (h _)⟩
theorem o2_I {c : Int → Int → Prop} {f : Int → Int → V} {z : D} (hc : c i j) (h : ∀ H, R g H (f i j) z) : Op2 g (rI c f) (.int i) (.int j) (· = z) := fun m H v u r1 r2 Q q => by
  cases r1; cases r2
  exact ⟨i, j, rfl, rfl, hc, q _ z rfl (h _)⟩
theorem ev_add (ha : EvS g ta Γ (· = .int i)) (hb : EvS g tb Γ (· = .int j)) : EvS g (tOp (rI0 fun i j => .int (i + j)) ta tb) Γ (· = .int (i + j)) := ev_op' ha hb (o2_I0 fun _ => .int _)
theorem ev_sub (ha : EvS g ta Γ (· = .int i)) (hb : EvS g tb Γ (· = .int j)) : EvS g (tOp (rI0 fun i j => .int (i - j)) ta tb) Γ (· = .int (i - j)) := ev_op' ha hb (o2_I0 fun _ => .int _)
theorem ev_I {c : Int → Int → Prop} {f : Int → Int → Int} (ha : EvS g ta Γ (· = .int i)) (hb : EvS g tb Γ (· = .int j)) (hc : c i j) : EvS g (tOp (rI c fun i j => .int (f i j)) ta tb) Γ (· = .int (f i j)) := ev_op' ha hb (o2_I hc fun _ => .int _)
theorem ev_cmp {f : Int → Int → Bool} (ha : EvS g ta Γ (· = .int i)) (hb : EvS g tb Γ (· = .int j)) : EvS g (tOp (rI0 fun i j => .bl (f i j)) ta tb) Γ (· = .bl (f i j)) := ev_op' ha hb (o2_I0 fun _ => .bl _)
/-- ints of a kind -/
theorem ev_I0s {f : Int → Int → Int} (ha : EvS g ta Γ A) (hb : EvS g tb Γ B) (h : ∀ x y, A x → B y → ∃ i j, x = .int i ∧ y = .int j ∧ P (.int (f i j))) : EvS g (tOp (rI0 fun i j => .int (f i j)) ta tb) Γ P := ev_op ha hb fun x y a b => by
  obtain ⟨i, j, rfl, rfl, p⟩ := h x y a b
  intro m H v u r1 r2 Q q
  cases r1; cases r2
  exact ⟨i, j, rfl, rfl, q _ _ p (.int _)⟩
theorem ev_Is {c : Int → Int → Prop} {f : Int → Int → Int} (ha : EvS g ta Γ A) (hb : EvS g tb Γ B) (h : ∀ x y, A x → B y → ∃ i j, x = .int i ∧ y = .int j ∧ c i j ∧ P (.int (f i j))) : EvS g (tOp (rI c fun i j => .int (f i j)) ta tb) Γ P := ev_op ha hb fun x y a b => by
  obtain ⟨i, j, rfl, rfl, hc, p⟩ := h x y a b
  intro m H v u r1 r2 Q q
  cases r1; cases r2
  exact ⟨i, j, rfl, rfl, hc, q _ _ p (.int _)⟩
theorem ev_cmps {f : Int → Int → Bool} (ha : EvS g ta Γ A) (hb : EvS g tb Γ B) (h : ∀ x y, A x → B y → ∃ i j, x = .int i ∧ y = .int j ∧ P (.bl (f i j))) : EvS g (tOp (rI0 fun i j => .bl (f i j)) ta tb) Γ P := ev_op ha hb fun x y a b => by
  obtain ⟨i, j, rfl, rfl, p⟩ := h x y a b
  intro m H v u r1 r2 Q q
  cases r1; cases r2
  exact ⟨i, j, rfl, rfl, q _ _ p (.bl _)⟩
theorem ev_un {f : Int → Int} (ha : EvS g ta Γ (· = .int i)) : EvS g (tUn (rU fun i => .int (f i)) ta) Γ (· = .int (f i)) := fun F m σ H e s Q q =>
  ha F m σ H e s _ fun v H1 d k1 a r1 => by
    subst a; cases r1
    exact ⟨i, rfl, q _ H1 _ k1 rfl (.int _)⟩
/-! scalars alike -/
theorem ev_eqI (ha : EvS g ta Γ (· = .int i)) (hb : EvS g tb Γ (· = .int j)) : EvS g (tOp rEq ta tb) Γ (· = .bl (decide (i = j))) := ev_op' ha hb fun m H v u r1 r2 Q q => by
  cases r1; cases r2
  refine ⟨rfl, q _ _ rfl ?_⟩
  have e : decide (V.int i = V.int j) = decide (i = j) := decide_eq_decide.mpr ⟨fun z => V.int.inj z, fun z => by rw [z]⟩
  rw [e]
  exact .bl _
theorem ev_neI (ha : EvS g ta Γ (· = .int i)) (hb : EvS g tb Γ (· = .int j)) : EvS g (tOp rNe ta tb) Γ (· = .bl (!decide (i = j))) := ev_op' ha hb fun m H v u r1 r2 Q q => by
  cases r1; cases r2
  refine ⟨rfl, q _ _ rfl ?_⟩
  have e : decide (V.int i = V.int j) = decide (i = j) := decide_eq_decide.mpr ⟨fun z => V.int.inj z, fun z => by rw [z]⟩
  rw [e]
  exact .bl _
theorem ev_eqS {z w : Str} (ha : EvS g ta Γ (· = .str z)) (hb : EvS g tb Γ (· = .str w)) : EvS g (tOp rEq ta tb) Γ (· = .bl (decide (z = w))) := ev_op' ha hb fun m H v u r1 r2 Q q => by
  cases r1; cases r2
  refine ⟨rfl, q _ _ rfl ?_⟩
  have e : decide (V.str z = V.str w) = decide (z = w) := decide_eq_decide.mpr ⟨fun z => V.str.inj z, fun z => by rw [z]⟩
  rw [e]
  exact .bl _
theorem ev_neS {z w : Str} (ha : EvS g ta Γ (· = .str z)) (hb : EvS g tb Γ (· = .str w)) : EvS g (tOp rNe ta tb) Γ (· = .bl (!decide (z = w))) := ev_op' ha hb fun m H v u r1 r2 Q q => by
  cases r1; cases r2
  refine ⟨rfl, q _ _ rfl ?_⟩
  have e : decide (V.str z = V.str w) = decide (z = w) := decide_eq_decide.mpr ⟨fun z => V.str.inj z, fun z => by rw [z]⟩
  rw [e]
  exact .bl _
theorem ev_eqB {z w : Bool} (ha : EvS g ta Γ (· = .bl z)) (hb : EvS g tb Γ (· = .bl w)) : EvS g (tOp rEq ta tb) Γ (· = .bl (decide (z = w))) := ev_op' ha hb fun m H v u r1 r2 Q q => by
  cases r1; cases r2
  refine ⟨rfl, q _ _ rfl ?_⟩
  have e : decide (V.bl z = V.bl w) = decide (z = w) := decide_eq_decide.mpr ⟨fun z => V.bl.inj z, fun z => by rw [z]⟩
  rw [e]
  exact .bl _
theorem ev_neB {z w : Bool} (ha : EvS g ta Γ (· = .bl z)) (hb : EvS g tb Γ (· = .bl w)) : EvS g (tOp rNe ta tb) Γ (· = .bl (!decide (z = w))) := ev_op' ha hb fun m H v u r1 r2 Q q => by
  cases r1; cases r2
  refine ⟨rfl, q _ _ rfl ?_⟩
  have e : decide (V.bl z = V.bl w) = decide (z = w) := decide_eq_decide.mpr ⟨fun z => V.bl.inj z, fun z => by rw [z]⟩
  rw [e]
  exact .bl _

/-! items -/
theorem at_map {vs : List V} {ds : List D} {H : Hp} {k : Int} (h : Rs g H vs ds) (e : atI ds k = some d) : ∃ v, atI vs k = some v ∧ R g H v d := by
  unfold atI at e ⊢
  rw [h.len]
  cases q : ixN ds.length k with
  | none => rw [q] at e; cases e
  | some n =>
    rw [q] at e
    exact h.getd e
theorem o2_ixT {ds : List D} {k : Int} (e : atI ds k = some d) : Op2 g (rIxT g.K) (.tup ds) (.int k) (· = d) := fun m H v u r1 r2 Q q => by
  cases r1; cases r2
  rename_i h1 h2
  obtain ⟨w, e1, r⟩ := at_map h2 e
  exact ⟨_, _, k, w, rfl, rfl, SqT.of (hid_some h1).2, e1, q w d rfl r⟩
theorem o2_ixK {ds : List D} {k : Int} (e : atI ds k = some d) : Op2 g (rIxT g.K) (.ktup ds) (.int k) (· = d) := fun m H v u r1 r2 Q q => by
  cases r1; cases r2
  rename_i h1 h2
  obtain ⟨w, e1, r⟩ := at_map h2 e
  exact ⟨_, _, k, w, rfl, rfl, Evl.ex_t (hid_ex m H) h1, e1, q w d rfl r⟩
theorem o2_ixL {ds : List D} {k : Int} (e : atI ds k = some d) : Op2 g (rIxL g.K) (.lst ds) (.int k) (· = d) := fun m H v u r1 r2 Q q => by
  cases r1; cases r2
  rename_i h1 h2
  obtain ⟨w, e1, r⟩ := at_map h2 e
  exact ⟨_, _, k, w, rfl, rfl, SqL.of (hid_some h1).2, e1, q w d rfl r⟩
theorem o2_ixS {z : Str} {k : Int} {c : Nat} (hl : z.length ≤ sizeLine) (e : atI z.cps.toList k = some c) : Op2 g rIxS (.str z) (.int k) (· = .str ⟨#[c]⟩) := fun m H v u r1 r2 Q q => by
  cases r1; cases r2
  exact ⟨_, k, c, rfl, rfl, hl, e, q _ _ rfl (.str _)⟩
theorem ev_t0 {ds : List D} (h : EvS g ta Γ (· = .tup (d :: ds))) : EvS g (tOp (rIxT g.K) ta (tC (.int 0))) Γ (· = d) := ev_op' h ev_int (o2_ixT (atI_nat (j := 0) rfl))
theorem ev_t1 {ds : List D} (h : EvS g ta Γ (· = .tup (x :: d :: ds))) : EvS g (tOp (rIxT g.K) ta (tC (.int 1))) Γ (· = d) := ev_op' h ev_int (o2_ixT (atI_nat (j := 1) rfl))
theorem ev_t2 {ds : List D} (h : EvS g ta Γ (· = .tup (x :: y :: d :: ds))) : EvS g (tOp (rIxT g.K) ta (tC (.int 2))) Γ (· = d) := ev_op' h ev_int (o2_ixT (atI_nat (j := 2) rfl))
theorem ev_k0 {ds : List D} (h : EvS g ta Γ (· = .ktup (d :: ds))) : EvS g (tOp (rIxT g.K) ta (tC (.int 0))) Γ (· = d) := ev_op' h ev_int (o2_ixK (atI_nat (j := 0) rfl))
theorem ev_k1 {ds : List D} (h : EvS g ta Γ (· = .ktup (x :: d :: ds))) : EvS g (tOp (rIxT g.K) ta (tC (.int 1))) Γ (· = d) := ev_op' h ev_int (o2_ixK (atI_nat (j := 1) rfl))
theorem ev_ixL {ds : List D} {k : Int} (h : EvS g ta Γ (· = .lst ds)) (hi : EvS g tb Γ (· = .int k)) (e : atI ds k = some d) : EvS g (tOp (rIxL g.K) ta tb) Γ (· = d) := ev_op' h hi (o2_ixL e)
theorem ev_ixT {ds : List D} {k : Int} (h : EvS g ta Γ (· = .tup ds)) (hi : EvS g tb Γ (· = .int k)) (e : atI ds k = some d) : EvS g (tOp (rIxT g.K) ta tb) Γ (· = d) := ev_op' h hi (o2_ixT e)
theorem ev_ixS {z : Str} {k : Int} {c : Nat} (h : EvS g ta Γ (· = .str z)) (hi : EvS g tb Γ (· = .int k)) (hl : z.length ≤ sizeLine) (e : atI z.cps.toList k = some c) : EvS g (tOp rIxS ta tb) Γ (· = .str ⟨#[c]⟩) := ev_op' h hi (o2_ixS hl e)
/-- a list of some kind, an index of some kind -/
theorem ev_ixLs (h : EvS g ta Γ A) (hi : EvS g tb Γ B) (e : ∀ x y, A x → B y → ∃ ds k d, x = .lst ds ∧ y = .int k ∧ atI ds k = some d ∧ P d) : EvS g (tOp (rIxL g.K) ta tb) Γ P := ev_op h hi fun x y a b => by
  obtain ⟨ds, k, d, rfl, rfl, h1, p⟩ := e x y a b
  intro m H v u r1 r2 Q q
  exact o2_ixL h1 m H v u r1 r2 Q fun w z ez r => q w z (ez ▸ p) r
theorem ev_ixTs (h : EvS g ta Γ A) (hi : EvS g tb Γ B) (e : ∀ x y, A x → B y → ∃ ds k d, x = .tup ds ∧ y = .int k ∧ atI ds k = some d ∧ P d) : EvS g (tOp (rIxT g.K) ta tb) Γ P := ev_op h hi fun x y a b => by
  obtain ⟨ds, k, d, rfl, rfl, h1, p⟩ := e x y a b
  intro m H v u r1 r2 Q q
  exact o2_ixT h1 m H v u r1 r2 Q fun w z ez r => q w z (ez ▸ p) r
theorem ev_ixSs (h : EvS g ta Γ A) (hi : EvS g tb Γ B) (e : ∀ x y, A x → B y → ∃ z k c, x = .str z ∧ y = .int k ∧ z.length ≤ sizeLine ∧ atI z.cps.toList k = some c ∧ P (.str ⟨#[c]⟩)) : EvS g (tOp rIxS ta tb) Γ P := ev_op h hi fun x y a b => by
  obtain ⟨z, k, c, rfl, rfl, hl, h1, p⟩ := e x y a b
  intro m H v u r1 r2 Q q
  exact o2_ixS hl h1 m H v u r1 r2 Q fun w z ez r => q w z (ez ▸ p) r

/-! written tuples and lists -/
theorem ed_nil : EvD g tNil Γ (· = []) := fun F m σ H e s Q q => q [] H [] (Kp.refl H) rfl .nil
theorem ed_cons {tr : TA} {As Ps : List D → Prop} (h : EvS g ta Γ A) (hr : EvD g tr Γ As) (k : ∀ x l, A x → As l → Ps (x :: l)) : EvD g (tCons ta tr) Γ Ps := fun F m σ H e s Q q =>
  h F m σ H e s _ fun v H1 x k1 a r1 => hr F m σ H1 e (s.keep k1) _ fun vs H2 l k2 b r2 => q (v :: vs) H2 (x :: l) (k1.trans k2) (k x l a b) (.cons (r1.mono ((s.keep k1).lt k2).ex) r2)
theorem ed_cons' {tr : TA} {l : List D} (h : EvS g ta Γ (· = x)) (hr : EvD g tr Γ (· = l)) : EvD g (tCons ta tr) Γ (· = x :: l) := ed_cons h hr fun _ _ e1 e2 => by rw [e1, e2]
theorem hid_new {m : List Addr} {H : Hp} {p : Addr} {o : HO} (h : H p = none) : Ex (hid m H) (hid (p :: m) (upd H p o)) := fun a u e => by
  obtain ⟨h1, h2⟩ := hid_some e
  have n : a ≠ p := fun z => by rw [z, h] at h2; cases h2
  rw [hid_out (fun z => (List.mem_cons.mp z).elim n h1), upd_ne n]
  exact h2
theorem kp_new {t : Option Tid} {H : Hp} {p : Addr} {o : HO} (h : H p = none) : Kp t H (upd H p o) := .of (Ex.new h)
theorem S.fresh {F : Fr} {m : List Addr} {σ : L2.St} {H : Hp} (s : S F m σ H Γ) {p : Addr} (h : H p = none) : p ∉ m := fun z => (s.occ p z).1 h
theorem Kp.back {F : Fr} {m : List Addr} {σ : L2.St} {H H1 : Hp} (s : S F m σ H Γ) (k : Kp F.t H H1) {p : Addr} (h : H1 p = none) : H p = none := by
  cases e : H p with
  | none => rfl
  | some o => exact absurd h (k.occ s.tape (by rw [e]; exact fun z => by cases z))
theorem ev_tup {tl : TA} {Ps : List D → Prop} (h : EvD g tl Γ Ps) (hl : ∀ l, Ps l → l.length ≤ 100000) (k : ∀ l, Ps l → P (.tup l)) : EvS g (tTup tl) Γ P := fun F m σ H e s Q q =>
  h F m σ H e s _ fun vs H1 l k1 a r => ⟨Evl.sz_of (by rw [r.len]; exact hl l a), fun p hp => by
    have np := (s.keep k1).fresh hp
    refine q _ _ (.tup l) (k1.trans (kp_new hp)) (k l a) (.tup ?_ (r.mono (.of (ex_kp (s.keep k1).tin (kp_new hp)))))
    rw [hid_out np]
    exact upd_same⟩
theorem ev_tup' {tl : TA} {l : List D} (h : EvD g tl Γ (· = l)) (hl : l.length ≤ 100000) : EvS g (tTup tl) Γ (· = .tup l) := ev_tup h (fun _ e => e ▸ hl) fun _ e => by rw [e]
theorem ev_p2 (ha : EvS g ta Γ (· = x)) (hb : EvS g tb Γ (· = y)) : EvS g (tTup (tCons ta (tCons tb tNil))) Γ (· = .tup [x, y]) := ev_tup' (ed_cons' ha (ed_cons' hb ed_nil)) (by show 2 ≤ 100000; decide)
theorem ev_p3 {z : D} {tc : TE} (ha : EvS g ta Γ (· = x)) (hb : EvS g tb Γ (· = y)) (hc : EvS g tc Γ (· = z)) : EvS g (tTup (tCons ta (tCons tb (tCons tc tNil)))) Γ (· = .tup [x, y, z]) := ev_tup' (ed_cons' ha (ed_cons' hb (ed_cons' hc ed_nil))) (by show 3 ≤ 100000; decide)
theorem el_lst {tl : TA} {Ps : List D → Prop} (h : EvD g tl Γ Ps) (hl : ∀ l, Ps l → l.length ≤ 100000) : EvL g (tLst tl) Γ Ps := fun F m σ H e s Q q =>
  h F m σ H e s _ fun vs H1 l k1 a r => ⟨Evl.sz_of (by rw [r.len]; exact hl l a), fun p hp => by
    have np := (s.keep k1).fresh hp
    exact q p _ vs l (k1.trans (kp_new hp)) (Kp.back s k1 hp) upd_same a (r.mono (.of (hid_new hp)))⟩
theorem el_lst' {tl : TA} {l : List D} (h : EvD g tl Γ (· = l)) (hl : l.length ≤ 100000) : EvL g (tLst tl) Γ (· = l) := el_lst h (fun _ e => e ▸ hl)
theorem EvL.ev {Ps : List D → Prop} (h : EvL g te Γ Ps) : EvS g te Γ (fun d => ∃ l, d = .lst l ∧ Ps l) := fun F m σ H e s Q q =>
  h F m σ H e s Q fun p H1 xs ds k1 hp hx a r => by
    refine q _ H1 (.lst ds) k1 ⟨ds, rfl, a⟩ (.lst ?_ (r.mono (.of (hid_less fun a h => List.mem_cons_of_mem _ h))))
    rw [hid_out (s.fresh hp)]
    exact hx
theorem EvL.ev' {l : List D} (h : EvL g te Γ (· = l)) : EvS g te Γ (· = .lst l) := h.ev.imp fun _ ⟨_, e1, e2⟩ => by rw [e1, e2]
theorem EvL.imp {Ps Pt : List D → Prop} (h : EvL g te Γ Ps) (k : ∀ l, Ps l → Pt l) : EvL g te Γ Pt := fun F m σ H e s Q q => h F m σ H e s Q fun p H1 xs ds k1 hp hx a r => q p H1 xs ds k1 hp hx (k ds a) r
theorem em_new : EvM g tDNewT Γ (· = []) := fun F m σ H e s Q q p hp => q p _ [] [] (kp_new hp) hp upd_same rfl rfl .nil

/-! tests -/
theorem et_test {b : Bool} (h : EvS g te Γ (· = .bl b)) : EvT g (tTest te) Γ (· = b) := fun F m σ H e s Q q => h F m σ H e s _ fun v H1 d k1 a r => by
  subst a; cases r
  exact ⟨b, rfl, q b H1 k1 rfl⟩
theorem et_B {b : Bool} (h : EvS g te Γ (· = .bl b)) : EvT g (tB te) Γ (· = b) := fun F m σ H e s Q q => h F m σ H e s _ fun v H1 d k1 a r => by
  subst a; cases r
  exact ⟨b, rfl, q b H1 k1 rfl⟩
theorem et_tests {Pb : Bool → Prop} (h : EvS g te Γ A) (k : ∀ x, A x → ∃ b, x = .bl b ∧ Pb b) : EvT g (tTest te) Γ Pb := fun F m σ H e s Q q => h F m σ H e s _ fun v H1 d k1 a r => by
  obtain ⟨b, rfl, p⟩ := k d a
  cases r
  exact ⟨b, rfl, q b H1 k1 p⟩
theorem et_Bs {Pb : Bool → Prop} (h : EvS g te Γ A) (k : ∀ x, A x → ∃ b, x = .bl b ∧ Pb b) : EvT g (tB te) Γ Pb := fun F m σ H e s Q q => h F m σ H e s _ fun v H1 d k1 a r => by
  obtain ⟨b, rfl, p⟩ := k d a
  cases r
  exact ⟨b, rfl, q b H1 k1 p⟩
theorem et_not {b : Bool} (h : EvT g tt Γ (· = b)) : EvT g (tNot tt) Γ (· = !b) := fun F m σ H e s Q q => h F m σ H e s _ fun c H1 k1 a => q _ H1 k1 (by rw [a])
theorem et_yes : EvT g tYes Γ (· = true) := fun F m σ H e s Q q => q true H (Kp.refl H) rfl
theorem et_and {a b : Bool} (h : EvT g tt Γ (· = a)) (k : a = true → EvT g tu Γ (· = b)) : EvT g (tAnd tt tu) Γ (· = (a && b)) := fun F m σ H e s Q q => h F m σ H e s _ fun c H1 k1 z => by
  subst z
  cases c with
  | true =>
    show tu σ H1 Q
    exact k rfl F m σ H1 e (s.keep k1) Q fun w H2 k2 z => q w H2 (k1.trans k2) (by rw [z]; rfl)
  | false =>
    show Q false H1
    exact q false H1 k1 rfl
theorem et_or {a b : Bool} (h : EvT g tt Γ (· = a)) (k : a = false → EvT g tu Γ (· = b)) : EvT g (tOr tt tu) Γ (· = (a || b)) := fun F m σ H e s Q q => h F m σ H e s _ fun c H1 k1 z => by
  subst z
  cases c with
  | false =>
    show tu σ H1 Q
    exact k rfl F m σ H1 e (s.keep k1) Q fun w H2 k2 z => q w H2 (k1.trans k2) (by rw [z]; rfl)
  | true =>
    show Q true H1
    exact q true H1 k1 rfl
theorem ev_andV {a b : Bool} (h : EvS g ta Γ (· = .bl a)) (k : a = true → EvS g tb Γ (· = .bl b)) : EvS g (tAndV ta tb) Γ (· = .bl (a && b)) := fun F m σ H e s Q q => h F m σ H e s _ fun v H1 d k1 z r => by
  subst z; cases r
  refine ⟨a, rfl, ?_⟩
  cases a with
  | true =>
    show tb σ H1 Q
    exact k rfl F m σ H1 e (s.keep k1) Q fun w H2 z k2 e2 r2 => q w H2 z (k1.trans k2) (by rw [e2]; rfl) r2
  | false =>
    show Q (.bl false) H1
    exact q _ H1 _ k1 rfl (.bl _)
theorem ev_orV {a b : Bool} (h : EvS g ta Γ (· = .bl a)) (k : a = false → EvS g tb Γ (· = .bl b)) : EvS g (tOrV ta tb) Γ (· = .bl (a || b)) := fun F m σ H e s Q q => h F m σ H e s _ fun v H1 d k1 z r => by
  subst z; cases r
  refine ⟨a, rfl, ?_⟩
  cases a with
  | false =>
    show tb σ H1 Q
    exact k rfl F m σ H1 e (s.keep k1) Q fun w H2 z k2 e2 r2 => q w H2 z (k1.trans k2) (by rw [e2]; rfl) r2
  | true =>
    show Q (.bl true) H1
    exact q _ H1 _ k1 rfl (.bl _)
theorem ev_notV {a : Bool} (h : EvS g ta Γ (· = .bl a)) : EvS g (tNotV ta) Γ (· = .bl (!a)) := fun F m σ H e s Q q => h F m σ H e s _ fun v H1 d k1 z r => by
  subst z; cases r
  exact ⟨a, rfl, q _ H1 _ k1 rfl (.bl _)⟩
theorem ev_if {Pb : Bool → Prop} (h : EvT g tt Γ Pb) (k1 : Pb true → EvS g ta Γ P) (k2 : Pb false → EvS g tb Γ P) : EvS g (tIf tt ta tb) Γ P := fun F m σ H e s Q q => h F m σ H e s _ fun c H1 k z => by
  cases c with
  | true =>
    show ta σ H1 Q
    exact k1 z F m σ H1 e (s.keep k) Q fun w H2 z k2 e2 r2 => q w H2 z (k.trans k2) e2 r2
  | false =>
    show tb σ H1 Q
    exact k2 z F m σ H1 e (s.keep k) Q fun w H2 z k2 e2 r2 => q w H2 z (k.trans k2) e2 r2
/-- two comparisons in a row -/
theorem ev_chain {f f' : Int → Int → Bool} {k : Int} {tc : TE} (ha : EvS g ta Γ (· = .int i)) (hb : EvS g tb Γ (· = .int j)) (hc : f i j = true → EvS g tc Γ (· = .int k)) :
    EvS g (tChain (rI0 fun i j => .bl (f i j)) (rI0 fun i j => .bl (f' i j)) ta tb tc) Γ (· = .bl (f i j && f' j k)) := fun F m σ H e s Q q =>
  ha F m σ H e s _ fun v H1 x k1 a r1 => hb F m σ H1 e (s.keep k1) _ fun u H2 y k2 b r2 => by
    subst a; subst b; cases r1; cases r2
    refine ⟨i, j, rfl, rfl, f i j, rfl, ?_⟩
    cases h : f i j with
    | true =>
      show tc σ H2 _
      exact hc h F m σ H2 e ((s.keep k1).keep k2) _ fun w H3 z k3 c r3 => by
        subst c; cases r3
        exact ⟨j, k, rfl, rfl, q _ H3 _ ((k1.trans k2).trans k3) (by rw [h]; rfl) (.bl _)⟩
    | false =>
      show Q (.bl false) H2
      exact q _ H2 _ (k1.trans k2) (by rw [h]; rfl) (.bl _)

/-! calls -/
theorem ea_nil : EvA g tNil Γ (· = []) := fun F m σ H e s Q q => q [] H [] (Kp.refl H) rfl .nil
theorem Sa.keep {F : Fr} {m : List Addr} {σ : L2.St} {H H' : Hp} (s : S F m σ H Γ) (k : Kp F.t H H') {v : V} {c : C} (h : Sa g F.t m H v c) : Sa g F.t m H' v c := by
  cases c with
  | d x => exact R.mono (s.lt k).ex h
  | tp => exact h
  | un => exact h
  | ml _ => exact h
  | md _ => exact h
  | io _ _ _ => exact h
theorem ea_cons {tr : TA} {As Ps : List C → Prop} (h : EvS g ta Γ A) (hr : EvA g tr Γ As) (k : ∀ x l, A x → As l → Ps (.d x :: l)) : EvA g (tCons ta tr) Γ Ps := fun F m σ H e s Q q =>
  h F m σ H e s _ fun v H1 x k1 a r1 => hr F m σ H1 e (s.keep k1) _ fun vs H2 l k2 b r2 => q (v :: vs) H2 (.d x :: l) (k1.trans k2) (k x l a b) (.cons (R.mono ((s.keep k1).lt k2).ex r1) r2)
theorem ea_cons' {tr : TA} {l : List C} (h : EvS g ta Γ (· = x)) (hr : EvA g tr Γ (· = l)) : EvA g (tCons ta tr) Γ (· = .d x :: l) := ea_cons h hr fun _ _ e1 e2 => by rw [e1, e2]
theorem ea_tp {tr : TA} {As Ps : List C → Prop} {i : Nat} (h : Γ[i]? = some .tp) (hr : EvA g tr Γ As) (k : ∀ l, As l → Ps (.tp :: l)) : EvA g (tCons (tVar i) tr) Γ Ps := fun F m σ H e s Q q => by
  obtain ⟨v, h1, τ, h2, rfl⟩ := s.at h
  exact ⟨_, h1, hr F m σ H e s _ fun vs H2 l k2 b r2 => q _ H2 (.tp :: l) k2 (k l b) (.cons ⟨τ, h2, rfl⟩ r2)⟩
theorem ea_tp' {tr : TA} {l : List C} {i : Nat} (h : Γ[i]? = some .tp) (hr : EvA g tr Γ (· = l)) : EvA g (tCons (tVar i) tr) Γ (· = .tp :: l) := ea_tp h hr fun _ e => by rw [e]
/-- what a def promises, told by data: at the arguments arg i -/
def pr (g : Gl) (n : Nat) {ι : Type} (arg : ι → List C) (Pre : ι → Prop) (Post : ι → D → Prop) : Sp := fun vs H Q _ => ∃ (t : Option Tid) (m : List Addr) (i : ι), (arg i).length = n ∧ (∀ a ∈ m, Held H a) ∧ (∀ τ, t = some τ → τ.a ∈ m ∧ Tape τ H) ∧ Sas g t m H vs (arg i) ∧ Pre i ∧
  ∀ v H' d, Kp t H H' → Post i d → R g (hid m H') v d → Q v H'
section
variable {ι : Type} {n : Nat} {arg : ι → List C} {Pre : ι → Prop} {Post : ι → D → Prop}
theorem pr_len {ps : List Str} (hn : ps.length = n) : ∀ vs H Q E, pr g n arg Pre Post vs H Q E → vs.length = ps.length := fun vs H Q E ⟨t, m, cs, h1, _, _, h2, _⟩ => by rw [Paired.length h2, h1, hn]
theorem pr_use {F : Fr} {m : List Addr} {σ : L2.St} {H : Hp} {vs : List V} {Q : VK} (k : ι) (e : F.g = g) (s : S F m σ H Γ) (a : Sas g F.t m H vs (arg k)) (hn : (arg k).length = n) (hp : Pre k)
    (q : ∀ v H' d, Kp F.t H H' → Post k d → R g (hid m H') v d → Q v H') : pr g n arg Pre Post vs H Q E0 :=
  ⟨F.t, m, k, hn, s.occ, fun τ h => ⟨s.tin τ h, s.tape τ h⟩, a, hp, q⟩
theorem ev_call {tl : TA} {As : List C → Prop} (h : EvA g tl Γ As) (k : ∀ cs, As cs → ∃ i, cs = arg i ∧ (arg i).length = n ∧ Pre i ∧ ∀ d, Post i d → P d) : EvS g (tCall (pr g n arg Pre Post) [] E0 tl) Γ P := fun F m σ H e s Q q =>
  h F m σ H e s _ fun vs H1 cs k1 a r => by
    obtain ⟨i, rfl, h1, h2, h3⟩ := k cs a
    rw [List.append_nil]
    exact pr_use i e (s.keep k1) r h1 h2 fun v H2 d k2 p r2 => q v H2 d (k1.trans k2) (h3 d p) r2
theorem ev_callI (k : ι) {tl : TA} (h : EvA g tl Γ (· = arg k)) (hp : Pre k) (hn : (arg k).length = n := by rfl) : EvS g (tCall (pr g n arg Pre Post) [] E0 tl) Γ (Post k) := ev_call h fun cs e => ⟨k, e, hn, hp, fun _ z => z⟩
/-- o.m(..) -/
theorem ev_meth {Cl : Addr} {mm : Str} {tl : TA} (k : ι) {o : D} {rest : List C} (ho : EvS g ta Γ (· = o)) (ob : ∀ (m : List Addr) (H : Hp) (v : V), R g (hid m H) v o → ∃ a dx fs, v = .ref a ∧ H a = some (.ins Cl dx fs) ∧ fs.lookup mm = none)
    (h : EvA g tl Γ (· = rest)) (ha : arg k = .d o :: rest) (hp : Pre k) (hn : (arg k).length = n := by rfl) : EvS g (tMeth Cl mm (pr g n arg Pre Post) [] E0 ta tl) Γ (Post k) := fun F m σ H e s Q q =>
  ho F m σ H e s _ fun v H1 d k1 a r => by
    subst a
    obtain ⟨p, dx, fs, rfl, h1, h2⟩ := ob m H1 v r
    refine ⟨p, dx, fs, rfl, h1, h2, h F m σ H1 e (s.keep k1) _ fun vs H2 cs k2 e2 r2 => ?_⟩
    subst e2
    rw [List.append_nil]
    exact pr_use k e ((s.keep k1).keep k2) (by rw [ha]; exact .cons (R.mono ((s.keep k1).lt k2).ex r) r2) hn hp fun v H3 d k3 p r3 => q v H3 d ((k1.trans k2).trans k3) p r3
/-- o.p, a property -/
theorem ev_prop {Cl : Addr} (k : ι) {o : D} (ho : EvS g ta Γ (· = o)) (ob : ∀ (m : List Addr) (H : Hp) (v : V), R g (hid m H) v o → ∃ a dx fs, v = .ref a ∧ H a = some (.ins Cl dx fs))
    (ha : arg k = [.d o]) (hp : Pre k) (hn : (arg k).length = n := by rfl) : EvS g (tProp Cl (pr g n arg Pre Post) [] E0 ta) Γ (Post k) := fun F m σ H e s Q q =>
  ho F m σ H e s _ fun v H1 d k1 a r => by
    subst a
    obtain ⟨p, dx, fs, rfl, h1⟩ := ob m H1 v r
    refine ⟨p, dx, fs, rfl, h1, pr_use k e (s.keep k1) (by rw [ha]; exact .cons r .nil) hn hp fun v H3 d k3 p r3 => q v H3 d (k1.trans k3) p r3⟩
/-- an attribute of an instance -/
theorem ev_fld {f : Str} {o : D} {K : PySem.W.Frag} (ho : EvS g ta Γ (· = o)) (ob : ∀ (m : List Addr) (H : Hp) (v : V), R g (hid m H) v o → ∃ a Cl dx fs w, v = .ref a ∧ H a = some (.ins Cl dx fs) ∧ Cls K Cl ∧ NoAttr K Cl f ∧ fs.lookup f = some w ∧ R g (hid m H) w x) : EvS g (tFld K ta f) Γ (· = x) := fun F m σ H e s Q q =>
  ho F m σ H e s _ fun v H1 d k1 a r => by
    subst a
    obtain ⟨p, Cl, dx, fs, w, rfl, h1, h2, h3, h4, h5⟩ := ob m H1 v r
    exact ⟨p, Cl, dx, fs, w, rfl, h1, h2, h3, h4, q w H1 x k1 rfl h5⟩
end
end
end K55
set_option maxHeartbeats 1000000
/-! Targets, walks, statements over such slots. -/
namespace K55
open PySem PySem.Spec PyProof.Rows L2
open Evl (Ex)

/-! ### slots forgotten -/
def wipeC (Γ : List C) : List Nat → List C
  | [] => Γ
  | v :: vs => (wipeC Γ vs).set v .un
theorem wipe_in {σ : L2.St} {k : Nat} : ∀ {vs : List Nat}, k ∈ vs → (wipe σ vs)[k]? = if k < σ.length then some none else none
  | v :: vs, h => by
    unfold wipe
    rw [List.getElem?_set, wipe_length]
    by_cases q : v = k
    · subst q; rw [if_pos rfl]
    · rw [if_neg q]
      exact wipe_in ((List.mem_cons.mp h).resolve_left fun z => q z.symm)
theorem wipe_set {σ : L2.St} {i : Nat} {x : Option V} {vs : List Nat} (h : i ∈ vs) : wipe (σ.set i x) vs = wipe σ vs := by
  apply List.ext_getElem?
  intro k
  by_cases q : k ∈ vs
  · rw [wipe_in q, wipe_in q, List.length_set]
  · rw [wipe_out q, wipe_out q, List.getElem?_set_ne]
    intro z
    exact q (z ▸ h)
theorem wipe_wipe {σ : L2.St} {vs : List Nat} : wipe (wipe σ vs) vs = wipe σ vs := by
  apply List.ext_getElem?
  intro k
  by_cases q : k ∈ vs
  · rw [wipe_in q, wipe_in q, wipe_length]
  · rw [wipe_out q]
section
variable {g : Gl} {F : Fr} {m : List Addr} {σ : L2.St} {H : Hp} {Γ Γ' Γ'' : List C}
theorem S.wipe (s : S F m σ H Γ) : ∀ vs : List Nat, S F m (L2.wipe σ vs) H (wipeC Γ vs)
  | [] => s
  | v :: vs => (S.wipe s vs).set rfl trivial

/-! ### targets -/
def EvG (g : Gl) (tg : TG) (js : List Nat) (d : D) (Γ Γ' : List C) : Prop := ∀ (F : Fr) (m : List Addr) (σ : L2.St) (H : Hp) (v : V), F.g = g → S F m σ H Γ → R g (hid m H) v d → ∀ Q : L2.St → Hp → Prop,
  (∀ σ', S F m σ' H Γ' → (∀ vs, (∀ i ∈ js, i ∈ vs) → L2.wipe σ' vs = L2.wipe σ vs) → Q σ' H) → tg v σ H Q
def EvGs (g : Gl) (tg : TGs) (js : List Nat) (ds : List D) (Γ Γ' : List C) : Prop := ∀ (F : Fr) (m : List Addr) (σ : L2.St) (H : Hp) (vs : List V), F.g = g → S F m σ H Γ → Rs g (hid m H) vs ds → ∀ Q : L2.St → Hp → Prop,
  (∀ σ', S F m σ' H Γ' → (∀ vs, (∀ i ∈ js, i ∈ vs) → L2.wipe σ' vs = L2.wipe σ vs) → Q σ' H) → tg vs σ H Q
theorem eg_name {i : Nat} {d : D} : EvG g (gName i) [i] d Γ (Γ.set i (.d d)) := fun F m σ H v e s r Q q => by
  subst e
  exact q _ (s.setd r) fun vs h => wipe_set (h i (List.mem_singleton.mpr rfl))
theorem eg_nil : EvGs g gNil [] [] Γ Γ := fun F m σ H vs e s r Q q => by
  cases r
  exact ⟨rfl, q σ s fun _ _ => rfl⟩
theorem eg_cons {t : TG} {u : TGs} {j1 j2 : List Nat} {d : D} {ds : List D} (h1 : EvG g t j1 d Γ Γ') (h2 : EvGs g u j2 ds Γ' Γ'') : EvGs g (gCons t u) (j1 ++ j2) (d :: ds) Γ Γ'' := fun F m σ H vs e s r Q q => by
  cases r with
  | cons r1 r2 =>
    exact ⟨_, _, rfl, h1 F m σ H _ e s r1 _ fun σ1 s1 w1 => h2 F m σ1 H _ e s1 r2 Q fun σ2 s2 w2 => q σ2 s2 fun vs hv => (w2 vs fun i hi => hv i (List.mem_append_right _ hi)).trans (w1 vs fun i hi => hv i (List.mem_append_left _ hi))⟩
theorem eg_tup {t : TGs} {n : Nat} {js : List Nat} {ds : List D} (h : EvGs g t js ds Γ Γ') (hn : ds.length = n) : EvG g (gTup g.K n t) js (.tup ds) Γ Γ' := fun F m σ H v e s r Q q => by
  cases r with
  | tup h1 h2 => exact ⟨_, _, rfl, SqT.of (hid_some h1).2, h2.len.trans hn, h F m σ H _ e s h2 Q q⟩
theorem eg_2 {i j : Nat} {x y : D} : EvG g (gTup g.K 2 (gCons (gName i) (gCons (gName j) gNil))) [i, j] (.tup [x, y]) Γ ((Γ.set i (.d x)).set j (.d y)) := eg_tup (eg_cons eg_name (eg_cons eg_name eg_nil)) rfl
theorem eg_3 {i j k : Nat} {x y z : D} : EvG g (gTup g.K 3 (gCons (gName i) (gCons (gName j) (gCons (gName k) gNil)))) [i, j, k] (.tup [x, y, z]) Γ (((Γ.set i (.d x)).set j (.d y)).set k (.d z)) := eg_tup (eg_cons eg_name (eg_cons eg_name (eg_cons eg_name eg_nil))) rfl
theorem eg_4 {i j k l : Nat} {x y z w : D} : EvG g (gTup g.K 4 (gCons (gName i) (gCons (gName j) (gCons (gName k) (gCons (gName l) gNil))))) [i, j, k, l] (.tup [x, y, z, w]) Γ ((((Γ.set i (.d x)).set j (.d y)).set k (.d z)).set l (.d w)) := eg_tup (eg_cons eg_name (eg_cons eg_name (eg_cons eg_name (eg_cons eg_name eg_nil)))) rfl

/-! ### what is walked -/
def Its (g : Gl) (m : List Addr) (H1 : Hp) (J : It) (ds : List D) : Prop := ∀ m' H', Exd (hid m H1) (hid m' H') → J.stop ds.length H' ∧ ∀ (i : Nat) (d : D), ds[i]? = some d → J.go i H' ∧ ∀ x H'', J.yld i H' x H'' → Ex H' H'' ∧ ((∀ a ∈ m', H' a ≠ none) → R g (hid m' H'') x d)
def EvI (g : Gl) (wi : TI) (Γ : List C) (P : List D → Prop) : Prop := ∀ (F : Fr) (m : List Addr) (σ : L2.St) (H : Hp), F.g = g → S F m σ H Γ → ∀ Q : It → Hp → Prop, (∀ J H1 ds, Kp F.t H H1 → P ds → Its g m H1 J ds → Q J H1) → wi σ H Q
variable {te : TE} {A : D → Prop} {P : List D → Prop}
theorem its_list {H1 : Hp} {a : Addr} {xs : List V} {ds : List D} (h : hid m H1 a = some (.lst xs)) (r : Rs g (hid m H1) xs ds) : Its g m H1 (Itl g.K a) ds := fun m' H' e => by
  have h' := SqL.of (K := g.K) (hid_some (e.lst h)).2
  have r' := r.mono e
  refine ⟨⟨xs, h', by rw [r'.len]; exact Nat.le_refl _⟩, fun i d hd => ?_⟩
  obtain ⟨v, hv, rv⟩ := r'.getd hd
  refine ⟨⟨xs, v, h', hv⟩, fun x H'' y => ?_⟩
  obtain ⟨e1, y⟩ := y
  subst e1
  have hx := y xs h'
  rw [hv] at hx
  cases hx
  exact ⟨Ex.refl _, fun _ => rv⟩
theorem its_tup {H1 : Hp} {a : Addr} {xs : List V} {ds : List D} (h : ∀ m' H', Exd (hid m H1) (hid m' H') → SqT g.K H' a xs) (r : Rs g (hid m H1) xs ds) : Its g m H1 (Itt g.K a) ds := fun m' H' e => by
  have h' := h m' H' e
  have r' := r.mono e
  refine ⟨⟨xs, h', by rw [r'.len]; exact Nat.le_refl _⟩, fun i d hd => ?_⟩
  obtain ⟨v, hv, rv⟩ := r'.getd hd
  refine ⟨⟨xs, v, h', hv⟩, fun x H'' y => ?_⟩
  obtain ⟨e1, y⟩ := y
  subst e1
  have hx := y xs h'
  rw [hv] at hx
  cases hx
  exact ⟨Ex.refl _, fun _ => rv⟩
theorem its_rng {H1 : Hp} {lo : Int} {n : Nat} : Its g m H1 (Itr lo n) ((List.range n).map fun (k : Nat) => D.int (lo + (k : Int))) := fun m' H' e => by
  refine ⟨by show n ≤ _; rw [List.length_map, List.length_range]; exact Nat.le_refl _, fun i d hd => ?_⟩
  rw [List.getElem?_map] at hd
  by_cases q : i < n
  · rw [List.getElem?_range q] at hd
    cases hd
    refine ⟨q, fun x H'' y => ?_⟩
    obtain ⟨e1, y⟩ := y
    subst e1 y
    exact ⟨Ex.refl _, fun _ => .int _⟩
  · rw [List.getElem?_eq_none (by rw [List.length_range]; omega)] at hd
    cases hd
theorem ei_list (h : EvS g te Γ A) (k : ∀ x, A x → ∃ ds, x = .lst ds ∧ P ds) : EvI g (iList g.K te) Γ P := fun F m σ H e s Q q => h F m σ H e s _ fun v H1 d k1 a r => by
  obtain ⟨ds, rfl, p⟩ := k d a
  cases r with
  | lst h1 h2 => exact ⟨_, rfl, ⟨_, SqL.of (hid_some h1).2⟩, q _ H1 ds k1 p (its_list h1 h2)⟩
theorem ei_list' {ds : List D} (h : EvS g te Γ (· = .lst ds)) : EvI g (iList g.K te) Γ (· = ds) := ei_list h fun _ e => ⟨ds, e, rfl⟩
theorem ei_tup' {ds : List D} (h : EvS g te Γ (· = .tup ds)) : EvI g (iTup g.K te) Γ (· = ds) := fun F m σ H e s Q q => h F m σ H e s _ fun v H1 d k1 a r => by
  subst a
  cases r with
  | tup h1 h2 => exact ⟨_, rfl, ⟨_, SqT.of (hid_some h1).2⟩, q _ H1 ds k1 rfl (its_tup (fun m' H' e => SqT.of (hid_some (e.tup h1)).2) h2)⟩
theorem ei_ktup' {ds : List D} (h : EvS g te Γ (· = .ktup ds)) : EvI g (iTup g.K te) Γ (· = ds) := fun F m σ H e s Q q => h F m σ H e s _ fun v H1 d k1 a r => by
  subst a
  cases r with
  | ktup h1 h2 => exact ⟨_, rfl, ⟨_, Evl.ex_t (hid_ex _ _) h1⟩, q _ H1 ds k1 rfl (its_tup (fun m' H' e => Evl.ex_t (hid_ex _ _) (e.sqt h1)) h2)⟩
theorem ei_rng1s (h : EvS g te Γ A) (k : ∀ x, A x → ∃ n : Nat, x = .int n ∧ n < 2 ^ 62 ∧ P ((List.range n).map fun (k : Nat) => D.int (k : Int))) : EvI g (iRng1 (tCons te tNil)) Γ P := fun F m σ H e s Q q => h F m σ H e s _ fun v H1 d k1 a r => by
  obtain ⟨n, rfl, hn, p⟩ := k d a
  cases r
  refine ⟨n, rfl, by omega, by omega, q _ H1 _ k1 p ?_⟩
  have z := its_rng (g := g) (m := m) (H1 := H1) (lo := 0) (n := n)
  have e2 : ((List.range n).map fun (k : Nat) => D.int (0 + (k : Int))) = (List.range n).map fun (k : Nat) => D.int (k : Int) := by
    apply List.map_congr_left
    intro a _
    rw [Int.zero_add]
  rw [e2] at z
  rw [Int.toNat_natCast]
  exact z
theorem ei_rng1 {n : Nat} (h : EvS g te Γ (· = .int n)) (hn : n < 2 ^ 62) : EvI g (iRng1 (tCons te tNil)) Γ (· = (List.range n).map fun (k : Nat) => D.int (k : Int)) := ei_rng1s h fun _ e => ⟨n, e, hn, rfl⟩
theorem ei_rng2 {tb : TE} {lo hi : Int} (h : EvS g te Γ (· = .int lo)) (h2 : EvS g tb Γ (· = .int hi)) (b : -(2 ^ 62) ≤ lo ∧ lo < 2 ^ 62 ∧ -(2 ^ 62) ≤ hi ∧ hi < 2 ^ 62) :
    EvI g (iRng2 (tCons te (tCons tb tNil))) Γ (· = (List.range (hi - lo).toNat).map fun (k : Nat) => D.int (lo + (k : Int))) := fun F m σ H e s Q q => h F m σ H e s _ fun v H1 d k1 a r => h2 F m σ H1 e (s.keep k1) _ fun u H2 d2 k2 a2 r2 => by
  subst a; subst a2; cases r; cases r2
  exact ⟨lo, hi, rfl, b, q _ H2 _ (k1.trans k2) rfl its_rng⟩

/-! ### statements -/
structure En where
  nx : List C → Prop
  rt : D → Prop
  bk : List C → Prop := fun _ => False
  ct : List C → Prop := fun _ => False
def Sv (g : Gl) (ts : TS) (Γ : List C) (E : En) : Prop := ∀ (F : Fr) (m : List Addr) (σ : L2.St) (H : Hp) (D : Ends), F.g = g → S F m σ H Γ →
  (∀ m' σ' H' Γ', Lt m H m' H' → S F m' σ' H' Γ' → E.nx Γ' → D.nx σ' H') → (∀ m' σ' H' Γ', Lt m H m' H' → S F m' σ' H' Γ' → E.bk Γ' → D.bk σ' H') → (∀ m' σ' H' Γ', Lt m H m' H' → S F m' σ' H' Γ' → E.ct Γ' → D.ct σ' H') →
  (∀ v H' d, Kp F.t F.H0 H' → R g (hid F.m0 H') v d → E.rt d → D.rt v H') → ts D σ H
variable {ts tu : TS} {tt : TT} {E : En} {tg : TG} {js : List Nat} {i j : Nat} {x y d : D}
theorem Sv.imp {E' : En} (h : Sv g ts Γ E) (h1 : ∀ Γ', E.nx Γ' → E'.nx Γ') (h2 : ∀ d, E.rt d → E'.rt d) (h3 : ∀ Γ', E.bk Γ' → E'.bk Γ') (h4 : ∀ Γ', E.ct Γ' → E'.ct Γ') : Sv g ts Γ E' := fun F m σ H D e s a b c d =>
  h F m σ H D e s (fun m' σ' H' Γ' l s' q => a m' σ' H' Γ' l s' (h1 _ q)) (fun m' σ' H' Γ' l s' q => b m' σ' H' Γ' l s' (h3 _ q)) (fun m' σ' H' Γ' l s' q => c m' σ' H' Γ' l s' (h4 _ q)) fun v H' d' k r q => d v H' d' k r (h2 _ q)
theorem sv_next (h : E.nx Γ) : Sv g tNext Γ E := fun F m σ H D e s a b c d => a m σ H Γ (Lt.refl _ _) s h
theorem sv_brk (h : E.bk Γ) : Sv g tBreak Γ E := fun F m σ H D e s a b c d => b m σ H Γ (Lt.refl _ _) s h
theorem sv_cont (h : E.ct Γ) : Sv g tCont Γ E := fun F m σ H D e s a b c d => c m σ H Γ (Lt.refl _ _) s h
theorem sv_never (h : False) : Sv g ts Γ E := h.elim
theorem sv_seq (h : Sv g ts Γ { E with nx := fun Γ' => Sv g tu Γ' E }) : Sv g (tSeq ts tu) Γ E := fun F m σ H D e s a b c d => by
  refine h F m σ H { D with nx := tu D } e s (fun m' σ' H' Γ' l s' q => ?_) b c d
  exact q F m' σ' H' D e s' (fun m2 σ2 H2 Γ2 l2 => a m2 σ2 H2 Γ2 (l.trans l2)) (fun m2 σ2 H2 Γ2 l2 => b m2 σ2 H2 Γ2 (l.trans l2)) (fun m2 σ2 H2 Γ2 l2 => c m2 σ2 H2 Γ2 (l.trans l2)) d
theorem sv_cut {M : List C → Prop} (h : Sv g ts Γ { E with nx := M }) (k : ∀ Γ', M Γ' → Sv g tu Γ' E) : Sv g (tSeq ts tu) Γ E := sv_seq (h.imp k (fun _ q => q) (fun _ q => q) fun _ q => q)
theorem S.back (s : S F m σ H Γ) {v : V} (r : R g (hid m H) v d) : R g (hid F.m0 H) v d := r.mono (.of (hid_less s.sub))
theorem sv_ret (h : EvS g te Γ E.rt) : Sv g (tRet te) Γ E := fun F m σ H D e s a b c d => h F m σ H e s _ fun v H1 x k1 p r => d v H1 x (s.kp.trans k1) ((s.keep k1).back r) p
theorem sv_retN (h : E.rt .non) : Sv g tRetN Γ E := fun F m σ H D e s a b c d => d _ H _ s.kp .non h
theorem sv_if {B : Bool → Prop} (h : EvT g tt Γ B) (h1 : B true → Sv g ts Γ E) (h2 : B false → Sv g tu Γ E) : Sv g (tIfS tt ts tu) Γ E := fun F m σ H D e s a b c d => h F m σ H e s _ fun w H1 k1 p => by
  have l := s.lt k1
  have s1 := s.keep k1
  cases w with
  | true => exact h1 p F m σ H1 D e s1 (fun m2 σ2 H2 Γ2 l2 => a m2 σ2 H2 Γ2 (l.trans l2)) (fun m2 σ2 H2 Γ2 l2 => b m2 σ2 H2 Γ2 (l.trans l2)) (fun m2 σ2 H2 Γ2 l2 => c m2 σ2 H2 Γ2 (l.trans l2)) d
  | false => exact h2 p F m σ H1 D e s1 (fun m2 σ2 H2 Γ2 l2 => a m2 σ2 H2 Γ2 (l.trans l2)) (fun m2 σ2 H2 Γ2 l2 => b m2 σ2 H2 Γ2 (l.trans l2)) (fun m2 σ2 H2 Γ2 l2 => c m2 σ2 H2 Γ2 (l.trans l2)) d
theorem sv_drop (h : EvS g te Γ A) (k : ∀ d, A d → E.nx Γ) : Sv g (tDrop te) Γ E := fun F m σ H D e s a b c d => h F m σ H e s _ fun v H1 x k1 p r => a m σ H1 Γ (s.lt k1) (s.keep k1) (k x p)
theorem sv_asgG (h : EvS g te Γ A) (k : ∀ d, A d → ∃ js Γ', EvG g tg js d Γ Γ' ∧ E.nx Γ') : Sv g (tAsg te tg) Γ E := fun F m σ H D e s a b c d => h F m σ H e s _ fun v H1 x k1 p r => by
  obtain ⟨js, Γ', hg, q⟩ := k x p
  exact hg F m σ H1 v e (s.keep k1) r _ fun σ' s' _ => a m σ' H1 Γ' (s.lt k1) s' q
theorem sv_asg (h : EvS g te Γ A) (k : ∀ d, A d → E.nx (Γ.set i (.d d))) : Sv g (tAsg te (gName i)) Γ E := sv_asgG h fun d p => ⟨[i], _, eg_name, k d p⟩
theorem sv_asg2 (h : EvS g te Γ A) (k : ∀ d, A d → ∃ x y, d = .tup [x, y] ∧ E.nx ((Γ.set i (.d x)).set j (.d y))) : Sv g (tAsg te (gTup g.K 2 (gCons (gName i) (gCons (gName j) gNil)))) Γ E := sv_asgG h fun d p => by
  obtain ⟨x, y, rfl, q⟩ := k d p
  exact ⟨_, _, eg_2, q⟩
theorem sv_asg3 {k' : Nat} (h : EvS g te Γ A) (k : ∀ d, A d → ∃ x y z, d = .tup [x, y, z] ∧ E.nx (((Γ.set i (.d x)).set j (.d y)).set k' (.d z))) : Sv g (tAsg te (gTup g.K 3 (gCons (gName i) (gCons (gName j) (gCons (gName k') gNil))))) Γ E := sv_asgG h fun d p => by
  obtain ⟨x, y, z, rfl, q⟩ := k d p
  exact ⟨_, _, eg_3, q⟩
theorem sv_asg4 {k' l' : Nat} (h : EvS g te Γ A) (k : ∀ d, A d → ∃ x y z w, d = .tup [x, y, z, w] ∧ E.nx ((((Γ.set i (.d x)).set j (.d y)).set k' (.d z)).set l' (.d w))) :
    Sv g (tAsg te (gTup g.K 4 (gCons (gName i) (gCons (gName j) (gCons (gName k') (gCons (gName l') gNil)))))) Γ E := sv_asgG h fun d p => by
  obtain ⟨x, y, z, w, rfl, q⟩ := k d p
  exact ⟨_, _, eg_4, q⟩
/-- x = a new list, owned from now on -/
theorem S.setL (s : S F m σ H Γ) {H1 : Hp} (k1 : Kp F.t H H1) {p : Addr} {xs : List V} {ds : List D} (hp : H p = none) (hx : H1 p = some (.lst xs)) (r : Rs F.g (hid (p :: m) H1) xs ds) : S F (p :: m) (σ.set i (some (.ref p))) H1 (Γ.set i (.ml ds)) ∧ Lt m H (p :: m) H1 := by
  have s1 := s.keep k1
  have h0 : F.H0 p = none := by
    cases e : F.H0 p with
    | none => rfl
    | some o => exact absurd hp (s.kp.occ (fun τ h => (s.tap τ h).2) (by rw [e]; exact fun z => by cases z))
  have np : p ∉ m := s.fresh hp
  have nlk : p ∉ F.lk := fun z => (s.occ p (s.lks p z)).1 hp
  have ex : Ex (hid m H) (hid (p :: m) H1) := fun a o e => by
    obtain ⟨h1, h2⟩ := hid_some e
    have n : a ≠ p := fun z => by rw [z, hp] at h2; cases h2
    rw [hid_out fun z => (List.mem_cons.mp z).elim n h1]
    exact (hid_some (ex_kp s.tin k1 a o e)).2
  refine ⟨⟨by rw [List.length_set, List.length_set, s.len], fun a v c e1 e2 => ?_, fun a b l ca cb n e1 e2 e3 e4 o1 o2 => ?_, fun a h => ?_, s.tap, s1.kp, fun a h => List.mem_cons_of_mem _ (s.sub a h), s.occ0, fun a h => List.mem_cons_of_mem _ (s.lks a h)⟩, ⟨.of ex⟩⟩
  · rw [List.getElem?_set] at e1 e2
    by_cases q : i = a
    · rw [if_pos q] at e1 e2
      split at e1
      · split at e2
        · cases e1; cases e2
          exact ⟨p, xs, rfl, List.mem_cons_self, ⟨h0, nlk⟩, hx, r⟩
        · cases e2
      · cases e1
    · rw [if_neg q] at e1 e2
      have z := s.sl a v c e1 e2
      cases c with
      | un => trivial
      | d x => obtain ⟨w, h1, h2⟩ := z; exact ⟨w, h1, h2.mono (.of ex)⟩
      | tp => exact z
      | ml ds' => obtain ⟨l, xs', h1, h2, h3, h4, h5⟩ := z; exact ⟨l, xs', h1, List.mem_cons_of_mem _ h2, h3, k1.ob l _ (s.ne h3.1) h4, h5.mono (.of ex)⟩
      | md kvs => obtain ⟨l, ws, h1, h2, h3, h4, h5, h6⟩ := z; exact ⟨l, ws, h1, List.mem_cons_of_mem _ h2, h3, k1.ob l _ (s.ne h3.1) h4, h5, h6.mono (.of ex)⟩
      | io l0 Cl fs => obtain ⟨l, dx, ws, h1, h2, h3, h4, h5, h6⟩ := z; exact ⟨l, dx, ws, h1, List.mem_cons_of_mem _ h2, h3, k1.ob l _ (s.ne h3.1) h4, h5, h6.mono (.of ex)⟩
  · have old : ∀ (b : Nat) (cb : C), σ[b]? = some (some (.ref p)) → Γ[b]? = some cb → cb.owned = true → False := fun b cb h1 h2 h3 => by
      have z := s.sl b _ cb h1 h2
      cases cb with
      | ml ds' => obtain ⟨l, xs', e, h4, _⟩ := z; cases e; exact np h4
      | md kvs => obtain ⟨l, ws, e, h4, _⟩ := z; cases e; exact np h4
      | io l0 Cl fs => obtain ⟨l, dx, ws, e, h4, _⟩ := z; cases e; exact np h4
      | un => cases h3
      | d x => cases h3
      | tp => cases h3
    rw [List.getElem?_set] at e1 e2 e3 e4
    by_cases qa : i = a
    · have qb : i ≠ b := fun z => n (qa.symm.trans z)
      rw [if_pos qa] at e1
      rw [if_neg qb] at e2 e4
      split at e1
      · cases e1; exact old b cb e2 e4 o2
      · cases e1
    · rw [if_neg qa] at e1 e3
      by_cases qb : i = b
      · rw [if_pos qb] at e2
        split at e2
        · cases e2; exact old a ca e1 e3 o1
        · cases e2
      · rw [if_neg qb] at e2 e4
        exact s.own a b l ca cb n e1 e2 e3 e4 o1 o2
  · rcases List.mem_cons.mp h with z | z
    · rw [z]; exact ⟨fun y => (by rw [hx] at y; cases y), fun _ y => by rw [hx] at y; cases y⟩
    · exact s1.occ a z
end
end K55
set_option maxHeartbeats 1000000
/-! Loops, comprehensions, owned lists, the def's frame. -/
namespace K55
open PySem PySem.Spec PyProof.Rows L2
open Evl (Ex)
section
variable {g : Gl} {F : Fr} {m : List Addr} {σ : L2.St} {H : Hp} {Γ Γ' Γ'' : List C} {te ta tb : TE} {A B : D → Prop} {P : List D → Prop} {ts tu tv : TS} {tt : TT} {E : En} {tg : TG} {js : List Nat} {i j : Nat} {x y d : D} {wi : TI}

/-- a loop's turns -/
theorem for_core {D0 : Ends} {J1 : It} {ds : List D} (e : F.g = g) (s1 : S F m σ H Γ) (it : Its g m H J1 ds) (Jv : Nat → List C → Prop) (h0 : Jv 0 Γ)
    (hs : ∀ i d Γ', ds[i]? = some d → Jv i Γ' → ∃ js Γ'', EvG g tg js d Γ' Γ'' ∧ Sv g tv Γ'' { E with nx := Jv (i + 1), ct := Jv (i + 1), bk := E.nx }) (hd : ∀ Γ', Jv ds.length Γ' → E.nx Γ')
    (a : ∀ m' σ' H' Γ', Lt m H m' H' → S F m' σ' H' Γ' → E.nx Γ' → D0.nx σ' H') (d : ∀ v H' d, Kp F.t F.H0 H' → R g (hid F.m0 H') v d → E.rt d → D0.rt v H') :
    ∃ W : Nat → Nat → L2.St → Hp → Prop, (∃ m, W 0 m σ H) ∧ ∀ i m σ H, W i m σ H →
      (J1.stop i H ∧ D0.nx σ H) ∨ (J1.go i H ∧ ∃ N : L2.St → Hp → Prop, (∀ σ' H', N σ' H' → ∃ m', m' < m ∧ W (i + 1) m' σ' H') ∧ ∀ x H', J1.yld i H x H' → tg x σ H' fun σ2 H2 => tv { D0 with nx := N, ct := N, bk := D0.nx } σ2 H2) := by
  refine ⟨fun i mm σ' H' => mm = ds.length - i ∧ i ≤ ds.length ∧ ∃ m' Γ', Lt m H m' H' ∧ S F m' σ' H' Γ' ∧ Jv i Γ', ⟨ds.length, by omega, Nat.zero_le _, m, Γ, Lt.refl _ _, s1, h0⟩, ?_⟩
  rintro i mm σ' H' ⟨rfl, hi', m', Γ', l, s', j⟩
  obtain ⟨st, go⟩ := it m' H' l.ex
  by_cases hlt : i < ds.length
  · obtain ⟨g1, y1⟩ := go i _ (List.getElem?_eq_getElem hlt)
    obtain ⟨js, Γ2, hg, hb⟩ := hs i _ Γ' (List.getElem?_eq_getElem hlt) j
    refine .inr ⟨g1, fun σ' H' => ∃ m' Γ', Lt m H m' H' ∧ S F m' σ' H' Γ' ∧ Jv (i + 1) Γ', fun σ3 H3 q => ⟨ds.length - (i + 1), by omega, rfl, hlt, q⟩, fun x H'' y => ?_⟩
    obtain ⟨e2, r2⟩ := y1 x H'' y
    have k2 : Kp F.t H' H'' := .of e2
    have s2 := s'.keep k2
    have l2 := l.trans (s'.lt k2)
    refine hg F m' σ' H'' x e s2 (r2 fun a h => (s'.occ a h).1) _ fun σ3 s3 _ => ?_
    refine hb F m' σ3 H'' { D0 with nx := _, ct := _, bk := D0.nx } e s3 (fun m4 σ4 H4 Γ4 l4 s4 q => ⟨m4, Γ4, l2.trans l4, s4, q⟩) (fun m4 σ4 H4 Γ4 l4 s4 q => a m4 σ4 H4 Γ4 (l2.trans l4) s4 q)
      (fun m4 σ4 H4 Γ4 l4 s4 q => ⟨m4, Γ4, l2.trans l4, s4, q⟩) d
  · have e2 : i = ds.length := by omega
    subst e2
    exact .inl ⟨st, a m' σ' H' Γ' l s' (hd Γ' j)⟩
/-- a loop -/
theorem sv_for (hi : EvI g wi Γ P) (J : List D → Nat → List C → Prop) (h0 : ∀ ds, P ds → J ds 0 Γ)
    (hs : ∀ ds i d Γ', P ds → ds[i]? = some d → J ds i Γ' → ∃ js Γ'', EvG g tg js d Γ' Γ'' ∧ Sv g tv Γ'' { E with nx := J ds (i + 1), ct := J ds (i + 1), bk := E.nx })
    (hd : ∀ ds Γ', P ds → J ds ds.length Γ' → E.nx Γ') : Sv g (tFor wi tg tv) Γ E := fun F m σ H D e s a b c d =>
  hi F m σ H e s _ fun J1 H1 ds k1 p it => for_core e (s.keep k1) it (J ds) (h0 ds p) (fun i x Γ' => hs ds i x Γ' p) (fun Γ' => hd ds Γ' p) (fun m' σ' H' Γ' l => a m' σ' H' Γ' ((s.lt k1).trans l)) d
/-- .. over one list that is known, its target a name -/
theorem sv_forN {ds : List D} (hi : EvI g wi Γ (· = ds)) (J : Nat → List C → Prop) (h0 : J 0 Γ)
    (hs : ∀ i d Γ', ds[i]? = some d → J i Γ' → Sv g tv (Γ'.set j (.d d)) { E with nx := J (i + 1), ct := J (i + 1), bk := E.nx })
    (hd : ∀ Γ', J ds.length Γ' → E.nx Γ') : Sv g (tFor wi (gName j) tv) Γ E := sv_for hi (fun _ => J) (fun _ _ => h0) (fun ds' i d Γ' p h q => by
  subst p
  exact ⟨[j], _, eg_name, hs i d Γ' h q⟩) fun ds' Γ' p q => by
  subst p
  exact hd Γ' q
/-- a while -/
theorem sv_while (W : Nat → List C → Prop) (m0 : Nat) (h0 : W m0 Γ) (hs : ∀ n Γ', W n Γ' → ∃ B : Bool → Prop, EvT g tt Γ' B ∧ (B true → Sv g tv Γ' { E with nx := fun Γ2 => ∃ n', n' < n ∧ W n' Γ2, ct := fun Γ2 => ∃ n', n' < n ∧ W n' Γ2, bk := E.nx }) ∧ (B false → E.nx Γ')) : Sv g (tWhile tt tv) Γ E := fun F m σ H D e s a b c d => by
  refine ⟨fun n σ' H' => ∃ m' Γ', Lt m H m' H' ∧ S F m' σ' H' Γ' ∧ W n Γ', ⟨m0, m, Γ, Lt.refl _ _, s, h0⟩, ?_⟩
  rintro n σ' H' ⟨m', Γ', l, s', w⟩
  obtain ⟨B, ht, h1, h2⟩ := hs n Γ' w
  refine ht F m' σ' H' e s' _ fun z H1 k1 p => ?_
  have s1 := s'.keep k1
  have l1 := l.trans (s'.lt k1)
  cases z with
  | true =>
    refine ⟨fun σ' H' => ∃ n', n' < n ∧ ∃ m' Γ', Lt m H m' H' ∧ S F m' σ' H' Γ' ∧ W n' Γ', fun σ2 H2 q => q, ?_⟩
    refine h1 p F m' σ' H1 { D with nx := _, ct := _, bk := D.nx } e s1 (fun m4 σ4 H4 Γ4 l4 s4 q => ?_) (fun m4 σ4 H4 Γ4 l4 s4 q => a m4 σ4 H4 Γ4 (l1.trans l4) s4 q) (fun m4 σ4 H4 Γ4 l4 s4 q => ?_) d
    · obtain ⟨n', hn, w'⟩ := q
      exact ⟨n', hn, m4, Γ4, l1.trans l4, s4, w'⟩
    · obtain ⟨n', hn, w'⟩ := q
      exact ⟨n', hn, m4, Γ4, l1.trans l4, s4, w'⟩
  | false => exact a m' σ' H1 Γ' l1 s1 (h2 p)

/-! ### comprehensions -/
theorem S.lock (s : S F m σ H Γ) {p : Addr} {o : HO} (hp : H p = none) (ho : ∀ xs, o ≠ .tup xs := by intro _ z; cases z) : S { F with lk := p :: F.lk } (p :: m) σ (upd H p o) Γ := by
  have ex : Ex (hid m H) (hid (p :: m) (upd H p o)) := hid_new hp
  refine ⟨s.len, fun a v c e1 e2 => ?_, s.own, fun a h => ?_, s.tap, s.kp.trans (kp_new hp), fun a h => List.mem_cons_of_mem _ (s.sub a h), s.occ0, fun a h => ?_⟩
  · have z := s.sl a v c e1 e2
    have ne : ∀ {l : Addr} {u : HO}, H l = some u → l ≠ p := fun h q => by rw [q, hp] at h; cases h
    cases c with
    | un => trivial
    | d x => obtain ⟨w, h1, h2⟩ := z; exact ⟨w, h1, h2.mono (.of ex)⟩
    | tp => exact z
    | ml ds' =>
      obtain ⟨l, xs', h1, h2, h3, h4, h5⟩ := z
      exact ⟨l, xs', h1, List.mem_cons_of_mem _ h2, ⟨h3.1, fun z => (List.mem_cons.mp z).elim (ne h4) h3.2⟩, by rw [upd_ne (ne h4)]; exact h4, h5.mono (.of ex)⟩
    | md kvs =>
      obtain ⟨l, ws, h1, h2, h3, h4, h5, h6⟩ := z
      exact ⟨l, ws, h1, List.mem_cons_of_mem _ h2, ⟨h3.1, fun z => (List.mem_cons.mp z).elim (ne h4) h3.2⟩, by rw [upd_ne (ne h4)]; exact h4, h5, h6.mono (.of ex)⟩
    | io l0 Cl fs =>
      obtain ⟨l, dx, ws, h1, h2, h3, h4, h5, h6⟩ := z
      exact ⟨l, dx, ws, h1, List.mem_cons_of_mem _ h2, ⟨h3.1, fun z => (List.mem_cons.mp z).elim (ne h4) h3.2⟩, by rw [upd_ne (ne h4)]; exact h4, h5, h6.mono (.of ex)⟩
  · by_cases q : a = p
    · rw [q]; exact ⟨fun y => (by rw [upd_same] at y; cases y), fun xs y => by rw [upd_same] at y; exact ho xs (Option.some.inj y)⟩
    · unfold Held; rw [upd_ne q]
      exact s.occ a ((List.mem_cons.mp h).resolve_left q)
  · rcases List.mem_cons.mp h with q | q
    · rw [q]; exact List.mem_cons_self
    · exact List.mem_cons_of_mem _ (s.lks a q)
/-- the locked object changes -/
theorem S.relock (s : S F m σ H Γ) {p : Addr} {o : HO} (hp : p ∈ F.lk) (h0 : F.H0 p = none) (ho : ∀ xs, o ≠ .tup xs := by intro _ z; cases z) : S F m σ (upd H p o) Γ := by
  have hm := s.lks p hp
  have eh : hid m (upd H p o) = hid m H := hid_upd hm
  refine ⟨s.len, fun a v c e1 e2 => ?_, s.own, fun a h => ?_, s.tap, ?_, s.sub, s.occ0, s.lks⟩
  · have z := s.sl a v c e1 e2
    cases c with
    | un => trivial
    | d x => obtain ⟨w, h1, h2⟩ := z; exact ⟨w, h1, by rw [eh]; exact h2⟩
    | tp => exact z
    | ml ds' => obtain ⟨l, xs', h1, h2, h3, h4, h5⟩ := z; exact ⟨l, xs', h1, h2, h3, by rw [upd_ne (fun (q : l = p) => h3.2 (by rw [q]; exact hp))]; exact h4, by rw [eh]; exact h5⟩
    | md kvs => obtain ⟨l, ws, h1, h2, h3, h4, h5, h6⟩ := z; exact ⟨l, ws, h1, h2, h3, by rw [upd_ne (fun (q : l = p) => h3.2 (by rw [q]; exact hp))]; exact h4, h5, by rw [eh]; exact h6⟩
    | io l0 Cl fs => obtain ⟨l, dx, ws, h1, h2, h3, h4, h5, h6⟩ := z; exact ⟨l, dx, ws, h1, h2, h3, by rw [upd_ne (fun (q : l = p) => h3.2 (by rw [q]; exact hp))]; exact h4, h5, by rw [eh]; exact h6⟩
  · by_cases q : a = p
    · rw [q]; exact ⟨fun y => (by rw [upd_same] at y; cases y), fun xs y => by rw [upd_same] at y; exact ho xs (Option.some.inj y)⟩
    · unfold Held; rw [upd_ne q]; exact s.occ a h
  · refine ⟨fun a u ht e => ?_, fun τ ht tp => ?_⟩
    · have n : a ≠ p := fun q => by rw [q, h0] at e; cases e
      rw [upd_ne n]
      exact s.kp.ob a u ht e
    · have nl : τ.l ≠ p := fun q => by have z := tp.2.1; rw [q, h0] at z; cases z
      obtain ⟨_, _, _, _, _, _, e, _⟩ := id tp
      have na : τ.a ≠ p := fun q => by rw [q, h0] at e; cases e
      obtain ⟨t1, t2, t3, pos, cur, seed, t4, t5⟩ := s.kp.tp τ ht tp
      exact ⟨t1, by rw [upd_ne nl]; exact t2, t3, pos, cur, seed, by rw [upd_ne na]; exact t4, t5⟩
theorem S.none0 (s : S F m σ H Γ) {p : Addr} (hp : H p = none) : F.H0 p = none := by
  cases e : F.H0 p with
  | none => rfl
  | some o => exact absurd hp (s.kp.occ (fun τ h => (s.tap τ h).2) (by rw [e]; exact fun z => by cases z))
theorem Kp.mut {t : Option Tid} {H1 H2 : Hp} {p : Addr} {o : HO} (k : Kp t H1 H2) (ht : ∀ τ, t = some τ → Tape τ H1) (h : H1 p = none) : Kp t H1 (upd H2 p o) := by
  refine ⟨fun a u hn e => ?_, fun τ h1 tp => ?_⟩
  · have n : a ≠ p := fun q => by rw [q, h] at e; cases e
    rw [upd_ne n]
    exact k.ob a u hn e
  · have nl : τ.l ≠ p := fun q => by have z := tp.2.1; rw [q, h] at z; cases z
    obtain ⟨_, _, _, _, _, _, e, _⟩ := id tp
    have na : τ.a ≠ p := fun q => by rw [q, h] at e; cases e
    obtain ⟨t1, t2, t3, pos, cur, seed, t4, t5⟩ := k.tp τ h1 tp
    exact ⟨t1, by rw [upd_ne nl]; exact t2, t3, pos, cur, seed, by rw [upd_ne na]; exact t4, t5⟩
/-- [e for .. in .. if ..] -/
theorem el_lc {vs : List Nat} (hi : EvI g wi Γ P) (hl : ∀ ds, P ds → ds.length ≤ 100000) (J : List D → Nat → List D → Prop) (h0 : ∀ ds, P ds → J ds 0 [])
    (hs : ∀ ds i d acc, P ds → ds[i]? = some d → J ds i acc → ∃ js Γ2, (∀ i ∈ js, i ∈ vs) ∧ EvG g tg js d (wipeC Γ vs) Γ2 ∧ ∃ Bt : Bool → Prop, EvT g tt Γ2 Bt ∧ (Bt true → EvS g te Γ2 fun e => J ds (i + 1) (acc ++ [e])) ∧ (Bt false → J ds (i + 1) acc)) :
    EvL g (tLc wi tg tt te vs) Γ (fun es => ∃ ds, P ds ∧ J ds ds.length es) := fun F m σ H e s Q q => by
  refine hi F m σ H e s _ fun J1 H1 ds k1 p it => fun Dl hD => ?_
  have s1 := s.keep k1
  have hD0 : H Dl = none := Kp.back s k1 hD
  have n0 : F.H0 Dl = none := s1.none0 hD
  refine ⟨fun i mm H' => mm = ds.length - i ∧ i ≤ ds.length ∧ ∃ xs acc, S { F with lk := Dl :: F.lk } (Dl :: m) σ H' Γ ∧ Kp F.t H1 H' ∧ Exd (hid m H1) (hid (Dl :: m) H') ∧ H' Dl = some (.lst xs) ∧ Rs g (hid (Dl :: m) H') xs acc ∧ acc.length ≤ i ∧ J ds i acc,
    ⟨ds.length, by omega, Nat.zero_le _, [], [], s1.lock hD, kp_new hD, .of (hid_new hD), upd_same, .nil, Nat.le_refl _, h0 ds p⟩, ?_⟩
  rintro i mm H' ⟨rfl, hi', xs, acc, s', k', ex, hx, r, hz, j⟩
  obtain ⟨st, go⟩ := it (Dl :: m) H' ex
  by_cases hlt : i < ds.length
  · obtain ⟨g1, y1⟩ := go i _ (List.getElem?_eq_getElem hlt)
    obtain ⟨js, Γ2, hjs, hg, Bt, ht, h1, h2⟩ := hs ds i _ acc p (List.getElem?_eq_getElem hlt) j
    refine .inr ⟨g1, fun H' => ∃ xs acc, S { F with lk := Dl :: F.lk } (Dl :: m) σ H' Γ ∧ Kp F.t H1 H' ∧ Exd (hid m H1) (hid (Dl :: m) H') ∧ H' Dl = some (.lst xs) ∧ Rs g (hid (Dl :: m) H') xs acc ∧ acc.length ≤ i + 1 ∧ J ds (i + 1) acc, fun H3 q => ⟨ds.length - (i + 1), by omega, rfl, hlt, q⟩, fun x H'' y => ?_⟩
    obtain ⟨e2, r2⟩ := y1 x H'' y
    have k2 : Kp F.t H' H'' := .of e2
    have s2 := s'.keep k2
    have ex2 := (s'.lt k2).ex
    refine hg { F with lk := Dl :: F.lk } (Dl :: m) (wipe σ vs) H'' x e (s2.wipe vs) (r2 fun a h => (s'.occ a h).1) _ fun σ3 s3 w3 => ⟨(w3 vs hjs).trans wipe_wipe, ?_⟩
    refine ht { F with lk := Dl :: F.lk } (Dl :: m) σ3 H'' e s3 _ fun z H3 k3 pz => ?_
    have s4 := s3.keep k3
    have sb := s2.keep k3
    have kk : Kp F.t H1 H3 := (k'.trans k2).trans k3
    have xx := (ex.trans ex2).trans (s2.lt k3).ex
    have rr := (r.mono ex2).mono (s2.lt k3).ex
    have ne : ∀ τ, F.t = some τ → Dl ≠ τ.a := fun τ h1 q => by
      obtain ⟨_, _, _, _, _, _, h2, _⟩ := (s.tap τ h1).2
      rw [← q, n0] at h2
      cases h2
    have hx3 : H3 Dl = some (.lst xs) := k3.ob _ _ ne (e2 _ _ hx)
    cases z with
    | true =>
      show te σ3 H3 _
      refine h1 pz { F with lk := Dl :: F.lk } (Dl :: m) σ3 H3 e s4 _ fun w H4 d4 k4 p4 r4 => ?_
      have hx4 : H4 Dl = some (.lst xs) := k4.ob _ _ ne hx3
      have s5 := sb.keep k4
      have eh : hid (Dl :: m) (upd H4 Dl (.lst (xs ++ [w]))) = hid (Dl :: m) H4 := hid_upd List.mem_cons_self
      have hlen := hl ds p
      refine ⟨xs, hx4, Evl.sz_lt (by rw [r.len]; omega), xs ++ [w], acc ++ [d4], s5.relock List.mem_cons_self n0, (kk.trans k4).mut (fun τ h => s1.tape τ h) hD, ?_, upd_same, ?_, by rw [List.length_append]; show _ + 1 ≤ _; omega, p4⟩
      · rw [eh]; exact xx.trans (sb.lt k4).ex
      · rw [eh]; exact (rr.mono (sb.lt k4).ex).append (.one r4)
    | false =>
      show ∃ xs acc, _
      exact ⟨xs, acc, sb, kk, xx, hx3, rr, by omega, h2 pz⟩
  · have e2 : i = ds.length := by omega
    subst e2
    exact .inl ⟨st, q Dl H' xs acc (k1.trans k') hD0 hx ⟨ds, p, j⟩ r⟩
/-- every item taken, its value known -/
theorem el_map {vs : List Nat} {ds : List D} {f : D → D} (hi : EvI g wi Γ (· = ds)) (hl : ds.length ≤ 100000) (hj : j ∈ vs) (hs : ∀ d ∈ ds, EvS g te ((wipeC Γ vs).set j (.d d)) (· = f d)) : EvL g (tLc wi (gName j) tYes te vs) Γ (· = ds.map f) :=
  (el_lc hi (fun _ e => e ▸ hl) (fun ds i acc => acc = (ds.take i).map f) (fun _ _ => rfl) fun ds' i d acc e hd ha => by
    subst e ha
    refine ⟨[j], _, fun i h => by rw [List.mem_singleton.mp h]; exact hj, eg_name, _, et_yes, fun _ => (hs d (List.mem_of_getElem? hd)).imp fun e he => ?_, fun z => by cases z⟩
    rw [he, List.take_add_one, hd, List.map_append]
    rfl).imp fun es ⟨ds', e, h⟩ => by
    subst e
    rw [h, List.take_length]
/-- .. each of a kind -/
theorem el_mapS {vs : List Nat} {ds : List D} {Pd : D → Prop} (hi : EvI g wi Γ (· = ds)) (hl : ds.length ≤ 100000) (hj : j ∈ vs) (hs : ∀ d ∈ ds, EvS g te ((wipeC Γ vs).set j (.d d)) Pd) : EvL g (tLc wi (gName j) tYes te vs) Γ (fun es => es.length = ds.length ∧ ∀ e ∈ es, Pd e) :=
  (el_lc hi (fun _ e => e ▸ hl) (fun ds i acc => i ≤ ds.length → acc.length = i ∧ ∀ e ∈ acc, Pd e) (fun _ _ _ => ⟨rfl, fun _ h => by cases h⟩) fun ds' i d acc e hd ha => by
    subst e
    have hlt := (List.getElem?_eq_some_iff.mp hd).1
    obtain ⟨ha1, ha2⟩ := ha (Nat.le_of_lt hlt)
    refine ⟨[j], _, fun i h => by rw [List.mem_singleton.mp h]; exact hj, eg_name, _, et_yes, fun _ => (hs d (List.mem_of_getElem? hd)).imp fun e he _ => ⟨by rw [List.length_append, ha1]; rfl, fun x hx => ?_⟩, fun z => by cases z⟩
    rcases List.mem_append.mp hx with h | h
    · exact ha2 x h
    · rw [List.mem_singleton.mp h]; exact he).imp fun es ⟨ds', e, h⟩ => by
    subst e
    exact h (Nat.le_refl _)
/-- .. those that pass a test -/
theorem el_filter {vs : List Nat} {ds : List D} {f : D → D} {t : D → Bool} (hi : EvI g wi Γ (· = ds)) (hl : ds.length ≤ 100000) (hj : j ∈ vs) (ht : ∀ d ∈ ds, EvT g tt ((wipeC Γ vs).set j (.d d)) (· = t d)) (hs : ∀ d ∈ ds, t d = true → EvS g te ((wipeC Γ vs).set j (.d d)) (· = f d)) :
    EvL g (tLc wi (gName j) tt te vs) Γ (· = (ds.filter t).map f) :=
  (el_lc hi (fun _ e => e ▸ hl) (fun ds i acc => acc = ((ds.take i).filter t).map f) (fun _ _ => rfl) fun ds' i d acc e hd ha => by
    subst e ha
    have hm := List.mem_of_getElem? hd
    refine ⟨[j], _, fun i h => by rw [List.mem_singleton.mp h]; exact hj, eg_name, _, ht d hm, fun z => (hs d hm z.symm).imp fun e he => ?_, fun z => ?_⟩
    · rw [he, List.take_add_one, hd, List.filter_append]
      show _ = List.map f (_ ++ List.filter t [d])
      rw [List.filter_cons_of_pos z.symm, List.map_append]
      rfl
    · rw [List.take_add_one, hd, List.filter_append]
      show _ = List.map f (_ ++ List.filter t [d])
      rw [List.filter_cons_of_neg (by rw [← z]; decide), List.filter_nil, List.append_nil]).imp fun es ⟨ds', e, h⟩ => by
    subst e
    rw [h, List.take_length]
/-- y = a new list, owned -/
theorem sv_asgL (h : EvL g te Γ P) (k : ∀ l, P l → E.nx (Γ.set i (.ml l))) : Sv g (tAsg te (gName i)) Γ E := fun F m σ H D e s a b c d => h F m σ H e s _ fun p H1 xs ds k1 hp hx pd r => by
  subst e
  obtain ⟨s1, l1⟩ := s.setL (i := i) k1 hp hx r
  exact a _ _ _ _ l1 s1 (k ds pd)
/-- y = a new list, as data -/
theorem sv_asgD (h : EvL g te Γ P) (k : ∀ l, P l → E.nx (Γ.set i (.d (.lst l)))) : Sv g (tAsg te (gName i)) Γ E := sv_asg h.ev fun d ⟨l, e, p⟩ => by
  subst e
  exact k l p
end
end K55
set_option maxHeartbeats 1000000
/-! Owned lists and dicts at work; == of places; the def's frame. -/
namespace K55
open PySem PySem.Spec PyProof.Rows L2
open Evl (Ex)

/-! ### == of places -/
abbrev plPy (p : Int × Int) : PyData := .tuple [.int p.1, .int p.2]
theorem lay_pls : ∀ ps : List (Int × Int), PyData.canLayAll0 (ps.map plPy) = true ∧ PyData.depthAll (ps.map plPy) ≤ 1
  | [] => ⟨rfl, Nat.zero_le _⟩
  | p :: ps => by
    obtain ⟨h1, h2⟩ := lay_pls ps
    refine ⟨?_, ?_⟩
    · rw [List.map_cons]
      unfold PyData.canLayAll0
      rw [h1]
      rfl
    · rw [List.map_cons]
      unfold PyData.depthAll
      exact Nat.max_le.mpr ⟨Nat.le_refl 1, h2⟩
theorem shaped_pl (p : Int × Int) : SeqAt.shaped (plPy p) = true := rfl
theorem shaped_l (ps : List (Int × Int)) : SeqAt.shaped (.list (ps.map plPy)) = true := by
  obtain ⟨h1, h2⟩ := lay_pls ps
  unfold SeqAt.shaped
  rw [Bool.and_eq_true, decide_eq_true_eq]
  refine ⟨by unfold PyData.canLay0; exact h1, ?_⟩
  unfold PyData.depth
  omega
theorem shaped_t (ps : List (Int × Int)) : SeqAt.shaped (.tuple (ps.map plPy)) = true := by
  obtain ⟨h1, h2⟩ := lay_pls ps
  unfold SeqAt.shaped
  rw [Bool.and_eq_true, decide_eq_true_eq]
  refine ⟨by unfold PyData.canLay0; exact h1, ?_⟩
  unfold PyData.depth
  omega
theorem eqv_pl (p q : Int × Int) : PyData.eqv (plPy p) (plPy q) = decide (p = q) := by
  obtain ⟨a, b⟩ := p
  obtain ⟨c, d⟩ := q
  show ((a == c) && ((b == d) && true)) = _
  rw [Bool.and_true]
  by_cases h1 : a = c
  · by_cases h2 : b = d
    · subst h1; subst h2; simp
    · have : ¬ ((a, b) = (c, d)) := fun z => h2 (Prod.mk.inj z).2
      simp [h2, this]
  · have : ¬ ((a, b) = (c, d)) := fun z => h1 (Prod.mk.inj z).1
    simp [h1, this]
section
variable {g : Gl} {F : Fr} {m : List Addr} {σ : L2.St} {H H' : Hp} {Γ Γ' Γ'' : List C} {te ta tb : TE} {A B : D → Prop} {P : List D → Prop} {ts tu tv : TS} {tt : TT} {E : En} {tg : TG} {js : List Nat} {i j : Nat} {x y d : D} {wi : TI}
theorem dp_pl {p : Int × Int} {v : V} (h : R g H' v (D.pl p)) (e : Ex H' H) : Dp g.K H v (plPy p) := by
  cases h with
  | tup h1 h2 =>
    cases h2 with
    | cons r1 r2 =>
      cases r2 with
      | cons r3 r4 =>
        cases r4; cases r1; cases r3
        exact .tup (SqT.of (e _ _ h1)) (.cons (.int _) (.cons (.int _) .nil))
theorem dp_pls : ∀ {ps : List (Int × Int)} {vs : List V}, Rs g H' vs (ps.map D.pl) → Ex H' H → DpAll g.K H vs (ps.map plPy)
  | [], _, h, _ => by cases h; exact .nil
  | p :: ps, _, h, e => by
    cases h with
    | cons r1 r2 => exact .cons (dp_pl r1 e) (dp_pls r2 e)
theorem ev_eqP {p q : Int × Int} (ha : EvS g ta Γ (· = D.pl p)) (hb : EvS g tb Γ (· = D.pl q)) : EvS g (tOp (rEqD g.K) ta tb) Γ (· = .bl (decide (p = q))) := ev_op' ha hb fun m H v u r1 r2 Q k =>
  ⟨_, _, dp_pl r1 (hid_ex m H), dp_pl r2 (hid_ex m H), shaped_pl p, shaped_pl q, by rw [eqv_pl]; exact k _ _ rfl (.bl _)⟩
theorem ev_neP {p q : Int × Int} (ha : EvS g ta Γ (· = D.pl p)) (hb : EvS g tb Γ (· = D.pl q)) : EvS g (tOp (rNeD g.K) ta tb) Γ (· = .bl (!decide (p = q))) := ev_op' ha hb fun m H v u r1 r2 Q k =>
  ⟨_, _, dp_pl r1 (hid_ex m H), dp_pl r2 (hid_ex m H), shaped_pl p, shaped_pl q, by rw [eqv_pl]; exact k _ _ rfl (.bl _)⟩
/-- a tuple of places, a list of places, beside the empty one -/
theorem eqv_t0 (ps : List (Int × Int)) : PyData.eqv (.tuple (ps.map plPy)) (.tuple []) = ps.isEmpty := by
  cases ps <;> rfl
theorem eqv_l0 (ps : List (Int × Int)) : PyData.eqv (.list (ps.map plPy)) (.list []) = ps.isEmpty := by
  cases ps <;> rfl
theorem ev_eqU {ps : List (Int × Int)} (ha : EvS g ta Γ (· = .tup (ps.map D.pl))) (hb : EvS g tb Γ (· = .tup [])) : EvS g (tOp (rEqD g.K) ta tb) Γ (· = .bl ps.isEmpty) := ev_op' ha hb fun m H v u r1 r2 Q k => by
  cases r1 with
  | tup h1 h2 =>
    cases r2 with
    | tup h3 h4 =>
      cases h4
      exact ⟨_, _, .tup (SqT.of (hid_some h1).2) (dp_pls h2 (hid_ex m H)), .tup (SqT.of (hid_some h3).2) .nil, shaped_t ps, rfl, by rw [eqv_t0]; exact k _ _ rfl (.bl _)⟩
theorem ev_eqN (ha : EvS g ta Γ (fun d => ∃ ps : List (Int × Int), d = .lst (ps.map D.pl) ∧ A (.bl ps.isEmpty))) (hb : EvS g tb Γ (· = .lst [])) : EvS g (tOp (rEqD g.K) ta tb) Γ A := ev_op ha hb fun x y ex ey m H v u r1 r2 Q k => by
  obtain ⟨ps, rfl, hA⟩ := ex
  subst ey
  cases r1 with
  | lst h1 h2 =>
    cases r2 with
    | lst h3 h4 =>
      cases h4
      exact ⟨_, _, .lst (SqL.of (hid_some h1).2) (dp_pls h2 (hid_ex m H)), .lst (SqL.of (hid_some h3).2) .nil, shaped_l ps, rfl, by rw [eqv_l0]; exact k _ _ hA (.bl _)⟩
/-- an owned list of places beside [] -/
theorem ev_neM {ps : List (Int × Int)} (h : Γ[i]? = some (.ml (ps.map D.pl))) : EvS g (tOp (rNeD g.K) (tVar i) (tLst tNil)) Γ (· = .bl (!ps.isEmpty)) := fun F m σ H e s Q q => by
  obtain ⟨v, h1, l, xs, rfl, h2, h3, h4, h5⟩ := s.at h
  subst e
  refine ⟨_, h1, Nat.zero_le _, fun p hp => ?_⟩
  have n : l ≠ p := fun z => by rw [z, hp] at h4; cases h4
  have e2 : Ex (hid m H) (upd H p (.lst [])) := (hid_ex m H).trans (Ex.new hp)
  exact ⟨_, _, .lst (SqL.of (by rw [upd_ne n]; exact h4)) (dp_pls h5 e2), .lst (SqL.of upd_same) .nil, shaped_l ps, rfl, by rw [eqv_l0]; exact q _ _ _ (kp_new hp) rfl (.bl _)⟩

/-! ### an owned object changes -/
theorem S.mut (s : S F m σ H Γ) {l : Addr} {o : HO} {c : C} (hi : Γ[i]? = some c) (hc : c.owned = true) (hv : σ[i]? = some (some (.ref l))) (c' : C) (hs : Sl F m (upd H l o) (some (.ref l)) c') (h0 : F.H0 l = none) (hm : l ∈ m) (ho : ∀ xs, o ≠ .tup xs := by intro _ z; cases z) : S F m σ (upd H l o) (Γ.set i c') ∧ Lt m H m (upd H l o) := by
  have eh : hid m (upd H l o) = hid m H := hid_upd hm
  refine ⟨⟨by rw [List.length_set, s.len], fun a v c2 e1 e2 => ?_, fun a b l' ca cb n e1 e2 e3 e4 o1 o2 => ?_, fun a h => ?_, s.tap, ?_, s.sub, s.occ0, s.lks⟩, ⟨by rw [eh]; exact Exd.refl _⟩⟩
  · rw [List.getElem?_set] at e2
    by_cases q : i = a
    · subst q
      rw [if_pos rfl] at e2
      split at e2
      · cases e2
        rw [hv] at e1
        cases e1
        exact hs
      · cases e2
    · rw [if_neg q] at e2
      have z := s.sl a v c2 e1 e2
      have ne : ∀ {l' : Addr}, v = some (.ref l') → c2.owned = true → l' ≠ l := fun {l'} ev ho z => by
        subst z; subst ev
        exact s.own i a l' c c2 q hv e1 hi e2 hc ho
      cases c2 with
      | un => trivial
      | d x => obtain ⟨w, h1, h2⟩ := z; exact ⟨w, h1, by rw [eh]; exact h2⟩
      | tp => exact z
      | ml ds' => obtain ⟨l', xs', h1, h2, h3, h4, h5⟩ := z; exact ⟨l', xs', h1, h2, h3, by rw [upd_ne (ne h1 rfl)]; exact h4, by rw [eh]; exact h5⟩
      | md kvs => obtain ⟨l', ws, h1, h2, h3, h4, h5, h6⟩ := z; exact ⟨l', ws, h1, h2, h3, by rw [upd_ne (ne h1 rfl)]; exact h4, h5, by rw [eh]; exact h6⟩
      | io l0 Cl fs => obtain ⟨l', dx, ws, h1, h2, h3, h4, h5, h6⟩ := z; exact ⟨l', dx, ws, h1, h2, h3, by rw [upd_ne (ne h1 rfl)]; exact h4, h5, by rw [eh]; exact h6⟩
  · have old : ∀ (b : Nat) (cb : C), (Γ.set i c')[b]? = some cb → cb.owned = true → ∃ cb', Γ[b]? = some cb' ∧ cb'.owned = true := fun b cb h1 h2 => by
      rw [List.getElem?_set] at h1
      by_cases q : i = b
      · subst q
        exact ⟨c, hi, hc⟩
      · rw [if_neg q] at h1
        exact ⟨cb, h1, h2⟩
    obtain ⟨ca', e5, o3⟩ := old a ca e3 o1
    obtain ⟨cb', e6, o4⟩ := old b cb e4 o2
    exact s.own a b l' ca' cb' n e1 e2 e5 e6 o3 o4
  · by_cases q : a = l
    · rw [q]; exact ⟨fun y => (by rw [upd_same] at y; cases y), fun xs y => by rw [upd_same] at y; exact ho xs (Option.some.inj y)⟩
    · unfold Held; rw [upd_ne q]; exact s.occ a h
  · refine ⟨fun a u ht e => ?_, fun τ ht tp => ?_⟩
    · have n : a ≠ l := fun q => by rw [q, h0] at e; cases e
      rw [upd_ne n]
      exact s.kp.ob a u ht e
    · have nl : τ.l ≠ l := fun q => by have z := tp.2.1; rw [q, h0] at z; cases z
      obtain ⟨_, _, _, _, _, _, e, _⟩ := id tp
      have na : τ.a ≠ l := fun q => by rw [q, h0] at e; cases e
      obtain ⟨t1, t2, t3, pos, cur, seed, t4, t5⟩ := s.kp.tp τ ht tp
      exact ⟨t1, by rw [upd_ne nl]; exact t2, t3, pos, cur, seed, by rw [upd_ne na]; exact t4, t5⟩
/-- l.append(e) -/
theorem sv_app {ds : List D} (h : Γ[i]? = some (.ml ds)) (hl : ds.length < 100000) (he : EvS g te Γ A) (k : ∀ d, A d → E.nx (Γ.set i (.ml (ds ++ [d])))) : Sv g (tDrop (tBM g.K "list" rAppend (tVar i) (tCons te tNil))) Γ E := fun F m σ H D e s a b c d => by
  obtain ⟨v, h1, l, xs, rfl, h2, h3, h4, h5⟩ := s.at h
  refine ⟨_, h1, .inl ⟨rfl, xs, .inl (.inl h4)⟩, ?_⟩
  refine he F m σ H e s _ fun w H1 x k1 p r => ?_
  subst e
  have s1 := s.keep k1
  have hx : H1 l = some (.lst xs) := k1.ob l _ (s.ne h3.1) h4
  refine ⟨l, xs, w, rfl, rfl, hx, Evl.sz_lt (by rw [h5.len]; exact hl), ?_⟩
  have eh : hid m (upd H1 l (.lst (xs ++ [w]))) = hid m H1 := hid_upd h2
  obtain ⟨s2, l2⟩ := s1.mut (o := .lst (xs ++ [w])) h rfl h1 (.ml (ds ++ [x])) ⟨l, xs ++ [w], rfl, h2, h3, upd_same, by rw [eh]; exact (h5.mono (s.lt k1).ex).append (.one r)⟩ h3.1 h2
  exact a m σ _ _ ((s.lt k1).trans l2) s2 (k x p)
/-- evaluates to something of P, the slots then as Γ' -/
def EvX (g : Gl) (te : TE) (Γ Γ' : List C) (P : D → Prop) : Prop := ∀ (F : Fr) (m : List Addr) (σ : L2.St) (H : Hp), F.g = g → S F m σ H Γ → ∀ Q : VK, (∀ v H1 d, S F m σ H1 Γ' → Lt m H m H1 → P d → R g (hid m H1) v d → Q v H1) → te σ H Q
theorem EvS.toX (h : EvS g te Γ A) : EvX g te Γ Γ A := fun F m σ H e s Q q => h F m σ H e s Q fun v H1 d k1 p r => q v H1 d (s.keep k1) (s.lt k1) p r
/-- l.pop() -/
theorem ex_pop {ds : List D} (h : Γ[i]? = some (.ml ds)) (hd : ds.getLast? = some d) : EvX g (tBM0 g.K "list" rPop (tVar i)) Γ (Γ.set i (.ml ds.dropLast)) (· = d) := fun F m σ H e s Q q => by
  obtain ⟨v, h1, l, xs, rfl, h2, h3, h4, h5⟩ := s.at h
  refine ⟨_, h1, .inl ⟨rfl, xs, .inl (.inl h4)⟩, ?_⟩
  subst e
  have hd2 : ds[ds.length - 1]? = some d := by rw [← List.getLast?_eq_getElem?]; exact hd
  obtain ⟨w, hw, rw'⟩ := h5.getd hd2
  have eh : hid m (upd H l (.lst xs.dropLast)) = hid m H := hid_upd h2
  obtain ⟨s2, l2⟩ := s.mut (o := .lst xs.dropLast) h rfl h1 (.ml ds.dropLast) ⟨l, xs.dropLast, rfl, h2, h3, upd_same, by rw [eh]; exact h5.dropLast⟩ h3.1 h2
  refine ⟨l, xs, w, rfl, rfl, h4, by rw [h5.len]; exact hw, q w _ d s2 l2 rfl ?_⟩
  rw [eh]
  exact rw'
theorem sv_asgX (h : EvX g te Γ Γ' A) (k : ∀ d, A d → E.nx (Γ'.set i (.d d))) : Sv g (tAsg te (gName i)) Γ E := fun F m σ H D e s a b c d => h F m σ H e s _ fun v H1 x s1 l1 p r => by
  subst e
  exact a m _ H1 _ l1 (s1.setd r) (k x p)
/-- walked, the slots then as Γ' -/
def EvIX (g : Gl) (wi : TI) (Γ Γ' : List C) (P : List D → Prop) : Prop := ∀ (F : Fr) (m : List Addr) (σ : L2.St) (H : Hp), F.g = g → S F m σ H Γ → ∀ Q : It → Hp → Prop, (∀ J H1 ds, S F m σ H1 Γ' → Lt m H m H1 → P ds → Its g m H1 J ds → Q J H1) → wi σ H Q
theorem eix_list (h : EvX g te Γ Γ' A) (k : ∀ x, A x → ∃ ds, x = .lst ds ∧ P ds) : EvIX g (iList g.K te) Γ Γ' P := fun F m σ H e s Q q => h F m σ H e s _ fun v H1 d s1 l1 a r => by
  obtain ⟨ds, rfl, p⟩ := k d a
  cases r with
  | lst h1 h2 => exact ⟨_, rfl, ⟨_, SqL.of (hid_some h1).2⟩, q _ H1 ds s1 l1 p (its_list h1 h2)⟩
theorem ex_call {ι : Type} {n : Nat} {arg : ι → List C} {Pre : ι → Prop} {Post : ι → D → Prop} {Pd : D → Prop} (h : EvX g te Γ Γ' A) (k : ∀ x, A x → ∃ i, [.d x] = arg i ∧ (arg i).length = n ∧ Pre i ∧ ∀ d, Post i d → Pd d) : EvX g (tCall (pr g n arg Pre Post) [] E0 (tCons te tNil)) Γ Γ' Pd := fun F m σ H e s Q q =>
  h F m σ H e s _ fun v H1 x s1 l1 p r => by
    obtain ⟨i, h0, h1, h2, h3⟩ := k x p
    refine pr_use i e s1 (by rw [← h0]; exact .cons r .nil) h1 h2 fun v H2 d k2 p r2 => q v H2 d (s1.keep k2) (l1.trans (s1.lt k2)) (h3 d p) r2
theorem sv_forX (hi : EvIX g wi Γ Γ' P) (J : List D → Nat → List C → Prop) (h0 : ∀ ds, P ds → J ds 0 Γ')
    (hs : ∀ ds i d Γ', P ds → ds[i]? = some d → J ds i Γ' → ∃ js Γ'', EvG g tg js d Γ' Γ'' ∧ Sv g tv Γ'' { E with nx := J ds (i + 1), ct := J ds (i + 1), bk := E.nx })
    (hd : ∀ ds Γ', P ds → J ds ds.length Γ' → E.nx Γ') : Sv g (tFor wi tg tv) Γ E := fun F m σ H D e s a b c d => by
  exact hi F m σ H e s _ fun J1 H1 ds s1 l1 p it => for_core e s1 it (J ds) (h0 ds p) (fun i x Γ' => hs ds i x Γ' p) (fun Γ' => hd ds Γ' p) (fun m' σ' H' Γ' l => a m' σ' H' Γ' (l1.trans l)) d
end
end K55
set_option maxHeartbeats 1000000
/-! The def's frame; more rules. -/
namespace K55
open PySem PySem.Spec PyProof.Rows L2
open Evl (Ex)
section
variable {g : Gl} {F : Fr} {m : List Addr} {σ : L2.St} {H H' : Hp} {Γ Γ' Γ'' : List C} {te ta tb : TE} {A B : D → Prop} {P : List D → Prop} {ts tu tv : TS} {tt : TT} {E : En} {tg : TG} {js : List Nat} {i j : Nat} {x y d : D} {wi : TI}
theorem start_s {t : Option Tid} {n k : Nat} {N : List Str} {vs : List V} {cs : List C} (hN : N.length = n + k) (hn : cs.length = n) (occ : ∀ a ∈ m, Held H a) (tap : ∀ τ, t = some τ → τ.a ∈ m ∧ Tape τ H) (a : Sas g t m H vs cs) :
    S ⟨g, t, H, m, []⟩ m (L2.start N vs) H (cs ++ List.replicate k .un) := by
  have hv : vs.length = n := by rw [Paired.length a, hn]
  have at_ : ∀ (vs : List V) (cs : List C), Sas g t m H vs cs → ∀ (i : Nat) (c : C), cs[i]? = some c → ∃ v, vs[i]? = some v ∧ Sa g t m H v c := by
    intro vs cs a
    induction a with
    | nil => intro i c h; cases h
    | cons r _ ih =>
      intro i c h
      cases i with
      | zero => cases h; exact ⟨_, rfl, r⟩
      | succ i => exact ih i c (by simpa using h)
  have slot : ∀ (i : Nat) (v : Option V) (c : C), (L2.start N vs)[i]? = some v → (cs ++ List.replicate k C.un)[i]? = some c → Sl ⟨g, t, H, m, []⟩ m H v c ∧ c.owned = false := by
    intro i v c h1 h2
    unfold L2.start at h1
    by_cases q : i < n
    · rw [List.getElem?_append_left (by omega)] at h2
      rw [List.getElem?_append_left (by rw [List.length_map]; omega), List.getElem?_map] at h1
      obtain ⟨w, hw, r⟩ := at_ vs cs a i c h2
      rw [hw] at h1
      cases h1
      cases c with
      | un => exact ⟨trivial, rfl⟩
      | d x => exact ⟨⟨w, rfl, r⟩, rfl⟩
      | tp => obtain ⟨τ, e1, e2⟩ := r; exact ⟨⟨τ, e1, by rw [e2]⟩, rfl⟩
      | ml _ => exact r.elim
      | md _ => exact r.elim
      | io _ _ _ => exact r.elim
    · rw [List.getElem?_append_right (by omega), List.getElem?_replicate] at h2
      split at h2
      · cases h2; exact ⟨trivial, rfl⟩
      · cases h2
  refine ⟨?_, fun i v c h1 h2 => (slot i v c h1 h2).1, fun i j l ci cj _ h1 h2 h3 h4 o1 _ => ?_, occ, tap, Kp.refl _, fun _ h => h, fun a h => (occ a h).1, fun _ h => by cases h⟩
  · unfold L2.start
    rw [List.length_append, List.length_append, List.length_replicate, List.length_replicate, List.length_map]
    omega
  · have z := (slot i _ ci h1 h3).2
    rw [z] at o1
    cases o1
/-- the def's body told by data -/
theorem fn_run {ι : Type} {n k : Nat} {N : List Str} {arg : ι → List C} {Pre : ι → Prop} {Post : ι → D → Prop} {vs : List V} {Q : VK} {X : XK} (hN : N.length = n + k) (hb : ∀ i, Pre i → Sv g ts (arg i ++ List.replicate k .un) { nx := fun _ => Post i .non, rt := Post i })
    (h : pr g n arg Pre Post vs H Q X) : ts { nx := fun _ H' => Q .non H', rt := Q } (L2.start N vs) H := by
  obtain ⟨t, m, cs, hn, occ, tap, a, hp, q⟩ := h
  refine hb cs hp ⟨g, t, H, m, []⟩ m (L2.start N vs) H _ rfl (start_s hN hn occ tap a) (fun m' σ' H' Γ' l s' p => ?_) (fun _ _ _ _ _ _ p => p.elim) (fun _ _ _ _ _ _ p => p.elim) fun v H' d k r p => q v H' d k p r
  exact q _ H' _ s'.kp p .non
end
/-- a def of the module as it stands, no default in it -/
def Dfd (K : PySem.W.Frag) (mg : Str → Option Value) (x : Str) (st : Stmt) : Prop := ∃ f fd, C8.Def K mg x st f fd ∧ fd.defaults = .none
theorem Dfd.cal {P : Program} {w : World} {K : PySem.W.Frag} {mg : Str → Option Value} {base : Heap} {x : Str} {st : Stmt} {N ps : List Str} {k n r : Nat} {g : Gl} {ι : Type} {arg : ι → List C} {Pre : ι → Prop} {Post : ι → D → Prop} (h : Dfd K mg x st)
    (hb : ∀ (kV doc pm : Value) (an : Option Addr) (cdv ct : Value) (us : List Value), us.length = ps.length → bindArgs (PySem.W.fnOf x x (C8.fnArgs st) (C8.fnBody st) (C8.fnScope st) .none kV doc pm an cdv ct) ⟨us, []⟩ = pure (ps.zip us))
    (S : FnScope N ps (C8.fnScope st)) (hn : ps.length = n) (hN : N.length = n + r)
    (hbody : ∀ (f : Addr) (cdv : Value) (A : Around) (outer : List Env) (s : Shared) (H : Hp) (E : XK), Room k (A.deeper (envOfC x (C8.fnScope st) s.heap.objs.size f cdv)) →
      ∃ t, PSs (cxOf CX0 P w K mg base N x (C8.fnScope st) f cdv A outer s H E).nox (C8.fnBody st) t ∧ ∀ i, Pre i → Sv g t (arg i ++ List.replicate r .un) { nx := fun _ => Post i .non, rt := Post i }) : C8.Cal P w K mg base (k + 1) x (pr g n arg Pre Post) [] := by
  obtain ⟨f, fd, F, df⟩ := h
  refine C8.cal0 F (F.fn.binds df hb) .nil S (pr_len hn) fun cdv A outer s H vs Q E hr hsp => ?_
  obtain ⟨t, h1, h2⟩ := hbody f cdv A outer s H E hr
  exact ⟨t, h1, fn_run hN h2 hsp⟩
end K55
set_option maxHeartbeats 1000000
/-! Built-ins; dicts. -/
namespace K55
open PySem PySem.Spec PyProof.Rows L2
open Evl (Ex)
section
variable {g : Gl} {F : Fr} {m : List Addr} {σ : L2.St} {H H' : Hp} {Γ Γ' Γ'' : List C} {te ta tb : TE} {A B P : D → Prop} {ts tu tv : TS} {tt : TT} {E : En} {tg : TG} {js : List Nat} {i j : Nat} {x y d : D} {wi : TI}
theorem ev_abs {n : Int} (h : EvS g te Γ (· = .int n)) : EvS g (tCB (fun xs H Q => ∃ i, xs = [.int i] ∧ Q (.int (if i < 0 then -i else i)) H) (tCons te tNil)) Γ (· = .int (if n < 0 then -n else n)) := fun F m σ H e s Q q => h F m σ H e s _ fun v H1 d k1 a r => by
  subst a; cases r
  exact ⟨n, rfl, q _ H1 _ k1 rfl (.int _)⟩
theorem ev_intB {b : Bool} (h : EvS g te Γ (· = .bl b)) : EvS g (tCB (fun xs H Q => (∃ i, xs = [.int i] ∧ Q (.int i) H) ∨ ∃ k, xs = [.bl k] ∧ Q (.int (if k then 1 else 0)) H) (tCons te tNil)) Γ (· = .int (if b then 1 else 0)) := fun F m σ H e s Q q => h F m σ H e s _ fun v H1 d k1 a r => by
  subst a; cases r
  exact .inr ⟨b, rfl, q _ H1 _ k1 rfl (.int _)⟩
theorem ev_lenS {z : Str} (h : EvS g te Γ (· = .str z)) (hl : z.length ≤ sizeLine) : EvS g (tCB (fun xs H Q => ∃ z : Str, xs = [.str z] ∧ z.length ≤ sizeLine ∧ Q (.int z.length) H) (tCons te tNil)) Γ (· = .int z.length) := fun F m σ H e s Q q => h F m σ H e s _ fun v H1 d k1 a r => by
  subst a; cases r
  exact ⟨z, rfl, hl, q _ H1 _ k1 rfl (.int _)⟩
theorem ev_lenL {ds : List D} (h : EvS g te Γ (· = .lst ds)) : EvS g (tCB (fun xs H Q => ∃ x n, xs = [x] ∧ LenV g.K x H n ∧ Q (.int n) H) (tCons te tNil)) Γ (· = .int ds.length) := fun F m σ H e s Q q => h F m σ H e s _ fun v H1 d k1 a r => by
  subst a
  cases r with
  | lst h1 h2 => exact ⟨_, ds.length, rfl, .inl ⟨_, SqL.of (hid_some h1).2, h2.len.symm⟩, q _ H1 _ k1 rfl (.int _)⟩
theorem ev_lenT {ds : List D} (h : EvS g te Γ (· = .tup ds)) : EvS g (tCB (fun xs H Q => ∃ x n, xs = [x] ∧ LenV g.K x H n ∧ Q (.int n) H) (tCons te tNil)) Γ (· = .int ds.length) := fun F m σ H e s Q q => h F m σ H e s _ fun v H1 d k1 a r => by
  subst a
  cases r with
  | tup h1 h2 => exact ⟨_, ds.length, rfl, .inr ⟨_, SqT.of (hid_some h1).2, h2.len.symm⟩, q _ H1 _ k1 rfl (.int _)⟩
theorem ev_lenD {kvs : List ((Int × Int) × D)} (h : EvS g te Γ (· = .dct kvs)) (nf : ∀ (F : Fr) m σ H, F.g = g → S F m σ H Γ → ∀ a o u, Rd H a (.dT u) → H a ≠ some (.frz o (.dT u))) : EvS g (tCB rLenT (tCons te tNil)) Γ (· = .int kvs.length) := fun F m σ H e s Q q => h F m σ H e s _ fun v H1 d k1 a r => by
  subst a
  cases r with
  | dct h1 h2 h3 =>
    have h1' := (hid_rd h1).2
    have hl := congrArg List.length h2
    rw [List.length_map, List.length_map] at hl
    rcases h1' with h1' | ⟨o, h1'⟩
    · exact ⟨_, _, rfl, h1', q _ H1 _ k1 (by rw [hl]) (.int _)⟩
    · exact absurd h1' (nf F m σ H1 e (s.keep k1) _ o _ (.inr ⟨o, h1'⟩))
theorem bl_rs : ∀ {bs : List Bool} {vs : List V}, Rs g H vs (bs.map D.bl) → vs = bs.map V.bl
  | [], _, h => by cases h; rfl
  | b :: bs, _, h => by
    cases h with
    | cons r t => cases r; rw [bl_rs t]; rfl
theorem str_rs : ∀ {zs : List Str} {vs : List V}, Rs g H vs (zs.map D.str) → vs = zs.map V.str
  | [], _, h => by cases h; rfl
  | b :: bs, _, h => by
    cases h with
    | cons r t => cases r; rw [str_rs t]; rfl
theorem int_rs : ∀ {zs : List Int} {vs : List V}, Rs g H vs (zs.map D.int) → vs = zs.map V.int
  | [], _, h => by cases h; rfl
  | b :: bs, _, h => by
    cases h with
    | cons r t => cases r; rw [int_rs t]; rfl
theorem ev_all {bs : List Bool} (h : EvS g te Γ (· = .lst (bs.map D.bl))) : EvS g (tCB (rAll g.K) (tCons te tNil)) Γ (· = .bl (bs.all id)) := fun F m σ H e s Q q => h F m σ H e s _ fun v H1 d k1 a r => by
  subst a
  cases r with
  | lst h1 h2 =>
    have e := bl_rs h2
    subst e
    exact ⟨_, bs, rfl, SqL.of (hid_some h1).2, q _ H1 _ k1 rfl (.bl _)⟩
/-- sep.join(list of texts) -/
theorem ev_join {sep : Str} (ha : EvS g ta Γ (· = .str sep)) (hb : EvS g tb Γ A) (k : ∀ x, A x → ∃ zs : List Str, x = .lst (zs.map D.str) ∧ (zs.map (·.length)).sum + zs.length * sep.length ≤ 16777216 ∧ P (.str (Txt.join sep zs))) :
    EvS g (tM1 (fun x xs H Q => ∃ a p, ∃ ys : List Str, x = .str a ∧ xs = [.ref p] ∧ (SqL g.K H p (ys.map V.str) ∨ SqT g.K H p (ys.map V.str)) ∧ (ys.map (·.length)).sum + ys.length * a.length ≤ 16777216 ∧ Q (.str (Txt.join a ys)) H) ta tb) Γ P := fun F m σ H e s Q q =>
  ha F m σ H e s _ fun v H1 d k1 a r => by
    subst a; cases r
    refine ⟨⟨_, rfl⟩, hb F m σ H1 e (s.keep k1) _ fun u H2 d2 k2 a2 r2 => ?_⟩
    obtain ⟨zs, rfl, hz, p⟩ := k d2 a2
    cases r2 with
    | lst h1 h2 =>
      have e := str_rs h2
      subst e
      exact ⟨sep, _, zs, rfl, rfl, .inl (SqL.of (hid_some h1).2), hz, q _ H2 _ (k1.trans k2) p (.str _)⟩
/-- text[a:b] -/
theorem ev_slS {z : Str} {lo hi : Int} {tl th : TE} (h : EvS g te Γ (· = .str z)) (h1 : EvS g tl Γ (· = .int lo)) (h2 : EvS g th Γ (· = .int hi)) (hl : z.length ≤ sizeLine) : EvS g (tSl rSlS te (tPart tl) (tPart th)) Γ (· = .str (cutS z (some lo) (some hi))) := fun F m σ H e s Q q =>
  h F m σ H e s _ fun v H1 d k1 a r => h1 F m σ H1 e (s.keep k1) _ fun v2 H2 d2 k2 a2 r2 => by
    subst a2; cases r2
    refine ⟨lo, rfl, h2 F m σ H2 e ((s.keep k1).keep k2) _ fun v3 H3 d3 k3 a3 r3 => ?_⟩
    subst a3; cases r3
    subst a; cases r
    exact ⟨hi, rfl, z, rfl, hl, q _ H3 _ ((k1.trans k2).trans k3) rfl (.str _)⟩
/-- a sign in a text -/
theorem ev_inC {c : Nat} {z : Str} (ha : EvS g ta Γ (· = .str ⟨#[c]⟩)) (hb : EvS g tb Γ (· = .str z)) : EvS g (tOp (fun x y H Q => ∃ (c : Nat) (z : Str), x = .str ⟨#[c]⟩ ∧ y = .str z ∧ Q (.bl (decide (c ∈ z.cps.toList))) H) ta tb) Γ (· = .bl (decide (c ∈ z.cps.toList))) := ev_op' ha hb fun m H v u r1 r2 Q q => by
  cases r1; cases r2
  exact ⟨c, z, rfl, rfl, q _ _ rfl (.bl _)⟩
/-- text, texts -/
theorem inV_str {z : Str} : ∀ zs : List Str, inV (.str z) (zs.map V.str) = decide (z ∈ zs)
  | [] => rfl
  | y :: ys => by
    have ih := inV_str (z := z) ys
    unfold inV at ih ⊢
    rw [List.map_cons, List.any_cons, ih]
    have e : eqV (.str y) (.str z) = (y == z) := rfl
    rw [e]
    by_cases h : y = z
    · subst h; simp
    · have h2 : ¬ z = y := fun q => h q.symm
      simp [h, h2]
theorem ev_inS {z : Str} {zs : List Str} (ha : EvS g ta Γ (· = .str z)) (hb : EvS g tb Γ (· = .lst (zs.map D.str))) : EvS g (tOp (rIn g.K false) ta tb) Γ (· = .bl (decide (z ∈ zs))) := ev_op' ha hb fun m H v u r1 r2 Q q => by
  cases r1
  cases r2 with
  | lst h1 h2 =>
    have e := str_rs h2
    subst e
    refine ⟨_, _, rfl, .inl (SqL.of (hid_some h1).2), rfl, by rw [List.all_map]; exact List.all_eq_true.mpr fun _ _ => rfl, ?_⟩
    rw [if_neg (by decide), inV_str]
    exact q _ _ rfl (.bl _)
theorem inV_int {z : Int} : ∀ zs : List Int, inV (.int z) (zs.map V.int) = decide (z ∈ zs)
  | [] => rfl
  | y :: ys => by
    have ih := inV_int (z := z) ys
    unfold inV at ih ⊢
    rw [List.map_cons, List.any_cons, ih]
    have e : eqV (.int y) (.int z) = (y == z) := rfl
    rw [e]
    by_cases h : y = z
    · subst h; simp
    · have h2 : ¬ z = y := fun q => h q.symm
      simp [h, h2]
theorem ev_inI {z : Int} {zs : List Int} (ha : EvS g ta Γ (· = .int z)) (hb : EvS g tb Γ (· = .lst (zs.map D.int))) : EvS g (tOp (rIn g.K false) ta tb) Γ (· = .bl (decide (z ∈ zs))) := ev_op' ha hb fun m H v u r1 r2 Q q => by
  cases r1
  cases r2 with
  | lst h1 h2 =>
    have e := int_rs h2
    subst e
    refine ⟨_, _, rfl, .inl (SqL.of (hid_some h1).2), rfl, by rw [List.all_map]; exact List.all_eq_true.mpr fun _ _ => rfl, ?_⟩
    rw [if_neg (by decide), inV_int]
    exact q _ _ rfl (.bl _)
/-- .. in an owned list -/
theorem ev_inMI {z : Int} {zs : List Int} (ha : EvS g ta Γ (· = .int z)) (hb : Γ[i]? = some (.ml (zs.map D.int))) : EvS g (tOp (rIn g.K false) ta (tVar i)) Γ (· = .bl (decide (z ∈ zs))) := fun F m σ H e s Q q => ha F m σ H e s _ fun v H1 d k1 a r => by
  subst a; cases r
  obtain ⟨w, h1, l, xs, rfl, h2, h3, h4, h5⟩ := (s.keep k1).at hb
  have e := int_rs h5
  subst e
  refine ⟨_, h1, _, _, rfl, .inl (SqL.of h4), rfl, by rw [List.all_map]; exact List.all_eq_true.mpr fun _ _ => rfl, ?_⟩
  rw [if_neg (by decide), inV_int]
  exact q _ H1 _ k1 rfl (.bl _)
def isNon : D → Bool
  | .non => true
  | _ => false
theorem ev_isN (ha : EvS g ta Γ (· = x)) (hb : EvS g tb Γ (· = .non)) : EvS g (tOp (fun x y H Q => y = .non ∧ Q (.bl (decide (x = .non))) H) ta tb) Γ (· = .bl (isNon x)) := ev_op' ha hb fun m H v u r1 r2 Q q => by
  cases r2
  have e : decide (v = V.non) = isNon x := by cases r1 <;> simp [isNon]
  exact ⟨rfl, q _ _ rfl (e ▸ .bl _)⟩
theorem ev_notN (ha : EvS g ta Γ (· = x)) (hb : EvS g tb Γ (· = .non)) : EvS g (tOp (fun x y H Q => y = .non ∧ Q (.bl (!decide (x = .non))) H) ta tb) Γ (· = .bl (!isNon x)) := ev_op' ha hb fun m H v u r1 r2 Q q => by
  cases r2
  have e : decide (v = V.non) = isNon x := by cases r1 <;> simp [isNon]
  exact ⟨rfl, q _ _ rfl (e ▸ .bl _)⟩

/-! dicts by places -/
abbrev Kvs := List ((Int × Int) × D)
def getP (kvs : Kvs) (p : Int × Int) : Option D := (kvs.find? fun e => decide (e.1 = p)).map (·.2)
def hasP (kvs : Kvs) (p : Int × Int) : Bool := kvs.any fun e => decide (e.1 = p)
def putP (kvs : Kvs) (p : Int × Int) (d : D) : Kvs := if hasP kvs p = true then kvs.map (fun e => if e.1 = p then (e.1, d) else e) else kvs ++ [(p, d)]
theorem keyP_inj {p q : Int × Int} : keyP p = keyP q ↔ p = q := by
  constructor
  · intro h
    obtain ⟨a, b⟩ := p
    obtain ⟨c, e⟩ := q
    have h1 := (List.cons.inj h).1
    have h2 := (List.cons.inj (List.cons.inj h).2).1
    exact Prod.ext (Sum.inl.inj h1) (Sum.inl.inj h2)
  · intro h; rw [h]
/-- a dict of the heap, told by data -/
structure Dr (g : Gl) (H : Hp) (ws : List (List Key × V)) (kvs : Kvs) : Prop where
  ks : ws.map (·.1) = kvs.map (fun e => keyP e.1)
  vs : Rs g H (ws.map (·.2)) (kvs.map (·.2))
theorem Dr.len {ws : List (List Key × V)} {kvs : Kvs} (h : Dr g H ws kvs) : ws.length = kvs.length := by
  have e := congrArg List.length h.ks
  rw [List.length_map, List.length_map] at e
  exact e
theorem Dr.tail {w : List Key × V} {ws : List (List Key × V)} {kv : (Int × Int) × D} {kvs : Kvs} (h : Dr g H (w :: ws) (kv :: kvs)) : w.1 = keyP kv.1 ∧ R g H w.2 kv.2 ∧ Dr g H ws kvs := by
  obtain ⟨h1, h2⟩ := h
  have e := List.cons.inj h1
  cases h2 with
  | cons r t => exact ⟨e.1, r, e.2, t⟩
theorem Dr.cons {w : List Key × V} {ws : List (List Key × V)} {kv : (Int × Int) × D} {kvs : Kvs} (h1 : w.1 = keyP kv.1) (r : R g H w.2 kv.2) (t : Dr g H ws kvs) : Dr g H (w :: ws) (kv :: kvs) := ⟨by rw [List.map_cons, List.map_cons, h1, t.ks], .cons r t.vs⟩
theorem Dr.nilr {ws : List (List Key × V)} (h : Dr g H ws []) : ws = [] := by
  have e := h.len
  exact List.length_eq_zero_iff.mp e
theorem Dr.get : ∀ {kvs : Kvs} {ws : List (List Key × V)}, Dr g H ws kvs → ∀ p : Int × Int, (getP kvs p = none ∧ valV ws (keyP p) = none) ∨ ∃ d v, getP kvs p = some d ∧ valV ws (keyP p) = some v ∧ R g H v d
  | [], ws, h, p => by rw [h.nilr]; exact .inl ⟨rfl, rfl⟩
  | kv :: kvs, [], h, p => by have e := h.len; cases e
  | kv :: kvs, w :: ws, h, p => by
    obtain ⟨h1, r, t⟩ := h.tail
    by_cases q : kv.1 = p
    · refine .inr ⟨kv.2, w.2, ?_, valV_pos (by rw [h1, q]), r⟩
      unfold getP
      rw [List.find?_cons_of_pos (by simp [q])]
      rfl
    · have e1 : getP (kv :: kvs) p = getP kvs p := by
        unfold getP
        rw [List.find?_cons_of_neg (by simp [q])]
      have e2 : valV (w :: ws) (keyP p) = valV ws (keyP p) := valV_neg fun z => q (keyP_inj.mp (h1.symm.trans z))
      rw [e1, e2]
      exact Dr.get t p
theorem Dr.any : ∀ {kvs : Kvs} {ws : List (List Key × V)}, Dr g H ws kvs → ∀ p : Int × Int, (ws.any fun kv => decide (kv.1 = keyP p)) = hasP kvs p
  | [], ws, h, p => by rw [h.nilr]; rfl
  | kv :: kvs, [], h, p => by have e := h.len; cases e
  | kv :: kvs, w :: ws, h, p => by
    obtain ⟨h1, r, t⟩ := h.tail
    have ih := Dr.any t p
    unfold hasP at ih ⊢
    rw [List.any_cons, List.any_cons, ih, h1]
    congr 1
    exact decide_eq_decide.mpr keyP_inj
theorem Dr.repl {v : V} (r : R g H v d) {p : Int × Int} : ∀ {kvs : Kvs} {ws : List (List Key × V)}, Dr g H ws kvs → Dr g H (ws.map fun kv => if kv.1 = keyP p then (kv.1, v) else kv) (kvs.map fun e => if e.1 = p then (e.1, d) else e)
  | [], ws, h => by rw [h.nilr]; exact ⟨rfl, .nil⟩
  | kv :: kvs, [], h => by have e := h.len; cases e
  | kv :: kvs, w :: ws, h => by
    obtain ⟨h1, r1, t⟩ := h.tail
    rw [List.map_cons, List.map_cons]
    by_cases q : kv.1 = p
    · rw [if_pos q, if_pos (by rw [h1, q])]
      exact .cons h1 r (Dr.repl r t)
    · rw [if_neg q, if_neg fun z => q (keyP_inj.mp (h1.symm.trans z))]
      exact .cons h1 r1 (Dr.repl r t)
theorem Dr.put {kvs : Kvs} {ws : List (List Key × V)} (h : Dr g H ws kvs) {p : Int × Int} {v : V} (r : R g H v d) : Dr g H (putK ws (keyP p) v) (putP kvs p d) := by
  unfold putK putP
  rw [h.any p]
  by_cases q : hasP kvs p = true
  · rw [if_pos q, if_pos q]; exact h.repl r
  · rw [if_neg q, if_neg q]
    exact ⟨by rw [List.map_append, List.map_append, h.ks]; rfl, by rw [List.map_append, List.map_append]; exact h.vs.append (.one r)⟩
theorem Dr.mono {ws : List (List Key × V)} {kvs : Kvs} (e : Exd H H') (h : Dr g H ws kvs) : Dr g H' ws kvs := ⟨h.ks, h.vs.mono e⟩
theorem getP_isSome {kvs : Kvs} {p : Int × Int} : (getP kvs p).isSome = hasP kvs p := by
  unfold getP hasP
  rw [Option.isSome_map]
  induction kvs with
  | nil => rfl
  | cons e kvs ih =>
    rw [List.any_cons]
    by_cases q : e.1 = p
    · rw [List.find?_cons_of_pos (by simp [q])]; simp [q]
    · rw [List.find?_cons_of_neg (by simp [q]), ih]; simp [q]
theorem Dr.some {kvs : Kvs} {ws : List (List Key × V)} (h : Dr g H ws kvs) (p : Int × Int) : (valV ws (keyP p)).isSome = hasP kvs p := by
  rw [← getP_isSome]
  rcases Dr.get h p with ⟨z1, z2⟩ | ⟨d', w, e1, e2, r3⟩
  · rw [z1, z2]; rfl
  · rw [e1, e2]; rfl
theorem key_tup {p : Int × Int} {v : V} (h : R g H v (D.pl p)) : ∃ b, v = .ref b ∧ H b = some (.tup ((keyP p).map kV)) := by
  cases h with
  | tup h1 h2 =>
    cases h2 with
    | cons r1 r2 =>
      cases r2 with
      | cons r3 r4 =>
        cases r4; cases r1; cases r3
        exact ⟨_, rfl, h1⟩
/-- d[k], d a dict as data -/
theorem ev_dget {kvs : Kvs} {p : Int × Int} (ho : EvS g ta Γ (· = .dct kvs)) (hk : EvS g tb Γ (· = D.pl p)) (h : getP kvs p = some d) : EvS g (tDGet ta tb) Γ (· = d) := fun F m σ H e s Q q =>
  ho F m σ H e s _ fun v H1 d1 k1 a r => hk F m σ H1 e (s.keep k1) _ fun u H2 d2 k2 a2 r2 => by
    subst a; subst a2
    obtain ⟨b, rfl, hb⟩ := key_tup r2
    have r' := r.mono ((s.keep k1).lt k2).ex
    cases r' with
    | dct h1 h2 h3 =>
      rcases Dr.get ⟨h2, h3⟩ p with ⟨z, _⟩ | ⟨d', w, e1, e2, r3⟩
      · rw [h] at z; cases z
      · rw [h] at e1; cases e1
        exact ⟨_, w, rfl, .inr ⟨_, keyP p, b, (hid_rd h1).2, rfl, (hid_some hb).2, e2.symm⟩, q w H2 d (k1.trans k2) rfl r3⟩
/-- k in d -/
theorem ev_din {kvs : Kvs} {p : Int × Int} (hk : EvS g tb Γ (· = D.pl p)) (ho : EvS g ta Γ (· = .dct kvs)) : EvS g (tDIn tb ta) Γ (· = .bl (hasP kvs p)) := fun F m σ H e s Q q =>
  hk F m σ H e s _ fun u H1 d1 k1 a r => ho F m σ H1 e (s.keep k1) _ fun v H2 d2 k2 a2 r2 => by
    subst a; subst a2
    have r' := r.mono ((s.keep k1).lt k2).ex
    obtain ⟨b, rfl, hb⟩ := key_tup r'
    cases r2 with
    | @dct ad ws _ h1 h2 h3 =>
      refine ⟨_, valV ws (keyP p), rfl, .inr ⟨_, keyP p, b, (hid_rd h1).2, rfl, (hid_some hb).2, rfl⟩, ?_⟩
      rw [Dr.some ⟨h2, h3⟩ p]
      exact q _ H2 _ (k1.trans k2) rfl (.bl _)
theorem ev_dinN {kvs : Kvs} {p : Int × Int} (hk : EvS g tb Γ (· = D.pl p)) (ho : EvS g ta Γ (· = .dct kvs)) : EvS g (tDNotIn tb ta) Γ (· = .bl (!hasP kvs p)) := fun F m σ H e s Q q =>
  hk F m σ H e s _ fun u H1 d1 k1 a r => ho F m σ H1 e (s.keep k1) _ fun v H2 d2 k2 a2 r2 => by
    subst a; subst a2
    have r' := r.mono ((s.keep k1).lt k2).ex
    obtain ⟨b, rfl, hb⟩ := key_tup r'
    cases r2 with
    | @dct ad ws _ h1 h2 h3 =>
      refine ⟨_, valV ws (keyP p), rfl, .inr ⟨_, keyP p, b, (hid_rd h1).2, rfl, (hid_some hb).2, rfl⟩, ?_⟩
      rw [Dr.some ⟨h2, h3⟩ p]
      exact q _ H2 _ (k1.trans k2) rfl (.bl _)
/-- the same of an owned dict -/
theorem ev_dgetM {kvs : Kvs} {p : Int × Int} (ho : Γ[i]? = some (.md kvs)) (hk : EvS g tb Γ (· = D.pl p)) (h : getP kvs p = some d) : EvS g (tDGet (tVar i) tb) Γ (· = d) := fun F m σ H e s Q q => by
  obtain ⟨v, h1, l, ws, rfl, _, _, _, _, _⟩ := s.at ho
  refine ⟨_, h1, hk F m σ H e s _ fun u H2 d2 k2 a2 r2 => ?_⟩
  subst a2
  obtain ⟨b, rfl, hb⟩ := key_tup r2
  obtain ⟨v', h1', l', ws', e', h2, h3, h4, h5, h6⟩ := (s.keep k2).at ho
  rw [h1] at h1'; cases h1'; cases e'
  subst e
  rcases Dr.get ⟨h5, h6⟩ p with ⟨z, _⟩ | ⟨d', w, e1, e2, r3⟩
  · rw [h] at z; cases z
  · rw [h] at e1; cases e1
    exact ⟨_, w, rfl, .inr ⟨_, keyP p, b, .inl h4, rfl, (hid_some hb).2, e2.symm⟩, q w H2 d k2 rfl r3⟩
theorem ev_dinM {kvs : Kvs} {p : Int × Int} (hk : EvS g tb Γ (· = D.pl p)) (ho : Γ[i]? = some (.md kvs)) : EvS g (tDIn tb (tVar i)) Γ (· = .bl (hasP kvs p)) := fun F m σ H e s Q q =>
  hk F m σ H e s _ fun u H1 d1 k1 a r => by
    subst a
    obtain ⟨v, h1, l, ws, rfl, h2, h3, h4, h5, h6⟩ := (s.keep k1).at ho
    obtain ⟨b, rfl, hb⟩ := key_tup r
    subst e
    refine ⟨_, h1, _, valV ws (keyP p), rfl, .inr ⟨_, keyP p, b, .inl h4, rfl, (hid_some hb).2, rfl⟩, ?_⟩
    rw [Dr.some ⟨h5, h6⟩ p]
    exact q _ H1 _ k1 rfl (.bl _)
theorem ev_dinNM {kvs : Kvs} {p : Int × Int} (hk : EvS g tb Γ (· = D.pl p)) (ho : Γ[i]? = some (.md kvs)) : EvS g (tDNotIn tb (tVar i)) Γ (· = .bl (!hasP kvs p)) := fun F m σ H e s Q q =>
  hk F m σ H e s _ fun u H1 d1 k1 a r => by
    subst a
    obtain ⟨v, h1, l, ws, rfl, h2, h3, h4, h5, h6⟩ := (s.keep k1).at ho
    obtain ⟨b, rfl, hb⟩ := key_tup r
    subst e
    refine ⟨_, h1, _, valV ws (keyP p), rfl, .inr ⟨_, keyP p, b, .inl h4, rfl, (hid_some hb).2, rfl⟩, ?_⟩
    rw [Dr.some ⟨h5, h6⟩ p]
    exact q _ H1 _ k1 rfl (.bl _)
/-- d[k] = e -/
theorem sv_dput {kvs : Kvs} {p : Int × Int} (ho : Γ[i]? = some (.md kvs)) (hl : kvs.length < 100000) (hv : EvS g te Γ A) (hk : EvS g tb Γ (· = D.pl p)) (k : ∀ d, A d → E.nx (Γ.set i (.md (putP kvs p d)))) : Sv g (sDPut (tVar i) tb te) Γ E := fun F m σ H D e s a b c d =>
  hv F m σ H e s _ fun v H1 x k1 px r => by
    have s1 := s.keep k1
    obtain ⟨u, h1, l, ws, rfl, h2, h3, h4, h5, h6⟩ := s1.at ho
    refine ⟨_, h1, hk F m σ H1 e s1 _ fun u H2 d2 k2 a2 r2 => ?_⟩
    subst a2
    obtain ⟨bk, rfl, hb⟩ := key_tup r2
    have s2 := s1.keep k2
    have h4' : H2 l = some (.dT ws) := k2.ob l _ (s.ne h3.1) h4
    have dr : Dr F.g (hid m H2) ws kvs := Dr.mono (s1.lt k2).ex ⟨h5, h6⟩
    subst e
    have dr2 := dr.put (p := p) (r.mono (s1.lt k2).ex)
    refine ⟨l, _, rfl, .inr ⟨ws, keyP p, bk, h4', rfl, (hid_some hb).2, Evl.sz_lt (by rw [dr.len]; exact hl), rfl⟩, ?_⟩
    have eh : hid m (upd H2 l (.dT (putK ws (keyP p) v))) = hid m H2 := hid_upd h2
    obtain ⟨s3, l3⟩ := s2.mut (o := .dT (putK ws (keyP p) v)) ho rfl h1 (.md (putP kvs p x)) ⟨l, _, rfl, h2, h3, upd_same, dr2.ks, by rw [eh]; exact dr2.vs⟩ h3.1 h2
    exact a m σ _ _ ((s.lt (k1.trans k2)).trans l3) s3 (k x px)

/-! names set side by side -/
theorem sv_par {A B : D → Prop} (ha : EvS g ta Γ A) (hb : EvS g tb Γ B) (k : ∀ x y, A x → B y → E.nx ((Γ.set i (.d x)).set j (.d y))) : Sv g (tPar i j (tCons ta (tCons tb tNil))) Γ E := fun F m σ H D e s a b c d =>
  ha F m σ H e s _ fun v H1 x k1 p1 r1 => hb F m σ H1 e (s.keep k1) _ fun u H2 y k2 p2 r2 => ⟨v, u, rfl, by
    subst e
    have s2 := (s.keep k1).keep k2
    exact a m _ H2 _ (s.lt (k1.trans k2)) ((s2.setd (r1.mono ((s.keep k1).lt k2).ex)).setd r2) (k x y p1 p2)⟩
theorem sv_par' {x y : D} (ha : EvS g ta Γ (· = x)) (hb : EvS g tb Γ (· = y)) (k : E.nx ((Γ.set i (.d x)).set j (.d y))) : Sv g (tPar i j (tCons ta (tCons tb tNil))) Γ E := sv_par ha hb fun _ _ e1 e2 => e1 ▸ e2 ▸ k
theorem sv_par3 {l : Nat} {tc : TE} {A B Cc : D → Prop} (ha : EvS g ta Γ A) (hb : EvS g tb Γ B) (hc : EvS g tc Γ Cc) (k : ∀ x y z, A x → B y → Cc z → E.nx (((Γ.set i (.d x)).set j (.d y)).set l (.d z))) : Sv g (tPar3 i j l (tCons ta (tCons tb (tCons tc tNil)))) Γ E := fun F m σ H D e s a b c d =>
  ha F m σ H e s _ fun v H1 x k1 p1 r1 => hb F m σ H1 e (s.keep k1) _ fun u H2 y k2 p2 r2 => hc F m σ H2 e ((s.keep k1).keep k2) _ fun w H3 z k3 p3 r3 => ⟨v, u, w, rfl, by
    subst e
    have s3 := ((s.keep k1).keep k2).keep k3
    exact a m _ H3 _ (s.lt ((k1.trans k2).trans k3)) (((s3.setd (r1.mono ((s.keep k1).lt (k2.trans k3)).ex)).setd (r2.mono (((s.keep k1).keep k2).lt k3).ex)).setd r3) (k x y z p1 p2 p3)⟩
/-- name += int -/
theorem sv_augI {f : Int → Int → Int} {a b : Int} (hi : Γ[i]? = some (.d (.int a))) (h : EvS g te Γ (· = .int b)) (k : E.nx (Γ.set i (.d (.int (f a b))))) : Sv g (tAug i te (ipI f)) Γ E := fun F m σ H D e s a b c d => by
  obtain ⟨v, h1, w, rfl, r⟩ := s.at hi
  subst e
  cases r
  refine ⟨_, h1, h F m σ H rfl s _ fun u H1 x k1 p r1 => ?_⟩
  subst p; cases r1
  exact ⟨_, _, rfl, rfl, a m _ H1 _ (s.lt k1) ((s.keep k1).setd (.int _)) k⟩
end
end K55
set_option maxHeartbeats 1000000
/-! The rules with the written part named. -/
namespace K55
open PySem PySem.Spec PyProof.Rows L2
section
variable {X : Cx} {K : PySem.W.Frag} {ta tb te : TE} {t : TA}
theorem ixT (h : X.K = K) : IxR X (rIxT K) := h ▸ ix_tup
theorem ixL (h : X.K = K) : IxR X (rIxL K) := h ▸ ix_list
theorem eqD (h : X.K = K) (hu : X.A.units + 64 < cLine) : OpR X (compareOp .Eq) (rEqD K) := h ▸ op_eqD hu
theorem neD (h : X.K = K) (hu : X.A.units + 64 < cLine) : OpR X (compareOp .NotEq) (rNeD K) := h ▸ op_neD hu
theorem inQ (h : X.K = K) : OpR X (compareOp .In) (rIn K false) := h ▸ op_in_seq
theorem notInQ (h : X.K = K) : OpR X (compareOp .NotIn) (rIn K true) := h ▸ op_notIn_seq
theorem lenK (h : X.K = K) : CallR X (.builtin "len") (fun xs H Q => ∃ x n, xs = [x] ∧ LenV K x H n ∧ Q (.int n) H) := h ▸ call_len
theorem allK (h : X.K = K) (hc : X.calm = true) : CallR X (.builtin "all") (rAll K) := h ▸ cr_all hc
theorem isiK (h : X.K = K) : CallR X (.builtin "isinstance") (rIsi K) := h ▸ call_isi
theorem isiTK (h : X.K = K) : CallR X (.builtin "isinstance") (rIsiT K) := h ▸ call_isiT
theorem slLK (h : X.K = K) : SlR X (rSlL K) := h ▸ sl_list
theorem piL {tg l : Expr} (h : X.K = K) (hl : PE X l te) : PI X tg l (iList K te) := h ▸ pi_list hl
theorem piT {tg l : Expr} (h : X.K = K) (hl : PE X l te) : PI X tg l (iTup K te) := h ▸ pi_tup hl
theorem pgT {es : List Expr} {k : Nat} {t : TGs} {n : Nat} {pos : PySem.Pos} (h : X.K = K) (hc : X.calm = true) (ht : PGs X es t) (hn : (assignEach es X.env).length = n := by rfl) (hst : (assignEach es X.env).findIdx? (·.1) = none := by rfl) : PG X (.Tuple es k pos) (gTup K n t) := h ▸ pg_tup hc ht hn hst
theorem fldK {e : Expr} {f : Str} {pos : PySem.Pos} (h : X.K = K) (he : PE X e te) (hb : attributeBase e f X.env (eval e X.env) = eval e X.env) : PE X (.Attribute e f pos) (tFld K te f) := h ▸ pe_fld he hb
end
end K55
set_option maxHeartbeats 1000000
/-! More of owned objects. -/
namespace K55
open PySem PySem.Spec PyProof.Rows L2
open Evl (Ex)
section
variable {g : Gl} {F : Fr} {m : List Addr} {σ : L2.St} {H H' : Hp} {Γ Γ' Γ'' : List C} {te ta tb : TE} {A B : D → Prop} {P : List D → Prop} {ts tu tv : TS} {tt : TT} {E : En} {tg : TG} {js : List Nat} {i j : Nat} {x y d : D} {wi : TI}
/-- a new object, owned from now on -/
theorem S.setO (s : S F m σ H Γ) {H1 : Hp} (k1 : Kp F.t H H1) {p : Addr} {c' : C} (hp : H p = none) (hne : H1 p ≠ none) (hs : F.H0 p = none → p ∉ F.lk → Sl F (p :: m) H1 (some (.ref p)) c') (hnt : ∀ xs, H1 p ≠ some (.tup xs) := by intro _ z; rw [upd_same] at z; cases z) : S F (p :: m) (σ.set i (some (.ref p))) H1 (Γ.set i c') ∧ Lt m H (p :: m) H1 := by
  have s1 := s.keep k1
  have h0 : F.H0 p = none := s.none0 hp
  have np : p ∉ m := s.fresh hp
  have nlk : p ∉ F.lk := fun z => (s.occ p (s.lks p z)).1 hp
  have ex : Ex (hid m H) (hid (p :: m) H1) := fun a o e => by
    obtain ⟨h1, h2⟩ := hid_some e
    have n : a ≠ p := fun z => by rw [z, hp] at h2; cases h2
    rw [hid_out fun z => (List.mem_cons.mp z).elim n h1]
    exact (hid_some (ex_kp s.tin k1 a o e)).2
  refine ⟨⟨by rw [List.length_set, List.length_set, s.len], fun a v c e1 e2 => ?_, fun a b l ca cb n e1 e2 e3 e4 o1 o2 => ?_, fun a h => ?_, s.tap, s1.kp, fun a h => List.mem_cons_of_mem _ (s.sub a h), s.occ0, fun a h => List.mem_cons_of_mem _ (s.lks a h)⟩, ⟨.of ex⟩⟩
  · rw [List.getElem?_set] at e1 e2
    by_cases q : i = a
    · rw [if_pos q] at e1 e2
      split at e1
      · split at e2
        · cases e1; cases e2
          exact hs h0 nlk
        · cases e2
      · cases e1
    · rw [if_neg q] at e1 e2
      have z := s.sl a v c e1 e2
      cases c with
      | un => trivial
      | d x => obtain ⟨w, h1, h2⟩ := z; exact ⟨w, h1, h2.mono (.of ex)⟩
      | tp => exact z
      | ml ds' => obtain ⟨l, xs', h1, h2, h3, h4, h5⟩ := z; exact ⟨l, xs', h1, List.mem_cons_of_mem _ h2, h3, k1.ob l _ (s.ne h3.1) h4, h5.mono (.of ex)⟩
      | md kvs => obtain ⟨l, ws, h1, h2, h3, h4, h5, h6⟩ := z; exact ⟨l, ws, h1, List.mem_cons_of_mem _ h2, h3, k1.ob l _ (s.ne h3.1) h4, h5, h6.mono (.of ex)⟩
      | io l0 Cl fs => obtain ⟨l, dx, ws, h1, h2, h3, h4, h5, h6⟩ := z; exact ⟨l, dx, ws, h1, List.mem_cons_of_mem _ h2, h3, k1.ob l _ (s.ne h3.1) h4, h5, h6.mono (.of ex)⟩
  · have old : ∀ (b : Nat) (cb : C), σ[b]? = some (some (.ref p)) → Γ[b]? = some cb → cb.owned = true → False := fun b cb h1 h2 h3 => by
      have z := s.sl b _ cb h1 h2
      cases cb with
      | ml ds' => obtain ⟨l, xs', e, h4, _⟩ := z; cases e; exact np h4
      | md kvs => obtain ⟨l, ws, e, h4, _⟩ := z; cases e; exact np h4
      | io l0 Cl fs => obtain ⟨l, dx, ws, e, h4, _⟩ := z; cases e; exact np h4
      | un => cases h3
      | d x => cases h3
      | tp => cases h3
    rw [List.getElem?_set] at e1 e2 e3 e4
    by_cases qa : i = a
    · have qb : i ≠ b := fun z => n (qa.symm.trans z)
      rw [if_pos qa] at e1
      rw [if_neg qb] at e2 e4
      split at e1
      · cases e1; exact old b cb e2 e4 o2
      · cases e1
    · rw [if_neg qa] at e1 e3
      by_cases qb : i = b
      · rw [if_pos qb] at e2
        split at e2
        · cases e2; exact old a ca e1 e3 o1
        · cases e2
      · rw [if_neg qb] at e2 e4
        exact s.own a b l ca cb n e1 e2 e3 e4 o1 o2
  · rcases List.mem_cons.mp h with z | z
    · rw [z]; exact ⟨hne, hnt⟩
    · exact s1.occ a z
/-- d = {} -/
theorem sv_asgM (k : E.nx (Γ.set i (.md []))) : Sv g (tAsg tDNewT (gName i)) Γ E := fun F m σ H D e s a b c d p hp => by
  obtain ⟨s1, l1⟩ := s.setO (i := i) (c' := .md []) (H1 := upd H p (.dT [])) (kp_new hp) hp (by rw [upd_same]; exact fun z => by cases z) fun h0 nlk => ⟨p, [], rfl, List.mem_cons_self, ⟨h0, nlk⟩, upd_same, rfl, .nil⟩
  exact a _ _ _ _ l1 s1 k
/-- l = l + a new list -/
theorem sv_catL {ds : List D} (h : Γ[i]? = some (.ml ds)) (he : EvL g te Γ P) (hl : ∀ l, P l → ds.length + l.length ≤ 100000) (k : ∀ l, P l → E.nx (Γ.set i (.ml (ds ++ l)))) : Sv g (tAsg (tOp rCat (tVar i) te) (gName i)) Γ E := fun F m σ H D e s a b c d => by
  obtain ⟨v, h1, l, xs, rfl, h2, h3, h4, h5⟩ := s.at h
  refine ⟨_, h1, he F m σ H e s _ fun q H1 ys es k1 hq hy pe r => ?_⟩
  subst e
  have hx : H1 l = some (.lst xs) := k1.ob l _ (s.ne h3.1) h4
  refine ⟨l, q, xs, ys, rfl, rfl, hx, hy, Evl.sz_of (by rw [h5.len, r.len]; exact hl es pe), fun p hp => ?_⟩
  have hp0 : H p = none := Kp.back s k1 hp
  have np : p ≠ q := fun z => by rw [z, hy] at hp; cases hp
  have nm : p ∉ m := s.fresh hp0
  have ex1 : Ex (hid m H) (hid (p :: m) (upd H1 p (.lst (xs ++ ys)))) := fun b o e => by
    obtain ⟨q1, q2⟩ := hid_some e
    have n : b ≠ p := fun z => by rw [z, hp0] at q2; cases q2
    rw [hid_out fun z => (List.mem_cons.mp z).elim n q1, upd_ne n]
    exact (hid_some (ex_kp s.tin k1 b o e)).2
  have ex2 : Ex (hid (q :: m) H1) (hid (p :: m) (upd H1 p (.lst (xs ++ ys)))) := fun b o e => by
    obtain ⟨q1, q2⟩ := hid_some e
    have n : b ≠ p := fun z => by rw [z, hp] at q2; cases q2
    rw [hid_out fun z => (List.mem_cons.mp z).elim n fun z => q1 (List.mem_cons_of_mem _ z), upd_ne n]
    exact q2
  obtain ⟨s1, l1⟩ := s.setO (i := i) (c' := .ml (ds ++ es)) (H1 := upd H1 p (.lst (xs ++ ys))) (k1.trans (kp_new hp)) hp0 (by rw [upd_same]; exact fun z => by cases z) fun h0 nlk => ⟨p, _, rfl, List.mem_cons_self, ⟨h0, nlk⟩, upd_same, (h5.mono (.of ex1)).append (r.mono (.of ex2))⟩
  exact a _ _ _ _ l1 s1 (k es pe)
/-- l.index(p), p in l -/
theorem first_at (p : Int × Int) : ∀ ps : List (Int × Int), p ∈ ps → ∃ j : Nat, j < ps.length ∧ ps[j]? = some p ∧ ∀ n : Nat, n < j → ∀ z, ps[n]? = some z → z ≠ p
  | [], h => by cases h
  | q :: ps, h => by
    by_cases e : q = p
    · subst e
      exact ⟨0, Nat.succ_pos _, rfl, fun n hn => absurd hn (Nat.not_lt_zero _)⟩
    · have h2 : p ∈ ps := (List.mem_cons.mp h).resolve_left fun z => e z.symm
      obtain ⟨j, h3, h4, h5⟩ := first_at p ps h2
      refine ⟨j + 1, Nat.succ_lt_succ h3, h4, fun n hn z hz => ?_⟩
      cases n with
      | zero => cases hz; exact e
      | succ n => exact h5 n (by omega) z hz
theorem ev_index {ps : List (Int × Int)} {p : Int × Int} (ha : EvS g ta Γ (· = .lst (ps.map D.pl))) (hb : EvS g tb Γ (· = D.pl p)) (hp : p ∈ ps) : EvS g (tBM g.K "list" (rIndexD g.K) ta (tCons tb tNil)) Γ (fun d => ∃ j : Nat, d = .int j ∧ j < ps.length) := fun F m σ H e s Q q =>
  ha F m σ H e s _ fun v H1 d k1 a r => by
    subst a
    cases r with
    | lst h1 h2 =>
      refine ⟨.inl ⟨rfl, _, SqL.of (hid_some h1).2⟩, hb F m σ H1 e (s.keep k1) _ fun u H2 d2 k2 a2 r2 => ?_⟩
      subst a2
      have ex := ((s.keep k1).lt k2).ex
      obtain ⟨j, hj1, hj2, hj3⟩ := first_at p ps hp
      refine ⟨_, u, plPy p, ps.map plPy, j, plPy p, rfl, rfl, .lst (SqL.of (hid_some (ex.lst h1)).2) (dp_pls (h2.mono ex) (hid_ex m H2)), dp_pl r2 (hid_ex m H2), shaped_l ps, shaped_pl p, by rw [List.getElem?_map, hj2]; rfl, by rw [eqv_pl]; simp, fun n z hn hz => ?_, q _ H2 _ (k1.trans k2) ⟨j, rfl, hj1⟩ (.int _)⟩
      rw [List.getElem?_map] at hz
      cases hq : ps[n]? with
      | none => rw [hq] at hz; cases hz
      | some z' =>
        rw [hq] at hz
        cases hz
        rw [eqv_pl]
        exact decide_eq_false (hj3 n hn z' hq)
/-- an owned list becomes plain data -/
theorem S.give (s : S F m σ H Γ) {ds : List D} (h : Γ[i]? = some (.ml ds)) : ∃ m', S F m' σ H (Γ.set i (.d (.lst ds))) ∧ Lt m H m' H := by
  obtain ⟨v, h1, l, xs, e, h2, h3, h4, h5⟩ := s.at h
  subst e
  have ex : Ex (hid m H) (hid (m.filter (· ≠ l)) H) := hid_less fun a ha => (List.mem_filter.mp ha).1
  have keepm : ∀ a ∈ m, a ≠ l → a ∈ m.filter (· ≠ l) := fun a ha n => List.mem_filter.mpr ⟨ha, by simpa using n⟩
  have nl : l ∉ m.filter (· ≠ l) := fun z => by have := (List.mem_filter.mp z).2; simp at this
  refine ⟨m.filter (· ≠ l), ⟨by rw [List.length_set, s.len], fun a v c e1 e2 => ?_, fun a b l' ca cb n e1 e2 e3 e4 o1 o2 => ?_, fun a ha => s.occ a (List.mem_filter.mp ha).1, s.tap, s.kp, fun a ha => ?_, s.occ0, fun a ha => keepm a (s.lks a ha) fun z => h3.2 (z ▸ ha)⟩, ⟨.of ex⟩⟩
  · rw [List.getElem?_set] at e2
    by_cases q : i = a
    · subst q
      rw [if_pos rfl] at e2
      split at e2
      · cases e2
        rw [h1] at e1
        cases e1
        exact ⟨_, rfl, .lst (by rw [hid_out nl]; exact h4) (h5.mono (.of ex))⟩
      · cases e2
    · rw [if_neg q] at e2
      have z := s.sl a v c e1 e2
      have ne : ∀ {l' : Addr}, v = some (.ref l') → c.owned = true → l' ≠ l := fun {l'} ev ho z => by
        subst z; subst ev
        exact s.own i a l' _ c q h1 e1 h e2 rfl ho
      cases c with
      | un => trivial
      | d x => obtain ⟨w, h1, h2⟩ := z; exact ⟨w, h1, h2.mono (.of ex)⟩
      | tp => exact z
      | ml ds' => obtain ⟨l', xs', g1, g2, g3, g4, g5⟩ := z; exact ⟨l', xs', g1, keepm l' g2 (ne g1 rfl), g3, g4, g5.mono (.of ex)⟩
      | md kvs => obtain ⟨l', ws, g1, g2, g3, g4, g5, g6⟩ := z; exact ⟨l', ws, g1, keepm l' g2 (ne g1 rfl), g3, g4, g5, g6.mono (.of ex)⟩
      | io l0 Cl fs => obtain ⟨l', dx, ws, g1, g2, g3, g4, g5, g6⟩ := z; exact ⟨l', dx, ws, g1, keepm l' g2 (ne g1 rfl), g3, g4, g5, g6.mono (.of ex)⟩
  · have old : ∀ (b : Nat) (cb : C), (Γ.set i (.d (.lst ds)))[b]? = some cb → cb.owned = true → Γ[b]? = some cb := fun b cb g1 g2 => by
      rw [List.getElem?_set] at g1
      by_cases q : i = b
      · rw [if_pos q] at g1
        split at g1
        · cases g1; cases g2
        · cases g1
      · rw [if_neg q] at g1; exact g1
    exact s.own a b l' ca cb n e1 e2 (old a ca e3 o1) (old b cb e4 o2) o1 o2
  · refine keepm a (s.sub a ha) fun z => ?_
    subst z
    exact s.occ0 a ha h3.1
theorem sv_give {ds : List D} (h : Γ[i]? = some (.ml ds)) (k : Sv g ts (Γ.set i (.d (.lst ds))) E) : Sv g ts Γ E := fun F m σ H D e s a b c d => by
  obtain ⟨m', s', l⟩ := s.give h
  exact k F m' σ H D e s' (fun m2 σ2 H2 Γ2 l2 => a m2 σ2 H2 Γ2 (l.trans l2)) (fun m2 σ2 H2 Γ2 l2 => b m2 σ2 H2 Γ2 (l.trans l2)) (fun m2 σ2 H2 Γ2 l2 => c m2 σ2 H2 Γ2 (l.trans l2)) d
/-- an owned dict becomes plain data -/
theorem S.giveM (s : S F m σ H Γ) {kvs : Kvs} (h : Γ[i]? = some (.md kvs)) : ∃ m', S F m' σ H (Γ.set i (.d (.dct kvs))) ∧ Lt m H m' H := by
  obtain ⟨v, h1, l, xs, e, h2, h3, h4, h5, h6⟩ := s.at h
  subst e
  have ex : Ex (hid m H) (hid (m.filter (· ≠ l)) H) := hid_less fun a ha => (List.mem_filter.mp ha).1
  have keepm : ∀ a ∈ m, a ≠ l → a ∈ m.filter (· ≠ l) := fun a ha n => List.mem_filter.mpr ⟨ha, by simpa using n⟩
  have nl : l ∉ m.filter (· ≠ l) := fun z => by have := (List.mem_filter.mp z).2; simp at this
  refine ⟨m.filter (· ≠ l), ⟨by rw [List.length_set, s.len], fun a v c e1 e2 => ?_, fun a b l' ca cb n e1 e2 e3 e4 o1 o2 => ?_, fun a ha => s.occ a (List.mem_filter.mp ha).1, s.tap, s.kp, fun a ha => ?_, s.occ0, fun a ha => keepm a (s.lks a ha) fun z => h3.2 (z ▸ ha)⟩, ⟨.of ex⟩⟩
  · rw [List.getElem?_set] at e2
    by_cases q : i = a
    · subst q
      rw [if_pos rfl] at e2
      split at e2
      · cases e2
        rw [h1] at e1
        cases e1
        exact ⟨_, rfl, .dct (.inl (by rw [hid_out nl]; exact h4)) h5 (h6.mono (.of ex))⟩
      · cases e2
    · rw [if_neg q] at e2
      have z := s.sl a v c e1 e2
      have ne : ∀ {l' : Addr}, v = some (.ref l') → c.owned = true → l' ≠ l := fun {l'} ev ho z => by
        subst z; subst ev
        exact s.own i a l' _ c q h1 e1 h e2 rfl ho
      cases c with
      | un => trivial
      | d x => obtain ⟨w, h1, h2⟩ := z; exact ⟨w, h1, h2.mono (.of ex)⟩
      | tp => exact z
      | ml ds' => obtain ⟨l', xs', g1, g2, g3, g4, g5⟩ := z; exact ⟨l', xs', g1, keepm l' g2 (ne g1 rfl), g3, g4, g5.mono (.of ex)⟩
      | md kvs' => obtain ⟨l', ws, g1, g2, g3, g4, g5, g6⟩ := z; exact ⟨l', ws, g1, keepm l' g2 (ne g1 rfl), g3, g4, g5, g6.mono (.of ex)⟩
      | io l0 Cl fs => obtain ⟨l', dx, ws, g1, g2, g3, g4, g5, g6⟩ := z; exact ⟨l', dx, ws, g1, keepm l' g2 (ne g1 rfl), g3, g4, g5, g6.mono (.of ex)⟩
  · have old : ∀ (b : Nat) (cb : C), (Γ.set i (.d (.dct kvs)))[b]? = some cb → cb.owned = true → Γ[b]? = some cb := fun b cb g1 g2 => by
      rw [List.getElem?_set] at g1
      by_cases q : i = b
      · rw [if_pos q] at g1
        split at g1
        · cases g1; cases g2
        · cases g1
      · rw [if_neg q] at g1; exact g1
    exact s.own a b l' ca cb n e1 e2 (old a ca e3 o1) (old b cb e4 o2) o1 o2
  · refine keepm a (s.sub a ha) fun z => ?_
    subst z
    exact s.occ0 a ha h3.1
theorem sv_giveM {kvs : Kvs} (h : Γ[i]? = some (.md kvs)) (k : Sv g ts (Γ.set i (.d (.dct kvs))) E) : Sv g ts Γ E := fun F m σ H D e s a b c d => by
  obtain ⟨m', s', l⟩ := s.giveM h
  exact k F m' σ H D e s' (fun m2 σ2 H2 Γ2 l2 => a m2 σ2 H2 Γ2 (l.trans l2)) (fun m2 σ2 H2 Γ2 l2 => b m2 σ2 H2 Γ2 (l.trans l2)) (fun m2 σ2 H2 Γ2 l2 => c m2 σ2 H2 Γ2 (l.trans l2)) d
/-- .. of lists made side by side -/
theorem sv_parML (k : E.nx ((Γ.set i (.ml [])).set j (.md []))) : Sv g (tPar i j (tCons (tLst tNil) (tCons tDNewT tNil))) Γ E := fun F m σ H D e s a b c d => by
  refine ⟨Nat.zero_le _, fun p hp q hq => ⟨_, _, rfl, ?_⟩⟩
  obtain ⟨s1, l1⟩ := s.setO (i := i) (c' := .ml []) (H1 := upd H p (.lst [])) (kp_new hp) hp (by rw [upd_same]; exact fun z => by cases z) fun h0 nlk => ⟨p, [], rfl, List.mem_cons_self, ⟨h0, nlk⟩, upd_same, .nil⟩
  obtain ⟨s2, l2⟩ := s1.setO (i := j) (c' := .md []) (H1 := upd (upd H p (.lst [])) q (.dT [])) (kp_new hq) hq (by rw [upd_same]; exact fun z => by cases z) fun h0 nlk => ⟨q, [], rfl, List.mem_cons_self, ⟨h0, nlk⟩, upd_same, rfl, .nil⟩
  exact a _ _ _ _ (l1.trans l2) s2 k
theorem sv_parMI {n : Int} (k : E.nx ((Γ.set i (.md [])).set j (.d (.int n)))) : Sv g (tPar i j (tCons tDNewT (tCons (tC (.int n)) tNil))) Γ E := fun F m σ H D e s a b c d => by
  refine fun p hp => ⟨_, _, rfl, ?_⟩
  obtain ⟨s1, l1⟩ := s.setO (i := i) (c' := .md []) (H1 := upd H p (.dT [])) (kp_new hp) hp (by rw [upd_same]; exact fun z => by cases z) fun h0 nlk => ⟨p, [], rfl, List.mem_cons_self, ⟨h0, nlk⟩, upd_same, rfl, .nil⟩
  exact a _ _ _ _ l1 (s1.setd (.int n)) k
end
end K55
set_option maxHeartbeats 1000000
/-! Own instances: made, read, their methods and properties. -/
namespace K55
open PySem PySem.Spec PyProof.Rows L2
open Evl (Ex)
/-- an instance's fields make a datum -/
inductive Ob (g : Gl) : Addr → List (Str × D) → D → Prop
  | net (a b c : Int) : Ob g g.net [("own_numbers", .tup [.int a, .int b, .int c])] (.net a b c)
  | car {Cl : Addr} (h : Cl = g.car ∨ Cl = g.wov) (a b c : Int) (x : Str) : Ob g Cl [("own_net", .net a b c), ("own_text", .str x)] (.car a b c x)
  | part (P : PD) : Ob g g.part [("own_colour", .str P.colour), ("own_start", D.pl P.start), ("known", .dct (P.known.map fun e => (e.1, D.pl e.2))), ("own_places", .int P.places), ("own_basis", .tup (P.basis.map D.pl)), ("own_border", .int P.border)] (.part P)
theorem putFD {g : Gl} {H : Hp} {f : Str} {v : V} {d : D} (r : R g H v d) : ∀ {ws : List (Str × V)} {fs : List (Str × D)}, ws.map (·.1) = fs.map (·.1) → Rs g H (ws.map (·.2)) (fs.map (·.2)) → f ∉ fs.map (·.1) →
    (putF f v ws).map (·.1) = (fs ++ [(f, d)]).map (·.1) ∧ Rs g H ((putF f v ws).map (·.2)) ((fs ++ [(f, d)]).map (·.2))
  | [], [], _, _, _ => ⟨rfl, .one r⟩
  | [], _ :: _, h, _, _ => by cases h
  | _ :: _, [], h, _, _ => by cases h
  | (a, w) :: ws, (b, e) :: fs, h, k, n => by
    have h1 : a = b := (List.cons.inj h).1
    have h2 := (List.cons.inj h).2
    have n1 : ¬ a = f := fun z => n (by rw [← z, h1]; exact List.mem_cons_self)
    have n2 : f ∉ fs.map (·.1) := fun z => n (List.mem_cons_of_mem _ z)
    cases k with
    | cons k1 k2 =>
      obtain ⟨q1, q2⟩ := putFD r h2 k2 n2
      unfold putF
      rw [if_neg n1]
      exact ⟨by rw [List.map_cons, q1, h1]; rfl, .cons k1 q2⟩
section
variable {g : Gl} {F : Fr} {m : List Addr} {σ : L2.St} {H H' : Hp} {Γ Γ' Γ'' : List C} {te ta tb : TE} {tl : TA} {A B P : D → Prop} {ts tu tv : TS} {tt : TT} {E : En} {tg : TG} {js : List Nat} {i j : Nat} {x y d : D} {wi : TI} {Cl : Addr}
theorem ob_r {p dx : Addr} {ws : List (Str × V)} {fs : List (Str × D)} (o : Ob g Cl fs d) (hH : H p = some (.ins Cl dx ws)) (hn : ws.map (·.1) = fs.map (·.1)) (r : Rs g H (ws.map (·.2)) (fs.map (·.2))) : R g H (.ref p) d := by
  have key : ∀ {f : Str} {e : D} {fs : List (Str × D)} {ws : List (Str × V)}, ws.map (·.1) = ((f, e) :: fs).map (·.1) → Rs g H (ws.map (·.2)) (((f, e) :: fs).map (·.2)) → ∃ w ws', ws = (f, w) :: ws' ∧ R g H w e ∧ ws'.map (·.1) = fs.map (·.1) ∧ Rs g H (ws'.map (·.2)) (fs.map (·.2)) := by
    intro f e fs ws h k
    cases ws with
    | nil => cases h
    | cons w ws =>
      obtain ⟨a, w⟩ := w
      have h1 : a = f := (List.cons.inj h).1
      cases k with
      | cons k1 k2 => exact ⟨w, ws, by rw [h1], k1, (List.cons.inj h).2, k2⟩
  have fin : ∀ {ws : List (Str × V)}, ws.map (·.1) = ([] : List (Str × D)).map (·.1) → ws = [] := fun h => List.map_eq_nil_iff.mp h
  cases o with
  | net a b c =>
    obtain ⟨w1, ws, rfl, r1, hn, r⟩ := key hn r
    cases fin hn
    exact .net hH r1
  | car h a b c z =>
    obtain ⟨w1, ws, rfl, r1, hn, r⟩ := key hn r
    obtain ⟨w2, ws, rfl, r2, hn, r⟩ := key hn r
    cases fin hn
    cases r2
    exact .car h hH r1
  | part P =>
    obtain ⟨w1, ws, rfl, r1, hn, r⟩ := key hn r
    obtain ⟨w2, ws, rfl, r2, hn, r⟩ := key hn r
    obtain ⟨w3, ws, rfl, r3, hn, r⟩ := key hn r
    obtain ⟨w4, ws, rfl, r4, hn, r⟩ := key hn r
    obtain ⟨w5, ws, rfl, r5, hn, r⟩ := key hn r
    obtain ⟨w6, ws, rfl, r6, hn, r⟩ := key hn r
    cases fin hn
    cases r1; cases r4; cases r6
    exact .part hH r2 r5 r3
/-- self.f = e -/
theorem sv_fld {K : PySem.W.Frag} {l0 : Addr} {fs : List (Str × D)} {f : Str} (h : Γ[i]? = some (.io l0 Cl fs)) (hc : Cls K Cl) (hn : NoAttr K Cl f) (hf : f ∉ fs.map (·.1)) (hl : fs.length < 1000) (he : EvS g te Γ A) (k : ∀ d, A d → E.nx (Γ.set i (.io l0 Cl (fs ++ [(f, d)])))) : Sv g (sFld K (tVar i) te f) Γ E := fun F m σ H D e s a b c d =>
  he F m σ H e s _ fun w H1 x k1 p r => by
    have s1 := s.keep k1
    obtain ⟨v, h1, l, dx, ws, rfl, h2, h3, h4, ⟨hl0, h5⟩, h6⟩ := s1.at h
    subst e
    have hll := congrArg List.length h5
    rw [List.length_map, List.length_map] at hll
    refine ⟨_, h1, l, Cl, dx, ws, rfl, h4, hc, hn, by omega, ?_⟩
    have eh : hid m (upd H1 l (.ins Cl dx (putF f w ws))) = hid m H1 := hid_upd h2
    obtain ⟨q1, q2⟩ := putFD (f := f) r h5 h6 hf
    obtain ⟨s2, l2⟩ := s1.mut (o := .ins Cl dx (putF f w ws)) h rfl h1 (.io l0 Cl (fs ++ [(f, x)])) ⟨l, dx, _, rfl, h2, h3, upd_same, ⟨hl0, q1⟩, by rw [eh]; exact q2⟩ h3.1 h2
    exact a m σ _ _ ((s.lt k1).trans l2) s2 (k x p)
/-- what an __init__ promises -/
def pri (g : Gl) (n : Nat) (Cl : Addr) {ι : Type} (arg : ι → List C) (Pre : ι → Prop) (Post : ι → D → Prop) : Sp := fun vs H Q _ => ∃ (t : Option Tid) (m : List Addr) (i : ι) (H0 : Hp) (x dx : Addr) (us : List V), vs = .ref x :: us ∧ H0 x = none ∧ H0 dx = none ∧ dx ≠ x ∧
  H = upd (upd H0 dx (.own x)) x (.ins Cl dx []) ∧ (arg i).length + 1 = n ∧ (∀ a ∈ m, Held H0 a) ∧ (∀ τ, t = some τ → τ.a ∈ m ∧ Tape τ H0) ∧ Sas g t m H0 us (arg i) ∧ Pre i ∧ ∀ H' d, Kp t H0 H' → Post i d → R g (hid m H') (.ref x) d → Q .non H'
theorem pri_len {ι : Type} {n : Nat} {arg : ι → List C} {Pre : ι → Prop} {Post : ι → D → Prop} {ps : List Str} (hn : ps.length = n) : ∀ vs H Q E, pri g n Cl arg Pre Post vs H Q E → vs.length = ps.length := fun vs H Q E ⟨t, m, i, H0, x, dx, us, h1, _, _, _, _, h2, _, _, h3, _⟩ => by
  rw [h1, List.length_cons, Paired.length h3, h2, hn]
theorem sas_at {t : Option Tid} : ∀ {vs : List V} {cs : List C}, Sas g t m H vs cs → ∀ (i : Nat) (c : C), cs[i]? = some c → ∃ v, vs[i]? = some v ∧ Sa g t m H v c := by
  intro vs cs a
  induction a with
  | nil => intro i c h; cases h
  | cons r _ ih =>
    intro i c h
    cases i with
    | zero => cases h; exact ⟨_, rfl, r⟩
    | succ i => exact ih i c (by simpa using h)
theorem init_run {ι : Type} {n k : Nat} {N : List Str} {arg : ι → List C} {Pre : ι → Prop} {Post : ι → D → Prop} {vs : List V} {Q : VK} {X : XK} (hN : N.length = n + k)
    (hb : ∀ i x, Pre i → Sv g ts ((.io x Cl [] :: arg i) ++ List.replicate k .un) { nx := fun Γ' => ∃ fs d, Γ'[0]? = some (.io x Cl fs) ∧ Ob g Cl fs d ∧ Post i d, rt := fun _ => False })
    (h : pri g n Cl arg Pre Post vs H Q X) : ts { nx := fun _ H' => Q .non H', rt := Q } (L2.start N vs) H := by
  obtain ⟨t, m, i, H0, x, dx, us, rfl, hx, hdx, hne, rfl, hn, occ, tap, a, hp, q⟩ := h
  have hv : us.length + 1 = n := by rw [Paired.length a, hn]
  have xm : x ∉ m := fun z => (occ x z).1 hx
  have e1 : Ex H0 (upd (upd H0 dx (.own x)) x (.ins Cl dx [])) := (Ex.new hdx).trans (Ex.new (by rw [upd_ne (Ne.symm hne)]; exact hx))
  have ex : Ex (hid m H0) (hid (x :: m) (upd (upd H0 dx (.own x)) x (.ins Cl dx []))) := fun b o e => by
    obtain ⟨q1, q2⟩ := hid_some e
    have n : b ≠ x := fun z => by rw [z, hx] at q2; cases q2
    rw [hid_out fun z => (List.mem_cons.mp z).elim n q1]
    exact e1 b o q2
  have slot : ∀ (j : Nat) (v : Option V) (c : C), (L2.start N (.ref x :: us))[j]? = some v → ((.io x Cl [] :: arg i) ++ List.replicate k C.un)[j]? = some c → Sl ⟨g, t, H0, m, []⟩ (x :: m) (upd (upd H0 dx (.own x)) x (.ins Cl dx [])) v c ∧ (c.owned = true → j = 0) := by
    intro j v c h1 h2
    unfold L2.start at h1
    cases j with
    | zero =>
      cases h1; cases h2
      exact ⟨⟨x, dx, [], rfl, List.mem_cons_self, ⟨hx, fun z => by cases z⟩, upd_same, ⟨rfl, rfl⟩, .nil⟩, fun _ => rfl⟩
    | succ j =>
      rw [List.map_cons, List.cons_append, List.getElem?_cons_succ] at h1
      rw [List.cons_append, List.getElem?_cons_succ] at h2
      by_cases qj : j < us.length
      · rw [List.getElem?_append_left (by omega)] at h2
        rw [List.getElem?_append_left (by rw [List.length_map]; omega), List.getElem?_map] at h1
        obtain ⟨w, hw, r⟩ := sas_at a j c h2
        rw [hw] at h1
        cases h1
        cases c with
        | un => exact ⟨trivial, fun z => by cases z⟩
        | d y => exact ⟨⟨w, rfl, R.mono (.of ex) r⟩, fun z => by cases z⟩
        | tp => obtain ⟨τ, e1, e2⟩ := r; exact ⟨⟨τ, e1, by rw [e2]⟩, fun z => by cases z⟩
        | ml _ => exact r.elim
        | md _ => exact r.elim
        | io _ _ _ => exact r.elim
      · rw [List.getElem?_append_right (by omega), List.getElem?_replicate] at h2
        split at h2
        · cases h2; exact ⟨trivial, fun z => by cases z⟩
        · cases h2
  have s0 : S ⟨g, t, H0, m, []⟩ (x :: m) (L2.start N (.ref x :: us)) (upd (upd H0 dx (.own x)) x (.ins Cl dx [])) ((.io x Cl [] :: arg i) ++ List.replicate k C.un) := by
    refine ⟨?_, fun j v c h1 h2 => (slot j v c h1 h2).1, fun i' j' l ci cj hij h1 h2 h3 h4 o1 o2 => ?_, fun a ha => ?_, tap, .of e1, fun a ha => List.mem_cons_of_mem _ ha, fun a h => (occ a h).1, fun _ z => by cases z⟩
    · unfold L2.start
      rw [List.length_append, List.length_append, List.length_replicate, List.length_replicate, List.length_map, List.length_cons, List.length_cons]
      omega
    · have z1 := (slot i' _ ci h1 h3).2 o1
      have z2 := (slot j' _ cj h2 h4).2 o2
      exact hij (z1.trans z2.symm)
    · rcases List.mem_cons.mp ha with z | z
      · rw [z]; exact ⟨fun y => (by rw [upd_same] at y; cases y), fun _ y => (by rw [upd_same] at y; cases y)⟩
      · have hz := occ a z
        cases e : H0 a with
        | none => exact absurd e hz.1
        | some o => exact ⟨fun y => (by rw [e1 a o e] at y; cases y), fun xs y => hz.2 xs (by rw [e, ← e1 a o e, y])⟩
  refine hb i x hp ⟨g, t, H0, m, []⟩ (x :: m) _ _ _ rfl s0 (fun m' σ' H' Γ' l s' pz => ?_) (fun _ _ _ _ _ _ p => p.elim) (fun _ _ _ _ _ _ p => p.elim) fun v H' d k r p => p.elim
  obtain ⟨fs, d, h0, ho, hpd⟩ := pz
  obtain ⟨v, h1, l, dx', ws, rfl, h2, h3, h4, ⟨hl0, h5⟩, h6⟩ := s'.at h0
  subst hl0
  exact q H' d s'.kp hpd (ob_r ho (by rw [hid_out xm]; exact h4) h5 (h6.mono (.of (hid_less s'.sub))))
/-- C(..) -/
theorem ev_make {ι : Type} {n : Nat} {arg : ι → List C} {Pre : ι → Prop} {Post : ι → D → Prop} {As : List C → Prop} (h : EvA g tl Γ As) (k : ∀ cs, As cs → ∃ i, cs = arg i ∧ (arg i).length + 1 = n ∧ Pre i ∧ ∀ d, Post i d → P d) : EvS g (tMake Cl (pri g n Cl arg Pre Post) [] E0 tl) Γ P := fun F m σ H e s Q q =>
  h F m σ H e s _ fun vs H1 cs k1 a r => by
    obtain ⟨i, rfl, h1, h2, h3⟩ := k cs a
    have s1 := s.keep k1
    intro x dx hx hdx hne
    rw [List.append_nil]
    exact ⟨F.t, m, i, H1, x, dx, vs, rfl, hx, hdx, hne, rfl, h1, s1.occ, fun τ h => ⟨s1.tin τ h, s1.tape τ h⟩, r, h2, fun H' d k2 p r2 => ⟨rfl, q _ H' d (k1.trans k2) (h3 d p) r2⟩⟩
theorem ev_makeI {ι : Type} {n : Nat} {arg : ι → List C} {Pre : ι → Prop} {Post : ι → D → Prop} (k : ι) (h : EvA g tl Γ (· = arg k)) (hp : Pre k) (hn : (arg k).length + 1 = n := by rfl) : EvS g (tMake Cl (pri g n Cl arg Pre Post) [] E0 tl) Γ (Post k) := ev_make h fun cs e => ⟨k, e, hn, hp, fun _ z => z⟩
/-! ### two classes -/
theorem ev_prop2 {C1 C2 : Addr} {ι : Type} {n : Nat} {arg : ι → List C} {Pre : ι → Prop} {Post : ι → D → Prop} (k : ι) {o : D} (h : Γ[i]? = some (.d o)) (ob : ∀ (m : List Addr) (H : Hp) (v : V), R g (hid m H) v o → ∃ a Cl dx fs, v = .ref a ∧ H a = some (.ins Cl dx fs) ∧ (Cl = C1 ∨ Cl = C2))
    (ha : arg k = [.d o]) (hp : Pre k) (hn : (arg k).length = n := by rfl) : EvS g (fun σ H Q => tProp C1 (pr g n arg Pre Post) [] E0 (tVar i) σ H Q ∨ tProp C2 (pr g n arg Pre Post) [] E0 (tVar i) σ H Q) Γ (Post k) := fun F m σ H e s Q q => by
  obtain ⟨v, h1, w, rfl, r⟩ := s.at h
  subst e
  obtain ⟨a, Cl, dx, fs, rfl, h2, h3⟩ := ob m H w r
  have go : pr F.g n arg Pre Post (.ref a :: []) H Q E0 := pr_use k rfl s (by rw [ha]; exact .cons r .nil) hn hp fun v H3 d k3 p r3 => q v H3 d k3 p r3
  rcases h3 with rfl | rfl
  · exact .inl ⟨_, h1, a, dx, fs, rfl, h2, go⟩
  · exact .inr ⟨_, h1, a, dx, fs, rfl, h2, go⟩
theorem ev_meth2 {C1 C2 : Addr} {mm : Str} {ι : Type} {n : Nat} {arg : ι → List C} {Pre : ι → Prop} {Post : ι → D → Prop} (k : ι) {o : D} {rest : List C} (h : Γ[i]? = some (.d o))
    (ob : ∀ (m : List Addr) (H : Hp) (v : V), R g (hid m H) v o → ∃ a Cl dx fs, v = .ref a ∧ H a = some (.ins Cl dx fs) ∧ fs.lookup mm = none ∧ (Cl = C1 ∨ Cl = C2))
    (hx : EvA g tl Γ (· = rest)) (ha : arg k = .d o :: rest) (hp : Pre k) (hn : (arg k).length = n := by rfl) : EvS g (fun σ H Q => tMeth C1 mm (pr g n arg Pre Post) [] E0 (tVar i) tl σ H Q ∨ tMeth C2 mm (pr g n arg Pre Post) [] E0 (tVar i) tl σ H Q) Γ (Post k) := fun F m σ H e s Q q => by
  obtain ⟨v, h1, w, rfl, r⟩ := s.at h
  subst e
  obtain ⟨a, Cl, dx, fs, rfl, h2, h4, h3⟩ := ob m H w r
  have go : tl σ H fun vs H2 => pr F.g n arg Pre Post (.ref a :: (vs ++ [])) H2 Q E0 := hx F m σ H rfl s _ fun vs H2 cs k2 e2 r2 => by
    subst e2
    rw [List.append_nil]
    exact pr_use k rfl (s.keep k2) (by rw [ha]; exact .cons (R.mono (s.lt k2).ex r) r2) hn hp fun v H3 d k3 p r3 => q v H3 d (k2.trans k3) p r3
  rcases h3 with rfl | rfl
  · exact .inl ⟨_, h1, a, dx, fs, rfl, h2, h4, go⟩
  · exact .inr ⟨_, h1, a, dx, fs, rfl, h2, h4, go⟩
end
theorem pe_or2 {X : Cx} {e : Expr} {t1 t2 : TE} (h1 : PE X e t1) (h2 : PE X e t2) : PE X e (fun σ H Q => t1 σ H Q ∨ t2 σ H Q) := ⟨fun pins s σ H Q I h => h.elim (h1.run pins s σ H Q I) (h2.run pins s σ H Q I)⟩

/-! ### methods and properties as they stand -/
/-- the def at f is this text -/
def Fnd (K : PySem.W.Frag) (m qual : Str) (st : Stmt) (f : Addr) : Prop := ∃ fd, C8.Fun K m qual st f fd ∧ fd.defaults = .none
/-- .. and keeps its promise -/
def FnM (P : Program) (w : World) (K : PySem.W.Frag) (mg : Str → Option Value) (base : Heap) (k : Nat) (f : Addr) (sp : Sp) : Prop := ∃ fd ps, FnOk P w K mg base CX0 k f fd ps sp ∧ Binds K fd ps []
section
variable {P : Program} {w : World} {K : PySem.W.Frag} {mg : Str → Option Value} {base : Heap} {x qual : Str} {st : Stmt} {f : Addr} {N ps : List Str} {k n r : Nat} {g : Gl} {ι : Type} {arg : ι → List C} {Pre : ι → Prop} {Post : ι → D → Prop}
theorem Fnd.ok (h : Fnd K x qual st f)
    (hb : ∀ (kV doc pm : Value) (an : Option Addr) (cdv ct : Value) (us : List Value), us.length = ps.length → bindArgs (PySem.W.fnOf x qual (C8.fnArgs st) (C8.fnBody st) (C8.fnScope st) .none kV doc pm an cdv ct) ⟨us, []⟩ = pure (ps.zip us))
    (S : FnScope N ps (C8.fnScope st)) (hn : ps.length = n) (hN : N.length = n + r)
    (hbody : ∀ (cdv : Value) (A : Around) (outer : List Env) (s : Shared) (H : Hp) (E : XK), Room k (A.deeper (envOfC qual (C8.fnScope st) s.heap.objs.size f cdv)) →
      ∃ t, PSs (cxOf CX0 P w K mg base N qual (C8.fnScope st) f cdv A outer s H E).nox (C8.fnBody st) t ∧ ∀ i, Pre i → Sv g t (arg i ++ List.replicate r .un) { nx := fun _ => Post i .non, rt := Post i }) : FnM P w K mg base (k + 1) f (pr g n arg Pre Post) := by
  obtain ⟨fd, F, df⟩ := h
  refine ⟨fd, ps, C8.fn0 F S (pr_len hn) fun cdv A outer s H vs Q E hr hsp => ?_, F.binds df hb⟩
  obtain ⟨t, h1, h2⟩ := hbody cdv A outer s H E hr
  exact ⟨t, h1, fn_run hN h2 hsp⟩
theorem Fnd.init {Cl : Addr} (h : Fnd K x qual st f)
    (hb : ∀ (kV doc pm : Value) (an : Option Addr) (cdv ct : Value) (us : List Value), us.length = ps.length → bindArgs (PySem.W.fnOf x qual (C8.fnArgs st) (C8.fnBody st) (C8.fnScope st) .none kV doc pm an cdv ct) ⟨us, []⟩ = pure (ps.zip us))
    (S : FnScope N ps (C8.fnScope st)) (hn : ps.length = n) (hN : N.length = n + r)
    (hbody : ∀ (cdv : Value) (A : Around) (outer : List Env) (s : Shared) (H : Hp) (E : XK), Room k (A.deeper (envOfC qual (C8.fnScope st) s.heap.objs.size f cdv)) →
      ∃ t, PSs (cxOf CX0 P w K mg base N qual (C8.fnScope st) f cdv A outer s H E).nox (C8.fnBody st) t ∧ ∀ i y, Pre i → Sv g t ((.io y Cl [] :: arg i) ++ List.replicate r .un) { nx := fun Γ' => ∃ fs d, Γ'[0]? = some (.io y Cl fs) ∧ Ob g Cl fs d ∧ Post i d, rt := fun _ => False }) : FnM P w K mg base (k + 1) f (pri g n Cl arg Pre Post) := by
  obtain ⟨fd, F, df⟩ := h
  refine ⟨fd, ps, C8.fn0 F S (pri_len hn) fun cdv A outer s H vs Q E hr hsp => ?_, F.binds df hb⟩
  obtain ⟨t, h1, h2⟩ := hbody cdv A outer s H E hr
  exact ⟨t, h1, init_run hN h2 hsp⟩
theorem FnM.met {C : Addr} {m : Str} {sp : Sp} (F : FnM P w K mg base k f sp) (c : Cls K C) (me : Meth K C m f) : C8.Met P w K mg base k C m sp [] := by
  obtain ⟨fd, ps, h1, h2⟩ := F
  exact ⟨f, fd, ps, [], c, me, h1, h2, .nil⟩
theorem FnM.mak {C : Addr} {x : Str} {sp : Sp} (F : FnM P w K mg base k f sp) (M : Mk K C f) (hm : mg x = some (.ref C)) : C8.Mak P w K mg base k x C sp [] := by
  obtain ⟨fd, ps, h1, h2⟩ := F
  exact ⟨f, fd, ps, [], M, h1, hm, h2, .nil⟩
/-- a property that keeps a promise -/
structure Prp (P : Program) (w : World) (K : PySem.W.Frag) (mg : Str → Option Value) (base : Heap) (k : Nat) (C : Addr) (f : Str) (sp : Sp) : Prop where
  ex : ∃ p gf, Cls K C ∧ PropOf K C f p gf ∧ FnM P w K mg base k gf sp
end
theorem pe_prp {X : Cx} {C : Addr} {k j : Nat} {f : Str} {sp : Sp} {e : Expr} {ta : TE} {pos : PySem.Pos} (p : Prp X.prog X.w X.K X.mg X.base k C f sp) (hr : Room j X.A) (hk : k + 1 ≤ j) (he : PE X e ta) (hab : attributeBase e f X.env (eval e X.env) = eval e X.env) : PE X (.Attribute e f pos) (tProp C sp [] E0 ta) := by
  obtain ⟨q, gf, c, hp, fd, ps, F, b⟩ := p.ex
  exact pe_prop he c hp F (hr.mono hk) b .nil pass0 hab
end K55
set_option maxHeartbeats 1000000
/-! Comprehensions of two clauses. -/
namespace K55
open PySem PySem.Spec PyProof.Rows L2
open Evl (Ex)
section
variable {g : Gl} {F : Fr} {m : List Addr} {σ : L2.St} {H H' : Hp} {Γ Γ' Γ'' : List C} {te ta tb : TE} {tl : TA} {A B : D → Prop} {ts tu tv : TS} {tt : TT} {E : En} {tg : TG} {js : List Nat} {i j j1 : Nat} {x y d : D} {wi wi1 : TI}
/-- what is known at the new list's growing -/
structure Grow (F : Fr) (m : List Addr) (σ : L2.St) (Γ : List C) (H1 : Hp) (Dl : Addr) (Pd : D → Prop) (n : Nat) (H' : Hp) : Prop where
  ex : ∃ xs acc, S { F with lk := Dl :: F.lk } (Dl :: m) σ H' Γ ∧ Kp F.t H1 H' ∧ Exd (hid m H1) (hid (Dl :: m) H') ∧ H' Dl = some (.lst xs) ∧ Rs F.g (hid (Dl :: m) H') xs acc ∧ acc.length = n ∧ ∀ e ∈ acc, Pd e
theorem Grow.put {Dl : Addr} {H1 : Hp} {Pd : D → Prop} {n : Nat} (s1 : S F m σ H1 Γ) (hD : H1 Dl = none) (n0 : F.H0 Dl = none) (h : Grow F m σ Γ H1 Dl Pd n H) (k : Kp F.t H H') {w : V} {e : D} (r : R F.g (hid (Dl :: m) H') w e) (he : Pd e) :
    ∃ acc, H' Dl = some (.lst acc) ∧ acc.length = n ∧ Grow F m σ Γ H1 Dl Pd (n + 1) (upd H' Dl (.lst (acc ++ [w]))) := by
  obtain ⟨xs, acc, s', k', ex, hx, rs, hz, hall⟩ := h
  have ne : ∀ τ, F.t = some τ → Dl ≠ τ.a := fun τ h1 q => by
    obtain ⟨_, _, _, _, _, _, h2, _⟩ := (s1.tap τ h1).2
    rw [← q, n0] at h2
    cases h2
  have s2 := s'.keep k
  have eh : hid (Dl :: m) (upd H' Dl (.lst (xs ++ [w]))) = hid (Dl :: m) H' := hid_upd List.mem_cons_self
  refine ⟨xs, k.ob _ _ ne hx, by rw [rs.len, hz], ⟨xs ++ [w], acc ++ [e], s2.relock List.mem_cons_self n0, (k'.trans k).mut (fun τ h => s1.tape τ h) hD, by rw [eh]; exact ex.trans (s'.lt k).ex, upd_same, by rw [eh]; exact (rs.mono (s'.lt k).ex).append (.one r), by rw [List.length_append, hz]; rfl, fun x hx => ?_⟩⟩
  rcases List.mem_append.mp hx with q | q
  · exact hall x q
  · rw [List.mem_singleton.mp q]; exact he
theorem Grow.keep {Dl : Addr} {H1 : Hp} {Pd : D → Prop} {n : Nat} (s1 : S F m σ H1 Γ) (n0 : F.H0 Dl = none) (h : Grow F m σ Γ H1 Dl Pd n H) (k : Kp F.t H H') : Grow F m σ Γ H1 Dl Pd n H' := by
  obtain ⟨xs, acc, s', k', ex, hx, rs, hz, hall⟩ := h
  have ne : ∀ τ, F.t = some τ → Dl ≠ τ.a := fun τ h1 q => by
    obtain ⟨_, _, _, _, _, _, h2, _⟩ := (s1.tap τ h1).2
    rw [← q, n0] at h2
    cases h2
  exact ⟨xs, acc, s'.keep k, k'.trans k, ex.trans (s'.lt k).ex, k.ob _ _ ne hx, rs.mono (s'.lt k).ex, hz, hall⟩
theorem el_lc2 {vs vs1 : List Nat} {ds ds1 : List D} {Pd : D → Prop} (hi : EvI g wi Γ (· = ds)) (hi1 : ∀ d ∈ ds, EvI g wi1 ((wipeC Γ vs).set j (.d d)) (· = ds1)) (hl : ds.length * ds1.length ≤ 100000) (hj : j ∈ vs) (hj1 : j1 ∈ vs1)
    (hs : ∀ d ∈ ds, ∀ e ∈ ds1, EvS g te ((wipeC ((wipeC Γ vs).set j (.d d)) vs1).set j1 (.d e)) Pd) : EvL g (tLc2 wi (gName j) tYes wi1 (gName j1) tYes te vs vs1) Γ (fun es => es.length = ds.length * ds1.length ∧ ∀ e ∈ es, Pd e) := fun F m σ H e s Q q => by
  subst e
  refine hi F m σ H rfl s _ fun J1 H1 ds' k1 p it => fun Dl hD => ?_
  subst p
  have s1 := s.keep k1
  have hD0 : H Dl = none := Kp.back s k1 hD
  have n0 : F.H0 Dl = none := s1.none0 hD
  refine ⟨fun i mm H' => mm = ds'.length - i ∧ i ≤ ds'.length ∧ Grow F m σ Γ H1 Dl Pd (i * ds1.length) H', ⟨ds'.length, by omega, Nat.zero_le _, [], [], s1.lock hD, kp_new hD, .of (hid_new hD), upd_same, .nil, (Nat.zero_mul _).symm, fun _ h => by cases h⟩, ?_⟩
  rintro i mm H' ⟨rfl, hi', G⟩
  have ex : Exd (hid m H1) (hid (Dl :: m) H') := by obtain ⟨_, _, _, _, ex, _⟩ := G; exact ex
  obtain ⟨st, go⟩ := it (Dl :: m) H' ex
  by_cases hlt : i < ds'.length
  · obtain ⟨g1, y1⟩ := go i _ (List.getElem?_eq_getElem hlt)
    have hm := List.getElem_mem hlt
    refine .inr ⟨g1, fun H' => Grow F m σ Γ H1 Dl Pd ((i + 1) * ds1.length) H', fun H3 q => ⟨ds'.length - (i + 1), by omega, rfl, hlt, q⟩, fun x H'' y => ?_⟩
    obtain ⟨e2, r2⟩ := y1 x H'' y
    have G2 := G.keep s1 n0 (.of e2)
    have sx : S { F with lk := Dl :: F.lk } (Dl :: m) σ H'' Γ := by obtain ⟨_, _, z, _⟩ := G2; exact z
    have occ' : ∀ a ∈ (Dl :: m), H' a ≠ none := by obtain ⟨_, _, z, _⟩ := G; exact fun a h => (z.occ a h).1
    refine ⟨by rw [wipe_set hj, wipe_wipe], ?_⟩
    have s3 : S { F with lk := Dl :: F.lk } (Dl :: m) ((wipe σ vs).set j (some x)) H'' ((wipeC Γ vs).set j (.d ds'[i])) := (sx.wipe vs).setd (r2 occ')
    show tYes _ H'' _
    show wi1 ((wipe σ vs).set j (some x)) H'' _
    refine hi1 _ hm { F with lk := Dl :: F.lk } (Dl :: m) _ H'' rfl s3 _ fun J2 H4 ds2 k4 p2 it2 => ?_
    subst p2
    have G4 := G2.keep s1 n0 k4
    have s4 := s3.keep k4
    refine ⟨fun jj mm H5 => mm = ds2.length - jj ∧ jj ≤ ds2.length ∧ Grow F m σ Γ H1 Dl Pd (i * ds2.length + jj) H5 ∧ S { F with lk := Dl :: F.lk } (Dl :: m) ((wipe σ vs).set j (some x)) H5 ((wipeC Γ vs).set j (.d ds'[i])) ∧ Exd (hid (Dl :: m) H4) (hid (Dl :: m) H5), ⟨ds2.length, by omega, Nat.zero_le _, G4, s4, Exd.refl _⟩, ?_⟩
    rintro jj mm H5 ⟨rfl, hjj, G5, s5, ex5⟩
    obtain ⟨st2, go2⟩ := it2 (Dl :: m) H5 ex5
    by_cases hlt2 : jj < ds2.length
    · obtain ⟨g2, y2⟩ := go2 jj _ (List.getElem?_eq_getElem hlt2)
      have hm2 := List.getElem_mem hlt2
      refine .inr ⟨g2, fun H6 => Grow F m σ Γ H1 Dl Pd (i * ds2.length + (jj + 1)) H6 ∧ S { F with lk := Dl :: F.lk } (Dl :: m) ((wipe σ vs).set j (some x)) H6 ((wipeC Γ vs).set j (.d ds'[i])) ∧ Exd (hid (Dl :: m) H4) (hid (Dl :: m) H6), fun H6 q => ⟨ds2.length - (jj + 1), by omega, rfl, hlt2, q⟩, fun x2 H6 yy => ?_⟩
      obtain ⟨e6, r6⟩ := y2 x2 H6 yy
      have G6 := G5.keep s1 n0 (.of e6)
      have s6 := s5.keep (.of e6)
      refine ⟨by rw [wipe_set hj1, wipe_wipe], ?_⟩
      show te _ H6 _
      refine hs _ hm _ hm2 { F with lk := Dl :: F.lk } (Dl :: m) _ H6 rfl ((s6.wipe vs1).setd (r6 fun a h => (s5.occ a h).1)) _ fun w H7 d7 k7 p7 r7 => ?_
      obtain ⟨acc, ha, hz, G8⟩ := G6.put s1 hD n0 k7 r7 p7
      have s8 := (s6.keep k7).relock (o := .lst (acc ++ [w])) (p := Dl) List.mem_cons_self n0
      have eh : hid (Dl :: m) (upd H7 Dl (.lst (acc ++ [w]))) = hid (Dl :: m) H7 := hid_upd List.mem_cons_self
      refine ⟨acc, ha, ?_, G8, s8, by rw [eh]; exact (ex5.trans (s5.lt (.of e6)).ex).trans (s6.lt k7).ex⟩
      rw [hz]
      refine Evl.sz_lt ?_
      have q1 : (i + 1) * ds2.length ≤ ds'.length * ds2.length := Nat.mul_le_mul_right _ hlt
      rw [Nat.succ_mul] at q1
      omega
    · have e2 : jj = ds2.length := by omega
      subst e2
      refine .inl ⟨st2, ?_⟩
      show Grow F m σ Γ H1 Dl Pd ((i + 1) * ds2.length) H5
      rw [Nat.succ_mul]
      exact G5
  · have e2 : i = ds'.length := by omega
    subst e2
    obtain ⟨xs, acc, s', k', ex', hx, rs, hz, hall⟩ := G
    exact .inl ⟨st, q Dl H' xs acc (k1.trans k') hD0 hx ⟨hz, hall⟩ rs⟩
end
end K55
set_option maxHeartbeats 1000000
/-! Attribute targets; own in, own []; static methods. -/
namespace K55
open PySem PySem.Spec PyProof.Rows L2
open Evl (Ex)
/-! ### attributes as targets -/
def gFld (K : PySem.W.Frag) (to : TE) (f : Str) : TG := fun v σ H Q => to σ H fun x H1 => ∃ a Cl dx fs, x = .ref a ∧ H1 a = some (.ins Cl dx fs) ∧ Cls K Cl ∧ NoAttr K Cl f ∧ fs.length < 1000 ∧ Q σ (upd H1 a (.ins Cl dx (putF f v fs)))
theorem pg_fld {X : Cx} {K : PySem.W.Frag} {o : Expr} {to : TE} {f : Str} {pos : PySem.Pos} (h : X.K = K) (ho : PE X o to) : PG X (.Attribute o f pos) (gFld K to f) := by
  subst h
  refine ⟨fun pins s σ H v u Q I r h => ?_⟩
  rw [assign_Attribute]
  refine wpAny_bind (wpAny_holding (thn (ho.run pins s σ H _ I h) fun ov s1 ⟨x, H1, I1, rx, a, Cl, dx, fs, ex, ea, c, n, l, q⟩ => ?_))
  subst ex
  obtain rfl : ov = Value.ref a := rx
  refine wpAny_bind (wpAny_standAt (wpAny_bind (wpAny_holding (setattr_ok I1 ea c n l r fun s3 I3 => ?_))))
  exact wpAny_release ⟨σ, _, I3, q⟩
section
variable {g : Gl} {F : Fr} {m : List Addr} {σ : L2.St} {H H' : Hp} {Γ Γ' Γ'' : List C} {te ta tb : TE} {tl : TA} {A B P : D → Prop} {ts tu tv : TS} {tt : TT} {E : En} {tg : TG} {js : List Nat} {i j : Nat} {x y d : D} {wi : TI} {Cl l0 : Addr}
/-- self.f1, self.f2 = e -/
theorem sv_fld2 {f1 f2 : Str} (h : Γ[i]? = some (.io l0 Cl [])) (hc : Cls g.K Cl) (hn1 : NoAttr g.K Cl f1) (hn2 : NoAttr g.K Cl f2) (hf : f1 ≠ f2) (he : EvS g te Γ A) (k : ∀ d, A d → ∃ x y, d = .tup [x, y] ∧ E.nx (Γ.set i (.io l0 Cl [(f1, x), (f2, y)]))) :
    Sv g (tAsg te (gTup g.K 2 (gCons (gFld g.K (tVar i) f1) (gCons (gFld g.K (tVar i) f2) gNil)))) Γ E := fun F m σ H D e s a b c d =>
  he F m σ H e s _ fun w H1 z k1 p r => by
    obtain ⟨x, y, rfl, q⟩ := k z p
    have s1 := s.keep k1
    subst e
    cases r with
    | tup r1 r2 =>
      rename_i ad xs
      have hxs := r2.len
      cases r2 with
      | cons r2 r3 =>
        cases r3 with
        | cons r3 r4 =>
          cases r4
          rename_i w1 w2
          obtain ⟨v, h1, l, dx, ws, rfl, h2, h3, h4, ⟨hl0, h5⟩, h6⟩ := s1.at h
          have hws : ws = [] := List.map_eq_nil_iff.mp h5
          subst hws
          refine ⟨ad, [w1, w2], rfl, SqT.of (hid_some r1).2, rfl, w1, [w2], rfl, _, h1, l, Cl, dx, [], rfl, h4, hc, hn1, by decide, ?_⟩
          have eh : hid m (upd H1 l (.ins Cl dx (putF f1 w1 []))) = hid m H1 := hid_upd h2
          obtain ⟨s2, l2⟩ := s1.mut (o := .ins Cl dx (putF f1 w1 [])) h rfl h1 (.io l0 Cl [(f1, x)]) ⟨l, dx, _, rfl, h2, h3, upd_same, ⟨hl0, rfl⟩, by rw [eh]; exact .cons r2 .nil⟩ h3.1 h2
          refine ⟨w2, [], rfl, _, h1, l, Cl, dx, putF f1 w1 [], rfl, upd_same, hc, hn2, by show 1 < 1000; decide, rfl, ?_⟩
          have hi : (Γ.set i (.io l0 Cl [(f1, x)]))[i]? = some (.io l0 Cl [(f1, x)]) := by
            have := (List.getElem?_eq_some_iff.mp h).1
            rw [List.getElem?_set_self this]
          have eh2 : hid m (upd (upd H1 l (.ins Cl dx (putF f1 w1 []))) l (.ins Cl dx (putF f2 w2 (putF f1 w1 [])))) = hid m H1 := (hid_upd h2).trans eh
          have nm : (putF f2 w2 (putF f1 w1 [])) = [(f1, w1), (f2, w2)] := by
            show putF f2 w2 [(f1, w1)] = _
            unfold putF
            rw [if_neg hf]
            rfl
          rw [nm] at eh2 ⊢
          obtain ⟨s3, l3⟩ := s2.mut (o := .ins Cl dx [(f1, w1), (f2, w2)]) hi rfl h1 (.io l0 Cl [(f1, x), (f2, y)]) ⟨l, dx, _, rfl, h2, h3, upd_same, ⟨hl0, rfl⟩, by rw [eh2]; exact .cons r2 (.cons r3 .nil)⟩ h3.1 h2
          rw [List.set_set] at s3
          exact a m σ _ _ ((s.lt k1).trans (l2.trans l3)) s3 q
end

/-! ### an own class's own [] and in -/
section
variable {X : Cx} {pins : List (Addr × Obj)} {σ : L2.St} {H : Hp} {s : Shared}
theorem fr_base (I : Inv X pins σ H s) : ∃ m, PyProof.Rows.Fr X.base X.env.locals s.heap m := by
  obtain ⟨m, hn, _⟩ := I.loc
  exact ⟨m, hn, fun b o e => (I.bs b o e).1, Nat.le_trans I.ok.bsz I.ok.above⟩
/-- x in o -/
def rInOwn (Cl : Addr) (sp : Sp) : R2 := fun x y H Q => ∃ a dx fs, y = .ref a ∧ H a = some (.ins Cl dx fs) ∧ sp [.ref a, x] H (fun v H' => ∃ b, v = .bl b ∧ Q (.bl b) H') E0
theorem op_inOwn {Cl : Addr} {k j : Nat} {sp : Sp} {f : Addr} (F : FnM X.prog X.w X.K X.mg X.base k f sp) (c : Cls X.K Cl) (me : Meth X.K Cl "__contains__" f) (hr : Room j X.A) (hk : k ≤ j) : OpR X (compareOp .In) (rInOwn Cl sp) := by
  intro pins s σ H x y v u Q I rx ry h
  obtain ⟨a, dx, fs, rfl, ea, q⟩ := h
  obtain rfl : u = Value.ref a := ry
  obtain ⟨fd, ps, Fo, b⟩ := F
  obtain ⟨mA, O, _, _, _, _⟩ := ins_get I.hok ea
  obtain ⟨od, J, _⟩ := O.look
  obtain ⟨m, fr⟩ := fr_base I
  refine PySem.W.in_K fr I.ok.mod.kin J me.at_ me.fn ?_
  refine thn (run_fn (us := [.ref a, v]) (vs := [.ref a, x]) (dvs := []) (ds := []) (E := E0) Fo (hr.mono hk) b .nil pass0 I (.cons rfl (.cons rx .nil)) q) fun r s' ⟨z, H', I', rz, bb, ez, qz⟩ => ?_
  subst ez
  exact thn (tru_ok pins s' σ H' (.bl bb) r (fun b' H'' => b' = bb ∧ H'' = H') I' rz ⟨bb, rfl, rfl, rfl⟩) fun b' s2 ⟨H2, I2, e1, e2⟩ => by
    subst e1; subst e2
    exact ⟨.bl b', H2, I2, rfl, qz⟩
/-- o[i] -/
def tIxOwn (Cl : Addr) (sp : Sp) (ta tb : TE) : TE := fun σ H Q => ta σ H fun x H1 => tb σ H1 fun y H2 => ∃ a dx fs, x = .ref a ∧ H2 a = some (.ins Cl dx fs) ∧ sp [.ref a, y] H2 Q E0
theorem pe_ixOwn {Cl : Addr} {k j : Nat} {sp : Sp} {f : Addr} {a b : Expr} {ta tb : TE} {pos : PySem.Pos} (F : FnM X.prog X.w X.K X.mg X.base k f sp) (c : Cls X.K Cl) (me : Meth X.K Cl "__getitem__" f) (hfi : PySem.W.fnIn X.K f = true) (hr : Room j X.A) (hk : k + 1 ≤ j)
    (ha : PE X a ta) (hb : PE X b tb) (hsl : ∀ (x : Addr) i, subscripted b true (.ref x) i = runValue (.builtin "lifetime.subscript" ⟨[.ref x, i], []⟩) := by intro _ _; with_unfolding_all rfl) : PE X (.Subscript a b pos) (tIxOwn Cl sp ta tb) := by
  refine ⟨fun pins s σ H Q I h => ?_⟩
  refine Subscript_ (binT ha hb I h fun v u s2 x y H2 I2 rx ry ⟨p, dx, fs, ex, ea, q⟩ => ?_)
  subst ex
  obtain rfl : v = Value.ref p := rx
  obtain ⟨fd, ps, Fo, bn⟩ := F
  obtain ⟨mA, O, _, _, _, _⟩ := ins_get I2.hok ea
  obtain ⟨od, J, _⟩ := O.look
  obtain ⟨m, fr⟩ := fr_base I2
  refine PySem.W.sub_K fr I2.ok.mod.kin J me.at_ hfi me.fn ?_ (hsl _ _)
  have hl : ([Value.ref p, u] ++ []).length = ps.length := by rw [← Fo.len _ _ _ _ q]; rfl
  refine wpAny_call (codeAny_mono (Fo.run X.A.in1 X.stack s2 H2 ⟨[.ref p, u], []⟩ [.ref p, u] [.ref p, y] Q E0 (hr.mono hk).in1 I2.env0.in1 (bn _ [.ref p, u] I2.kIn hl) (.cons rfl (.cons ry .nil)) q) fun r s' hq => ?_)
  cases r with
  | error er => exact hq.elim
  | ok fl =>
    cases fl with
    | ret u => exact I2.after hq
    | next => exact False.elim hq
    | brk => exact False.elim hq
    | cont => exact False.elim hq

/-! ### a static method by its class -/
structure SMet (K : PySem.W.Frag) (Cl : Addr) (m : Str) (gf : Addr) : Prop where
  ex : ∃ mc p rest, ClX.CRead K Cl mc ∧ PySem.W.findCls K (.ref Cl) mc m = some (.get (.builtin "staticmethod.__get__") (.ref p) .none (.ref Cl)) ∧ PySem.W.recIn K p "staticmethod" = some (.ref gf :: rest) ∧ PySem.W.keepIn K (.ref gf) = true
def tSMeth (Cl : Addr) (sp : Sp) (ta : TE) (t : TA) : TE := fun σ H Q => ta σ H fun x H1 => x = .ref Cl ∧ t σ H1 fun vs H2 => sp (vs ++ []) H2 Q E0
theorem pe_smeth {Cl : Addr} {k j : Nat} {sp : Sp} {f : Addr} {m : Str} {o e : Expr} {es : List Expr} {ta : TE} {t : TA} {pos apos : PySem.Pos} {pl : Sem Bool} (F : FnM X.prog X.w X.K X.mg X.base k f sp) (sm : SMet X.K Cl m f) (hr : Room j X.A) (hk : k ≤ j)
    (he : PE X o ta) (ha : PA X (e :: es) t)
    (hst : starEach (e :: es) X.env = (false, eval e X.env) :: starEach es X.env := by rfl) (hpl : (backTo pos (starEach es X.env)).any (·.1) = false := by rfl)
    (ht : eval (.Call (.Attribute o m apos) (e :: es) [] pos) X.env = (do
      let ov ← eval o X.env
      standAt apos.atName
      let (f, first) ← holding [ov] (getMethod ov m pl)
      callWith pos f first (backTo pos (starEach (e :: es) X.env)) (backToKw pos (keywordEach [] X.env))) := by rfl) :
    PE X (.Call (.Attribute o m apos) (e :: es) [] pos) (tSMeth Cl sp ta t) := by
  obtain ⟨mc, p, rest, cr, at_, rc, kp⟩ := sm.ex
  obtain ⟨fd, ps, Fo, bn⟩ := F
  refine ⟨fun pins s σ H Q I h => ?_⟩
  refine PySem.W.methodCall_KW (pl := pl) (thn (he.run pins s σ H _ I h) fun u s1 ⟨x, H1, I1, rx, ex, q⟩ => ?_) ht
  subst ex
  obtain rfl : u = Value.ref Cl := rx
  refine PySem.W.method_cls I1.kIn cr.ga (PySem.W.cls_bind I1.kIn cr.rd at_ (wpAny_call (PySem.W.sm_get (s := { s1 with toks := s1.toks + 1 }) I1.kIn rc (PySem.W.handed_on rfl ?_))))
  have I2 : Inv X pins σ H1 { s1 with toks := s1.toks + 1 } := I1.tok _
  refine PySem.W.callWith_K (first := []) (h₀ := X.base) I.ok.mod.kin kp (thn (ha.run pos pins _ σ H1 _ I2 q) fun us s3 ⟨vs, H2, I3, r, q2⟩ => ⟨I3.kIn, ?_⟩) hst hpl
  exact run_fn Fo (hr.mono hk) bn .nil pass0 I3 r q2
end
section
variable {g : Gl} {Γ : List C} {ta tb : TE} {tl : TA} {A : D → Prop} {i : Nat} {Cl : Addr}
theorem ev_smeth {P : D → Prop} {ι : Type} {n : Nat} {arg : ι → List C} {Pre : ι → Prop} {Post : ι → D → Prop} {As : List C → Prop} (h : EvA g tl Γ As) (k : ∀ cs, As cs → ∃ i, cs = arg i ∧ (arg i).length = n ∧ Pre i ∧ ∀ d, Post i d → P d) : EvS g (tSMeth Cl (pr g n arg Pre Post) (tC (.ref Cl)) tl) Γ P := fun F m σ H e s Q q =>
  ⟨rfl, h F m σ H e s _ fun vs H1 cs k1 a r => by
    obtain ⟨i, rfl, h1, h2, h3⟩ := k cs a
    rw [List.append_nil]
    exact pr_use i e (s.keep k1) r h1 h2 fun v H2 d k2 p r2 => q v H2 d (k1.trans k2) (h3 d p) r2⟩
/-- x in o, by its own __contains__ -/
theorem ev_inOwn {ι : Type} {arg : ι → List C} {Pre : ι → Prop} {Post : ι → D → Prop} (k : ι) {o x : D} {b : Bool} (hx : EvS g ta Γ (· = x)) (ho : EvS g tb Γ (· = o)) (ob : ∀ (m : List Addr) (H : Hp) (v : V), R g (hid m H) v o → ∃ a dx fs, v = .ref a ∧ H a = some (.ins Cl dx fs))
    (ha : arg k = [.d o, .d x]) (hp : Pre k) (hb : ∀ d, Post k d → d = .bl b) (hn : (arg k).length = 2 := by rfl) : EvS g (tOp (rInOwn Cl (pr g 2 arg Pre Post)) ta tb) Γ (· = .bl b) := fun F m σ H e s Q q =>
  hx F m σ H e s _ fun v H1 d k1 a r => ho F m σ H1 e (s.keep k1) _ fun u H2 d2 k2 a2 r2 => by
    subst a; subst a2
    obtain ⟨p, dx, fs, rfl, h1⟩ := ob m H2 u r2
    refine ⟨p, dx, fs, rfl, h1, pr_use k e ((s.keep k1).keep k2) (by rw [ha]; exact .cons r2 (.cons (R.mono ((s.keep k1).lt k2).ex r) .nil)) hn hp fun w H3 d3 k3 p3 r3 => ?_⟩
    cases hb d3 p3
    cases r3
    exact ⟨b, rfl, q _ H3 _ ((k1.trans k2).trans k3) rfl (.bl b)⟩
/-- o[x], by its own __getitem__: two classes -/
theorem ev_ixOwn2 {C1 C2 : Addr} {ι : Type} {arg : ι → List C} {Pre : ι → Prop} {Post : ι → D → Prop} (k : ι) {o x : D} (ho : Γ[i]? = some (.d o)) (hx : EvS g tb Γ (· = x)) (ob : ∀ (m : List Addr) (H : Hp) (v : V), R g (hid m H) v o → ∃ a Cl dx fs, v = .ref a ∧ H a = some (.ins Cl dx fs) ∧ (Cl = C1 ∨ Cl = C2))
    (ha : arg k = [.d o, .d x]) (hp : Pre k) (hn : (arg k).length = 2 := by rfl) : EvS g (fun σ H Q => tIxOwn C1 (pr g 2 arg Pre Post) (tVar i) tb σ H Q ∨ tIxOwn C2 (pr g 2 arg Pre Post) (tVar i) tb σ H Q) Γ (Post k) := fun F m σ H e s Q q => by
  obtain ⟨v, h1, w, rfl, r⟩ := s.at ho
  subst e
  obtain ⟨p, Cl, dx, fs, rfl, h2, h3⟩ := ob m H w r
  have go : tb σ H fun y H2 => ∃ a dx fs, V.ref p = .ref a ∧ H2 a = some (.ins Cl dx fs) ∧ pr F.g 2 arg Pre Post [.ref a, y] H2 Q E0 := hx F m σ H rfl s _ fun y H2 d k2 a2 r2 => by
    subst a2
    have r' := R.mono (s.lt k2).ex r
    obtain ⟨p', Cl', dx', fs', e', h2', h3'⟩ := ob m H2 _ r'
    cases e'
    have hp1 : H2 p = some (.ins Cl dx fs) := by
      have hne : ∀ τ, F.t = some τ → p ≠ τ.a := fun τ ht e => by
        obtain ⟨_, _, _, _, _, _, z, _⟩ := s.tape τ ht
        rw [← e, h2] at z
        cases z
      exact k2.ob p _ hne h2
    exact ⟨p, dx, fs, rfl, hp1, pr_use k rfl (s.keep k2) (by rw [ha]; exact .cons r' (.cons r2 .nil)) hn hp fun v H3 d k3 p3 r3 => q v H3 d (k2.trans k3) p3 r3⟩
  rcases h3 with rfl | rfl
  · exact .inl ⟨_, h1, go⟩
  · exact .inr ⟨_, h1, go⟩
end
end K55
set_option maxHeartbeats 1000000
/-! The small defs. -/
namespace K55
open PySem PySem.Spec PyProof.Rows L2
open Evl (Ex)
/-- the built-ins' names are nobody's -/
structure Blt (mg : Str → Option Value) : Prop where
  range : mg "range" = none
  len : mg "len" = none
  isinstance : mg "isinstance" = none
  all : mg "all" = none
  abs : mg "abs" = none
  int : mg "int" = none
  bool : mg "bool" = none
  str : mg "str" = none
  tuple : mg "tuple" = none
  list : mg "list" = none
  set : mg "set" = none
  sorted : mg "sorted" = none
  enumerate : mg "enumerate" = none
/-- a place in a net's cell -/
def low (a b c : Int) (p : Int × Int) : Int × Int := ((p.1 - p.2 / c * b) % a, p.2 - p.2 / c * c)
/-- the cell's places by number -/
def spots (a c : Int) : List (Int × Int) := (List.range (a * c).toNat).map fun (k : Nat) => ((k : Int) % a, (k : Int) / a)
section
variable {g : Gl} {Γ : List C} {ta tb te : TE} {A B P : D → Prop} {d x y : D} {i j : Int}
theorem ev_isInt {K : PySem.W.Frag} (h : EvS g ta Γ (· = .int i)) : EvS g (tCB (rIsi K) (tCons ta (tCons (tC (.ty "int")) tNil))) Γ (· = .bl true) := fun F m σ H e s Q q => h F m σ H e s _ fun v H1 d k1 a r => by
  subst a; cases r
  exact ⟨_, _, .type "int", .type "int", true, rfl, .ty _, .base (.int _), kit_ty (by decide +kernel), q _ H1 _ k1 rfl (.bl _)⟩
theorem ev_isBool {K : PySem.W.Frag} (h : EvS g ta Γ (· = .int i)) : EvS g (tCB (rIsi K) (tCons ta (tCons (tC (.ty "bool")) tNil))) Γ (· = .bl false) := fun F m σ H e s Q q => h F m σ H e s _ fun v H1 d k1 a r => by
  subst a; cases r
  exact ⟨_, _, .type "int", .type "bool", false, rfl, .ty _, .base (.int _), kit_ty (by decide +kernel), q _ H1 _ k1 rfl (.bl _)⟩
theorem ev_isTup {K : PySem.W.Frag} {ds : List D} (h : EvS g ta Γ (· = .tup ds)) : EvS g (tCB (rIsi K) (tCons ta (tCons (tC (.ty "tuple")) tNil))) Γ (· = .bl true) := fun F m σ H e s Q q => h F m σ H e s _ fun v H1 d k1 a r => by
  subst a
  cases r with
  | tup h1 h2 => exact ⟨_, _, .type "tuple", .type "tuple", true, rfl, .ty _, .base (.tup (hid_some h1).2), kit_ty (by decide +kernel), q _ H1 _ k1 rfl (.bl _)⟩
theorem ev_isStr {K : PySem.W.Frag} {z : Str} (h : EvS g ta Γ (· = .str z)) : EvS g (tCB (rIsi K) (tCons ta (tCons (tC (.ty "str")) tNil))) Γ (· = .bl true) := fun F m σ H e s Q q => h F m σ H e s _ fun v H1 d k1 a r => by
  subst a; cases r
  exact ⟨_, _, .type "str", .type "str", true, rfl, .ty _, .base (.str _), kit_ty (by decide +kernel), q _ H1 _ k1 rfl (.bl _)⟩
theorem EvS.to (h : EvS g ta Γ (· = x)) (e : x = y) : EvS g ta Γ (· = y) := e ▸ h
theorem map_bl {α : Type} (l : List α) (f : α → D) (h : ∀ x ∈ l, f x = .bl true) : l.map f = (l.map fun _ => true).map D.bl := by
  rw [List.map_map]
  exact List.map_congr_left h
end
section
variable {P : Program} {w : World} {K : PySem.W.Frag} {mg : Str → Option Value} {base : Heap} {g : Gl}
def sp_is_integer (g : Gl) : Sp := pr g 1 (ι := Int) (fun i => [.d (.int i)]) (fun _ => True) (fun _ r => r = .bl true)
theorem cal_is_integer (hK : g.K = K) (T : Blt mg) (h : Dfd K mg "is_integer" (topS 10)) : C8.Cal P w K mg base 1 "is_integer" (sp_is_integer g) [] := by
  subst hK
  refine h.cal (k := 0) (N := ["value"]) (ps := ["value"]) (r := 0) (fun _ _ _ _ _ _ us hl => match us, hl with | [_], _ => rfl) (C8.fnScope_by (by decide +kernel)) rfl rfl fun f cdv A outer s H E hr => ?_
  have nd : List.Nodup (α := Str) ["value"] := by decide +kernel
  refine ⟨_, (pss_one (ps_ret (pe_and (pe_callB (isiK (K := g.K) rfl) (by rfl) T.isinstance (by decide +kernel) (pa_cons (pv 0) (pa_cons (pe_bltn (v := .ty "int") (by rfl) T.int (by decide +kernel) rfl) pa_nil))) (pe_one (pe_not (pe_callB (isiK (K := g.K) rfl) (by rfl) T.isinstance (by decide +kernel) (pa_cons (pv 0) (pa_cons (pe_bltn (v := .ty "bool") (by rfl) T.bool (by decide +kernel) rfl) pa_nil)))))))), fun i hp => ?_⟩
  exact sv_ret (ev_andV (ev_isInt (ev_var rfl)) fun _ => ev_notV (ev_isBool (ev_var rfl)))
def sp_is_place (g : Gl) : Sp := pr g 1 (ι := Int × Int) (fun p => [.d (D.pl p)]) (fun _ => True) (fun _ r => r = .bl true)
theorem cal_is_place (hK : g.K = K) (T : Blt mg) (h : Dfd K mg "is_place" (topS 11)) (c_is_integer : C8.Cal P w K mg base 1 "is_integer" (sp_is_integer g) []) : C8.Cal P w K mg base 2 "is_place" (sp_is_place g) [] := by
  subst hK
  refine h.cal (k := 1) (N := ["value", "number"]) (ps := ["value"]) (r := 1) (fun _ _ _ _ _ _ us hl => match us, hl with | [_], _ => rfl) (C8.fnScope_by (by decide +kernel)) rfl rfl fun f cdv A outer s H E hr => ?_
  have nd : List.Nodup (α := Str) ["value", "number"] := by decide +kernel
  refine ⟨_, (pss_one (ps_ret (pe_and (pe_callB (isiK (K := g.K) rfl) (by rfl) T.isinstance (by decide +kernel) (pa_cons (pv 0) (pa_cons (pe_bltn (v := .ty "tuple") (by rfl) T.tuple (by decide +kernel) rfl) pa_nil))) (pe_and (pe_cmpR op_eq (pe_callB (lenK (K := g.K) rfl) (by rfl) T.len PySem.boot_len (pa_cons (pv 0) pa_nil)) pe_int (nomark _)) (pe_one (pe_callB (allK (K := g.K) rfl rfl) (by rfl) T.all (by decide +kernel) (pa_cons (pe_lc (own := [("number", 1)]) (g := gName 1) rfl nd (piT (K := g.K) rfl (pv 0)) (blkOk_by (own := [("number", 1)]) (N := ["value", "number"]) (sc := C8.fnScope (topS 11)) (by decide +kernel)) (fun _ _ _ _ _ => (pg_name (i := 1) nd rfl (.inl rfl))) (fun _ _ _ _ _ => pts_nil) (fun _ _ _ _ _ => (C8.pe_c c_is_integer hr (by decide) rfl (pa_cons (pv 1) pa_nil)))) pa_nil))))))), fun i hp => ?_⟩
  refine sv_ret (EvS.to (ev_andV (ev_isTup (ev_var rfl)) fun _ => ev_andV (ev_eqI (ev_lenT (ev_var rfl)) ev_int) fun _ => ev_all (bs := [true, true]) (EvL.ev' (el_map (ds := [.int i.1, .int i.2]) (f := fun _ => .bl true) (ei_tup' (ev_var rfl)) (by show 2 ≤ 100000; decide) (by decide) fun d hd => ?_))) rfl)
  obtain ⟨n, rfl⟩ : ∃ n, d = .int n := by
    rcases List.mem_cons.mp hd with z | z
    · exact ⟨_, z⟩
    · exact ⟨_, List.mem_singleton.mp z⟩
  exact ev_callI n (ea_cons' (ev_var rfl) ea_nil) trivial
def sp_check_place (g : Gl) : Sp := pr g 1 (ι := Int × Int) (fun p => [.d (D.pl p)]) (fun _ => True) (fun _ r => r = .non)
theorem cal_check_place (hK : g.K = K) (T : Blt mg) (h : Dfd K mg "check_place" (topS 12)) (c_is_place : C8.Cal P w K mg base 2 "is_place" (sp_is_place g) []) : C8.Cal P w K mg base 3 "check_place" (sp_check_place g) [] := by
  subst hK
  refine h.cal (k := 2) (N := ["value"]) (ps := ["value"]) (r := 0) (fun _ _ _ _ _ _ us hl => match us, hl with | [_], _ => rfl) (C8.fnScope_by (by decide +kernel)) rfl rfl fun f cdv A outer s H E hr => ?_
  refine ⟨_, (pss_one (ps_if (pt_not (pt_val (C8.pe_c c_is_place hr (by decide) rfl (pa_cons (pv 0) pa_nil))))
      (pss_one ps_never)
      pss_nil)), fun i hp => ?_⟩
  exact sv_if (et_not (et_B (ev_callI i (ea_cons' (ev_var rfl) ea_nil) trivial))) (fun z => by cases z) fun _ => sv_next rfl
def sp_plus (g : Gl) : Sp := pr g 2 (ι := (Int × Int) × (Int × Int)) (fun i => [.d (D.pl i.1), .d (D.pl i.2)]) (fun _ => True) (fun i r => r = D.pl (i.1.1 + i.2.1, i.1.2 + i.2.2))
theorem cal_plus (hK : g.K = K) (T : Blt mg) (h : Dfd K mg "plus" (topS 16)) : C8.Cal P w K mg base 1 "plus" (sp_plus g) [] := by
  subst hK
  refine h.cal (k := 0) (N := ["one", "other"]) (ps := ["one", "other"]) (r := 0) (fun _ _ _ _ _ _ us hl => match us, hl with | [_, _], _ => rfl) (C8.fnScope_by (by decide +kernel)) rfl rfl fun f cdv A outer s H E hr => ?_
  refine ⟨_, (pss_one (ps_ret (pe_tup (pa_cons (pe_op op_add (pe_ix (ixT (K := g.K) rfl) (pv 0) pe_int (fun _ _ => rfl)) (pe_ix (ixT (K := g.K) rfl) (pv 1) pe_int (fun _ _ => rfl))) (pa_cons (pe_op op_add (pe_ix (ixT (K := g.K) rfl) (pv 0) pe_int (fun _ _ => rfl)) (pe_ix (ixT (K := g.K) rfl) (pv 1) pe_int (fun _ _ => rfl))) pa_nil))))), fun i hp => ?_⟩
  exact sv_ret (ev_p2 (ev_add (ev_t0 (ev_var rfl)) (ev_t0 (ev_var rfl))) (ev_add (ev_t1 (ev_var rfl)) (ev_t1 (ev_var rfl))))
def sp_minus (g : Gl) : Sp := pr g 2 (ι := (Int × Int) × (Int × Int)) (fun i => [.d (D.pl i.1), .d (D.pl i.2)]) (fun _ => True) (fun i r => r = D.pl (i.1.1 - i.2.1, i.1.2 - i.2.2))
theorem cal_minus (hK : g.K = K) (T : Blt mg) (h : Dfd K mg "minus" (topS 17)) : C8.Cal P w K mg base 1 "minus" (sp_minus g) [] := by
  subst hK
  refine h.cal (k := 0) (N := ["one", "other"]) (ps := ["one", "other"]) (r := 0) (fun _ _ _ _ _ _ us hl => match us, hl with | [_, _], _ => rfl) (C8.fnScope_by (by decide +kernel)) rfl rfl fun f cdv A outer s H E hr => ?_
  refine ⟨_, (pss_one (ps_ret (pe_tup (pa_cons (pe_op op_sub (pe_ix (ixT (K := g.K) rfl) (pv 0) pe_int (fun _ _ => rfl)) (pe_ix (ixT (K := g.K) rfl) (pv 1) pe_int (fun _ _ => rfl))) (pa_cons (pe_op op_sub (pe_ix (ixT (K := g.K) rfl) (pv 0) pe_int (fun _ _ => rfl)) (pe_ix (ixT (K := g.K) rfl) (pv 1) pe_int (fun _ _ => rfl))) pa_nil))))), fun i hp => ?_⟩
  exact sv_ret (ev_p2 (ev_sub (ev_t0 (ev_var rfl)) (ev_t0 (ev_var rfl))) (ev_sub (ev_t1 (ev_var rfl)) (ev_t1 (ev_var rfl))))
def sp_greatest_divisor (g : Gl) : Sp := pr g 2 (ι := Int × Int) (fun i => [.d (.int i.1), .d (.int i.2)]) (fun _ => True) (fun i r => r = .int (Int.gcd i.1 i.2))
theorem cal_greatest_divisor (hK : g.K = K) (T : Blt mg) (h : Dfd K mg "greatest_divisor" (topS 13)) : C8.Cal P w K mg base 1 "greatest_divisor" (sp_greatest_divisor g) [] := by
  subst hK
  refine h.cal (k := 0) (N := ["one", "other"]) (ps := ["one", "other"]) (r := 0) (fun _ _ _ _ _ _ us hl => match us, hl with | [_, _], _ => rfl) (C8.fnScope_by (by decide +kernel)) rfl rfl fun f cdv A outer s H E hr => ?_
  have nd : List.Nodup (α := Str) ["one", "other"] := by decide +kernel
  refine ⟨_, (pss_cons (ps_par (i := 0) (j := 1) (by rfl) nd rfl rfl (by decide) rfl rfl (pa_cons (pe_callB call_abs (by rfl) T.abs (by decide +kernel) (pa_cons (pv 0) pa_nil)) (pa_cons (pe_callB call_abs (by rfl) T.abs (by decide +kernel) (pa_cons (pv 1) pa_nil)) pa_nil)) (by rfl))
    (pss_cons (ps_while PassesOwn.never (pt_cmpR op_gt (pv 1) pe_int (nomark _))
      (pss_one (ps_par (i := 0) (j := 1) (by rfl) nd rfl rfl (by decide) rfl rfl (pa_cons (pv 1) (pa_cons (pe_op op_mod (pv 0) (pv 1)) pa_nil)) (by rfl))))
    (pss_one (ps_ret (pv 0))))), fun i hp => ?_⟩
  obtain ⟨a, b⟩ := i
  refine sv_seq (sv_par' (ev_abs (ev_var rfl)) (ev_abs (ev_var rfl)) ?_)
  refine sv_seq (sv_while (fun n Γ => ∃ x y : Int, 0 ≤ x ∧ 0 ≤ y ∧ n = y.toNat ∧ Int.gcd x y = Int.gcd a b ∧ Γ = [.d (.int x), .d (.int y)]) _ ⟨_, _, by split <;> omega, by split <;> omega, rfl, ?_, rfl⟩ fun n Γ' hw => ?_)
  · split <;> split <;> simp [Int.gcd_neg, Int.neg_gcd]
  · obtain ⟨x, y, hx, hy, rfl, hg, rfl⟩ := hw
    refine ⟨_, et_test (ev_cmp (ev_var rfl) ev_int), fun z => ?_, fun z => ?_⟩
    · have hy0 : 0 < y := of_decide_eq_true z.symm
      refine sv_par' (ev_var rfl) (ev_I (ev_var rfl) (ev_var rfl) hy0) ⟨_, ?_, y, x % y, hy, Int.emod_nonneg _ (by omega), rfl, ?_, rfl⟩
      · have := Int.emod_lt_of_pos x hy0
        omega
      · rw [← hg, Int.emod_def, Int.gcd_sub_mul_left_right, Int.gcd_comm]
    · have hy0 : ¬ 0 < y := of_decide_eq_false z.symm
      obtain rfl : y = 0 := by omega
      refine sv_ret ((ev_var rfl).imp fun d e => ?_)
      rw [e, ← hg, Int.gcd_zero_right]
      show D.int x = D.int (x.natAbs : Int)
      rw [Int.natAbs_of_nonneg hx]
def sp_divisors (g : Gl) : Sp := pr g 1 (ι := Int) (fun n => [.d (.int n)]) (fun n => 1 ≤ n ∧ n ≤ 1000) (fun n r => ∃ l : List Int, r = .lst (l.map D.int) ∧ (∀ x, x ∈ l ↔ (1 ≤ x ∧ x ≤ n ∧ n % x = 0)) ∧ l.length ≤ 1000)
theorem cal_divisors (hK : g.K = K) (T : Blt mg) (h : Dfd K mg "divisors" (topS 15)) : C8.Cal P w K mg base 1 "divisors" (sp_divisors g) [] := by
  subst hK
  refine h.cal (k := 0) (N := ["number", "divisor"]) (ps := ["number"]) (r := 1) (fun _ _ _ _ _ _ us hl => match us, hl with | [_], _ => rfl) (C8.fnScope_by (by decide +kernel)) rfl rfl fun f cdv A outer s H E hr => ?_
  have nd : List.Nodup (α := Str) ["number", "divisor"] := by decide +kernel
  refine ⟨_, (pss_one (ps_ret (pe_lc (own := [("divisor", 1)]) (g := gName 1) rfl nd (pi_range2 rfl T.range (pa_cons pe_int (pa_cons (pe_op op_add (pv 0) pe_int) pa_nil))) (blkOk_by (own := [("divisor", 1)]) (N := ["number", "divisor"]) (sc := C8.fnScope (topS 15)) (by decide +kernel)) (fun _ _ _ _ _ => (pg_name (i := 1) nd rfl (.inl rfl))) (fun _ _ _ _ _ => pts_one (pt_cmpR op_eq (pe_op op_mod (pv 0) (pv 1)) pe_int (nomark _))) (fun _ _ _ _ _ => (pv 1))))), fun i hp => ?_⟩
  obtain ⟨h1, h2⟩ := hp
  refine sv_ret ((el_filter (f := id) (t := fun d => match d with | .int k => decide (i % k = 0) | _ => false) (ei_rng2 ev_int (ev_add (ev_var rfl) ev_int) (by omega)) (by rw [List.length_map, List.length_range]; omega) (by decide) (fun d hd => ?_) fun d hd _ => ev_var rfl).ev.imp fun r hr => ?_)
  · obtain ⟨k, hk, rfl⟩ := List.mem_map.mp hd
    exact et_test (ev_eqI (ev_I (ev_var rfl) (ev_var rfl) (by show (0 : Int) < 1 + (k : Int); omega)) ev_int)
  · obtain ⟨l, rfl, rfl⟩ := hr
    refine ⟨((List.range (i + 1 - 1).toNat).map fun (k : Nat) => (1 : Int) + (k : Int)).filter (fun k => decide (i % k = 0)), ?_, fun x => ?_, Nat.le_trans (List.length_filter_le _ _) (by rw [List.length_map, List.length_range]; omega)⟩
    · rw [List.map_id]
      congr 1
      generalize List.range (i + 1 - 1).toNat = L
      induction L with
      | nil => rfl
      | cons k L ih =>
        rw [List.map_cons, List.map_cons]
        by_cases q : i % (1 + (k : Int)) = 0
        · rw [List.filter_cons_of_pos (by simp [q]), List.filter_cons_of_pos (by simp [q]), List.map_cons, ih]
        · rw [List.filter_cons_of_neg (by simp [q]), List.filter_cons_of_neg (by simp [q]), ih]
    · rw [List.mem_filter, List.mem_map, decide_eq_true_eq]
      constructor
      · rintro ⟨⟨k, hk, rfl⟩, h⟩
        have := List.mem_range.mp hk
        exact ⟨by omega, by omega, h⟩
      · rintro ⟨h3, h4, h5⟩
        exact ⟨⟨(x - 1).toNat, List.mem_range.mpr (by omega), by omega⟩, h5⟩
def sp_are_numbers (g : Gl) : Sp := pr g 1 (ι := Int × Int × Int) (fun i => [.d (.tup [.int i.1, .int i.2.1, .int i.2.2])]) (fun _ => True) (fun i r => r = .bl (decide (1 ≤ i.2.2) && (decide (0 ≤ i.2.1) && decide (i.2.1 < i.1))))
theorem cal_are_numbers (hK : g.K = K) (T : Blt mg) (h : Dfd K mg "are_numbers" (topS 23)) (c_is_integer : C8.Cal P w K mg base 1 "is_integer" (sp_is_integer g) []) : C8.Cal P w K mg base 2 "are_numbers" (sp_are_numbers g) [] := by
  subst hK
  refine h.cal (k := 1) (N := ["numbers", "a", "b", "c", "number"]) (ps := ["numbers"]) (r := 4) (fun _ _ _ _ _ _ us hl => match us, hl with | [_], _ => rfl) (C8.fnScope_by (by decide +kernel)) rfl rfl fun f cdv A outer s H E hr => ?_
  have nd : List.Nodup (α := Str) ["numbers", "a", "b", "c", "number"] := by decide +kernel
  refine ⟨_, (pss_cons (ps_if (pt_not (pt_val (pe_callB (allK (K := g.K) rfl rfl) (by rfl) T.all (by decide +kernel) (pa_cons (pe_lc (own := [("number", 4)]) (g := gName 4) rfl nd (piT (K := g.K) rfl (pv 0)) (blkOk_by (own := [("number", 4)]) (N := ["numbers", "a", "b", "c", "number"]) (sc := C8.fnScope (topS 23)) (by decide +kernel)) (fun _ _ _ _ _ => (pg_name (i := 4) nd rfl (.inl rfl))) (fun _ _ _ _ _ => pts_nil) (fun _ _ _ _ _ => (C8.pe_c c_is_integer hr (by decide) rfl (pa_cons (pv 4) pa_nil)))) pa_nil))))
      (pss_one (ps_ret pe_bl))
      pss_nil)
    (pss_cons (ps_asg (pv 0) (pgT (K := g.K) (n := 3) rfl (by rfl) (pgs_cons (pg_name (i := 1) nd rfl (.inl rfl)) (pgs_cons (pg_name (i := 2) nd rfl (.inl rfl)) (pgs_cons (pg_name (i := 3) nd rfl (.inl rfl)) pgs_nil)))))
    (pss_one (ps_ret (pe_and (pe_cmpR op_ge (pv 3) pe_int (nomark _)) (pe_one (pe_chain op_le op_lt pe_int (pv 2) (pv 1)))))))), fun i hp => ?_⟩
  obtain ⟨a, b, c⟩ := i
  refine sv_seq (sv_if (et_not (et_B (ev_all (bs := [true, true, true]) (EvL.ev' (el_map (ds := [.int a, .int b, .int c]) (f := fun _ => .bl true) (ei_tup' (ev_var rfl)) (by show 3 ≤ 100000; decide) (by decide) fun d hd => ?_))))) (fun z => by cases z) fun _ => sv_next ?_)
  · obtain ⟨n, rfl⟩ : ∃ n, d = .int n := by
      rcases List.mem_cons.mp hd with z | z
      · exact ⟨_, z⟩
      · rcases List.mem_cons.mp z with z | z
        · exact ⟨_, z⟩
        · exact ⟨_, List.mem_singleton.mp z⟩
    exact ev_callI n (ea_cons' (ev_var rfl) ea_nil) trivial
  · refine sv_seq (sv_asg3 (ev_var rfl) fun d e => ⟨.int a, .int b, .int c, e, ?_⟩)
    exact sv_ret (ev_andV (ev_cmp (ev_var rfl) ev_int) fun _ => ev_chain ev_int (ev_var rfl) fun _ => ev_var rfl)
end
end K55
set_option maxHeartbeats 1000000
/-! The law's own small defs. -/
namespace K55
open PySem PySem.Spec PyProof.Rows L2
open Evl (Ex)
structure Nt where
  a : Int
  b : Int
  c : Int
abbrev D.nt (n : Nt) : D := .tup [.int n.a, .int n.b, .int n.c]
structure VN (m : Int) (n : Nt) : Prop where
  a1 : 1 ≤ n.a
  b0 : 0 ≤ n.b
  bl : n.b < n.a
  c1 : 1 ≤ n.c
  sz : n.a * n.c ≤ m
theorem VN.aLe {m : Int} {n : Nt} (h : VN m n) : n.a ≤ m := Int.le_trans (by have := Int.mul_le_mul_of_nonneg_left h.c1 (show 0 ≤ n.a by have := h.a1; omega); omega) h.sz
theorem VN.cLe {m : Int} {n : Nt} (h : VN m n) : n.c ≤ m := Int.le_trans (by have := Int.mul_le_mul_of_nonneg_right h.a1 (show 0 ≤ n.c by have := h.c1; omega); omega) h.sz
theorem VN.pos {m : Int} {n : Nt} (h : VN m n) : 1 ≤ n.a * n.c := Int.le_trans h.a1 (by have := Int.mul_le_mul_of_nonneg_left h.c1 (show 0 ≤ n.a by have := h.a1; omega); omega)
theorem VN.mono {m k : Int} {n : Nt} (h : VN m n) (e : m ≤ k) : VN k n := ⟨h.a1, h.b0, h.bl, h.c1, Int.le_trans h.sz e⟩
/-- small letters all -/
def Lw (z : Str) : Prop := ∀ c ∈ z.cps.toList, 97 ≤ c ∧ c ≤ 122
structure VT (n : Nt) (z : Str) : Prop where
  len : (z.length : Int) = n.a * n.c
  lw : Lw z
theorem str_at {z : Str} {k : Int} (h0 : 0 ≤ k) (h : k < z.length) : ∃ c, atI z.cps.toList k = some c ∧ c ∈ z.cps.toList := by
  have hl : z.cps.toList.length = z.length := rfl
  have hk : k.toNat < z.cps.toList.length := by omega
  refine ⟨z.cps.toList[k.toNat], ?_, List.getElem_mem hk⟩
  have := atI_nat (xs := z.cps.toList) (j := k.toNat) (List.getElem?_eq_getElem hk)
  rw [Int.toNat_of_nonneg h0] at this
  exact this
theorem lst_at {α : Type} {l : List α} {k : Int} (h0 : 0 ≤ k) (h : k < l.length) : ∃ c, atI l k = some c ∧ c ∈ l := by
  have hk : k.toNat < l.length := by omega
  refine ⟨l[k.toNat], ?_, List.getElem_mem hk⟩
  have := atI_nat (xs := l) (j := k.toNat) (List.getElem?_eq_getElem hk)
  rw [Int.toNat_of_nonneg h0] at this
  exact this
/-- a cell's place -/
def InC (a c : Int) (p : Int × Int) : Prop := 0 ≤ p.1 ∧ p.1 < a ∧ 0 ≤ p.2 ∧ p.2 < c
theorem low_in {a b c : Int} (ha : 1 ≤ a) (hc : 1 ≤ c) (p : Int × Int) : InC a c (low a b c p) := by
  have h1 := Int.emod_nonneg (p.1 - p.2 / c * b) (show a ≠ 0 by omega)
  have h2 := Int.emod_lt_of_pos (p.1 - p.2 / c * b) (show 0 < a by omega)
  have h3 := Int.emod_nonneg p.2 (show c ≠ 0 by omega)
  have h4 := Int.emod_lt_of_pos p.2 (show 0 < c by omega)
  have h5 := Int.emod_def p.2 c
  have h6 : p.2 / c * c = c * (p.2 / c) := Int.mul_comm _ _
  exact ⟨h1, h2, by show 0 ≤ p.2 - p.2 / c * c; omega, by show p.2 - p.2 / c * c < c; omega⟩
theorem at_in {a c : Int} {p : Int × Int} (h : InC a c p) : 0 ≤ p.2 * a + p.1 ∧ p.2 * a + p.1 < a * c := by
  obtain ⟨h1, h2, h3, h4⟩ := h
  have h5 := Int.mul_nonneg h3 (show 0 ≤ a by omega)
  have h6 : p.2 + 1 ≤ c := by omega
  have h7 := Int.mul_le_mul_of_nonneg_right h6 (show 0 ≤ a by omega)
  rw [Int.add_mul, Int.one_mul, Int.mul_comm c a] at h7
  exact ⟨by omega, by omega⟩
theorem mem_spots {a c : Int} (ha : 1 ≤ a) (hc : 1 ≤ c) {p : Int × Int} : p ∈ spots a c ↔ InC a c p := by
  unfold spots
  rw [List.mem_map]
  constructor
  · rintro ⟨k, hk, rfl⟩
    have hk := List.mem_range.mp hk
    have h1 := Int.emod_nonneg (k : Int) (show a ≠ 0 by omega)
    have h2 := Int.emod_lt_of_pos (k : Int) (show 0 < a by omega)
    have h3 : 0 ≤ (k : Int) / a := Int.ediv_nonneg (by omega) (by omega)
    refine ⟨h1, h2, h3, ?_⟩
    exact Int.ediv_lt_of_lt_mul (by omega) (by rw [Int.mul_comm]; omega)
  · intro h
    obtain ⟨h1, h2⟩ := at_in h
    refine ⟨(p.2 * a + p.1).toNat, List.mem_range.mpr (by omega), ?_⟩
    rw [Int.toNat_of_nonneg h1]
    obtain ⟨x, y⟩ := p
    obtain ⟨q1, q2, q3, q4⟩ := h
    refine Prod.ext ?_ ?_
    · show (y * a + x) % a = x
      rw [Int.add_comm, Int.add_mul_emod_self_right]
      exact Int.emod_eq_of_lt q1 q2
    · show (y * a + x) / a = y
      rw [Int.add_comm, Int.add_mul_ediv_right _ _ (by omega), Int.ediv_eq_zero_of_lt q1 q2, Int.zero_add]
theorem spots_len {a c : Int} : (spots a c).length = (a * c).toNat := by unfold spots; rw [List.length_map, List.length_range]
section
variable {P : Program} {w : World} {K : PySem.W.Frag} {mg : Str → Option Value} {base : Heap} {g : Gl}
def sp__law_low (g : Gl) : Sp := pr g 2 (ι := Nt × (Int × Int)) (fun i => [.d (D.nt i.1), .d (D.pl i.2)]) (fun i => VN 1000 i.1) (fun i r => r = D.pl (low i.1.a i.1.b i.1.c i.2))
theorem cal__law_low (hK : g.K = K) (T : Blt mg) (h : Dfd K mg "_law_low" (topS 55)) : C8.Cal P w K mg base 1 "_law_low" (sp__law_low g) [] := by
  subst hK
  refine h.cal (k := 0) (N := ["_law_net_here", "_law_place_here", "_law_times"]) (ps := ["_law_net_here", "_law_place_here"]) (r := 1) (fun _ _ _ _ _ _ us hl => match us, hl with | [_, _], _ => rfl) (C8.fnScope_by (by decide +kernel)) rfl rfl fun f cdv A outer s H E hr => ?_
  have nd : List.Nodup (α := Str) ["_law_net_here", "_law_place_here", "_law_times"] := by decide +kernel
  refine ⟨_, (pss_cons (ps_set (i := 2) nd rfl (.inl rfl) (pe_op op_fdiv (pe_ix (ixT (K := g.K) rfl) (pv 1) pe_int (fun _ _ => rfl)) (pe_ix (ixT (K := g.K) rfl) (pv 0) pe_int (fun _ _ => rfl))))
    (pss_one (ps_ret (pe_tup (pa_cons (pe_op op_mod (pe_op op_sub (pe_ix (ixT (K := g.K) rfl) (pv 1) pe_int (fun _ _ => rfl)) (pe_op op_mul (pv 2) (pe_ix (ixT (K := g.K) rfl) (pv 0) pe_int (fun _ _ => rfl)))) (pe_ix (ixT (K := g.K) rfl) (pv 0) pe_int (fun _ _ => rfl))) (pa_cons (pe_op op_sub (pe_ix (ixT (K := g.K) rfl) (pv 1) pe_int (fun _ _ => rfl)) (pe_op op_mul (pv 2) (pe_ix (ixT (K := g.K) rfl) (pv 0) pe_int (fun _ _ => rfl)))) pa_nil)))))), fun i hp => ?_⟩
  obtain ⟨⟨a, b, c⟩, ⟨x, y⟩⟩ := i
  have h1 := hp.aLe
  have h2 := hp.cLe
  obtain ⟨a1, b0, bl, c1, sz⟩ := hp
  dsimp only at h1 h2 a1 b0 bl c1 sz
  refine sv_seq (sv_asg (ev_I (ev_t1 (ev_var rfl)) (ev_t2 (ev_var rfl)) ⟨by show (0 : Int) < c; omega, by show c < 1073741824; omega⟩) fun d e => ?_)
  subst e
  exact sv_ret (ev_p2 (ev_I (ev_sub (ev_t0 (ev_var rfl)) (ev_I (ev_var rfl) (ev_t1 (ev_var rfl)) (.inr ⟨by show -(2 ^ 64) < b; omega, by show b < 2 ^ 64; omega⟩))) (ev_t0 (ev_var rfl)) (by show (0 : Int) < a; omega)) (ev_sub (ev_t1 (ev_var rfl)) (ev_I (ev_var rfl) (ev_t2 (ev_var rfl)) (.inr ⟨by show -(2 ^ 64) < c; omega, by show c < 2 ^ 64; omega⟩))))
def sp__law_spots (g : Gl) : Sp := pr g 1 (ι := Nt) (fun n => [.d (D.nt n)]) (fun n => VN 1000 n) (fun n r => r = .lst ((spots n.a n.c).map D.pl))
theorem cal__law_spots (hK : g.K = K) (T : Blt mg) (h : Dfd K mg "_law_spots" (topS 56)) : C8.Cal P w K mg base 1 "_law_spots" (sp__law_spots g) [] := by
  subst hK
  refine h.cal (k := 0) (N := ["_law_net_here", "_law_at"]) (ps := ["_law_net_here"]) (r := 1) (fun _ _ _ _ _ _ us hl => match us, hl with | [_], _ => rfl) (C8.fnScope_by (by decide +kernel)) rfl rfl fun f cdv A outer s H E hr => ?_
  have nd : List.Nodup (α := Str) ["_law_net_here", "_law_at"] := by decide +kernel
  refine ⟨_, (pss_one (ps_ret (pe_lc (own := [("_law_at", 1)]) (g := gName 1) rfl nd (pi_range1 rfl T.range (pa_cons (pe_op op_mul (pe_ix (ixT (K := g.K) rfl) (pv 0) pe_int (fun _ _ => rfl)) (pe_ix (ixT (K := g.K) rfl) (pv 0) pe_int (fun _ _ => rfl))) pa_nil)) (blkOk_by (own := [("_law_at", 1)]) (N := ["_law_net_here", "_law_at"]) (sc := C8.fnScope (topS 56)) (by decide +kernel)) (fun _ _ _ _ _ => (pg_name (i := 1) nd rfl (.inl rfl))) (fun _ _ _ _ _ => pts_nil) (fun _ _ _ _ _ => (pe_tup (pa_cons (pe_op op_mod (pv 1) (pe_ix (ixT (K := g.K) rfl) (pv 0) pe_int (fun _ _ => rfl))) (pa_cons (pe_op op_fdiv (pv 1) (pe_ix (ixT (K := g.K) rfl) (pv 0) pe_int (fun _ _ => rfl))) pa_nil))))))), fun i hp => ?_⟩
  obtain ⟨a, b, c⟩ := i
  have h1 := hp.aLe
  have h2 := hp.cLe
  obtain ⟨a1, b0, bl, c1, sz⟩ := hp
  dsimp only at h1 h2 a1 b0 bl c1 sz
  have hm : 0 ≤ a * c := Int.mul_nonneg (by omega) (by omega)
  refine sv_ret (EvS.to (EvL.ev' (el_map (f := fun d => match d with | .int k => D.pl (k % a, k / a) | d => d) (ei_rng1 (n := (a * c).toNat) (EvS.to (ev_I (ev_t0 (ev_var rfl)) (ev_t2 (ev_var rfl)) (.inl ⟨by show -(2 ^ 64) < a; omega, by show a < 2 ^ 64; omega⟩)) (by rw [Int.toNat_of_nonneg hm])) (by omega)) (by rw [List.length_map, List.length_range]; omega) (by decide) fun d hd => ?_)) ?_)
  · obtain ⟨k, hk, rfl⟩ := List.mem_map.mp hd
    exact ev_p2 (ev_I (ev_var rfl) (ev_t0 (ev_var rfl)) (by show (0 : Int) < a; omega)) (ev_I (ev_var rfl) (ev_t0 (ev_var rfl)) ⟨by show (0 : Int) < a; omega, by show a < 1073741824; omega⟩)
  · unfold spots
    rw [List.map_map, List.map_map]
    rfl
def sp__law_seen (g : Gl) : Sp := pr g 3 (ι := Nt × Str × (Int × Int)) (fun i => [.d (D.nt i.1), .d (.str i.2.1), .d (D.pl i.2.2)]) (fun i => VN 1000 i.1 ∧ (i.2.1.length : Int) = i.1.a * i.1.c) (fun i r => ∃ ch, r = .str ⟨#[ch]⟩ ∧ ch ∈ i.2.1.cps.toList)
theorem cal__law_seen (hK : g.K = K) (T : Blt mg) (h : Dfd K mg "_law_seen" (topS 57)) (c__law_low : C8.Cal P w K mg base 1 "_law_low" (sp__law_low g) []) : C8.Cal P w K mg base 2 "_law_seen" (sp__law_seen g) [] := by
  subst hK
  refine h.cal (k := 1) (N := ["_law_net_here", "_law_text", "_law_place_here", "_law_x", "_law_y"]) (ps := ["_law_net_here", "_law_text", "_law_place_here"]) (r := 2) (fun _ _ _ _ _ _ us hl => match us, hl with | [_, _, _], _ => rfl) (C8.fnScope_by (by decide +kernel)) rfl rfl fun f cdv A outer s H E hr => ?_
  have nd : List.Nodup (α := Str) ["_law_net_here", "_law_text", "_law_place_here", "_law_x", "_law_y"] := by decide +kernel
  refine ⟨_, (pss_cons (ps_asg (C8.pe_c c__law_low hr (by decide) rfl (pa_cons (pv 0) (pa_cons (pv 2) pa_nil))) (pgT (K := g.K) rfl (by rfl) (pgs_cons (pg_name (i := 3) nd rfl (.inl rfl)) (pgs_cons (pg_name (i := 4) nd rfl (.inl rfl)) pgs_nil))))
    (pss_one (ps_ret (pe_ix ix_str (pv 1) (pe_op op_add (pe_op op_mul (pv 4) (pe_ix (ixT (K := g.K) rfl) (pv 0) pe_int (fun _ _ => rfl))) (pv 3)) (fun _ _ => rfl))))), fun i hp => ?_⟩
  obtain ⟨⟨a, b, c⟩, z, ⟨x, y⟩⟩ := i
  obtain ⟨hv, hz⟩ := hp
  have hi := low_in (b := b) hv.a1 hv.c1 (x, y)
  have h1 := hv.aLe
  have hs := hv.sz
  refine sv_seq (sv_asg2 (ev_callI (⟨a, b, c⟩, (x, y)) (ea_cons' (ev_var rfl) (ea_cons' (ev_var rfl) ea_nil)) hv) fun d e => ⟨_, _, e, ?_⟩)
  generalize low a b c (x, y) = p at hi ⊢
  obtain ⟨p1, p2⟩ := p
  obtain ⟨q1, q2⟩ := at_in hi
  dsimp only at hz q1 q2 h1 hs
  have hq : p2 < 2 ^ 64 := by have := hi.2.2.2; have := hv.cLe; dsimp only at *; omega
  obtain ⟨ch, hc, hm⟩ := str_at (z := z) q1 (by rw [hz]; exact q2)
  refine sv_ret ((ev_ixS (ev_var rfl) (ev_add (ev_I (ev_var rfl) (ev_t0 (ev_var rfl)) (.inl ⟨by have := hi.2.2.1; dsimp only at *; omega, hq⟩)) (ev_var rfl)) (Evl.sz_of (by omega)) hc).imp fun d e => ⟨ch, e, hm⟩)
def sp__law_turned (g : Gl) : Sp := pr g 2 (ι := Str × (Int × Int)) (fun i => [.d (.str i.1), .d (D.pl i.2)]) (fun _ => True) (fun i r => ∃ q, r = D.pl q ∧ (i.1 = "none" → q = i.2))
theorem cal__law_turned (hK : g.K = K) (T : Blt mg) (h : Dfd K mg "_law_turned" (topS 59)) : C8.Cal P w K mg base 1 "_law_turned" (sp__law_turned g) [] := by
  subst hK
  refine h.cal (k := 0) (N := ["_law_kind", "_law_place_here", "_law_x", "_law_y"]) (ps := ["_law_kind", "_law_place_here"]) (r := 2) (fun _ _ _ _ _ _ us hl => match us, hl with | [_, _], _ => rfl) (C8.fnScope_by (by decide +kernel)) rfl rfl fun f cdv A outer s H E hr => ?_
  have nd : List.Nodup (α := Str) ["_law_kind", "_law_place_here", "_law_x", "_law_y"] := by decide +kernel
  refine ⟨_, (pss_cons (ps_asg (pv 1) (pgT (K := g.K) rfl (by rfl) (pgs_cons (pg_name (i := 2) nd rfl (.inl rfl)) (pgs_cons (pg_name (i := 3) nd rfl (.inl rfl)) pgs_nil))))
    (pss_cons (ps_if (pt_cmpR (inQ (K := g.K) rfl) (pv 0) (pe_lst (pa_cons pe_str (pa_cons pe_str pa_nil))) rfl)
      (pss_one (ps_ret (pe_ifExp (pt_cmpR op_eq (pv 0) pe_str (nomark _)) (pe_tup (pa_cons (pv 2) (pa_cons (pv 3) pa_nil))) (pe_tup (pa_cons (pv 2) (pa_cons (pe_op op_sub pe_int (pv 3)) pa_nil))))))
      pss_nil)
    (pss_cons (ps_if (pt_cmpR (inQ (K := g.K) rfl) (pv 0) (pe_lst (pa_cons pe_str (pa_cons pe_str pa_nil))) rfl)
      (pss_one (ps_ret (pe_ifExp (pt_cmpR op_eq (pv 0) pe_str (nomark _)) (pe_tup (pa_cons (pe_op op_sub pe_int (pv 3)) (pa_cons (pv 2) pa_nil))) (pe_tup (pa_cons (pv 3) (pa_cons (pe_op op_sub pe_int (pv 2)) pa_nil))))))
      pss_nil)
    (pss_cons (ps_if (pt_cmpR (inQ (K := g.K) rfl) (pv 0) (pe_lst (pa_cons pe_str (pa_cons pe_str pa_nil))) rfl)
      (pss_one (ps_ret (pe_ifExp (pt_cmpR op_eq (pv 0) pe_str (nomark _)) (pe_tup (pa_cons (pe_op op_sub pe_int (pv 2)) (pa_cons (pe_op op_sub pe_int (pv 3)) pa_nil))) (pe_tup (pa_cons (pe_op op_sub pe_int (pv 2)) (pa_cons (pv 3) pa_nil))))))
      pss_nil)
    (pss_one (ps_ret (pe_ifExp (pt_cmpR op_eq (pv 0) pe_str (nomark _)) (pe_tup (pa_cons (pv 3) (pa_cons (pv 2) pa_nil))) (pe_tup (pa_cons (pe_op op_sub pe_int (pv 3)) (pa_cons (pe_op op_sub pe_int (pv 2)) pa_nil)))))))))), fun i hp => ?_⟩
  obtain ⟨z, x, y⟩ := i
  refine sv_seq (sv_asg2 (ev_var rfl) fun d e => ⟨_, _, e, ?_⟩)
  refine sv_seq (sv_if (et_test (ev_inS (zs := ["none", "flip"]) (ev_var rfl) (el_lst' (ed_cons' ev_str (ed_cons' ev_str ed_nil)) (by show 2 ≤ 100000; decide)).ev')) (fun _ => ?_) fun z1 => sv_next ?_)
  · exact sv_ret (ev_if (et_test (ev_eqS (ev_var rfl) ev_str)) (fun _ => (ev_p2 (ev_var rfl) (ev_var rfl)).imp fun d e => ⟨_, e, fun _ => rfl⟩) fun z2 => (ev_p2 (ev_var rfl) (ev_sub ev_int (ev_var rfl))).imp fun d e => ⟨(x, 0 - y), e, fun q => absurd q (of_decide_eq_false z2.symm)⟩)
  · have nz : ¬ z = "none" := fun q => by
      have h := of_decide_eq_false z1.symm
      exact h (by rw [q]; exact List.mem_cons_self)
    refine sv_seq (sv_if (et_test (ev_inS (zs := ["left", "right"]) (ev_var rfl) (el_lst' (ed_cons' ev_str (ed_cons' ev_str ed_nil)) (by show 2 ≤ 100000; decide)).ev')) (fun _ => ?_) fun z1 => sv_next ?_)
    · exact sv_ret (ev_if (et_test (ev_eqS (ev_var rfl) ev_str)) (fun _ => (ev_p2 (ev_sub ev_int (ev_var rfl)) (ev_var rfl)).imp fun d e => ⟨(0 - y, x), e, fun q => absurd q nz⟩) fun z2 => (ev_p2 (ev_var rfl) (ev_sub ev_int (ev_var rfl))).imp fun d e => ⟨(y, 0 - x), e, fun q => absurd q nz⟩)
    · refine sv_seq (sv_if (et_test (ev_inS (zs := ["half", "mirror"]) (ev_var rfl) (el_lst' (ed_cons' ev_str (ed_cons' ev_str ed_nil)) (by show 2 ≤ 100000; decide)).ev')) (fun _ => ?_) fun z1 => sv_next ?_)
      · exact sv_ret (ev_if (et_test (ev_eqS (ev_var rfl) ev_str)) (fun _ => (ev_p2 (ev_sub ev_int (ev_var rfl)) (ev_sub ev_int (ev_var rfl))).imp fun d e => ⟨(0 - x, 0 - y), e, fun q => absurd q nz⟩) fun z2 => (ev_p2 (ev_sub ev_int (ev_var rfl)) (ev_var rfl)).imp fun d e => ⟨(0 - x, y), e, fun q => absurd q nz⟩)
      · exact sv_ret (ev_if (et_test (ev_eqS (ev_var rfl) ev_str)) (fun _ => (ev_p2 (ev_var rfl) (ev_var rfl)).imp fun d e => ⟨(y, x), e, fun q => absurd q nz⟩) fun z2 => (ev_p2 (ev_sub ev_int (ev_var rfl)) (ev_sub ev_int (ev_var rfl))).imp fun d e => ⟨(0 - y, 0 - x), e, fun q => absurd q nz⟩)
def kinds : List Str := ["none", "left", "half", "right", "flip", "mirror", "swap", "cross"]
def sp__law_kinds (g : Gl) : Sp := pr g 0 (ι := Unit) (fun _ => []) (fun _ => True) (fun _ r => r = .lst (kinds.map D.str))
theorem cal__law_kinds (hK : g.K = K) (T : Blt mg) (h : Dfd K mg "_law_kinds" (topS 60)) : C8.Cal P w K mg base 1 "_law_kinds" (sp__law_kinds g) [] := by
  subst hK
  refine h.cal (k := 0) (N := []) (ps := []) (r := 0) (fun _ _ _ _ _ _ us hl => match us, hl with | [], _ => rfl) (C8.fnScope_by (by decide +kernel)) rfl rfl fun f cdv A outer s H E hr => ?_
  refine ⟨_, (pss_one (ps_ret (pe_lst (pa_cons pe_str (pa_cons pe_str (pa_cons pe_str (pa_cons pe_str (pa_cons pe_str (pa_cons pe_str (pa_cons pe_str (pa_cons pe_str pa_nil))))))))))), fun i hp => ?_⟩
  exact sv_ret (el_lst' (ed_cons' ev_str (ed_cons' ev_str (ed_cons' ev_str (ed_cons' ev_str (ed_cons' ev_str (ed_cons' ev_str (ed_cons' ev_str (ed_cons' ev_str ed_nil)))))))) (by show 8 ≤ 100000; decide)).ev'
def sp__law_carried (g : Gl) : Sp := pr g 2 (ι := (Str × (Int × Int)) × (Int × Int)) (fun i => [.d (.tup [.str i.1.1, D.pl i.1.2]), .d (D.pl i.2)]) (fun _ => True) (fun i r => ∃ q, r = D.pl q)
theorem cal__law_carried (hK : g.K = K) (T : Blt mg) (h : Dfd K mg "_law_carried" (topS 61)) (c__law_turned : C8.Cal P w K mg base 1 "_law_turned" (sp__law_turned g) []) : C8.Cal P w K mg base 2 "_law_carried" (sp__law_carried g) [] := by
  subst hK
  refine h.cal (k := 1) (N := ["_law_move_here", "_law_place_here", "_law_x", "_law_y"]) (ps := ["_law_move_here", "_law_place_here"]) (r := 2) (fun _ _ _ _ _ _ us hl => match us, hl with | [_, _], _ => rfl) (C8.fnScope_by (by decide +kernel)) rfl rfl fun f cdv A outer s H E hr => ?_
  have nd : List.Nodup (α := Str) ["_law_move_here", "_law_place_here", "_law_x", "_law_y"] := by decide +kernel
  refine ⟨_, (pss_cons (ps_asg (C8.pe_c c__law_turned hr (by decide) rfl (pa_cons (pe_ix (ixT (K := g.K) rfl) (pv 0) pe_int (fun _ _ => rfl)) (pa_cons (pv 1) pa_nil))) (pgT (K := g.K) rfl (by rfl) (pgs_cons (pg_name (i := 2) nd rfl (.inl rfl)) (pgs_cons (pg_name (i := 3) nd rfl (.inl rfl)) pgs_nil))))
    (pss_one (ps_ret (pe_tup (pa_cons (pe_op op_add (pv 2) (pe_ix (ixT (K := g.K) rfl) (pe_ix (ixT (K := g.K) rfl) (pv 0) pe_int (fun _ _ => rfl)) pe_int (fun _ _ => rfl))) (pa_cons (pe_op op_add (pv 3) (pe_ix (ixT (K := g.K) rfl) (pe_ix (ixT (K := g.K) rfl) (pv 0) pe_int (fun _ _ => rfl)) pe_int (fun _ _ => rfl))) pa_nil)))))), fun i hp => ?_⟩
  obtain ⟨⟨z, u, v⟩, x, y⟩ := i
  refine sv_seq (sv_asg2 (ev_callI (z, (x, y)) (ea_cons' (ev_t0 (ev_var rfl)) (ea_cons' (ev_var rfl) ea_nil)) trivial) fun d e => ?_)
  obtain ⟨q, e, _⟩ := e
  refine ⟨_, _, e, ?_⟩
  exact sv_ret ((ev_p2 (ev_add (ev_var rfl) (ev_t0 (ev_t1 (ev_var rfl)))) (ev_add (ev_var rfl) (ev_t1 (ev_t1 (ev_var rfl))))).imp fun d e => ⟨(q.1 + u, q.2 + v), e⟩)
theorem fmod_small {x y : Int} (h : y ≠ 0) : (x.fmod y).natAbs < y.natAbs := by
  rcases Int.lt_or_lt_of_ne h with h1 | h1
  · have e := Int.neg_fmod_neg x y
    have h2 := Int.fmod_nonneg_of_pos (-x) (show 0 < -y by omega)
    have h3 := Int.fmod_lt_of_pos (-x) (show 0 < -y by omega)
    omega
  · have h2 := Int.fmod_nonneg_of_pos x h1
    have h3 := Int.fmod_lt_of_pos x h1
    omega
def sp__law_divisor (g : Gl) : Sp := pr g 2 (ι := Int × Int) (fun i => [.d (.int i.1), .d (.int i.2)]) (fun _ => True) (fun i r => r = .int (Int.gcd i.1 i.2))
theorem cal__law_divisor (hK : g.K = K) (T : Blt mg) (h : Dfd K mg "_law_divisor" (topS 62)) : C8.Cal P w K mg base 1 "_law_divisor" (sp__law_divisor g) [] := by
  subst hK
  refine h.cal (k := 0) (N := ["_law_one", "_law_other"]) (ps := ["_law_one", "_law_other"]) (r := 0) (fun _ _ _ _ _ _ us hl => match us, hl with | [_, _], _ => rfl) (C8.fnScope_by (by decide +kernel)) rfl rfl fun f cdv A outer s H E hr => ?_
  have nd : List.Nodup (α := Str) ["_law_one", "_law_other"] := by decide +kernel
  refine ⟨_, (pss_cons (ps_while PassesOwn.never (pt_cmpR op_ne (pv 1) pe_int (nomark _))
      (pss_one (ps_par (i := 0) (j := 1) (by rfl) nd rfl rfl (by decide) rfl rfl (pa_cons (pv 1) (pa_cons (pe_op op_modN (pv 0) (pv 1)) pa_nil)) (by rfl))))
    (pss_one (ps_ret (pe_callB call_abs (by rfl) T.abs (by decide +kernel) (pa_cons (pv 0) pa_nil))))), fun i hp => ?_⟩
  obtain ⟨a, b⟩ := i
  refine sv_seq (sv_while (fun n Γ => ∃ x y : Int, n = y.natAbs ∧ Int.gcd x y = Int.gcd a b ∧ Γ = [.d (.int x), .d (.int y)]) _ ⟨a, b, rfl, rfl, rfl⟩ fun n Γ' hw => ?_)
  obtain ⟨x, y, rfl, hg, rfl⟩ := hw
  refine ⟨_, et_test (ev_neI (ev_var rfl) ev_int), fun z => ?_, fun z => ?_⟩
  · have hy0 : y ≠ 0 := fun q => by rw [q] at z; cases z
    refine sv_par' (ev_var rfl) (ev_I (ev_var rfl) (ev_var rfl) hy0) ⟨_, fmod_small (x := x) hy0, y, x.fmod y, rfl, ?_, rfl⟩
    rw [← hg, Int.fmod_def, Int.gcd_sub_mul_left_right, Int.gcd_comm]
  · have hy0 : y = 0 := Classical.byContradiction fun q => by simp [q] at z
    subst hy0
    refine sv_ret ((ev_abs (ev_var rfl)).imp fun d e => ?_)
    rw [e, ← hg, Int.gcd_zero_right]
    congr 1
    split <;> omega
def near4 (p : Int × Int) : List (Int × Int) := [(p.1 + 1, p.2), (p.1 - 1, p.2), (p.1, p.2 + 1), (p.1, p.2 - 1)]
def sp__law_near (g : Gl) : Sp := pr g 1 (ι := Int × Int) (fun p => [.d (D.pl p)]) (fun _ => True) (fun p r => r = .lst ((near4 p).map D.pl))
theorem cal__law_near (hK : g.K = K) (T : Blt mg) (h : Dfd K mg "_law_near" (topS 75)) : C8.Cal P w K mg base 1 "_law_near" (sp__law_near g) [] := by
  subst hK
  refine h.cal (k := 0) (N := ["_law_place_here"]) (ps := ["_law_place_here"]) (r := 0) (fun _ _ _ _ _ _ us hl => match us, hl with | [_], _ => rfl) (C8.fnScope_by (by decide +kernel)) rfl rfl fun f cdv A outer s H E hr => ?_
  refine ⟨_, (pss_one (ps_ret (pe_lst (pa_cons (pe_tup (pa_cons (pe_op op_add (pe_ix (ixT (K := g.K) rfl) (pv 0) pe_int (fun _ _ => rfl)) pe_int) (pa_cons (pe_ix (ixT (K := g.K) rfl) (pv 0) pe_int (fun _ _ => rfl)) pa_nil))) (pa_cons (pe_tup (pa_cons (pe_op op_sub (pe_ix (ixT (K := g.K) rfl) (pv 0) pe_int (fun _ _ => rfl)) pe_int) (pa_cons (pe_ix (ixT (K := g.K) rfl) (pv 0) pe_int (fun _ _ => rfl)) pa_nil))) (pa_cons (pe_tup (pa_cons (pe_ix (ixT (K := g.K) rfl) (pv 0) pe_int (fun _ _ => rfl)) (pa_cons (pe_op op_add (pe_ix (ixT (K := g.K) rfl) (pv 0) pe_int (fun _ _ => rfl)) pe_int) pa_nil))) (pa_cons (pe_tup (pa_cons (pe_ix (ixT (K := g.K) rfl) (pv 0) pe_int (fun _ _ => rfl)) (pa_cons (pe_op op_sub (pe_ix (ixT (K := g.K) rfl) (pv 0) pe_int (fun _ _ => rfl)) pe_int) pa_nil))) pa_nil))))))), fun i hp => ?_⟩
  exact sv_ret (el_lst' (ed_cons' (ev_p2 (ev_add (ev_t0 (ev_var rfl)) ev_int) (ev_t1 (ev_var rfl))) (ed_cons' (ev_p2 (ev_sub (ev_t0 (ev_var rfl)) ev_int) (ev_t1 (ev_var rfl))) (ed_cons' (ev_p2 (ev_t0 (ev_var rfl)) (ev_add (ev_t1 (ev_var rfl)) ev_int)) (ed_cons' (ev_p2 (ev_t0 (ev_var rfl)) (ev_sub (ev_t1 (ev_var rfl)) ev_int)) ed_nil)))) (by show 4 ≤ 100000; decide)).ev'
/-- on the window's rim -/
def rim (p : Int × Int) : Bool := decide (p.1 ∈ ([0, 10] : List Int)) || decide (p.2 ∈ ([0, 10] : List Int))
theorem filter_map_pl (t : D → Bool) (f : Int × Int → Bool) (h : ∀ p, t (D.pl p) = f p) (l : List (Int × Int)) : ((l.map D.pl).filter t).map id = (l.filter f).map D.pl := by
  rw [List.map_id]
  induction l with
  | nil => rfl
  | cons p l ih =>
    rw [List.map_cons]
    by_cases q : f p = true
    · rw [List.filter_cons_of_pos (by rw [h]; exact q), List.filter_cons_of_pos q, List.map_cons, ih]
    · rw [List.filter_cons_of_neg (by rw [h]; exact q), List.filter_cons_of_neg q, ih]
def sp__law_is_inner (g : Gl) : Sp := pr g 1 (ι := List (Int × Int)) (fun l => [.d (.lst (l.map D.pl))]) (fun l => l.length ≤ 1000) (fun l r => r = .bl (l.filter rim).isEmpty)
theorem cal__law_is_inner (hK : g.K = K) (T : Blt mg) (h : Dfd K mg "_law_is_inner" (topS 77)) : C8.Cal P w K mg base 1 "_law_is_inner" (sp__law_is_inner g) [] := by
  subst hK
  refine h.cal (k := 0) (N := ["_law_group", "_law_spot"]) (ps := ["_law_group"]) (r := 1) (fun _ _ _ _ _ _ us hl => match us, hl with | [_], _ => rfl) (C8.fnScope_by (by decide +kernel)) rfl rfl fun f cdv A outer s H E hr => ?_
  have nd : List.Nodup (α := Str) ["_law_group", "_law_spot"] := by decide +kernel
  refine ⟨_, (pss_one (ps_ret (pe_cmpR (eqD (K := g.K) rfl hr.units) (pe_lc (own := [("_law_spot", 1)]) (g := gName 1) rfl nd (piL (K := g.K) rfl (pv 0)) (blkOk_by (own := [("_law_spot", 1)]) (N := ["_law_group", "_law_spot"]) (sc := C8.fnScope (topS 77)) (by decide +kernel)) (fun _ _ _ _ _ => (pg_name (i := 1) nd rfl (.inl rfl))) (fun _ _ _ _ _ => pts_one (PW.pt (pw_or (pt_cmpR (inQ (K := g.K) rfl) (pe_ix (ixT (K := g.K) rfl) (pv 1) pe_int (fun _ _ => rfl)) (pe_lst (pa_cons pe_int (pa_cons pe_int pa_nil))) rfl) (pw_or1 (pt_cmpR (inQ (K := g.K) rfl) (pe_ix (ixT (K := g.K) rfl) (pv 1) pe_int (fun _ _ => rfl)) (pe_lst (pa_cons pe_int (pa_cons pe_int pa_nil))) rfl))))) (fun _ _ _ _ _ => (pv 1))) (pe_lst pa_nil) (nomark _)))), fun i hp => ?_⟩
  refine sv_ret (ev_eqN (EvS.imp (EvL.ev (el_filter (f := id) (t := fun d => match d with | .tup [.int x, .int y] => rim (x, y) | _ => false) (ei_list' (ev_var rfl)) (by rw [List.length_map]; omega) (by decide) (fun d hd => ?_) fun d hd _ => ev_var rfl)) fun r hr => ?_) (el_lst' ed_nil (by show 0 ≤ 100000; decide)).ev')
  · obtain ⟨p, hp', rfl⟩ := List.mem_map.mp hd
    exact et_or (et_test (ev_inI (zs := [0, 10]) (ev_t0 (ev_var rfl)) (el_lst' (ed_cons' ev_int (ed_cons' ev_int ed_nil)) (by show 2 ≤ 100000; decide)).ev')) fun _ => et_test (ev_inI (zs := [0, 10]) (ev_t1 (ev_var rfl)) (el_lst' (ed_cons' ev_int (ed_cons' ev_int ed_nil)) (by show 2 ≤ 100000; decide)).ev')
  · obtain ⟨l, rfl, rfl⟩ := hr
    refine ⟨i.filter rim, ?_, rfl⟩
    rw [filter_map_pl _ rim fun p => rfl]
def sp__law_keeps (g : Gl) : Sp := pr g 2 (ι := Nt × Str) (fun i => [.d (D.nt i.1), .d (.str i.2)]) (fun i => VN 1000 i.1) (fun i r => ∃ b, r = .bl b ∧ (i.2 = "none" → b = true))
theorem cal__law_keeps (hK : g.K = K) (T : Blt mg) (h : Dfd K mg "_law_keeps" (topS 64)) (c__law_turned : C8.Cal P w K mg base 1 "_law_turned" (sp__law_turned g) []) (c__law_low : C8.Cal P w K mg base 1 "_law_low" (sp__law_low g) []) : C8.Cal P w K mg base 2 "_law_keeps" (sp__law_keeps g) [] := by
  subst hK
  refine h.cal (k := 1) (N := ["_law_net_here", "_law_kind", "_law_rows", "_law_row"]) (ps := ["_law_net_here", "_law_kind"]) (r := 2) (fun _ _ _ _ _ _ us hl => match us, hl with | [_, _], _ => rfl) (C8.fnScope_by (by decide +kernel)) rfl rfl fun f cdv A outer s H E hr => ?_
  have nd : List.Nodup (α := Str) ["_law_net_here", "_law_kind", "_law_rows", "_law_row"] := by decide +kernel
  refine ⟨_, (pss_cons (ps_set (i := 2) nd rfl (.inl rfl) (pe_lst (pa_cons (C8.pe_c c__law_turned hr (by decide) rfl (pa_cons (pv 1) (pa_cons (pe_tup (pa_cons (pe_ix (ixT (K := g.K) rfl) (pv 0) pe_int (fun _ _ => rfl)) (pa_cons pe_int pa_nil))) pa_nil))) (pa_cons (C8.pe_c c__law_turned hr (by decide) rfl (pa_cons (pv 1) (pa_cons (pe_tup (pa_cons (pe_ix (ixT (K := g.K) rfl) (pv 0) pe_int (fun _ _ => rfl)) (pa_cons (pe_ix (ixT (K := g.K) rfl) (pv 0) pe_int (fun _ _ => rfl)) pa_nil))) pa_nil))) pa_nil))))
    (pss_one (ps_ret (pe_cmpR (eqD (K := g.K) rfl hr.units) (pe_lc (own := [("_law_row", 3)]) (g := gName 3) rfl nd (piL (K := g.K) rfl (pv 2)) (blkOk_by (own := [("_law_row", 3)]) (N := ["_law_net_here", "_law_kind", "_law_rows", "_law_row"]) (sc := C8.fnScope (topS 64)) (by decide +kernel)) (fun _ _ _ _ _ => (pg_name (i := 3) nd rfl (.inl rfl))) (fun _ _ _ _ _ => pts_one (pt_cmpR (neD (K := g.K) rfl hr.units) (C8.pe_c c__law_low hr (by decide) rfl (pa_cons (pv 0) (pa_cons (pv 3) pa_nil))) (pe_tup (pa_cons pe_int (pa_cons pe_int pa_nil))) (nomark _))) (fun _ _ _ _ _ => (pv 3))) (pe_lst pa_nil) (nomark _))))), fun i hp => ?_⟩
  obtain ⟨⟨a, b, c⟩, z⟩ := i
  refine sv_cut (M := fun Γ => ∃ p q : Int × Int, (z = "none" → p = (a, 0) ∧ q = (b, c)) ∧ Γ = [.d (D.nt ⟨a, b, c⟩), .d (.str z), .d (.lst [D.pl p, D.pl q]), .un]) (sv_asgD (el_lst (Ps := fun l => ∃ p q : Int × Int, (z = "none" → p = (a, 0) ∧ q = (b, c)) ∧ l = [D.pl p, D.pl q]) (ed_cons (ev_callI (z, (a, 0)) (ea_cons' (ev_var rfl) (ea_cons' (ev_p2 (ev_t0 (ev_var rfl)) ev_int) ea_nil)) trivial) (ed_cons (ev_callI (z, (b, c)) (ea_cons' (ev_var rfl) (ea_cons' (ev_p2 (ev_t1 (ev_var rfl)) (ev_t2 (ev_var rfl))) ea_nil)) trivial) ed_nil (Ps := fun l => ∃ q : Int × Int, (z = "none" → q = (b, c)) ∧ l = [D.pl q]) fun x l hx hl => ?_) fun x l hx hl => ?_) fun l hl => ?_) fun l hl => ?_) fun Γ' hm => ?_
  · obtain ⟨q, rfl, h⟩ := hx
    exact ⟨q, h, by rw [hl]⟩
  · obtain ⟨p, rfl, h⟩ := hx
    obtain ⟨q, h2, rfl⟩ := hl
    exact ⟨p, q, fun e => ⟨h e, h2 e⟩, rfl⟩
  · obtain ⟨p, q, _, rfl⟩ := hl
    show 2 ≤ 100000
    decide
  · obtain ⟨p, q, h, rfl⟩ := hl
    exact ⟨p, q, h, rfl⟩
  · obtain ⟨p, q, h, rfl⟩ := hm
    refine sv_ret (ev_eqN (EvS.imp (EvL.ev (el_filter (ds := [D.pl p, D.pl q]) (f := id) (t := fun d => match d with | .tup [.int x, .int y] => !decide (low a b c (x, y) = (0, 0)) | _ => false) (ei_list' (ev_var rfl)) (by show 2 ≤ 100000; decide) (by decide) (fun d hd => ?_) fun d hd _ => ev_var rfl)) fun r hr => ?_) (el_lst' ed_nil (by show 0 ≤ 100000; decide)).ev')
    · have : ∃ s : Int × Int, d = D.pl s := by
        rcases List.mem_cons.mp hd with e | e
        · exact ⟨p, e⟩
        · exact ⟨q, List.mem_singleton.mp e⟩
      obtain ⟨s, rfl⟩ := this
      exact et_test (ev_neP (q := (0, 0)) (ev_callI ((⟨a, b, c⟩ : Nt), s) (ea_cons' (ev_var rfl) (ea_cons' (ev_var rfl) ea_nil)) hp) (ev_p2 ev_int ev_int))
    · obtain ⟨l, rfl, rfl⟩ := hr
      refine ⟨[p, q].filter fun s => !decide (low a b c s = (0, 0)), ?_, _, rfl, fun e => ?_⟩
      · exact congrArg D.lst (filter_map_pl _ (fun s => !decide (low a b c s = (0, 0))) (fun p => rfl) [p, q])
      · obtain ⟨e1, e2⟩ := h e
        have c1 := hp.c1
        have a1 := hp.a1
        dsimp only at c1 a1
        have h1 : low a b c p = (0, 0) := by
          rw [e1]
          unfold low
          simp
        have h2 : low a b c q = (0, 0) := by
          rw [e2]
          unfold low
          simp [Int.ediv_self (show c ≠ 0 by omega)]
        simp [h1, h2]
end
end K55
set_option maxHeartbeats 1000000
/-! The tape's defs. -/
namespace K55
open PySem PySem.Spec PyProof.Rows L2
open Evl (Ex)
theorem kp_tape {τ : Tid} {H : Hp} {p c s : Int} (h : Tape τ H) (h1 : 0 ≤ p) (h2 : 0 ≤ c) (h3 : 0 ≤ s) (h4 : s < 2147483647) : Kp (some τ) H (upd H τ.a (.lst [.ref τ.l, .int p, .int c, .int s])) := by
  refine ⟨fun a o hn e => ?_, fun τ' e tp => ?_⟩
  · rw [upd_ne (hn τ rfl)]; exact e
  · cases e
    exact ⟨h.1, by rw [upd_ne h.1]; exact h.2.1, h.2.2.1, p, c, s, upd_same, h1, h2, h3, h4⟩
theorem tape_upd {τ : Tid} {H : Hp} {p c s : Int} (h : Tape τ H) (h1 : 0 ≤ p) (h2 : 0 ≤ c) (h3 : 0 ≤ s) (h4 : s < 2147483647) : Tape τ (upd H τ.a (.lst [.ref τ.l, .int p, .int c, .int s])) := (kp_tape h h1 h2 h3 h4).tp τ rfl h
theorem st_tape {K : PySem.W.Frag} {te : TE} {σ : L2.St} {H : Hp} {a : Addr} {xs : List V} {k : Int} {j : Nat} {v : V} {D : Ends} (h : Val te σ H v) (h0 : σ[0]? = some (some (.ref a))) (hH : H a = some (.lst xs)) (hk : ixN xs.length k = some j) (q : D.nx σ (upd H a (.lst (xs.set j v)))) :
    tAsg te (gSub (tVar 0) (tC (.int k)) rSetL) D σ H := h _ ⟨_, h0, a, xs, k, j, rfl, rfl, hH, hk, q⟩
theorem val_tape {K : PySem.W.Frag} {σ : L2.St} {H : Hp} {a : Addr} {xs : List V} {k : Int} {v : V} (h0 : σ[0]? = some (some (.ref a))) (hH : H a = some (.lst xs)) (hk : atI xs k = some v) : Val (tOp (rIxL K) (tVar 0) (tC (.int k))) σ H v :=
  val_op (val_var h0) val_c fun Q q => ⟨a, xs, k, v, rfl, rfl, SqL.of hH, hk, q⟩
theorem val_I {c : Int → Int → Prop} {f : Int → Int → V} {ta tb : TE} {σ : L2.St} {H : Hp} {i j : Int} (ha : Val ta σ H (.int i)) (hb : Val tb σ H (.int j)) (hc : c i j) : Val (tOp (rI c f) ta tb) σ H (f i j) := val_op ha hb fun Q q => ⟨i, j, rfl, rfl, hc, q⟩
theorem val_I0 {f : Int → Int → V} {ta tb : TE} {σ : L2.St} {H : Hp} {i j : Int} (ha : Val ta σ H (.int i)) (hb : Val tb σ H (.int j)) : Val (tOp (rI0 f) ta tb) σ H (f i j) := val_op ha hb fun Q q => ⟨i, j, rfl, rfl, q⟩
theorem st_ite {c : TT} {t1 t2 : TS} {D : Ends} {σ : L2.St} {H : Hp} {b : Bool} (h : Ans c σ H b) (h1 : b = true → t1 D σ H) (h2 : b = false → t2 D σ H) : tIfS c t1 t2 D σ H := by
  cases b with
  | true => exact st_yes h (h1 rfl)
  | false => exact st_no h (h2 rfl)
theorem st_opt {c : TT} {te : TE} {i : Nat} {rest : TS} {D : Ends} {σ : L2.St} {H : Hp} {b : Bool} {M : V → Prop} (h : Ans c σ H b) (h1 : b = true → ∃ v, Val te σ H v ∧ M v) (h0 : b = false → ∃ v, σ[i]? = some (some v) ∧ M v) (k : ∀ v, M v → rest D (σ.set i (some v)) H) : tSeq (tIfS c (tAsg te (gName i)) tNext) rest D σ H := by
  refine st_seq (st_ite h (fun e => ?_) fun e => st_next ?_)
  · obtain ⟨v, hv, m⟩ := h1 e
    exact st_set hv (k v m)
  · obtain ⟨v, hv, m⟩ := h0 e
    have z := k v m
    obtain ⟨h2, h3⟩ := List.getElem?_eq_some_iff.mp hv
    rw [← h3, List.set_getElem_self] at z
    exact z
section
variable {P : Program} {w : World} {K : PySem.W.Frag} {mg : Str → Option Value} {base : Heap} {g : Gl}
def sp__law_draw (g : Gl) : Sp := pr g 2 (ι := Int) (fun k => [.tp, .d (.int k)]) (fun k => 0 < k ∧ k < 1073741824) (fun k r => ∃ n, r = .int n ∧ 0 ≤ n ∧ n < k)
theorem cal__law_draw (hK : g.K = K) (T : Blt mg) (h : Dfd K mg "_law_draw" (topS 52)) : C8.Cal P w K mg base 1 "_law_draw" (sp__law_draw g) [] := by
  subst hK
  refine h.cal (k := 0) (N := ["_law_tape_here", "_law_many", "_law_digit", "_law_cell", "_law_near_here"]) (ps := ["_law_tape_here", "_law_many"]) (r := 3) (fun _ _ _ _ _ _ us hl => match us, hl with | [_, _], _ => rfl) (C8.fnScope_by (by decide +kernel)) rfl rfl fun f cdv A outer s H E hr => ?_
  have nd : List.Nodup (α := Str) ["_law_tape_here", "_law_many", "_law_digit", "_law_cell", "_law_near_here"] := by decide +kernel
  refine ⟨_, (pss_cons (ps_if (pt_cmpR op_gt (pe_ix (ixL (K := g.K) rfl) (pv 0) pe_int (fun _ _ => rfl)) pe_int (nomark _))
      (pss_cons (ps_set (i := 2) nd rfl (.inl rfl) (pe_op op_mod (pe_ix (ixL (K := g.K) rfl) (pv 0) pe_int (fun _ _ => rfl)) (pv 1)))
        (pss_cons (ps_asg (pe_op op_fdiv (pe_ix (ixL (K := g.K) rfl) (pv 0) pe_int (fun _ _ => rfl)) (pv 1)) (pg_sub (pv 0) pe_int set_list))
        (pss_one (ps_ret (pv 2)))))
      pss_nil)
    (pss_cons (ps_set (i := 3) nd rfl (.inl rfl) pe_int)
    (pss_cons (ps_if (pt_cmpR op_lt (pe_ix (ixL (K := g.K) rfl) (pv 0) pe_int (fun _ _ => rfl)) (pe_callB (lenK (K := g.K) rfl) (by rfl) T.len PySem.boot_len (pa_cons (pe_ix (ixL (K := g.K) rfl) (pv 0) pe_int (fun _ _ => rfl)) pa_nil)) (nomark _))
      (pss_one (ps_set (i := 3) nd rfl (.inl rfl) (pe_ix (ixL (K := g.K) rfl) (pe_ix (ixL (K := g.K) rfl) (pv 0) pe_int (fun _ _ => rfl)) (pe_ix (ixL (K := g.K) rfl) (pv 0) pe_int (fun _ _ => rfl)) (fun _ _ => rfl))))
      pss_nil)
    (pss_cons (ps_asg (pe_op op_add (pe_ix (ixL (K := g.K) rfl) (pv 0) pe_int (fun _ _ => rfl)) pe_int) (pg_sub (pv 0) pe_int set_list))
    (pss_cons (ps_if (pt_cmpR op_ge (pv 3) (pe_op op_pow pe_int pe_int) (nomark _))
      (pss_cons (ps_asg (pe_op op_fdiv (pv 3) (pv 1)) (pg_sub (pv 0) pe_int set_list))
        (pss_one (ps_ret (pe_op op_mod (pv 3) (pv 1)))))
      pss_nil)
    (pss_cons (ps_set (i := 4) nd rfl (.inl rfl) (pe_op op_add (pe_op op_add (pe_op op_mod (pv 3) pe_int) (pe_op op_mul pe_int (pe_ix (ixL (K := g.K) rfl) (pv 0) pe_int (fun _ _ => rfl)))) pe_int))
    (pss_cons (ps_asg (pe_op op_mod (pe_op op_add (pe_op op_mul (pe_ix (ixL (K := g.K) rfl) (pv 0) pe_int (fun _ _ => rfl)) pe_int) (pv 4)) pe_int) (pg_sub (pv 0) pe_int set_list))
    (pss_one (ps_ret (pe_op op_mod (pe_op op_mod (pe_op op_pow (pe_ix (ixL (K := g.K) rfl) (pv 0) pe_int (fun _ _ => rfl)) pe_int) pe_int) (pv 1))))))))))), fun i hp => ?_⟩
  obtain ⟨hk0, hk1⟩ := hp
  intro F m σ H D e s a b c d
  subst e
  obtain ⟨v0, e0, τ, hτ, rfl⟩ := s.at (i := 0) (c := .tp) rfl
  obtain ⟨v1, e1, w1, rfl, r1⟩ := s.at (i := 1) (c := .d (.int i)) rfl
  cases r1
  have hl := s.len
  match σ, hl, e0, e1 with
  | [_, _, x2, x3, x4], _, rfl, rfl =>
    have tp := s.tape τ hτ
    obtain ⟨hne, hL, hz, pos, cur, seed, hT, p0, c0, s0, s1⟩ := id tp
    have fin : ∀ H' n, Kp (some τ) H H' → 0 ≤ n → n < i → D.rt (.int n) H' := fun H' n k h1 h2 => d _ H' (.int n) (s.kp.trans (hτ ▸ k)) (.int n) ⟨n, rfl, h1, h2⟩
    refine st_seq (st_ite (ans_cmp (val_tape rfl hT (atI_nat (j := 2) rfl)) val_c fun Q q => ⟨_, _, rfl, rfl, q⟩) (fun hc => ?_) fun hc => ?_)
    · try dsimp only
      refine st_seq (st_set (val_I (val_tape rfl hT (atI_nat (j := 2) rfl)) (val_var rfl) hk0) ?_)
      try dsimp only
      refine st_seq (st_tape (K := F.g.K) (val_I (val_tape rfl hT (atI_nat (j := 2) rfl)) (val_var rfl) ⟨hk0, hk1⟩) rfl hT (j := 2) rfl ?_)
      try dsimp only
      refine st_ret (val_var rfl) (fin _ _ (kp_tape tp p0 ?_ s0 s1) (Int.emod_nonneg _ (by omega)) (Int.emod_lt_of_pos _ hk0))
      exact Int.ediv_nonneg c0 (by omega)
    · refine st_next ?_
      try dsimp only
      refine st_seq (st_set val_c ?_)
      try dsimp only
      refine st_opt (M := fun v => ∃ cell : Int, v = .int cell) (ans_cmp (val_tape rfl hT (atI_nat (j := 1) rfl)) (y := .int τ.ns.length) (fun Q q => ?_) fun Q q => ⟨_, _, rfl, rfl, q⟩) (fun hc2 => ?_) (fun _ => ⟨_, rfl, 0, rfl⟩) fun v hv => ?_
      · exact val_tape rfl hT (atI_nat (j := 0) rfl) _ ⟨_, τ.ns.length, rfl, .inl ⟨_, SqL.of hL, by rw [List.length_map]⟩, q⟩
      · have hlt : pos.toNat < τ.ns.length := by have := of_decide_eq_true hc2; omega
        refine ⟨.int τ.ns[pos.toNat], val_op (val_tape rfl hT (atI_nat (j := 0) rfl)) (val_tape rfl hT (atI_nat (j := 1) rfl)) fun Q q => ⟨τ.l, _, pos, .int τ.ns[pos.toNat], rfl, rfl, SqL.of hL, ?_, q⟩, _, rfl⟩
        have z := atI_nat (xs := τ.ns.map V.int) (j := pos.toNat) (v := .int τ.ns[pos.toNat]) (by rw [List.getElem?_map, List.getElem?_eq_getElem hlt]; rfl)
        rw [Int.toNat_of_nonneg p0] at z
        exact z
      · obtain ⟨cell, rfl⟩ := hv
        try dsimp only
        refine st_seq (st_tape (K := F.g.K) (val_I0 (val_tape rfl hT (atI_nat (j := 1) rfl)) val_c) rfl hT (j := 1) rfl ?_)
        have hT2 : upd H τ.a (.lst [.ref τ.l, .int (pos + 1), .int cur, .int seed]) τ.a = some (.lst [.ref τ.l, .int (pos + 1), .int cur, .int seed]) := upd_same
        have tp2 := tape_upd (p := pos + 1) (c := cur) (s := seed) tp (by omega) c0 s0 s1
        have k2 := kp_tape (p := pos + 1) (c := cur) (s := seed) tp (by omega) c0 s0 s1
        try dsimp only
        show tSeq (tIfS _ _ _) _ D [some (.ref τ.a), some (.int i), x2, some (.int cell), x4] (upd H τ.a (.lst [.ref τ.l, .int (pos + 1), .int cur, .int seed]))
        generalize upd H τ.a (.lst [.ref τ.l, .int (pos + 1), .int cur, .int seed]) = H2 at hT2 tp2 k2
        try dsimp only
        refine st_seq (st_ite (ans_cmp (val_var rfl) (val_I val_c val_c ⟨by decide, by decide, by decide⟩) fun Q q => ⟨_, _, rfl, rfl, q⟩) (fun hc2 => ?_) fun hc2 => ?_)
        · have hcell : (0 : Int) ≤ cell := by
            have h : (10 : Int) ^ (18 : Int).toNat ≤ cell := of_decide_eq_true hc2
            have h2 : (0 : Int) ≤ 10 ^ (18 : Int).toNat := by decide
            omega
          try dsimp only
          refine st_seq (st_tape (K := F.g.K) (val_I (val_var rfl) (val_var rfl) ⟨hk0, hk1⟩) rfl hT2 (j := 2) rfl ?_)
          try dsimp only
          exact st_ret (val_I (val_var rfl) (val_var rfl) hk0) (fin _ _ (k2.trans (kp_tape tp2 (by omega) (Int.ediv_nonneg hcell (by omega)) s0 s1)) (Int.emod_nonneg _ (by omega)) (Int.emod_lt_of_pos _ hk0))
        · have hm : (0 : Int) < 2147483647 := by decide
          refine st_next ?_
          try dsimp only
          refine st_seq (st_set (val_I0 (val_I0 (val_I (val_var rfl) val_c hm) (val_I val_c (val_tape rfl hT2 (atI_nat (j := 1) rfl)) (.inl ⟨by decide, by decide⟩))) val_c) ?_)
          try dsimp only
          refine st_seq (st_tape (K := F.g.K) (val_I (val_I0 (val_I (val_tape rfl hT2 (atI_nat (j := 3) rfl)) val_c (.inr ⟨by decide, by decide⟩)) (val_var rfl)) val_c hm) rfl hT2 (j := 3) rfl ?_)
          have g0 := fun x : Int => Int.emod_nonneg x (show (2147483647 : Int) ≠ 0 by decide)
          have g1 := fun x : Int => Int.emod_lt_of_pos x hm
          try dsimp only
          refine st_ret (val_I (val_I (val_I (val_tape rfl upd_same (atI_nat (j := 3) rfl)) val_c ⟨by decide, by decide, ?_⟩) val_c hm) (val_var rfl) hk0) (fin _ _ (k2.trans (kp_tape tp2 (by omega) c0 (g0 _) (g1 _))) (Int.emod_nonneg _ (by omega)) (Int.emod_lt_of_pos _ hk0))
          have h2 := g1 (seed * 48271 + (cell % 2147483647 + 7919 * (pos + 1) + 11))
          have h1 := g0 (seed * 48271 + (cell % 2147483647 + 7919 * (pos + 1) + 11))
          show Int.natAbs ((seed * 48271 + (cell % 2147483647 + 7919 * (pos + 1) + 11)) % 2147483647) < 2 ^ 64
          omega
end
end K55
set_option maxHeartbeats 1000000
/-! The law's defs that draw. -/
namespace K55
open PySem PySem.Spec PyProof.Rows L2
open Evl (Ex)
theorem hu65_of {k : Nat} {A : Around} (hr : Room k A) : A.units + 65 < cLine := by have := hr.un; omega
def IsI (d : D) : Prop := ∃ n : Int, d = .int n
def InR (k : Int) (d : D) : Prop := ∃ n : Int, d = .int n ∧ 0 ≤ n ∧ n < k
section
variable {g : Gl} {Γ : List C} {ta tb te : TE} {tl : TA} {A B P : D → Prop} {d x y : D} {i : Nat} {k : Int}
theorem ev_draw (h : Γ[i]? = some .tp) (hk : EvS g te Γ (· = .int k)) (h0 : 0 < k) (h1 : k < 1073741824) : EvS g (tCall (sp__law_draw g) [] C8.E0 (tCons (tVar i) (tCons te tNil))) Γ (InR k) := ev_callI k (ea_tp' h (ea_cons' hk ea_nil)) ⟨h0, h1⟩
theorem ed_all0 : EvD g tNil Γ (fun l => l.length = 0 ∧ ∀ d ∈ l, P d) := fun F m σ H e s Q q => q [] H [] (Kp.refl H) ⟨rfl, fun _ h => by cases h⟩ .nil
theorem ed_all {n : Nat} (h : EvS g te Γ A) (hi : ∀ d, A d → P d) (hr : EvD g tl Γ (fun l => l.length = n ∧ ∀ d ∈ l, P d)) : EvD g (tCons te tl) Γ (fun l => l.length = n + 1 ∧ ∀ d ∈ l, P d) := ed_cons h hr fun x l a b => ⟨by rw [List.length_cons, b.1], fun d hd => by
  rcases List.mem_cons.mp hd with e | e
  · rw [e]; exact hi x a
  · exact b.2 d e⟩
/-- one of a written list's items, drawn -/
theorem ev_pick {n : Nat} {kk : Int} (hk : kk = n) (hn : n ≤ 100000) (h : EvD g tl Γ (fun l => l.length = n ∧ ∀ d ∈ l, P d)) (hi : EvS g tb Γ (InR kk)) : EvS g (tOp (rIxL g.K) (tLst tl) tb) Γ P := ev_ixLs (EvL.ev (el_lst h fun l e => by rw [e.1]; exact hn)) hi fun x y hx hy => by
  obtain ⟨l, rfl, h1, h2⟩ := hx
  obtain ⟨j, rfl, h3, h4⟩ := hy
  obtain ⟨c, hc, hm⟩ := lst_at (l := l) h3 (by omega)
  exact ⟨l, j, c, rfl, rfl, hc, h2 c hm⟩
end
/-! one sign after the other -/
def one (c : Nat) : Str := ⟨#[c]⟩
theorem join_cps (zs : List Str) : (Txt.join "" zs).cps.toList = (zs.map fun z => z.cps.toList).flatten := by
  rw [TL.join_eq]
  show TL.tl (Str.join "" zs) = _
  rw [TL.tl_join]
  have e : TL.tl ("" : Str) = [] := rfl
  rw [e]
  show TL.joinL [] (zs.map fun z => TL.tl z) = _
  induction zs with
  | nil => rfl
  | cons z zs ih =>
    cases zs with
    | nil =>
      show TL.tl z = TL.tl z ++ []
      rw [List.append_nil]
    | cons y ys =>
      show TL.tl z ++ ([] ++ TL.joinL [] (TL.tl y :: ys.map fun z => TL.tl z)) = _
      rw [List.nil_append]
      exact congrArg (TL.tl z ++ ·) ih
theorem ones_of {Q : Nat → Prop} : ∀ {es : List D}, (∀ e ∈ es, ∃ c, e = .str (one c) ∧ Q c) → ∃ cs : List Nat, es = (cs.map one).map D.str ∧ ∀ c ∈ cs, Q c
  | [], _ => ⟨[], rfl, fun _ h => by cases h⟩
  | e :: es, h => by
    obtain ⟨c, h1, h2⟩ := h e List.mem_cons_self
    obtain ⟨cs, h3, h4⟩ := ones_of (es := es) fun x hx => h x (List.mem_cons_of_mem _ hx)
    refine ⟨c :: cs, by rw [h1, h3]; rfl, fun x hx => ?_⟩
    rcases List.mem_cons.mp hx with e | e
    · rw [e]; exact h2
    · exact h4 x e
theorem join_ones (cs : List Nat) : (Txt.join "" (cs.map one)).cps.toList = cs := by
  rw [join_cps, List.map_map]
  induction cs with
  | nil => rfl
  | cons c cs ih => exact congrArg (c :: ·) ih
theorem len_cps (z : Str) : z.length = z.cps.toList.length := rfl
theorem sum_ones : ∀ cs : List Nat, ((cs.map one).map (·.length)).sum = cs.length
  | [] => rfl
  | c :: cs => by
    rw [List.map_cons, List.map_cons, List.sum_cons, sum_ones cs, List.length_cons]
    show 1 + _ = _
    omega
/-- ''.join of single signs -/
theorem ev_joinOnes {g : Gl} {Γ : List C} {tb : TE} {Q : Nat → Prop} {n : Nat} (hn : n ≤ 100000) (hb : EvL g tb Γ (fun es => es.length = n ∧ ∀ e ∈ es, ∃ c, e = .str (one c) ∧ Q c)) :
    EvS g (tM1 (fun x xs H Q => ∃ a p, ∃ ys : List Str, x = .str a ∧ xs = [.ref p] ∧ (SqL g.K H p (ys.map V.str) ∨ SqT g.K H p (ys.map V.str)) ∧ (ys.map (·.length)).sum + ys.length * a.length ≤ 16777216 ∧ Q (.str (Txt.join a ys)) H) (tC (.str "")) tb) Γ (fun d => ∃ z, d = .str z ∧ z.length = n ∧ ∀ c ∈ z.cps.toList, Q c) :=
  ev_join ev_str hb.ev fun x hx => by
    obtain ⟨es, rfl, h1, h2⟩ := hx
    obtain ⟨cs, rfl, h4⟩ := ones_of h2
    rw [List.length_map, List.length_map] at h1
    refine ⟨cs.map one, rfl, ?_, _, rfl, ?_, ?_⟩
    · rw [sum_ones]
      show cs.length + _ * 0 ≤ _
      omega
    · rw [len_cps, join_ones, h1]
    · rw [join_ones]; exact h4
/-- a list without doubles within another is no longer -/
theorem nodup_le {α : Type} [DecidableEq α] : ∀ {l k : List α}, l.Nodup → (∀ x ∈ l, x ∈ k) → l.length ≤ k.length
  | [], _, _, _ => Nat.zero_le _
  | x :: l, k, hn, hs => by
    have h1 := List.nodup_cons.mp hn
    have hx := hs x List.mem_cons_self
    have h2 : l.length ≤ (k.erase x).length := nodup_le h1.2 fun y hy => (List.mem_erase_of_ne fun e => h1.1 (by rw [← e]; exact hy)).mpr (hs y (List.mem_cons_of_mem _ hy))
    rw [List.length_erase_of_mem hx] at h2
    have h3 : 0 < k.length := List.length_pos_of_mem hx
    rw [List.length_cons]
    omega
section
variable {P : Program} {w : World} {K : PySem.W.Frag} {mg : Str → Option Value} {base : Heap} {g : Gl}
def sp__law_great (g : Gl) : Sp := pr g 2 (ι := Int) (fun k => [.tp, .d (.int k)]) (fun k => 0 < k) (fun _ r => IsI r)
theorem cal__law_great (hK : g.K = K) (T : Blt mg) (h : Dfd K mg "_law_great" (topS 53)) (c__law_draw : C8.Cal P w K mg base 1 "_law_draw" (sp__law_draw g) []) : C8.Cal P w K mg base 2 "_law_great" (sp__law_great g) [] := by
  subst hK
  refine h.cal (k := 1) (N := ["_law_tape_here", "_law_size", "_law_high", "_law_value"]) (ps := ["_law_tape_here", "_law_size"]) (r := 2) (fun _ _ _ _ _ _ us hl => match us, hl with | [_, _], _ => rfl) (C8.fnScope_by (by decide +kernel)) rfl rfl fun f cdv A outer s H E hr => ?_
  have nd : List.Nodup (α := Str) ["_law_tape_here", "_law_size", "_law_high", "_law_value"] := by decide +kernel
  refine ⟨_, (pss_cons (ps_set (i := 2) nd rfl (.inl rfl) (pe_op op_add (pe_op op_mul (C8.pe_c c__law_draw hr (by decide) rfl (pa_cons (pv 0) (pa_cons (pe_op op_pow pe_int pe_int) pa_nil))) (pe_op op_pow pe_int pe_int)) (pe_op op_mul (C8.pe_c c__law_draw hr (by decide) rfl (pa_cons (pv 0) (pa_cons (pe_op op_pow pe_int pe_int) pa_nil))) (pe_op op_pow pe_int pe_int))))
    (pss_cons (ps_set (i := 3) nd rfl (.inl rfl) (pe_ix (ixL (K := g.K) rfl) (pe_lst (pa_cons (C8.pe_c c__law_draw hr (by decide) rfl (pa_cons (pv 0) (pa_cons pe_int pa_nil))) (pa_cons (C8.pe_c c__law_draw hr (by decide) rfl (pa_cons (pv 0) (pa_cons pe_int pa_nil))) (pa_cons (pe_op op_mod (pe_op op_add (pv 2) (C8.pe_c c__law_draw hr (by decide) rfl (pa_cons (pv 0) (pa_cons (pe_op op_pow pe_int pe_int) pa_nil)))) (pv 1)) pa_nil)))) (C8.pe_c c__law_draw hr (by decide) rfl (pa_cons (pv 0) (pa_cons pe_int pa_nil))) (fun _ _ => rfl)))
    (pss_one (ps_ret (pe_op op_mul (pv 3) (pe_ix (ixL (K := g.K) rfl) (pe_lst (pa_cons pe_int (pa_cons (pe_un un_neg pe_int) pa_nil))) (C8.pe_c c__law_draw hr (by decide) rfl (pa_cons (pv 0) (pa_cons pe_int pa_nil))) (fun _ _ => rfl))))))), fun i hp => ?_⟩
  have pw9 : CPow 10 9 := ⟨by decide, by decide, by decide⟩
  have pw18 : CPow 10 18 := ⟨by decide, by decide, by decide⟩
  have dr9 : ∀ {Γ : List C}, Γ[0]? = some .tp → EvS g (tCall (sp__law_draw g) [] C8.E0 (tCons (tVar 0) (tCons (tOp (rI CPow fun i j => .int (i ^ j.toNat)) (tC (.int 10)) (tC (.int 9))) tNil))) Γ (InR (10 ^ (9 : Int).toNat)) := fun h => ev_draw h (ev_I ev_int ev_int pw9) (by decide) (by decide)
  refine sv_seq (sv_asg (A := IsI) (ev_I0s (A := IsI) (B := IsI) (ev_Is (dr9 rfl) (ev_I ev_int ev_int pw18) fun x y hx hy => ?_) (ev_Is (dr9 rfl) (ev_I ev_int ev_int pw9) fun x y hx hy => ?_) fun x y ⟨n, e1⟩ ⟨k, e2⟩ => ⟨n, k, e1, e2, _, rfl⟩) fun d hd => ?_)
  · obtain ⟨n, e, h0, h1⟩ := hx
    have h2 : (10 : Int) ^ (9 : Int).toNat = 1000000000 := by decide
    exact ⟨n, _, e, hy, .inl ⟨by omega, by omega⟩, _, rfl⟩
  · obtain ⟨n, e, h0, h1⟩ := hx
    have h2 : (10 : Int) ^ (9 : Int).toNat = 1000000000 := by decide
    exact ⟨n, _, e, hy, .inl ⟨by omega, by omega⟩, _, rfl⟩
  · obtain ⟨high, rfl⟩ := hd
    refine sv_seq (sv_asg (A := IsI) (ev_pick (n := 3) (P := IsI) rfl (by decide) (ed_all (ev_draw rfl ev_int (by decide) (by decide)) (fun d h => ⟨_, h.choose_spec.1⟩) (ed_all (ev_draw rfl ev_int (by decide) (by decide)) (fun d h => ⟨_, h.choose_spec.1⟩) (ed_all (A := IsI) (ev_Is (A := IsI) (ev_I0s (ev_var rfl) (dr9 rfl) fun x y hx hy => ⟨high, hy.choose, hx, hy.choose_spec.1, _, rfl⟩) (ev_var rfl) fun x y hx hy => ⟨hx.choose, i, hx.choose_spec, hy, hp, _, rfl⟩) (fun d h => h) ed_all0))) (ev_draw rfl ev_int (by decide) (by decide))) fun d hd => ?_)
    obtain ⟨v, rfl⟩ := hd
    exact sv_ret (ev_Is (ev_var rfl) (ev_pick (n := 2) (P := fun d => d = .int 1 ∨ d = .int (-1)) rfl (by decide) (ed_all ev_int (fun d h => .inl h) (ed_all (ev_un ev_int) (fun d h => .inr h) ed_all0)) (ev_draw rfl ev_int (by decide) (by decide))) fun x y hx hy => by
      rcases hy with hy | hy
      · exact ⟨v, _, hx, hy, .inr ⟨by decide, by decide⟩, _, rfl⟩
      · exact ⟨v, _, hx, hy, .inr ⟨by decide, by decide⟩, _, rfl⟩)
def sp__law_place (g : Gl) : Sp := pr g 1 (ι := Unit) (fun _ => [.tp]) (fun _ => True) (fun _ r => ∃ p, r = D.pl p)
theorem cal__law_place (hK : g.K = K) (T : Blt mg) (h : Dfd K mg "_law_place" (topS 54)) (c__law_great : C8.Cal P w K mg base 2 "_law_great" (sp__law_great g) []) : C8.Cal P w K mg base 3 "_law_place" (sp__law_place g) [] := by
  subst hK
  refine h.cal (k := 2) (N := ["_law_tape_here"]) (ps := ["_law_tape_here"]) (r := 0) (fun _ _ _ _ _ _ us hl => match us, hl with | [_], _ => rfl) (C8.fnScope_by (by decide +kernel)) rfl rfl fun f cdv A outer s H E hr => ?_
  refine ⟨_, (pss_one (ps_ret (pe_tup (pa_cons (C8.pe_c c__law_great hr (by decide) rfl (pa_cons (pv 0) (pa_cons (pe_op op_pow pe_int pe_int) pa_nil))) (pa_cons (C8.pe_c c__law_great hr (by decide) rfl (pa_cons (pv 0) (pa_cons (pe_op op_pow pe_int pe_int) pa_nil))) pa_nil))))), fun i hp => ?_⟩
  have pw : CPow 10 26 := ⟨by decide, by decide, by decide⟩
  have gr : ∀ {Γ : List C}, Γ[0]? = some .tp → EvS g (tCall (sp__law_great g) [] C8.E0 (tCons (tVar 0) (tCons (tOp (rI CPow fun i j => .int (i ^ j.toNat)) (tC (.int 10)) (tC (.int 26))) tNil))) Γ IsI := fun h => ev_callI ((10 : Int) ^ (26 : Int).toNat) (ea_tp' h (ea_cons' (ev_I ev_int ev_int pw) ea_nil)) (by show (0 : Int) < 10 ^ (26 : Int).toNat; decide)
  refine sv_ret (ev_tup (Ps := fun l => ∃ p, D.tup l = D.pl p) (ed_cons (gr rfl) (ed_cons (gr rfl) ed_nil (Ps := fun l => ∃ n, l = [D.int n]) fun x l hx hl => by obtain ⟨n, rfl⟩ := hx; exact ⟨n, by rw [hl]⟩) fun x l hx hl => ?_) (fun l hl => ?_) fun l hl => hl)
  · obtain ⟨n, rfl⟩ := hx
    obtain ⟨k, rfl⟩ := hl
    exact ⟨(n, k), rfl⟩
  · obtain ⟨p, hp⟩ := hl
    cases hp
    show 2 ≤ 100000
    decide
def sp__law_net (g : Gl) : Sp := pr g 2 (ι := Int) (fun m => [.tp, .d (.int m)]) (fun m => 1 ≤ m ∧ m ≤ 1000) (fun m r => ∃ n, r = D.nt n ∧ VN m n)
theorem cal__law_net (hK : g.K = K) (T : Blt mg) (h : Dfd K mg "_law_net" (topS 58)) (c__law_draw : C8.Cal P w K mg base 1 "_law_draw" (sp__law_draw g) []) : C8.Cal P w K mg base 2 "_law_net" (sp__law_net g) [] := by
  subst hK
  refine h.cal (k := 1) (N := ["_law_tape_here", "_law_most", "_law_wide"]) (ps := ["_law_tape_here", "_law_most"]) (r := 1) (fun _ _ _ _ _ _ us hl => match us, hl with | [_, _], _ => rfl) (C8.fnScope_by (by decide +kernel)) rfl rfl fun f cdv A outer s H E hr => ?_
  have nd : List.Nodup (α := Str) ["_law_tape_here", "_law_most", "_law_wide"] := by decide +kernel
  refine ⟨_, (pss_cons (ps_set (i := 2) nd rfl (.inl rfl) (pe_op op_add pe_int (C8.pe_c c__law_draw hr (by decide) rfl (pa_cons (pv 0) (pa_cons (pv 1) pa_nil)))))
    (pss_one (ps_ret (pe_tup (pa_cons (pv 2) (pa_cons (C8.pe_c c__law_draw hr (by decide) rfl (pa_cons (pv 0) (pa_cons (pv 2) pa_nil))) (pa_cons (pe_op op_add pe_int (C8.pe_c c__law_draw hr (by decide) rfl (pa_cons (pv 0) (pa_cons (pe_op op_fdiv (pv 1) (pv 2)) pa_nil)))) pa_nil))))))), fun i hp => ?_⟩
  obtain ⟨h1, h2⟩ := hp
  refine sv_seq (sv_asg (A := fun d => ∃ a, d = .int a ∧ 1 ≤ a ∧ a ≤ i) (ev_I0s ev_int (ev_draw rfl (ev_var rfl) (by omega) (by omega)) fun x y hx hy => ?_) fun d hd => ?_)
  · obtain ⟨n, e, h3, h4⟩ := hy
    exact ⟨_, n, hx, e, _, rfl, by omega, by omega⟩
  · obtain ⟨a, rfl, h3, h4⟩ := hd
    have h5 : 1 ≤ i / a := Int.le_ediv_of_mul_le (by omega) (by omega)
    have h6 : i / a * a ≤ i := Int.ediv_mul_le i (by omega)
    have h7 : i / a ≤ i := Int.ediv_le_self _ (by omega)
    refine sv_ret (ev_tup (Ps := fun l => ∃ b c, l = [.int a, .int b, .int c] ∧ 0 ≤ b ∧ b < a ∧ 1 ≤ c ∧ c ≤ i / a) (ed_cons (ev_var rfl) (ed_cons (ev_draw rfl (ev_var rfl) (by omega) (by omega)) (ed_cons (A := fun d => ∃ c, d = .int c ∧ 1 ≤ c ∧ c ≤ i / a) (ev_I0s ev_int (ev_draw rfl (ev_I (ev_var rfl) (ev_var rfl) ⟨by show 0 < a; omega, by show a < 1073741824; omega⟩) (by omega) (by omega)) fun x y hx hy => ?_) ed_nil (Ps := fun l => ∃ c, l = [.int c] ∧ 1 ≤ c ∧ c ≤ i / a) fun x l hx hl => ?_) (Ps := fun l => ∃ b c, l = [.int b, .int c] ∧ 0 ≤ b ∧ b < a ∧ 1 ≤ c ∧ c ≤ i / a) fun x l hx hl => ?_) fun x l hx hl => ?_) (fun l hl => ?_) fun l hl => ?_)
    · obtain ⟨n, e, h8, h9⟩ := hy
      exact ⟨_, n, hx, e, _, rfl, by omega, by omega⟩
    · obtain ⟨c, e, h8⟩ := hx
      exact ⟨c, by rw [e, hl], h8⟩
    · obtain ⟨b, e, h8, h9⟩ := hx
      obtain ⟨c, rfl, h10⟩ := hl
      exact ⟨b, c, by rw [e], h8, h9, h10⟩
    · obtain ⟨b, c, rfl, h10⟩ := hl
      exact ⟨b, c, by rw [hx], h10⟩
    · obtain ⟨b, c, rfl, h10⟩ := hl
      show 3 ≤ 100000
      decide
    · obtain ⟨b, c, rfl, h8, h9, h10, h11⟩ := hl
      refine ⟨⟨a, b, c⟩, rfl, h3, h8, h9, h10, ?_⟩
      show a * c ≤ i
      have := Int.mul_le_mul_of_nonneg_left h11 (show 0 ≤ a by omega)
      rw [Int.mul_comm a (i / a)] at this
      omega
def sp__law_letters (g : Gl) : Sp := pr g 2 (ι := Int) (fun n => [.tp, .d (.int n)]) (fun n => 0 ≤ n ∧ n ≤ 1000) (fun n r => ∃ z, r = .str z ∧ (z.length : Int) = n ∧ Lw z)
theorem cal__law_letters (hK : g.K = K) (T : Blt mg) (h : Dfd K mg "_law_letters" (topS 67)) (c__law_draw : C8.Cal P w K mg base 1 "_law_draw" (sp__law_draw g) []) : C8.Cal P w K mg base 2 "_law_letters" (sp__law_letters g) [] := by
  subst hK
  refine h.cal (k := 1) (N := ["_law_tape_here", "_law_many", "_law_some", "_law_k"]) (ps := ["_law_tape_here", "_law_many"]) (r := 2) (fun _ _ _ _ _ _ us hl => match us, hl with | [_, _], _ => rfl) (C8.fnScope_by (by decide +kernel)) rfl rfl fun f cdv A outer s H E hr => ?_
  have nd : List.Nodup (α := Str) ["_law_tape_here", "_law_many", "_law_some", "_law_k"] := by decide +kernel
  refine ⟨_, (pss_cons (ps_set (i := 2) nd rfl (.inr rfl) (pe_ix (ixL (K := g.K) rfl) (pe_lst (pa_cons pe_str (pa_cons pe_str (pa_cons pe_str (pa_cons pe_str pa_nil))))) (C8.pe_c c__law_draw hr (by decide) rfl (pa_cons (pv 0) (pa_cons pe_int pa_nil))) (fun _ _ => rfl)))
    (pss_one (ps_ret (pe_join pe_str (pe_lc (own := [("_law_k", 3)]) (g := gName 3) rfl nd (pi_range1 rfl T.range (pa_cons (pv 1) pa_nil)) (blkOk_by (own := [("_law_k", 3)]) (N := ["_law_tape_here", "_law_many", "_law_some", "_law_k"]) (sc := C8.fnScope (topS 67)) (by decide +kernel)) (fun _ _ _ _ _ => (pg_name (i := 3) nd rfl (.inl rfl))) (fun _ _ _ _ _ => pts_nil) (fun _ _ _ _ _ => (pe_ix ix_str (pv 2) (C8.pe_c c__law_draw hr (by decide) rfl (pa_cons (pv 0) (pa_cons (pe_callB call_len_str (by rfl) T.len PySem.boot_len (pa_cons (pv 2) pa_nil)) pa_nil))) (fun _ _ => rfl)))))))), fun i hp => ?_⟩
  obtain ⟨h1, h2⟩ := hp
  have ok : ∀ z : Str, (z = "ab" ∨ z = "abc" ∨ z = "az" ∨ z = "qrb") → 1 ≤ z.length ∧ z.length ≤ 3 ∧ Lw z := by
    rintro z (rfl | rfl | rfl | rfl) <;> exact ⟨by decide, by decide, by unfold Lw; decide⟩
  refine sv_seq (sv_asg (A := fun d => ∃ z : Str, d = .str z ∧ 1 ≤ z.length ∧ z.length ≤ 3 ∧ Lw z) (ev_pick (n := 4) rfl (by decide) (ed_all ev_str (fun d h => ⟨_, h, ok _ (.inl rfl)⟩) (ed_all ev_str (fun d h => ⟨_, h, ok _ (.inr (.inl rfl))⟩) (ed_all ev_str (fun d h => ⟨_, h, ok _ (.inr (.inr (.inl rfl)))⟩) (ed_all ev_str (fun d h => ⟨_, h, ok _ (.inr (.inr (.inr rfl)))⟩) ed_all0)))) (ev_draw rfl ev_int (by decide) (by decide))) fun d hd => ?_)
  obtain ⟨z, rfl, h3, h4, h5⟩ := hd
  refine sv_ret (EvS.imp (ev_joinOnes (n := i.toNat) (Q := fun c => 97 ≤ c ∧ c ≤ 122) (by omega) (EvL.imp (el_mapS (Pd := fun e => ∃ c, e = .str (one c) ∧ 97 ≤ c ∧ c ≤ 122) (ei_rng1 (n := i.toNat) (EvS.to (ev_var rfl) (by rw [Int.toNat_of_nonneg h1])) (by omega)) (by rw [List.length_map, List.length_range]; omega) (by decide) fun d hd => ev_ixSs (ev_var rfl) (ev_draw rfl (ev_lenS (ev_var rfl) (Evl.sz_of (by omega))) (by omega) (by omega)) fun x y hx hy => ?_) fun l hl => ⟨by rw [hl.1, List.length_map, List.length_range], hl.2⟩)) fun d hd => ?_)
  · obtain ⟨n, rfl, h6, h7⟩ := hy
    obtain ⟨c, hc, hm⟩ := str_at (z := z) h6 h7
    exact ⟨z, n, c, hx, rfl, Evl.sz_of (by omega), hc, c, rfl, h5 c hm⟩
  · obtain ⟨z', rfl, h6, h7⟩ := hd
    exact ⟨z', rfl, by omega, h7⟩
end
end K55
set_option maxHeartbeats 1000000
/-! The law's defs that make a carpet. -/
namespace K55
open PySem PySem.Spec PyProof.Rows L2
open Evl (Ex)
theorem et_nots {g : Gl} {tt : TT} {Γ : List C} {A B : Bool → Prop} (h : EvT g tt Γ A) (k : ∀ b, A b → B (!b)) : EvT g (tNot tt) Γ B := fun F m σ H e s Q q => h F m σ H e s _ fun c H1 k1 a => q _ H1 k1 (k c a)
theorem pe_call0c {X : Cx} {k j : Nat} {x : Str} {sp : Sp} {dvs : List V} {p pos : PySem.Pos} (c : C8.Cal X.prog X.w X.K X.mg X.base k x sp dvs) (hr : Room j X.A) (hk : k ≤ j) (hg : L2.Gl X x)
    (hdb : (x == ("__debug__" : Str)) = false := by decide) : PE X (.Call (.Name x p) [] [] pos) (tCall sp dvs E0 tNil) := by
  obtain ⟨f, fd, ps, ds, F, hm, kp, b, d⟩ := c.ex
  exact pe_call0 F (hr.mono hk) hg hm kp b d pass0 hdb
section
variable {P : Program} {w : World} {K : PySem.W.Frag} {mg : Str → Option Value} {base : Heap} {g : Gl}
def sp__law_square (g : Gl) : Sp := pr g 2 (ι := Unit) (fun _ => [.tp, .d (.int 9)]) (fun _ => True) (fun _ r => ∃ n, r = D.nt n ∧ VN 9 n)
theorem cal__law_square (hK : g.K = K) (T : Blt mg) (h : Dfd K mg "_law_square" (topS 68)) (c__law_draw : C8.Cal P w K mg base 1 "_law_draw" (sp__law_draw g) []) : C8.Cal P w K mg base 2 "_law_square" (sp__law_square g) [] := by
  subst hK
  refine h.cal (k := 1) (N := ["_law_tape_here", "_law_most", "_law_side", "_law_some", "_law_net_here"]) (ps := ["_law_tape_here", "_law_most"]) (r := 3) (fun _ _ _ _ _ _ us hl => match us, hl with | [_, _], _ => rfl) (C8.fnScope_by (by decide +kernel)) rfl rfl fun f cdv A outer s H E hr => ?_
  have nd : List.Nodup (α := Str) ["_law_tape_here", "_law_most", "_law_side", "_law_some", "_law_net_here"] := by decide +kernel
  refine ⟨_, (pss_cons (ps_set (i := 2) nd rfl (.inl rfl) (pe_op op_add pe_int (C8.pe_c c__law_draw hr (by decide) rfl (pa_cons (pv 0) (pa_cons (pe_ix (ixL (K := g.K) rfl) (pe_lst (pa_cons pe_int (pa_cons pe_int pa_nil))) (pe_callTy call_int1 (by rfl) T.int (by decide +kernel) (pa_cons (pe_cmpR op_gt (pv 1) pe_int (nomark _)) pa_nil)) (fun _ _ => rfl)) pa_nil)))))
    (pss_cons (ps_set (i := 3) nd rfl (.inl rfl) (pe_lst (pa_cons (pe_tup (pa_cons (pv 2) (pa_cons pe_int (pa_cons (pv 2) pa_nil)))) (pa_cons (pe_tup (pa_cons (pe_op op_mul pe_int (pv 2)) (pa_cons (pv 2) (pa_cons (pv 2) pa_nil)))) (pa_cons (pe_tup (pa_cons (pv 2) (pa_cons pe_int (pa_cons (pe_op op_add pe_int (C8.pe_c c__law_draw hr (by decide) rfl (pa_cons (pv 0) (pa_cons (pe_op op_fdiv (pv 1) (pv 2)) pa_nil)))) pa_nil)))) pa_nil)))))
    (pss_one (ps_ret (pe_ix (ixL (K := g.K) rfl) (pe_lc (own := [("_law_net_here", 4)]) (g := gName 4) rfl nd (piL (K := g.K) rfl (pv 3)) (blkOk_by (own := [("_law_net_here", 4)]) (N := ["_law_tape_here", "_law_most", "_law_side", "_law_some", "_law_net_here"]) (sc := C8.fnScope (topS 68)) (by decide +kernel)) (fun _ _ _ _ _ => (pg_name (i := 4) nd rfl (.inl rfl))) (fun _ _ _ _ _ => pts_one (pt_cmpR op_le (pe_op op_mul (pe_ix (ixT (K := g.K) rfl) (pv 4) pe_int (fun _ _ => rfl)) (pe_ix (ixT (K := g.K) rfl) (pv 4) pe_int (fun _ _ => rfl))) (pv 1) (nomark _))) (fun _ _ _ _ _ => (pv 4))) (C8.pe_c c__law_draw hr (by decide) rfl (pa_cons (pv 0) (pa_cons pe_int pa_nil))) (fun _ _ => rfl)))))), fun i hp => ?_⟩
  refine sv_seq (sv_asg (A := fun d => d = .int 1 ∨ d = .int 2) (ev_I0s ev_int (ev_draw rfl (EvS.to (ev_ixL (ds := [.int 2, .int 4]) (d := .int 2) (EvL.ev' (el_lst' (ed_cons' ev_int (ed_cons' ev_int ed_nil)) (by show 2 ≤ 100000; decide))) (ev_intB (b := false) (EvS.to (ev_cmp (ev_var rfl) ev_int) rfl)) rfl) rfl) (by decide) (by decide)) fun x y hx hy => ?_) fun d hd => ?_)
  · obtain ⟨n, rfl, h1, h2⟩ := hy
    have h3 : n = 0 ∨ n = 1 := by omega
    refine ⟨_, n, hx, rfl, ?_⟩
    rcases h3 with rfl | rfl
    · exact .inl rfl
    · exact .inr rfl
  · have hs : ∃ s : Int, d = .int s ∧ 1 ≤ s ∧ s ≤ 2 := by rcases hd with e | e; exact ⟨1, e, by decide, by decide⟩; exact ⟨2, e, by decide, by decide⟩
    obtain ⟨s, rfl, h1, h2⟩ := hs
    clear hd
    have h3 : 1 ≤ 9 / s ∧ 9 / s ≤ 9 := ⟨Int.le_ediv_of_mul_le (by omega) (by omega), Int.ediv_le_self _ (by decide)⟩
    have hq : ∀ c : Int, c ≤ 9 / s → s * c ≤ 9 := fun c h => by
      have h4 : 9 / s * s ≤ 9 := Int.ediv_mul_le 9 (by omega)
      have h5 := Int.mul_le_mul_of_nonneg_left h (show 0 ≤ s by omega)
      rw [Int.mul_comm s (9 / s)] at h5
      omega
    have hss : s * s ≤ 4 := by
      have : s = 1 ∨ s = 2 := by omega
      rcases this with rfl | rfl <;> decide
    refine sv_seq (sv_asgD (el_lst (Ps := fun l => ∃ c, 1 ≤ c ∧ c ≤ 9 / s ∧ l = [D.nt ⟨s, 0, s⟩, D.nt ⟨2 * s, s, s⟩, D.nt ⟨s, 0, c⟩]) (ed_cons (ev_p3 (ev_var rfl) ev_int (ev_var rfl)) (ed_cons (ev_p3 (ev_I ev_int (ev_var rfl) (.inl ⟨by decide, by decide⟩)) (ev_var rfl) (ev_var rfl)) (ed_cons (A := fun d => ∃ c, 1 ≤ c ∧ c ≤ 9 / s ∧ d = D.nt ⟨s, 0, c⟩) (ev_tup (Ps := fun l => ∃ c, 1 ≤ c ∧ c ≤ 9 / s ∧ l = [.int s, .int 0, .int c]) (ed_cons (ev_var rfl) (ed_cons ev_int (ed_cons (A := fun d => ∃ c, 1 ≤ c ∧ c ≤ 9 / s ∧ d = .int c) (ev_I0s ev_int (ev_draw rfl (ev_I (ev_var rfl) (ev_var rfl) ⟨by show 0 < s; omega, by show s < 1073741824; omega⟩) (by omega) (by omega)) fun x y hx hy => ?_) ed_nil (Ps := fun l => ∃ c, 1 ≤ c ∧ c ≤ 9 / s ∧ l = [.int c]) fun x l hx hl => ?_) (Ps := fun l => ∃ c, 1 ≤ c ∧ c ≤ 9 / s ∧ l = [.int 0, .int c]) fun x l hx hl => ?_) fun x l hx hl => ?_) (fun l hl => ?_) fun l hl => ?_) ed_nil (Ps := fun l => ∃ c, 1 ≤ c ∧ c ≤ 9 / s ∧ l = [D.nt ⟨s, 0, c⟩]) fun x l hx hl => ?_) (Ps := fun l => ∃ c, 1 ≤ c ∧ c ≤ 9 / s ∧ l = [D.nt ⟨2 * s, s, s⟩, D.nt ⟨s, 0, c⟩]) fun x l hx hl => ?_) fun x l hx hl => ?_) fun l hl => ?_) fun l hl => ?_)
    · obtain ⟨n, e, h4, h5⟩ := hy
      exact ⟨_, n, hx, e, _, by omega, by omega, rfl⟩
    · obtain ⟨c, h4, h5, rfl⟩ := hx
      exact ⟨c, h4, h5, by rw [hl]⟩
    · obtain ⟨c, h4, h5, rfl⟩ := hl
      exact ⟨c, h4, h5, by rw [hx]⟩
    · obtain ⟨c, h4, h5, rfl⟩ := hl
      exact ⟨c, h4, h5, by rw [hx]⟩
    · obtain ⟨c, h4, h5, rfl⟩ := hl
      show 3 ≤ 100000
      decide
    · obtain ⟨c, h4, h5, rfl⟩ := hl
      exact ⟨c, h4, h5, rfl⟩
    · obtain ⟨c, h4, h5, rfl⟩ := hx
      exact ⟨c, h4, h5, by rw [hl]⟩
    · obtain ⟨c, h4, h5, rfl⟩ := hl
      exact ⟨c, h4, h5, by rw [hx]⟩
    · obtain ⟨c, h4, h5, rfl⟩ := hl
      exact ⟨c, h4, h5, by rw [hx]⟩
    · obtain ⟨c, h4, h5, rfl⟩ := hl
      show 3 ≤ 100000
      decide
    · obtain ⟨c, h4, h5, rfl⟩ := hl
      have all : ∀ d ∈ [D.nt ⟨s, 0, s⟩, D.nt ⟨2 * s, s, s⟩, D.nt ⟨s, 0, c⟩], ∃ n : Nt, d = D.nt n ∧ VN 9 n := by
        intro d hd
        rcases List.mem_cons.mp hd with e | hd
        · exact ⟨_, e, ⟨h1, Int.le_refl 0, by show (0 : Int) < s; omega, h1, by show s * s ≤ 9; omega⟩⟩
        · rcases List.mem_cons.mp hd with e | hd
          · exact ⟨_, e, ⟨by show 1 ≤ 2 * s; omega, by show 0 ≤ s; omega, by show s < 2 * s; omega, h1, by show 2 * s * s ≤ 9; rw [Int.mul_assoc]; omega⟩⟩
          · exact ⟨_, List.mem_singleton.mp hd, ⟨h1, Int.le_refl 0, by show (0 : Int) < s; omega, h4, hq c h5⟩⟩
      refine sv_ret (ev_ixLs (EvL.ev (el_filter (f := id) (t := fun _ => true) (ei_list' (ev_var rfl)) (by show 3 ≤ 100000; decide) (by decide) (fun d hd => ?_) fun d hd _ => ev_var rfl)) (ev_draw rfl ev_int (by decide) (by decide)) fun x y hx hy => ?_)
      · obtain ⟨n, rfl, hv⟩ := all d hd
        have := hv.aLe
        have := hv.a1
        exact EvT.imp (et_test (ev_cmp (ev_I (ev_t0 (ev_var rfl)) (ev_t2 (ev_var rfl)) (.inl ⟨by omega, by omega⟩)) (ev_var rfl))) fun b e => e.trans (decide_eq_true hv.sz)
      · obtain ⟨l, rfl, rfl⟩ := hx
        obtain ⟨n, rfl, h6, h7⟩ := hy
        obtain ⟨d, h8, h9⟩ := lst_at (l := List.map id (List.filter (fun _ => true) [D.nt ⟨s, 0, s⟩, D.nt ⟨2 * s, s, s⟩, D.nt ⟨s, 0, c⟩])) h6 (by show n < 3; omega)
        exact ⟨_, n, d, rfl, rfl, h8, all d h9⟩
def sp__law_move (g : Gl) : Sp := pr g 2 (ι := Nt) (fun n => [.tp, .d (D.nt n)]) (fun n => VN 1000 n) (fun _ r => ∃ z p, r = .tup [.str z, D.pl p])
theorem cal__law_move (hK : g.K = K) (T : Blt mg) (h : Dfd K mg "_law_move" (topS 65)) (c__law_kinds : C8.Cal P w K mg base 1 "_law_kinds" (sp__law_kinds g) []) (c__law_keeps : C8.Cal P w K mg base 2 "_law_keeps" (sp__law_keeps g) []) (c__law_draw : C8.Cal P w K mg base 1 "_law_draw" (sp__law_draw g) []) : C8.Cal P w K mg base 3 "_law_move" (sp__law_move g) [] := by
  subst hK
  refine h.cal (k := 2) (N := ["_law_tape_here", "_law_net_here", "_law_some", "_law_kind"]) (ps := ["_law_tape_here", "_law_net_here"]) (r := 2) (fun _ _ _ _ _ _ us hl => match us, hl with | [_, _], _ => rfl) (C8.fnScope_by (by decide +kernel)) rfl rfl fun f cdv A outer s H E hr => ?_
  have nd : List.Nodup (α := Str) ["_law_tape_here", "_law_net_here", "_law_some", "_law_kind"] := by decide +kernel
  refine ⟨_, (pss_cons (ps_setLc (i := 2) (own := [("_law_kind", 3)]) (g := gName 3) rfl nd rfl rfl (sw_true rfl rfl rfl (by decide +kernel)) (piL (K := g.K) rfl (pe_call0c c__law_kinds hr (by decide) rfl)) (blkOk_by (own := [("_law_kind", 3)]) (N := ["_law_tape_here", "_law_net_here", "_law_some", "_law_kind"]) (sc := C8.fnScope (topS 65)) (by decide +kernel)) (fun _ _ _ _ _ => (pg_name (i := 3) nd rfl (.inl rfl))) (fun _ _ _ _ _ => pts_one (pt_val (C8.pe_c c__law_keeps hr (by decide) rfl (pa_cons (pv 1) (pa_cons (pv 3) pa_nil))))) (fun _ _ _ _ _ => (pv 3)))
    (pss_one (ps_ret (pe_tup (pa_cons (pe_ix (ixL (K := g.K) rfl) (pv 2) (C8.pe_c c__law_draw hr (by decide) rfl (pa_cons (pv 0) (pa_cons (pe_callB (lenK (K := g.K) rfl) (by rfl) T.len PySem.boot_len (pa_cons (pv 2) pa_nil)) pa_nil))) (fun _ _ => rfl)) (pa_cons (pe_tup (pa_cons (pe_op op_sub (C8.pe_c c__law_draw hr (by decide) rfl (pa_cons (pv 0) (pa_cons pe_int pa_nil))) pe_int) (pa_cons (pe_op op_sub (C8.pe_c c__law_draw hr (by decide) rfl (pa_cons (pv 0) (pa_cons pe_int pa_nil))) pe_int) pa_nil))) pa_nil)))))), fun i hp => ?_⟩
  refine sv_seq (sv_asgD (el_lc (vs := [3]) (P := (· = kinds.map D.str)) (ei_list' (ev_callI () ea_nil trivial)) (fun _ e => by rw [e]; decide) (fun ds i acc => ∃ zs : List Str, acc = zs.map D.str ∧ zs.length ≤ i ∧ (0 < i → zs ≠ [])) (fun _ _ => ⟨[], rfl, Nat.le_refl _, fun h => absurd h (Nat.lt_irrefl _)⟩) fun ds j d acc e hd ha => ?_) fun l hl => ?_)
  · subst e
    obtain ⟨zs, rfl, h1, h2⟩ := ha
    obtain ⟨z, hz, rfl⟩ := List.mem_map.mp (List.mem_of_getElem? hd)
    have h0 : j = 0 → z = "none" := fun e => by
      subst e
      have h3 : some (D.str "none") = some (D.str z) := hd
      cases h3
      rfl
    refine ⟨[3], _, fun i h => h, eg_name, _, et_Bs (ev_callI (i, z) (ea_cons' (ev_var rfl) (ea_cons' (ev_var rfl) ea_nil)) hp) (fun x ⟨b, e, h⟩ => ⟨b, e, h⟩), fun _ => (ev_var rfl).imp fun e he => ⟨zs ++ [z], by rw [he, List.map_append]; rfl, by rw [List.length_append]; show _ + 1 ≤ _; omega, fun _ => by simp⟩, fun h => ⟨zs, rfl, by omega, fun _ => ?_⟩⟩
    by_cases hj : j = 0
    · have := h (h0 hj)
      cases this
    · exact h2 (by omega)
  · obtain ⟨ds, rfl, zs, rfl, h1, h2⟩ := hl
    have h3 : zs ≠ [] := h2 (by decide)
    have h4 : 0 < zs.length := List.length_pos_iff.mpr h3
    have h5 : zs.length ≤ 8 := h1
    have dr : ∀ {Γ : List C}, Γ[0]? = some .tp → EvS g (tOp (rI0 fun i j => .int (i - j)) (tCall (sp__law_draw g) [] C8.E0 (tCons (tVar 0) (tCons (tC (.int 5)) tNil))) (tC (.int 2))) Γ IsI := fun h => ev_I0s (ev_draw h ev_int (by decide) (by decide)) ev_int fun x y hx hy => ⟨_, _, hx.choose_spec.1, hy, _, rfl⟩
    refine sv_ret (ev_tup (Ps := fun l => ∃ z p, D.tup l = .tup [.str z, D.pl p]) (ed_cons (A := fun d => ∃ z, d = .str z) (ev_ixLs (ev_var rfl) (ev_draw rfl (ev_lenL (ev_var rfl)) (by rw [List.length_map]; omega) (by rw [List.length_map]; omega)) fun x y hx hy => ?_) (ed_cons (A := fun d => ∃ p, d = D.pl p) (ev_tup (Ps := fun l => ∃ p, D.tup l = D.pl p) (ed_cons (dr rfl) (ed_cons (dr rfl) ed_nil (Ps := fun l => ∃ n, l = [D.int n]) fun x l hx hl => by obtain ⟨n, rfl⟩ := hx; exact ⟨n, by rw [hl]⟩) fun x l hx hl => ?_) (fun l hl => ?_) fun l hl => hl) ed_nil (Ps := fun l => ∃ p, l = [D.pl p]) fun x l hx hl => by obtain ⟨n, rfl⟩ := hx; exact ⟨n, by rw [hl]⟩) fun x l hx hl => ?_) (fun l hl => ?_) fun l hl => hl)
    · obtain ⟨n, rfl, h6, h7⟩ := hy
      obtain ⟨d, h8, h9⟩ := lst_at (l := zs.map D.str) h6 h7
      obtain ⟨z, _, rfl⟩ := List.mem_map.mp h9
      exact ⟨_, n, _, hx, rfl, h8, z, rfl⟩
    · obtain ⟨n, rfl⟩ := hx
      obtain ⟨k, rfl⟩ := hl
      exact ⟨(n, k), rfl⟩
    · obtain ⟨p, hp⟩ := hl
      cases hp
      show 2 ≤ 100000
      decide
    · obtain ⟨z, rfl⟩ := hx
      obtain ⟨p, rfl⟩ := hl
      exact ⟨z, p, rfl⟩
    · obtain ⟨z, p, hp⟩ := hl
      cases hp
      show 2 ≤ 100000
      decide
def sp__law_is_kept (g : Gl) : Sp := pr g 3 (ι := Nt × Str × (Str × (Int × Int))) (fun i => [.d (D.nt i.1), .d (.str i.2.1), .d (.tup [.str i.2.2.1, D.pl i.2.2.2])]) (fun i => VN 1000 i.1 ∧ (i.2.1.length : Int) = i.1.a * i.1.c) (fun i r => ∃ b, r = .bl b)
theorem cal__law_is_kept (hK : g.K = K) (T : Blt mg) (h : Dfd K mg "_law_is_kept" (topS 73)) (c__law_spots : C8.Cal P w K mg base 1 "_law_spots" (sp__law_spots g) []) (c__law_keeps : C8.Cal P w K mg base 2 "_law_keeps" (sp__law_keeps g) []) (c__law_seen : C8.Cal P w K mg base 2 "_law_seen" (sp__law_seen g) []) (c__law_carried : C8.Cal P w K mg base 2 "_law_carried" (sp__law_carried g) []) : C8.Cal P w K mg base 3 "_law_is_kept" (sp__law_is_kept g) [] := by
  subst hK
  refine h.cal (k := 2) (N := ["_law_net_here", "_law_text", "_law_move_here", "_law_spot"]) (ps := ["_law_net_here", "_law_text", "_law_move_here"]) (r := 1) (fun _ _ _ _ _ _ us hl => match us, hl with | [_, _, _], _ => rfl) (C8.fnScope_by (by decide +kernel)) rfl rfl fun f cdv A outer s H E hr => ?_
  have nd : List.Nodup (α := Str) ["_law_net_here", "_law_text", "_law_move_here", "_law_spot"] := by decide +kernel
  refine ⟨_, (pss_cons (ps_if (pt_not (pt_val (C8.pe_c c__law_keeps hr (by decide) rfl (pa_cons (pv 0) (pa_cons (pe_ix (ixT (K := g.K) rfl) (pv 2) pe_int (fun _ _ => rfl)) pa_nil)))))
      (pss_one (ps_ret pe_bl))
      pss_nil)
    (pss_cons (ps_for PassesOwn.never rfl (piL (K := g.K) rfl (C8.pe_c c__law_spots hr (by decide) rfl (pa_cons (pv 0) pa_nil))) (pg_name (i := 3) nd rfl (.inl rfl))
      (pss_one (ps_if (pt_cmpR op_ne (C8.pe_c c__law_seen hr (by decide) rfl (pa_cons (pv 0) (pa_cons (pv 1) (pa_cons (C8.pe_c c__law_carried hr (by decide) rfl (pa_cons (pv 2) (pa_cons (pv 3) pa_nil))) pa_nil)))) (C8.pe_c c__law_seen hr (by decide) rfl (pa_cons (pv 0) (pa_cons (pv 1) (pa_cons (pv 3) pa_nil)))) (nomark _))
          (pss_one (ps_ret pe_bl))
          pss_nil)))
    (pss_one (ps_ret pe_bl)))), fun i hp => ?_⟩
  obtain ⟨n, z, k, p⟩ := i
  refine sv_seq (sv_if (B := fun _ => True) (et_nots (A := fun _ => True) (et_Bs (ev_callI (n, k) (ea_cons' (ev_var rfl) (ea_cons' (ev_t0 (ev_var rfl)) ea_nil)) hp.1) fun x hx => ⟨hx.choose, hx.choose_spec.1, trivial⟩) fun _ _ => trivial) (fun _ => sv_ret (ev_bl.imp fun d e => ⟨_, e⟩)) fun _ => sv_next ?_)
  refine sv_seq (sv_forN (ei_list' (ev_callI n (ea_cons' (ev_var rfl) ea_nil) hp.1)) (fun _ Γ => ∃ x, Γ = [.d (D.nt n), .d (.str z), .d (.tup [.str k, D.pl p]), x]) ⟨_, rfl⟩ (fun i d Γ' hd hj => ?_) fun Γ' hj => ?_)
  · obtain ⟨x, rfl⟩ := hj
    obtain ⟨q, hq, rfl⟩ := List.mem_map.mp (List.mem_of_getElem? hd)
    refine sv_if (B := fun _ => True) (et_tests (A := fun d => ∃ b, d = .bl b) (ev_op (A := fun d => ∃ c, d = .str (one c)) (B := fun d => ∃ c, d = .str (one c)) (ev_call (As := fun cs => ∃ q : Int × Int, cs = [.d (D.nt n), .d (.str z), .d (D.pl q)]) (ea_cons (ev_var rfl) (ea_cons (ev_var rfl) (ea_cons (ev_callI ((k, p), q) (ea_cons' (ev_var rfl) (ea_cons' (ev_var rfl) ea_nil)) trivial) ea_nil (Ps := fun cs => ∃ q : Int × Int, cs = [.d (D.pl q)]) fun x l hx hl => by obtain ⟨q, rfl⟩ := hx; exact ⟨q, by rw [hl]⟩) (Ps := fun cs => ∃ q : Int × Int, cs = [.d (.str z), .d (D.pl q)]) fun x l hx hl => by obtain ⟨q, rfl⟩ := hl; exact ⟨q, by rw [hx]⟩) fun x l hx hl => by obtain ⟨q, rfl⟩ := hl; exact ⟨q, by rw [hx]⟩) fun cs hc => ?_) (EvS.imp (ev_callI (n, z, q) (ea_cons' (ev_var rfl) (ea_cons' (ev_var rfl) (ea_cons' (ev_var rfl) ea_nil))) hp) fun d ⟨c, e, _⟩ => ⟨c, e⟩) fun x y hx hy => ?_) fun x ⟨b, e⟩ => ⟨b, e, trivial⟩) (fun _ => sv_ret (ev_bl.imp fun d e => ⟨_, e⟩)) fun _ => sv_next ⟨_, rfl⟩
    · obtain ⟨q', rfl⟩ := hc
      exact ⟨(n, z, q'), rfl, rfl, hp, fun d ⟨c, e, _⟩ => ⟨c, e⟩⟩
    · obtain ⟨c1, rfl⟩ := hx
      obtain ⟨c2, rfl⟩ := hy
      intro m H v u r1 r2 Q q
      cases r1; cases r2
      exact ⟨rfl, q _ _ ⟨_, rfl⟩ (.bl _)⟩
  · obtain ⟨x, rfl⟩ := hj
    exact sv_ret (ev_bl.imp fun d e => ⟨_, e⟩)
end
end K55
set_option maxHeartbeats 1000000
/-! The law's defs that make a carpet, further. -/
namespace K55
open PySem PySem.Spec PyProof.Rows L2
open Evl (Ex)
theorem putP_new {kvs : Kvs} {p : Int × Int} {d : D} (h : hasP kvs p = false) : putP kvs p d = kvs ++ [(p, d)] := by
  unfold putP
  rw [h]
  rfl
theorem hasP_app {kvs : Kvs} {p q : Int × Int} {d : D} : hasP (kvs ++ [(p, d)]) q = (hasP kvs q || decide (p = q)) := by
  unfold hasP
  rw [List.any_append]
  simp
theorem hasP_iff {kvs : Kvs} {p : Int × Int} : hasP kvs p = true ↔ p ∈ kvs.map (·.1) := by
  unfold hasP
  rw [List.any_eq_true, List.mem_map]
  constructor
  · rintro ⟨e, h1, h2⟩; exact ⟨e, h1, of_decide_eq_true h2⟩
  · rintro ⟨e, h1, h2⟩; exact ⟨e, h1, decide_eq_true h2⟩
theorem getP_mem {kvs : Kvs} {p : Int × Int} (h : hasP kvs p = true) : ∃ d, getP kvs p = some d ∧ (p, d) ∈ kvs := by
  have h2 : (getP kvs p).isSome = true := by rw [getP_isSome]; exact h
  obtain ⟨d, hd⟩ := Option.isSome_iff_exists.mp h2
  refine ⟨d, hd, ?_⟩
  unfold getP at hd
  cases q : kvs.find? (fun e => decide (e.1 = p)) with
  | none => rw [q] at hd; cases hd
  | some e =>
    rw [q] at hd
    have h3 := List.find?_some q
    have h4 := List.mem_of_find?_eq_some q
    cases hd
    have h5 : e.1 = p := of_decide_eq_true h3
    rw [← h5]
    exact h4
section
variable {P : Program} {w : World} {K : PySem.W.Frag} {mg : Str → Option Value} {base : Heap} {g : Gl}
def sp__law_net_of (g : Gl) : Sp := pr g 1 (ι := Nt × List (Int × Int)) (fun i => [.d (.lst (((i.1.a, 0) :: (i.1.b, i.1.c) :: i.2).map D.pl))]) (fun i => VN 1000 i.1 ∧ ∀ p ∈ i.2, InC i.1.a i.1.c p) (fun i r => ∃ n, r = D.nt n ∧ 1 ≤ n.a ∧ n.a ≤ i.1.a ∧ 0 ≤ n.b ∧ n.b < n.a ∧ 1 ≤ n.c ∧ n.c ≤ i.1.c)
theorem cal__law_net_of (hK : g.K = K) (T : Blt mg) (h : Dfd K mg "_law_net_of" (topS 63)) (c__law_divisor : C8.Cal P w K mg base 1 "_law_divisor" (sp__law_divisor g) []) : C8.Cal P w K mg base 2 "_law_net_of" (sp__law_net_of g) [] := by
  subst hK
  refine h.cal (k := 1) (N := ["_law_shifts", "_law_wide", "_law_low_here", "_law_one", "_law_far", "_law_times"]) (ps := ["_law_shifts"]) (r := 5) (fun _ _ _ _ _ _ us hl => match us, hl with | [_], _ => rfl) (C8.fnScope_by (by decide +kernel)) rfl rfl fun f cdv A outer s H E hr => ?_
  have nd : List.Nodup (α := Str) ["_law_shifts", "_law_wide", "_law_low_here", "_law_one", "_law_far", "_law_times"] := by decide +kernel
  refine ⟨_, (pss_cons (ps_asg (pe_tup (pa_cons pe_int (pa_cons (pe_tup (pa_cons pe_int (pa_cons pe_int pa_nil))) pa_nil))) (pgT (K := g.K) rfl (by rfl) (pgs_cons (pg_name (i := 1) nd rfl (.inl rfl)) (pgs_cons (pg_name (i := 2) nd rfl (.inl rfl)) pgs_nil))))
    (pss_cons (ps_for PassesOwn.never rfl (piL (K := g.K) rfl (pv 0)) (pg_name (i := 3) nd rfl (.inl rfl))
      (pss_cons (ps_set (i := 4) nd rfl (.inl rfl) (pv 3))
        (pss_cons (ps_while PassesOwn.never (pt_cmpR op_ne (pe_ix (ixT (K := g.K) rfl) (pv 4) pe_int (fun _ _ => rfl)) pe_int (nomark _))
          (pss_cons (ps_set (i := 5) nd rfl (.inl rfl) (pe_op op_fdiv (pe_ix (ixT (K := g.K) rfl) (pv 2) pe_int (fun _ _ => rfl)) (pe_ix (ixT (K := g.K) rfl) (pv 4) pe_int (fun _ _ => rfl))))
            (pss_one (ps_par (i := 2) (j := 4) (by rfl) nd rfl rfl (by decide) rfl rfl (pa_cons (pv 4) (pa_cons (pe_tup (pa_cons (pe_op op_sub (pe_ix (ixT (K := g.K) rfl) (pv 2) pe_int (fun _ _ => rfl)) (pe_op op_mul (pv 5) (pe_ix (ixT (K := g.K) rfl) (pv 4) pe_int (fun _ _ => rfl)))) (pa_cons (pe_op op_sub (pe_ix (ixT (K := g.K) rfl) (pv 2) pe_int (fun _ _ => rfl)) (pe_op op_mul (pv 5) (pe_ix (ixT (K := g.K) rfl) (pv 4) pe_int (fun _ _ => rfl)))) pa_nil))) pa_nil)) (by rfl)))))
        (pss_one (ps_set (i := 1) nd rfl (.inl rfl) (C8.pe_c c__law_divisor hr (by decide) rfl (pa_cons (pv 1) (pa_cons (pe_ix (ixT (K := g.K) rfl) (pv 4) pe_int (fun _ _ => rfl)) pa_nil))))))))
    (pss_cons (ps_if (PW.pt (pw_or (pt_cmpR op_eq (pv 1) pe_int (nomark _)) (pw_or1 (pt_cmpR op_eq (pe_ix (ixT (K := g.K) rfl) (pv 2) pe_int (fun _ _ => rfl)) pe_int (nomark _)))))
      (pss_one (ps_ret pe_non))
      pss_nil)
    (pss_one (ps_ret (pe_tup (pa_cons (pv 1) (pa_cons (pe_op op_mod (pe_op op_mul (pe_ix (ixT (K := g.K) rfl) (pv 2) pe_int (fun _ _ => rfl)) (pe_ix (ixL (K := g.K) rfl) (pe_lst (pa_cons pe_int (pa_cons (pe_un un_neg pe_int) pa_nil))) (pe_callTy call_int1 (by rfl) T.int (by decide +kernel) (pa_cons (pe_cmpR op_lt (pe_ix (ixT (K := g.K) rfl) (pv 2) pe_int (fun _ _ => rfl)) pe_int (nomark _)) pa_nil)) (fun _ _ => rfl))) (pv 1)) (pa_cons (pe_callB call_abs (by rfl) T.abs (by decide +kernel) (pa_cons (pe_ix (ixT (K := g.K) rfl) (pv 2) pe_int (fun _ _ => rfl)) pa_nil)) pa_nil))))))))), fun i hp => ?_⟩
  obtain ⟨⟨a, b, c⟩, ps⟩ := i
  obtain ⟨hv, hps⟩ := hp
  have ca := hv.aLe
  have cl := hv.cLe
  have a1 := hv.a1
  have c1 := hv.c1
  dsimp only at ca cl a1 c1 hps
  refine sv_seq (sv_asg2 (ev_p2 ev_int (ev_p2 ev_int ev_int)) fun d e => ⟨_, _, e, ?_⟩)
  refine sv_seq (sv_forN (ei_list' (ev_var rfl)) (fun j Γ => ∃ (wd : Int) (lo : Int × Int) (x y z : C), Γ = [.d (.lst (((a, 0) :: (b, c) :: ps).map D.pl)), .d (.int wd), .d (D.pl lo), x, y, z] ∧ 0 ≤ wd ∧ wd ≤ a ∧ 0 ≤ lo.2 ∧ lo.2 ≤ c ∧ (1 ≤ j → 1 ≤ wd) ∧ (2 ≤ j → 1 ≤ lo.2) ∧ (j ≤ 1 → lo = (0, 0)) ∧ (j = 0 → wd = 0)) ⟨0, (0, 0), _, _, _, rfl, by omega, by omega, by decide, by show (0 : Int) ≤ c; omega, by omega, by omega, fun _ => rfl, fun _ => rfl⟩ (fun j d Γ' hd hj => ?_) fun Γ' hj => ?_)
  · obtain ⟨wd, lo, x, y, z, rfl, w0, wa, l0, lc, w1, l1, z1, z0⟩ := hj
    have hq : ∃ q : Int × Int, d = D.pl q ∧ 0 ≤ q.2 ∧ q.2 ≤ c ∧ (j = 0 → q = (a, 0)) ∧ (j = 1 → q = (b, c)) := by
      rw [List.getElem?_map] at hd
      match j, hd with
      | 0, hd => cases hd; exact ⟨_, rfl, Int.le_refl 0, by show (0 : Int) ≤ c; omega, fun _ => rfl, fun h => by omega⟩
      | 1, hd => cases hd; exact ⟨_, rfl, by show (0 : Int) ≤ c; omega, Int.le_refl c, fun h => by omega, fun _ => rfl⟩
      | j + 2, hd =>
        have hd : Option.map D.pl ps[j]? = some d := hd
        cases hps' : ps[j]? with
        | none => rw [hps'] at hd; cases hd
        | some q =>
          rw [hps'] at hd
          cases hd
          obtain ⟨h1, h2, h3, h4⟩ := hps q (List.mem_of_getElem? hps')
          exact ⟨q, rfl, h3, by omega, fun h => by omega, fun h => by omega⟩
    obtain ⟨q, rfl, q0, qc, qa, qb⟩ := hq
    refine sv_seq (sv_asg (ev_var rfl) fun d e => ?_)
    subst e
    refine sv_seq (sv_while (fun n Γ => ∃ (lo far : Int × Int) (z : C), n = far.2.toNat ∧ Γ = [.d (.lst (((a, 0) :: (b, c) :: ps).map D.pl)), .d (.int wd), .d (D.pl lo), .d (D.pl q), .d (D.pl far), z] ∧ 0 ≤ lo.2 ∧ lo.2 ≤ c ∧ 0 ≤ far.2 ∧ far.2 ≤ c ∧ (1 ≤ j → 1 ≤ lo.2 ∨ 1 ≤ far.2) ∧ (j = 0 → lo = (0, 0) ∧ far = (a, 0))) _ ⟨lo, q, z, rfl, rfl, l0, lc, q0, qc, fun h => ?_, fun h => ⟨z1 (by omega), qa h⟩⟩ fun n Γ' hw => ?_)
    · by_cases h2 : j = 1
      · exact .inr (by rw [qb h2]; exact c1)
      · exact .inl (l1 (by omega))
    · obtain ⟨lo, far, z, rfl, rfl, l0, lc, f0, fc, hpos, hz⟩ := hw
      refine ⟨_, et_test (ev_neI (ev_t1 (ev_var rfl)) ev_int), fun h => ?_, fun h => ?_⟩
      · have hf : 0 < far.2 := by
          have : ¬ far.2 = 0 := fun e => by rw [e] at h; cases h
          omega
        have hj0 : j ≠ 0 := fun e => by rw [(hz e).2] at hf; exact absurd hf (Int.lt_irrefl 0)
        refine sv_seq (sv_asg (ev_I (ev_t1 (ev_var rfl)) (ev_t1 (ev_var rfl)) ⟨hf, by show far.2 < 1073741824; omega⟩) fun d e => ?_)
        subst e
        have t0 : 0 ≤ lo.2 / far.2 := Int.ediv_nonneg l0 f0
        have t1 : lo.2 / far.2 ≤ lo.2 := Int.ediv_le_self _ l0
        have hmod : lo.2 - lo.2 / far.2 * far.2 = lo.2 % far.2 := by rw [Int.emod_def, Int.mul_comm]
        have m0 := Int.emod_nonneg lo.2 (show far.2 ≠ 0 by omega)
        have m1 := Int.emod_lt_of_pos lo.2 hf
        refine sv_par' (ev_var rfl) (ev_p2 (ev_sub (ev_t0 (ev_var rfl)) (ev_I (ev_var rfl) (ev_t0 (ev_var rfl)) (.inl ⟨by omega, by omega⟩))) (ev_sub (ev_t1 (ev_var rfl)) (ev_I (ev_var rfl) (ev_t1 (ev_var rfl)) (.inl ⟨by omega, by omega⟩)))) ⟨_, ?_, far, (lo.1 - lo.2 / far.2 * far.1, lo.2 - lo.2 / far.2 * far.2), _, rfl, rfl, f0, fc, ?_, ?_, fun _ => .inl (by omega), fun e => absurd e hj0⟩
        · show (lo.2 - lo.2 / far.2 * far.2).toNat < far.2.toNat
          rw [hmod]; omega
        · show 0 ≤ lo.2 - lo.2 / far.2 * far.2
          rw [hmod]; omega
        · show lo.2 - lo.2 / far.2 * far.2 ≤ c
          rw [hmod]; omega
      · have hf : far.2 = 0 := Classical.byContradiction fun e => by simp [e] at h
        refine sv_asg (ev_callI (wd, far.1) (ea_cons' (ev_var rfl) (ea_cons' (ev_t0 (ev_var rfl)) ea_nil)) trivial) fun d e => ?_
        subst e
        refine ⟨Int.gcd wd far.1, lo, _, _, _, rfl, by omega, ?_, l0, lc, fun _ => ?_, fun h2 => ?_, fun h2 => ?_, fun h2 => by omega⟩
        · by_cases hj0 : j = 0
          · rw [z0 hj0, (hz hj0).2, Int.gcd_zero_left]
            show ((a.natAbs : Nat) : Int) ≤ a
            omega
          · have h5 := Int.gcd_le_left far.1 (show 0 < wd by have := w1 (by omega); omega)
            omega
        · by_cases hj0 : j = 0
          · rw [z0 hj0, (hz hj0).2, Int.gcd_zero_left]
            show (1 : Int) ≤ (a.natAbs : Nat)
            omega
          · have h5 := Int.gcd_pos_of_ne_zero_left far.1 (show wd ≠ 0 by have := w1 (by omega); omega)
            omega
        · rcases hpos (by omega) with h3 | h3
          · exact h3
          · omega
        · exact (hz (by omega)).1
  · obtain ⟨wd, lo, x, y, z, rfl, w0, wa, l0, lc, w1, l1, z1, z0⟩ := hj
    have w1 : 1 ≤ wd := w1 (by rw [List.length_map]; simp)
    have l1 : 1 ≤ lo.2 := l1 (by rw [List.length_map]; simp)
    refine sv_seq (sv_if (et_or (et_test (ev_eqI (ev_var rfl) ev_int)) fun _ => et_test (ev_eqI (ev_t1 (ev_var rfl)) ev_int)) (fun h => ?_) fun _ => sv_next ?_)
    · rw [decide_eq_false (by omega), decide_eq_false (by omega)] at h
      cases h
    · have hb : decide (lo.2 < 0) = false := decide_eq_false (by omega)
      refine sv_ret ((ev_p3 (ev_var rfl) (ev_I (i := lo.1 * 1) (ev_I (ev_t0 (ev_var rfl)) (ev_ixL (ds := [.int 1, .int (-1)]) (k := 0) (EvL.ev' (el_lst' (ed_cons' ev_int (ed_cons' (ev_un ev_int) ed_nil)) (by show 2 ≤ 100000; decide))) (EvS.to (ev_intB (ev_cmp (ev_t1 (ev_var rfl)) ev_int)) (by rw [hb]; rfl)) rfl) (.inr ⟨by decide, by decide⟩)) (ev_var rfl) (by show 0 < wd; omega)) (ev_abs (ev_t1 (ev_var rfl)))).imp fun d e => ?_)
      have m0 := Int.emod_nonneg (lo.1 * 1) (show wd ≠ 0 by omega)
      have m1 := Int.emod_lt_of_pos (lo.1 * 1) (show 0 < wd by omega)
      refine ⟨⟨wd, lo.1 * 1 % wd, lo.2⟩, ?_, w1, wa, m0, m1, l1, lc⟩
      rw [e, if_neg (by omega)]
end
end K55
set_option maxHeartbeats 1000000
/-! The law's carpet, to its end. -/
namespace K55
open PySem PySem.Spec PyProof.Rows L2
open Evl (Ex)
abbrev Mv := Str × (Int × Int)
abbrev D.mv (m : Mv) : D := .tup [.str m.1, D.pl m.2]
/-- what is found so far -/
structure Tied (n : Nt) (z : Str) (kvs : Kvs) : Prop where
  nd : (kvs.map (·.1)).Nodup
  inc : ∀ e ∈ kvs, InC n.a n.c e.1 ∧ ∃ c, e.2 = .str (one c) ∧ c ∈ z.cps.toList
theorem Tied.le {n : Nt} {z : Str} {kvs : Kvs} (h : Tied n z kvs) (hv : VN 9 n) : kvs.length ≤ 9 := by
  have h1 := nodup_le (k := spots n.a n.c) h.nd fun p hp => by
    obtain ⟨e, he, rfl⟩ := List.mem_map.mp hp
    exact (mem_spots hv.a1 hv.c1).mpr (h.inc e he).1
  rw [List.length_map, spots_len] at h1
  have := hv.sz
  omega
theorem Tied.put {n : Nt} {z : Str} {kvs : Kvs} (h : Tied n z kvs) {p : Int × Int} {c : Nat} (hp : hasP kvs p = false) (hi : InC n.a n.c p) (hc : c ∈ z.cps.toList) : Tied n z (kvs ++ [(p, .str (one c))]) := by
  refine ⟨?_, fun e he => ?_⟩
  · rw [List.map_append]
    refine List.nodup_append.mpr ⟨h.nd, by simp, fun a ha b hb => ?_⟩
    rw [List.mem_singleton.mp (show b ∈ [p] from hb)]
    intro e
    rw [e] at ha
    rw [hasP_iff.mpr ha] at hp
    cases hp
  · rcases List.mem_append.mp he with h1 | h1
    · exact h.inc e h1
    · rw [List.mem_singleton.mp h1]
      exact ⟨hi, c, rfl, hc⟩
section
variable {P : Program} {w : World} {K : PySem.W.Frag} {mg : Str → Option Value} {base : Heap} {g : Gl}
def sp__law_tied (g : Gl) : Sp := pr g 3 (ι := Nt × Str × List Mv) (fun i => [.d (D.nt i.1), .d (.str i.2.1), .d (.lst (i.2.2.map D.mv))]) (fun i => VN 9 i.1 ∧ VT i.1 i.2.1 ∧ i.2.2.length ≤ 10) (fun i r => ∃ z, r = .str z ∧ VT i.1 z)
theorem cal__law_tied (hK : g.K = K) (T : Blt mg) (h : Dfd K mg "_law_tied" (topS 66)) (c__law_spots : C8.Cal P w K mg base 1 "_law_spots" (sp__law_spots g) []) (c__law_low : C8.Cal P w K mg base 1 "_law_low" (sp__law_low g) []) (c__law_carried : C8.Cal P w K mg base 2 "_law_carried" (sp__law_carried g) []) : C8.Cal P w K mg base 3 "_law_tied" (sp__law_tied g) [] := by
  subst hK
  refine h.cal (k := 2) (N := ["_law_net_here", "_law_text", "_law_moves", "_law_spots_here", "_law_found", "_law_spot", "_law_line", "_law_here", "_law_move_here"]) (ps := ["_law_net_here", "_law_text", "_law_moves"]) (r := 6) (fun _ _ _ _ _ _ us hl => match us, hl with | [_, _, _], _ => rfl) (C8.fnScope_by (by decide +kernel)) rfl rfl fun f cdv A outer s H E hr => ?_
  have nd : List.Nodup (α := Str) ["_law_net_here", "_law_text", "_law_moves", "_law_spots_here", "_law_found", "_law_spot", "_law_line", "_law_here", "_law_move_here"] := by decide +kernel
  refine ⟨_, (pss_cons (ps_set (i := 3) nd rfl (.inl rfl) (C8.pe_c c__law_spots hr (by decide) rfl (pa_cons (pv 0) pa_nil)))
    (pss_cons (ps_set (i := 4) nd rfl (.inr rfl) pe_dnewT)
    (pss_cons (ps_for PassesOwn.never rfl (piL (K := g.K) rfl (pv 3)) (pg_name (i := 5) nd rfl (.inl rfl))
      (pss_cons (ps_set (i := 6) nd rfl (.inl rfl) (pe_lst (pa_cons (pv 5) pa_nil)))
        (pss_one (ps_while PassesOwn.never (pt_cmpR (neD (K := g.K) rfl hr.units) (pv 6) (pe_lst pa_nil) (nomark _))
          (pss_cons (ps_set (i := 7) nd rfl (.inr rfl) (pe_bm0 PySem.F.plainAttrs_list PySem.F.slot_list_pop PySem.F.type_list_pop mt_pop (pv 6)))
            (pss_one (ps_if (pt_cmp (pc_dnotin (hu_of hr) (pv 7) (pv 4)))
              (pss_cons (ps_dput (hu_of hr) (pv 4) (pv 7) (pe_ix ix_str (pv 1) (pe_bm PySem.F.plainAttrs_list PySem.F.slot_list_index PySem.F.type_list_index (mt_indexD (hu65_of hr)) (pv 3) (pa_cons (pv 5) pa_nil)) (fun _ _ => rfl)) rfl)
                (pss_one (ps_set (i := 6) nd rfl (.inl rfl) (pe_op op_cat (pv 6) (pe_lc (own := [("_law_move_here", 8)]) (g := gName 8) rfl nd (piL (K := g.K) rfl (pv 2)) (blkOk_by (own := [("_law_move_here", 8)]) (N := ["_law_net_here", "_law_text", "_law_moves", "_law_spots_here", "_law_found", "_law_spot", "_law_line", "_law_here", "_law_move_here"]) (sc := C8.fnScope (topS 66)) (by decide +kernel)) (fun _ _ _ _ _ => (pg_name (i := 8) nd rfl (.inl rfl))) (fun _ _ _ _ _ => pts_nil) (fun _ _ _ _ _ => (C8.pe_c c__law_low hr (by decide) rfl (pa_cons (pv 0) (pa_cons (C8.pe_c c__law_carried hr (by decide) rfl (pa_cons (pv 8) (pa_cons (pv 7) pa_nil))) pa_nil)))))))))
              pss_nil)))))))
    (pss_one (ps_ret (pe_join pe_str (pe_lc (own := [("_law_spot", 5)]) (g := gName 5) rfl nd (piL (K := g.K) rfl (pv 3)) (blkOk_by (own := [("_law_spot", 5)]) (N := ["_law_net_here", "_law_text", "_law_moves", "_law_spots_here", "_law_found", "_law_spot", "_law_line", "_law_here", "_law_move_here"]) (sc := C8.fnScope (topS 66)) (by decide +kernel)) (fun _ _ _ _ _ => (pg_name (i := 5) nd rfl (.inl rfl))) (fun _ _ _ _ _ => pts_nil) (fun _ _ _ _ _ => (pe_dget (hu_of hr) (pv 4) (pv 5) (fun _ _ => rfl)))))))))), fun i hp => ?_⟩
  obtain ⟨n, z, ms⟩ := i
  obtain ⟨hv, ht, hm⟩ := hp
  dsimp only at hv ht hm
  have hv2 := hv.mono (show (9 : Int) ≤ 1000 by decide)
  have hsz := hv.sz
  have hzl := ht.len
  refine sv_seq (sv_asg (ev_callI n (ea_cons' (ev_var rfl) ea_nil) hv2) fun d e => ?_)
  subst e
  refine sv_seq (sv_asgM ?_)
  refine sv_seq (sv_forN (ei_list' (ev_var rfl)) (fun j Γ => ∃ kvs x5 x6 x7, Γ = [.d (D.nt n), .d (.str z), .d (.lst (ms.map D.mv)), .d (.lst ((spots n.a n.c).map D.pl)), .md kvs, x5, x6, x7, .un] ∧ Tied n z kvs ∧ ∀ k p, k < j → (spots n.a n.c)[k]? = some p → hasP kvs p = true) ⟨[], _, _, _, rfl, ⟨List.nodup_nil, fun _ h => by cases h⟩, fun k p h => absurd h (Nat.not_lt_zero k)⟩ (fun j d Γ' hd hj => ?_) fun Γ' hj => ?_)
  · obtain ⟨kvs, x5, x6, x7, rfl, hT, hk⟩ := hj
    have hq : ∃ q, d = D.pl q ∧ (spots n.a n.c)[j]? = some q := by
      rw [List.getElem?_map] at hd
      cases h : (spots n.a n.c)[j]? with
      | none => rw [h] at hd; cases hd
      | some q => rw [h] at hd; cases hd; exact ⟨q, rfl, rfl⟩
    obtain ⟨q, rfl, hq⟩ := hq
    have hqm := List.mem_of_getElem? hq
    have hqi := (mem_spots hv.a1 hv.c1).mp hqm
    refine sv_seq (sv_asgL (el_lst' (ed_cons' (ev_var rfl) ed_nil) (by show 1 ≤ 100000; decide)) fun l e => ?_)
    subst e
    refine sv_while (fun nn Γ => ∃ kvs' line x7, Γ = [.d (D.nt n), .d (.str z), .d (.lst (ms.map D.mv)), .d (.lst ((spots n.a n.c).map D.pl)), .md kvs', .d (D.pl q), .ml (line.map D.pl), x7, .un] ∧ Tied n z kvs' ∧ (∀ p ∈ line, InC n.a n.c p) ∧ (∀ p, hasP kvs p = true → hasP kvs' p = true) ∧ (q ∈ line ∨ hasP kvs' q = true) ∧ line.length ≤ 11 * kvs'.length + 1 ∧ nn = (9 - kvs'.length) * 11 + line.length) _ ⟨kvs, [q], _, rfl, hT, fun p hp => by rw [List.mem_singleton.mp hp]; exact hqi, fun _ h => h, .inl List.mem_cons_self, by simp, rfl⟩ fun nn Γ' hw => ?_
    obtain ⟨kvs', line, x7, rfl, hT', hl, hkk, hqq, hlen, rfl⟩ := hw
    refine ⟨_, et_test (ev_neM rfl), fun h => ?_, fun h => ?_⟩
    · have hne : line ≠ [] := fun e => by rw [e] at h; cases h
      obtain ⟨lst, here, rfl⟩ : ∃ lst here, line = lst ++ [here] := ⟨_, _, (List.dropLast_concat_getLast hne).symm⟩
      refine sv_seq (sv_asgX (ex_pop (ds := (lst ++ [here]).map D.pl) (d := D.pl here) rfl (by rw [List.map_append, List.map_singleton, List.getLast?_concat])) fun d e => ?_)
      subst e
      have hdl : ((lst ++ [here]).map D.pl).dropLast = lst.map D.pl := by rw [List.map_append, List.map_singleton, List.dropLast_concat]
      rw [hdl]
      have hhi := hl here (List.mem_append_right _ List.mem_cons_self)
      have hll : ∀ p ∈ lst, InC n.a n.c p := fun p hp => hl p (List.mem_append_left _ hp)
      rw [List.length_append] at hlen ⊢
      have hl1 : [here].length = 1 := rfl
      rw [hl1] at hlen ⊢
      refine sv_if (et_B (ev_dinNM (ev_var rfl) rfl)) (fun h2 => ?_) fun h2 => sv_next ?_
      · have hnew : hasP kvs' here = false := by cases hx : hasP kvs' here with | false => rfl | true => rw [hx] at h2; cases h2
        have h9 := hT'.le hv
        refine sv_seq (sv_dput (p := here) (A := fun d => ∃ c, d = .str (one c) ∧ c ∈ z.cps.toList) rfl (by omega) (ev_ixSs (ev_var rfl) (ev_index (ev_var rfl) (ev_var rfl) hqm) fun x y hx hy => ?_) (ev_var rfl) fun d hd => ?_)
        · obtain ⟨k, rfl, hk2⟩ := hy
          rw [spots_len] at hk2
          obtain ⟨c, hc, hm⟩ := str_at (z := z) (k := k) (by omega) (by omega)
          exact ⟨z, k, c, hx, rfl, Evl.sz_of (by omega), hc, c, rfl, hm⟩
        · obtain ⟨c, rfl, hc⟩ := hd
          rw [putP_new hnew]
          have hT2 := hT'.put hnew hhi hc
          have h92 := hT2.le hv
          rw [List.length_append] at h92
          have hl2 : [(here, D.str (one c))].length = 1 := rfl
          rw [hl2] at h92
          refine sv_catL (ds := lst.map D.pl) (P := fun l => ∃ ps : List (Int × Int), l = ps.map D.pl ∧ ps.length ≤ 10 ∧ ∀ p ∈ ps, InC n.a n.c p) rfl (EvL.imp (el_mapS (ds := ms.map D.mv) (Pd := fun d => ∃ p, d = D.pl p ∧ InC n.a n.c p) (ei_list' (ev_var rfl)) (by rw [List.length_map]; omega) (by decide) fun d hd => ?_) fun l hl => ?_) (fun l hl => ?_) fun l hl => ?_
          · obtain ⟨mv, _, rfl⟩ := List.mem_map.mp hd
            refine ev_call (As := fun cs => ∃ p : Int × Int, cs = [.d (D.nt n), .d (D.pl p)]) (ea_cons (ev_var rfl) (ea_cons (ev_callI (mv, here) (ea_cons' (ev_var rfl) (ea_cons' (ev_var rfl) ea_nil)) trivial) ea_nil (Ps := fun cs => ∃ p : Int × Int, cs = [.d (D.pl p)]) fun x l hx hl => by obtain ⟨p, rfl⟩ := hx; exact ⟨p, by rw [hl]⟩) fun x l hx hl => by obtain ⟨p, rfl⟩ := hl; exact ⟨p, by rw [hx]⟩) fun cs hc => ?_
            obtain ⟨p, rfl⟩ := hc
            exact ⟨(n, p), rfl, rfl, hv2, fun d e => ⟨_, e, low_in hv.a1 hv.c1 p⟩⟩
          · obtain ⟨h5, h6⟩ := hl
            have : ∃ ps : List (Int × Int), l = ps.map D.pl ∧ ∀ p ∈ ps, InC n.a n.c p := by
              clear h5
              induction l with
              | nil => exact ⟨[], rfl, fun _ h => by cases h⟩
              | cons d l ih =>
                obtain ⟨p, rfl, hp⟩ := h6 _ List.mem_cons_self
                obtain ⟨ps, rfl, hps⟩ := ih fun d hd => h6 d (List.mem_cons_of_mem _ hd)
                exact ⟨p :: ps, rfl, fun x hx => by rcases List.mem_cons.mp hx with e | e; rw [e]; exact hp; exact hps x e⟩
            obtain ⟨ps, rfl, hps⟩ := this
            rw [List.length_map, List.length_map] at h5
            exact ⟨ps, rfl, by omega, hps⟩
          · obtain ⟨ps, rfl, h5, h6⟩ := hl
            rw [List.length_map, List.length_map]
            omega
          · obtain ⟨ps, rfl, h5, h6⟩ := hl
            refine ⟨_, ?_, kvs' ++ [(here, .str (one c))], lst ++ ps, _, by rw [List.map_append (f := D.pl) (l₁ := lst) (l₂ := ps)]; rfl, hT2, fun p hp => (List.mem_append.mp hp).elim (hll p) (h6 p), fun p hp => by rw [hasP_app, hkk p hp]; rfl, ?_, ?_, rfl⟩
            · rw [List.length_append, List.length_append, hl2]
              omega
            · rcases hqq with h7 | h7
              · rcases List.mem_append.mp h7 with h8 | h8
                · exact .inl (List.mem_append_left _ h8)
                · refine .inr ?_
                  rw [hasP_app, List.mem_singleton.mp h8]
                  simp
              · refine .inr ?_
                rw [hasP_app, h7]
                rfl
            · rw [List.length_append, List.length_append, hl2]
              omega
      · have hold : hasP kvs' here = true := by cases hx : hasP kvs' here with | true => rfl | false => rw [hx] at h2; cases h2
        refine ⟨_, ?_, kvs', lst, _, rfl, hT', hll, hkk, ?_, by omega, rfl⟩
        · omega
        · rcases hqq with h7 | h7
          · rcases List.mem_append.mp h7 with h8 | h8
            · exact .inl h8
            · exact .inr (by rw [List.mem_singleton.mp h8]; exact hold)
          · exact .inr h7
    · have he : line = [] := by cases line with | nil => rfl | cons _ _ => cases h
      subst he
      refine ⟨kvs', _, _, _, rfl, hT', fun k p hk2 hp => ?_⟩
      by_cases e : k = j
      · subst e
        rw [hq] at hp
        cases hp
        rcases hqq with h7 | h7
        · cases h7
        · exact h7
      · exact hkk p (hk k p (by omega) hp)
  · obtain ⟨kvs, x5, x6, x7, rfl, hT, hk⟩ := hj
    rw [List.length_map] at hk
    refine sv_ret (EvS.imp (ev_joinOnes (n := (n.a * n.c).toNat) (Q := fun c => c ∈ z.cps.toList) (by omega) (EvL.imp (el_mapS (Pd := fun e => ∃ c, e = .str (one c) ∧ c ∈ z.cps.toList) (ei_list' (ev_var rfl)) (by rw [List.length_map, spots_len]; omega) (by decide) fun d hd => ?_) fun l hl => ⟨by rw [hl.1, List.length_map, spots_len], hl.2⟩)) fun d hd => ?_)
    · obtain ⟨p, hp, rfl⟩ := List.mem_map.mp hd
      obtain ⟨k, hk1, hk2⟩ := List.mem_iff_getElem.mp hp
      have hh := hk k p hk1 (by rw [List.getElem?_eq_getElem hk1, hk2])
      obtain ⟨v, hg, hm⟩ := getP_mem hh
      obtain ⟨_, c, e, hc⟩ := hT.inc _ hm
      exact (ev_dgetM rfl (ev_var rfl) hg).imp fun d e2 => ⟨c, e2.trans e, hc⟩
    · obtain ⟨z', rfl, h6, h7⟩ := hd
      exact ⟨z', rfl, by have := hv.pos; show (z'.length : Int) = n.a * n.c; omega, fun c hc => ht.lw c (h7 c hc)⟩
end
end K55
set_option maxHeartbeats 1000000
/-! The law's carpet, its end. -/
namespace K55
open PySem PySem.Spec PyProof.Rows L2
open Evl (Ex)
/-- what the law's makers give -/
def Made (r : D) : Prop := ∃ n z, r = .tup [D.nt n, .str z] ∧ VN 9 n ∧ VT n z
section
variable {P : Program} {w : World} {K : PySem.W.Frag} {mg : Str → Option Value} {base : Heap} {g : Gl}
/-- the text of a larger net, seen through a smaller one -/
theorem ev_copy {Γ : List C} {n k : Nt} {z : Str} {i1 i2 jj : Nat} {vs : List Nat} {te : TE} (hn : VN 1000 n) (hk : VN 1000 k) (hz : (z.length : Int) = n.a * n.c) (h0 : EvS g te Γ (· = .lst ((spots k.a k.c).map D.pl))) (hj : jj ∈ vs)
    (h1 : ∀ d, ((wipeC Γ vs).set jj d)[i1]? = some (.d (D.nt n))) (h2 : ∀ d, ((wipeC Γ vs).set jj d)[i2]? = some (.d (.str z))) (h3 : ∀ d, ((wipeC Γ vs).set jj d)[jj]? = some d) :
    EvS g (tM1 (fun x xs H Q => ∃ a p, ∃ ys : List Str, x = .str a ∧ xs = [.ref p] ∧ (SqL g.K H p (ys.map V.str) ∨ SqT g.K H p (ys.map V.str)) ∧ (ys.map (·.length)).sum + ys.length * a.length ≤ 16777216 ∧ Q (.str (Txt.join a ys)) H) (tC (.str "")) (tLc (iList g.K te) (gName jj) tYes (tCall (sp__law_seen g) [] C8.E0 (tCons (tVar i1) (tCons (tVar i2) (tCons (tVar jj) tNil)))) vs)) Γ
      (fun d => ∃ z', d = .str z' ∧ (z'.length : Int) = k.a * k.c ∧ ∀ c ∈ z'.cps.toList, c ∈ z.cps.toList) := by
  have hp := hk.pos
  have hs := hk.sz
  refine EvS.imp (ev_joinOnes (n := (k.a * k.c).toNat) (Q := fun c => c ∈ z.cps.toList) (by omega) (EvL.imp (el_mapS (Pd := fun e => ∃ c, e = .str (one c) ∧ c ∈ z.cps.toList) (ei_list' h0) (by rw [List.length_map, spots_len]; omega) hj fun d hd => ?_) fun l hl => ⟨by rw [hl.1, List.length_map, spots_len], hl.2⟩)) fun d hd => ?_
  · obtain ⟨p, hp, rfl⟩ := List.mem_map.mp hd
    exact ev_callI (n, z, p) (ea_cons' (ev_var (h1 _)) (ea_cons' (ev_var (h2 _)) (ea_cons' (ev_var (h3 _)) ea_nil))) ⟨hn, hz⟩
  · obtain ⟨z', rfl, h6, h7⟩ := hd
    exact ⟨z', rfl, by omega, h7⟩
def sp__law_copied (g : Gl) : Sp := pr g 4 (ι := Nt × Str) (fun i => [.tp, .d (D.nt i.1), .d (.str i.2), .d (.int 9)]) (fun i => VN 9 i.1 ∧ VT i.1 i.2) (fun _ r => Made r)
theorem cal__law_copied (hK : g.K = K) (T : Blt mg) (h : Dfd K mg "_law_copied" (topS 69)) (c__law_draw : C8.Cal P w K mg base 1 "_law_draw" (sp__law_draw g) []) (c__law_seen : C8.Cal P w K mg base 2 "_law_seen" (sp__law_seen g) []) (c__law_spots : C8.Cal P w K mg base 1 "_law_spots" (sp__law_spots g) []) : C8.Cal P w K mg base 3 "_law_copied" (sp__law_copied g) [] := by
  subst hK
  refine h.cal (k := 2) (N := ["_law_tape_here", "_law_net_here", "_law_text", "_law_most", "_law_wide", "_law_high", "_law_larger", "_law_spot"]) (ps := ["_law_tape_here", "_law_net_here", "_law_text", "_law_most"]) (r := 4) (fun _ _ _ _ _ _ us hl => match us, hl with | [_, _, _, _], _ => rfl) (C8.fnScope_by (by decide +kernel)) rfl rfl fun f cdv A outer s H E hr => ?_
  have nd : List.Nodup (α := Str) ["_law_tape_here", "_law_net_here", "_law_text", "_law_most", "_law_wide", "_law_high", "_law_larger", "_law_spot"] := by decide +kernel
  refine ⟨_, (pss_cons (ps_par (i := 4) (j := 5) (by rfl) nd rfl rfl (by decide) rfl rfl (pa_cons (pe_op op_add pe_int (C8.pe_c c__law_draw hr (by decide) rfl (pa_cons (pv 0) (pa_cons pe_int pa_nil)))) (pa_cons (pe_op op_add pe_int (C8.pe_c c__law_draw hr (by decide) rfl (pa_cons (pv 0) (pa_cons pe_int pa_nil)))) pa_nil)) (by rfl))
    (pss_cons (ps_if (pt_cmpR op_gt (pe_op op_mul (pe_op op_mul (pe_op op_mul (pe_ix (ixT (K := g.K) rfl) (pv 1) pe_int (fun _ _ => rfl)) (pv 4)) (pe_ix (ixT (K := g.K) rfl) (pv 1) pe_int (fun _ _ => rfl))) (pv 5)) (pv 3) (nomark _))
      (pss_one (ps_ret (pe_tup (pa_cons (pv 1) (pa_cons (pv 2) pa_nil)))))
      pss_nil)
    (pss_cons (ps_set (i := 6) nd rfl (.inl rfl) (pe_tup (pa_cons (pe_op op_mul (pe_ix (ixT (K := g.K) rfl) (pv 1) pe_int (fun _ _ => rfl)) (pv 4)) (pa_cons (pe_op op_mod (pe_op op_mul (pe_ix (ixT (K := g.K) rfl) (pv 1) pe_int (fun _ _ => rfl)) (pv 5)) (pe_op op_mul (pe_ix (ixT (K := g.K) rfl) (pv 1) pe_int (fun _ _ => rfl)) (pv 4))) (pa_cons (pe_op op_mul (pe_ix (ixT (K := g.K) rfl) (pv 1) pe_int (fun _ _ => rfl)) (pv 5)) pa_nil)))))
    (pss_one (ps_ret (pe_tup (pa_cons (pv 6) (pa_cons (pe_join pe_str (pe_lc (own := [("_law_spot", 7)]) (g := gName 7) rfl nd (piL (K := g.K) rfl (C8.pe_c c__law_spots hr (by decide) rfl (pa_cons (pv 6) pa_nil))) (blkOk_by (own := [("_law_spot", 7)]) (N := ["_law_tape_here", "_law_net_here", "_law_text", "_law_most", "_law_wide", "_law_high", "_law_larger", "_law_spot"]) (sc := C8.fnScope (topS 69)) (by decide +kernel)) (fun _ _ _ _ _ => (pg_name (i := 7) nd rfl (.inl rfl))) (fun _ _ _ _ _ => pts_nil) (fun _ _ _ _ _ => (C8.pe_c c__law_seen hr (by decide) rfl (pa_cons (pv 1) (pa_cons (pv 2) (pa_cons (pv 7) pa_nil))))))) pa_nil)))))))), fun i hp => ?_⟩
  obtain ⟨n, z⟩ := i
  obtain ⟨hv, ht⟩ := hp
  dsimp only at hv ht
  have a1 := hv.a1
  have c1 := hv.c1
  have aL := hv.aLe
  have cL := hv.cLe
  have dr : ∀ {Γ : List C} {k : Int}, Γ[0]? = some .tp → 0 < k → k ≤ 3 → EvS g (tOp (rI0 fun i j => .int (i + j)) (tC (.int 1)) (tCall (sp__law_draw g) [] C8.E0 (tCons (tVar 0) (tCons (tC (.int k)) tNil)))) Γ (fun d => ∃ n, d = .int n ∧ 1 ≤ n ∧ n ≤ k) := fun h h1 h2 => ev_I0s ev_int (ev_draw h ev_int h1 (by omega)) fun x y hx hy => by
    obtain ⟨m, e, h3, h4⟩ := hy
    exact ⟨_, m, hx, e, _, rfl, by omega, by omega⟩
  refine sv_seq (sv_par (dr rfl (by decide) (by decide)) (dr rfl (by decide) (by decide)) fun x y hx hy => ?_)
  obtain ⟨wd, rfl, w1, w3⟩ := hx
  obtain ⟨hh, rfl, h1, h2⟩ := hy
  have m1 : 0 ≤ n.a * wd := Int.mul_nonneg (by omega) (by omega)
  have m2 : n.a * wd ≤ 9 * 3 := Int.mul_le_mul aL w3 (by omega) (by decide)
  have m3 : 0 ≤ n.a * wd * n.c := Int.mul_nonneg m1 (by omega)
  have m4 : n.a * wd * n.c ≤ 27 * 9 := Int.mul_le_mul (by omega) cL (by omega) (by decide)
  have sm : ∀ k : Int, 0 ≤ k → k ≤ 1000 → -(2 ^ 64) < k ∧ k < 2 ^ 64 := fun k h1 h2 => ⟨by omega, by omega⟩
  have e3 : EvS g (tOp (rI CMul fun i j => .int (i * j)) (tOp (rIxT g.K) (tVar 1) (tC (.int 0))) (tVar 4)) ([.tp, .d (D.nt n), .d (.str z), .d (.int 9), .d (.int wd), .d (.int hh), .un, .un]) (· = .int (n.a * wd)) := ev_I (ev_t0 (ev_var rfl)) (ev_var rfl) (.inr (sm wd (by omega) (by omega)))
  refine sv_seq (sv_if (et_test (ev_cmp (ev_I (ev_I e3 (ev_t2 (ev_var rfl)) (.inr (sm n.c (by omega) (by omega)))) (ev_var rfl) (.inr (sm hh (by omega) (by omega)))) (ev_var rfl))) (fun _ => sv_ret ((ev_p2 (ev_var rfl) (ev_var rfl)).imp fun d e => ⟨n, z, e, hv, ht⟩)) fun hle => sv_next ?_)
  have hle2 : n.a * wd * n.c * hh ≤ 9 := by
    have h : ¬ 9 < n.a * wd * n.c * hh := of_decide_eq_false hle.symm
    omega
  have hpos : 1 ≤ n.a * wd := by
    have := Int.mul_le_mul a1 w1 (by decide) (by omega)
    omega
  refine sv_seq (sv_asg (ev_p3 e3 (ev_I (ev_I (ev_t1 (ev_var rfl)) (ev_var rfl) (.inr (sm hh (by omega) (by omega)))) e3 (by show 0 < n.a * wd; omega)) (ev_I (ev_t2 (ev_var rfl)) (ev_var rfl) (.inr (sm hh (by omega) (by omega))))) fun d e => ?_)
  subst e
  have hc : 1 ≤ n.c * hh := by
    have := Int.mul_le_mul c1 h1 (by decide) (by omega)
    omega
  have hk : VN 9 ⟨n.a * wd, n.b * hh % (n.a * wd), n.c * hh⟩ := ⟨hpos, Int.emod_nonneg _ (by omega), Int.emod_lt_of_pos _ (by omega), hc, by show n.a * wd * (n.c * hh) ≤ 9; rw [← Int.mul_assoc]; exact hle2⟩
  refine sv_ret (ev_tup (Ps := fun l => Made (.tup l)) (ed_cons (ev_var rfl) (ed_cons (ev_copy (n := n) (z := z) (hv.mono (by decide)) (hk.mono (by decide)) ht.len (ev_callI (⟨n.a * wd, n.b * hh % (n.a * wd), n.c * hh⟩ : Nt) (ea_cons' (ev_var rfl) ea_nil) (hk.mono (by decide))) (by decide) (fun _ => rfl) (fun _ => rfl) fun _ => rfl) ed_nil (Ps := fun l => ∃ z', l = [.str z'] ∧ VT ⟨n.a * wd, n.b * hh % (n.a * wd), n.c * hh⟩ z') fun x l hx hl => ?_) fun x l hx hl => ?_) (fun l hl => ?_) fun l hl => hl)
  · obtain ⟨z', rfl, h5, h6⟩ := hx
    exact ⟨z', by rw [hl], h5, fun c hc => ht.lw c (h6 c hc)⟩
  · obtain ⟨z', rfl, h5⟩ := hl
    exact ⟨_, z', by rw [hx], hk, h5⟩
  · obtain ⟨n', z', e, _⟩ := hl
    cases e
    show 2 ≤ 100000
    decide
def sp__law_exact (g : Gl) : Sp := pr g 2 (ι := Nt × Str) (fun i => [.d (D.nt i.1), .d (.str i.2)]) (fun i => VN 9 i.1 ∧ VT i.1 i.2) (fun _ r => Made r)
theorem cal__law_exact (hK : g.K = K) (T : Blt mg) (h : Dfd K mg "_law_exact" (topS 71)) (c__law_spots : C8.Cal P w K mg base 1 "_law_spots" (sp__law_spots g) []) (c__law_net_of : C8.Cal P w K mg base 2 "_law_net_of" (sp__law_net_of g) []) (c__law_is_kept : C8.Cal P w K mg base 3 "_law_is_kept" (sp__law_is_kept g) []) (c__law_seen : C8.Cal P w K mg base 2 "_law_seen" (sp__law_seen g) []) : C8.Cal P w K mg base 4 "_law_exact" (sp__law_exact g) [] := by
  subst hK
  refine h.cal (k := 3) (N := ["_law_net_here", "_law_text", "_law_kept", "_law_one", "_law_least_here", "_law_spot"]) (ps := ["_law_net_here", "_law_text"]) (r := 4) (fun _ _ _ _ _ _ us hl => match us, hl with | [_, _], _ => rfl) (C8.fnScope_by (by decide +kernel)) rfl rfl fun f cdv A outer s H E hr => ?_
  have nd : List.Nodup (α := Str) ["_law_net_here", "_law_text", "_law_kept", "_law_one", "_law_least_here", "_law_spot"] := by decide +kernel
  refine ⟨_, (pss_cons (ps_set (i := 2) nd rfl (.inl rfl) (pe_lst (pa_cons (pe_tup (pa_cons (pe_ix (ixT (K := g.K) rfl) (pv 0) pe_int (fun _ _ => rfl)) (pa_cons pe_int pa_nil))) (pa_cons (pe_tup (pa_cons (pe_ix (ixT (K := g.K) rfl) (pv 0) pe_int (fun _ _ => rfl)) (pa_cons (pe_ix (ixT (K := g.K) rfl) (pv 0) pe_int (fun _ _ => rfl)) pa_nil))) pa_nil))))
    (pss_cons (ps_for PassesOwn.never rfl (piL (K := g.K) rfl (C8.pe_c c__law_spots hr (by decide) rfl (pa_cons (pv 0) pa_nil))) (pg_name (i := 3) nd rfl (.inl rfl))
      (pss_one (ps_if (pt_val (C8.pe_c c__law_is_kept hr (by decide) rfl (pa_cons (pv 0) (pa_cons (pv 1) (pa_cons (pe_tup (pa_cons pe_str (pa_cons (pv 3) pa_nil))) pa_nil)))))
          (pss_one (ps_expr (pe_bm PySem.F.plainAttrs_list PySem.F.slot_list_append PySem.F.type_list_append mt_append (pv 2) (pa_cons (pv 3) pa_nil))))
          pss_nil)))
    (pss_cons (ps_set (i := 4) nd rfl (.inl rfl) (C8.pe_c c__law_net_of hr (by decide) rfl (pa_cons (pv 2) pa_nil)))
    (pss_one (ps_ret (pe_tup (pa_cons (pv 4) (pa_cons (pe_join pe_str (pe_lc (own := [("_law_spot", 5)]) (g := gName 5) rfl nd (piL (K := g.K) rfl (C8.pe_c c__law_spots hr (by decide) rfl (pa_cons (pv 4) pa_nil))) (blkOk_by (own := [("_law_spot", 5)]) (N := ["_law_net_here", "_law_text", "_law_kept", "_law_one", "_law_least_here", "_law_spot"]) (sc := C8.fnScope (topS 71)) (by decide +kernel)) (fun _ _ _ _ _ => (pg_name (i := 5) nd rfl (.inl rfl))) (fun _ _ _ _ _ => pts_nil) (fun _ _ _ _ _ => (C8.pe_c c__law_seen hr (by decide) rfl (pa_cons (pv 0) (pa_cons (pv 1) (pa_cons (pv 5) pa_nil))))))) pa_nil)))))))), fun i hp => ?_⟩
  obtain ⟨n, z⟩ := i
  obtain ⟨hv, ht⟩ := hp
  dsimp only at hv ht
  have hv2 := hv.mono (show (9 : Int) ≤ 1000 by decide)
  have hsz := hv.sz
  refine sv_seq (sv_asgL (el_lst' (ed_cons' (ev_p2 (ev_t0 (ev_var rfl)) ev_int) (ed_cons' (ev_p2 (ev_t1 (ev_var rfl)) (ev_t2 (ev_var rfl))) ed_nil)) (by show 2 ≤ 100000; decide)) fun l e => ?_)
  subst e
  refine sv_seq (sv_forN (ei_list' (ev_callI n (ea_cons' (ev_var rfl) ea_nil) hv2)) (fun j Γ => ∃ ps x, Γ = [.d (D.nt n), .d (.str z), .ml (((n.a, 0) :: (n.b, n.c) :: ps).map D.pl), x, .un, .un] ∧ ps.length ≤ j ∧ ∀ p ∈ ps, InC n.a n.c p) ⟨[], _, rfl, Nat.le_refl _, fun _ h => by cases h⟩ (fun j d Γ' hd hj => ?_) fun Γ' hj => ?_)
  · obtain ⟨ps, x, rfl, hl, hi⟩ := hj
    obtain ⟨q, hq, rfl⟩ := List.mem_map.mp (List.mem_of_getElem? hd)
    have hlt := (List.getElem?_eq_some_iff.mp hd).1
    rw [List.length_map, spots_len] at hlt
    refine sv_if (B := fun _ => True) (et_Bs (A := fun r => ∃ b, r = .bl b) (ev_callI (n, z, (("none" : Str), q)) (ea_cons' (ev_var rfl) (ea_cons' (ev_var rfl) (ea_cons' (ev_p2 ev_str (ev_var rfl)) ea_nil))) ⟨hv2, ht.len⟩) fun x hx => ⟨hx.choose, hx.choose_spec, trivial⟩) (fun _ => ?_) fun _ => sv_next ⟨ps, _, rfl, by omega, hi⟩
    refine sv_app rfl (by rw [List.length_map]; simp; omega) (ev_var rfl) fun d e => ?_
    subst e
    refine ⟨ps ++ [q], _, by rw [show (n.a, (0 : Int)) :: (n.b, n.c) :: (ps ++ [q]) = ((n.a, 0) :: (n.b, n.c) :: ps) ++ [q] from rfl, List.map_append (f := D.pl) (l₂ := [q])]; rfl, by rw [List.length_append]; show _ + 1 ≤ _; omega, fun p hp => ?_⟩
    rcases List.mem_append.mp hp with h | h
    · exact hi p h
    · rw [List.mem_singleton.mp h]
      exact (mem_spots hv.a1 hv.c1).mp hq
  · obtain ⟨ps, x, rfl, hl, hi⟩ := hj
    refine sv_give (i := 2) rfl (sv_seq (sv_asg (ev_callI (n, ps) (ea_cons' (ev_var rfl) ea_nil) ⟨hv2, hi⟩) fun d hd => ?_))
    obtain ⟨k, rfl, k1, k2, k3, k4, k5, k6⟩ := hd
    have hk : VN 9 k := ⟨k1, k3, k4, k5, by
      have := Int.mul_le_mul k2 k6 (by omega) (by omega)
      dsimp only at this
      omega⟩
    refine sv_ret (ev_tup (Ps := fun l => Made (.tup l)) (ed_cons (ev_var rfl) (ed_cons (ev_copy (n := n) (z := z) (k := k) hv2 (hk.mono (by decide)) ht.len (ev_callI k (ea_cons' (ev_var rfl) ea_nil) (hk.mono (by decide))) (by decide) (fun _ => rfl) (fun _ => rfl) fun _ => rfl) ed_nil (Ps := fun l => ∃ z', l = [.str z'] ∧ VT k z') fun x l hx hl => ?_) fun x l hx hl => ?_) (fun l hl => ?_) fun l hl => hl)
    · obtain ⟨z', rfl, h5, h6⟩ := hx
      exact ⟨z', by rw [hl], h5, fun c hc => ht.lw c (h6 c hc)⟩
    · obtain ⟨z', rfl, h5⟩ := hl
      exact ⟨_, z', by rw [hx], hk, h5⟩
    · obtain ⟨n', z', e, _⟩ := hl
      cases e
      show 2 ≤ 100000
      decide
end
end K55
set_option maxHeartbeats 1000000
/-! The law's carpet woven. -/
namespace K55
open PySem PySem.Spec PyProof.Rows L2
open Evl (Ex)
section
variable {P : Program} {w : World} {K : PySem.W.Frag} {mg : Str → Option Value} {base : Heap} {g : Gl}
theorem ev_lett {Γ : List C} {n : Nt} (h0 : Γ[0]? = some .tp) (h3 : Γ[3]? = some (.d (D.nt n))) (hv : VN 9 n) : EvS g (tCall (sp__law_letters g) [] C8.E0 (tCons (tVar 0) (tCons (tOp (rI CMul fun i j => .int (i * j)) (tOp (rIxT g.K) (tVar 3) (tC (.int 0))) (tOp (rIxT g.K) (tVar 3) (tC (.int 2)))) tNil))) Γ (fun d => ∃ z, d = .str z ∧ VT n z) := by
  have h1 := hv.pos
  have h2 := hv.sz
  have h4 := hv.aLe
  have h5 := hv.a1
  exact EvS.imp (ev_callI (n.a * n.c) (ea_tp' h0 (ea_cons' (ev_I (ev_t0 (ev_var h3)) (ev_t2 (ev_var h3)) (.inl ⟨by omega, by omega⟩)) ea_nil)) ⟨by omega, by omega⟩) fun d ⟨z, e, h6, h7⟩ => ⟨z, e, h6, h7⟩
theorem made_tup {Γ : List C} {n : Nt} {i : Nat} {te : TE} (h3 : Γ[i]? = some (.d (D.nt n))) (hv : VN 9 n) (h : EvS g te Γ (fun d => ∃ z, d = .str z ∧ VT n z)) : EvS g (tTup (tCons (tVar i) (tCons te tNil))) Γ Made := by
  refine ev_tup (Ps := fun l => Made (.tup l)) (ed_cons (ev_var h3) (ed_cons h ed_nil (Ps := fun l => ∃ z', l = [.str z'] ∧ VT n z') fun x l hx hl => ?_) fun x l hx hl => ?_) (fun l hl => ?_) fun l hl => hl
  · obtain ⟨z', rfl, h5⟩ := hx
    exact ⟨z', by rw [hl], h5⟩
  · obtain ⟨z', rfl, h5⟩ := hl
    exact ⟨_, z', by rw [hx], hv, h5⟩
  · obtain ⟨n', z', e, _⟩ := hl
    cases e
    show 2 ≤ 100000
    decide
theorem dvd_le {k a : Int} (h1 : 1 ≤ a) (h : a % k = 0) : k ≤ a := Int.le_of_dvd (by omega) (Int.dvd_of_emod_eq_zero h)
def sp__law_woven (g : Gl) : Sp := pr g 2 (ι := Unit) (fun _ => [.tp, .d (.int 9)]) (fun _ => True) (fun _ r => Made r)
theorem cal__law_woven (hK : g.K = K) (T : Blt mg) (h : Dfd K mg "_law_woven" (topS 70)) (c__law_draw : C8.Cal P w K mg base 1 "_law_draw" (sp__law_draw g) []) (c__law_net : C8.Cal P w K mg base 2 "_law_net" (sp__law_net g) []) (c__law_copied : C8.Cal P w K mg base 3 "_law_copied" (sp__law_copied g) []) (c__law_square : C8.Cal P w K mg base 2 "_law_square" (sp__law_square g) []) (c__law_letters : C8.Cal P w K mg base 2 "_law_letters" (sp__law_letters g) []) (c__law_move : C8.Cal P w K mg base 3 "_law_move" (sp__law_move g) []) (c__law_tied : C8.Cal P w K mg base 3 "_law_tied" (sp__law_tied g) []) (c__law_divisor : C8.Cal P w K mg base 1 "_law_divisor" (sp__law_divisor g) []) (c__law_spots : C8.Cal P w K mg base 1 "_law_spots" (sp__law_spots g) []) : C8.Cal P w K mg base 4 "_law_woven" (sp__law_woven g) [] := by
  subst hK
  refine h.cal (k := 3) (N := ["_law_tape_here", "_law_most", "_law_way", "_law_net_here", "_law_moves", "_law_slope", "_law_line", "_law_size", "_law_k", "_law_x", "_law_y"]) (ps := ["_law_tape_here", "_law_most"]) (r := 9) (fun _ _ _ _ _ _ us hl => match us, hl with | [_, _], _ => rfl) (C8.fnScope_by (by decide +kernel)) rfl rfl fun f cdv A outer s H E hr => ?_
  have nd : List.Nodup (α := Str) ["_law_tape_here", "_law_most", "_law_way", "_law_net_here", "_law_moves", "_law_slope", "_law_line", "_law_size", "_law_k", "_law_x", "_law_y"] := by decide +kernel
  refine ⟨_, (pss_cons (ps_set (i := 2) nd rfl (.inl rfl) (C8.pe_c c__law_draw hr (by decide) rfl (pa_cons (pv 0) (pa_cons pe_int pa_nil))))
    (pss_cons (ps_if (pt_cmpR op_eq (pv 2) pe_int (nomark _))
      (pss_cons (ps_set (i := 3) nd rfl (.inr rfl) (C8.pe_c c__law_net hr (by decide) rfl (pa_cons (pv 0) (pa_cons (pv 1) pa_nil))))
        (pss_one (ps_ret (pe_tup (pa_cons (pv 3) (pa_cons (C8.pe_c c__law_letters hr (by decide) rfl (pa_cons (pv 0) (pa_cons (pe_op op_mul (pe_ix (ixT (K := g.K) rfl) (pv 3) pe_int (fun _ _ => rfl)) (pe_ix (ixT (K := g.K) rfl) (pv 3) pe_int (fun _ _ => rfl))) pa_nil))) pa_nil))))))
      pss_nil)
    (pss_cons (ps_if (pt_cmpR op_lt (pv 2) pe_int (nomark _))
      (pss_cons (ps_set (i := 3) nd rfl (.inr rfl) (C8.pe_c c__law_square hr (by decide) rfl (pa_cons (pv 0) (pa_cons (pv 1) pa_nil))))
        (pss_cons (ps_setLc (i := 4) (own := [("_law_k", 8)]) (g := gName 8) rfl nd rfl rfl (sw_true rfl rfl rfl (by decide +kernel)) (pi_range1 rfl T.range (pa_cons (pe_op op_add pe_int (C8.pe_c c__law_draw hr (by decide) rfl (pa_cons (pv 0) (pa_cons pe_int pa_nil)))) pa_nil)) (blkOk_by (own := [("_law_k", 8)]) (N := ["_law_tape_here", "_law_most", "_law_way", "_law_net_here", "_law_moves", "_law_slope", "_law_line", "_law_size", "_law_k", "_law_x", "_law_y"]) (sc := C8.fnScope (topS 70)) (by decide +kernel)) (fun _ _ _ _ _ => (pg_name (i := 8) nd rfl (.inl rfl))) (fun _ _ _ _ _ => pts_nil) (fun _ _ _ _ _ => (C8.pe_c c__law_move hr (by decide) rfl (pa_cons (pv 0) (pa_cons (pv 3) pa_nil)))))
        (pss_one (ps_ret (pe_tup (pa_cons (pv 3) (pa_cons (C8.pe_c c__law_tied hr (by decide) rfl (pa_cons (pv 3) (pa_cons (C8.pe_c c__law_letters hr (by decide) rfl (pa_cons (pv 0) (pa_cons (pe_op op_mul (pe_ix (ixT (K := g.K) rfl) (pv 3) pe_int (fun _ _ => rfl)) (pe_ix (ixT (K := g.K) rfl) (pv 3) pe_int (fun _ _ => rfl))) pa_nil))) (pa_cons (pv 4) pa_nil)))) pa_nil)))))))
      pss_nil)
    (pss_cons (ps_if (pt_cmpR op_eq (pv 2) pe_int (nomark _))
      (pss_cons (ps_set (i := 3) nd rfl (.inr rfl) (C8.pe_c c__law_net hr (by decide) rfl (pa_cons (pv 0) (pa_cons (pv 1) pa_nil))))
        (pss_cons (ps_set (i := 5) nd rfl (.inr rfl) (pe_ix (ixL (K := g.K) rfl) (pe_lst (pa_cons (pe_tup (pa_cons pe_int (pa_cons pe_int pa_nil))) (pa_cons (pe_tup (pa_cons pe_int (pa_cons pe_int pa_nil))) (pa_cons (pe_tup (pa_cons pe_int (pa_cons pe_int pa_nil))) (pa_cons (pe_tup (pa_cons pe_int (pa_cons (pe_un un_neg pe_int) pa_nil))) pa_nil))))) (C8.pe_c c__law_draw hr (by decide) rfl (pa_cons (pv 0) (pa_cons pe_int pa_nil))) (fun _ _ => rfl)))
        (pss_cons (ps_set (i := 6) nd rfl (.inr rfl) (C8.pe_c c__law_letters hr (by decide) rfl (pa_cons (pv 0) (pa_cons (pe_op op_mul (pe_ix (ixT (K := g.K) rfl) (pv 3) pe_int (fun _ _ => rfl)) (pe_ix (ixT (K := g.K) rfl) (pv 3) pe_int (fun _ _ => rfl))) pa_nil))))
        (pss_cons (ps_set (i := 7) nd rfl (.inr rfl) (pe_ix (ixL (K := g.K) rfl) (pe_lst (pa_cons pe_int (pa_cons pe_int (pa_cons (C8.pe_c c__law_divisor hr (by decide) rfl (pa_cons (pe_ix (ixT (K := g.K) rfl) (pv 3) pe_int (fun _ _ => rfl)) (pa_cons (pe_op op_add (pe_op op_mul (pe_ix (ixT (K := g.K) rfl) (pv 3) pe_int (fun _ _ => rfl)) (pe_ix (ixT (K := g.K) rfl) (pv 5) pe_int (fun _ _ => rfl))) (pe_op op_mul (pe_ix (ixT (K := g.K) rfl) (pv 3) pe_int (fun _ _ => rfl)) (pe_ix (ixT (K := g.K) rfl) (pv 5) pe_int (fun _ _ => rfl)))) pa_nil))) pa_nil)))) (C8.pe_c c__law_draw hr (by decide) rfl (pa_cons (pv 0) (pa_cons pe_int pa_nil))) (fun _ _ => rfl)))
        (pss_cons (ps_set (i := 7) nd rfl (.inr rfl) (pe_ifExp (PW.pt (pw_and (pt_cmpR op_eq (pe_op op_mod (pe_op op_mul (pe_ix (ixT (K := g.K) rfl) (pv 3) pe_int (fun _ _ => rfl)) (pe_ix (ixT (K := g.K) rfl) (pv 5) pe_int (fun _ _ => rfl))) (pv 7)) pe_int (nomark _)) (pw_and1 (pt_cmpR op_eq (pe_op op_mod (pe_op op_add (pe_op op_mul (pe_ix (ixT (K := g.K) rfl) (pv 3) pe_int (fun _ _ => rfl)) (pe_ix (ixT (K := g.K) rfl) (pv 5) pe_int (fun _ _ => rfl))) (pe_op op_mul (pe_ix (ixT (K := g.K) rfl) (pv 3) pe_int (fun _ _ => rfl)) (pe_ix (ixT (K := g.K) rfl) (pv 5) pe_int (fun _ _ => rfl)))) (pv 7)) pe_int (nomark _))))) (pv 7) pe_int))
        (pss_one (ps_ret (pe_tup (pa_cons (pv 3) (pa_cons (pe_join pe_str (pe_lc (own := [("_law_x", 9), ("_law_y", 10)]) rfl nd (piL (K := g.K) rfl (C8.pe_c c__law_spots hr (by decide) rfl (pa_cons (pv 3) pa_nil))) (blkOk_by (own := [("_law_x", 9), ("_law_y", 10)]) (N := ["_law_tape_here", "_law_most", "_law_way", "_law_net_here", "_law_moves", "_law_slope", "_law_line", "_law_size", "_law_k", "_law_x", "_law_y"]) (sc := C8.fnScope (topS 70)) (by decide +kernel)) (fun _ _ _ _ _ => (pgT (K := g.K) (n := 2) rfl (by rfl) (pgs_cons (pg_name (i := 9) nd rfl (.inl rfl)) (pgs_cons (pg_name (i := 10) nd rfl (.inl rfl)) pgs_nil)))) (fun _ _ _ _ _ => pts_nil) (fun _ _ _ _ _ => (pe_ix ix_str (pv 6) (pe_op op_mod (pe_op op_add (pe_op op_mul (pv 9) (pe_ix (ixT (K := g.K) rfl) (pv 5) pe_int (fun _ _ => rfl))) (pe_op op_mul (pv 10) (pe_ix (ixT (K := g.K) rfl) (pv 5) pe_int (fun _ _ => rfl)))) (pv 7)) (fun _ _ => rfl))))) pa_nil))))))))))
      pss_nil)
    (pss_cons (ps_set (i := 3) nd rfl (.inr rfl) (C8.pe_c c__law_net hr (by decide) rfl (pa_cons (pv 0) (pa_cons (pe_op op_fdiv (pv 1) pe_int) pa_nil))))
    (pss_one (ps_ret (C8.pe_c c__law_copied hr (by decide) rfl (pa_cons (pv 0) (pa_cons (pv 3) (pa_cons (C8.pe_c c__law_letters hr (by decide) rfl (pa_cons (pv 0) (pa_cons (pe_op op_mul (pe_ix (ixT (K := g.K) rfl) (pv 3) pe_int (fun _ _ => rfl)) (pe_ix (ixT (K := g.K) rfl) (pv 3) pe_int (fun _ _ => rfl))) pa_nil))) (pa_cons (pv 1) pa_nil)))))))))))), fun i hp => ?_⟩
  refine sv_seq (sv_asg (ev_draw rfl ev_int (by decide) (by decide)) fun d hd => ?_)
  obtain ⟨way, rfl, y0, y1⟩ := hd
  refine sv_seq (sv_if (et_test (ev_eqI (ev_var rfl) ev_int)) (fun _ => ?_) fun _ => sv_next ?_)
  · refine sv_seq (sv_asg (ev_callI (9 : Int) (ea_tp' rfl (ea_cons' (ev_var rfl) ea_nil)) ⟨by decide, by decide⟩) fun d hd => ?_)
    obtain ⟨n, rfl, hv⟩ := hd
    exact sv_ret (made_tup rfl hv (ev_lett rfl rfl hv))
  refine sv_seq (sv_if (et_test (ev_cmp (ev_var rfl) ev_int)) (fun _ => ?_) fun _ => sv_next ?_)
  · refine sv_seq (sv_asg (ev_callI () (ea_tp' rfl (ea_cons' (ev_var rfl) ea_nil)) trivial) fun d hd => ?_)
    obtain ⟨n, rfl, hv⟩ := hd
    refine sv_seq (sv_asgD (el_lc (vs := [8]) (P := fun ds => ds.length ≤ 2) (ei_rng1s (A := fun d => ∃ m : Int, d = .int m ∧ 1 ≤ m ∧ m ≤ 2) (ev_I0s ev_int (ev_draw rfl ev_int (by decide) (by decide)) fun x y hx hy => ?_) fun x hx => ?_) (fun ds h => by omega) (fun ds i acc => ∃ ms : List Mv, acc = ms.map D.mv ∧ ms.length ≤ i) (fun _ _ => ⟨[], rfl, Nat.le_refl _⟩) fun ds j d acc e hd ha => ?_) fun l hl => ?_)
    · obtain ⟨m, e, h3, h4⟩ := hy
      exact ⟨_, m, hx, e, _, rfl, by omega, by omega⟩
    · obtain ⟨m, rfl, h3, h4⟩ := hx
      exact ⟨m.toNat, by rw [Int.toNat_of_nonneg (by omega)], by omega, by rw [List.length_map, List.length_range]; omega⟩
    · obtain ⟨ms, rfl, h3⟩ := ha
      refine ⟨[8], _, fun i h => h, eg_name, _, et_yes, fun _ => (ev_callI n (ea_tp' rfl (ea_cons' (ev_var rfl) ea_nil)) (hv.mono (by decide))).imp fun e he => ?_, fun h => by cases h⟩
      obtain ⟨z, p, rfl⟩ := he
      exact ⟨ms ++ [(z, p)], by rw [List.map_append]; rfl, by rw [List.length_append]; show _ + 1 ≤ _; omega⟩
    · obtain ⟨ds, h3, ms, rfl, h4⟩ := hl
      refine sv_ret (made_tup rfl hv (ev_call (As := fun cs => ∃ z, cs = [.d (D.nt n), .d (.str z), .d (.lst (ms.map D.mv))] ∧ VT n z) (ea_cons (ev_var rfl) (ea_cons (ev_lett rfl rfl hv) (ea_cons' (ev_var rfl) ea_nil) (Ps := fun cs => ∃ z, cs = [.d (.str z), .d (.lst (ms.map D.mv))] ∧ VT n z) fun x l hx hl => ?_) fun x l hx hl => ?_) fun cs hc => ?_))
      · obtain ⟨z, rfl, hz⟩ := hx
        exact ⟨z, by rw [hl], hz⟩
      · obtain ⟨z, rfl, hz⟩ := hl
        exact ⟨z, by rw [hx], hz⟩
      · obtain ⟨z, rfl, hz⟩ := hc
        exact ⟨(n, z, ms), rfl, rfl, ⟨hv, hz, by show ms.length ≤ 10; omega⟩, fun d hd => hd⟩
  refine sv_seq (sv_if (et_test (ev_eqI (ev_var rfl) ev_int)) (fun _ => ?_) fun _ => sv_next ?_)
  · refine sv_seq (sv_asg (ev_callI (9 : Int) (ea_tp' rfl (ea_cons' (ev_var rfl) ea_nil)) ⟨by decide, by decide⟩) fun d hd => ?_)
    obtain ⟨n, rfl, hv⟩ := hd
    have aL := hv.aLe
    have cL := hv.cLe
    have a1 := hv.a1
    have c1 := hv.c1
    have b0 := hv.b0
    have bl := hv.bl
    have hpos := hv.pos
    have hsz := hv.sz
    have p2 : ∀ {Γ : List C} {u v : Int} {tu tv : TE}, EvS g tu Γ (· = .int u) → EvS g tv Γ (· = .int v) → (u = 1 ∨ (u = 0 ∧ v = 1)) ∧ -1 ≤ v ∧ v ≤ 1 → EvS g (tTup (tCons tu (tCons tv tNil))) Γ (fun d => ∃ s : Int × Int, d = D.pl s ∧ (s.1 = 1 ∨ (s.1 = 0 ∧ s.2 = 1)) ∧ -1 ≤ s.2 ∧ s.2 ≤ 1) := fun {Γ u v tu tv} h1 h2 h3 => (ev_p2 h1 h2).imp fun d e => ⟨(u, v), e, h3⟩
    refine sv_seq (sv_asg (ev_pick (n := 4) (P := fun d => ∃ s : Int × Int, d = D.pl s ∧ (s.1 = 1 ∨ (s.1 = 0 ∧ s.2 = 1)) ∧ -1 ≤ s.2 ∧ s.2 ≤ 1) rfl (by decide) (ed_all (p2 ev_int ev_int (by decide)) (fun d h => h) (ed_all (p2 ev_int ev_int (by decide)) (fun d h => h) (ed_all (p2 ev_int ev_int (by decide)) (fun d h => h) (ed_all (p2 ev_int (ev_un ev_int) (by decide)) (fun d h => h) ed_all0)))) (ev_draw rfl ev_int (by decide) (by decide))) fun d hd => ?_)
    obtain ⟨⟨s0, s1⟩, rfl, hs, s2, s3⟩ := hd
    dsimp only at hs s2 s3
    refine sv_seq (sv_asg (ev_lett rfl rfl hv) fun d hd => ?_)
    obtain ⟨z, rfl, hz⟩ := hd
    have hs0 : -(2 ^ 64) < s0 ∧ s0 < 2 ^ 64 := by omega
    have hs1 : -(2 ^ 64) < s1 ∧ s1 < 2 ^ 64 := by omega
    have eab : ∀ {Γ : List C}, Γ[3]? = some (.d (D.nt n)) → Γ[5]? = some (.d (D.pl (s0, s1))) → EvS g (tOp (rI0 fun i j => .int (i + j)) (tOp (rI CMul fun i j => .int (i * j)) (tOp (rIxT g.K) (tVar 3) (tC (.int 1))) (tOp (rIxT g.K) (tVar 5) (tC (.int 0)))) (tOp (rI CMul fun i j => .int (i * j)) (tOp (rIxT g.K) (tVar 3) (tC (.int 2))) (tOp (rIxT g.K) (tVar 5) (tC (.int 1))))) Γ (· = .int (n.b * s0 + n.c * s1)) := fun h3 h5 => ev_add (ev_I (ev_t1 (ev_var h3)) (ev_t0 (ev_var h5)) (.inr hs0)) (ev_I (ev_t2 (ev_var h3)) (ev_t1 (ev_var h5)) (.inr hs1))
    refine sv_seq (sv_asg (ev_pick (n := 3) (P := fun d => ∃ k : Int, d = .int k ∧ 1 ≤ k) rfl (by decide) (ed_all ev_int (fun d h => ⟨1, h, by decide⟩) (ed_all ev_int (fun d h => ⟨2, h, by decide⟩) (ed_all (ev_callI (n.a, n.b * s0 + n.c * s1) (ea_cons' (ev_t0 (ev_var rfl)) (ea_cons' (eab rfl rfl) ea_nil)) trivial) (fun d h => ⟨_, h, ?_⟩) ed_all0))) (ev_draw rfl ev_int (by decide) (by decide))) fun d hd => ?_)
    · have := Int.gcd_pos_of_ne_zero_left (n.b * s0 + n.c * s1) (show n.a ≠ 0 by omega)
      show (1 : Int) ≤ (Int.gcd n.a (n.b * s0 + n.c * s1) : Nat)
      omega
    obtain ⟨k, rfl, hk1⟩ := hd
    refine sv_seq (sv_asg (A := fun d => ∃ k : Int, d = .int k ∧ 1 ≤ k ∧ k ≤ n.a * n.c) (ev_if (et_and (et_test (ev_eqI (ev_I (ev_I (ev_t0 (ev_var rfl)) (ev_t0 (ev_var rfl)) (.inr hs0)) (ev_var rfl) (by show 0 < k; omega)) ev_int)) fun _ => et_test (ev_eqI (ev_I (eab rfl rfl) (ev_var rfl) (by show 0 < k; omega)) ev_int)) (fun h => (ev_var rfl).imp fun d e => ⟨k, e, hk1, ?_⟩) fun _ => ev_int.imp fun d e => ⟨1, e, by decide, hpos⟩) fun d hd => ?_)
    · obtain ⟨e1, e2⟩ := Bool.and_eq_true_iff.mp h.symm
      have e1 : n.a * s0 % k = 0 := of_decide_eq_true e1
      have e2 : (n.b * s0 + n.c * s1) % k = 0 := of_decide_eq_true e2
      have q1 := Int.mul_le_mul_of_nonneg_left c1 (show 0 ≤ n.a by omega)
      have q2 := Int.mul_le_mul_of_nonneg_right a1 (show 0 ≤ n.c by omega)
      rcases hs with rfl | ⟨rfl, rfl⟩
      · rw [Int.mul_one] at e1
        have := dvd_le a1 e1
        omega
      · rw [Int.mul_zero, Int.zero_add, Int.mul_one] at e2
        have := dvd_le c1 e2
        omega
    obtain ⟨k', rfl, k1, k2⟩ := hd
    have hzl := hz.len
    refine sv_ret (made_tup rfl hv (EvS.imp (ev_joinOnes (n := (n.a * n.c).toNat) (Q := fun c => c ∈ z.cps.toList) (by omega) (EvL.imp (el_lc (vs := [9, 10]) (P := (· = (spots n.a n.c).map D.pl)) (ei_list' (ev_callI n (ea_cons' (ev_var rfl) ea_nil) (hv.mono (by decide)))) (fun _ e => by rw [e, List.length_map, spots_len]; omega) (fun ds i acc => i ≤ ds.length → acc.length = i ∧ ∀ e ∈ acc, ∃ c, e = .str (one c) ∧ c ∈ z.cps.toList) (fun _ _ _ => ⟨rfl, fun _ h => by cases h⟩) fun ds j d acc e hd ha => ?_) fun l hl => ?_)) fun d hd => ?_))
    · subst e
      have hlt := (List.getElem?_eq_some_iff.mp hd).1
      obtain ⟨h1, h2⟩ := ha (Nat.le_of_lt hlt)
      obtain ⟨⟨px, py⟩, hp, rfl⟩ := List.mem_map.mp (List.mem_of_getElem? hd)
      refine ⟨[9, 10], _, fun i h => h, eg_2, _, et_yes, fun _ => ?_, fun h => by cases h⟩
      refine EvS.imp (P := fun e => ∃ c, e = .str (one c) ∧ c ∈ z.cps.toList) (ev_ixSs (ev_var rfl) (ev_I (ev_add (ev_I (ev_var rfl) (ev_t0 (ev_var rfl)) (.inr hs0)) (ev_I (ev_var rfl) (ev_t1 (ev_var rfl)) (.inr hs1))) (ev_var rfl) (by show 0 < k'; omega)) fun x y hx hy => ?_) fun e he _ => ⟨by rw [List.length_append, h1]; rfl, fun x hx => ?_⟩
      · have m0 := Int.emod_nonneg (px * s0 + py * s1) (show k' ≠ 0 by omega)
        have m1 := Int.emod_lt_of_pos (px * s0 + py * s1) (show 0 < k' by omega)
        obtain ⟨c, hc, hm⟩ := str_at (z := z) m0 (by omega)
        exact ⟨z, _, c, hx, hy, Evl.sz_of (by omega), hc, c, rfl, hm⟩
      · rcases List.mem_append.mp hx with h | h
        · exact h2 x h
        · rw [List.mem_singleton.mp h]; exact he
    · obtain ⟨ds, rfl, h⟩ := hl
      obtain ⟨h1, h2⟩ := h (Nat.le_refl _)
      exact ⟨by rw [h1, List.length_map, spots_len], h2⟩
    · obtain ⟨z', rfl, h6, h7⟩ := hd
      exact ⟨z', rfl, by omega, fun c hc => hz.lw c (h7 c hc)⟩
  · refine sv_seq (sv_asg (ev_callI (4 : Int) (ea_tp' rfl (ea_cons' (EvS.to (y := .int 4) (ev_I (ev_var rfl) ev_int (show CDiv 9 2 from ⟨by decide, by decide⟩)) rfl) ea_nil)) ⟨by decide, by decide⟩) fun d hd => ?_)
    obtain ⟨n, rfl, hv⟩ := hd
    have hv := hv.mono (show (4 : Int) ≤ 9 by decide)
    refine sv_ret (ev_call (As := fun cs => ∃ z, cs = [.tp, .d (D.nt n), .d (.str z), .d (.int 9)] ∧ VT n z) (ea_tp rfl (ea_cons (ev_var rfl) (ea_cons (ev_lett rfl rfl hv) (ea_cons' (ev_var rfl) ea_nil) (Ps := fun cs => ∃ z, cs = [.d (.str z), .d (.int 9)] ∧ VT n z) fun x l hx hl => ?_) (Ps := fun cs => ∃ z, cs = [.d (D.nt n), .d (.str z), .d (.int 9)] ∧ VT n z) fun x l hx hl => ?_) fun l hl => ?_) fun cs hc => ?_)
    · obtain ⟨z, rfl, hz⟩ := hx
      exact ⟨z, by rw [hl], hz⟩
    · obtain ⟨z, rfl, hz⟩ := hl
      exact ⟨z, by rw [hx], hz⟩
    · obtain ⟨z, rfl, hz⟩ := hl
      exact ⟨z, rfl, hz⟩
    · obtain ⟨z, rfl, hz⟩ := hc
      exact ⟨(n, z), rfl, rfl, ⟨hv, hz⟩, fun d hd => hd⟩
def sp__law_least (g : Gl) : Sp := pr g 2 (ι := Unit) (fun _ => [.tp, .d (.int 9)]) (fun _ => True) (fun _ r => Made r)
theorem cal__law_least (hK : g.K = K) (T : Blt mg) (h : Dfd K mg "_law_least" (topS 74)) (c__law_woven : C8.Cal P w K mg base 4 "_law_woven" (sp__law_woven g) []) (c__law_exact : C8.Cal P w K mg base 4 "_law_exact" (sp__law_exact g) []) : C8.Cal P w K mg base 5 "_law_least" (sp__law_least g) [] := by
  subst hK
  refine h.cal (k := 4) (N := ["_law_tape_here", "_law_most", "_law_net_here", "_law_text"]) (ps := ["_law_tape_here", "_law_most"]) (r := 2) (fun _ _ _ _ _ _ us hl => match us, hl with | [_, _], _ => rfl) (C8.fnScope_by (by decide +kernel)) rfl rfl fun f cdv A outer s H E hr => ?_
  have nd : List.Nodup (α := Str) ["_law_tape_here", "_law_most", "_law_net_here", "_law_text"] := by decide +kernel
  refine ⟨_, (pss_cons (ps_asg (C8.pe_c c__law_woven hr (by decide) rfl (pa_cons (pv 0) (pa_cons (pv 1) pa_nil))) (pgT (K := g.K) (n := 2) rfl (by rfl) (pgs_cons (pg_name (i := 2) nd rfl (.inl rfl)) (pgs_cons (pg_name (i := 3) nd rfl (.inl rfl)) pgs_nil))))
    (pss_one (ps_ret (C8.pe_c c__law_exact hr (by decide) rfl (pa_cons (pv 2) (pa_cons (pv 3) pa_nil)))))), fun i hp => ?_⟩
  refine sv_seq (sv_asg2 (ev_callI () (ea_tp' rfl (ea_cons' (ev_var rfl) ea_nil)) trivial) fun d hd => ?_)
  obtain ⟨n, z, rfl, hv, hz⟩ := hd
  refine ⟨_, _, rfl, ?_⟩
  refine sv_ret (ev_callI ((n, z) : Nt × Str) (ea_cons' (ev_var rfl) (ea_cons' (ev_var rfl) ea_nil)) ?_)
  exact ⟨hv, hz⟩
end
end K55
set_option maxHeartbeats 1000000
/-! Nets. -/
namespace K55
open PySem PySem.Spec PyProof.Rows L2
open Evl (Ex)
/-- what is known of the package's classes -/
structure Pk (K : PySem.W.Frag) (g : Gl) : Prop where
  clN : Cls K g.net
  clC : Cls K g.car
  clW : Cls K g.wov
  clP : Cls K g.part
  nN : NoAttr K g.net "own_numbers"
  nCn : NoAttr K g.car "own_net"
  nCt : NoAttr K g.car "own_text"
  nWn : NoAttr K g.wov "own_net"
  nWt : NoAttr K g.wov "own_text"
  nPc : NoAttr K g.part "own_colour"
  nPs : NoAttr K g.part "own_start"
  nPk : NoAttr K g.part "known"
  nPp : NoAttr K g.part "own_places"
  nPb : NoAttr K g.part "own_basis"
  nPo : NoAttr K g.part "own_border"
theorem piE {X : Cx} {K : PySem.W.Frag} {e : Expr} {ta : TA} {p pos tpos : PySem.Pos} {elts : List Expr} {kk : Nat} (h : X.K = K) (hg : L2.Gl X "enumerate") (hm : X.mg "enumerate" = none) (ha : PA X [e] ta) (hs : starEach [e] X.env = [(false, eval e X.env)] := by rfl) : PI X (.Tuple elts kk tpos) (.Call (.Name "enumerate" p) [e] [] pos) (iEnum K ta) := h ▸ pi_enum hg hm ha hs
section
variable {g : Gl} {Γ : List C} {ta tb : TE} {tl : TA} {A : D → Prop} {i : Nat} {Cl : Addr} {a b c : Int} {x : Str} {K : PySem.W.Frag}
theorem r_net {H : Hp} {v : V} (h : R g H v (.net a b c)) : ∃ p dx w, v = .ref p ∧ H p = some (.ins g.net dx [("own_numbers", w)]) ∧ R g H w (.tup [.int a, .int b, .int c]) := by
  cases h with
  | net h1 h2 => exact ⟨_, _, _, rfl, h1, h2⟩
theorem r_car {H : Hp} {v : V} (h : R g H v (.car a b c x)) : ∃ p dx Cl w, v = .ref p ∧ H p = some (.ins Cl dx [("own_net", w), ("own_text", .str x)]) ∧ (Cl = g.car ∨ Cl = g.wov) ∧ R g H w (.net a b c) := by
  cases h with
  | car h1 h2 h3 => exact ⟨_, _, _, _, rfl, h2, h1, h3⟩
theorem ob_net {m : List Addr} {H : Hp} {v : V} (h : R g (hid m H) v (.net a b c)) : ∃ p dx fs, v = .ref p ∧ H p = some (.ins g.net dx fs) := by
  obtain ⟨p, dx, w, rfl, h1, _⟩ := r_net h
  exact ⟨p, dx, _, rfl, (hid_some h1).2⟩
theorem ob_netm {m : List Addr} {H : Hp} {v : V} {mm : Str} (hm : mm ≠ "own_numbers") (h : R g (hid m H) v (.net a b c)) : ∃ p dx fs, v = .ref p ∧ H p = some (.ins g.net dx fs) ∧ fs.lookup mm = none := by
  obtain ⟨p, dx, w, rfl, h1, _⟩ := r_net h
  refine ⟨p, dx, _, rfl, (hid_some h1).2, ?_⟩
  have : (mm == ("own_numbers" : Str)) = false := beq_false_of_ne hm
  simp [List.lookup, this]
theorem ob_car {m : List Addr} {H : Hp} {v : V} (h : R g (hid m H) v (.car a b c x)) : ∃ p Cl dx fs, v = .ref p ∧ H p = some (.ins Cl dx fs) ∧ (Cl = g.car ∨ Cl = g.wov) := by
  obtain ⟨p, dx, Cl, w, rfl, h1, h2, _⟩ := r_car h
  exact ⟨p, Cl, dx, _, rfl, (hid_some h1).2, h2⟩
theorem ob_carm {m : List Addr} {H : Hp} {v : V} {mm : Str} (hm : mm ≠ "own_net" ∧ mm ≠ "own_text") (h : R g (hid m H) v (.car a b c x)) : ∃ p Cl dx fs, v = .ref p ∧ H p = some (.ins Cl dx fs) ∧ fs.lookup mm = none ∧ (Cl = g.car ∨ Cl = g.wov) := by
  obtain ⟨p, dx, Cl, w, rfl, h1, h2, _⟩ := r_car h
  refine ⟨p, Cl, dx, _, rfl, (hid_some h1).2, ?_, h2⟩
  have e1 : (mm == ("own_net" : Str)) = false := beq_false_of_ne hm.1
  have e2 : (mm == ("own_text" : Str)) = false := beq_false_of_ne hm.2
  simp [List.lookup, e1, e2]
theorem ev_nums (pk : Pk K g) (h : EvS g ta Γ (· = .net a b c)) : EvS g (tFld K ta "own_numbers") Γ (· = .tup [.int a, .int b, .int c]) := ev_fld h fun m H v r => by
  obtain ⟨p, dx, w, rfl, h1, h2⟩ := r_net r
  exact ⟨p, g.net, dx, _, w, rfl, (hid_some h1).2, pk.clN, pk.nN, rfl, h2⟩
theorem ev_onet (pk : Pk K g) (h : EvS g ta Γ (· = .car a b c x)) : EvS g (tFld K ta "own_net") Γ (· = .net a b c) := ev_fld h fun m H v r => by
  obtain ⟨p, dx, Cl, w, rfl, h1, h2, h3⟩ := r_car r
  rcases h2 with rfl | rfl
  · exact ⟨p, _, dx, _, w, rfl, (hid_some h1).2, pk.clC, pk.nCn, rfl, h3⟩
  · exact ⟨p, _, dx, _, w, rfl, (hid_some h1).2, pk.clW, pk.nWn, rfl, h3⟩
theorem ev_otext (pk : Pk K g) (h : EvS g ta Γ (· = .car a b c x)) : EvS g (tFld K ta "own_text") Γ (· = .str x) := ev_fld h fun m H v r => by
  obtain ⟨p, dx, Cl, w, rfl, h1, h2, h3⟩ := r_car r
  rcases h2 with rfl | rfl
  · exact ⟨p, _, dx, _, _, rfl, (hid_some h1).2, pk.clC, pk.nCt, rfl, .str x⟩
  · exact ⟨p, _, dx, _, _, rfl, (hid_some h1).2, pk.clW, pk.nWt, rfl, .str x⟩
end
abbrev D.ne (n : Nt) : D := .net n.a n.b n.c
section
theorem EvS.to' {g : Gl} {te : TE} {Γ : List C} {x y : D} (h : EvS g te Γ (· = x)) (e : x = y) : EvS g te Γ (· = y) := e ▸ h
variable {P : Program} {w : World} {K : PySem.W.Frag} {mg : Str → Option Value} {base : Heap} {g : Gl}
def sp_Net___init__ (g : Gl) : Sp := pri g 4 g.net (ι := Nt) (fun n => [.d (.int n.a), .d (.int n.b), .d (.int n.c)]) (fun n => 0 ≤ n.b ∧ n.b < n.a ∧ 1 ≤ n.c) (fun n d => d = D.ne n)
theorem fn_Net___init__ (hK : g.K = K) (T : Blt mg) (pk : Pk K g) {f : Addr} (h : Fnd K "__init__" "Net.__init__" (inClass (topS 25) 0) f) (c_are_numbers : C8.Cal P w K mg base 2 "are_numbers" (sp_are_numbers g) []) : FnM P w K mg base 3 f (sp_Net___init__ g) := by
  subst hK
  refine h.init (k := 2) (N := ["self", "a", "b", "c"]) (ps := ["self", "a", "b", "c"]) (r := 0) (fun _ _ _ _ _ _ us hl => match us, hl with | [_, _, _, _], _ => rfl) (C8.fnScope_by (by decide +kernel)) rfl rfl fun cdv A outer s H E hr => ?_
  refine ⟨_, (pss_cons (ps_if (pt_not (pt_val (C8.pe_c c_are_numbers hr (by decide) rfl (pa_cons (pe_tup (pa_cons (pv 1) (pa_cons (pv 2) (pa_cons (pv 3) pa_nil)))) pa_nil))))
      (pss_one ps_never)
      pss_nil)
    (pss_one (ps_fld (pv 0) (pe_tup (pa_cons (pv 1) (pa_cons (pv 2) (pa_cons (pv 3) pa_nil)))) rfl))), fun i y hp => ?_⟩
  obtain ⟨h1, h2, h3⟩ := hp
  refine sv_seq (sv_if (et_not (et_B (b := true) (EvS.to' (ev_callI (i.a, i.b, i.c) (ea_cons' (ev_p3 (ev_var rfl) (ev_var rfl) (ev_var rfl)) ea_nil) trivial) ?_))) (fun z => by cases z) fun _ => sv_next ?_)
  · rw [decide_eq_true h1, decide_eq_true h2, decide_eq_true h3]
    rfl
  · exact sv_fld (i := 0) rfl pk.clN pk.nN (fun z => by cases z) (by decide) (ev_p3 (ev_var rfl) (ev_var rfl) (ev_var rfl)) fun d e => ⟨_, _, rfl, by rw [e]; exact .net i.a i.b i.c, rfl⟩
def sp_Net_numbers (g : Gl) : Sp := pr g 1 (ι := Nt) (fun n => [.d (D.ne n)]) (fun _ => True) (fun n d => d = D.nt n)
theorem fn_Net_numbers (hK : g.K = K) (T : Blt mg) (pk : Pk K g) {f : Addr} (h : Fnd K "numbers" "Net.numbers" (inClass (topS 25) 3) f) : FnM P w K mg base 1 f (sp_Net_numbers g) := by
  subst hK
  refine h.ok (k := 0) (N := ["self"]) (ps := ["self"]) (r := 0) (fun _ _ _ _ _ _ us hl => match us, hl with | [_], _ => rfl) (C8.fnScope_by (by decide +kernel)) rfl rfl fun cdv A outer s H E hr => ?_
  refine ⟨_, (pss_one (ps_ret (fldK (K := g.K) rfl (pv 0) rfl))), fun i hp => ?_⟩
  exact sv_ret (ev_nums pk (ev_var rfl))
def sp_Net_size (g : Gl) : Sp := pr g 1 (ι := Nt) (fun n => [.d (D.ne n)]) (fun n => VN 100000 n) (fun n d => d = .int (n.a * n.c))
theorem fn_Net_size (hK : g.K = K) (T : Blt mg) (pk : Pk K g) {f : Addr} (h : Fnd K "size" "Net.size" (inClass (topS 25) 4) f) : FnM P w K mg base 1 f (sp_Net_size g) := by
  subst hK
  refine h.ok (k := 0) (N := ["self"]) (ps := ["self"]) (r := 0) (fun _ _ _ _ _ _ us hl => match us, hl with | [_], _ => rfl) (C8.fnScope_by (by decide +kernel)) rfl rfl fun cdv A outer s H E hr => ?_
  refine ⟨_, (pss_one (ps_ret (pe_op op_mul (pe_ix (ixT (K := g.K) rfl) (fldK (K := g.K) rfl (pv 0) rfl) pe_int (fun _ _ => rfl)) (pe_ix (ixT (K := g.K) rfl) (fldK (K := g.K) rfl (pv 0) rfl) pe_int (fun _ _ => rfl))))), fun i hp => ?_⟩
  have h1 := hp.aLe
  have h2 := hp.a1
  exact sv_ret (ev_I (ev_t0 (ev_nums pk (ev_var rfl))) (ev_t2 (ev_nums pk (ev_var rfl))) (.inl ⟨by omega, by omega⟩))
def sp_Net_place_in_cell (g : Gl) : Sp := pr g 2 (ι := Nt × (Int × Int)) (fun i => [.d (D.ne i.1), .d (D.pl i.2)]) (fun i => 1 ≤ i.1.a ∧ 1 ≤ i.1.c ∧ i.1.c ≤ 100000 ∧ ((0 ≤ i.1.b ∧ i.1.b ≤ 100000) ∨ (-100000 ≤ i.2.2 ∧ i.2.2 ≤ 100000))) (fun i d => d = D.pl (low i.1.a i.1.b i.1.c i.2))
theorem fn_Net_place_in_cell (hK : g.K = K) (T : Blt mg) (pk : Pk K g) {f : Addr} (h : Fnd K "place_in_cell" "Net.place_in_cell" (inClass (topS 25) 6) f) : FnM P w K mg base 1 f (sp_Net_place_in_cell g) := by
  subst hK
  refine h.ok (k := 0) (N := ["self", "place", "a", "b", "c", "rows"]) (ps := ["self", "place"]) (r := 4) (fun _ _ _ _ _ _ us hl => match us, hl with | [_, _], _ => rfl) (C8.fnScope_by (by decide +kernel)) rfl rfl fun cdv A outer s H E hr => ?_
  have nd : List.Nodup (α := Str) ["self", "place", "a", "b", "c", "rows"] := by decide +kernel
  refine ⟨_, (pss_cons (ps_asg (fldK (K := g.K) rfl (pv 0) rfl) (pgT (K := g.K) (n := 3) rfl (by rfl) (pgs_cons (pg_name (i := 2) nd rfl (.inl rfl)) (pgs_cons (pg_name (i := 3) nd rfl (.inl rfl)) (pgs_cons (pg_name (i := 4) nd rfl (.inl rfl)) pgs_nil)))))
    (pss_cons (ps_set (i := 5) nd rfl (.inl rfl) (pe_op op_fdiv (pe_ix (ixT (K := g.K) rfl) (pv 1) pe_int (fun _ _ => rfl)) (pv 4)))
    (pss_one (ps_ret (pe_tup (pa_cons (pe_op op_mod (pe_op op_sub (pe_ix (ixT (K := g.K) rfl) (pv 1) pe_int (fun _ _ => rfl)) (pe_op op_mul (pv 5) (pv 3))) (pv 2)) (pa_cons (pe_op op_sub (pe_ix (ixT (K := g.K) rfl) (pv 1) pe_int (fun _ _ => rfl)) (pe_op op_mul (pv 5) (pv 4))) pa_nil))))))), fun i hp => ?_⟩
  obtain ⟨⟨a, b, c⟩, x, y⟩ := i
  obtain ⟨h1, h2, h3, h4⟩ := hp
  dsimp only at h1 h2 h3 h4
  refine sv_seq (sv_asg3 (ev_nums pk (ev_var rfl)) fun d e => ⟨_, _, _, e, ?_⟩)
  refine sv_seq (sv_asg (ev_I (ev_t1 (ev_var rfl)) (ev_var rfl) ⟨by show (0 : Int) < c; omega, by show c < 1073741824; omega⟩) fun d e => ?_)
  subst e
  have hm : CMul (y / c) b := by
    rcases h4 with h4 | h4
    · exact .inr ⟨by omega, by omega⟩
    · refine .inl ⟨?_, ?_⟩
      · have := Int.le_ediv_of_mul_le (show 0 < c by omega) (show -100000 * c ≤ y by omega)
        omega
      · have := Int.ediv_le_ediv (show 0 < c by omega) h4.2
        have := Int.ediv_le_self c (show (0 : Int) ≤ 100000 by decide)
        omega
  exact sv_ret (ev_p2 (ev_I (ev_sub (ev_t0 (ev_var rfl)) (ev_I (ev_var rfl) (ev_var rfl) hm)) (ev_var rfl) (by show (0 : Int) < a; omega)) (ev_sub (ev_t1 (ev_var rfl)) (ev_I (ev_var rfl) (ev_var rfl) (.inr ⟨by show -(2 ^ 64) < c; omega, by show c < 2 ^ 64; omega⟩))))
def sp_Net___contains__ (g : Gl) : Sp := pr g 2 (ι := Nt × (Int × Int)) (fun i => [.d (D.ne i.1), .d (D.pl i.2)]) (fun i => 1 ≤ i.1.a ∧ 1 ≤ i.1.c ∧ i.1.c ≤ 100000 ∧ ((0 ≤ i.1.b ∧ i.1.b ≤ 100000) ∨ (-100000 ≤ i.2.2 ∧ i.2.2 ≤ 100000))) (fun i d => d = .bl (decide (low i.1.a i.1.b i.1.c i.2 = (0, 0))))
theorem fn_Net___contains__ (hK : g.K = K) (T : Blt mg) (pk : Pk K g) {f : Addr} (h : Fnd K "__contains__" "Net.__contains__" (inClass (topS 25) 7) f) (c_is_place : C8.Cal P w K mg base 2 "is_place" (sp_is_place g) []) (m_place_in_cell : C8.Met P w K mg base 1 g.net "place_in_cell" (sp_Net_place_in_cell g) []) : FnM P w K mg base 3 f (sp_Net___contains__ g) := by
  subst hK
  refine h.ok (k := 2) (N := ["self", "value"]) (ps := ["self", "value"]) (r := 0) (fun _ _ _ _ _ _ us hl => match us, hl with | [_, _], _ => rfl) (C8.fnScope_by (by decide +kernel)) rfl rfl fun cdv A outer s H E hr => ?_
  have nd : List.Nodup (α := Str) ["self", "value"] := by decide +kernel
  refine ⟨_, (pss_one (ps_ret (pe_and (C8.pe_c c_is_place hr (by decide) rfl (pa_cons (pv 1) pa_nil)) (pe_one (pe_cmpR (eqD (K := g.K) rfl hr.units) (C8.pe_mt m_place_in_cell hr (by decide) (pv 0) (pa_cons (pv 1) pa_nil)) (pe_tup (pa_cons pe_int (pa_cons pe_int pa_nil))) (nomark _)))))), fun i hp => ?_⟩
  exact sv_ret (EvS.to' (ev_andV (a := true) (b := decide (low i.1.a i.1.b i.1.c i.2 = (0, 0))) (ev_callI i.2 (ea_cons' (ev_var rfl) ea_nil) trivial) fun _ => ev_eqP (p := low i.1.a i.1.b i.1.c i.2) (q := (0, 0)) (ev_meth i (ev_var rfl) (fun m H v r => ob_netm (mm := "place_in_cell") (by decide) r) (ea_cons' (ev_var rfl) ea_nil) rfl hp) (ev_p2 ev_int ev_int)) rfl)
def sp_Net_spots (g : Gl) : Sp := pr g 1 (ι := Nt) (fun n => [.d (D.ne n)]) (fun n => VN 1000 n) (fun n d => ∃ ps : List (Int × Int), d = .lst (ps.map D.pl) ∧ (ps.length : Int) = n.a * n.c ∧ ∀ p ∈ ps, InC n.a n.c p)
theorem fn_Net_spots (hK : g.K = K) (T : Blt mg) (pk : Pk K g) {f : Addr} (h : Fnd K "spots" "Net.spots" (inClass (topS 25) 15) f) : FnM P w K mg base 1 f (sp_Net_spots g) := by
  subst hK
  refine h.ok (k := 0) (N := ["self", "a", "b", "c", "y", "x"]) (ps := ["self"]) (r := 5) (fun _ _ _ _ _ _ us hl => match us, hl with | [_], _ => rfl) (C8.fnScope_by (by decide +kernel)) rfl rfl fun cdv A outer s H E hr => ?_
  have nd : List.Nodup (α := Str) ["self", "a", "b", "c", "y", "x"] := by decide +kernel
  refine ⟨_, (pss_cons (ps_asg (fldK (K := g.K) rfl (pv 0) rfl) (pgT (K := g.K) (n := 3) rfl (by rfl) (pgs_cons (pg_name (i := 1) nd rfl (.inr rfl)) (pgs_cons (pg_name (i := 2) nd rfl (.inl rfl)) (pgs_cons (pg_name (i := 3) nd rfl (.inl rfl)) pgs_nil)))))
    (pss_one (ps_ret (pe_lc2 (own := [("y", 4), ("x", 5)]) (vs1 := [5]) (g := gName 4) (g1 := gName 5) rfl nd (pi_range1 rfl T.range (pa_cons (pv 3) pa_nil)) (blkOk_by (own := [("y", 4), ("x", 5)]) (N := ["self", "a", "b", "c", "y", "x"]) (sc := C8.fnScope (inClass (topS 25) 15)) (by decide +kernel)) (by decide) (fun _ _ _ _ _ => (pg_name (i := 4) nd rfl (.inl rfl))) (fun _ _ _ _ _ => pts_nil) (fun _ _ _ _ _ => (pi_range1 rfl T.range (pa_cons (pv 1) pa_nil))) (fun _ _ _ _ _ => (pg_name (i := 5) nd rfl (.inl rfl))) (fun _ _ _ _ _ => pts_nil) (fun _ _ _ _ _ => (pe_tup (pa_cons (pv 5) (pa_cons (pv 4) pa_nil)))))))), fun i hp => ?_⟩
  obtain ⟨a, b, c⟩ := i
  have h1 := hp.aLe
  have h2 := hp.cLe
  obtain ⟨a1, b0, bl, c1, sz⟩ := hp
  dsimp only at h1 h2 a1 b0 bl c1 sz
  have hl : ((List.range c.toNat).map fun (k : Nat) => D.int (k : Int)).length * ((List.range a.toNat).map fun (k : Nat) => D.int (k : Int)).length = c.toNat * a.toNat := by rw [List.length_map, List.length_map, List.length_range, List.length_range]
  have hz : ((c.toNat * a.toNat : Nat) : Int) = a * c := by rw [Int.natCast_mul, Int.toNat_of_nonneg (by omega), Int.toNat_of_nonneg (by omega), Int.mul_comm]
  refine sv_seq (sv_asg3 (ev_nums pk (ev_var rfl)) fun d e => ⟨_, _, _, e, ?_⟩)
  refine sv_ret (EvS.imp (EvL.ev (el_lc2 (Pd := fun d => ∃ p, d = D.pl p ∧ InC a c p) (ei_rng1 (n := c.toNat) (EvS.to (ev_var rfl) (by rw [Int.toNat_of_nonneg (by omega)])) (by omega)) (fun d hd => ei_rng1 (n := a.toNat) (EvS.to (ev_var rfl) (by rw [Int.toNat_of_nonneg (by omega)])) (by omega)) (by rw [hl]; omega) (by decide) (by decide) fun d hd e he => ?_)) fun d hd => ?_)
  · obtain ⟨y, hy, rfl⟩ := List.mem_map.mp hd
    obtain ⟨x, hx, rfl⟩ := List.mem_map.mp he
    have hy := List.mem_range.mp hy
    have hx := List.mem_range.mp hx
    exact (ev_p2 (ev_var rfl) (ev_var rfl)).imp fun d e => ⟨((x : Int), (y : Int)), e, by show 0 ≤ (x : Int); omega, by show (x : Int) < a; omega, by show 0 ≤ (y : Int); omega, by show (y : Int) < c; omega⟩
  · obtain ⟨l, rfl, h3, h4⟩ := hd
    have : ∃ ps : List (Int × Int), l = ps.map D.pl ∧ ∀ p ∈ ps, InC a c p := by
      clear h3
      induction l with
      | nil => exact ⟨[], rfl, fun _ h => by cases h⟩
      | cons d l ih =>
        obtain ⟨p, rfl, hp⟩ := h4 _ List.mem_cons_self
        obtain ⟨ps, rfl, hps⟩ := ih fun d hd => h4 d (List.mem_cons_of_mem _ hd)
        exact ⟨p :: ps, rfl, fun x hx => by rcases List.mem_cons.mp hx with e | e; rw [e]; exact hp; exact hps x e⟩
    obtain ⟨ps, rfl, hps⟩ := this
    rw [List.length_map, hl] at h3
    exact ⟨ps, rfl, by rw [h3]; exact hz, hps⟩
end
end K55
set_option maxHeartbeats 1000000
/-! Colours, the least cell. -/
namespace K55
open PySem PySem.Spec PyProof.Rows L2
open Evl (Ex)
/-- a carpet's sign at a place -/
def col (n : Nt) (z : Str) (p : Int × Int) : Nat := z.cps.toList.getD ((low n.a n.b n.c p).2 * n.a + (low n.a n.b n.c p).1).toNat 0
theorem col_at {n : Nt} {z : Str} (hv : VN 1000 n) (hz : (z.length : Int) = n.a * n.c) (p : Int × Int) : 0 ≤ (low n.a n.b n.c p).2 * n.a + (low n.a n.b n.c p).1 ∧ atI z.cps.toList ((low n.a n.b n.c p).2 * n.a + (low n.a n.b n.c p).1) = some (col n z p) ∧ col n z p ∈ z.cps.toList := by
  obtain ⟨h1, h2⟩ := at_in (low_in (b := n.b) hv.a1 hv.c1 p)
  have hl : z.cps.toList.length = z.length := rfl
  have hk : ((low n.a n.b n.c p).2 * n.a + (low n.a n.b n.c p).1).toNat < z.cps.toList.length := by omega
  have e : col n z p = z.cps.toList[((low n.a n.b n.c p).2 * n.a + (low n.a n.b n.c p).1).toNat] := by
    unfold col
    rw [List.getD_eq_getElem?_getD, List.getElem?_eq_getElem hk]
    rfl
  refine ⟨h1, ?_, by rw [e]; exact List.getElem_mem hk⟩
  have := atI_nat (xs := z.cps.toList) (j := ((low n.a n.b n.c p).2 * n.a + (low n.a n.b n.c p).1).toNat) (List.getElem?_eq_getElem hk)
  rw [Int.toNat_of_nonneg h1] at this
  rw [this, e]
theorem low_shift (a b c : Int) (p : Int × Int) : low a b c (p.1 + a, p.2) = low a b c p := by
  unfold low
  have e : p.1 + a - p.2 / c * b = p.1 - p.2 / c * b + a := by omega
  rw [e, Int.add_emod_right]
structure CarOk (n : Nt) (z : Str) : Prop where
  vn : VN 9 n
  len : (z.length : Int) = n.a * n.c
abbrev D.ca (n : Nt) (z : Str) : D := .car n.a n.b n.c z
section
variable {g : Gl} {Γ : List C} {te : TE}
theorem ev_Nnumbers {n : Nt} (h : EvS g te Γ (· = D.ne n)) : EvS g (tProp g.net (sp_Net_numbers g) [] E0 te) Γ (· = D.nt n) := ev_prop n h (fun m H v r => ob_net r) rfl trivial
theorem ev_Nsize {n : Nt} (h : EvS g te Γ (· = D.ne n)) (hv : VN 100000 n) : EvS g (tProp g.net (sp_Net_size g) [] E0 te) Γ (· = .int (n.a * n.c)) := ev_prop n h (fun m H v r => ob_net r) rfl hv
theorem ev_place {n : Nt} {p : Int × Int} {tp : TE} (h : EvS g te Γ (· = D.ne n)) (hp : EvS g tp Γ (· = D.pl p)) (hv : VN 1000 n) : EvS g (tMeth g.net "place_in_cell" (sp_Net_place_in_cell g) [] E0 te (tCons tp tNil)) Γ (· = D.pl (low n.a n.b n.c p)) :=
  ev_meth (n, p) h (fun m H v r => ob_netm (mm := "place_in_cell") (by decide) r) (ea_cons' hp ea_nil) rfl ⟨hv.a1, hv.c1, by have := hv.cLe; show n.c ≤ 100000; omega, .inl ⟨hv.b0, by have := hv.bl; have := hv.aLe; show n.b ≤ 100000; omega⟩⟩
theorem ev_spots {n : Nt} (h : EvS g te Γ (· = D.ne n)) (hv : VN 1000 n) : EvS g (tMeth g.net "spots" (sp_Net_spots g) [] E0 te tNil) Γ (fun d => ∃ ps : List (Int × Int), d = .lst (ps.map D.pl) ∧ (ps.length : Int) = n.a * n.c ∧ ∀ p ∈ ps, InC n.a n.c p) :=
  ev_meth n h (fun m H v r => ob_netm (mm := "spots") (by decide) r) ea_nil rfl hv
end
section
variable {P : Program} {w : World} {K : PySem.W.Frag} {mg : Str → Option Value} {base : Heap} {g : Gl}
def sp_colour_at (g : Gl) : Sp := pr g 3 (ι := Nt × Str × (Int × Int)) (fun i => [.d (D.ne i.1), .d (.str i.2.1), .d (D.pl i.2.2)]) (fun i => CarOk i.1 i.2.1) (fun i r => r = .str (one (col i.1 i.2.1 i.2.2)))
theorem cal_colour_at (hK : g.K = K) (T : Blt mg) (h : Dfd K mg "colour_at" (topS 34)) (m_place_in_cell : C8.Met P w K mg base 1 g.net "place_in_cell" (sp_Net_place_in_cell g) []) (m_spots : C8.Met P w K mg base 1 g.net "spots" (sp_Net_spots g) []) (p_Nnumbers : Prp P w K mg base 1 g.net "numbers" (sp_Net_numbers g)) (mk_Net : C8.Mak P w K mg base 3 "Net" g.net (sp_Net___init__ g) []) : C8.Cal P w K mg base 3 "colour_at" (sp_colour_at g) [] := by
  subst hK
  refine h.cal (k := 2) (N := ["net", "text", "place", "x", "y"]) (ps := ["net", "text", "place"]) (r := 2) (fun _ _ _ _ _ _ us hl => match us, hl with | [_, _, _], _ => rfl) (C8.fnScope_by (by decide +kernel)) rfl rfl fun f cdv A outer s H E hr => ?_
  have nd : List.Nodup (α := Str) ["net", "text", "place", "x", "y"] := by decide +kernel
  refine ⟨_, (pss_cons (ps_asg (C8.pe_mt m_place_in_cell hr (by decide) (pv 0) (pa_cons (pv 2) pa_nil)) (pgT (K := g.K) (n := 2) rfl (by rfl) (pgs_cons (pg_name (i := 3) nd rfl (.inl rfl)) (pgs_cons (pg_name (i := 4) nd rfl (.inl rfl)) pgs_nil))))
    (pss_one (ps_ret (pe_ix ix_str (pv 1) (pe_op op_add (pe_op op_mul (pv 4) (pe_ix (ixT (K := g.K) rfl) (pe_prp p_Nnumbers hr (by decide) (pv 0) rfl) pe_int (fun _ _ => rfl))) (pv 3)) (fun _ _ => rfl))))), fun i hp => ?_⟩
  obtain ⟨n, z, p⟩ := i
  have hv := hp.vn.mono (show (9 : Int) ≤ 1000 by decide)
  obtain ⟨h1, h2, h3⟩ := col_at hv hp.len p
  have h4 := hp.len
  have h5 := hp.vn.sz
  have h6 := hp.vn.aLe
  have h7 := hp.vn.a1
  dsimp only at h4 h5 h6 h7
  refine sv_seq (sv_asg2 (ev_place (ev_var rfl) (ev_var rfl) hv) fun d e => ⟨_, _, e, ?_⟩)
  exact sv_ret (ev_ixS (ev_var rfl) (ev_add (ev_I (ev_var rfl) (ev_t0 (ev_Nnumbers (ev_var rfl))) (.inr ⟨by show -(2 ^ 64) < n.a; omega, by show n.a < 2 ^ 64; omega⟩)) (ev_var rfl)) (Evl.sz_of (by show z.length ≤ 100000; omega)) h2)
def sp_is_kept (g : Gl) : Sp := pr g 3 (ι := Nt × Str × (Int × Int)) (fun i => [.d (D.ne i.1), .d (.str i.2.1), .d (D.pl i.2.2)]) (fun i => CarOk i.1 i.2.1) (fun i r => ∃ b, r = .bl b ∧ (i.2.2 = (i.1.a, 0) → b = true))
theorem cal_is_kept (hK : g.K = K) (T : Blt mg) (h : Dfd K mg "is_kept" (topS 35)) (c_colour_at : C8.Cal P w K mg base 3 "colour_at" (sp_colour_at g) []) (c_plus : C8.Cal P w K mg base 1 "plus" (sp_plus g) []) (m_place_in_cell : C8.Met P w K mg base 1 g.net "place_in_cell" (sp_Net_place_in_cell g) []) (m_spots : C8.Met P w K mg base 1 g.net "spots" (sp_Net_spots g) []) (p_Nnumbers : Prp P w K mg base 1 g.net "numbers" (sp_Net_numbers g)) (mk_Net : C8.Mak P w K mg base 3 "Net" g.net (sp_Net___init__ g) []) : C8.Cal P w K mg base 4 "is_kept" (sp_is_kept g) [] := by
  subst hK
  refine h.cal (k := 3) (N := ["net", "text", "shift", "place"]) (ps := ["net", "text", "shift"]) (r := 1) (fun _ _ _ _ _ _ us hl => match us, hl with | [_, _, _], _ => rfl) (C8.fnScope_by (by decide +kernel)) rfl rfl fun f cdv A outer s H E hr => ?_
  have nd : List.Nodup (α := Str) ["net", "text", "shift", "place"] := by decide +kernel
  refine ⟨_, (pss_cons (ps_for PassesOwn.never rfl (piL (K := g.K) rfl (C8.pe_mt0 m_spots hr (by decide) (pv 0))) (pg_name (i := 3) nd rfl (.inl rfl))
      (pss_one (ps_if (pt_cmpR op_ne (C8.pe_c c_colour_at hr (by decide) rfl (pa_cons (pv 0) (pa_cons (pv 1) (pa_cons (pv 3) pa_nil)))) (C8.pe_c c_colour_at hr (by decide) rfl (pa_cons (pv 0) (pa_cons (pv 1) (pa_cons (C8.pe_c c_plus hr (by decide) rfl (pa_cons (pv 3) (pa_cons (pv 2) pa_nil))) pa_nil)))) (nomark _))
          (pss_one (ps_ret pe_bl))
          pss_nil)))
    (pss_one (ps_ret pe_bl))), fun i hp => ?_⟩
  obtain ⟨n, z, sh⟩ := i
  have hv := hp.vn.mono (show (9 : Int) ≤ 1000 by decide)
  refine sv_seq (sv_for (ei_list (ev_spots (ev_var rfl) hv) fun x hx => ⟨_, hx.choose_spec.1, _, rfl⟩) (P := fun ds => ∃ ps : List (Int × Int), ds = ps.map D.pl) (fun ds _ Γ => ∃ x, Γ = [.d (D.ne n), .d (.str z), .d (D.pl sh), x]) (fun _ _ => ⟨_, rfl⟩) (fun ds j d Γ' hds hd hj => ?_) fun ds Γ' _ hj => ?_)
  · obtain ⟨ps, rfl⟩ := hds
    obtain ⟨x, rfl⟩ := hj
    obtain ⟨q, _, rfl⟩ := List.mem_map.mp (List.mem_of_getElem? hd)
    refine ⟨_, _, eg_name, ?_⟩
    refine sv_if (et_test (ev_neS (ev_callI (n, z, q) (ea_cons' (ev_var rfl) (ea_cons' (ev_var rfl) (ea_cons' (ev_var rfl) ea_nil))) hp) (ev_callI (n, z, (q.1 + sh.1, q.2 + sh.2)) (ea_cons' (ev_var rfl) (ea_cons' (ev_var rfl) (ea_cons' (ev_callI (q, sh) (ea_cons' (ev_var rfl) (ea_cons' (ev_var rfl) ea_nil)) trivial) ea_nil))) hp))) (fun h => sv_ret (ev_bl.imp fun d e => ⟨false, e, fun he => ?_⟩)) fun _ => sv_next ⟨_, rfl⟩
    dsimp only at he
    exfalso
    have e2 : col n z (q.1 + sh.1, q.2 + sh.2) = col n z q := by
      rw [he]
      show col n z (q.1 + n.a, q.2 + 0) = _
      rw [Int.add_zero]
      unfold col
      rw [low_shift]
    rw [e2] at h
    simp at h
  · obtain ⟨x, rfl⟩ := hj
    exact sv_ret (ev_bl.imp fun d e => ⟨true, e, fun _ => rfl⟩)
def sp_kept_net (g : Gl) : Sp := pr g 2 (ι := Nt × Str) (fun i => [.d (D.ne i.1), .d (.str i.2)]) (fun i => CarOk i.1 i.2) (fun i r => ∃ k, r = D.ne k ∧ VN 9 k)
theorem cal_kept_net (hK : g.K = K) (T : Blt mg) (h : Dfd K mg "kept_net" (topS 36)) (c_divisors : C8.Cal P w K mg base 1 "divisors" (sp_divisors g) []) (c_is_kept : C8.Cal P w K mg base 4 "is_kept" (sp_is_kept g) []) (m_place_in_cell : C8.Met P w K mg base 1 g.net "place_in_cell" (sp_Net_place_in_cell g) []) (m_spots : C8.Met P w K mg base 1 g.net "spots" (sp_Net_spots g) []) (p_Nnumbers : Prp P w K mg base 1 g.net "numbers" (sp_Net_numbers g)) (mk_Net : C8.Mak P w K mg base 3 "Net" g.net (sp_Net___init__ g) []) : C8.Cal P w K mg base 5 "kept_net" (sp_kept_net g) [] := by
  subst hK
  refine h.cal (k := 4) (N := ["net", "text", "a", "b", "c", "width", "rows", "right", "number"]) (ps := ["net", "text"]) (r := 7) (fun _ _ _ _ _ _ us hl => match us, hl with | [_, _], _ => rfl) (C8.fnScope_by (by decide +kernel)) rfl rfl fun f cdv A outer s H E hr => ?_
  have nd : List.Nodup (α := Str) ["net", "text", "a", "b", "c", "width", "rows", "right", "number"] := by decide +kernel
  refine ⟨_, (pss_cons (ps_asg (pe_prp p_Nnumbers hr (by decide) (pv 0) rfl) (pgT (K := g.K) (n := 3) rfl (by rfl) (pgs_cons (pg_name (i := 2) nd rfl (.inl rfl)) (pgs_cons (pg_name (i := 3) nd rfl (.inl rfl)) (pgs_cons (pg_name (i := 4) nd rfl (.inl rfl)) pgs_nil)))))
    (pss_cons (ps_set (i := 5) nd rfl (.inl rfl) (pe_ix (ixL (K := g.K) rfl) (pe_lc (own := [("number", 8)]) (g := gName 8) rfl nd (piL (K := g.K) rfl (C8.pe_c c_divisors hr (by decide) rfl (pa_cons (pv 2) pa_nil))) (blkOk_by (own := [("number", 8)]) (N := ["net", "text", "a", "b", "c", "width", "rows", "right", "number"]) (sc := C8.fnScope (topS 36)) (by decide +kernel)) (fun _ _ _ _ _ => (pg_name (i := 8) nd rfl (.inl rfl))) (fun _ _ _ _ _ => pts_one (pt_val (C8.pe_c c_is_kept hr (by decide) rfl (pa_cons (pv 0) (pa_cons (pv 1) (pa_cons (pe_tup (pa_cons (pv 8) (pa_cons pe_int pa_nil))) pa_nil)))))) (fun _ _ _ _ _ => (pv 8))) pe_int (fun _ _ => rfl)))
    (pss_cons (ps_for PassesOwn.never rfl (piL (K := g.K) rfl (C8.pe_c c_divisors hr (by decide) rfl (pa_cons (pv 4) pa_nil))) (pg_name (i := 6) nd rfl (.inl rfl))
      (pss_one (ps_for PassesOwn.never rfl (pi_range1 rfl T.range (pa_cons (pv 5) pa_nil)) (pg_name (i := 7) nd rfl (.inl rfl))
          (pss_one (ps_if (pt_val (C8.pe_c c_is_kept hr (by decide) rfl (pa_cons (pv 0) (pa_cons (pv 1) (pa_cons (pe_tup (pa_cons (pv 7) (pa_cons (pv 6) pa_nil))) pa_nil)))))
              (pss_one (ps_ret (C8.pe_mk mk_Net hr (by decide) rfl (pa_cons (pv 5) (pa_cons (pv 7) (pa_cons (pv 6) pa_nil))))))
              pss_nil)))))
    (pss_one (ps_ret (pv 0)))))), fun i hp => ?_⟩
  obtain ⟨n, z⟩ := i
  have hv := hp.vn.mono (show (9 : Int) ≤ 1000 by decide)
  have a1 := hp.vn.a1
  have c1 := hp.vn.c1
  have aL := hp.vn.aLe
  have cL := hp.vn.cLe
  have sz := hp.vn.sz
  dsimp only at a1 c1 aL cL sz
  refine sv_seq (sv_asg3 (ev_Nnumbers (ev_var rfl)) fun d e => ⟨_, _, _, e, ?_⟩)
  refine sv_seq (sv_asg (A := fun d => ∃ k : Int, d = .int k ∧ 1 ≤ k ∧ k ≤ n.a) (ev_ixLs (EvL.ev (el_lc (vs := [8]) (P := fun ds => ∃ l : List Int, ds = l.map D.int ∧ (∀ x, x ∈ l ↔ (1 ≤ x ∧ x ≤ n.a ∧ n.a % x = 0)) ∧ l.length ≤ 1000) (ei_list (ev_callI n.a (ea_cons' (ev_var rfl) ea_nil) ⟨a1, by omega⟩) fun x hx => ?_) (fun ds h => ?_) (fun ds i acc => ∃ l : List Int, acc = l.map D.int ∧ (∀ x ∈ l, 1 ≤ x ∧ x ≤ n.a) ∧ (∀ j, j < i → ds[j]? = some (.int n.a) → l ≠ [])) (fun _ _ => ⟨[], rfl, fun _ h => (by cases h), fun j h => absurd h (Nat.not_lt_zero j)⟩) fun ds j d acc hds hd ha => ?_)) ev_int fun x y hx hy => ?_) fun d hd => ?_)
  · obtain ⟨l, e, hl, hn⟩ := hx
    exact ⟨_, e, l, rfl, hl, hn⟩
  · obtain ⟨l, rfl, _, h⟩ := h
    rw [List.length_map]
    omega
  · obtain ⟨l0, rfl, hl0, _⟩ := hds
    obtain ⟨l, rfl, h1, h2⟩ := ha
    obtain ⟨k, hk, rfl⟩ := List.mem_map.mp (List.mem_of_getElem? hd)
    obtain ⟨k1, k2, _⟩ := (hl0 k).mp hk
    refine ⟨[8], _, fun i h => h, eg_name, _, et_Bs (Pb := fun b => (k, (0 : Int)) = (n.a, 0) → b = true) (ev_callI (n, z, (k, (0 : Int))) (ea_cons' (ev_var rfl) (ea_cons' (ev_var rfl) (ea_cons' (ev_p2 (ev_var rfl) ev_int) ea_nil))) hp) (fun x hx => ⟨hx.choose, hx.choose_spec⟩), fun _ => ?_, fun h => ⟨l, rfl, h1, fun i hi hi2 => ?_⟩⟩
    · refine (ev_var rfl).imp fun e he => ⟨l ++ [k], by rw [he, List.map_append]; rfl, fun x hx => ?_, fun _ _ _ => by simp⟩
      rcases List.mem_append.mp hx with q | q
      · exact h1 x q
      · rw [List.mem_singleton.mp q]; exact ⟨k1, k2⟩
    · by_cases e : i = j
      · subst e
        rw [hd] at hi2
        cases hi2
        have := h rfl
        cases this
      · exact h2 i (by omega) hi2
  · obtain ⟨l', rfl, ds, ⟨l0, rfl, hl0, _⟩, l, rfl, h1, h2⟩ := hx
    subst hy
    have hm : n.a ∈ l0 := (hl0 n.a).mpr ⟨a1, Int.le_refl _, Int.emod_self⟩
    obtain ⟨j, hj, hj2⟩ := List.mem_iff_getElem.mp hm
    have hne : l ≠ [] := h2 j (by rw [List.length_map]; exact hj) (by rw [List.getElem?_map, List.getElem?_eq_getElem hj, hj2]; rfl)
    cases l with
    | nil => exact absurd rfl hne
    | cons k l => exact ⟨_, 0, .int k, rfl, rfl, atI_nat (j := 0) rfl, k, rfl, h1 k List.mem_cons_self⟩
  · obtain ⟨wd, rfl, w1, w2⟩ := hd
    refine sv_seq (sv_for (P := fun ds => ∃ l : List Int, ds = l.map D.int ∧ ∀ x, x ∈ l ↔ (1 ≤ x ∧ x ≤ n.c ∧ n.c % x = 0)) (ei_list (ev_callI n.c (ea_cons' (ev_var rfl) ea_nil) ⟨c1, by omega⟩) fun x hx => ⟨_, hx.choose_spec.1, _, rfl, hx.choose_spec.2.1⟩) (fun ds _ Γ => ∃ x y, Γ = [.d (D.ne n), .d (.str z), .d (.int n.a), .d (.int n.b), .d (.int n.c), .d (.int wd), x, y, .un]) (fun _ _ => ⟨_, _, rfl⟩) (fun ds j d Γ' hds hd hj => ?_) fun ds Γ' _ hj => ?_)
    · obtain ⟨l0, rfl, hl0⟩ := hds
      obtain ⟨x, y, rfl⟩ := hj
      obtain ⟨rows, hr0, rfl⟩ := List.mem_map.mp (List.mem_of_getElem? hd)
      obtain ⟨r1, r2, _⟩ := (hl0 rows).mp hr0
      refine ⟨_, _, eg_name, ?_⟩
      refine sv_forN (ei_rng1 (n := wd.toNat) (EvS.to (ev_var rfl) (by rw [Int.toNat_of_nonneg (by omega)])) (by omega)) (fun _ Γ => ∃ y, Γ = [.d (D.ne n), .d (.str z), .d (.int n.a), .d (.int n.b), .d (.int n.c), .d (.int wd), .d (.int rows), y, .un]) ⟨_, rfl⟩ (fun j2 d2 Γ2 hd2 hj2 => ?_) fun Γ2 hj2 => ?_
      · obtain ⟨y, rfl⟩ := hj2
        obtain ⟨right, hr1, rfl⟩ := List.mem_map.mp (List.mem_of_getElem? hd2)
        have hr1 := List.mem_range.mp hr1
        refine sv_if (B := fun _ => True) (et_Bs (ev_callI (n, z, ((right : Int), rows)) (ea_cons' (ev_var rfl) (ea_cons' (ev_var rfl) (ea_cons' (ev_p2 (ev_var rfl) (ev_var rfl)) ea_nil))) hp) fun x hx => ⟨hx.choose, hx.choose_spec.1, trivial⟩) (fun _ => ?_) fun _ => sv_next ⟨_, rfl⟩
        refine sv_ret (EvS.imp (ev_makeI (⟨wd, right, rows⟩ : Nt) (ea_cons' (ev_var rfl) (ea_cons' (ev_var rfl) (ea_cons' (ev_var rfl) ea_nil))) ⟨by show 0 ≤ (right : Int); omega, by show (right : Int) < wd; omega, r1⟩) fun d e => ⟨_, e, w1, by show 0 ≤ (right : Int); omega, by show (right : Int) < wd; omega, r1, ?_⟩)
        have := Int.mul_le_mul w2 r2 (by omega) (by omega)
        show wd * rows ≤ 9
        omega
      · obtain ⟨y, rfl⟩ := hj2
        exact ⟨_, _, rfl⟩
    · obtain ⟨x, y, rfl⟩ := hj
      exact sv_ret ((ev_var rfl).imp fun d e => ⟨n, e, hp.vn⟩)
def sp_least_cell (g : Gl) : Sp := pr g 2 (ι := Nt × Str) (fun i => [.d (D.ne i.1), .d (.str i.2)]) (fun i => CarOk i.1 i.2) (fun i r => ∃ k z, r = .tup [D.ne k, .str z] ∧ CarOk k z)
theorem cal_least_cell (hK : g.K = K) (T : Blt mg) (h : Dfd K mg "least_cell" (topS 37)) (c_kept_net : C8.Cal P w K mg base 5 "kept_net" (sp_kept_net g) []) (c_colour_at : C8.Cal P w K mg base 3 "colour_at" (sp_colour_at g) []) (m_place_in_cell : C8.Met P w K mg base 1 g.net "place_in_cell" (sp_Net_place_in_cell g) []) (m_spots : C8.Met P w K mg base 1 g.net "spots" (sp_Net_spots g) []) (p_Nnumbers : Prp P w K mg base 1 g.net "numbers" (sp_Net_numbers g)) (mk_Net : C8.Mak P w K mg base 3 "Net" g.net (sp_Net___init__ g) []) : C8.Cal P w K mg base 6 "least_cell" (sp_least_cell g) [] := by
  subst hK
  refine h.cal (k := 5) (N := ["net", "text", "least", "place"]) (ps := ["net", "text"]) (r := 2) (fun _ _ _ _ _ _ us hl => match us, hl with | [_, _], _ => rfl) (C8.fnScope_by (by decide +kernel)) rfl rfl fun f cdv A outer s H E hr => ?_
  have nd : List.Nodup (α := Str) ["net", "text", "least", "place"] := by decide +kernel
  refine ⟨_, (pss_cons (ps_set (i := 2) nd rfl (.inl rfl) (C8.pe_c c_kept_net hr (by decide) rfl (pa_cons (pv 0) (pa_cons (pv 1) pa_nil))))
    (pss_one (ps_ret (pe_tup (pa_cons (pv 2) (pa_cons (pe_join pe_str (pe_lc (own := [("place", 3)]) (g := gName 3) rfl nd (piL (K := g.K) rfl (C8.pe_mt0 m_spots hr (by decide) (pv 2))) (blkOk_by (own := [("place", 3)]) (N := ["net", "text", "least", "place"]) (sc := C8.fnScope (topS 37)) (by decide +kernel)) (fun _ _ _ _ _ => (pg_name (i := 3) nd rfl (.inl rfl))) (fun _ _ _ _ _ => pts_nil) (fun _ _ _ _ _ => (C8.pe_c c_colour_at hr (by decide) rfl (pa_cons (pv 0) (pa_cons (pv 1) (pa_cons (pv 3) pa_nil))))))) pa_nil)))))), fun i hp => ?_⟩
  obtain ⟨n, z⟩ := i
  refine sv_seq (sv_asg (ev_callI (n, z) (ea_cons' (ev_var rfl) (ea_cons' (ev_var rfl) ea_nil)) hp) fun d hd => ?_)
  obtain ⟨k, rfl, hk⟩ := hd
  have h1 := hk.pos
  have h2 := hk.sz
  refine sv_ret (ev_tup (Ps := fun l => ∃ k z, D.tup l = .tup [D.ne k, .str z] ∧ CarOk k z) (ed_cons (ev_var rfl) (ed_cons (A := fun d => ∃ z', d = .str z' ∧ (z'.length : Int) = k.a * k.c) (EvS.imp (ev_joinOnes (n := (k.a * k.c).toNat) (Q := fun _ => True) (by omega) (EvL.imp (el_lc (vs := [3]) (P := fun ds => ∃ ps : List (Int × Int), ds = ps.map D.pl ∧ (ps.length : Int) = k.a * k.c) (ei_list (ev_spots (ev_var rfl) (hk.mono (by decide))) fun x hx => ⟨_, hx.choose_spec.1, _, rfl, hx.choose_spec.2.1⟩) (fun ds h => ?_) (fun ds i acc => i ≤ ds.length → acc.length = i ∧ ∀ e ∈ acc, ∃ c, e = .str (one c) ∧ True) (fun _ _ _ => ⟨rfl, fun _ h => by cases h⟩) fun ds j d acc hds hd ha => ?_) fun l hl => ?_)) fun d hd => ?_) ed_nil (Ps := fun l => ∃ z', l = [.str z'] ∧ (z'.length : Int) = k.a * k.c) fun x l hx hl => ?_) fun x l hx hl => ?_) (fun l hl => ?_) fun l hl => hl)
  · obtain ⟨ps, rfl, h⟩ := h
    rw [List.length_map]
    omega
  · obtain ⟨ps, rfl, h⟩ := hds
    have hlt := (List.getElem?_eq_some_iff.mp hd).1
    obtain ⟨h3, h4⟩ := ha (Nat.le_of_lt hlt)
    obtain ⟨q, _, rfl⟩ := List.mem_map.mp (List.mem_of_getElem? hd)
    refine ⟨[3], _, fun i h => h, eg_name, _, et_yes, fun _ => ?_, fun h => by cases h⟩
    refine EvS.imp (ev_callI (n, z, q) (ea_cons' (ev_var rfl) (ea_cons' (ev_var rfl) (ea_cons' (ev_var rfl) ea_nil))) hp) fun e he _ => ⟨by rw [List.length_append, h3]; rfl, fun x hx => ?_⟩
    rcases List.mem_append.mp hx with q | q
    · exact h4 x q
    · rw [List.mem_singleton.mp q]; exact ⟨_, he, trivial⟩
  · obtain ⟨ds, ⟨ps, rfl, h⟩, h5⟩ := hl
    obtain ⟨h3, h4⟩ := h5 (Nat.le_refl _)
    rw [List.length_map] at h3
    exact ⟨by omega, h4⟩
  · obtain ⟨z', rfl, h3, _⟩ := hd
    exact ⟨z', rfl, by omega⟩
  · obtain ⟨z', rfl, h3⟩ := hx
    exact ⟨z', by rw [hl], h3⟩
  · obtain ⟨z', rfl, h3⟩ := hl
    exact ⟨k, z', by rw [hx], hk, h3⟩
  · obtain ⟨k, z', e, _⟩ := hl
    cases e
    show 2 ≤ 100000
    decide
end
end K55
set_option maxHeartbeats 1000000
/-! Carpets are made. -/
namespace K55
open PySem PySem.Spec PyProof.Rows L2
open Evl (Ex)
theorem letter_in {c : Nat} (h : 97 ≤ c ∧ c ≤ 122) : c ∈ letters.cps.toList := by
  have : ∀ k : Fin 26, (97 + k.val) ∈ letters.cps.toList := by decide
  have h2 := this ⟨c - 97, by omega⟩
  have e : 97 + (c - 97) = c := by omega
  dsimp only at h2
  rw [e] at h2
  exact h2
section
variable {g : Gl} {Γ : List C} {ta tb te : TE} {tl tk : TA} {A P : D → Prop} {i : Nat} {Cl : Addr}
theorem ei_str {z : Str} (h : EvS g te Γ (· = .str z)) : EvI g (iStr te) Γ (· = z.cps.toList.map fun c => .str (one c)) := fun F m σ H e s Q q => h F m σ H e s _ fun v H1 d k1 a r => by
  subst a; cases r
  refine ⟨z, rfl, q _ H1 _ k1 rfl fun m' H' ex => ⟨?_, fun j d hd => ?_⟩⟩
  · show z.cps.size ≤ _
    rw [List.length_map]
    exact Nat.le_refl _
  · rw [List.getElem?_map] at hd
    cases hc : z.cps.toList[j]? with
    | none => rw [hc] at hd; cases hd
    | some c =>
      rw [hc] at hd
      cases hd
      have hlt := (List.getElem?_eq_some_iff.mp hc).1
      refine ⟨hlt, fun x H'' y => ?_⟩
      obtain ⟨rfl, c', h1, rfl⟩ := y
      have e2 : c' = c := by
        rw [← Array.getElem?_toList, hc] at h1
        cases h1
        rfl
      subst e2
      exact ⟨Ex.refl _, fun _ => .str _⟩
theorem ei_enum {ds : List D} (h : EvS g te Γ (· = .lst ds)) : EvI g (iEnum g.K (tCons te tNil)) Γ (fun es => es.length = ds.length ∧ ∀ (j : Nat) (d : D), es[j]? = some d → ∃ x, ds[j]? = some x ∧ d = D.tup [D.int (j : Int), x]) := fun F m σ H e s Q q => h F m σ H e s _ fun v H1 d k1 a r => by
  subst a
  cases r with
  | lst h1 h2 =>
    rename_i ad xs
    refine ⟨ad, xs, rfl, SqL.of (hid_some h1).2, q _ H1 (ds.mapIdx fun (j : Nat) (x : D) => D.tup [D.int (j : Int), x]) k1 ⟨by rw [List.length_mapIdx], fun j d hd => ?_⟩ fun m' H' ex => ⟨?_, fun j d hd => ?_⟩⟩
    · rw [List.getElem?_mapIdx] at hd
      cases hx : ds[j]? with
      | none => rw [hx] at hd; cases hd
      | some x => rw [hx] at hd; cases hd; exact ⟨x, rfl, rfl⟩
    · have h' := (hid_some (ex.lst h1)).2
      exact ⟨xs, SqL.of h', by rw [List.length_mapIdx, h2.len]; exact Nat.le_refl _⟩
    · have h' := SqL.of (K := g.K) (hid_some (ex.lst h1)).2
      rw [List.getElem?_mapIdx] at hd
      cases hx : ds[j]? with
      | none => rw [hx] at hd; cases hd
      | some x =>
        rw [hx] at hd
        cases hd
        have r' := h2.mono ex
        obtain ⟨w, hw, rw'⟩ := r'.getd hx
        refine ⟨⟨xs, w, h', hw⟩, fun v H'' y => ?_⟩
        obtain ⟨T, x', rfl, hT, rfl, hx'⟩ := y
        have e2 := hx' xs h'
        rw [hw] at e2
        cases e2
        refine ⟨Ex.new hT, fun occ => .tup ?_ (.cons (.int _) (.cons (rw'.mono (.of ?_)) .nil))⟩
        · rw [hid_out fun z => occ T z hT]
          exact upd_same
        · intro b o eb
          obtain ⟨q1, q2⟩ := hid_some eb
          rw [hid_out q1, upd_ne (ne_of_none q2 hT)]
          exact q2
/-- isinstance(l, (list, tuple)) -/
theorem ev_isLT {K : PySem.W.Frag} {ds : List D} (h : EvS g te Γ (· = .lst ds)) : EvS g (tCB (rIsiT K) (tCons te (tCons (tTup (tCons (tC (.ty "list")) (tCons (tC (.ty "tuple")) tNil))) tNil))) Γ (· = .bl true) := fun F m σ H e s Q q => h F m σ H e s _ fun v H1 d k1 a r => by
  subst a
  cases r with
  | lst h1 h2 =>
    refine ⟨by show 2 ≤ sizeLine; exact Evl.sz_of (by decide), fun p hp => ?_⟩
    have hh := (hid_some h1).2
    refine ⟨_, p, _, .type "list", [.type "list", .type "tuple"], true, rfl, upd_same, .cons (.ty _) (.cons (.ty _) .nil), .base (.lst (by rw [upd_ne (ne_of_none hh hp)]; exact hh)), ?_, q _ _ _ (k1.trans (kp_new hp)) rfl (.bl _)⟩
    exact kitAny_cons (b := true) (kit_ty (by decide +kernel)) (fun h => by cases h) fun _ => rfl
/-- C(e, k = v) -/
theorem ev_makeK {ι : Type} {n : Nat} {arg : ι → List C} {Pre : ι → Prop} {Post : ι → D → Prop} {Qd : D → Prop} (h1 : EvS g ta Γ A) (h2 : EvS g tb Γ P) (k : ∀ x y, A x → P y → ∃ i, [.d x, .d y] = arg i ∧ (arg i).length + 1 = n ∧ Pre i ∧ ∀ d, Post i d → Qd d) :
    EvS g (tMakeK Cl 1 1 (pri g n Cl arg Pre Post) (fun vs zs => vs ++ zs) E0 (tCons ta tNil) (tCons tb tNil)) Γ Qd := fun F m σ H e s Qk q =>
  h1 F m σ H e s _ fun v H1 x k1 a r => h2 F m σ H1 e (s.keep k1) _ fun u H2 y k2 b r2 => by
    obtain ⟨i, e2, h3, h4, h5⟩ := k x y a b
    have s2 := (s.keep k1).keep k2
    refine ⟨rfl, rfl, fun x' dx hx hdx hne => ?_⟩
    exact ⟨F.t, m, i, H2, x', dx, [v, u], rfl, hx, hdx, hne, rfl, h3, s2.occ, fun τ h => ⟨s2.tin τ h, s2.tape τ h⟩, by rw [← e2]; exact .cons (R.mono ((s.keep k1).lt k2).ex r) (.cons r2 .nil), h4, fun H' d k3 p r3 => ⟨rfl, q _ H' d ((k1.trans k2).trans k3) (h5 d p) r3⟩⟩
end
/-- an __init__ with one keyword -/
def FnMK (P : Program) (w : World) (K : PySem.W.Frag) (mg : Str → Option Value) (base : Heap) (k : Nat) (f : Addr) (n : Nat) (ks : List Str) (sp : Sp) : Prop := ∃ fd ps, FnOk P w K mg base CX0 k f fd ps sp ∧ KBn K fd ps n ks (fun us ws => us ++ ws) (fun vs zs => vs ++ zs)
section
variable {P : Program} {w : World} {K : PySem.W.Frag} {mg : Str → Option Value} {base : Heap} {x qual : Str} {st : Stmt} {f : Addr} {N ps : List Str} {k n r : Nat} {g : Gl} {ι : Type} {arg : ι → List C} {Pre : ι → Prop} {Post : ι → D → Prop}
theorem Fnd.initK {Cl : Addr} {j : Nat} {ks : List Str} (h : Fnd K x qual st f)
    (hb : ∀ (kV doc pm : Value) (an : Option Addr) (cdv ct : Value) (us ws : List Value), us.length = j → ws.length = ks.length → bindArgs (PySem.W.fnOf x qual (C8.fnArgs st) (C8.fnBody st) (C8.fnScope st) .none kV doc pm an cdv ct) ⟨us, ks.zip ws⟩ = pure (ps.zip (us ++ ws)))
    (S : FnScope N ps (C8.fnScope st)) (hn : ps.length = n) (hN : N.length = n + r)
    (hbody : ∀ (cdv : Value) (A : Around) (outer : List Env) (s : Shared) (H : Hp) (E : XK), Room k (A.deeper (envOfC qual (C8.fnScope st) s.heap.objs.size f cdv)) →
      ∃ t, PSs (cxOf CX0 P w K mg base N qual (C8.fnScope st) f cdv A outer s H E).nox (C8.fnBody st) t ∧ ∀ i y, Pre i → Sv g t ((.io y Cl [] :: arg i) ++ List.replicate r .un) { nx := fun Γ' => ∃ fs d, Γ'[0]? = some (.io y Cl fs) ∧ Ob g Cl fs d ∧ Post i d, rt := fun _ => False }) : FnMK P w K mg base (k + 1) f j ks (pri g n Cl arg Pre Post) := by
  obtain ⟨fd, F, df⟩ := h
  refine ⟨fd, ps, C8.fn0 F S (pri_len hn) fun cdv A outer s H vs Q E hr hsp => ?_, ?_, fun r1 r2 => r1.append r2⟩
  · obtain ⟨t, h1, h2⟩ := hbody cdv A outer s H E hr
    exact ⟨t, h1, init_run hN h2 hsp⟩
  · obtain ⟨oc, od, dV, kV, doc, pm, an, cdv, ct, osl, rfl, lk, hcd⟩ := F.ex
    have e : dV = .none := df
    subst e
    exact fun s us ws _ l1 l2 => .of_eq (hb kV doc pm an cdv ct us ws l1 l2)
end
theorem pe_mkK {X : Cx} {C f : Addr} {k j n : Nat} {x : Str} {p pos : PySem.Pos} {e : Expr} {es : List Expr} {kws : List Keyword} {t tk : TA} {ks : List Str} {sp : Sp} (F : FnMK X.prog X.w X.K X.mg X.base k f (n + 1) ks sp) (M : Mk X.K C f) (hm : X.mg x = some (.ref C)) (hr : Room j X.A) (hk : k + 1 ≤ j) (hg : L2.Gl X x) (ha : PA X (e :: es) t) (hkw : PK X kws tk)
    (hall : (backToKw pos (keywordEach kws X.env)).all (·.1.isSome) = true := by rfl) (hks : (backToKw pos (keywordEach kws X.env)).filterMap (·.1) = ks := by rfl) (hdb : (x == ("__debug__" : Str)) = false := by decide)
    (he : starEach (e :: es) X.env = (false, eval e X.env) :: starEach es X.env := by rfl) (hpl : ((backTo pos (starEach (e :: es) X.env)).any (·.1) || (backToKw pos (keywordEach kws X.env)).any (·.1.isNone)) = false := by rfl) :
    PE X (.Call (.Name x p) (e :: es) kws pos) (tMakeK C n ks.length sp (fun vs zs => vs ++ zs) E0 t tk) := by
  obtain ⟨fd, ps, Fo, b⟩ := F
  exact pe_makeK M Fo (hr.mono hk) hg hm b pass0 ha hkw hall hks hdb he hpl
section
variable {P : Program} {w : World} {K : PySem.W.Frag} {mg : Str → Option Value} {base : Heap} {g : Gl}
def sp_is_row (g : Gl) : Sp := pr g 3 (ι := Str × Int) (fun i => [.d (.str i.1), .d (.str letters), .d (.int i.2)]) (fun i => Lw i.1 ∧ 1 ≤ i.1.length ∧ (i.1.length : Int) ≤ i.2 ∧ i.2 ≤ 100000) (fun _ r => r = .bl true)
theorem cal_is_row (hK : g.K = K) (T : Blt mg) (h : Dfd K mg "is_row" (topS 31)) : C8.Cal P w K mg base 1 "is_row" (sp_is_row g) [] := by
  subst hK
  refine h.cal (k := 0) (N := ["value", "signs", "most", "sign"]) (ps := ["value", "signs", "most"]) (r := 1) (fun _ _ _ _ _ _ us hl => match us, hl with | [_, _, _], _ => rfl) (C8.fnScope_by (by decide +kernel)) rfl rfl fun f cdv A outer s H E hr => ?_
  have nd : List.Nodup (α := Str) ["value", "signs", "most", "sign"] := by decide +kernel
  refine ⟨_, (pss_one (ps_ret (pe_and (pe_callB (isiK (K := g.K) rfl) (by rfl) T.isinstance (by decide +kernel) (pa_cons (pv 0) (pa_cons (pe_bltn (v := .ty "str") (by rfl) T.str (by decide +kernel) rfl) pa_nil))) (pe_and (pe_chain op_le op_le pe_int (pe_callB call_len_str (by rfl) T.len PySem.boot_len (pa_cons (pv 0) pa_nil)) (pv 2)) (pe_one (pe_callB (allK (K := g.K) rfl rfl) (by rfl) T.all (by decide +kernel) (pa_cons (pe_lc (own := [("sign", 3)]) (g := gName 3) rfl nd (pi_str (pv 0)) (blkOk_by (own := [("sign", 3)]) (N := ["value", "signs", "most", "sign"]) (sc := C8.fnScope (topS 31)) (by decide +kernel)) (fun _ _ _ _ _ => (pg_name (i := 3) nd rfl (.inl rfl))) (fun _ _ _ _ _ => pts_nil) (fun _ _ _ _ _ => (pe_cmpR op_in_sign (pv 3) (pv 1) rfl))) pa_nil))))))), fun i hp => ?_⟩
  obtain ⟨z, most⟩ := i
  obtain ⟨h1, h2, h3, h4⟩ := hp
  dsimp only at h1 h2 h3 h4
  have hsz : z.length ≤ sizeLine := Evl.sz_of (by omega)
  refine sv_ret (EvS.to' (ev_andV (a := true) (b := true) (ev_isStr (ev_var rfl)) fun _ => EvS.to' (ev_andV (a := true) (b := true) (EvS.to' (ev_chain ev_int (ev_lenS (ev_var rfl) hsz) fun _ => ev_var rfl) ?_) fun _ => EvS.to' (ev_all (bs := z.cps.toList.map fun _ => true) (EvL.ev' (EvL.imp (el_map (f := fun _ => .bl true) (ei_str (ev_var rfl)) (by rw [List.length_map]; show z.length ≤ 100000; omega) (by decide) fun d hd => ?_) fun l hl => ?_))) ?_) rfl) rfl)
  · have e1 : decide ((1 : Int) ≤ (z.length : Int)) = true := decide_eq_true (by omega)
    have e2 : decide ((z.length : Int) ≤ most) = true := decide_eq_true h3
    show D.bl (decide ((1 : Int) ≤ (z.length : Int)) && decide ((z.length : Int) ≤ most)) = _
    rw [e1, e2]
    rfl
  · obtain ⟨c, hc, rfl⟩ := List.mem_map.mp hd
    exact EvS.to' (ev_inC (c := c) (z := letters) (ev_var rfl) (ev_var rfl)) (by rw [decide_eq_true (letter_in (h1 c hc))])
  · rw [hl, List.map_map, List.map_map]
    rfl
  · rw [List.all_map]
    exact congrArg D.bl (List.all_eq_true.mpr fun _ _ => rfl)
def sp_check_rows (g : Gl) : Sp := pr g 3 (ι := List Str × Int) (fun i => [.d (.lst (i.1.map D.str)), .d (.str letters), .d (.int 100)]) (fun i => 1 ≤ i.1.length ∧ i.1.length ≤ 100 ∧ 1 ≤ i.2 ∧ i.2 ≤ 100 ∧ ∀ z ∈ i.1, Lw z ∧ (z.length : Int) = i.2) (fun _ r => r = .non)
theorem cal_check_rows (hK : g.K = K) (T : Blt mg) (h : Dfd K mg "check_rows" (topS 32)) (c_is_row : C8.Cal P w K mg base 1 "is_row" (sp_is_row g) []) : C8.Cal P w K mg base 2 "check_rows" (sp_check_rows g) [] := by
  subst hK
  refine h.cal (k := 1) (N := ["rows", "signs", "most", "index", "row"]) (ps := ["rows", "signs", "most"]) (r := 2) (fun _ _ _ _ _ _ us hl => match us, hl with | [_, _, _], _ => rfl) (C8.fnScope_by (by decide +kernel)) rfl rfl fun f cdv A outer s H E hr => ?_
  have nd : List.Nodup (α := Str) ["rows", "signs", "most", "index", "row"] := by decide +kernel
  refine ⟨_, (pss_cons (ps_if (PW.pt (pw_or (pt_not (pt_val (pe_callB (isiTK (K := g.K) rfl) (by rfl) T.isinstance (by decide +kernel) (pa_cons (pv 0) (pa_cons (pe_tup (pa_cons (pe_bltn (v := .ty "list") (by rfl) T.list (by decide +kernel) rfl) (pa_cons (pe_bltn (v := .ty "tuple") (by rfl) T.tuple (by decide +kernel) rfl) pa_nil))) pa_nil))))) (pw_or1 (pt_not (pt_chain op_le op_le pe_int (pe_callB (lenK (K := g.K) rfl) (by rfl) T.len PySem.boot_len (pa_cons (pv 0) pa_nil)) (pv 2))))))
      (pss_one ps_never)
      pss_nil)
    (pss_one (ps_for PassesOwn.never rfl (piE (K := g.K) rfl (by rfl) T.enumerate (pa_cons (pv 0) pa_nil)) (pgT (K := g.K) (n := 2) rfl (by rfl) (pgs_cons (pg_name (i := 3) nd rfl (.inl rfl)) (pgs_cons (pg_name (i := 4) nd rfl (.inl rfl)) pgs_nil)))
      (pss_one (ps_if (PW.pt (pw_or (pt_not (pt_val (C8.pe_c c_is_row hr (by decide) rfl (pa_cons (pv 4) (pa_cons (pv 1) (pa_cons (pv 2) pa_nil)))))) (pw_or1 (pt_cmpR op_ne (pe_callB call_len_str (by rfl) T.len PySem.boot_len (pa_cons (pv 4) pa_nil)) (pe_callB call_len_str (by rfl) T.len PySem.boot_len (pa_cons (pe_ix (ixL (K := g.K) rfl) (pv 0) pe_int (fun _ _ => rfl)) pa_nil)) (nomark _)))))
          (pss_one ps_never)
          pss_nil))))), fun i hp => ?_⟩
  obtain ⟨zs, wd⟩ := i
  obtain ⟨h1, h2, h3, h4, h5⟩ := hp
  dsimp only at h1 h2 h3 h4 h5
  have hl : (zs.map D.str).length = zs.length := List.length_map _
  refine sv_seq (sv_if (et_or (a := false) (b := false) (EvT.imp (et_not (et_B (ev_isLT (ev_var rfl)))) fun b e => e) fun _ => EvT.imp (et_not (b := true) (et_test (EvS.to' (ev_chain ev_int (ev_lenL (ev_var rfl)) fun _ => ev_var rfl) ?_))) fun b e => e) (fun z => by cases z) fun _ => sv_next ?_)
  · rw [hl]
    have e1 : decide ((1 : Int) ≤ (zs.length : Int)) = true := decide_eq_true (by omega)
    have e2 : decide ((zs.length : Int) ≤ 100) = true := decide_eq_true (by omega)
    show D.bl (decide ((1 : Int) ≤ (zs.length : Int)) && decide ((zs.length : Int) ≤ 100)) = _
    rw [e1, e2]
    rfl
  · refine sv_for (ei_enum (ev_var rfl)) (fun _ _ Γ => ∃ x y, Γ = [.d (.lst (zs.map D.str)), .d (.str letters), .d (.int 100), x, y]) (fun _ _ => ⟨_, _, rfl⟩) (fun ds j d Γ' hds hd hj => ?_) fun ds Γ' _ hj => rfl
    obtain ⟨x, y, rfl⟩ := hj
    obtain ⟨x, hx, rfl⟩ := hds.2 j d hd
    obtain ⟨z, hz, rfl⟩ := List.mem_map.mp (List.mem_of_getElem? hx)
    obtain ⟨h6, h7⟩ := h5 z hz
    refine ⟨_, _, eg_2, ?_⟩
    cases zs with
    | nil => cases hz
    | cons z0 zs =>
      obtain ⟨h8, h9⟩ := h5 z0 List.mem_cons_self
      refine sv_if (et_or (a := false) (b := false) (EvT.imp (et_not (et_B (ev_callI (z, (100 : Int)) (ea_cons' (ev_var rfl) (ea_cons' (ev_var rfl) (ea_cons' (ev_var rfl) ea_nil))) ⟨h6, by show 1 ≤ z.length; omega, by show (z.length : Int) ≤ 100; omega, by show (100 : Int) ≤ 100000; decide⟩))) fun b e => e) fun _ => et_test (EvS.to' (ev_neI (ev_lenS (ev_var rfl) (Evl.sz_of (by omega))) (ev_lenS (ev_ixL (ev_var rfl) ev_int (atI_nat (j := 0) rfl)) (Evl.sz_of (by omega)))) ?_)) (fun z => by cases z) fun _ => sv_next ⟨_, _, rfl⟩
      rw [h7, h9, decide_eq_true rfl]
      rfl
def sp_checked_block (g : Gl) : Sp := pr g 2 (ι := List Str × Int × Int) (fun i => [.d (.lst (i.1.map D.str)), .d (.int i.2.2)]) (fun i => 1 ≤ i.1.length ∧ i.1.length ≤ 9 ∧ 1 ≤ i.2.1 ∧ i.2.1 ≤ 9 ∧ i.2.1 * i.1.length ≤ 9 ∧ ∀ z ∈ i.1, Lw z ∧ (z.length : Int) = i.2.1) (fun i r => ∃ k z, r = .tup [D.ne k, .str z] ∧ CarOk k z)
theorem cal_checked_block (hK : g.K = K) (T : Blt mg) (h : Dfd K mg "checked_block" (topS 33)) (c_check_rows : C8.Cal P w K mg base 2 "check_rows" (sp_check_rows g) []) (c_is_integer : C8.Cal P w K mg base 1 "is_integer" (sp_is_integer g) []) (gl_LETTERS : ∃ u, mg "LETTERS" = some u ∧ RelV (.str letters) u) (gl_MOST_ROWS : ∃ u, mg "MOST_ROWS" = some u ∧ RelV (.int 100) u) (gl_MOST_LETTERS : ∃ u, mg "MOST_LETTERS" = some u ∧ RelV (.int 1000) u) (m_place_in_cell : C8.Met P w K mg base 1 g.net "place_in_cell" (sp_Net_place_in_cell g) []) (m_spots : C8.Met P w K mg base 1 g.net "spots" (sp_Net_spots g) []) (p_Nnumbers : Prp P w K mg base 1 g.net "numbers" (sp_Net_numbers g)) (mk_Net : C8.Mak P w K mg base 3 "Net" g.net (sp_Net___init__ g) []) : C8.Cal P w K mg base 5 "checked_block" (sp_checked_block g) [] := by
  subst hK
  refine h.cal (k := 4) (N := ["rows", "shift", "width"]) (ps := ["rows", "shift"]) (r := 1) (fun _ _ _ _ _ _ us hl => match us, hl with | [_, _], _ => rfl) (C8.fnScope_by (by decide +kernel)) rfl rfl fun f cdv A outer s H E hr => ?_
  have nd : List.Nodup (α := Str) ["rows", "shift", "width"] := by decide +kernel
  refine ⟨_, (pss_cons (ps_expr (C8.pe_c c_check_rows hr (by decide) rfl (pa_cons (pv 0) (pa_cons (C8.pe_gc rfl gl_LETTERS) (pa_cons (C8.pe_gc rfl gl_MOST_ROWS) pa_nil)))))
    (pss_cons (ps_if (pt_cmpR op_gt (pe_op op_mul (pe_callB (lenK (K := g.K) rfl) (by rfl) T.len PySem.boot_len (pa_cons (pv 0) pa_nil)) (pe_callB call_len_str (by rfl) T.len PySem.boot_len (pa_cons (pe_ix (ixL (K := g.K) rfl) (pv 0) pe_int (fun _ _ => rfl)) pa_nil))) (C8.pe_gc rfl gl_MOST_LETTERS) (nomark _))
      (pss_one ps_never)
      pss_nil)
    (pss_cons (ps_if (pt_not (pt_val (C8.pe_c c_is_integer hr (by decide) rfl (pa_cons (pv 1) pa_nil))))
      (pss_one ps_never)
      pss_nil)
    (pss_cons (ps_set (i := 2) nd rfl (.inl rfl) (pe_callB call_len_str (by rfl) T.len PySem.boot_len (pa_cons (pe_ix (ixL (K := g.K) rfl) (pv 0) pe_int (fun _ _ => rfl)) pa_nil)))
    (pss_one (ps_ret (pe_tup (pa_cons (C8.pe_mk mk_Net hr (by decide) rfl (pa_cons (pv 2) (pa_cons (pe_op op_mod (pv 1) (pv 2)) (pa_cons (pe_callB (lenK (K := g.K) rfl) (by rfl) T.len PySem.boot_len (pa_cons (pv 0) pa_nil)) pa_nil)))) (pa_cons (pe_join pe_str (pv 0)) pa_nil))))))))), fun i hp => ?_⟩
  obtain ⟨zs, wd, sh⟩ := i
  obtain ⟨h1, h2, h3, h4, h5, h6⟩ := hp
  dsimp only at h1 h2 h3 h4 h5 h6
  have hl : (zs.map D.str).length = zs.length := List.length_map _
  refine sv_seq (sv_drop (ev_callI (zs, wd) (ea_cons' (ev_var rfl) (ea_cons' ev_str (ea_cons' ev_int ea_nil))) ⟨h1, by show zs.length ≤ 100; omega, h3, by show wd ≤ 100; omega, h6⟩) fun _ _ => ?_)
  obtain ⟨z0, zt, rfl⟩ : ∃ z0 zt, zs = z0 :: zt := by
    cases zs with
    | nil => cases h1
    | cons a b => exact ⟨a, b, rfl⟩
  obtain ⟨h7, h8⟩ := h6 z0 List.mem_cons_self
  have hz0 : z0.length ≤ sizeLine := Evl.sz_of (by omega)
  have el : ∀ {Γ : List C}, Γ[0]? = some (.d (.lst ((z0 :: zt).map D.str))) → EvS g (tCB (fun xs H Q => ∃ z : Str, xs = [.str z] ∧ z.length ≤ sizeLine ∧ Q (.int z.length) H) (tCons (tOp (rIxL g.K) (tVar 0) (tC (.int 0))) tNil)) Γ (· = .int wd) := fun h => EvS.to' (ev_lenS (ev_ixL (ev_var h) ev_int (atI_nat (j := 0) rfl)) hz0) (by rw [h8])
  have en : ∀ {Γ : List C}, Γ[0]? = some (.d (.lst ((z0 :: zt).map D.str))) → EvS g (tCB (fun xs H Q => ∃ x n, xs = [x] ∧ LenV g.K x H n ∧ Q (.int n) H) (tCons (tVar 0) tNil)) Γ (· = .int (z0 :: zt).length) := fun h => EvS.to' (ev_lenL (ev_var h)) (by rw [hl])
  have h9 : wd * ((z0 :: zt).length : Int) ≤ 9 := h5
  have h10 : ((z0 :: zt).length : Int) ≤ 9 := by exact_mod_cast h2
  have h11 : 1 ≤ ((z0 :: zt).length : Int) := by exact_mod_cast h1
  refine sv_seq (sv_if (et_test (EvS.to' (y := .bl false) (ev_cmp (ev_I (en rfl) (el rfl) (.inr ⟨by omega, by omega⟩)) ev_int) ?_)) (fun z => by cases z) fun _ => sv_next ?_)
  · refine congrArg D.bl (decide_eq_false ?_)
    rw [Int.mul_comm]
    omega
  refine sv_seq (sv_if (et_not (et_B (ev_callI sh (ea_cons' (ev_var rfl) ea_nil) trivial))) (fun z => by cases z) fun _ => sv_next ?_)
  refine sv_seq (sv_asg (el rfl) fun d e => ?_)
  subst e
  have hk : VN 9 ⟨wd, sh % wd, ((z0 :: zt).length : Int)⟩ := ⟨h3, Int.emod_nonneg _ (by omega), Int.emod_lt_of_pos _ (by omega), h11, h9⟩
  refine sv_ret (ev_tup (Ps := fun l => ∃ k z, D.tup l = .tup [D.ne k, .str z] ∧ CarOk k z) (ed_cons (ev_makeI (⟨wd, sh % wd, ((z0 :: zt).length : Int)⟩ : Nt) (ea_cons' (ev_var rfl) (ea_cons' (ev_I (ev_var rfl) (ev_var rfl) (by show 0 < wd; omega)) (ea_cons' (en rfl) ea_nil))) ⟨hk.b0, hk.bl, hk.c1⟩) (ed_cons (ev_join (P := fun d => ∃ z : Str, d = .str z ∧ (z.length : Int) = wd * ((z0 :: zt).length : Int)) ev_str (ev_var rfl) fun x hx => ⟨z0 :: zt, hx, ?_, _, rfl, ?_⟩) ed_nil (Ps := fun l => ∃ z : Str, l = [.str z] ∧ (z.length : Int) = wd * ((z0 :: zt).length : Int)) fun x l hx hl => ?_) fun x l hx hl => ?_) (fun l hl => ?_) fun l hl => hl)
  · have : ∀ l : List Str, (∀ z ∈ l, (z.length : Int) = wd) → (((l.map (·.length)).sum : Nat) : Int) = wd * l.length := by
      intro l
      induction l with
      | nil => intro _; simp
      | cons a l ih =>
        intro h
        have q1 := ih fun z hz => h z (List.mem_cons_of_mem _ hz)
        have q2 := h a List.mem_cons_self
        have e : wd * ((l.length + 1 : Nat) : Int) = wd * l.length + wd := by rw [Int.natCast_add, Int.mul_add]; simp
        rw [List.map_cons, List.sum_cons, List.length_cons, e]
        omega
    have q := this (z0 :: zt) fun z hz => (h6 z hz).2
    show _ + (z0 :: zt).length * 0 ≤ 16777216
    omega
  · have : ∀ l : List Str, (∀ z ∈ l, (z.length : Int) = wd) → (((l.map fun z => z.cps.toList).flatten.length : Nat) : Int) = wd * l.length := by
      intro l
      induction l with
      | nil => intro _; simp
      | cons a l ih =>
        intro h
        have q1 := ih fun z hz => h z (List.mem_cons_of_mem _ hz)
        have q2 : (a.cps.toList.length : Int) = wd := h a List.mem_cons_self
        have e : wd * ((l.length + 1 : Nat) : Int) = wd * l.length + wd := by rw [Int.natCast_add, Int.mul_add]; simp
        rw [List.map_cons, List.flatten_cons, List.length_append, List.length_cons, e]
        omega
    rw [len_cps, join_cps]
    exact this (z0 :: zt) fun z hz => (h6 z hz).2
  · obtain ⟨z, rfl, h⟩ := hx
    exact ⟨z, by rw [hl], h⟩
  · obtain ⟨z, rfl, h⟩ := hl
    exact ⟨_, z, by rw [hx], hk, h⟩
  · obtain ⟨k, z', e, _⟩ := hl
    cases e
    show 2 ≤ 100000
    decide
end
end K55
set_option maxHeartbeats 1000000
/-! Carpets. -/
namespace K55
open PySem PySem.Spec PyProof.Rows L2
open Evl (Ex)
/-- a carpet that is fit -/
def Car (r : D) : Prop := ∃ n z, r = D.ca n z ∧ CarOk n z
section
variable {P : Program} {w : World} {K : PySem.W.Frag} {mg : Str → Option Value} {base : Heap} {g : Gl}
def sp_Woven___init__ (g : Gl) : Sp := pri g 3 g.wov (ι := Nt × Str) (fun i => [.d (D.ne i.1), .d (.str i.2)]) (fun i => CarOk i.1 i.2) (fun _ r => Car r)
theorem fn_Woven___init__ (hK : g.K = K) (T : Blt mg) (pk : Pk K g) {f : Addr} (h : Fnd K "__init__" "Woven.__init__" (inClass (topS 39) 0) f) (c_least_cell : C8.Cal P w K mg base 6 "least_cell" (sp_least_cell g) []) : FnM P w K mg base 7 f (sp_Woven___init__ g) := by
  subst hK
  refine h.init (k := 6) (N := ["self", "net", "text"]) (ps := ["self", "net", "text"]) (r := 0) (fun _ _ _ _ _ _ us hl => match us, hl with | [_, _, _], _ => rfl) (C8.fnScope_by (by decide +kernel)) rfl rfl fun cdv A outer s H E hr => ?_
  refine ⟨_, (pss_one (ps_asg (C8.pe_c c_least_cell hr (by decide) rfl (pa_cons (pv 1) (pa_cons (pv 2) pa_nil))) (pgT (K := g.K) (n := 2) rfl (by rfl) (pgs_cons (pg_fld (K := g.K) rfl (pv 0)) (pgs_cons (pg_fld (K := g.K) rfl (pv 0)) pgs_nil))))), fun i y hp => ?_⟩
  obtain ⟨n, z⟩ := i
  refine sv_fld2 (i := 0) (l0 := y) (Cl := g.wov) rfl pk.clW pk.nWn pk.nWt (by decide) (ev_callI (n, z) (ea_cons' (ev_var rfl) (ea_cons' (ev_var rfl) ea_nil)) hp) fun d hd => ?_
  obtain ⟨k, z', rfl, hk⟩ := hd
  exact ⟨_, _, rfl, _, _, rfl, .car (.inr rfl) k.a k.b k.c z', k, z', rfl, hk⟩
def sp_Carpet___init__ (g : Gl) : Sp := pri g 3 g.car (ι := List Str × Int × Int) (fun i => [.d (.lst (i.1.map D.str)), .d (.int i.2.2)]) (fun i => 1 ≤ i.1.length ∧ i.1.length ≤ 9 ∧ 1 ≤ i.2.1 ∧ i.2.1 ≤ 9 ∧ i.2.1 * i.1.length ≤ 9 ∧ ∀ z ∈ i.1, Lw z ∧ (z.length : Int) = i.2.1) (fun _ r => Car r)
theorem fn_Carpet___init__ (hK : g.K = K) (T : Blt mg) (pk : Pk K g) {f : Addr} (h : Fnd K "__init__" "Carpet.__init__" (inClass (topS 38) 0) f) (c_checked_block : C8.Cal P w K mg base 5 "checked_block" (sp_checked_block g) []) (c_least_cell : C8.Cal P w K mg base 6 "least_cell" (sp_least_cell g) []) : FnMK P w K mg base 7 f 2 ["shift"] (sp_Carpet___init__ g) := by
  subst hK
  refine h.initK (j := 2) (ks := ["shift"]) (k := 6) (N := ["self", "rows", "shift", "net", "text"]) (ps := ["self", "rows", "shift"]) (r := 2) (fun _ _ _ _ _ _ us ws hl hk => match us, hl, ws, hk with | [_, _], _, [_], _ => rfl) (C8.fnScope_by (by decide +kernel)) rfl rfl fun cdv A outer s H E hr => ?_
  have nd : List.Nodup (α := Str) ["self", "rows", "shift", "net", "text"] := by decide +kernel
  refine ⟨_, (pss_cons (ps_asg (C8.pe_c c_checked_block hr (by decide) rfl (pa_cons (pv 1) (pa_cons (pv 2) pa_nil))) (pgT (K := g.K) (n := 2) rfl (by rfl) (pgs_cons (pg_name (i := 3) nd rfl (.inl rfl)) (pgs_cons (pg_name (i := 4) nd rfl (.inl rfl)) pgs_nil))))
    (pss_one (ps_asg (C8.pe_c c_least_cell hr (by decide) rfl (pa_cons (pv 3) (pa_cons (pv 4) pa_nil))) (pgT (K := g.K) (n := 2) rfl (by rfl) (pgs_cons (pg_fld (K := g.K) rfl (pv 0)) (pgs_cons (pg_fld (K := g.K) rfl (pv 0)) pgs_nil)))))), fun i y hp => ?_⟩
  refine sv_seq (sv_asg2 (ev_callI i (ea_cons' (ev_var rfl) (ea_cons' (ev_var rfl) ea_nil)) hp) fun d hd => ?_)
  obtain ⟨n, z, rfl, hn⟩ := hd
  refine ⟨_, _, rfl, ?_⟩
  refine sv_fld2 (i := 0) (l0 := y) (Cl := g.car) rfl pk.clC pk.nCn pk.nCt (by decide) (ev_callI (n, z) (ea_cons' (ev_var rfl) (ea_cons' (ev_var rfl) ea_nil)) hn) fun d hd => ?_
  obtain ⟨k, z', rfl, hk⟩ := hd
  exact ⟨_, _, rfl, _, _, rfl, .car (.inl rfl) k.a k.b k.c z', k, z', rfl, hk⟩
def sp_Carpet_on (g : Gl) : Sp := pr g 2 (ι := Nt × Str) (fun i => [.d (D.ne i.1), .d (.str i.2)]) (fun i => VN 9 i.1 ∧ VT i.1 i.2) (fun _ r => Car r)
theorem fn_Carpet_on (hK : g.K = K) (T : Blt mg) (pk : Pk K g) {f : Addr} (h : Fnd K "on" "Carpet.on" (inClass (topS 38) 1) f) (c_is_row : C8.Cal P w K mg base 1 "is_row" (sp_is_row g) []) (gl_MOST_PLACES : ∃ u, mg "MOST_PLACES" = some u ∧ RelV (.int 2000) u) (gl_LETTERS : ∃ u, mg "LETTERS" = some u ∧ RelV (.str letters) u) (p_Nsize : Prp P w K mg base 1 g.net "size" (sp_Net_size g)) (mk_Woven : C8.Mak P w K mg base 7 "Woven" g.wov (sp_Woven___init__ g) []) : FnM P w K mg base 9 f (sp_Carpet_on g) := by
  subst hK
  refine h.ok (k := 8) (N := ["net", "text"]) (ps := ["net", "text"]) (r := 0) (fun _ _ _ _ _ _ us hl => match us, hl with | [_, _], _ => rfl) (C8.fnScope_by (by decide +kernel)) rfl rfl fun cdv A outer s H E hr => ?_
  refine ⟨_, (pss_cons (ps_if (pt_cmpR op_gt (pe_prp p_Nsize hr (by decide) (pv 0) rfl) (C8.pe_gc rfl gl_MOST_PLACES) (nomark _))
      (pss_one ps_never)
      pss_nil)
    (pss_cons (ps_if (PW.pt (pw_or (pt_not (pt_val (C8.pe_c c_is_row hr (by decide) rfl (pa_cons (pv 1) (pa_cons (C8.pe_gc rfl gl_LETTERS) (pa_cons (C8.pe_gc rfl gl_MOST_PLACES) pa_nil)))))) (pw_or1 (pt_cmpR op_ne (pe_callB call_len_str (by rfl) T.len PySem.boot_len (pa_cons (pv 1) pa_nil)) (pe_prp p_Nsize hr (by decide) (pv 0) rfl) (nomark _)))))
      (pss_one ps_never)
      pss_nil)
    (pss_one (ps_ret (C8.pe_mk mk_Woven hr (by decide) rfl (pa_cons (pv 0) (pa_cons (pv 1) pa_nil))))))), fun i hp => ?_⟩
  obtain ⟨n, z⟩ := i
  obtain ⟨hv, ht⟩ := hp
  dsimp only at hv ht
  have h1 := hv.pos
  have h2 := hv.sz
  have h3 := ht.len
  have hb := hv.mono (show (9 : Int) ≤ 100000 by decide)
  refine sv_seq (sv_if (et_test (EvS.to' (y := .bl false) (ev_cmp (ev_Nsize (ev_var rfl) hb) ev_int) (congrArg D.bl (decide_eq_false (by show ¬ 2000 < n.a * n.c; omega))))) (fun z => by cases z) fun _ => sv_next ?_)
  refine sv_seq (sv_if (et_or (a := false) (b := false) (EvT.imp (et_not (et_B (ev_callI (z, (2000 : Int)) (ea_cons' (ev_var rfl) (ea_cons' ev_str (ea_cons' ev_int ea_nil))) ⟨ht.lw, by show 1 ≤ z.length; omega, by show (z.length : Int) ≤ 2000; omega, by show (2000 : Int) ≤ 100000; decide⟩))) fun b e => e) fun _ => et_test (EvS.to' (ev_neI (ev_lenS (ev_var rfl) (Evl.sz_of (by show z.length ≤ 100000; omega))) (ev_Nsize (ev_var rfl) hb)) (by rw [h3, decide_eq_true rfl]; rfl))) (fun z => by cases z) fun _ => sv_next ?_)
  exact sv_ret (ev_makeI (n, z) (ea_cons' (ev_var rfl) (ea_cons' (ev_var rfl) ea_nil)) ⟨hv, ht.len⟩)
def sp_Carpet_net (g : Gl) : Sp := pr g 1 (ι := Nt × Str) (fun i => [.d (D.ca i.1 i.2)]) (fun _ => True) (fun i r => r = D.ne i.1)
theorem fn_Carpet_net (hK : g.K = K) (T : Blt mg) (pk : Pk K g) {f : Addr} (h : Fnd K "net" "Carpet.net" (inClass (topS 38) 3) f) : FnM P w K mg base 1 f (sp_Carpet_net g) := by
  subst hK
  refine h.ok (k := 0) (N := ["self"]) (ps := ["self"]) (r := 0) (fun _ _ _ _ _ _ us hl => match us, hl with | [_], _ => rfl) (C8.fnScope_by (by decide +kernel)) rfl rfl fun cdv A outer s H E hr => ?_
  refine ⟨_, (pss_one (ps_ret (fldK (K := g.K) rfl (pv 0) rfl))), fun i hp => ?_⟩
  exact sv_ret (ev_onet pk (ev_var rfl))
def sp_Carpet_seen (g : Gl) : Sp := pr g 2 (ι := Nt × Str × (Int × Int)) (fun i => [.d (D.ca i.1 i.2.1), .d (D.pl i.2.2)]) (fun i => CarOk i.1 i.2.1) (fun i r => r = .str (one (col i.1 i.2.1 i.2.2)))
theorem fn_Carpet_seen (hK : g.K = K) (T : Blt mg) (pk : Pk K g) {f : Addr} (h : Fnd K "seen" "Carpet.seen" (inClass (topS 38) 7) f) (c_colour_at : C8.Cal P w K mg base 3 "colour_at" (sp_colour_at g) []) : FnM P w K mg base 4 f (sp_Carpet_seen g) := by
  subst hK
  refine h.ok (k := 3) (N := ["self", "place"]) (ps := ["self", "place"]) (r := 0) (fun _ _ _ _ _ _ us hl => match us, hl with | [_, _], _ => rfl) (C8.fnScope_by (by decide +kernel)) rfl rfl fun cdv A outer s H E hr => ?_
  refine ⟨_, (pss_one (ps_ret (C8.pe_c c_colour_at hr (by decide) rfl (pa_cons (fldK (K := g.K) rfl (pv 0) rfl) (pa_cons (fldK (K := g.K) rfl (pv 0) rfl) (pa_cons (pv 1) pa_nil)))))), fun i hp => ?_⟩
  exact sv_ret (ev_callI i (ea_cons' (ev_onet pk (ev_var rfl)) (ea_cons' (ev_otext pk (ev_var rfl)) (ea_cons' (ev_var rfl) ea_nil))) hp)
theorem ev_Cseen {Γ : List C} {i : Nat} {tp : TE} {n : Nt} {z : Str} {p : Int × Int} (h : Γ[i]? = some (.d (D.ca n z))) (hp : EvS g tp Γ (· = D.pl p)) (hc : CarOk n z) : EvS g (fun σ H Q => tMeth g.car "seen" (sp_Carpet_seen g) [] E0 (tVar i) (tCons tp tNil) σ H Q ∨ tMeth g.wov "seen" (sp_Carpet_seen g) [] E0 (tVar i) (tCons tp tNil) σ H Q) Γ (· = .str (one (col n z p))) :=
  ev_meth2 (n, z, p) h (fun m H v r => by
    obtain ⟨q, Cl, dx, fs, h1, h2, h3, h4⟩ := ob_carm (mm := "seen") (by decide) r
    exact ⟨q, Cl, dx, fs, h1, h2, h3, h4⟩) (ea_cons' hp ea_nil) rfl hc
theorem ev_Cnet {Γ : List C} {i : Nat} {n : Nt} {z : Str} (h : Γ[i]? = some (.d (D.ca n z))) : EvS g (fun σ H Q => tProp g.car (sp_Carpet_net g) [] E0 (tVar i) σ H Q ∨ tProp g.wov (sp_Carpet_net g) [] E0 (tVar i) σ H Q) Γ (· = D.ne n) :=
  ev_prop2 (n, z) h (fun m H v r => by
    obtain ⟨q, Cl, dx, fs, h1, h2, h3⟩ := ob_car r
    exact ⟨q, Cl, dx, fs, h1, h2, h3⟩) rfl trivial
def sp_Carpet___getitem__ (g : Gl) : Sp := pr g 2 (ι := Nt × Str × (Int × Int)) (fun i => [.d (D.ca i.1 i.2.1), .d (D.pl i.2.2)]) (fun i => CarOk i.1 i.2.1) (fun i r => r = .str (one (col i.1 i.2.1 i.2.2)))
theorem fn_Carpet___getitem__ (hK : g.K = K) (T : Blt mg) (pk : Pk K g) {f : Addr} (h : Fnd K "__getitem__" "Carpet.__getitem__" (inClass (topS 38) 8) f) (c_is_place : C8.Cal P w K mg base 2 "is_place" (sp_is_place g) []) (mC_seen : C8.Met P w K mg base 4 g.car "seen" (sp_Carpet_seen g) []) (mW_seen : C8.Met P w K mg base 4 g.wov "seen" (sp_Carpet_seen g) []) : FnM P w K mg base 5 f (sp_Carpet___getitem__ g) := by
  subst hK
  refine h.ok (k := 4) (N := ["self", "place"]) (ps := ["self", "place"]) (r := 0) (fun _ _ _ _ _ _ us hl => match us, hl with | [_, _], _ => rfl) (C8.fnScope_by (by decide +kernel)) rfl rfl fun cdv A outer s H E hr => ?_
  refine ⟨_, (pss_cons (ps_if (pt_not (pt_val (C8.pe_c c_is_place hr (by decide) rfl (pa_cons (pv 1) pa_nil))))
      (pss_one ps_never)
      pss_nil)
    (pss_one (ps_ret (pe_or2 (C8.pe_mt mC_seen hr (by decide) (pv 0) (pa_cons (pv 1) pa_nil)) (C8.pe_mt mW_seen hr (by decide) (pv 0) (pa_cons (pv 1) pa_nil)))))), fun i hp => ?_⟩
  refine sv_seq (sv_if (et_not (et_B (ev_callI i.2.2 (ea_cons' (ev_var rfl) ea_nil) trivial))) (fun z => by cases z) fun _ => sv_next ?_)
  exact sv_ret (ev_Cseen rfl (ev_var rfl) hp)
end
end K55
set_option maxHeartbeats 1000000
/-! Shifts: what they span, what a basis carries. -/
namespace K55
abbrev Pt := Int × Int
def pAdd (p q : Pt) : Pt := (p.1 + q.1, p.2 + q.2)
def pSub (p q : Pt) : Pt := (p.1 - q.1, p.2 - q.2)
def pNeg (p : Pt) : Pt := (-p.1, -p.2)
def pMul (k : Int) (p : Pt) : Pt := (k * p.1, k * p.2)
/-- closed under sums and differences -/
structure Grp (G : Pt → Prop) : Prop where
  zero : G (0, 0)
  add : ∀ p q, G p → G q → G (pAdd p q)
  neg : ∀ p, G p → G (pNeg p)
/-- in all that is closed and has the shifts -/
def Spn (ss : List Pt) (s : Pt) : Prop := ∀ G, Grp G → (∀ t ∈ ss, G t) → G s
theorem Spn.zero {ss : List Pt} : Spn ss (0, 0) := fun G g _ => g.zero
theorem Spn.of {ss : List Pt} {s : Pt} (h : s ∈ ss) : Spn ss s := fun G _ k => k s h
theorem Spn.add {ss : List Pt} {s t : Pt} (h1 : Spn ss s) (h2 : Spn ss t) : Spn ss (pAdd s t) := fun G g k => g.add _ _ (h1 G g k) (h2 G g k)
theorem Spn.neg {ss : List Pt} {s : Pt} (h1 : Spn ss s) : Spn ss (pNeg s) := fun G g k => g.neg _ (h1 G g k)
/-- multiples of one -/
def Ray (u s : Pt) : Prop := ∃ k : Int, s = (k * u.1, k * u.2)
theorem ray_grp (u : Pt) : Grp (Ray u) := by
  refine ⟨⟨0, by simp⟩, fun p q ⟨i, h1⟩ ⟨j, h2⟩ => ⟨i + j, ?_⟩, fun p ⟨i, h1⟩ => ⟨-i, ?_⟩⟩
  · rw [h1, h2]
    unfold pAdd
    simp [Int.add_mul]
  · rw [h1]
    unfold pNeg
    simp [Int.neg_mul]
/-- the lattice of (a, 0) and (b, c) -/
def Lat (a b c : Int) (s : Pt) : Prop := ∃ i j : Int, s = (i * a + j * b, j * c)
theorem lat_grp (a b c : Int) : Grp (Lat a b c) := by
  refine ⟨⟨0, 0, by simp⟩, fun p q ⟨i, j, h1⟩ ⟨k, l, h2⟩ => ⟨i + k, j + l, ?_⟩, fun p ⟨i, j, h1⟩ => ⟨-i, -j, ?_⟩⟩
  · rw [h1, h2]
    unfold pAdd
    simp [Int.add_mul]
    omega
  · rw [h1]
    unfold pNeg
    simp [Int.neg_mul]
    omega
theorem lat_low {a b c : Int} (ha : 1 ≤ a) (hc : 1 ≤ c) {s : Pt} : Lat a b c s ↔ low a b c s = (0, 0) := by
  constructor
  · rintro ⟨i, j, rfl⟩
    unfold low
    have h1 : j * c / c = j := Int.mul_ediv_cancel _ (by omega)
    dsimp only
    rw [h1]
    refine Prod.ext ?_ (by dsimp only; omega)
    dsimp only
    have : i * a + j * b - j * b = i * a := by omega
    rw [this, Int.mul_emod_left]
  · intro h
    unfold low at h
    obtain ⟨h1, h2⟩ := Prod.mk.inj h
    refine ⟨(s.1 - s.2 / c * b) / a, s.2 / c, Prod.ext ?_ ?_⟩
    · have := Int.ediv_mul_cancel (Int.dvd_of_emod_eq_zero h1)
      dsimp only
      omega
    · dsimp only; omega
/-- what a basis carries, as the program tells it -/
def carB : List Pt → Pt → Bool
  | [], s => decide (s = (0, 0))
  | [u], s => decide (s = ((if u.2 ≠ 0 then s.2.fdiv u.2 else s.1.fdiv u.1) * u.1, (if u.2 ≠ 0 then s.2.fdiv u.2 else s.1.fdiv u.1) * u.2))
  | u :: v :: _, s => decide (low u.1 v.1 v.2 s = (0, 0))
theorem car_ray {u s : Pt} (hu : u ≠ (0, 0)) (h : Ray u s) : carB [u] s = true := by
  obtain ⟨k, rfl⟩ := h
  obtain ⟨x, y⟩ := u
  unfold carB
  by_cases hy : y ≠ 0
  · have e : (k * y).fdiv y = k := Int.mul_fdiv_cancel k hy
    simp only [hy, e, ne_eq, not_false_eq_true, if_true, decide_true]
  · have hy : y = 0 := Classical.byContradiction hy
    subst hy
    have hx : x ≠ 0 := fun e => hu (by rw [e])
    have e : (k * x).fdiv x = k := Int.mul_fdiv_cancel k hx
    simp [e]
theorem car_lat {a b c : Int} (ha : 1 ≤ a) (hc : 1 ≤ c) {s : Pt} (h : Lat a b c s) : carB [(a, 0), (b, c)] s = true := by
  unfold carB
  exact decide_eq_true ((lat_low ha hc).mp h)
/-- a basis as the program makes them -/
inductive BOk : List Pt → Prop
  | nil : BOk []
  | one (x y : Int) : (x, y) ≠ (0, 0) → -100000 ≤ x ∧ x ≤ 100000 ∧ -100000 ≤ y ∧ y ≤ 100000 → BOk [(x, y)]
  | two (a b c : Int) : 1 ≤ a → 0 ≤ b → b < a → 1 ≤ c → c ≤ 100000 → BOk [(a, 0), (b, c)]
/-- of these shifts -/
structure Basis (ss bs : List Pt) : Prop where
  ok : BOk bs
  nil : ss = [] → bs = []
  car : ∀ s, Spn ss s → carB bs s = true
/-- one step of form_of -/
theorem form_step {a b c x y t : Int} {s : Pt} (h : ∃ i j k : Int, s = (i * a + j * b + k * x, j * c + k * y)) : ∃ i j k : Int, s = (i * a + j * x + k * (b - t * x), j * y + k * (c - t * y)) := by
  obtain ⟨i, j, k, rfl⟩ := h
  refine ⟨i, j * t + k, j, Prod.ext ?_ ?_⟩
  · dsimp only
    rw [Int.add_mul, Int.mul_sub, ← Int.mul_assoc]
    omega
  · dsimp only
    rw [Int.add_mul, Int.mul_sub, ← Int.mul_assoc]
    omega
theorem form_end {a b c x : Int} {s : Pt} (h : ∃ i j k : Int, s = (i * a + j * b + k * x, j * c + k * 0)) : Lat (Int.gcd a x) b c s := by
  obtain ⟨i, j, k, rfl⟩ := h
  obtain ⟨u, hu⟩ := Int.gcd_dvd_left a x
  obtain ⟨v, hv⟩ := Int.gcd_dvd_right a x
  generalize hd : ((Int.gcd a x : Nat) : Int) = d at hu hv ⊢
  refine ⟨i * u + k * v, j, Prod.ext ?_ ?_⟩
  · dsimp only
    rw [hu, hv, Int.add_mul]
    rw [show i * (d * u) = i * u * d by rw [Int.mul_comm d u, Int.mul_assoc], show k * (d * v) = k * v * d by rw [Int.mul_comm d v, Int.mul_assoc]]
    omega
  · dsimp only; omega
theorem lat_norm {a b c : Int} (ha : 1 ≤ a) {s : Pt} (h : Lat a b c s) : Lat a (b % a) c s := by
  obtain ⟨i, j, rfl⟩ := h
  refine ⟨i + j * (b / a), j, Prod.ext ?_ rfl⟩
  dsimp only
  rw [Int.emod_def, Int.add_mul, Int.mul_sub]
  have : j * (b / a) * a = j * (a * (b / a)) := by rw [Int.mul_assoc, Int.mul_comm (b / a) a]
  omega
theorem lat_neg {a b c : Int} {s : Pt} (h : Lat a b c s) : Lat a (-b) (-c) s := by
  obtain ⟨i, j, rfl⟩ := h
  exact ⟨i, -j, by rw [Int.neg_mul_neg, Int.neg_mul_neg]⟩
end K55
set_option maxHeartbeats 1000000
/-! Neighbours, bases. -/
namespace K55
open PySem PySem.Spec PyProof.Rows L2
open Evl (Ex)
theorem ev_kc {g : Gl} {Γ : List C} {v : V} {d : D} (h : ∀ H, R g H v d) : EvS g (tC v) Γ (· = d) := fun F m σ H e s Q q => q _ H _ (Kp.refl H) rfl (h _)
def stepsD : D := .ktup [.ktup [.int 1, .int 0], .ktup [.int 0, .int 1], .ktup [.int (-1), .int 0], .ktup [.int 0, .int (-1)]]
def around (p : Pt) : List Pt := [(p.1 + 1, p.2 + 0), (p.1 + 0, p.2 + 1), (p.1 + -1, p.2 + 0), (p.1 + 0, p.2 + -1)]
section
variable {P : Program} {w : World} {K : PySem.W.Frag} {mg : Str → Option Value} {base : Heap} {g : Gl}
def sp_plusK (g : Gl) : Sp := pr g 2 (ι := Pt × Pt) (fun i => [.d (D.pl i.1), .d (.ktup [.int i.2.1, .int i.2.2])]) (fun _ => True) (fun i r => r = D.pl (i.1.1 + i.2.1, i.1.2 + i.2.2))
theorem cal_plusK (hK : g.K = K) (T : Blt mg) (h : Dfd K mg "plus" (topS 16)) : C8.Cal P w K mg base 1 "plus" (sp_plusK g) [] := by
  subst hK
  refine h.cal (k := 0) (N := ["one", "other"]) (ps := ["one", "other"]) (r := 0) (fun _ _ _ _ _ _ us hl => match us, hl with | [_, _], _ => rfl) (C8.fnScope_by (by decide +kernel)) rfl rfl fun f cdv A outer s H E hr => ?_
  refine ⟨_, (pss_one (ps_ret (pe_tup (pa_cons (pe_op op_add (pe_ix (ixT (K := g.K) rfl) (pv 0) pe_int (fun _ _ => rfl)) (pe_ix (ixT (K := g.K) rfl) (pv 1) pe_int (fun _ _ => rfl))) (pa_cons (pe_op op_add (pe_ix (ixT (K := g.K) rfl) (pv 0) pe_int (fun _ _ => rfl)) (pe_ix (ixT (K := g.K) rfl) (pv 1) pe_int (fun _ _ => rfl))) pa_nil))))), fun i hp => ?_⟩
  exact sv_ret (ev_p2 (ev_add (ev_t0 (ev_var rfl)) (ev_k0 (ev_var rfl))) (ev_add (ev_t1 (ev_var rfl)) (ev_k1 (ev_var rfl))))
def sp_neighbours (g : Gl) : Sp := pr g 1 (ι := Pt) (fun p => [.d (D.pl p)]) (fun _ => True) (fun p r => r = .lst ((around p).map D.pl))
theorem cal_neighbours (hK : g.K = K) (T : Blt mg) (h : Dfd K mg "neighbours" (topS 42)) (c_plus : C8.Cal P w K mg base 1 "plus" (sp_plusK g) []) {sa : Addr} (gl_STEPS : ∃ u, mg "STEPS" = some u ∧ RelV (.ref sa) u) (hst : ∀ H, R g H (.ref sa) stepsD) : C8.Cal P w K mg base 2 "neighbours" (sp_neighbours g) [] := by
  subst hK
  refine h.cal (k := 1) (N := ["place", "step"]) (ps := ["place"]) (r := 1) (fun _ _ _ _ _ _ us hl => match us, hl with | [_], _ => rfl) (C8.fnScope_by (by decide +kernel)) rfl rfl fun f cdv A outer s H E hr => ?_
  have nd : List.Nodup (α := Str) ["place", "step"] := by decide +kernel
  refine ⟨_, (pss_one (ps_ret (pe_lc (own := [("step", 1)]) (g := gName 1) rfl nd (piT (K := g.K) rfl (C8.pe_gc rfl gl_STEPS)) (blkOk_by (own := [("step", 1)]) (N := ["place", "step"]) (sc := C8.fnScope (topS 42)) (by decide +kernel)) (fun _ _ _ _ _ => (pg_name (i := 1) nd rfl (.inl rfl))) (fun _ _ _ _ _ => pts_nil) (fun _ _ _ _ _ => (C8.pe_c c_plus hr (by decide) rfl (pa_cons (pv 0) (pa_cons (pv 1) pa_nil))))))), fun i hp => ?_⟩
  refine sv_ret (EvS.to' (EvL.ev' (el_map (f := fun d => match d with | .ktup [.int x, .int y] => D.pl (i.1 + x, i.2 + y) | d => d) (ei_ktup' (ev_kc hst)) (by decide) (by decide) fun d hd => ?_)) rfl)
  have hc : ∃ x y, d = .ktup [.int x, .int y] := by
    rcases List.mem_cons.mp hd with e | hd
    · exact ⟨_, _, e⟩
    rcases List.mem_cons.mp hd with e | hd
    · exact ⟨_, _, e⟩
    rcases List.mem_cons.mp hd with e | hd
    · exact ⟨_, _, e⟩
    · exact ⟨_, _, List.mem_singleton.mp hd⟩
  obtain ⟨x, y, rfl⟩ := hc
  exact ev_callI (i, (x, y)) (ea_cons' (ev_var rfl) (ea_cons' (ev_var rfl) ea_nil)) trivial
def sp_form_of (g : Gl) : Sp := pr g 1 (ι := List Pt) (fun l => [.d (.lst (l.map D.pl))]) (fun l => ∀ s ∈ l, -100 ≤ s.1 ∧ s.1 ≤ 100 ∧ -100 ≤ s.2 ∧ s.2 ≤ 100) (fun l r => (r = .non ∧ ∃ u : Pt, ∀ s ∈ l, Ray u s) ∨ ∃ a b c : Int, r = .tup [.int a, .int b, .int c] ∧ 1 ≤ a ∧ 0 ≤ b ∧ b < a ∧ 1 ≤ c ∧ c ≤ 100 ∧ l ≠ [] ∧ ∀ s ∈ l, Lat a b c s)
theorem cal_form_of (hK : g.K = K) (T : Blt mg) (h : Dfd K mg "form_of" (topS 22)) (c_greatest_divisor : C8.Cal P w K mg base 1 "greatest_divisor" (sp_greatest_divisor g) []) : C8.Cal P w K mg base 2 "form_of" (sp_form_of g) [] := by
  subst hK
  refine h.cal (k := 1) (N := ["shifts", "a", "b", "c", "x", "y", "times"]) (ps := ["shifts"]) (r := 6) (fun _ _ _ _ _ _ us hl => match us, hl with | [_], _ => rfl) (C8.fnScope_by (by decide +kernel)) rfl rfl fun f cdv A outer s H E hr => ?_
  have nd : List.Nodup (α := Str) ["shifts", "a", "b", "c", "x", "y", "times"] := by decide +kernel
  refine ⟨_, (pss_cons (ps_asg (pe_tup (pa_cons pe_int (pa_cons pe_int (pa_cons pe_int pa_nil)))) (pgT (K := g.K) (n := 3) rfl (by rfl) (pgs_cons (pg_name (i := 1) nd rfl (.inl rfl)) (pgs_cons (pg_name (i := 2) nd rfl (.inl rfl)) (pgs_cons (pg_name (i := 3) nd rfl (.inl rfl)) pgs_nil)))))
    (pss_cons (ps_for PassesOwn.never rfl (piL (K := g.K) rfl (pv 0)) (pgT (K := g.K) (n := 2) rfl (by rfl) (pgs_cons (pg_name (i := 4) nd rfl (.inl rfl)) (pgs_cons (pg_name (i := 5) nd rfl (.inl rfl)) pgs_nil)))
      (pss_cons (ps_while PassesOwn.never (pt_cmpR op_ne (pv 5) pe_int (nomark _))
          (pss_cons (ps_set (i := 6) nd rfl (.inl rfl) (pe_op op_fdivN (pv 3) (pv 5)))
            (pss_one (ps_asg (pe_tup (pa_cons (pv 4) (pa_cons (pv 5) (pa_cons (pe_op op_sub (pv 2) (pe_op op_mul (pv 6) (pv 4))) (pa_cons (pe_op op_sub (pv 3) (pe_op op_mul (pv 6) (pv 5))) pa_nil))))) (pgT (K := g.K) (n := 4) rfl (by rfl) (pgs_cons (pg_name (i := 2) nd rfl (.inl rfl)) (pgs_cons (pg_name (i := 3) nd rfl (.inl rfl)) (pgs_cons (pg_name (i := 4) nd rfl (.inl rfl)) (pgs_cons (pg_name (i := 5) nd rfl (.inl rfl)) pgs_nil)))))))))
        (pss_one (ps_set (i := 1) nd rfl (.inl rfl) (C8.pe_c c_greatest_divisor hr (by decide) rfl (pa_cons (pv 1) (pa_cons (pv 4) pa_nil)))))))
    (pss_cons (ps_if (PW.pt (pw_or (pt_cmpR op_eq (pv 1) pe_int (nomark _)) (pw_or1 (pt_cmpR op_eq (pv 3) pe_int (nomark _)))))
      (pss_one (ps_ret pe_non))
      pss_nil)
    (pss_one (ps_ret (pe_ifExp (pt_cmpR op_gt (pv 3) pe_int (nomark _)) (pe_tup (pa_cons (pv 1) (pa_cons (pe_op op_mod (pv 2) (pv 1)) (pa_cons (pv 3) pa_nil)))) (pe_tup (pa_cons (pv 1) (pa_cons (pe_op op_mod (pe_un un_neg (pv 2)) (pv 1)) (pa_cons (pe_un un_neg (pv 3)) pa_nil)))))))))), fun i hp => ?_⟩
  refine sv_seq (sv_asg3 (ev_p3 ev_int ev_int ev_int) fun d e => ⟨_, _, _, e, ?_⟩)
  refine sv_seq (sv_for (ei_list' (ev_var rfl)) (fun _ j Γ => ∃ (a b c : Int) (x y t : C), Γ = [.d (.lst (i.map D.pl)), .d (.int a), .d (.int b), .d (.int c), x, y, t] ∧ 0 ≤ a ∧ -100 ≤ c ∧ c ≤ 100 ∧ (j = 0 → a = 0) ∧ ∀ s ∈ i.take j, Lat a b c s) (fun _ _ => ⟨0, 0, 0, _, _, _, rfl, by decide, by decide, by decide, fun _ => rfl, fun _ h => by cases h⟩) (fun ds j d Γ' hds hd hj => ?_) fun ds Γ' hds hj => ?_)
  · subst hds
    obtain ⟨a, b, c, x, y, t, rfl, a0, c0, c1, _, hl⟩ := hj
    have hq : ∃ q, d = D.pl q ∧ i[j]? = some q := by
      rw [List.getElem?_map] at hd
      cases h : i[j]? with
      | none => rw [h] at hd; cases hd
      | some q => rw [h] at hd; cases hd; exact ⟨q, rfl, rfl⟩
    obtain ⟨⟨qx, qy⟩, rfl, hq⟩ := hq
    obtain ⟨_, _, q3, q4⟩ := hp _ (List.mem_of_getElem? hq)
    dsimp only at q3 q4
    refine ⟨_, _, eg_2, ?_⟩
    refine sv_seq (sv_while (fun n Γ => ∃ (b c x y : Int) (t : C), n = y.natAbs ∧ Γ = [.d (.lst (i.map D.pl)), .d (.int a), .d (.int b), .d (.int c), .d (.int x), .d (.int y), t] ∧ -100 ≤ c ∧ c ≤ 100 ∧ -100 ≤ y ∧ y ≤ 100 ∧ ∀ s ∈ i.take (j + 1), ∃ k1 k2 k3 : Int, s = (k1 * a + k2 * b + k3 * x, k2 * c + k3 * y)) _ ⟨b, c, qx, qy, t, rfl, rfl, c0, c1, q3, q4, fun s hs => ?_⟩ fun n Γ' hw => ?_)
    · rw [List.take_add_one, hq] at hs
      rcases List.mem_append.mp hs with h | h
      · obtain ⟨k1, k2, rfl⟩ := hl s h
        exact ⟨k1, k2, 0, by simp⟩
      · have : s = (qx, qy) := List.mem_singleton.mp h
        exact ⟨0, 0, 1, by rw [this]; simp⟩
    · obtain ⟨b, c, x, y, t, rfl, rfl, c0, c1, y0, y1, hs⟩ := hw
      refine ⟨_, et_test (ev_neI (ev_var rfl) ev_int), fun z => ?_, fun z => ?_⟩
      · have hy : y ≠ 0 := fun e => by rw [e] at z; cases z
        have hq := Int.fmod_def c y
        have hm := fmod_small (x := c) hy
        have hmod : c - c.fdiv y * y = c.fmod y := by rw [hq, Int.mul_comm]
        have hdiv : (c.fdiv y).natAbs ≤ 300 := by
          have h1 : (c.fdiv y * y).natAbs ≤ c.natAbs + y.natAbs := by omega
          rw [Int.natAbs_mul] at h1
          have h3 : 1 ≤ y.natAbs := by omega
          have h4 : (c.fdiv y).natAbs * 1 ≤ (c.fdiv y).natAbs * y.natAbs := Nat.mul_le_mul_left _ h3
          omega
        have sm : -(2 ^ 64) < c.fdiv y ∧ c.fdiv y < 2 ^ 64 := ⟨by omega, by omega⟩
        refine sv_seq (sv_asg (ev_I (ev_var rfl) (ev_var rfl) ⟨hy, by show y.natAbs < 1073741824; omega⟩) fun d e => ?_)
        subst e
        refine sv_asg4 (ev_tup' (ed_cons' (ev_var rfl) (ed_cons' (ev_var rfl) (ed_cons' (ev_sub (ev_var rfl) (ev_I (ev_var rfl) (ev_var rfl) (.inl sm))) (ed_cons' (ev_sub (ev_var rfl) (ev_I (ev_var rfl) (ev_var rfl) (.inl sm))) ed_nil)))) (by show 4 ≤ 100000; decide)) fun d e => ⟨_, _, _, _, e, ?_⟩
        refine ⟨_, ?_, x, y, b - c.fdiv y * x, c - c.fdiv y * y, _, rfl, rfl, y0, y1, by rw [hmod]; omega, by rw [hmod]; omega, fun s h => form_step (hs s h)⟩
        rw [hmod]
        exact hm
      · have hy : y = 0 := Classical.byContradiction fun e => by simp [e] at z
        subst hy
        refine sv_asg (ev_callI (a, x) (ea_cons' (ev_var rfl) (ea_cons' (ev_var rfl) ea_nil)) trivial) fun d e => ?_
        subst e
        exact ⟨Int.gcd a x, b, c, _, _, _, rfl, by show (0 : Int) ≤ (Int.gcd a x : Nat); omega, c0, c1, fun h => by omega, fun s h => form_end (hs s h)⟩
  · subst hds
    obtain ⟨a, b, c, x, y, t, rfl, a0, c0, c1, hz, hl⟩ := hj
    rw [List.length_map, List.take_length] at hl
    have hne : a ≠ 0 → i ≠ [] := fun h e => by subst e; exact h (hz rfl)
    refine sv_seq (sv_if (et_or (et_test (ev_eqI (ev_var rfl) ev_int)) fun _ => et_test (ev_eqI (ev_var rfl) ev_int)) (fun h => sv_ret (ev_non.imp fun d e => .inl ⟨e, ?_⟩)) fun h => sv_next ?_)
    · by_cases ha : a = 0
      · subst ha
        exact ⟨(b, c), fun s hs => by obtain ⟨k1, k2, rfl⟩ := hl s hs; exact ⟨k2, by simp⟩⟩
      · have hc : c = 0 := Classical.byContradiction fun e => by simp [ha, e] at h
        subst hc
        exact ⟨(1, 0), fun s hs => by obtain ⟨k1, k2, rfl⟩ := hl s hs; exact ⟨k1 * a + k2 * b, by simp⟩⟩
    · have ha : a ≠ 0 := fun e => by simp [e] at h
      have hc : c ≠ 0 := fun e => by simp [e] at h
      have ha1 : 1 ≤ a := by omega
      refine sv_ret (ev_if (et_test (ev_cmp (ev_var rfl) ev_int)) (fun z => (ev_p3 (ev_var rfl) (ev_I (ev_var rfl) (ev_var rfl) (by show 0 < a; omega)) (ev_var rfl)).imp fun d e => .inr ⟨a, b % a, c, e, ha1, Int.emod_nonneg _ ha, Int.emod_lt_of_pos _ (by omega), ?_, c1, hne ha, fun s hs => lat_norm ha1 (hl s hs)⟩) fun z => (ev_p3 (ev_var rfl) (ev_I (ev_un (ev_var rfl)) (ev_var rfl) (by show 0 < a; omega)) (ev_un (ev_var rfl))).imp fun d e => .inr ⟨a, -b % a, -c, e, ha1, Int.emod_nonneg _ ha, Int.emod_lt_of_pos _ (by omega), ?_, by omega, hne ha, fun s hs => lat_norm ha1 (lat_neg (hl s hs))⟩)
      · have : 0 < c := of_decide_eq_true z.symm
        omega
      · have : ¬ 0 < c := of_decide_eq_false z.symm
        omega
end
end K55
set_option maxHeartbeats 1000000
/-! Bases. -/
namespace K55
open PySem PySem.Spec PyProof.Rows L2
open Evl (Ex)
theorem ray_step {m k c t : Int} (h : (m * c - t * (k * c)).natAbs < (k * c).natAbs) : (m - t * k).natAbs < k.natAbs := by
  have e : m * c - t * (k * c) = (m - t * k) * c := by rw [Int.sub_mul, Int.mul_assoc]
  rw [e, Int.natAbs_mul, Int.natAbs_mul] at h
  exact Nat.lt_of_mul_lt_mul_right h
theorem ray_bound {m k c t : Int} (h : (m - t * k).natAbs < k.natAbs) (hb : -100 ≤ k * c ∧ k * c ≤ 100) : -100 ≤ m * c - t * (k * c) ∧ m * c - t * (k * c) ≤ 100 := by
  have e : m * c - t * (k * c) = (m - t * k) * c := by rw [Int.sub_mul, Int.mul_assoc]
  have h1 : ((m - t * k) * c).natAbs ≤ (k * c).natAbs := by
    rw [Int.natAbs_mul, Int.natAbs_mul]
    exact Nat.mul_le_mul_right _ (Nat.le_of_lt h)
  rw [e]
  omega
theorem fdiv_small {c y : Int} (hy : y ≠ 0) (hc : -100 ≤ c ∧ c ≤ 100) (hy2 : -100 ≤ y ∧ y ≤ 100) : (c.fdiv y).natAbs ≤ 300 ∧ (c - c.fdiv y * y).natAbs < y.natAbs := by
  have hq := Int.fmod_def c y
  have hm := fmod_small (x := c) hy
  have hmod : c - c.fdiv y * y = c.fmod y := by rw [hq, Int.mul_comm]
  refine ⟨?_, by rw [hmod]; exact hm⟩
  have h1 : (c.fdiv y * y).natAbs ≤ c.natAbs + y.natAbs := by omega
  rw [Int.natAbs_mul] at h1
  have h3 : 1 ≤ y.natAbs := by omega
  have h4 : (c.fdiv y).natAbs * 1 ≤ (c.fdiv y).natAbs * y.natAbs := Nat.mul_le_mul_left _ h3
  omega
theorem ray_basis {l : List Pt} {x y : Int} (h : (x, y) ≠ (0, 0)) (hb : -100 ≤ x ∧ x ≤ 100 ∧ -100 ≤ y ∧ y ≤ 100) (hl : l = [] → (x, y) = (0, 0)) (hr : ∀ s ∈ l, Ray (x, y) s) : Basis l [(x, y)] :=
  ⟨.one x y h ⟨by omega, by omega, by omega, by omega⟩, fun e => absurd (hl e) h, fun s hs => car_ray h (hs _ (ray_grp _) hr)⟩
theorem ray_neg {x y : Int} {s : Pt} (h : Ray (x, y) s) : Ray (-x, -y) s := by
  obtain ⟨k, rfl⟩ := h
  exact ⟨-k, by simp [Int.neg_mul_neg]⟩
section
variable {P : Program} {w : World} {K : PySem.W.Frag} {mg : Str → Option Value} {base : Heap} {g : Gl}
def sp_line_basis (g : Gl) : Sp := pr g 1 (ι := List Pt) (fun l => [.d (.lst (l.map D.pl))]) (fun l => (∀ s ∈ l, -100 ≤ s.1 ∧ s.1 ≤ 100 ∧ -100 ≤ s.2 ∧ s.2 ≤ 100) ∧ ∃ u : Pt, ∀ s ∈ l, Ray u s) (fun l r => ∃ bs : List Pt, r = .tup (bs.map D.pl) ∧ Basis l bs)
theorem cal_line_basis (hK : g.K = K) (T : Blt mg) (h : Dfd K mg "line_basis" (topS 43)) : C8.Cal P w K mg base 1 "line_basis" (sp_line_basis g) [] := by
  subst hK
  refine h.cal (k := 0) (N := ["shifts", "x", "y", "right", "up", "times"]) (ps := ["shifts"]) (r := 5) (fun _ _ _ _ _ _ us hl => match us, hl with | [_], _ => rfl) (C8.fnScope_by (by decide +kernel)) rfl rfl fun f cdv A outer s H E hr => ?_
  have nd : List.Nodup (α := Str) ["shifts", "x", "y", "right", "up", "times"] := by decide +kernel
  refine ⟨_, (pss_cons (ps_asg (pe_tup (pa_cons pe_int (pa_cons pe_int pa_nil))) (pgT (K := g.K) (n := 2) rfl (by rfl) (pgs_cons (pg_name (i := 1) nd rfl (.inl rfl)) (pgs_cons (pg_name (i := 2) nd rfl (.inl rfl)) pgs_nil))))
    (pss_cons (ps_for PassesOwn.never rfl (piL (K := g.K) rfl (pv 0)) (pgT (K := g.K) (n := 2) rfl (by rfl) (pgs_cons (pg_name (i := 3) nd rfl (.inl rfl)) (pgs_cons (pg_name (i := 4) nd rfl (.inl rfl)) pgs_nil)))
      (pss_one (ps_while PassesOwn.never (pt_cmpR (neD (K := g.K) rfl hr.units) (pe_tup (pa_cons (pv 3) (pa_cons (pv 4) pa_nil))) (pe_tup (pa_cons pe_int (pa_cons pe_int pa_nil))) (nomark _))
          (pss_cons (ps_set (i := 5) nd rfl (.inl rfl) (pe_ifExp (pt_cmpR op_ne (pv 4) pe_int (nomark _)) (pe_op op_fdivN (pv 2) (pv 4)) (pe_op op_fdivN (pv 1) (pv 3))))
            (pss_one (ps_asg (pe_tup (pa_cons (pv 3) (pa_cons (pv 4) (pa_cons (pe_op op_sub (pv 1) (pe_op op_mul (pv 5) (pv 3))) (pa_cons (pe_op op_sub (pv 2) (pe_op op_mul (pv 5) (pv 4))) pa_nil))))) (pgT (K := g.K) (n := 4) rfl (by rfl) (pgs_cons (pg_name (i := 1) nd rfl (.inl rfl)) (pgs_cons (pg_name (i := 2) nd rfl (.inl rfl)) (pgs_cons (pg_name (i := 3) nd rfl (.inl rfl)) (pgs_cons (pg_name (i := 4) nd rfl (.inl rfl)) pgs_nil)))))))))))
    (pss_cons (ps_if (pt_cmpR (eqD (K := g.K) rfl hr.units) (pe_tup (pa_cons (pv 1) (pa_cons (pv 2) pa_nil))) (pe_tup (pa_cons pe_int (pa_cons pe_int pa_nil))) (nomark _))
      (pss_one (ps_ret (pe_tup pa_nil)))
      pss_nil)
    (pss_one (ps_ret (pe_ifExp (PW.pt (pw_or (pt_cmpR op_gt (pv 2) pe_int (nomark _)) (pw_or1 (PW.pt (pw_and (pt_cmpR op_eq (pv 2) pe_int (nomark _)) (pw_and1 (pt_cmpR op_gt (pv 1) pe_int (nomark _)))))))) (pe_tup (pa_cons (pe_tup (pa_cons (pv 1) (pa_cons (pv 2) pa_nil))) pa_nil)) (pe_tup (pa_cons (pe_tup (pa_cons (pe_un un_neg (pv 1)) (pa_cons (pe_un un_neg (pv 2)) pa_nil))) pa_nil)))))))), fun i hp => ?_⟩
  obtain ⟨hp, u, hu⟩ := hp
  obtain ⟨u1, u2⟩ := u
  refine sv_seq (sv_asg2 (ev_p2 ev_int ev_int) fun d e => ⟨_, _, e, ?_⟩)
  refine sv_seq (sv_for (ei_list' (ev_var rfl)) (fun _ j Γ => ∃ (m x y : Int) (r up t : C), Γ = [.d (.lst (i.map D.pl)), .d (.int x), .d (.int y), r, up, t] ∧ x = m * u1 ∧ y = m * u2 ∧ -100 ≤ x ∧ x ≤ 100 ∧ -100 ≤ y ∧ y ≤ 100 ∧ (j = 0 → (x, y) = (0, 0)) ∧ ∀ s ∈ i.take j, Ray (x, y) s) (fun _ _ => ⟨0, 0, 0, _, _, _, rfl, by simp, by simp, by decide, by decide, by decide, by decide, fun _ => rfl, fun _ h => by cases h⟩) (fun ds j d Γ' hds hd hj => ?_) fun ds Γ' hds hj => ?_)
  · subst hds
    obtain ⟨m, x, y, r, up, t, rfl, ex, ey, x0, x1, y0, y1, _, hl⟩ := hj
    have hq : ∃ q, d = D.pl q ∧ i[j]? = some q := by
      rw [List.getElem?_map] at hd
      cases h : i[j]? with
      | none => rw [h] at hd; cases hd
      | some q => rw [h] at hd; cases hd; exact ⟨q, rfl, rfl⟩
    obtain ⟨⟨qx, qy⟩, rfl, hq⟩ := hq
    have hqm := List.mem_of_getElem? hq
    obtain ⟨q1, q2, q3, q4⟩ := hp _ hqm
    obtain ⟨k0, hk0⟩ := hu _ hqm
    dsimp only at q1 q2 q3 q4 hk0
    obtain ⟨hk1, hk2⟩ := Prod.mk.inj hk0
    refine ⟨_, _, eg_2, ?_⟩
    refine sv_while (fun n Γ => ∃ (m k x y r up : Int) (t : C), n = k.natAbs ∧ Γ = [.d (.lst (i.map D.pl)), .d (.int x), .d (.int y), .d (.int r), .d (.int up), t] ∧ x = m * u1 ∧ y = m * u2 ∧ r = k * u1 ∧ up = k * u2 ∧ (-100 ≤ x ∧ x ≤ 100) ∧ (-100 ≤ y ∧ y ≤ 100) ∧ (-100 ≤ r ∧ r ≤ 100) ∧ (-100 ≤ up ∧ up ≤ 100) ∧ ∀ s ∈ i.take (j + 1), ∃ k1 k2 : Int, s = (k1 * x + k2 * r, k1 * y + k2 * up)) _ ⟨m, k0, x, y, qx, qy, t, rfl, rfl, ex, ey, hk1, hk2, ⟨x0, x1⟩, ⟨y0, y1⟩, ⟨q1, q2⟩, ⟨q3, q4⟩, fun s hs => ?_⟩ fun n Γ' hw => ?_
    · rw [List.take_add_one, hq] at hs
      rcases List.mem_append.mp hs with h | h
      · obtain ⟨k1, rfl⟩ := hl s h
        exact ⟨k1, 0, by simp⟩
      · have : s = (qx, qy) := List.mem_singleton.mp h
        exact ⟨0, 1, by rw [this]; simp⟩
    · obtain ⟨m, k, x, y, r, up, t, rfl, rfl, ex, ey, er, eu, bx, by', br, bu, hs⟩ := hw
      refine ⟨_, et_test (ev_neP (p := (r, up)) (q := (0, 0)) (ev_p2 (ev_var rfl) (ev_var rfl)) (ev_p2 ev_int ev_int)), fun z => ?_, fun z => ?_⟩
      · have hne : ¬ (r = 0 ∧ up = 0) := fun ⟨e1, e2⟩ => by subst e1; subst e2; simp at z
        refine sv_seq (sv_asg (A := fun d => ∃ t : Int, d = .int t ∧ t.natAbs ≤ 300 ∧ (m - t * k).natAbs < k.natAbs) (ev_if (et_test (ev_neI (ev_var rfl) ev_int)) (fun z2 => ?_) fun z2 => ?_) fun d hd => ?_)
        · have hup : up ≠ 0 := fun e => by rw [e] at z2; cases z2
          obtain ⟨f1, f2⟩ := fdiv_small hup by' bu
          refine (ev_I (ev_var rfl) (ev_var rfl) ⟨hup, by show up.natAbs < 1073741824; omega⟩).imp fun d e => ⟨y.fdiv up, e, f1, ?_⟩
          generalize y.fdiv up = t at f1 f2 ⊢
          rw [ey, eu] at f2
          exact ray_step f2
        · have hup : up = 0 := Classical.byContradiction fun e => by simp [e] at z2
          have hr : r ≠ 0 := fun e => hne ⟨e, hup⟩
          obtain ⟨f1, f2⟩ := fdiv_small hr bx br
          refine (ev_I (ev_var rfl) (ev_var rfl) ⟨hr, by show r.natAbs < 1073741824; omega⟩).imp fun d e => ⟨x.fdiv r, e, f1, ?_⟩
          generalize x.fdiv r = t at f1 f2 ⊢
          rw [ex, er] at f2
          exact ray_step f2
        · obtain ⟨t, rfl, t1, t2⟩ := hd
          have sm : -(2 ^ 64) < t ∧ t < 2 ^ 64 := ⟨by omega, by omega⟩
          refine sv_asg4 (ev_tup' (ed_cons' (ev_var rfl) (ed_cons' (ev_var rfl) (ed_cons' (ev_sub (ev_var rfl) (ev_I (ev_var rfl) (ev_var rfl) (.inl sm))) (ed_cons' (ev_sub (ev_var rfl) (ev_I (ev_var rfl) (ev_var rfl) (.inl sm))) ed_nil)))) (by show 4 ≤ 100000; decide)) fun d e => ⟨_, _, _, _, e, ?_⟩
          refine ⟨_, t2, k, m - t * k, r, up, x - t * r, y - t * up, _, rfl, rfl, er, eu, ?_, ?_, br, bu, ?_, ?_, fun s h => ?_⟩
          · rw [ex, er, Int.sub_mul, Int.mul_assoc]
          · rw [ey, eu, Int.sub_mul, Int.mul_assoc]
          · rw [ex, er]; rw [er] at br; exact ray_bound t2 br
          · rw [ey, eu]; rw [eu] at bu; exact ray_bound t2 bu
          · obtain ⟨k1, k2, rfl⟩ := hs s h
            refine ⟨k1 * t + k2, k1, Prod.ext ?_ ?_⟩
            · dsimp only
              rw [Int.add_mul, Int.mul_sub, Int.mul_assoc]
              omega
            · dsimp only
              rw [Int.add_mul, Int.mul_sub, Int.mul_assoc]
              omega
      · have hz : r = 0 ∧ up = 0 := by
          have : (r, up) = ((0 : Int), (0 : Int)) := Classical.byContradiction fun e => by simp at z e; exact absurd z.2 (e z.1)
          exact ⟨(Prod.mk.inj this).1, (Prod.mk.inj this).2⟩
        obtain ⟨rfl, rfl⟩ := hz
        exact ⟨m, x, y, _, _, _, rfl, ex, ey, bx.1, bx.2, by'.1, by'.2, fun h => by omega, fun s h => by obtain ⟨k1, k2, rfl⟩ := hs s h; exact ⟨k1, by simp⟩⟩
  · subst hds
    obtain ⟨m, x, y, r, up, t, rfl, ex, ey, x0, x1, y0, y1, hz, hl⟩ := hj
    rw [List.length_map, List.take_length] at hl
    rw [List.length_map] at hz
    refine sv_seq (sv_if (et_test (ev_eqP (p := (x, y)) (q := (0, 0)) (ev_p2 (ev_var rfl) (ev_var rfl)) (ev_p2 ev_int ev_int))) (fun z => sv_ret ((ev_tup' ed_nil (by decide)).imp fun d e => ⟨[], e, .nil, fun _ => rfl, fun s hs => ?_⟩)) fun z => sv_next ?_)
    · have z := of_decide_eq_true z.symm
      obtain ⟨k, hk⟩ := hs _ (ray_grp (x, y)) hl
      rw [z] at hk
      have : s = (0, 0) := by rw [hk]; simp
      rw [this]
      rfl
    · have z : (x, y) ≠ (0, 0) := of_decide_eq_false z.symm
      have hnil : i = [] → (x, y) = (0, 0) := fun e => hz (by rw [e]; rfl)
      have z2 : (-x, -y) ≠ ((0 : Int), (0 : Int)) := fun e => z (by obtain ⟨e1, e2⟩ := Prod.mk.inj e; exact Prod.ext (by show x = 0; omega) (by show y = 0; omega))
      refine sv_ret (ev_if (et_or (et_test (ev_cmp (ev_var rfl) ev_int)) fun _ => et_and (et_test (ev_eqI (ev_var rfl) ev_int)) fun _ => et_test (ev_cmp (ev_var rfl) ev_int)) (fun _ => (ev_tup' (ed_cons' (ev_p2 (ev_var rfl) (ev_var rfl)) ed_nil) (by show 1 ≤ 100000; decide)).imp fun d e => ⟨[(x, y)], e, ray_basis z ⟨x0, x1, y0, y1⟩ hnil hl⟩) fun _ => (ev_tup' (ed_cons' (ev_p2 (ev_un (ev_var rfl)) (ev_un (ev_var rfl))) ed_nil) (by show 1 ≤ 100000; decide)).imp fun d e => ⟨[(-x, -y)], e, ray_basis z2 ⟨by omega, by omega, by omega, by omega⟩ (fun e => absurd (hnil e) z) fun s h => ray_neg (hl s h)⟩)
def sp_basis_of (g : Gl) : Sp := pr g 1 (ι := List Pt) (fun l => [.d (.lst (l.map D.pl))]) (fun l => ∀ s ∈ l, -100 ≤ s.1 ∧ s.1 ≤ 100 ∧ -100 ≤ s.2 ∧ s.2 ≤ 100) (fun l r => ∃ bs : List Pt, r = .tup (bs.map D.pl) ∧ Basis l bs)
theorem cal_basis_of (hK : g.K = K) (T : Blt mg) (h : Dfd K mg "basis_of" (topS 44)) (c_form_of : C8.Cal P w K mg base 2 "form_of" (sp_form_of g) []) (c_line_basis : C8.Cal P w K mg base 1 "line_basis" (sp_line_basis g) []) : C8.Cal P w K mg base 3 "basis_of" (sp_basis_of g) [] := by
  subst hK
  refine h.cal (k := 2) (N := ["shifts", "numbers", "a", "b", "c"]) (ps := ["shifts"]) (r := 4) (fun _ _ _ _ _ _ us hl => match us, hl with | [_], _ => rfl) (C8.fnScope_by (by decide +kernel)) rfl rfl fun f cdv A outer s H E hr => ?_
  have nd : List.Nodup (α := Str) ["shifts", "numbers", "a", "b", "c"] := by decide +kernel
  refine ⟨_, (pss_cons (ps_set (i := 1) nd rfl (.inl rfl) (C8.pe_c c_form_of hr (by decide) rfl (pa_cons (pv 0) pa_nil)))
    (pss_cons (ps_if (pt_cmpR op_isN (pv 1) pe_non (nomark _))
      (pss_one (ps_ret (C8.pe_c c_line_basis hr (by decide) rfl (pa_cons (pv 0) pa_nil))))
      pss_nil)
    (pss_cons (ps_asg (pv 1) (pgT (K := g.K) (n := 3) rfl (by rfl) (pgs_cons (pg_name (i := 2) nd rfl (.inl rfl)) (pgs_cons (pg_name (i := 3) nd rfl (.inl rfl)) (pgs_cons (pg_name (i := 4) nd rfl (.inl rfl)) pgs_nil)))))
    (pss_one (ps_ret (pe_tup (pa_cons (pe_tup (pa_cons (pv 2) (pa_cons pe_int pa_nil))) (pa_cons (pe_tup (pa_cons (pv 3) (pa_cons (pv 4) pa_nil))) pa_nil)))))))), fun i hp => ?_⟩
  refine sv_seq (sv_asg (ev_callI i (ea_cons' (ev_var rfl) ea_nil) hp) fun d hd => ?_)
  rcases hd with ⟨rfl, u, hu⟩ | ⟨a, b, c, rfl, a1, b0, b1, c1, c2, hne, hl⟩
  · refine sv_seq (sv_if (et_test (ev_isN (ev_var rfl) ev_non)) (fun _ => ?_) fun z => by cases z)
    exact sv_ret (ev_callI i (ea_cons' (ev_var rfl) ea_nil) ⟨hp, u, hu⟩)
  · refine sv_seq (sv_if (et_test (ev_isN (ev_var rfl) ev_non)) (fun z => by cases z) fun _ => sv_next ?_)
    refine sv_seq (sv_asg3 (ev_var rfl) fun d e => ⟨_, _, _, e, ?_⟩)
    exact sv_ret ((ev_p2 (ev_p2 (ev_var rfl) ev_int) (ev_p2 (ev_var rfl) (ev_var rfl))).imp fun d e => ⟨[(a, 0), (b, c)], e, .two a b c a1 b0 b1 c1 (by omega), fun e => absurd e hne, fun s hs => car_lat a1 c1 (hs _ (lat_grp a b c) hl)⟩)
end
end K55
set_option maxHeartbeats 1000000
/-! Parts. -/
namespace K55
open PySem PySem.Spec PyProof.Rows L2
open Evl (Ex)
abbrev knD (k : List (Pt × Pt)) : Kvs := k.map fun e => (e.1, D.pl e.2)
def rLenD : List V → Hp → VK → Prop := fun xs H Q => ∃ (p : Addr) (kvs : List (List Key × V)), xs = [.ref p] ∧ Rd H p (.dT kvs) ∧ Q (.int ((kvs.length : Nat) : Int)) H
theorem call_len_rd {X : Cx} : CallR X (.builtin "len") rLenD := by
  intro pins s σ H xs us Q I r h
  obtain ⟨p, kvs, rfl, hp, q⟩ := h
  obtain ⟨u, rfl, rx⟩ := vals1 r
  obtain rfl : u = .ref p := rx
  obtain ⟨z, hd, ys, rel, dd⟩ := dt_rd I.hok hp
  have hl : kvs.length = ys.length := Paired.length rel
  refine PySem.call_len_dictH hd dd (by rw [← hl]; rw [sizeLine_eq] at z; omega) ?_
  rw [← hl]
  exact ⟨.int ((kvs.length : Nat) : Int), H, I.tok _, ⟨_, rfl⟩, q⟩
section
variable {g : Gl} {Γ : List C} {ta tb te : TE} {p : PD} {K : PySem.W.Frag}
theorem ev_lenR {kvs : Kvs} (h : EvS g te Γ (· = .dct kvs)) : EvS g (tCB rLenD (tCons te tNil)) Γ (· = .int kvs.length) := fun F m σ H e s Q q => h F m σ H e s _ fun v H1 d k1 a r => by
  subst a
  cases r with
  | dct h1 h2 h3 =>
    have hl := congrArg List.length h2
    rw [List.length_map, List.length_map] at hl
    exact ⟨_, _, rfl, (hid_rd h1).2, q _ H1 _ k1 (by rw [hl]) (.int _)⟩
theorem r_part {H : Hp} {v : V} (h : R g H v (.part p)) : ∃ q dx vs vb vk, v = .ref q ∧ H q = some (.ins g.part dx [("own_colour", .str p.colour), ("own_start", vs), ("known", vk), ("own_places", .int p.places), ("own_basis", vb), ("own_border", .int p.border)]) ∧ R g H vs (D.pl p.start) ∧ R g H vb (.tup (p.basis.map D.pl)) ∧ R g H vk (.dct (knD p.known)) := by
  cases h with
  | part h1 h2 h3 h4 => exact ⟨_, _, _, _, _, rfl, h1, h2, h3, h4⟩
theorem ob_part {m : List Addr} {H : Hp} {v : V} (h : R g (hid m H) v (.part p)) : ∃ q dx fs, v = .ref q ∧ H q = some (.ins g.part dx fs) := by
  obtain ⟨q, dx, vs, vb, vk, rfl, h1, _⟩ := r_part h
  exact ⟨q, dx, _, rfl, (hid_some h1).2⟩
theorem ob_partm {m : List Addr} {H : Hp} {v : V} (h : R g (hid m H) v (.part p)) : ∃ q dx fs, v = .ref q ∧ H q = some (.ins g.part dx fs) ∧ fs.lookup ("carries" : Str) = none := by
  obtain ⟨q, dx, vs, vb, vk, rfl, h1, _⟩ := r_part h
  refine ⟨q, dx, _, rfl, (hid_some h1).2, ?_⟩
  have e1 : (("carries" : Str) == ("own_colour" : Str)) = false := by decide
  have e2 : (("carries" : Str) == ("own_start" : Str)) = false := by decide
  have e3 : (("carries" : Str) == ("known" : Str)) = false := by decide
  have e4 : (("carries" : Str) == ("own_places" : Str)) = false := by decide
  have e5 : (("carries" : Str) == ("own_basis" : Str)) = false := by decide
  have e6 : (("carries" : Str) == ("own_border" : Str)) = false := by decide
  simp [List.lookup, e1, e2, e3, e4, e5, e6]
theorem ev_Pbasis (pk : Pk K g) (h : EvS g ta Γ (· = .part p)) : EvS g (tFld K ta "own_basis") Γ (· = .tup (p.basis.map D.pl)) := ev_fld h fun m H v r => by
  obtain ⟨q, dx, vs, vb, vk, rfl, h1, h2, h3, h4⟩ := r_part r
  exact ⟨q, g.part, dx, _, vb, rfl, (hid_some h1).2, pk.clP, pk.nPb, rfl, h3⟩
theorem ev_Pplaces (pk : Pk K g) (h : EvS g ta Γ (· = .part p)) : EvS g (tFld K ta "own_places") Γ (· = .int p.places) := ev_fld h fun m H v r => by
  obtain ⟨q, dx, vs, vb, vk, rfl, h1, h2, h3, h4⟩ := r_part r
  exact ⟨q, g.part, dx, _, _, rfl, (hid_some h1).2, pk.clP, pk.nPp, rfl, .int _⟩
theorem ev_Pknown (pk : Pk K g) (h : EvS g ta Γ (· = .part p)) : EvS g (tFld K ta "known") Γ (· = .dct (knD p.known)) := ev_fld h fun m H v r => by
  obtain ⟨q, dx, vs, vb, vk, rfl, h1, h2, h3, h4⟩ := r_part r
  exact ⟨q, g.part, dx, _, vk, rfl, (hid_some h1).2, pk.clP, pk.nPk, rfl, h4⟩
end
section
variable {P : Program} {w : World} {K : PySem.W.Frag} {mg : Str → Option Value} {base : Heap} {g : Gl}
def sp_Part___init__ (g : Gl) : Sp := pri g 6 g.part (ι := PD × List Pt) (fun i => [.d (.str i.1.colour), .d (D.pl i.1.start), .d (.dct (knD i.1.known)), .d (.lst (i.2.map D.pl)), .d (.int i.1.border)]) (fun i => ∀ s ∈ i.2, -100 ≤ s.1 ∧ s.1 ≤ 100 ∧ -100 ≤ s.2 ∧ s.2 ≤ 100) (fun i d => ∃ bs, Basis i.2 bs ∧ d = .part { i.1 with places := i.1.known.length, basis := bs })
theorem fn_Part___init__ (hK : g.K = K) (T : Blt mg) (pk : Pk K g) {f : Addr} (h : Fnd K "__init__" "Part.__init__" (inClass (topS 45) 0) f) (c_basis_of : C8.Cal P w K mg base 3 "basis_of" (sp_basis_of g) []) : FnM P w K mg base 4 f (sp_Part___init__ g) := by
  subst hK
  refine h.init (k := 3) (N := ["self", "colour", "start", "places", "shifts", "border"]) (ps := ["self", "colour", "start", "places", "shifts", "border"]) (r := 0) (fun _ _ _ _ _ _ us hl => match us, hl with | [_, _, _, _, _, _], _ => rfl) (C8.fnScope_by (by decide +kernel)) rfl rfl fun cdv A outer s H E hr => ?_
  refine ⟨_, (pss_cons (ps_fld (pv 0) (pv 1) rfl)
    (pss_cons (ps_fld (pv 0) (pv 2) rfl)
    (pss_cons (ps_fld (pv 0) (pv 3) rfl)
    (pss_cons (ps_fld (pv 0) (pe_callB call_len_rd (by rfl) T.len PySem.boot_len (pa_cons (pv 3) pa_nil)) rfl)
    (pss_cons (ps_fld (pv 0) (C8.pe_c c_basis_of hr (by decide) rfl (pa_cons (pv 4) pa_nil)) rfl)
    (pss_one (ps_fld (pv 0) (pv 5) rfl))))))), fun i y hp => ?_⟩
  obtain ⟨p, l⟩ := i
  dsimp only at hp
  refine sv_seq (sv_fld (i := 0) rfl pk.clP pk.nPc (fun z => by cases z) (by decide) (ev_var rfl) fun d e => ?_)
  subst e
  refine sv_seq (sv_fld (i := 0) rfl pk.clP pk.nPs (by show ("own_start" : Str) ∉ (["own_colour"] : List Str); decide) (by show 1 < 1000; decide) (ev_var rfl) fun d e => ?_)
  subst e
  refine sv_seq (sv_fld (i := 0) rfl pk.clP pk.nPk (by show ("known" : Str) ∉ (["own_colour", "own_start"] : List Str); decide) (by show 2 < 1000; decide) (ev_var rfl) fun d e => ?_)
  subst e
  refine sv_seq (sv_fld (i := 0) rfl pk.clP pk.nPp (by show ("own_places" : Str) ∉ (["own_colour", "own_start", "known"] : List Str); decide) (by show 3 < 1000; decide) (ev_lenR (ev_var rfl)) fun d e => ?_)
  subst e
  refine sv_seq (sv_fld (i := 0) rfl pk.clP pk.nPb (by show ("own_basis" : Str) ∉ (["own_colour", "own_start", "known", "own_places"] : List Str); decide) (by show 4 < 1000; decide) (ev_callI l (ea_cons' (ev_var rfl) ea_nil) hp) fun d e => ?_)
  obtain ⟨bs, rfl, hb⟩ := e
  refine sv_fld (i := 0) rfl pk.clP pk.nPo (by show ("own_border" : Str) ∉ (["own_colour", "own_start", "known", "own_places", "own_basis"] : List Str); decide) (by show 5 < 1000; decide) (ev_var rfl) fun d e => ?_
  subst e
  refine ⟨_, _, rfl, ?_, bs, hb, rfl⟩
  have := Ob.part (g := g) { p with places := p.known.length, basis := bs }
  rw [show (p.known.length : Int) = ((knD p.known).length : Nat) from by rw [List.length_map]] at this ⊢
  exact this
def sp_Part_size (g : Gl) : Sp := pr g 1 (ι := PD) (fun p => [.d (.part p)]) (fun _ => True) (fun p r => r = if p.basis.isEmpty then .int p.places else .non)
theorem fn_Part_size (hK : g.K = K) (T : Blt mg) (pk : Pk K g) {f : Addr} (h : Fnd K "size" "Part.size" (inClass (topS 45) 5) f) : FnM P w K mg base 1 f (sp_Part_size g) := by
  subst hK
  refine h.ok (k := 0) (N := ["self"]) (ps := ["self"]) (r := 0) (fun _ _ _ _ _ _ us hl => match us, hl with | [_], _ => rfl) (C8.fnScope_by (by decide +kernel)) rfl rfl fun cdv A outer s H E hr => ?_
  refine ⟨_, (pss_one (ps_ret (pe_ifExp (pt_cmpR (eqD (K := g.K) rfl hr.units) (fldK (K := g.K) rfl (pv 0) rfl) (pe_tup pa_nil) (nomark _)) (fldK (K := g.K) rfl (pv 0) rfl) pe_non))), fun i hp => ?_⟩
  refine sv_ret (ev_if (et_test (ev_eqU (ps := i.basis) (ev_Pbasis pk (ev_var rfl)) (ev_tup' ed_nil (by decide)))) (fun z => (ev_Pplaces pk (ev_var rfl)).imp fun d e => ?_) fun z => ev_non.imp fun d e => ?_)
  · rw [← z, if_pos rfl]; exact e
  · rw [← z, if_neg (by decide)]; exact e
def sp_Part_net (g : Gl) : Sp := pr g 1 (ι := PD) (fun p => [.d (.part p)]) (fun p => BOk p.basis) (fun p r => (∃ a b c, p.basis = [(a, 0), (b, c)] ∧ r = .net a b c) ∨ (p.basis.length < 2 ∧ r = .non))
theorem fn_Part_net (hK : g.K = K) (T : Blt mg) (pk : Pk K g) {f : Addr} (h : Fnd K "net" "Part.net" (inClass (topS 45) 7) f) (mk_Net : C8.Mak P w K mg base 3 "Net" g.net (sp_Net___init__ g) []) : FnM P w K mg base 5 f (sp_Part_net g) := by
  subst hK
  refine h.ok (k := 4) (N := ["self", "one", "other"]) (ps := ["self"]) (r := 2) (fun _ _ _ _ _ _ us hl => match us, hl with | [_], _ => rfl) (C8.fnScope_by (by decide +kernel)) rfl rfl fun cdv A outer s H E hr => ?_
  have nd : List.Nodup (α := Str) ["self", "one", "other"] := by decide +kernel
  refine ⟨_, (pss_cons (ps_if (pt_cmpR op_lt (pe_callB (lenK (K := g.K) rfl) (by rfl) T.len PySem.boot_len (pa_cons (fldK (K := g.K) rfl (pv 0) rfl) pa_nil)) pe_int (nomark _))
      (pss_one (ps_ret pe_non))
      pss_nil)
    (pss_cons (ps_asg (fldK (K := g.K) rfl (pv 0) rfl) (pgT (K := g.K) (n := 2) rfl (by rfl) (pgs_cons (pg_name (i := 1) nd rfl (.inl rfl)) (pgs_cons (pg_name (i := 2) nd rfl (.inl rfl)) pgs_nil))))
    (pss_one (ps_ret (C8.pe_mk mk_Net hr (by decide) rfl (pa_cons (pe_ix (ixT (K := g.K) rfl) (pv 1) pe_int (fun _ _ => rfl)) (pa_cons (pe_ix (ixT (K := g.K) rfl) (pv 2) pe_int (fun _ _ => rfl)) (pa_cons (pe_ix (ixT (K := g.K) rfl) (pv 2) pe_int (fun _ _ => rfl)) pa_nil)))))))), fun i hp => ?_⟩
  obtain ⟨co, st, pl, kn, bs, bo⟩ := i
  dsimp only at hp ⊢
  cases hp with
  | nil => exact sv_seq (sv_if (et_test (ev_cmp (ev_lenT (ev_Pbasis pk (ev_var rfl))) ev_int)) (fun z => sv_ret (ev_non.imp fun d e => .inr ⟨by decide, e⟩)) fun z => by cases z)
  | one x y h1 h2 => exact sv_seq (sv_if (et_test (ev_cmp (ev_lenT (ev_Pbasis pk (ev_var rfl))) ev_int)) (fun z => sv_ret (ev_non.imp fun d e => .inr ⟨by show 1 < 2; decide, e⟩)) fun z => by cases z)
  | two a b c h1 h2 h3 h4 h5 =>
    refine sv_seq (sv_if (et_test (ev_cmp (ev_lenT (ev_Pbasis pk (ev_var rfl))) ev_int)) (fun z => by cases z) fun z => sv_next ?_)
    refine sv_seq (sv_asg2 (ev_Pbasis pk (ev_var rfl)) fun d e => ⟨_, _, e, ?_⟩)
    exact sv_ret ((ev_makeI (⟨a, b, c⟩ : Nt) (ea_cons' (ev_t0 (ev_var rfl)) (ea_cons' (ev_t0 (ev_var rfl)) (ea_cons' (ev_t1 (ev_var rfl)) ea_nil))) ⟨h2, h3, h4⟩).imp fun d e => .inl ⟨a, b, c, rfl, e⟩)
def sp_Part_carries (g : Gl) : Sp := pr g 2 (ι := PD × Pt) (fun i => [.d (.part i.1), .d (D.pl i.2)]) (fun i => BOk i.1.basis ∧ -100000 ≤ i.2.1 ∧ i.2.1 ≤ 100000 ∧ -100000 ≤ i.2.2 ∧ i.2.2 ≤ 100000) (fun i r => r = .bl (carB i.1.basis i.2))
theorem fdiv_mid {c y : Int} (hy : y ≠ 0) (hc : -100000 ≤ c ∧ c ≤ 100000) (hy2 : -100000 ≤ y ∧ y ≤ 100000) : (c.fdiv y).natAbs ≤ 300000 := by
  have hq := Int.fmod_def c y
  have hm := fmod_small (x := c) hy
  have h1 : (c.fdiv y * y).natAbs ≤ c.natAbs + y.natAbs := by rw [Int.mul_comm]; omega
  rw [Int.natAbs_mul] at h1
  have h3 : 1 ≤ y.natAbs := by omega
  have h4 : (c.fdiv y).natAbs * 1 ≤ (c.fdiv y).natAbs * y.natAbs := Nat.mul_le_mul_left _ h3
  omega
theorem fn_Part_carries (hK : g.K = K) (T : Blt mg) (pk : Pk K g) {f : Addr} (h : Fnd K "carries" "Part.carries" (inClass (topS 45) 9) f) (p_Pnet : Prp P w K mg base 5 g.part "net" (sp_Part_net g)) {fc : Addr} (fc_ok : FnM P w K mg base 3 fc (sp_Net___contains__ g)) (me_c : Meth K g.net "__contains__" fc) : FnM P w K mg base 7 f (sp_Part_carries g) := by
  subst hK
  refine h.ok (k := 6) (N := ["self", "shift", "net", "x", "y", "times"]) (ps := ["self", "shift"]) (r := 4) (fun _ _ _ _ _ _ us hl => match us, hl with | [_, _], _ => rfl) (C8.fnScope_by (by decide +kernel)) rfl rfl fun cdv A outer s H E hr => ?_
  have nd : List.Nodup (α := Str) ["self", "shift", "net", "x", "y", "times"] := by decide +kernel
  refine ⟨_, (pss_cons (ps_if (pt_cmpR (eqD (K := g.K) rfl hr.units) (fldK (K := g.K) rfl (pv 0) rfl) (pe_tup pa_nil) (nomark _))
      (pss_one (ps_ret (pe_cmpR (eqD (K := g.K) rfl hr.units) (pv 1) (pe_tup (pa_cons pe_int (pa_cons pe_int pa_nil))) (nomark _))))
      pss_nil)
    (pss_cons (ps_set (i := 2) nd rfl (.inl rfl) (pe_prp p_Pnet hr (by decide) (pv 0) rfl))
    (pss_cons (ps_if (pt_cmpR op_notN (pv 2) pe_non (nomark _))
      (pss_one (ps_ret (pe_cmpR (op_inOwn fc_ok pk.clN me_c hr (by decide)) (pv 1) (pv 2) rfl)))
      pss_nil)
    (pss_cons (ps_asg (pe_ix (ixT (K := g.K) rfl) (fldK (K := g.K) rfl (pv 0) rfl) pe_int (fun _ _ => rfl)) (pgT (K := g.K) (n := 2) rfl (by rfl) (pgs_cons (pg_name (i := 3) nd rfl (.inl rfl)) (pgs_cons (pg_name (i := 4) nd rfl (.inl rfl)) pgs_nil))))
    (pss_cons (ps_set (i := 5) nd rfl (.inl rfl) (pe_ifExp (pt_cmpR op_ne (pv 4) pe_int (nomark _)) (pe_op op_fdivN (pe_ix (ixT (K := g.K) rfl) (pv 1) pe_int (fun _ _ => rfl)) (pv 4)) (pe_op op_fdivN (pe_ix (ixT (K := g.K) rfl) (pv 1) pe_int (fun _ _ => rfl)) (pv 3))))
    (pss_one (ps_ret (pe_cmpR (eqD (K := g.K) rfl hr.units) (pv 1) (pe_tup (pa_cons (pe_op op_mul (pv 5) (pv 3)) (pa_cons (pe_op op_mul (pv 5) (pv 4)) pa_nil))) (nomark _))))))))), fun i hp => ?_⟩
  obtain ⟨⟨co, st, pl, kn, bs, bo⟩, s1, s2⟩ := i
  obtain ⟨hb, b1, b2, b3, b4⟩ := hp
  dsimp only at hb b1 b2 b3 b4 ⊢
  cases hb with
  | nil => exact sv_seq (sv_if (et_test (ev_eqU (ps := []) (EvS.to' (ev_Pbasis pk (ev_var rfl)) rfl) (ev_tup' ed_nil (by decide)))) (fun z => sv_ret (EvS.to' (ev_eqP (p := (s1, s2)) (q := (0, 0)) (ev_var rfl) (ev_p2 ev_int ev_int)) rfl)) fun z => by cases z)
  | one x y h1 h2 =>
    obtain ⟨x1, x2, y1, y2⟩ := h2
    refine sv_seq (sv_if (et_test (ev_eqU (ps := [(x, y)]) (EvS.to' (ev_Pbasis pk (ev_var rfl)) rfl) (ev_tup' ed_nil (by decide)))) (fun z => by cases z) fun z => sv_next ?_)
    refine sv_seq (sv_asg (A := (· = .non)) (EvS.imp (ev_prop (⟨co, st, pl, kn, [(x, y)], bo⟩ : PD) (ev_var rfl) (fun m H v r => ob_part r) rfl (.one x y h1 ⟨x1, x2, y1, y2⟩)) fun d e => ?_) fun d e => ?_)
    · rcases e with ⟨_, _, _, e, _⟩ | ⟨_, e⟩
      · cases e
      · exact e
    · subst e
      refine sv_seq (sv_if (et_test (ev_notN (ev_var rfl) ev_non)) (fun z => by cases z) fun z => sv_next ?_)
      refine sv_seq (sv_asg2 (ev_t0 (d := D.pl (x, y)) (ds := []) (EvS.to' (ev_Pbasis pk (ev_var rfl)) rfl)) fun d e => ⟨_, _, e, ?_⟩)
      refine sv_seq (sv_asg (A := fun d => d = .int (if y ≠ 0 then s2.fdiv y else s1.fdiv x) ∧ -(2 ^ 64) < (if y ≠ 0 then s2.fdiv y else s1.fdiv x) ∧ (if y ≠ 0 then s2.fdiv y else s1.fdiv x) < 2 ^ 64) (ev_if (et_test (ev_neI (ev_var rfl) ev_int)) (fun z => ?_) fun z => ?_) fun d hd => ?_)
      · have hy : y ≠ 0 := fun e => by rw [e] at z; cases z
        rw [if_pos hy]
        have f1 := fdiv_mid hy ⟨b3, b4⟩ ⟨y1, y2⟩
        exact (ev_I (ev_t1 (ev_var rfl)) (ev_var rfl) ⟨hy, by show y.natAbs < 1073741824; omega⟩).imp fun d e => ⟨e, by omega, by omega⟩
      · have hy : y = 0 := Classical.byContradiction fun e => by simp [e] at z
        have hx : x ≠ 0 := fun e => h1 (by rw [e, hy])
        rw [if_neg (fun e => e hy)]
        have f1 := fdiv_mid hx ⟨b1, b2⟩ ⟨x1, x2⟩
        exact (ev_I (ev_t0 (ev_var rfl)) (ev_var rfl) ⟨hx, by show x.natAbs < 1073741824; omega⟩).imp fun d e => ⟨e, by omega, by omega⟩
      · obtain ⟨rfl, t1, t2⟩ := hd
        exact sv_ret (EvS.to' (ev_eqP (p := (s1, s2)) (q := ((if y ≠ 0 then s2.fdiv y else s1.fdiv x) * x, (if y ≠ 0 then s2.fdiv y else s1.fdiv x) * y)) (ev_var rfl) (ev_p2 (ev_I (ev_var rfl) (ev_var rfl) (.inl ⟨t1, t2⟩)) (ev_I (ev_var rfl) (ev_var rfl) (.inl ⟨t1, t2⟩)))) rfl)
  | two a b c h1 h2 h3 h4 h5 =>
    refine sv_seq (sv_if (et_test (ev_eqU (ps := [(a, 0), (b, c)]) (EvS.to' (ev_Pbasis pk (ev_var rfl)) rfl) (ev_tup' ed_nil (by decide)))) (fun z => by cases z) fun z => sv_next ?_)
    refine sv_seq (sv_asg (A := (· = .net a b c)) (EvS.imp (ev_prop (⟨co, st, pl, kn, [(a, 0), (b, c)], bo⟩ : PD) (ev_var rfl) (fun m H v r => ob_part r) rfl (.two a b c h1 h2 h3 h4 h5)) fun d e => ?_) fun d e => ?_)
    · rcases e with ⟨a', b', c', e, e2⟩ | ⟨e, _⟩
      · cases e; exact e2
      · exact absurd e (by show ¬ 2 < 2; decide)
    · subst e
      refine sv_seq (sv_if (et_test (ev_notN (ev_var rfl) ev_non)) (fun z => ?_) fun z => by cases z)
      exact sv_ret (EvS.to' (ev_inOwn (b := decide (low a b c (s1, s2) = (0, 0))) ((⟨a, b, c⟩ : Nt), (s1, s2)) (ev_var rfl) (ev_var rfl) (fun m H v r => ob_net r) rfl ⟨h1, h4, h5, .inr ⟨b3, b4⟩⟩ fun d e => e) rfl)
end
end K55
set_option maxHeartbeats 1000000
/-! A display of one pair, its key a place; a walk over a dict. -/
namespace K55
open PySem PySem.Spec PyProof.Rows L2
open Evl (Ex)
/-- {k: v} -/
def tDisp1 (tk tv : TE) : TE := fun σ H Q => ∀ p, H p = none → tk σ (upd H p (.dT [])) fun x H1 => tv σ H1 fun y H2 => H2 p = some (.dT []) ∧ ∃ (kk : List Key) (b : Addr), x = .ref b ∧ H2 b = some (.tup (kk.map kV)) ∧ Q (.ref p) (upd H2 p (.dT [(kk, y)]))
theorem pe_disp1 {X : Cx} {pos : PySem.Pos} {k v : Expr} {tk tv : TE} (hu : X.A.units + 1 < cLine) (hk : PE X k tk) (hv : PE X v tv) : PE X (.Dict [some k] [v] pos) (tDisp1 tk tv) := by
  refine ⟨fun pins s σ H Q I q => ?_⟩
  have hn := I.hok.fresh (Nat.le_refl s.heap.objs.size)
  have I1 := I.laid (a := s.heap.objs.size) (o := .dT []) (h' := s.heap.push { cls := .type "dict", data := .dict #[] }) (t' := s.toks) (fun _ _ q => Heap.get?_push_of_some _ q) (Nat.le_refl _) (dt_empty s.heap I.big)
  rw [arm_eval_Dict, zip_pairTrees _ _ _ _ rfl rfl, dictDisplay_pairs _ (by intro z; cases z) (by show 1 < 17; decide)]
  refine wpAny_bind (wpAny_standAt (wpAny_bind (wpAny_subDictH (knd := tupleKind (mixKind X.prog X.w)) (Nat.lt_of_succ_lt hu) (by show 1 ≤ 15; decide) ?_)))
  refine pairTrees_cons_walk (thn (hk.run pins _ σ _ _ I1 (q _ hn)) fun u s1 ⟨x, H1, I2, rx, q1⟩ => thn (hv.run pins s1 σ H1 _ I2 q1) fun w2 s2 ⟨y, H2, I3, ry, q2⟩ => pairTrees_nil_walk ?_)
  obtain ⟨e, kk, b, rfl, hb, q3⟩ := q2
  obtain rfl : u = Value.ref b := rx
  obtain ⟨z, hd, xs, rel, dd⟩ := dt_of I3.hok e
  cases rel
  refine ⟨[(kk, b, w2)], ⟨rfl, rfl, key_of I3.hok hb, trivial⟩, dd, fun h' tk dd' hs => wpAny_pure ⟨.ref s.heap.objs.size, _, ?_, rfl, q3⟩⟩
  obtain ⟨ob, es, ep, hq, h2, h3, h4, _, h5⟩ := dd'
  have rel' : KT H2 [(kk, y)] (storedAllH [] [(kk, b, w2)]) := (show KT H2 [] [] from .nil).put kk hb ry
  refine d_write I3 (by rw [e]; exact True.intro) hs ⟨ob, hq⟩ ⟨by show 1 ≤ _; rw [sizeLine_eq]; decide, hd, _, rel'.keeps fun c ys ec => ?_, ob, es, ep, hq, h2, h3, h4, h5⟩
  rw [upd_ne (ne_of ec e (fun z => nomatch z))]
  exact ec
section
variable {g : Gl} {F : Fr} {m : List Addr} {σ : L2.St} {H H' : Hp} {Γ Γ' Γ'' : List C} {te ta tb : TE} {A B P : D → Prop} {ts tu tv : TS} {tt : TT} {E : En} {tg : TG} {js : List Nat} {i j k l : Nat} {x y d : D} {wi : TI}
/-- known, waiting, shifts, n = ({start: start}, [start], [], n) -/
theorem sv_par4 {b : Nat} {p : Int × Int} {n : Int} (hb : Γ[b]? = some (.d (D.pl p))) (bi : b ≠ i) (bj : b ≠ j)
    (q : E.nx ((((Γ.set i (.md [(p, D.pl p)])).set j (.ml [D.pl p])).set k (.ml [])).set l (.d (.int n)))) :
    Sv g (tAsg (tTup (tCons (tDisp1 (tVar b) (tVar b)) (tCons (tLst (tCons (tVar b) tNil)) (tCons (tLst tNil) (tCons (tC (.int n)) tNil))))) (gTup g.K 4 (gCons (gName i) (gCons (gName j) (gCons (gName k) (gCons (gName l) gNil)))))) Γ E := fun F m σ H Ed e s a _ _ _ => by
  obtain ⟨v, hv, w, rfl, r⟩ := s.at hb
  subst e
  obtain ⟨bk, rfl, hbk⟩ := key_tup r
  have hbk' := (hid_some hbk).2
  intro p1 hp1
  have n1 : bk ≠ p1 := fun z => by rw [z, hp1] at hbk'; cases hbk'
  refine ⟨_, hv, _, hv, upd_same, _, bk, rfl, (upd_ne n1).trans hbk', _, hv, by show 1 ≤ sizeLine; rw [sizeLine_eq]; decide, fun p2 hp2 => ⟨by show 0 ≤ sizeLine; rw [sizeLine_eq]; decide, fun p3 hp3 => ⟨by show 4 ≤ sizeLine; rw [sizeLine_eq]; decide, fun p4 hp4 => ?_⟩⟩⟩
  have eu : upd (upd H p1 (.dT [])) p1 (.dT [(keyP p, .ref bk)]) = upd H p1 (.dT [(keyP p, .ref bk)]) := by
    funext x
    unfold upd
    split <;> rfl
  rw [eu] at hp2 hp3 hp4 ⊢
  have r1 : R F.g (hid (p1 :: m) (upd H p1 (.dT [(keyP p, .ref bk)]))) (.ref bk) (D.pl p) := r.mono (.of (hid_new hp1))
  obtain ⟨s1, l1⟩ := s.setO (i := i) (c' := .md [(p, D.pl p)]) (H1 := upd H p1 (.dT [(keyP p, .ref bk)])) (kp_new hp1) hp1 (by rw [upd_same]; exact fun z => by cases z) fun h0 nlk => ⟨p1, _, rfl, List.mem_cons_self, ⟨h0, nlk⟩, upd_same, rfl, .one r1⟩
  have r2 : R F.g (hid (p2 :: p1 :: m) (upd (upd H p1 (.dT [(keyP p, .ref bk)])) p2 (.lst [.ref bk]))) (.ref bk) (D.pl p) := r1.mono (.of (hid_new hp2))
  obtain ⟨s2, l2⟩ := s1.setO (i := j) (c' := .ml [D.pl p]) (H1 := upd (upd H p1 (.dT [(keyP p, .ref bk)])) p2 (.lst [.ref bk])) (kp_new hp2) hp2 (by rw [upd_same]; exact fun z => by cases z) fun h0 nlk => ⟨p2, _, rfl, List.mem_cons_self, ⟨h0, nlk⟩, upd_same, .one r2⟩
  obtain ⟨s3, l3⟩ := s2.setO (i := k) (c' := .ml []) (H1 := upd (upd (upd H p1 (.dT [(keyP p, .ref bk)])) p2 (.lst [.ref bk])) p3 (.lst [])) (kp_new hp3) hp3 (by rw [upd_same]; exact fun z => by cases z) fun h0 nlk => ⟨p3, _, rfl, List.mem_cons_self, ⟨h0, nlk⟩, upd_same, .nil⟩
  have s4 := s3.keep (kp_new (o := .tup [.ref p1, .ref p2, .ref p3, .int n]) hp4)
  have l4 := s3.lt (kp_new (o := .tup [.ref p1, .ref p2, .ref p3, .int n]) hp4)
  exact ⟨_, _, rfl, SqT.of upd_same, rfl, _, _, rfl, _, _, rfl, _, _, rfl, _, _, rfl, rfl, a _ _ _ _ (((l1.trans l2).trans l3).trans l4) (s4.setd (.int n)) q⟩
end
end K55
set_option maxHeartbeats 1000000
/-! The search of a part, told plainly. -/
namespace K55
/-- connected by steps of one colour -/
inductive Cn (χ : Pt → Nat) (p : Pt) : Pt → Prop
  | refl : Cn χ p p
  | step {q r : Pt} : Cn χ p q → r ∈ around q → χ r = χ p → Cn χ p r
abbrev lw (n : Nt) (p : Pt) : Pt := low n.a n.b n.c p
def Clos (n : Nt) (K : List (Pt × Pt)) (S : List Pt) (q : Pt) : Prop := ∃ v, (lw n q, v) ∈ K ∧ (q = v ∨ pSub q v ∈ S)
def Nr (k : Nat) (s v : Pt) : Prop := s.1 - k < v.1 ∧ v.1 < s.1 + k ∧ s.2 - k < v.2 ∧ v.2 < s.2 + k
def Dn (n : Nt) (χ : Pt → Nat) (st : Pt) (K : List (Pt × Pt)) (S : List Pt) (v : Pt) : Prop := ∀ q ∈ around v, χ q = χ st → Clos n K S q
structure ShOk (n : Nt) (χ : Pt → Nat) (st : Pt) (t : Pt) : Prop where
  ne : t ≠ (0, 0)
  bd : -100 ≤ t.1 ∧ t.1 ≤ 100 ∧ -100 ≤ t.2 ∧ t.2 ≤ 100
  ex : ∃ v, Cn χ st v ∧ Cn χ st (pAdd v t) ∧ lw n (pAdd v t) = lw n v
structure Bf (n : Nt) (χ : Pt → Nat) (st : Pt) (K : List (Pt × Pt)) (W S : List Pt) : Prop where
  nd : (K.map (·.1)).Nodup
  ok : ∀ e ∈ K, InC n.a n.c e.1 ∧ e.1 = lw n e.2 ∧ Cn χ st e.2 ∧ Nr K.length st e.2
  w : ∀ p ∈ W, ∃ k, (k, p) ∈ K
  s : ∀ t ∈ S, ShOk n χ st t
  s0 : (st, st) ∈ K
structure Bs (n : Nt) (χ : Pt → Nat) (st : Pt) (K : List (Pt × Pt)) (W S : List Pt) (p : Pt) (j : Nat) : Prop where
  bf : Bf n χ st K W S
  pk : ∃ k, (k, p) ∈ K
  cl : ∀ e ∈ K, e.2 = p ∨ e.2 ∈ W ∨ Dn n χ st K S e.2
  nb : ∀ q ∈ (around p).take j, χ q = χ st → Clos n K S q
  len : S.length + 4 * W.length + 4 ≤ 4 * K.length + j
section
variable {n : Nt} {χ : Pt → Nat} {st p q v : Pt} {K K' : List (Pt × Pt)} {W W' S S' : List Pt} {j : Nat}
theorem keys_len {k : List Pt} (hv : VN 9 n) (nd : k.Nodup) (h : ∀ p ∈ k, InC n.a n.c p) : k.length ≤ 9 := by
  have h1 := nodup_le nd (k := spots n.a n.c) fun x hx => (mem_spots hv.a1 hv.c1).mpr (h x hx)
  have h2 := spots_len (a := n.a) (c := n.c)
  have h3 := hv.sz
  omega
theorem Bf.len (hv : VN 9 n) (h : Bf n χ st K W S) : K.length ≤ 9 := by
  have := keys_len hv h.nd fun p hp => by
    obtain ⟨e, he, rfl⟩ := List.mem_map.mp hp
    exact (h.ok e he).1
  rw [List.length_map] at this
  exact this
theorem Clos.mono (hK : ∀ e ∈ K, e ∈ K') (hS : ∀ e ∈ S, e ∈ S') (h : Clos n K S q) : Clos n K' S' q := by
  obtain ⟨v, h1, h2⟩ := h
  exact ⟨v, hK _ h1, h2.imp id (hS _)⟩
theorem around_near (h : q ∈ around p) : (q.1 = p.1 + 1 ∨ q.1 = p.1 ∨ q.1 = p.1 - 1) ∧ (q.2 = p.2 + 1 ∨ q.2 = p.2 ∨ q.2 = p.2 - 1) := by
  unfold around at h
  simp only [List.mem_cons, List.not_mem_nil, or_false] at h
  rcases h with rfl | rfl | rfl | rfl <;> dsimp only <;> omega
theorem take_nb (h : ∀ q ∈ (around p).take j, χ q = χ st → Clos n K S q) (hK : ∀ e ∈ K, e ∈ K') (hS : ∀ e ∈ S, e ∈ S') (hq : (around p)[j]? = some q) (hc : χ q = χ st → Clos n K' S' q) : ∀ q ∈ (around p).take (j + 1), χ q = χ st → Clos n K' S' q := fun r hr hx => by
  rw [List.take_add_one, hq] at hr
  rcases List.mem_append.mp hr with z | z
  · exact (h r z hx).mono hK hS
  · have e : r = q := List.mem_singleton.mp z
    subst e
    exact hc hx
theorem Bs.skip (h : Bs n χ st K W S p j) (hq : (around p)[j]? = some q) (hx : χ q ≠ χ st) : Bs n χ st K W S p (j + 1) :=
  ⟨h.bf, h.pk, h.cl, take_nb h.nb (fun _ z => z) (fun _ z => z) hq fun z => absurd z hx, by have := h.len; omega⟩
theorem Bs.same (h : Bs n χ st K W S p j) (hq : (around p)[j]? = some q) (hk : (lw n q, q) ∈ K) : Bs n χ st K W S p (j + 1) :=
  ⟨h.bf, h.pk, h.cl, take_nb h.nb (fun _ z => z) (fun _ z => z) hq fun z => ⟨q, hk, .inl rfl⟩, by have := h.len; omega⟩
theorem Bs.new (hv : VN 9 n) (h : Bs n χ st K W S p j) (hq : (around p)[j]? = some q) (hx : χ q = χ st) (hn : ∀ e ∈ K, e.1 ≠ lw n q) : Bs n χ st (K ++ [(lw n q, q)]) (W ++ [q]) S p (j + 1) := by
  have hK : ∀ e ∈ K, e ∈ K ++ [(lw n q, q)] := fun e he => List.mem_append_left _ he
  have hqa := List.mem_of_getElem? hq
  obtain ⟨kp, hp⟩ := h.pk
  obtain ⟨_, _, p3, p4⟩ := h.bf.ok _ hp
  dsimp only at p3 p4
  obtain ⟨a1, a2⟩ := around_near hqa
  unfold Nr at p4
  refine ⟨⟨?_, fun e he => ?_, fun r hr => ?_, h.bf.s, hK _ h.bf.s0⟩, ⟨kp, hK _ hp⟩, fun e he => ?_, take_nb h.nb hK (fun _ z => z) hq fun _ => ⟨q, List.mem_append_right _ (List.mem_singleton.mpr rfl), .inl rfl⟩, by
    have := h.len
    rw [List.length_append, List.length_append, List.length_singleton, List.length_singleton]
    omega⟩
  · rw [List.map_append]
    refine List.nodup_append.mpr ⟨h.bf.nd, List.nodup_cons.mpr ⟨fun z => (by cases z), List.nodup_nil⟩, fun a ha b hb => ?_⟩
    obtain ⟨e, he, rfl⟩ := List.mem_map.mp ha
    have : b = lw n q := List.mem_singleton.mp hb
    rw [this]
    exact hn e he
  · rw [List.length_append, List.length_singleton]
    rcases List.mem_append.mp he with z | z
    · obtain ⟨q1, q2, q3, q4⟩ := h.bf.ok e z
      unfold Nr at q4 ⊢
      exact ⟨q1, q2, q3, by omega⟩
    · have e2 : e = (lw n q, q) := List.mem_singleton.mp z
      subst e2
      refine ⟨low_in hv.a1 hv.c1 q, rfl, p3.step hqa hx, ?_⟩
      unfold Nr
      dsimp only
      omega
  · rcases List.mem_append.mp hr with z | z
    · obtain ⟨k, hk⟩ := h.bf.w r z
      exact ⟨k, hK _ hk⟩
    · have e2 : r = q := List.mem_singleton.mp z
      subst e2
      exact ⟨_, List.mem_append_right _ (List.mem_singleton.mpr rfl)⟩
  · rcases List.mem_append.mp he with z | z
    · rcases h.cl e z with c | c | c
      · exact .inl c
      · exact .inr (.inl (List.mem_append_left _ c))
      · exact .inr (.inr fun r hr hx => (c r hr hx).mono hK fun _ z => z)
    · have e2 : e = (lw n q, q) := List.mem_singleton.mp z
      subst e2
      exact .inr (.inl (List.mem_append_right _ (List.mem_singleton.mpr rfl)))
theorem sub_ne (h : q ≠ v) : pSub q v ≠ (0, 0) := fun e => h (by
  obtain ⟨e1, e2⟩ := Prod.mk.inj e
  exact Prod.ext (by omega) (by omega))
theorem add_sub : pAdd v (pSub q v) = q := Prod.ext (by show v.1 + (q.1 - v.1) = q.1; omega) (by show v.2 + (q.2 - v.2) = q.2; omega)
theorem Bs.shift (hv : VN 9 n) (h : Bs n χ st K W S p j) (hq : (around p)[j]? = some q) (hx : χ q = χ st) (hk : (lw n q, v) ∈ K) (hne : q ≠ v) : Bs n χ st K W (S ++ [pSub q v]) p (j + 1) := by
  have hS : ∀ e ∈ S, e ∈ S ++ [pSub q v] := fun e he => List.mem_append_left _ he
  have hqa := List.mem_of_getElem? hq
  obtain ⟨kp, hp⟩ := h.pk
  obtain ⟨_, _, p3, p4⟩ := h.bf.ok _ hp
  obtain ⟨_, v2, v3, v4⟩ := h.bf.ok _ hk
  dsimp only at p3 p4 v2 v3 v4
  obtain ⟨a1, a2⟩ := around_near hqa
  unfold Nr at p4 v4
  have hl := h.bf.len hv
  refine ⟨⟨h.bf.nd, h.bf.ok, h.bf.w, fun t ht => ?_, h.bf.s0⟩, h.pk, fun e he => ?_, take_nb h.nb (fun _ z => z) hS hq fun _ => ⟨v, hk, .inr (List.mem_append_right _ (List.mem_singleton.mpr rfl))⟩, by
    have := h.len
    rw [List.length_append, List.length_singleton]
    omega⟩
  · rcases List.mem_append.mp ht with z | z
    · exact h.bf.s t z
    · have e2 : t = pSub q v := List.mem_singleton.mp z
      subst e2
      refine ⟨sub_ne hne, ?_, v, v3, ?_, ?_⟩
      · unfold pSub
        dsimp only
        omega
      · rw [add_sub]; exact p3.step hqa hx
      · rw [add_sub]; exact v2
  · rcases h.cl e he with c | c | c
    · exact .inl c
    · exact .inr (.inl c)
    · exact .inr (.inr fun r hr hx => (c r hr hx).mono (fun _ z => z) hS)
/-- what a found part is -/
structure PartOk (n : Nt) (χ : Pt → Nat) (st : Pt) (P : PD) : Prop where
  places : P.places = P.known.length
  nd : (P.known.map (·.1)).Nodup
  ok : ∀ e ∈ P.known, InC n.a n.c e.1 ∧ e.1 = lw n e.2 ∧ Cn χ st e.2 ∧ -100 ≤ e.2.1 ∧ e.2.1 ≤ 100 ∧ -100 ≤ e.2.2 ∧ e.2.2 ≤ 100
  s0 : (st, st) ∈ P.known
  ex : ∃ S, Basis S P.basis ∧ (∀ e ∈ P.known, Dn n χ st P.known S e.2) ∧ ∀ t ∈ S, ShOk n χ st t
/-! what is known, as a dict -/
theorem has_kn (h : hasP (knD K) p = true) : ∃ v, (p, v) ∈ K := by
  unfold hasP at h
  obtain ⟨e, he, h2⟩ := List.any_eq_true.mp h
  obtain ⟨x, hx, rfl⟩ := List.mem_map.mp he
  have : x.1 = p := of_decide_eq_true h2
  exact ⟨x.2, this ▸ hx⟩
theorem not_kn (h : hasP (knD K) p = false) : ∀ e ∈ K, e.1 ≠ p := fun e he z => by
  have : hasP (knD K) p = true := List.any_eq_true.mpr ⟨_, List.mem_map.mpr ⟨e, he, rfl⟩, decide_eq_true z⟩
  rw [h] at this
  cases this
theorem in_kn (h : (p, v) ∈ K) : hasP (knD K) p = true := List.any_eq_true.mpr ⟨_, List.mem_map.mpr ⟨_, h, rfl⟩, decide_eq_true rfl⟩
theorem get_kn : ∀ {K : List (Pt × Pt)}, (K.map (·.1)).Nodup → (p, v) ∈ K → getP (knD K) p = some (D.pl v)
  | [], _, h => by cases h
  | e :: K, nd, h => by
    have nd' := List.nodup_cons.mp nd
    unfold getP
    by_cases q : e.1 = p
    · rw [show knD (e :: K) = (e.1, D.pl e.2) :: knD K from rfl, List.find?_cons_of_pos (by simp [q])]
      rcases List.mem_cons.mp h with z | z
      · rw [← z]; rfl
      · exact absurd (List.mem_map.mpr ⟨(p, v), z, q.symm⟩) nd'.1
    · rw [show knD (e :: K) = (e.1, D.pl e.2) :: knD K from rfl, List.find?_cons_of_neg (by simp [q])]
      rcases List.mem_cons.mp h with z | z
      · exact absurd (by rw [← z]) q
      · exact get_kn nd'.2 z
theorem put_kn (h : hasP (knD K) p = false) : putP (knD K) p (D.pl v) = knD (K ++ [(p, v)]) := by
  unfold putP
  rw [h, if_neg (by decide)]
  show _ = (K ++ [(p, v)]).map _
  rw [List.map_append]
  rfl
theorem one_inj {a b : Nat} : one a = one b ↔ a = b := ⟨fun h => by
  unfold one at h
  have := congrArg (fun s => s.cps.toList) h
  exact (List.cons.inj this).1, fun h => by rw [h]⟩
end
end K55
set_option maxHeartbeats 1000000
/-! A part found. -/
namespace K55
open PySem PySem.Spec PyProof.Rows L2
open Evl (Ex)
theorem low_self {a b c : Int} {p : Pt} (h : InC a c p) : low a b c p = p := by
  obtain ⟨h1, h2, h3, h4⟩ := h
  have e : p.2 / c = 0 := Int.ediv_eq_zero_of_lt h3 h4
  unfold low
  rw [e]
  refine Prod.ext ?_ ?_
  · show (p.1 - 0 * b) % a = p.1
    rw [Int.zero_mul, Int.sub_zero]
    exact Int.emod_eq_of_lt h1 h2
  · show p.2 - 0 * c = p.2
    rw [Int.zero_mul, Int.sub_zero]
section
variable {P : Program} {w : World} {K : PySem.W.Frag} {mg : Str → Option Value} {base : Heap} {g : Gl}
def sp_part_from (g : Gl) : Sp := pr g 2 (ι := Nt × Str × Pt) (fun i => [.d (D.ca i.1 i.2.1), .d (D.pl i.2.2)]) (fun i => CarOk i.1 i.2.1 ∧ InC i.1.a i.1.c i.2.2) (fun i r => ∃ P, r = .part P ∧ PartOk i.1 (col i.1 i.2.1) i.2.2 P)
theorem cal_part_from (hK : g.K = K) (T : Blt mg) (h : Dfd K mg "part_from" (topS 46)) (c_neighbours : C8.Cal P w K mg base 2 "neighbours" (sp_neighbours g) []) (c_minus : C8.Cal P w K mg base 1 "minus" (sp_minus g) []) (m_place_in_cell : C8.Met P w K mg base 1 g.net "place_in_cell" (sp_Net_place_in_cell g) []) (pC_net : Prp P w K mg base 1 g.car "net" (sp_Carpet_net g)) (pW_net : Prp P w K mg base 1 g.wov "net" (sp_Carpet_net g)) (mC_seen : C8.Met P w K mg base 4 g.car "seen" (sp_Carpet_seen g) []) (mW_seen : C8.Met P w K mg base 4 g.wov "seen" (sp_Carpet_seen g) []) (mk_Part : C8.Mak P w K mg base 4 "Part" g.part (sp_Part___init__ g) []) : C8.Cal P w K mg base 7 "part_from" (sp_part_from g) [] := by
  subst hK
  refine h.cal (k := 6) (N := ["carpet", "start", "net", "colour", "known", "waiting", "shifts", "border", "near", "spot"]) (ps := ["carpet", "start"]) (r := 8) (fun _ _ _ _ _ _ us hl => match us, hl with | [_, _], _ => rfl) (C8.fnScope_by (by decide +kernel)) rfl rfl fun f cdv A outer s H E hr => ?_
  have nd : List.Nodup (α := Str) ["carpet", "start", "net", "colour", "known", "waiting", "shifts", "border", "near", "spot"] := by decide +kernel
  refine ⟨_, (pss_cons (ps_par (i := 2) (j := 3) (by rfl) nd rfl rfl (by decide) rfl rfl (pa_cons (pe_or2 (pe_prp pC_net hr (by decide) (pv 0) rfl) (pe_prp pW_net hr (by decide) (pv 0) rfl)) (pa_cons (pe_or2 (C8.pe_mt mC_seen hr (by decide) (pv 0) (pa_cons (pv 1) pa_nil)) (C8.pe_mt mW_seen hr (by decide) (pv 0) (pa_cons (pv 1) pa_nil))) pa_nil)) (by rfl))
    (pss_cons (ps_asg (pe_tup (pa_cons (pe_disp1 (hu_of hr) (pv 1) (pv 1)) (pa_cons (pe_lst (pa_cons (pv 1) pa_nil)) (pa_cons (pe_lst pa_nil) (pa_cons pe_int pa_nil))))) (pgT (K := g.K) (n := 4) rfl (by rfl) (pgs_cons (pg_name (i := 4) nd rfl (.inl rfl)) (pgs_cons (pg_name (i := 5) nd rfl (.inl rfl)) (pgs_cons (pg_name (i := 6) nd rfl (.inl rfl)) (pgs_cons (pg_name (i := 7) nd rfl (.inl rfl)) pgs_nil))))))
    (pss_cons (ps_while PassesOwn.never (pt_cmpR (neD (K := g.K) rfl hr.units) (pv 5) (pe_lst pa_nil) (nomark _))
      (pss_one (ps_for PassesOwn.never rfl (piL (K := g.K) rfl (C8.pe_c c_neighbours hr (by decide) rfl (pa_cons (pe_bm0 PySem.F.plainAttrs_list PySem.F.slot_list_pop PySem.F.type_list_pop mt_pop (pv 5)) pa_nil))) (pg_name (i := 8) nd rfl (.inl rfl))
          (pss_cons (ps_set (i := 9) nd rfl (.inl rfl) (C8.pe_mt m_place_in_cell hr (by decide) (pv 2) (pa_cons (pv 8) pa_nil)))
            (pss_one (ps_if (pt_cmpR op_ne (pe_or2 (C8.pe_mt mC_seen hr (by decide) (pv 0) (pa_cons (pv 8) pa_nil)) (C8.pe_mt mW_seen hr (by decide) (pv 0) (pa_cons (pv 8) pa_nil))) (pv 3) (nomark _))
              (pss_one (ps_aug (i := 7) nd rfl (.inl rfl) pe_int ip_add))
              (pss_one (ps_if (pt_cmp (pc_dnotin (hu_of hr) (pv 9) (pv 4)))
                  (pss_cons (ps_dput (hu_of hr) (pv 4) (pv 9) (pv 8) rfl)
                    (pss_one (ps_expr (pe_bm PySem.F.plainAttrs_list PySem.F.slot_list_append PySem.F.type_list_append mt_append (pv 5) (pa_cons (pv 8) pa_nil)))))
                  (pss_one (ps_if (pt_cmpR (neD (K := g.K) rfl hr.units) (pe_dget (hu_of hr) (pv 4) (pv 9) (fun _ _ => rfl)) (pv 8) (nomark _))
                      (pss_one (ps_expr (pe_bm PySem.F.plainAttrs_list PySem.F.slot_list_append PySem.F.type_list_append mt_append (pv 6) (pa_cons (C8.pe_c c_minus hr (by decide) rfl (pa_cons (pv 8) (pa_cons (pe_dget (hu_of hr) (pv 4) (pv 9) (fun _ _ => rfl)) pa_nil))) pa_nil))))
                      pss_nil))))))))))
    (pss_one (ps_ret (C8.pe_mk mk_Part hr (by decide) rfl (pa_cons (pv 3) (pa_cons (pv 1) (pa_cons (pv 4) (pa_cons (pv 6) (pa_cons (pv 7) pa_nil))))))))))), fun i hp => ?_⟩
  obtain ⟨n, z, st⟩ := i
  obtain ⟨hc, hst⟩ := hp
  dsimp only at hc hst ⊢
  have hv9 := hc.vn
  have hv := hc.vn.mono (show (9 : Int) ≤ 1000 by decide)
  refine sv_seq (sv_par' (ev_Cnet rfl) (ev_Cseen rfl (ev_var rfl) hc) ?_)
  refine sv_seq (sv_par4 (b := 1) (p := st) (n := 0) rfl (by decide) (by decide) ?_)
  refine sv_seq (sv_while (fun m Γ => ∃ (K : List (Pt × Pt)) (W S : List Pt) (bo : Int) (x y : C), m = 2 * (9 - K.length) + W.length ∧ Γ = [.d (D.ca n z), .d (D.pl st), .d (D.ne n), .d (.str (one (col n z st))), .md (knD K), .ml (W.map D.pl), .ml (S.map D.pl), .d (.int bo), x, y] ∧ Bf n (col n z) st K W S ∧ (∀ e ∈ K, e.2 ∈ W ∨ Dn n (col n z) st K S e.2) ∧ S.length + 4 * W.length ≤ 4 * K.length) _ ⟨[(st, st)], [st], [], 0, _, _, rfl, rfl, ?_, ?_, by show 0 + 4 * 1 ≤ 4 * 1; decide⟩ fun m Γ' hw => ?_)
  · refine ⟨List.nodup_cons.mpr ⟨fun z => (by cases z), List.nodup_nil⟩, fun e he => ?_, fun p hp => ?_, fun t ht => (by cases ht), List.mem_singleton.mpr rfl⟩
    · have e2 : e = (st, st) := List.mem_singleton.mp he
      subst e2
      refine ⟨hst, (low_self hst).symm, .refl, ?_⟩
      unfold Nr
      show st.1 - ((1 : Nat) : Int) < st.1 ∧ _
      dsimp only [List.length_singleton]
      omega
    · have e2 : p = st := List.mem_singleton.mp hp
      exact ⟨st, by rw [e2]; exact List.mem_singleton.mpr rfl⟩
  · exact fun e he => .inl (by have e2 : e = (st, st) := List.mem_singleton.mp he; rw [e2]; exact List.mem_singleton.mpr rfl)
  · obtain ⟨K0, W, S, bo, x, y, rfl, rfl, hb, hcl, hl⟩ := hw
    refine ⟨_, et_test (ev_neM rfl), fun zz => ?_, fun zz => ?_⟩
    · have hW : W ≠ [] := fun e => by rw [e] at zz; cases zz
      obtain ⟨W0, p, rfl⟩ : ∃ W0 p, W = W0 ++ [p] := ⟨W.dropLast, W.getLast hW, (List.dropLast_concat_getLast hW).symm⟩
      have hk0 := hb.len hv9
      rw [List.length_append, List.length_singleton] at hl
      refine sv_forX (eix_list (ex_call (ex_pop (d := D.pl p) rfl (by rw [List.map_append]; exact List.getLast?_concat)) fun x hx => ⟨p, by rw [hx], rfl, trivial, fun d e => e⟩) fun x hx => ⟨(around p).map D.pl, hx, rfl⟩) (P := (· = (around p).map D.pl)) (fun _ j Γ => ∃ (K : List (Pt × Pt)) (W S : List Pt) (bo : Int) (x y : C), Γ = [.d (D.ca n z), .d (D.pl st), .d (D.ne n), .d (.str (one (col n z st))), .md (knD K), .ml (W.map D.pl), .ml (S.map D.pl), .d (.int bo), x, y] ∧ Bs n (col n z) st K W S p j ∧ 2 * (9 - K.length) + W.length < 2 * (9 - K0.length) + (W0 ++ [p]).length) (fun _ _ => ⟨K0, W0, S, bo, x, y, ?_, ⟨⟨hb.nd, hb.ok, fun q hq => hb.w q (List.mem_append_left _ hq), hb.s, hb.s0⟩, hb.w p (List.mem_append_right _ (List.mem_singleton.mpr rfl)), fun e he => ?_, fun q hq => (by cases hq), by omega⟩, by rw [List.length_append, List.length_singleton]; omega⟩) (fun ds j d Γ' hds hd hj => ?_) fun ds Γ' hds hj => ?_
      · rw [List.map_append]
        show [_, _, _, _, _, C.ml ((W0.map D.pl) ++ [D.pl p]).dropLast, _, _, _, _] = _
        rw [List.dropLast_concat]
      · rcases hcl e he with c | c
        · rcases List.mem_append.mp c with c | c
          · exact .inr (.inl c)
          · exact .inl (List.mem_singleton.mp c)
        · exact .inr (.inr c)
      · subst hds
        obtain ⟨K, W, S, bo, x, y, rfl, hbs, hm⟩ := hj
        have hq : ∃ q, d = D.pl q ∧ (around p)[j]? = some q := by
          rw [List.getElem?_map] at hd
          cases h : (around p)[j]? with
          | none => rw [h] at hd; cases hd
          | some q => rw [h] at hd; cases hd; exact ⟨q, rfl, rfl⟩
        obtain ⟨q, rfl, hq⟩ := hq
        have hk := hbs.bf.len hv9
        have hj4 := (List.getElem?_eq_some_iff.mp hq).1
        have hj4 : j < 4 := hj4
        have hlen := hbs.len
        refine ⟨_, _, eg_name, ?_⟩
        refine sv_seq (sv_asg (ev_place (ev_var rfl) (ev_var rfl) hv) fun d e => ?_)
        subst e
        refine sv_if (et_test (ev_neS (ev_Cseen rfl (ev_var rfl) hc) (ev_var rfl))) (fun zz => ?_) fun zz => ?_
        · have hx : col n z q ≠ col n z st := fun e => by rw [e] at zz; simp at zz
          exact sv_augI rfl ev_int ⟨K, W, S, bo + 1, _, _, rfl, hbs.skip hq hx, hm⟩
        · have hx : col n z q = col n z st := one_inj.mp (Classical.byContradiction fun e => by simp [e] at zz)
          refine sv_if (et_B (ev_dinNM (ev_var rfl) rfl)) (fun z2 => ?_) fun z2 => ?_
          · have hn : hasP (knD K) (lw n q) = false := by
              cases h : hasP (knD K) (lw n q) with
              | false => rfl
              | true => rw [h] at z2; cases z2
            have hbn := hbs.new hv9 hq hx (not_kn hn)
            have hk2 := hbn.bf.len hv9
            rw [List.length_append, List.length_singleton] at hk2
            refine sv_seq (sv_dput rfl (by rw [List.length_map]; omega) (ev_var rfl) (ev_var rfl) fun d e => ?_)
            subst e
            refine sv_app rfl (by rw [List.length_map]; omega) (ev_var rfl) fun d e => ⟨K ++ [(lw n q, q)], W ++ [q], S, bo, .d (D.pl q), .d (D.pl (lw n q)), ?_, hbn, by rw [List.length_append, List.length_append, List.length_singleton, List.length_singleton]; omega⟩
            subst e
            rw [← put_kn hn, List.map_append]
            rfl
          · have hh : hasP (knD K) (lw n q) = true := by
              cases h : hasP (knD K) (lw n q) with
              | true => rfl
              | false => rw [h] at z2; cases z2
            obtain ⟨v, hkv⟩ := has_kn hh
            have hg := get_kn hbs.bf.nd hkv
            refine sv_if (et_test (ev_neP (ev_dgetM rfl (ev_var rfl) hg) (ev_var rfl))) (fun z3 => ?_) fun z3 => ?_
            · have hne : q ≠ v := fun e => by rw [e] at z3; simp at z3
              refine sv_app rfl (by rw [List.length_map]; omega) (ev_callI (q, v) (ea_cons' (ev_var rfl) (ea_cons' (ev_dgetM rfl (ev_var rfl) hg) ea_nil)) trivial) fun d e => ⟨K, W, S ++ [pSub q v], bo, .d (D.pl q), .d (D.pl (lw n q)), ?_, hbs.shift hv9 hq hx hkv hne, hm⟩
              subst e
              rw [List.map_append]
              rfl
            · have he : v = q := Classical.byContradiction fun e => by simp [e] at z3
              subst he
              exact sv_next ⟨K, W, S, bo, _, _, rfl, hbs.same hq hkv, hm⟩
      · subst hds
        obtain ⟨K, W, S, bo, x, y, rfl, hbs, hm⟩ := hj
        refine ⟨_, hm, K, W, S, bo, x, y, rfl, rfl, hbs.bf, fun e he => ?_, ?_⟩
        · rcases hbs.cl e he with c | c | c
          · exact .inr fun r hr hx => hbs.nb r (by rw [← c]; exact hr) hx
          · exact .inl c
          · exact .inr c
        · have := hbs.len
          have e4 : ((around p).map D.pl).length = 4 := rfl
          rw [e4] at this
          omega
    · have hW : W = [] := by
        cases W with
        | nil => rfl
        | cons a b => cases zz
      subst hW
      refine sv_giveM (i := 4) rfl (sv_give (i := 6) rfl ?_)
      refine sv_ret (EvS.imp (ev_makeI ((⟨one (col n z st), st, 0, K0, [], bo⟩ : PD), S) (ea_cons' (ev_var rfl) (ea_cons' (ev_var rfl) (ea_cons' (ev_var rfl) (ea_cons' (ev_var rfl) (ea_cons' (ev_var rfl) ea_nil))))) fun s hs => (hb.s s hs).bd) fun d hd => ?_)
      obtain ⟨bs, hbs, rfl⟩ := hd
      have hk := hb.len hv9
      have ha := hv9.aLe
      have hcc := hv9.cLe
      refine ⟨_, rfl, rfl, hb.nd, fun e he => ?_, hb.s0, S, hbs, fun e he => ?_, hb.s⟩
      · obtain ⟨o1, o2, o3, o4⟩ := hb.ok e he
        obtain ⟨i1, i2, i3, i4⟩ := hst
        unfold Nr at o4
        exact ⟨o1, o2, o3, by omega, by omega, by omega, by omega⟩
      · rcases hcl e he with c | c
        · cases c
        · exact c
end
end K55
set_option maxHeartbeats 1000000
/-! The cell's places, one after the other. -/
namespace K55
open PySem PySem.Spec PyProof.Rows L2 GenW
open Evl (Ex)
def cellY (A : Nat) : Nat → V → Hp → Hp → Prop := fun i v H H' => ∃ q, H q = none ∧ v = .ref q ∧ H' = upd H q (.tup [.int ((i % A : Nat) : Int), .int ((i / A : Nat) : Int)])
def sp_cell (g : Gl) : SpGen := fun v H tot YI => ∃ (p dx wt : Addr) (a b c : Int), v = .ref p ∧ H p = some (.ins g.net dx [("own_numbers", .ref wt)]) ∧ H wt = some (.tup [.int a, .int b, .int c]) ∧ (1 ≤ a ∧ a ≤ 1000) ∧ (1 ≤ c ∧ c ≤ 1000) ∧ tot = c.toNat * a.toNat ∧ YI = cellY a.toNat
abbrev cG (X : Cx) (f : Addr) (cd : Value) (L : Addr) (own : List (Addr × Obj)) (tot : Nat) (CI : Nat → Shared → Hp → Prop) (YI : Nat → V → Hp → Hp → Prop) : Gn := ⟨X, ["self", "a", "b", "c", "y", "x"], "Net.cell", C8.fnScope (inClass (topS 25) 16), f, cd, L, own, tot, CI, YI⟩
theorem gen_cell {X : Cx} {g : Gl} (T : Blt X.mg) (pk : Pk X.K g) {f : Addr} {cdv : Value} : GenRuns X ["self", "a", "b", "c", "y", "x"] "Net.cell" (C8.fnScope (inClass (topS 25) 16)) (C8.fnBody (inClass (topS 25) 16)) f cdv (sp_cell g) := by
  intro G hG e1 e2 e3 e4 e5 e6 a0 H s hsp hci hinv
  obtain ⟨X', N', qual', scope', f', cd', L, own, tot, CI, YI⟩ := G
  dsimp only at e1 e2 e3 e4 e5 e6 hsp
  subst e1; subst e2; subst e3; subst e4; subst e5; subst e6
  obtain ⟨p, dx, wt, a, b, c, ep, hp, hw, ha, hc, rfl, rfl⟩ := hsp
  cases ep
  have nd : List.Nodup (α := Str) ["self", "a", "b", "c", "y", "x"] := by decide +kernel
  refine seg_func ?_
  refine seg_execs_cons ?_
  refine seg_wrap ?_
  refine wpAny_mono (PS.run (X := (cG X' f' cd' L own (c.toNat * a.toNat) CI (cellY a.toNat)).cx s H) (ps_asg (fldK (K := X'.K) rfl (pv 0) rfl) (pgT (K := X'.K) (n := 3) rfl (by rfl) (pgs_cons (pg_name (i := 1) nd rfl (.inl rfl)) (pgs_cons (pg_name (i := 2) nd rfl (.inl rfl)) (pgs_cons (pg_name (i := 3) nd rfl (.inl rfl)) pgs_nil))))) [] s _ H
    { nx := fun σ' H' => σ' = [some (.ref a0), some (.int a), some (.int b), some (.int c), none, none] ∧ H' = H, bk := fun _ _ => False, ct := fun _ _ => False, rt := fun _ _ => False } hinv ⟨_, rfl, a0, g.net, dx, _, _, rfl, hp, pk.clN, pk.nN, rfl, wt, [.int a, .int b, .int c], rfl, SqT.of hw, rfl, _, _, rfl, _, _, rfl, _, _, rfl, rfl, rfl, rfl⟩) (fun fl s1 h2 => ?_) fun _ _ z => z.elim
  cases fl with
  | brk => obtain ⟨_, _, _, z⟩ := h2; exact z.elim
  | cont => obtain ⟨_, _, _, z⟩ := h2; exact z.elim
  | ret v => obtain ⟨_, _, _, _, _, z⟩ := h2; exact z.elim
  | next =>
    obtain ⟨σ1, H1, I1, rfl, rfl⟩ := h2
    refine seg_execs_cons ?_
    have hA : (a.toNat : Int) = a := Int.toNat_of_nonneg (by omega)
    have hC : (c.toNat : Int) = c := Int.toNat_of_nonneg (by omega)
    refine Gn.seg_for (G := cG X' f' cd' L own (c.toNat * a.toNat) CI (cellY a.toNat)) hG (j := 4) (m := c.toNat) (fun s0 H => pi_range1 rfl T.range (pa_cons (pv 3) pa_nil)) (fun s0 H => pg_name (i := 4) nd rfl (.inl rfl)) (fun k i τ => i = k * a.toNat ∧ ∃ v0 v2 v4 v5, τ = [v0, some (.int a), v2, some (.int c), v4, v5]) (fun k i τ ip n s0 s c1 fs K J gd lv hk hz g1 hn hr cont => ?_) (i := 0) ⟨rfl, rfl, rfl, rfl⟩ (by rfl) ⟨H1, hci, fun _ h => (by cases h), I1⟩ ⟨(Nat.zero_mul _).symm, _, _, _, _, rfl⟩ (fun H Q q => ⟨_, rfl, c, rfl, by omega, by omega, q⟩) (fun i' τ' n' s0' s' hz hn hr => ?_) fun _ => rfl
    · obtain ⟨rfl, v0, v2, v4, v5, rfl⟩ := hz
      refine seg_execs_cons ?_
      refine Gn.seg_for (G := cG X' f' cd' L own (c.toNat * a.toNat) CI (cellY a.toNat)) hG (j := 5) (m := a.toNat) (fun s0 H => pi_range1 rfl T.range (pa_cons (pv 1) pa_nil)) (fun s0 H => pg_name (i := 5) nd rfl (.inl rfl)) (fun k' i τ => i = k * a.toNat + k' ∧ ∃ v0 v2 v5, τ = [v0, some (.int a), v2, some (.int c), some (.int (k : Int)), v5]) (fun k' i τ ip n s0 s c1 fs K J gd lv hk' hz g1 hn hr cont => ?_) g1 hn hr ⟨rfl, _, _, _, rfl⟩ (fun H Q q => ⟨_, rfl, a, rfl, by omega, by omega, q⟩) (fun i' τ' n' s0' s' hz hn hr => ?_) fun _ => rfl
      · obtain ⟨rfl, v0, v2, v5, rfl⟩ := hz
        have hlt : k * a.toNat + k' < c.toNat * a.toNat := by
          have := Nat.mul_le_mul_right a.toNat (show k + 1 ≤ c.toNat from hk)
          rw [Nat.add_mul] at this
          omega
        obtain ⟨n', rfl⟩ : ∃ n', n = n' + 1 := ⟨n - 1, by have : n + (k * a.toNat + k') = c.toNat * a.toNat + 1 := hn; omega⟩
        refine seg_execs_cons ?_
        refine Gn.seg_item (G := cG X' f' cd' L own (c.toNat * a.toNat) CI (cellY a.toNat)) hG (fun s0 H => pe_tup (pa_cons (pv 5) (pa_cons (pv 4) pa_nil))) g1 hn hlt hr (fun H => ⟨_, rfl, _, rfl, by show 2 ≤ sizeLine; rw [sizeLine_eq]; decide, fun q hq => ⟨q, hq, rfl, ?_⟩⟩) (fun s' hr' => ?_) rfl rfl
        · have e1 : (k * a.toNat + k') % a.toNat = k' := by rw [Nat.mul_comm, Nat.mul_add_mod]; exact Nat.mod_eq_of_lt hk'
          have e2 : (k * a.toNat + k') / a.toNat = k := by
            rw [Nat.mul_comm, Nat.mul_add_div (by omega), Nat.div_eq_of_lt hk']
            rfl
          rw [e1, e2]
        · exact seg_execs_nil (cont _ _ _ _ _ ⟨by omega, _, _, _, rfl⟩ (by have : n' + 1 + (k * a.toNat + k') = c.toNat * a.toNat + 1 := hn; show n' + (k * a.toNat + k' + 1) = c.toNat * a.toNat + 1; omega) hr')
      · obtain ⟨rfl, v0, v2, v5, rfl⟩ := hz
        exact seg_execs_nil (cont _ _ _ _ _ ⟨by rw [Nat.add_mul]; omega, _, _, _, _, rfl⟩ hn hr)
    · obtain ⟨rfl, v0, v2, v4, v5, rfl⟩ := hz
      obtain ⟨H5, hc5, _, I5⟩ := hr
      refine seg_execs_nil (seg_end (.ok (.ret .none)) ⟨.inl rfl, H5, H5, ?_, hc5, rfl, I5.os, I5.bare, I5.hok, I5.base⟩)
      have : n' + c.toNat * a.toNat = c.toNat * a.toNat + 1 := hn
      omega
end K55
set_option maxHeartbeats 1000000
/-! for spot in part.known: known[spot] = True -/
namespace K55
open PySem PySem.Spec PyProof.Rows L2
open Evl (Ex)
def putAll (kvs : Kvs) (ks : List Pt) : Kvs := ks.foldl (fun a p => putP a p (.bl true)) kvs
theorem putP_len (kvs : Kvs) (p : Pt) (d : D) : (putP kvs p d).length ≤ kvs.length + 1 := by
  unfold putP
  split
  · rw [List.length_map]; omega
  · rw [List.length_append, List.length_singleton]; exact Nat.le_refl _
theorem putAll_len : ∀ (ks : List Pt) (kvs : Kvs), (putAll kvs ks).length ≤ kvs.length + ks.length
  | [], kvs => Nat.le_refl _
  | p :: ks, kvs => by
    have h1 := putAll_len ks (putP kvs p (.bl true))
    have h2 := putP_len kvs p (.bl true)
    show (putAll (putP kvs p (.bl true)) ks).length ≤ _
    rw [List.length_cons]
    omega
theorem putAll_snoc (ks : List Pt) (p : Pt) (kvs : Kvs) : putAll kvs (ks ++ [p]) = putP (putAll kvs ks) p (.bl true) := by
  unfold putAll
  rw [List.foldl_append]
  rfl
theorem upd_upd {H : Hp} {a : Addr} {x y : HO} : upd (upd H a x) a y = upd H a y := by
  funext b
  unfold upd
  split <;> rfl
theorem upd_comm {H : Hp} {a b : Addr} {x y : HO} (h : a ≠ b) : upd (upd H a x) b y = upd (upd H b y) a x := by
  funext c
  unfold upd
  by_cases h1 : c = b
  · subst h1
    rw [if_pos rfl, if_neg (fun e => h e.symm), if_pos rfl]
  · rw [if_neg h1, if_neg h1]
theorem upd_self {H : Hp} {a : Addr} {x : HO} (h : H a = some x) : upd H a x = H := by
  funext b
  unfold upd
  split
  · rename_i e; rw [e, h]
  · rfl
def tForK1 (K : PySem.W.Frag) (i j k : Nat) : TS := tFor (iKeys (tFld K (tVar i) "known")) (gName j) (sDPut (tVar k) (tVar j) (tC (.bl true)))
def tForK (K : PySem.W.Frag) (i j k : Nat) : TS := fun D σ H => tLock (tForK1 K i j k) D σ H ∨ tForK1 K i j k D σ H
theorem ps_or2 {X : Cx} {st : Stmt} {t1 t2 : TS} (h1 : PS X st t1) (h2 : PS X st t2) : PS X st (fun D σ H => t1 D σ H ∨ t2 D σ H) := ⟨fun pins s σ H D I h => h.elim (h1.run pins s σ H D I) (h2.run pins s σ H D I)⟩
section
variable {g : Gl} {F : Fr} {m : List Addr} {σ : L2.St} {H H' H1 Hh : Hp} {Γ : List C} {E : En} {i j k : Nat} {P : PD} {K : PySem.W.Frag}
theorem forK_core {Dn : Ends} {p d l Cl dx : Addr} {fs : List (Str × V)} {o : Obj} {ws ws0 : List (List Key × V)} {kvs : Kvs} {ks : List Pt} (hi : σ[i]? = some (some (.ref p))) (hk : σ[k]? = some (some (.ref l))) (hj : j < σ.length) (ji : j ≠ i) (jk : j ≠ k)
    (hp : H1 p = some (.ins Cl dx fs)) (cl : Cls K Cl) (na : NoAttr K Cl "known") (lk : fs.lookup ("known" : Str) = some (V.ref d)) (hd : H1 d = some (.frz o (.dT ws))) (hw : ws.map (·.1) = ks.map keyP) (hl : H1 l = some (.dT ws0)) (dr : Dr g Hh ws0 kvs) (hz : kvs.length + ks.length ≤ 100000)
    (fin : ∀ wsA v, Dr g Hh wsA (putAll kvs ks) → Dn.nx (σ.set j v) (upd H1 l (.dT wsA))) : tForK1 K i j k Dn σ H1 := by
  have dl : d ≠ l := fun e => by rw [e, hl] at hd; cases hd
  have hn : ws.length = ks.length := by
    have := congrArg List.length hw
    rw [List.length_map, List.length_map] at this
    exact this
  refine ⟨_, hi, p, Cl, dx, fs, _, rfl, hp, cl, na, lk, d, o, rfl, .inr ⟨ws, hd, fun idx mm σ' H' => mm = ks.length - idx ∧ idx ≤ ks.length ∧ ∃ (v : Option V) (wsA : List (List Key × V)), σ' = σ.set j v ∧ H' = upd H1 l (.dT wsA) ∧ Dr g Hh wsA (putAll kvs (ks.take idx)), ⟨ks.length, by omega, Nat.zero_le _, σ[j], ws0, by rw [List.set_getElem_self], (upd_self hl).symm, dr⟩, ?_⟩⟩
  rintro idx mm σ' H' ⟨rfl, hle, v, wsA, rfl, rfl, dr'⟩
  have hd' : upd H1 l (.dT wsA) d = some (.frz o (.dT ws)) := (upd_ne dl).trans hd
  by_cases hlt : idx < ks.length
  · refine .inr ⟨⟨hd', by rw [hn]; exact hlt⟩, fun σ3 H3 => ∃ (v : Option V) (wsA : List (List Key × V)), σ3 = σ.set j v ∧ H3 = upd H1 l (.dT wsA) ∧ Dr g Hh wsA (putAll kvs (ks.take (idx + 1))), fun σ3 H3 q => ⟨ks.length - (idx + 1), by omega, rfl, hlt, q⟩, ?_⟩
    rintro x H'' ⟨rfl, kk, vv, q, hkv, rfl, hq⟩
    have ek : kk = keyP ks[idx] := by
      have h1 : (ws.map (·.1))[idx]? = some kk := by rw [List.getElem?_map, hkv]; rfl
      rw [hw, List.getElem?_map, List.getElem?_eq_getElem hlt] at h1
      exact (Option.some.inj h1).symm
    subst ek
    have hln : (putAll kvs (ks.take idx)).length < 100000 := by
      have := putAll_len (ks.take idx) kvs
      rw [List.length_take] at this
      omega
    have e1 : ks.take (idx + 1) = ks.take idx ++ [ks[idx]] := by rw [List.take_add_one, List.getElem?_eq_getElem hlt]; rfl
    have hlj : j < (σ.set j v).length := by rw [List.length_set]; exact hj
    refine ⟨.ref l, ?_, .ref q, ?_, l, _, rfl, .inr ⟨wsA, keyP ks[idx], q, upd_same, rfl, hq, Evl.sz_lt (by rw [dr'.len]; exact hln), rfl⟩, some (.ref q), putK wsA (keyP ks[idx]) (.bl true), List.set_set .., upd_upd, ?_⟩
    · rw [List.getElem?_set_ne jk, List.getElem?_set_ne jk]; exact hk
    · rw [List.getElem?_set_self hlj]
    · rw [e1, putAll_snoc]
      exact dr'.put (.bl true)
  · have e2 : idx = ks.length := by omega
    subst e2
    refine .inl ⟨⟨hd', by omega⟩, fin wsA v ?_⟩
    rw [List.take_length] at dr'
    exact dr'
theorem sv_forK {kvs : Kvs} (pk : Pk g.K g) (hi : Γ[i]? = some (.d (.part P))) (hk : Γ[k]? = some (.md kvs)) (hj : j < Γ.length) (ji : j ≠ i) (jk : j ≠ k) (hz : kvs.length + P.known.length ≤ 100000)
    (q : E.nx ((Γ.set k (.md (putAll kvs (P.known.map (·.1))))).set j .un)) : Sv g (tForK g.K i j k) Γ E := fun F m σ H Dn e s a _ _ _ => by
  subst e
  obtain ⟨v, h1, v', rfl, r⟩ := s.at hi
  obtain ⟨p, dx, vs, vb, vk, rfl, hp, _, _, rk⟩ := r_part r
  have hp' := (hid_some hp).2
  obtain ⟨w, h2, l, ws0, rfl, lm, hl0, hl, hks, hvs⟩ := s.at hk
  have dr0 : Dr F.g (hid m H) ws0 kvs := ⟨hks, hvs⟩
  cases rk with
  | @dct d ws _ hd hdk hdv =>
    obtain ⟨dm, hd⟩ := hid_rd hd
    have hw : ws.map (·.1) = (P.known.map (·.1)).map keyP := by
      rw [hdk, List.map_map, List.map_map]
      rfl
    have hz' : kvs.length + (P.known.map (·.1)).length ≤ 100000 := by rw [List.length_map]; exact hz
    have dl : d ≠ l := fun e => dm (e ▸ lm)
    have pd : p ≠ d := fun e => by subst e; rcases hd with hd | ⟨o, hd⟩ <;> (rw [hp'] at hd; cases hd)
    have fin : ∀ wsA (v : Option V), Dr F.g (hid m H) wsA (putAll kvs (P.known.map (·.1))) → Dn.nx (σ.set j v) (upd H l (.dT wsA)) := fun wsA v dr => by
      have eh : hid m (upd H l (.dT wsA)) = hid m H := hid_upd lm
      obtain ⟨s2, l2⟩ := s.mut (o := .dT wsA) hk rfl h2 (.md (putAll kvs (P.known.map (·.1)))) ⟨l, wsA, rfl, lm, hl0, upd_same, dr.ks, by rw [eh]; exact dr.vs⟩ hl0.1 lm
      exact a m _ _ _ l2 (s2.set (c := .un) rfl trivial) q
    have hjl : j < σ.length := by rw [← s.len]; exact hj
    rcases hd with hd | ⟨o, hd⟩
    · refine .inl ⟨d, .dT ws, hd, trivial, fun od => ?_⟩
      refine forK_core (ks := P.known.map (·.1)) (p := p) (d := d) (l := l) (o := od) h1 h2 hjl ji jk ((upd_ne pd).trans hp') pk.clP pk.nPk rfl upd_same hw ((upd_ne dl.symm).trans hl) dr0 hz' fun wsA v dr => ⟨(upd_ne dl).trans upd_same, ?_⟩
      rw [upd_comm dl.symm, upd_upd, upd_self hd]
      exact fin wsA v dr
    · exact .inr (forK_core (ks := P.known.map (·.1)) (p := p) (d := d) (l := l) (o := o) h1 h2 hjl ji jk hp' pk.clP pk.nPk rfl hd hw hl dr0 hz' fin)
end
end K55
set_option maxHeartbeats 1000000
/-! All parts. -/
namespace K55
open PySem PySem.Spec PyProof.Rows L2
open Evl (Ex)
theorem ps_forCell {X : Cx} {g : Gl} {f : Addr} {kk : Nat} {o tg : Expr} {to : TE} {gt : TG} {body : List Stmt} {tb : TS} {apos cpos pos : PySem.Pos} {pl : Sem Bool} (T : Blt X.mg) (pk : Pk X.K g) (h : Fnd X.K "cell" "Net.cell" (inClass (topS 25) 16) f) (hm : Meth X.K g.net "cell" f)
    (hx : X.xe = fun _ _ => False) (hr : Room (kk + 2) X.A) (he : PE X o to) (hg : PG X tg gt) (hb : PSs X body tb) (htg : ∀ it v, letOwnedTupleGo tg it v = pure ())
    (ht : eval (.Call (.Attribute o "cell" apos) [] [] cpos) X.env = (do
      let ov ← eval o X.env
      standAt apos.atName
      let (f, first) ← holding [ov] (getMethod ov "cell" pl)
      callWith cpos f first (backTo cpos (starEach [] X.env)) (backToKw cpos (keywordEach [] X.env))) := by rfl)
    (hs : ∀ v, foldedSetIterable (.Call (.Attribute o "cell" apos) [] [] cpos) X.env v = pure v := by intro _; rfl) :
    PS X (.For tg (.Call (.Attribute o "cell" apos) [] [] cpos) body [] pos) (tFor (iGen g.net "cell" (sp_cell g) to) gt tb) := by
  obtain ⟨fd, ⟨oc, od, dV, kV, doc, pm, an, cdv, ct, osl, rfl, lk, hcd⟩, df⟩ := h
  have df : dV = .none := df
  subst df
  exact ps_forGen hx hr he pk.clN hm lk hcd ⟨rfl, rfl, rfl, by decide +kernel, rfl, by decide +kernel, by decide +kernel⟩ (by decide +kernel) rfl (fun s u => .of_eq rfl) (gen_cell T pk) hg hb htg ht hs
section
variable {g : Gl} {Γ : List C} {te : TE} {n : Nt}
theorem ei_cell (h : EvS g te Γ (· = D.ne n)) (hv : VN 1000 n) : EvI g (iGen g.net "cell" (sp_cell g) te) Γ (· = (spots n.a n.c).map D.pl) := fun F m σ H e s Q q => h F m σ H e s _ fun v H1 d k1 a r => by
  subst a
  obtain ⟨p, dx, w, rfl, h1, h2⟩ := r_net r
  cases h2 with
  | @tup wt xs _ h3 h4 =>
    cases h4 with
    | cons r1 h4 =>
      cases h4 with
      | cons r2 h4 =>
        cases h4 with
        | cons r3 h4 =>
          cases h4; cases r1; cases r2; cases r3
          have ha := hv.aLe
          have hc := hv.cLe
          have a1 := hv.a1
          have c1 := hv.c1
          refine ⟨p, dx, _, n.c.toNat * n.a.toNat, cellY n.a.toNat, rfl, (hid_some h1).2, rfl, ⟨p, dx, wt, n.a, n.b, n.c, rfl, (hid_some h1).2, (hid_some h3).2, ⟨a1, ha⟩, ⟨c1, hc⟩, rfl, rfl⟩, q _ H1 _ k1 rfl fun m' H' ex => ?_⟩
          have hl : (n.a * n.c).toNat = n.c.toNat * n.a.toNat := by
            have z : ((n.c.toNat * n.a.toNat : Nat) : Int) = n.a * n.c := by rw [Int.natCast_mul, Int.toNat_of_nonneg (by omega), Int.toNat_of_nonneg (by omega), Int.mul_comm]
            omega
          refine ⟨?_, fun i d hd => ?_⟩
          · show n.c.toNat * n.a.toNat ≤ _
            rw [List.length_map, spots_len, hl]
            exact Nat.le_refl _
          · have hi : i < n.c.toNat * n.a.toNat ∧ d = D.pl ((i : Int) % n.a, (i : Int) / n.a) := by
              unfold spots at hd
              rw [List.map_map, List.getElem?_map] at hd
              by_cases z : i < (n.a * n.c).toNat
              · rw [List.getElem?_range z] at hd
                exact ⟨by omega, (Option.some.inj hd).symm⟩
              · rw [List.getElem?_eq_none (by rw [List.length_range]; omega)] at hd
                cases hd
            obtain ⟨hi, rfl⟩ := hi
            refine ⟨hi, ?_⟩
            rintro x H'' ⟨q, hq, rfl, rfl⟩
            refine ⟨Ex.new hq, fun occ => ?_⟩
            have hA : ((n.a.toNat : Nat) : Int) = n.a := Int.toNat_of_nonneg (by omega)
            have e1 : ((i % n.a.toNat : Nat) : Int) = (i : Int) % n.a := by
              rw [← hA]
              rfl
            have e2 : ((i / n.a.toNat : Nat) : Int) = (i : Int) / n.a := by
              rw [← hA]
              rfl
            rw [e1, e2]
            refine .tup (xs := [.int ((i : Int) % n.a), .int ((i : Int) / n.a)]) ?_ (.cons (.int _) (.cons (.int _) .nil))
            rw [hid_out (fun z => occ q z hq)]
            exact upd_same
end
theorem has_map (kvs : Kvs) (q : Pt) (p : Pt) (d : D) : hasP (kvs.map fun e => if e.1 = q then (e.1, d) else e) p = hasP kvs p := by
  unfold hasP
  rw [List.any_map]
  congr 1
  funext e
  show decide ((if e.1 = q then (e.1, d) else e).1 = p) = decide (e.1 = p)
  split <;> rfl
theorem has_put (kvs : Kvs) (q p : Pt) (d : D) : hasP (putP kvs q d) p = (hasP kvs p || decide (q = p)) := by
  unfold putP
  split
  · rename_i h
    rw [has_map]
    by_cases e : q = p
    · subst e; rw [h]; rfl
    · simp [e]
  · unfold hasP
    rw [List.any_append]
    simp
theorem has_all : ∀ (ks : List Pt) (kvs : Kvs) (p : Pt), hasP (putAll kvs ks) p = (hasP kvs p || decide (p ∈ ks))
  | [], kvs, p => by simp [putAll]
  | q :: ks, kvs, p => by
    show hasP (putAll (putP kvs q (.bl true)) ks) p = _
    rw [has_all ks, has_put]
    by_cases h1 : q = p
    · subst h1; simp
    · have h2 : ¬ p = q := fun e => h1 e.symm
      simp [h1, h2]
/-- what the parts are -/
structure Parts (n : Nt) (χ : Pt → Nat) (l : List PD) : Prop where
  ok : ∀ P ∈ l, ∃ st, PartOk n χ st P
  all : ∀ p, InC n.a n.c p → ∃ P ∈ l, ∃ v, (p, v) ∈ P.known
section
variable {P : Program} {w : World} {K : PySem.W.Frag} {mg : Str → Option Value} {base : Heap} {g : Gl}
def sp_parts (g : Gl) : Sp := pr g 1 (ι := Nt × Str) (fun i => [.d (D.ca i.1 i.2)]) (fun i => CarOk i.1 i.2) (fun i r => ∃ l, r = .lst (l.map D.part) ∧ l.length ≤ 9 ∧ Parts i.1 (col i.1 i.2) l)
theorem cal_parts (hK : g.K = K) (T : Blt mg) (h : Dfd K mg "parts" (topS 47)) (pk : Pk K g) {fc : Addr} (f_cell : Fnd K "cell" "Net.cell" (inClass (topS 25) 16) fc) (me_cell : Meth K g.net "cell" fc) (pC_net : Prp P w K mg base 1 g.car "net" (sp_Carpet_net g)) (pW_net : Prp P w K mg base 1 g.wov "net" (sp_Carpet_net g)) (c_part_from : C8.Cal P w K mg base 7 "part_from" (sp_part_from g) []) : C8.Cal P w K mg base 8 "parts" (sp_parts g) [] := by
  subst hK
  refine h.cal (k := 7) (N := ["carpet", "found", "known", "place", "part", "spot"]) (ps := ["carpet"]) (r := 5) (fun _ _ _ _ _ _ us hl => match us, hl with | [_], _ => rfl) (C8.fnScope_by (by decide +kernel)) rfl rfl fun f cdv A outer s H E hr => ?_
  have nd : List.Nodup (α := Str) ["carpet", "found", "known", "place", "part", "spot"] := by decide +kernel
  refine ⟨_, (pss_cons (ps_par (i := 1) (j := 2) (by rfl) nd rfl rfl (by decide) rfl rfl (pa_cons (pe_lst pa_nil) (pa_cons pe_dnewT pa_nil)) (by rfl))
    (pss_cons (ps_forCell (kk := 5) T pk f_cell me_cell rfl hr (pe_or2 (pe_prp pC_net hr (by decide) (pv 0) rfl) (pe_prp pW_net hr (by decide) (pv 0) rfl)) (pg_name (i := 3) nd rfl (.inl rfl))
      (pss_one (ps_if (pt_cmp (pc_dnotin (hu_of hr) (pv 3) (pv 2)))
        (pss_cons (ps_set (i := 4) nd rfl (.inl rfl) (C8.pe_c c_part_from hr (by decide) rfl (pa_cons (pv 0) (pa_cons (pv 3) pa_nil))))
          (pss_cons (ps_expr (pe_bm PySem.F.plainAttrs_list PySem.F.slot_list_append PySem.F.type_list_append mt_append (pv 1) (pa_cons (pv 4) pa_nil)))
            (pss_one (ps_or2 (ps_lock (ps_for PassesOwn.never rfl (pi_keys (fldK (K := g.K) rfl (pv 4) rfl)) (pg_name (i := 5) nd rfl (.inl rfl)) (pss_one (ps_dput (hu_of hr) (pv 2) (pv 5) pe_bl rfl)))) (ps_for PassesOwn.never rfl (pi_keys (fldK (K := g.K) rfl (pv 4) rfl)) (pg_name (i := 5) nd rfl (.inl rfl)) (pss_one (ps_dput (hu_of hr) (pv 2) (pv 5) pe_bl rfl))))))) pss_nil)) (fun _ _ => rfl))
      (pss_one (ps_ret (pv 1))))), fun i hp => ?_⟩
  obtain ⟨n, z⟩ := i
  have hv9 := hp.vn
  have hv := hp.vn.mono (show (9 : Int) ≤ 1000 by decide)
  dsimp only at hv hv9 hp ⊢
  refine sv_seq (sv_parML ?_)
  refine sv_seq (sv_forN (ei_cell (ev_Cnet rfl) hv) (fun idx Γ => ∃ (l : List PD) (kn : Kvs) (x y z1 : C), Γ = [.d (D.ca n z), .ml (l.map D.part), .md kn, x, y, z1] ∧ (∀ P ∈ l, ∃ st, PartOk n (col n z) st P) ∧ (∀ p, hasP kn p = true → ∃ P ∈ l, ∃ v, (p, v) ∈ P.known) ∧ (∀ p ∈ (spots n.a n.c).take idx, hasP kn p = true) ∧ l.length ≤ idx ∧ kn.length ≤ 9 * idx) ⟨[], [], _, _, _, rfl, fun _ h => (by cases h), fun _ h => (by cases h), fun _ h => (by cases h), Nat.le_refl _, Nat.le_refl _⟩ (fun idx d Γ' hd hj => ?_) fun Γ' hj => ?_)
  · obtain ⟨l, kn, x, y, z1, rfl, hl, hk, ht, n1, n2⟩ := hj
    have hlt := (List.getElem?_eq_some_iff.mp hd).1
    have hsz := hv9.sz
    rw [List.length_map, spots_len] at hlt
    have hq : ∃ q, d = D.pl q ∧ (spots n.a n.c)[idx]? = some q := by
      rw [List.getElem?_map] at hd
      cases h : (spots n.a n.c)[idx]? with
      | none => rw [h] at hd; cases hd
      | some q => rw [h] at hd; cases hd; exact ⟨q, rfl, rfl⟩
    obtain ⟨q, rfl, hq⟩ := hq
    have hin : InC n.a n.c q := (mem_spots hv9.a1 hv9.c1).mp (List.mem_of_getElem? hq)
    have step : ∀ {kn' : Kvs}, (∀ p, hasP kn p = true → hasP kn' p = true) → hasP kn' q = true → ∀ p ∈ (spots n.a n.c).take (idx + 1), hasP kn' p = true := fun {kn'} h1 h2 p hp => by
      rw [List.take_add_one, hq] at hp
      rcases List.mem_append.mp hp with e | e
      · exact h1 p (ht p e)
      · rw [List.mem_singleton.mp e]; exact h2
    refine sv_if (et_B (ev_dinNM (ev_var rfl) rfl)) (fun zz => ?_) fun zz => ?_
    · refine sv_seq (sv_asg (ev_callI (n, z, q) (ea_cons' (ev_var rfl) (ea_cons' (ev_var rfl) ea_nil)) ⟨hp, hin⟩) fun d hd => ?_)
      obtain ⟨P, rfl, hP⟩ := hd
      have hP9 : P.known.length ≤ 9 := by
        have := keys_len hv9 hP.nd fun p hp => by
          obtain ⟨e, he, rfl⟩ := List.mem_map.mp hp
          exact (hP.ok e he).1
        rw [List.length_map] at this
        exact this
      refine sv_seq (sv_app rfl (by rw [List.length_map]; omega) (ev_var rfl) fun d e => ?_)
      subst e
      refine sv_forK (i := 4) (k := 2) (P := P) pk rfl rfl (by show 5 < 6; decide) (by decide) (by decide) (by omega) ⟨l ++ [P], putAll kn (P.known.map (·.1)), _, _, _, by rw [List.map_append]; rfl, fun P' hP' => ?_, fun p hp => ?_, step (fun p hp => by rw [has_all, hp]; rfl) ?_, by rw [List.length_append, List.length_singleton]; omega, ?_⟩
      · rcases List.mem_append.mp hP' with e | e
        · exact hl P' e
        · rw [List.mem_singleton.mp e]; exact ⟨q, hP⟩
      · rw [has_all] at hp
        rcases Bool.or_eq_true_iff.mp hp with e | e
        · obtain ⟨P', h1, h2⟩ := hk p e
          exact ⟨P', List.mem_append_left _ h1, h2⟩
        · obtain ⟨e2, he, rfl⟩ := List.mem_map.mp (of_decide_eq_true e)
          exact ⟨P, List.mem_append_right _ (List.mem_singleton.mpr rfl), e2.2, he⟩
      · rw [has_all, decide_eq_true (List.mem_map.mpr ⟨_, hP.s0, rfl⟩), Bool.or_true]
      · have := putAll_len (P.known.map (·.1)) kn
        rw [List.length_map] at this
        omega
    · have hq2 : hasP kn q = true := by
        cases h : hasP kn q with
        | true => rfl
        | false => rw [h] at zz; cases zz
      exact sv_next ⟨l, kn, _, _, _, rfl, hl, hk, step (fun _ h => h) hq2, by omega, by omega⟩
  · obtain ⟨l, kn, x, y, z1, rfl, hl, hk, ht, n1, n2⟩ := hj
    rw [List.length_map, List.take_length] at ht
    rw [List.length_map, spots_len] at n1
    have hsz := hv9.sz
    refine sv_give (i := 1) rfl (sv_ret ((ev_var rfl).imp fun d e => ⟨l, e, by omega, hl, fun p hp => hk p (ht p ((mem_spots hv9.a1 hv9.c1).mpr hp))⟩))
end
end K55
set_option maxHeartbeats 1000000
/-! The part at a place; joined places. -/
namespace K55
open PySem PySem.Spec PyProof.Rows L2
open Evl (Ex)
section
variable {P : Program} {w : World} {K : PySem.W.Frag} {mg : Str → Option Value} {base : Heap} {g : Gl}
def sp_part_at (g : Gl) : Sp := pr g 2 (ι := Nt × Str × Pt) (fun i => [.d (D.ca i.1 i.2.1), .d (D.pl i.2.2)]) (fun i => CarOk i.1 i.2.1) (fun i r => ∃ P st v, r = .part P ∧ PartOk i.1 (col i.1 i.2.1) st P ∧ (lw i.1 i.2.2, v) ∈ P.known)
theorem cal_part_at (hK : g.K = K) (T : Blt mg) (h : Dfd K mg "part_at" (topS 48)) (c_check_place : C8.Cal P w K mg base 3 "check_place" (sp_check_place g) []) (c_parts : C8.Cal P w K mg base 8 "parts" (sp_parts g) []) (pk : Pk K g) (m_place_in_cell : C8.Met P w K mg base 1 g.net "place_in_cell" (sp_Net_place_in_cell g) []) (pC_net : Prp P w K mg base 1 g.car "net" (sp_Carpet_net g)) (pW_net : Prp P w K mg base 1 g.wov "net" (sp_Carpet_net g)) : C8.Cal P w K mg base 9 "part_at" (sp_part_at g) [] := by
  subst hK
  refine h.cal (k := 8) (N := ["carpet", "place", "spot", "part"]) (ps := ["carpet", "place"]) (r := 2) (fun _ _ _ _ _ _ us hl => match us, hl with | [_, _], _ => rfl) (C8.fnScope_by (by decide +kernel)) rfl rfl fun f cdv A outer s H E hr => ?_
  have nd : List.Nodup (α := Str) ["carpet", "place", "spot", "part"] := by decide +kernel
  refine ⟨_, (pss_cons (ps_expr (C8.pe_c c_check_place hr (by decide) rfl (pa_cons (pv 1) pa_nil)))
    (pss_cons (ps_set (i := 2) nd rfl (.inr rfl) (C8.pe_mt m_place_in_cell hr (by decide) (pe_or2 (pe_prp pC_net hr (by decide) (pv 0) rfl) (pe_prp pW_net hr (by decide) (pv 0) rfl)) (pa_cons (pv 1) pa_nil)))
    (pss_one (ps_ret (pe_ix (ixL (K := g.K) rfl) (pe_lc (own := [("part", 3)]) (g := gName 3) rfl nd (piL (K := g.K) rfl (C8.pe_c c_parts hr (by decide) rfl (pa_cons (pv 0) pa_nil))) (blkOk_by (own := [("part", 3)]) (N := ["carpet", "place", "spot", "part"]) (sc := C8.fnScope (topS 48)) (by decide +kernel)) (fun _ _ _ _ _ => (pg_name (i := 3) nd rfl (.inl rfl))) (fun _ _ _ _ _ => pts_one (pt_cmp (pc_din (hu_of hr) (pv 2) (fldK (K := g.K) rfl (pv 3) rfl)))) (fun _ _ _ _ _ => (pv 3))) pe_int (fun _ _ => rfl)))))), fun i hp => ?_⟩
  obtain ⟨n, z, q⟩ := i
  dsimp only at hp ⊢
  have hv9 := hp.vn
  have hv := hp.vn.mono (show (9 : Int) ≤ 1000 by decide)
  refine sv_seq (sv_drop (ev_callI q (ea_cons' (ev_var rfl) ea_nil) trivial) fun _ _ => ?_)
  refine sv_seq (sv_asg (ev_place (ev_Cnet rfl) (ev_var rfl) hv) fun d e => ?_)
  subst e
  refine sv_ret (ev_ixLs (EvL.ev (el_lc (vs := [3]) (P := fun ds => ∃ l : List PD, ds = l.map D.part ∧ l.length ≤ 9 ∧ Parts n (col n z) l) (ei_list (ev_callI (n, z) (ea_cons' (ev_var rfl) ea_nil) hp) fun x hx => ?_) (fun ds h => ?_) (fun ds i acc => ∃ l : List PD, acc = l.map D.part ∧ (∀ P ∈ l, D.part P ∈ ds ∧ hasP (knD P.known) (lw n q) = true) ∧ (∀ j, j < i → ∀ P, ds[j]? = some (.part P) → hasP (knD P.known) (lw n q) = true → l ≠ [])) (fun _ _ => ⟨[], rfl, fun _ h => (by cases h), fun j h => absurd h (Nat.not_lt_zero j)⟩) fun ds j d acc hds hd ha => ?_)) ev_int fun x y hx hy => ?_)
  · obtain ⟨l, e, h1, h2⟩ := hx
    exact ⟨_, e, l, rfl, h1, h2⟩
  · obtain ⟨l, rfl, h, _⟩ := h
    rw [List.length_map]
    omega
  · obtain ⟨l0, rfl, _, _⟩ := hds
    obtain ⟨l, rfl, h1, h2⟩ := ha
    have hdm := List.mem_of_getElem? hd
    obtain ⟨P0, hP0, rfl⟩ := List.mem_map.mp hdm
    refine ⟨[3], _, fun i h => h, eg_name, _, et_B (ev_din (ev_var rfl) (ev_Pknown pk (ev_var rfl))), fun zz => ?_, fun zz => ⟨l, rfl, h1, fun i hi P hi2 hi3 => ?_⟩⟩
    · refine (ev_var rfl).imp fun e he => ⟨l ++ [P0], by rw [he, List.map_append]; rfl, fun P hP => ?_, fun _ _ _ _ _ => by simp⟩
      rcases List.mem_append.mp hP with q | q
      · exact h1 P q
      · rw [List.mem_singleton.mp q]; exact ⟨hdm, zz.symm⟩
    · by_cases e : i = j
      · subst e
        rw [hd] at hi2
        cases hi2
        rw [← zz] at hi3
        cases hi3
      · exact h2 i (by omega) P hi2 hi3
  · obtain ⟨l', rfl, ds, ⟨l0, rfl, _, hP⟩, l, rfl, h1, h2⟩ := hx
    subst hy
    obtain ⟨P0, hm, v, hv0⟩ := hP.all (lw n q) (low_in hv9.a1 hv9.c1 q)
    obtain ⟨j, hj, hj2⟩ := List.mem_iff_getElem.mp hm
    have hne : l ≠ [] := h2 j (by rw [List.length_map]; exact hj) P0 (by rw [List.getElem?_map, List.getElem?_eq_getElem hj, hj2]; rfl) (in_kn hv0)
    cases l with
    | nil => exact absurd rfl hne
    | cons P1 l =>
      obtain ⟨h3, h4⟩ := h1 P1 List.mem_cons_self
      obtain ⟨P2, h5, h6⟩ := List.mem_map.mp h3
      cases h6
      obtain ⟨st, hok⟩ := hP.ok P1 h5
      obtain ⟨v1, hv1⟩ := has_kn h4
      exact ⟨_, 0, .part P1, rfl, rfl, atI_nat (j := 0) rfl, P1, st, v1, rfl, hok, hv1⟩
def sp_are_joined (g : Gl) : Sp := pr g 3 (ι := Nt × Str × Pt × Pt) (fun i => [.d (D.ca i.1 i.2.1), .d (D.pl i.2.2.1), .d (D.pl i.2.2.2)]) (fun i => CarOk i.1 i.2.1 ∧ -1000 ≤ i.2.2.2.1 - i.2.2.1.1 ∧ i.2.2.2.1 - i.2.2.1.1 ≤ 1000 ∧ -1000 ≤ i.2.2.2.2 - i.2.2.1.2 ∧ i.2.2.2.2 - i.2.2.1.2 ≤ 1000) (fun i r => ∃ P st v1, PartOk i.1 (col i.1 i.2.1) st P ∧ (lw i.1 i.2.2.1, v1) ∈ P.known ∧ (((∀ v2, (lw i.1 i.2.2.2, v2) ∉ P.known) ∧ r = .bl false) ∨ ∃ v2, (lw i.1 i.2.2.2, v2) ∈ P.known ∧ r = .bl (carB P.basis (pSub (pSub i.2.2.2 v2) (pSub i.2.2.1 v1)))))
theorem cal_are_joined (hK : g.K = K) (T : Blt mg) (h : Dfd K mg "are_joined" (topS 49)) (c_check_place : C8.Cal P w K mg base 3 "check_place" (sp_check_place g) []) (c_minus : C8.Cal P w K mg base 1 "minus" (sp_minus g) []) (c_part_at : C8.Cal P w K mg base 9 "part_at" (sp_part_at g) []) (pk : Pk K g) (m_place_in_cell : C8.Met P w K mg base 1 g.net "place_in_cell" (sp_Net_place_in_cell g) []) (pC_net : Prp P w K mg base 1 g.car "net" (sp_Carpet_net g)) (pW_net : Prp P w K mg base 1 g.wov "net" (sp_Carpet_net g)) (m_carries : C8.Met P w K mg base 7 g.part "carries" (sp_Part_carries g) []) : C8.Cal P w K mg base 10 "are_joined" (sp_are_joined g) [] := by
  subst hK
  refine h.cal (k := 9) (N := ["carpet", "first", "second", "part", "spot", "one"]) (ps := ["carpet", "first", "second"]) (r := 3) (fun _ _ _ _ _ _ us hl => match us, hl with | [_, _, _], _ => rfl) (C8.fnScope_by (by decide +kernel)) rfl rfl fun f cdv A outer s H E hr => ?_
  have nd : List.Nodup (α := Str) ["carpet", "first", "second", "part", "spot", "one"] := by decide +kernel
  refine ⟨_, (pss_cons (ps_expr (C8.pe_c c_check_place hr (by decide) rfl (pa_cons (pv 1) pa_nil)))
    (pss_cons (ps_expr (C8.pe_c c_check_place hr (by decide) rfl (pa_cons (pv 2) pa_nil)))
    (pss_cons (ps_par (i := 3) (j := 4) (by rfl) nd rfl rfl (by decide) rfl rfl (pa_cons (C8.pe_c c_part_at hr (by decide) rfl (pa_cons (pv 0) (pa_cons (pv 1) pa_nil))) (pa_cons (C8.pe_mt m_place_in_cell hr (by decide) (pe_or2 (pe_prp pC_net hr (by decide) (pv 0) rfl) (pe_prp pW_net hr (by decide) (pv 0) rfl)) (pa_cons (pv 2) pa_nil)) pa_nil)) (by rfl))
    (pss_cons (ps_if (pt_cmp (pc_dnotin (hu_of hr) (pv 4) (fldK (K := g.K) rfl (pv 3) rfl)))
      (pss_one (ps_ret pe_bl))
      pss_nil)
    (pss_cons (ps_set (i := 5) nd rfl (.inl rfl) (C8.pe_c c_minus hr (by decide) rfl (pa_cons (pv 1) (pa_cons (pe_dget (hu_of hr) (fldK (K := g.K) rfl (pv 3) rfl) (C8.pe_mt m_place_in_cell hr (by decide) (pe_or2 (pe_prp pC_net hr (by decide) (pv 0) rfl) (pe_prp pW_net hr (by decide) (pv 0) rfl)) (pa_cons (pv 1) pa_nil)) (fun _ _ => rfl)) pa_nil))))
    (pss_one (ps_ret (C8.pe_mt m_carries hr (by decide) (pv 3) (pa_cons (C8.pe_c c_minus hr (by decide) rfl (pa_cons (C8.pe_c c_minus hr (by decide) rfl (pa_cons (pv 2) (pa_cons (pe_dget (hu_of hr) (fldK (K := g.K) rfl (pv 3) rfl) (pv 4) (fun _ _ => rfl)) pa_nil))) (pa_cons (pv 5) pa_nil))) pa_nil))))))))), fun i hp => ?_⟩
  obtain ⟨n, z, p, q⟩ := i
  obtain ⟨hp, b1, b2, b3, b4⟩ := hp
  dsimp only at hp b1 b2 b3 b4 ⊢
  have hv9 := hp.vn
  have hv := hp.vn.mono (show (9 : Int) ≤ 1000 by decide)
  refine sv_seq (sv_drop (ev_callI p (ea_cons' (ev_var rfl) ea_nil) trivial) fun _ _ => ?_)
  refine sv_seq (sv_drop (ev_callI q (ea_cons' (ev_var rfl) ea_nil) trivial) fun _ _ => ?_)
  refine sv_seq (sv_par (ev_callI (n, z, p) (ea_cons' (ev_var rfl) (ea_cons' (ev_var rfl) ea_nil)) hp) (ev_place (ev_Cnet rfl) (ev_var rfl) hv) fun x y hx hy => ?_)
  obtain ⟨P, st, v1, rfl, hok, hv1⟩ := hx
  subst hy
  have g1 := get_kn hok.nd hv1
  obtain ⟨_, _, _, o1, o2, o3, o4⟩ := hok.ok _ hv1
  dsimp only at o1 o2 o3 o4
  refine sv_seq (sv_if (et_B (ev_dinN (ev_var rfl) (ev_Pknown pk (ev_var rfl)))) (fun zz => sv_ret (ev_bl.imp fun d e => ⟨P, st, v1, hok, hv1, .inl ⟨fun v2 h2 => ?_, e⟩⟩)) fun zz => sv_next ?_)
  · rw [in_kn h2] at zz
    cases zz
  · have hh : hasP (knD P.known) (lw n q) = true := by
      cases h : hasP (knD P.known) (lw n q) with
      | true => rfl
      | false => rw [h] at zz; cases zz
    obtain ⟨v2, hv2⟩ := has_kn hh
    have g2 := get_kn hok.nd hv2
    obtain ⟨_, _, _, u1, u2, u3, u4⟩ := hok.ok _ hv2
    dsimp only at u1 u2 u3 u4
    obtain ⟨S, hS, _⟩ := hok.ex
    refine sv_seq (sv_asg (ev_callI (p, v1) (ea_cons' (ev_var rfl) (ea_cons' (ev_dget (ev_Pknown pk (ev_var rfl)) (ev_place (ev_Cnet rfl) (ev_var rfl) hv) g1) ea_nil)) trivial) fun d e => ?_)
    subst e
    refine sv_ret ((ev_meth (P, pSub (pSub q v2) (pSub p v1)) (ev_var rfl) (fun m H v r => ob_partm r) (ea_cons' (ev_callI ((q.1 - v2.1, q.2 - v2.2), (p.1 - v1.1, p.2 - v1.2)) (ea_cons' (ev_callI (q, v2) (ea_cons' (ev_var rfl) (ea_cons' (ev_dget (ev_Pknown pk (ev_var rfl)) (ev_var rfl) g2) ea_nil)) trivial) (ea_cons' (ev_var rfl) ea_nil)) trivial) ea_nil) rfl ⟨hS.ok, ?_⟩).imp fun d e => ⟨P, st, v1, hok, hv1, .inr ⟨v2, hv2, e⟩⟩)
    unfold pSub
    dsimp only
    omega
end
end K55
set_option maxHeartbeats 1000000
/-! What the parts tell of the plane. -/
namespace K55
theorem low_lat {a b c : Int} (hc : 1 ≤ c) {t : Pt} (h : Lat a b c t) (p : Pt) : low a b c (pAdd p t) = low a b c p := by
  obtain ⟨i, j, rfl⟩ := h
  unfold low pAdd
  dsimp only
  have e : (p.2 + j * c) / c = p.2 / c + j := Int.add_mul_ediv_right _ _ (by omega)
  rw [e]
  refine Prod.ext ?_ ?_
  · show (p.1 + (i * a + j * b) - (p.2 / c + j) * b) % a = _
    have e2 : p.1 + (i * a + j * b) - (p.2 / c + j) * b = p.1 - p.2 / c * b + i * a := by rw [Int.add_mul]; omega
    rw [e2, Int.add_mul_emod_self_right]
  · show p.2 + j * c - (p.2 / c + j) * c = p.2 - p.2 / c * c
    rw [Int.add_mul]
    omega
theorem sub_low {a b c : Int} (p : Pt) : ∃ i j : Int, p = ((low a b c p).1 + (i * a + j * b), (low a b c p).2 + j * c) := by
  refine ⟨(p.1 - p.2 / c * b) / a, p.2 / c, ?_⟩
  unfold low
  refine Prod.ext ?_ ?_
  · show p.1 = (p.1 - p.2 / c * b) % a + ((p.1 - p.2 / c * b) / a * a + p.2 / c * b)
    have := Int.emod_add_mul_ediv (p.1 - p.2 / c * b) a
    rw [Int.mul_comm a] at this
    omega
  · show p.2 = p.2 - p.2 / c * c + p.2 / c * c
    omega
theorem lat_of_low {a b c : Int} {p q : Pt} (h : low a b c q = low a b c p) : Lat a b c (pSub q p) := by
  obtain ⟨i, j, h1⟩ := sub_low (a := a) (b := b) (c := c) q
  obtain ⟨k, l, h2⟩ := sub_low (a := a) (b := b) (c := c) p
  rw [h] at h1
  refine ⟨i - k, j - l, ?_⟩
  rw [h1]
  generalize low a b c p = o at h2
  rw [h2]
  unfold pSub
  dsimp only
  rw [Int.sub_mul, Int.sub_mul, Int.sub_mul]
  refine Prod.ext ?_ ?_
  · dsimp only; omega
  · dsimp only; omega
/-- told by the cell's place alone -/
def Per (n : Nt) (χ : Pt → Nat) : Prop := ∀ p q, lw n p = lw n q → χ p = χ q
theorem col_per (n : Nt) (z : PySem.Str) : Per n (col n z) := fun p q h => by
  unfold col
  have h : low n.a n.b n.c p = low n.a n.b n.c q := h
  rw [h]
def L (n : Nt) (t : Pt) : Prop := ∀ p, lw n (pAdd p t) = lw n p
section
variable {n : Nt} {χ : Pt → Nat} {st p q r v t s : Pt} {P : PD} {S : List Pt}
theorem L_of (hc : 1 ≤ n.c) (h : lw n q = lw n p) : L n (pSub q p) := fun x => low_lat hc (lat_of_low h) x
theorem L_sh (hc : 1 ≤ n.c) (h : ShOk n χ st t) : L n t := by
  obtain ⟨v, _, _, h3⟩ := h.ex
  have e : pSub (pAdd v t) v = t := Prod.ext (by show v.1 + t.1 - v.1 = t.1; omega) (by show v.2 + t.2 - v.2 = t.2; omega)
  have := L_of hc h3
  rw [e] at this
  exact this
theorem L_grp (hc : 1 ≤ n.c) : Grp (L n) := by
  refine ⟨fun p => by unfold pAdd; simp, fun s t h1 h2 p => ?_, fun t h p => ?_⟩
  · have e : pAdd p (pAdd s t) = pAdd (pAdd p s) t := Prod.ext (by show p.1 + (s.1 + t.1) = p.1 + s.1 + t.1; omega) (by show p.2 + (s.2 + t.2) = p.2 + s.2 + t.2; omega)
    rw [e, h2, h1]
  · have e : pAdd (pAdd p (pNeg t)) t = p := Prod.ext (by show p.1 + -t.1 + t.1 = p.1; omega) (by show p.2 + -t.2 + t.2 = p.2; omega)
    have := h (pAdd p (pNeg t))
    rw [e] at this
    exact this.symm
theorem Cn.col (h : Cn χ p q) : χ q = χ p := by
  cases h with
  | refl => rfl
  | step _ _ e => exact e
theorem Cn.trans (h1 : Cn χ p q) (h2 : Cn χ q r) : Cn χ p r := by
  induction h2 with
  | refl => exact h1
  | step _ a e ih => exact ih.step a (e.trans h1.col)
theorem around_symm (h : q ∈ around p) : p ∈ around q := by
  obtain ⟨p1, p2⟩ := p
  unfold around at h ⊢
  simp only [List.mem_cons, List.not_mem_nil, or_false] at h ⊢
  rcases h with rfl | rfl | rfl | rfl
  · exact .inr (.inr (.inl (Prod.ext (by dsimp only; omega) (by dsimp only; omega))))
  · exact .inr (.inr (.inr (Prod.ext (by dsimp only; omega) (by dsimp only; omega))))
  · exact .inl (Prod.ext (by dsimp only; omega) (by dsimp only; omega))
  · exact .inr (.inl (Prod.ext (by dsimp only; omega) (by dsimp only; omega)))
theorem around_add (h : q ∈ around p) : pAdd q t ∈ around (pAdd p t) := by
  obtain ⟨p1, p2⟩ := p
  unfold around at h ⊢
  simp only [List.mem_cons, List.not_mem_nil, or_false] at h ⊢
  unfold pAdd
  dsimp only
  rcases h with rfl | rfl | rfl | rfl
  · exact .inl (Prod.ext (by dsimp only; omega) (by dsimp only; omega))
  · exact .inr (.inl (Prod.ext (by dsimp only; omega) (by dsimp only; omega)))
  · exact .inr (.inr (.inl (Prod.ext (by dsimp only; omega) (by dsimp only; omega))))
  · exact .inr (.inr (.inr (Prod.ext (by dsimp only; omega) (by dsimp only; omega))))
theorem Cn.symm (h : Cn χ p q) : Cn χ q p := by
  induction h with
  | refl => exact .refl
  | step h a e ih => exact Cn.trans (Cn.step .refl (around_symm a) (h.col.trans e.symm)) ih
theorem Cn.shift (hχ : Per n χ) (ht : L n t) (h : Cn χ p q) : Cn χ (pAdd p t) (pAdd q t) := by
  induction h with
  | refl => exact .refl
  | step _ a e ih => exact ih.step (around_add a) ((hχ _ _ (ht _)).trans (e.trans (hχ _ _ (ht _)).symm))
theorem sub_add : pAdd (pSub p q) q = p := Prod.ext (by show p.1 - q.1 + q.1 = p.1; omega) (by show p.2 - q.2 + q.2 = p.2; omega)
theorem PartOk.complete (hχ : Per n χ) (hc : 1 ≤ n.c) (h : PartOk n χ st P) (hd : ∀ e ∈ P.known, Dn n χ st P.known S e.2) (hs : ∀ t ∈ S, ShOk n χ st t) (hq : Cn χ st q) : ∃ v, (lw n q, v) ∈ P.known ∧ Spn S (pSub q v) := by
  induction hq with
  | refl =>
    have h0 := h.s0
    obtain ⟨_, e, _⟩ := h.ok _ h0
    have e : st = lw n st := e
    refine ⟨st, by rw [← e]; exact h0, ?_⟩
    have z : pSub st st = (0, 0) := Prod.ext (by show st.1 - st.1 = 0; omega) (by show st.2 - st.2 = 0; omega)
    rw [z]
    exact Spn.zero
  | @step q r _ a e ih =>
    obtain ⟨v, hv, sp⟩ := ih
    have hL : L n (pNeg (pSub q v)) := (L_grp hc).neg _ (sp _ (L_grp hc) fun t ht => L_sh hc (hs t ht))
    have er : pAdd q (pNeg (pSub q v)) = v := Prod.ext (by show q.1 + -(q.1 - v.1) = v.1; omega) (by show q.2 + -(q.2 - v.2) = v.2; omega)
    have ha := around_add (t := pNeg (pSub q v)) a
    rw [er] at ha
    obtain ⟨v', hv', hcl⟩ := hd _ hv _ ha ((hχ _ _ (hL r)).trans e)
    rw [hL r] at hv'
    refine ⟨v', hv', ?_⟩
    have hsp : Spn S (pSub (pAdd r (pNeg (pSub q v))) v') := by
      rcases hcl with e2 | e2
      · have z : pSub (pAdd r (pNeg (pSub q v))) v' = (0, 0) := by
          rw [e2]
          exact Prod.ext (by show v'.1 - v'.1 = 0; omega) (by show v'.2 - v'.2 = 0; omega)
        rw [z]
        exact Spn.zero
      · exact Spn.of e2
    have e3 : pSub r v' = pAdd (pSub (pAdd r (pNeg (pSub q v))) v') (pSub q v) := Prod.ext (by show r.1 - v'.1 = r.1 + -(q.1 - v.1) - v'.1 + (q.1 - v.1); omega) (by show r.2 - v'.2 = r.2 + -(q.2 - v.2) - v'.2 + (q.2 - v.2); omega)
    rw [e3]
    exact hsp.add sp
/-- all within a box -/
def Bx (χ : Pt → Nat) (p : Pt) : Prop := ∃ x0 y0 : Int, ∀ q, Cn χ p q → x0 ≤ q.1 ∧ q.1 ≤ x0 + 10 ∧ y0 ≤ q.2 ∧ q.2 ≤ y0 + 10
theorem no_shift (hχ : Per n χ) (hc : 1 ≤ n.c) (hb : Bx χ st) (h : ShOk n χ st t) : False := by
  have hL := L_sh hc h
  obtain ⟨v, h1, h2, _⟩ := h.ex
  have h3 : Cn χ st (pAdd st t) := h2.trans (Cn.shift hχ hL h1).symm
  have h4 : ∀ k : Nat, Cn χ st (st.1 + k * t.1, st.2 + k * t.2) := by
    intro k
    induction k with
    | zero =>
      have e : (st.1 + ((0 : Nat) : Int) * t.1, st.2 + ((0 : Nat) : Int) * t.2) = st := by simp
      rw [e]
      exact .refl
    | succ k ih =>
      have := Cn.trans h3 (Cn.shift hχ hL ih)
      have e : pAdd (st.1 + (k : Int) * t.1, st.2 + (k : Int) * t.2) t = (st.1 + ((k + 1 : Nat) : Int) * t.1, st.2 + ((k + 1 : Nat) : Int) * t.2) := by
        have e1 : ((k + 1 : Nat) : Int) = (k : Int) + 1 := by omega
        rw [e1, Int.add_mul, Int.add_mul]
        exact Prod.ext (by show st.1 + (k : Int) * t.1 + t.1 = st.1 + ((k : Int) * t.1 + 1 * t.1); omega) (by show st.2 + (k : Int) * t.2 + t.2 = st.2 + ((k : Int) * t.2 + 1 * t.2); omega)
      rw [e] at this
      exact this
  obtain ⟨x0, y0, hbx⟩ := hb
  have b0 := hbx _ .refl
  have b1 := hbx _ (h4 11)
  dsimp only at b1
  refine h.ne (Prod.ext ?_ ?_)
  · show t.1 = 0
    omega
  · show t.2 = 0
    omega
theorem spn_nil (h : Spn [] s) : s = (0, 0) := h (· = (0, 0)) ⟨rfl, fun p q h1 h2 => by rw [h1, h2]; rfl, fun p h => by rw [h]; rfl⟩ fun _ z => by cases z
theorem PartOk.fin (hχ : Per n χ) (hc : 1 ≤ n.c) (h : PartOk n χ st P) (hb : Bx χ st) : P.basis = [] ∧ ∀ q, Cn χ st q → (lw n q, q) ∈ P.known := by
  obtain ⟨S, hS, hd, hs⟩ := h.ex
  have e : S = [] := by
    cases S with
    | nil => rfl
    | cons t S => exact (no_shift hχ hc hb (hs t List.mem_cons_self)).elim
  subst e
  refine ⟨hS.nil rfl, fun q hq => ?_⟩
  obtain ⟨v, hv, sp⟩ := h.complete hχ hc hd hs hq
  have z := spn_nil sp
  have e : v = q := by
    obtain ⟨e1, e2⟩ := Prod.mk.inj z
    exact Prod.ext (by omega) (by omega)
  rw [e] at hv
  exact hv
theorem PartOk.val (h : PartOk n χ st P) (hv : (lw n p, v) ∈ P.known) : lw n v = lw n p ∧ Cn χ st v := by
  obtain ⟨_, e, c, _⟩ := h.ok _ hv
  exact ⟨e.symm, c⟩
theorem PartOk.to (hχ : Per n χ) (hc : 1 ≤ n.c) (h : PartOk n χ st P) (hv : (lw n p, v) ∈ P.known) (hq : Cn χ p q) : Cn χ st (pSub q (pSub p v)) := by
  obtain ⟨e, c⟩ := h.val hv
  have hL := (L_grp hc).neg _ (L_of hc e.symm)
  have := c.trans (show Cn χ v _ from by
    have z := Cn.shift hχ hL hq
    have e1 : pAdd p (pNeg (pSub p v)) = v := Prod.ext (by show p.1 + -(p.1 - v.1) = v.1; omega) (by show p.2 + -(p.2 - v.2) = v.2; omega)
    rw [e1] at z
    exact z)
  have e2 : pAdd q (pNeg (pSub p v)) = pSub q (pSub p v) := Prod.ext (by show q.1 + -(p.1 - v.1) = q.1 - (p.1 - v.1); omega) (by show q.2 + -(p.2 - v.2) = q.2 - (p.2 - v.2); omega)
  rw [e2] at this
  exact this
theorem PartOk.from (hχ : Per n χ) (hc : 1 ≤ n.c) (h : PartOk n χ st P) (hv : (lw n p, v) ∈ P.known) (hq : Cn χ st q) : Cn χ p (pAdd q (pSub p v)) := by
  obtain ⟨e, c⟩ := h.val hv
  have hL := L_of hc e.symm
  have z := Cn.shift hχ hL (c.symm.trans hq)
  rw [add_sub] at z
  exact z
theorem PartOk.box (hχ : Per n χ) (hc : 1 ≤ n.c) (h : PartOk n χ st P) (hv : (lw n p, v) ∈ P.known) (hb : Bx χ p) : Bx χ st := by
  obtain ⟨x0, y0, hb⟩ := hb
  refine ⟨x0 - (p.1 - v.1), y0 - (p.2 - v.2), fun q hq => ?_⟩
  have := hb _ (h.from hχ hc hv hq)
  unfold pAdd pSub at this
  dsimp only at this
  omega
theorem nodup_map_of {α β γ : Type} {f : α → β} {g : α → γ} {l : List α} (h : (l.map g).Nodup) (k : ∀ a ∈ l, ∀ b ∈ l, f a = f b → g a = g b) : (l.map f).Nodup := by
  induction l with
  | nil => exact List.nodup_nil
  | cons a l ih =>
    have h' := List.nodup_cons.mp h
    refine List.nodup_cons.mpr ⟨fun z => ?_, ih h'.2 fun a ha b hb => k a (List.mem_cons_of_mem _ ha) b (List.mem_cons_of_mem _ hb)⟩
    obtain ⟨b, hb, e⟩ := List.mem_map.mp z
    exact h'.1 (List.mem_map.mpr ⟨b, hb, k b (List.mem_cons_of_mem _ hb) a List.mem_cons_self e⟩)
theorem PartOk.size (hχ : Per n χ) (hc : 1 ≤ n.c) (h : PartOk n χ st P) (hv : (lw n p, v) ∈ P.known) (hb : Bx χ p) {ls : List Pt} (hn : ls.Nodup) (hl : ∀ q, q ∈ ls ↔ Cn χ p q) : P.basis = [] ∧ P.places = ls.length := by
  obtain ⟨h1, h2⟩ := h.fin hχ hc (h.box hχ hc hv hb)
  refine ⟨h1, ?_⟩
  have hnd : (P.known.map fun e => pAdd e.2 (pSub p v)).Nodup := nodup_map_of h.nd fun a ha b hb e => by
    obtain ⟨_, ea, _⟩ := h.ok a ha
    obtain ⟨_, eb, _⟩ := h.ok b hb
    have : a.2 = b.2 := by
      obtain ⟨e1, e2⟩ := Prod.mk.inj e
      exact Prod.ext (by omega) (by omega)
    rw [ea, eb, this]
  have le1 := nodup_le hnd (k := ls) fun q hq => by
    obtain ⟨e, he, rfl⟩ := List.mem_map.mp hq
    exact (hl _).mpr (h.from hχ hc hv (h.ok e he).2.2.1)
  have le2 := nodup_le hn (k := P.known.map fun e => pAdd e.2 (pSub p v)) fun q hq => by
    have := h2 _ (h.to hχ hc hv ((hl q).mp hq))
    refine List.mem_map.mpr ⟨_, this, ?_⟩
    exact sub_add
  rw [List.length_map] at le1 le2
  rw [h.places]
  omega
theorem PartOk.uniq (h : PartOk n χ st P) {k v w : Pt} (h1 : (k, v) ∈ P.known) (h2 : (k, w) ∈ P.known) : v = w := by
  have g1 := get_kn h.nd h1
  have g2 := get_kn h.nd h2
  rw [g1] at g2
  have e : D.pl v = D.pl w := Option.some.inj g2
  have e2 := D.tup.inj e
  exact Prod.ext (D.int.inj (List.cons.inj e2).1) (D.int.inj (List.cons.inj (List.cons.inj e2).2).1)
theorem PartOk.join (hχ : Per n χ) (hc : 1 ≤ n.c) (h : PartOk n χ st P) (hv : (lw n p, v) ∈ P.known) (hq : Cn χ p q) : ∃ w, (lw n q, w) ∈ P.known ∧ carB P.basis (pSub (pSub q w) (pSub p v)) = true := by
  obtain ⟨S, hS, hd, hs⟩ := h.ex
  obtain ⟨w, hw, sp⟩ := h.complete hχ hc hd hs (h.to hχ hc hv hq)
  have e : lw n (pSub q (pSub p v)) = lw n q := by
    have hL := (L_grp hc).neg _ (L_of hc (h.val hv).1.symm)
    have z := hL q
    have e2 : pAdd q (pNeg (pSub p v)) = pSub q (pSub p v) := Prod.ext (by show q.1 + -(p.1 - v.1) = q.1 - (p.1 - v.1); omega) (by show q.2 + -(p.2 - v.2) = q.2 - (p.2 - v.2); omega)
    rw [e2] at z
    exact z
  rw [e] at hw
  refine ⟨w, hw, hS.car _ ?_⟩
  have e3 : pSub (pSub q (pSub p v)) w = pSub (pSub q w) (pSub p v) := Prod.ext (by show q.1 - (p.1 - v.1) - w.1 = q.1 - w.1 - (p.1 - v.1); omega) (by show q.2 - (p.2 - v.2) - w.2 = q.2 - w.2 - (p.2 - v.2); omega)
  rw [← e3]
  exact sp
theorem PartOk.part (hχ : Per n χ) (hc : 1 ≤ n.c) (h : PartOk n χ st P) {w : Pt} (hv : (lw n p, v) ∈ P.known) (hw : (lw n q, w) ∈ P.known) (hq : ¬ Cn χ p q) (hb : Bx χ p ∨ Bx χ q) : carB P.basis (pSub (pSub q w) (pSub p v)) = false := by
  have hbs : Bx χ st := by
    rcases hb with hb | hb
    · exact h.box hχ hc hv hb
    · exact h.box hχ hc hw hb
  rw [(h.fin hχ hc hbs).1]
  refine decide_eq_false fun e => hq ?_
  have z := h.from hχ hc hv (h.val hw).2
  have e2 : pAdd w (pSub p v) = q := by
    obtain ⟨e1, e2⟩ := Prod.mk.inj e
    have e1 : q.1 - w.1 - (p.1 - v.1) = 0 := e1
    have e2 : q.2 - w.2 - (p.2 - v.2) = 0 := e2
    exact Prod.ext (by show w.1 + (p.1 - v.1) = q.1; omega) (by show w.2 + (p.2 - v.2) = q.2; omega)
  rw [e2] at z
  exact z
end
end K55
set_option maxHeartbeats 1000000
/-! The law's carpet, made. -/
namespace K55
open PySem PySem.Spec PyProof.Rows L2
open Evl (Ex)
theorem cut_ok {z : Str} {lo hi : Nat} (h : lo ≤ hi) (h2 : hi ≤ z.length) : (cutS z (some (lo : Int)) (some (hi : Int))).length = hi - lo ∧ ∀ c ∈ (cutS z (some (lo : Int)) (some (hi : Int))).cps.toList, c ∈ z.cps.toList := by
  unfold cutS
  rw [HT.sIx_nat, HT.sIx_nat, Nat.min_eq_left (Nat.le_trans h h2), Nat.min_eq_left h2]
  refine ⟨?_, fun c hc => ?_⟩
  · show ((z.cps.toList.drop lo).take (hi - lo)).toArray.size = hi - lo
    have : z.cps.toList.length = z.length := rfl
    rw [List.size_toArray, List.length_take, List.length_drop, this]
    omega
  · have hc : c ∈ (z.cps.toList.drop lo).take (hi - lo) := by simpa using hc
    exact List.mem_of_mem_drop (List.mem_of_mem_take hc)
section
variable {g : Gl} {Γ : List C} {i : Nat}
theorem ev_Iq (h : Γ[i]? = some .tp) : EvS g (tOp rEq (tCall (sp__law_draw g) [] C8.E0 (tCons (tVar i) (tCons (tC (.int 2)) tNil))) (tC (.int 0))) Γ (fun d => ∃ b, d = .bl b ∧ True) := ev_op (ev_draw h ev_int (by decide) (by decide)) ev_int fun x y hx hy m H v u r1 r2 Q q => by
  obtain ⟨k, rfl, _, _⟩ := hx
  subst hy
  cases r1; cases r2
  exact ⟨rfl, q _ (.bl (decide (V.int k = V.int 0))) ⟨_, rfl, trivial⟩ (.bl _)⟩
end
section
variable {P : Program} {w : World} {K : PySem.W.Frag} {mg : Str → Option Value} {base : Heap} {g : Gl}
def sp__law_made (g : Gl) : Sp := pr g 3 (ι := Nt × Str) (fun i => [.tp, .d (D.nt i.1), .d (.str i.2)]) (fun i => VN 9 i.1 ∧ VT i.1 i.2) (fun _ r => Car r)
theorem cal__law_made (hK : g.K = K) (T : Blt mg) (h : Dfd K mg "_law_made" (topS 72)) (pk : Pk K g) (c__law_draw : C8.Cal P w K mg base 1 "_law_draw" (sp__law_draw g) []) (mk_Net : C8.Mak P w K mg base 3 "Net" g.net (sp_Net___init__ g) []) {fo : Addr} (on_ok : FnM P w K mg base 9 fo (sp_Carpet_on g)) (on_sm : SMet K g.car "on" fo) {fi : Addr} (ci_ok : FnMK P w K mg base 7 fi 2 ["shift"] (sp_Carpet___init__ g)) (ci_mk : Mk K g.car fi) (gm_Carpet : mg "Carpet" = some (.ref g.car)) (gl_Carpet : ∃ u, mg "Carpet" = some u ∧ RelV (.ref g.car) u) : C8.Cal P w K mg base 12 "_law_made" (sp__law_made g) [] := by
  subst hK
  refine h.cal (k := 11) (N := ["_law_tape_here", "_law_net_here", "_law_text", "_law_rows", "_law_k"]) (ps := ["_law_tape_here", "_law_net_here", "_law_text"]) (r := 2) (fun _ _ _ _ _ _ us hl => match us, hl with | [_, _, _], _ => rfl) (C8.fnScope_by (by decide +kernel)) rfl rfl fun f cdv A outer s H E hr => ?_
  have nd : List.Nodup (α := Str) ["_law_tape_here", "_law_net_here", "_law_text", "_law_rows", "_law_k"] := by decide +kernel
  refine ⟨_, (pss_cons (ps_if (pt_cmpR op_eq (C8.pe_c c__law_draw hr (by decide) rfl (pa_cons (pv 0) (pa_cons pe_int pa_nil))) pe_int (nomark _))
      (pss_one (ps_ret (pe_smeth on_ok on_sm hr (by decide) (C8.pe_gc rfl gl_Carpet) (pa_cons (C8.pe_mk mk_Net hr (by decide) rfl (pa_cons (pe_ix (ixT (K := g.K) rfl) (pv 1) pe_int (fun _ _ => rfl)) (pa_cons (pe_ix (ixT (K := g.K) rfl) (pv 1) pe_int (fun _ _ => rfl)) (pa_cons (pe_ix (ixT (K := g.K) rfl) (pv 1) pe_int (fun _ _ => rfl)) pa_nil)))) (pa_cons (pv 2) pa_nil))))) pss_nil)
    (pss_cons (ps_setLc (i := 3) (own := [("_law_k", 4)]) (g := gName 4) rfl nd rfl rfl (sw_true rfl rfl rfl (by decide +kernel)) (pi_range1 rfl T.range (pa_cons (pe_ix (ixT (K := g.K) rfl) (pv 1) pe_int (fun _ _ => rfl)) pa_nil)) (blkOk_by (own := [("_law_k", 4)]) (N := ["_law_tape_here", "_law_net_here", "_law_text", "_law_rows", "_law_k"]) (sc := C8.fnScope (topS 72)) (by decide +kernel)) (fun _ _ _ _ _ => (pg_name (i := 4) nd rfl (.inl rfl))) (fun _ _ _ _ _ => pts_nil) (fun _ _ _ _ _ => (pe_slice sl_str (pv 2) (po_some (pe_op op_mul (pe_ix (ixT (K := g.K) rfl) (pv 1) pe_int (fun _ _ => rfl)) (pv 4))) (po_some (pe_op op_add (pe_op op_mul (pe_ix (ixT (K := g.K) rfl) (pv 1) pe_int (fun _ _ => rfl)) (pv 4)) (pe_ix (ixT (K := g.K) rfl) (pv 1) pe_int (fun _ _ => rfl)))))))
      (pss_one (ps_ret (pe_mkK (n := 1) (ks := ["shift"]) ci_ok ci_mk gm_Carpet hr (by decide) rfl (pa_cons (pv 3) pa_nil) (pk_cons (pe_op op_add (pe_ix (ixT (K := g.K) rfl) (pv 1) pe_int (fun _ _ => rfl)) (pe_op op_mul (pe_ix (ixT (K := g.K) rfl) (pv 1) pe_int (fun _ _ => rfl)) (pe_op op_sub (C8.pe_c c__law_draw hr (by decide) rfl (pa_cons (pv 0) (pa_cons pe_int pa_nil))) pe_int))) pk_nil)))))), fun i hp => ?_⟩
  obtain ⟨n, z⟩ := i
  obtain ⟨hv, ht⟩ := hp
  dsimp only at hv ht ⊢
  have a1 := hv.a1
  have c1 := hv.c1
  have aL := hv.aLe
  have cL := hv.cLe
  have hzl := ht.len
  have hsz := hv.sz
  obtain ⟨A, hA⟩ : ∃ A : Nat, n.a = A := ⟨n.a.toNat, by omega⟩
  obtain ⟨Cc, hC⟩ : ∃ A : Nat, n.c = A := ⟨n.c.toNat, by omega⟩
  have hlen : z.length = A * Cc := by
    have z2 : ((A * Cc : Nat) : Int) = n.a * n.c := by rw [Int.natCast_mul, hA, hC]
    omega
  refine sv_seq (sv_if (B := fun _ => True) (et_tests (ev_Iq rfl) fun x hx => hx) (fun _ => ?_) fun _ => sv_next ?_)
  · exact sv_ret (ev_smeth (ea_cons' (ev_makeI n (ea_cons' (ev_t0 (ev_var rfl)) (ea_cons' (ev_t1 (ev_var rfl)) (ea_cons' (ev_t2 (ev_var rfl)) ea_nil))) ⟨hv.b0, hv.bl, hv.c1⟩) (ea_cons' (ev_var rfl) ea_nil)) fun cs e => ⟨(n, z), e, rfl, ⟨hv, ht⟩, fun d h => h⟩)
  · have smA : -(2 ^ 64) < n.a ∧ n.a < 2 ^ 64 := ⟨by omega, by omega⟩
    refine sv_seq (sv_asgL (el_map (f := fun d => match d with | .int k => .str (cutS z (some (n.a * k)) (some (n.a * k + n.a))) | d => d) (ei_rng1 (n := Cc) (EvS.to' (ev_t2 (ev_var rfl)) (congrArg D.int hC)) (by omega)) (by rw [List.length_map, List.length_range]; omega) (by decide) fun d hd => ?_) fun ds hds => ?_)
    · obtain ⟨k, hk, rfl⟩ := List.mem_map.mp hd
      exact ev_slS (ev_var rfl) (ev_I (ev_t0 (ev_var rfl)) (ev_var rfl) (.inl smA)) (ev_add (ev_I (ev_t0 (ev_var rfl)) (ev_var rfl) (.inl smA)) (ev_t0 (ev_var rfl))) (Evl.sz_of (by omega))
    · subst hds
      refine sv_give (i := 3) rfl ?_
      refine sv_ret (ev_makeK (ev_var rfl) (ev_I0s (P := fun d => ∃ s : Int, d = .int s) (ev_t1 (ev_var rfl)) (ev_Is (P := fun d => ∃ s : Int, d = .int s) (ev_t0 (ev_var rfl)) (ev_I0s (P := fun d => ∃ s : Int, d = .int s) (ev_draw rfl ev_int (by decide) (by decide)) ev_int fun x y hx hy => ?_) fun x y hx hy => ?_) fun x y hx hy => ?_) fun x y hx hy => ?_)
      · obtain ⟨m, e, _, _⟩ := hx
        exact ⟨_, _, e, hy, _, rfl⟩
      · obtain ⟨m, e⟩ := hy
        exact ⟨_, _, hx, e, .inl smA, _, rfl⟩
      · obtain ⟨m, e⟩ := hy
        exact ⟨_, _, hx, e, _, rfl⟩
      · obtain ⟨m, rfl⟩ := hy
        refine ⟨((List.range Cc).map fun (k : Nat) => cutS z (some (n.a * (k : Int))) (some (n.a * (k : Int) + n.a)), n.a, m), ?_, rfl, ⟨?_, ?_, a1, aL, ?_, fun y hy => ?_⟩, fun d h => h⟩
        · rw [hx, List.map_map, List.map_map]
          rfl
        · rw [List.length_map, List.length_range]; omega
        · rw [List.length_map, List.length_range]; omega
        · rw [List.length_map, List.length_range, ← hC]; exact hsz
        · obtain ⟨k, hk, rfl⟩ := List.mem_map.mp hy
          have hk := List.mem_range.mp hk
          have hmul : A * k + A ≤ A * Cc := by
            have := Nat.mul_le_mul_left A (show k + 1 ≤ Cc from hk)
            rw [Nat.mul_add] at this
            omega
          have e1 : n.a * (k : Int) = ((A * k : Nat) : Int) := by rw [Int.natCast_mul, hA]
          have e2 : n.a * (k : Int) + n.a = ((A * k + A : Nat) : Int) := by rw [Int.natCast_add, Int.natCast_mul, hA]
          rw [e2, e1]
          obtain ⟨q1, q2⟩ := cut_ok (z := z) (lo := A * k) (hi := A * k + A) (by omega) (by omega)
          refine ⟨fun c hc => ht.lw c (q2 c hc), ?_⟩
          show ((cutS z (some ((A * k : Nat) : Int)) (some ((A * k + A : Nat) : Int))).length : Int) = n.a
          omega
end
end K55
set_option maxHeartbeats 1000000
/-! The window's groups, told plainly. -/
namespace K55
def InW (p : Pt) : Prop := 0 ≤ p.1 ∧ p.1 < 11 ∧ 0 ≤ p.2 ∧ p.2 < 11
instance (p : Pt) : Decidable (InW p) := by unfold InW; infer_instance
/-- the window's colours; 0 outside -/
def wc (ρ : Pt → Nat) (p : Pt) : Nat := if InW p then ρ p + 1 else 0
theorem near_around {p q : Pt} : q ∈ near4 p ↔ q ∈ around p := by
  obtain ⟨a, b⟩ := p
  unfold near4 around
  simp only [List.mem_cons, List.not_mem_nil, or_false, Int.add_zero]
  constructor
  · rintro (h | h | h | h)
    · exact .inl h
    · exact .inr (.inr (.inl h))
    · exact .inr (.inl h)
    · exact .inr (.inr (.inr h))
  · rintro (h | h | h | h)
    · exact .inl h
    · exact .inr (.inr (.inl h))
    · exact .inr (.inl h)
    · exact .inr (.inr (.inr h))
theorem near_symm {p q : Pt} (h : q ∈ near4 p) : p ∈ near4 q := near_around.mpr (around_symm (near_around.mp h))
theorem wc_in {ρ : Pt → Nat} {p q : Pt} (hp : InW p) (h : wc ρ q = wc ρ p) : InW q ∧ ρ q = ρ p := by
  unfold wc at h
  rw [if_pos hp] at h
  by_cases hq : InW q
  · rw [if_pos hq] at h
    exact ⟨hq, by omega⟩
  · rw [if_neg hq] at h
    omega
theorem wc_eq {ρ : Pt → Nat} {p q : Pt} (hp : InW p) (hq : InW q) : wc ρ q = wc ρ p ↔ ρ q = ρ p := by
  unfold wc
  rw [if_pos hp, if_pos hq]
  omega
structure Gs (ρ : Pt → Nat) (F : List (Pt × Nat)) (M : Nat) : Prop where
  nd : (F.map (·.1)).Nodup
  inw : ∀ e ∈ F, InW e.1
  lt : ∀ e ∈ F, e.2 < M
  cl : ∀ e ∈ F, ∀ q ∈ near4 e.1, wc ρ q = wc ρ e.1 → (q, e.2) ∈ F
  cn : ∀ e ∈ F, ∀ f ∈ F, e.2 = f.2 → Cn (wc ρ) e.1 f.1
structure Gi (ρ : Pt → Nat) (F : List (Pt × Nat)) (M : Nat) (s : Pt) (W : List Pt) : Prop where
  nd : (F.map (·.1)).Nodup
  inw : ∀ e ∈ F, InW e.1
  lt : ∀ e ∈ F, e.2 ≤ M
  cl : ∀ e ∈ F, e.2 < M → ∀ q ∈ near4 e.1, wc ρ q = wc ρ e.1 → (q, e.2) ∈ F
  cn : ∀ e ∈ F, ∀ f ∈ F, e.2 < M → e.2 = f.2 → Cn (wc ρ) e.1 f.1
  m : ∀ e ∈ F, e.2 = M → Cn (wc ρ) s e.1 ∧ ∀ q ∈ near4 e.1, wc ρ q = wc ρ e.1 → (q, M) ∈ F ∨ q ∈ W
  w : ∀ p ∈ W, InW p ∧ Cn (wc ρ) s p ∧ ∀ i, (p, i) ∈ F → i = M
  s0 : s ∈ W ∨ (s, M) ∈ F
  len : W.length ≤ 4 * F.length + 1
section
variable {ρ : Pt → Nat} {F : List (Pt × Nat)} {M : Nat} {s p : Pt} {W news : List Pt}
theorem Gs.start (h : Gs ρ F M) (hs : InW s) (hn : ∀ e ∈ F, e.1 ≠ s) : Gi ρ F M s [s] :=
  ⟨h.nd, h.inw, fun e he => Nat.le_of_lt (h.lt e he), fun e he _ => h.cl e he, fun e he f hf _ => h.cn e he f hf, fun e he z => absurd (h.lt e he) (by omega), fun p hp => by
    have e : p = s := List.mem_singleton.mp hp
    subst e
    exact ⟨hs, .refl, fun i hi => absurd rfl (hn _ hi)⟩, .inl (List.mem_singleton.mpr rfl), by show 1 ≤ 4 * F.length + 1; omega⟩
theorem Gi.skip (h : Gi ρ F M s (W ++ [p])) {i : Nat} (hp : (p, i) ∈ F) : Gi ρ F M s W := by
  have hpm : p ∈ W ++ [p] := List.mem_append_right _ (List.mem_singleton.mpr rfl)
  have e := (h.w p hpm).2.2 i hp
  subst e
  refine ⟨h.nd, h.inw, h.lt, h.cl, h.cn, fun e he z => ⟨(h.m e he z).1, fun q hq hx => ?_⟩, fun q hq => h.w q (List.mem_append_left _ hq), ?_, ?_⟩
  · rcases (h.m e he z).2 q hq hx with c | c
    · exact .inl c
    · rcases List.mem_append.mp c with c | c
      · exact .inr c
      · rw [List.mem_singleton.mp c]; exact .inl hp
  · rcases h.s0 with c | c
    · rcases List.mem_append.mp c with c | c
      · exact .inl c
      · rw [List.mem_singleton.mp c]; exact .inr hp
    · exact .inr c
  · have := h.len
    rw [List.length_append, List.length_singleton] at this
    omega
theorem Gi.new (h : Gi ρ F M s (W ++ [p])) (hp : ∀ e ∈ F, e.1 ≠ p) (hn : ∀ q, q ∈ news ↔ q ∈ near4 p ∧ wc ρ q = wc ρ p ∧ ∀ e ∈ F ++ [(p, M)], e.1 ≠ q) (hl : news.length ≤ 4) : Gi ρ (F ++ [(p, M)]) M s (W ++ news) := by
  have hpm : p ∈ W ++ [p] := List.mem_append_right _ (List.mem_singleton.mpr rfl)
  obtain ⟨p1, p2, _⟩ := h.w p hpm
  have hF : ∀ e ∈ F, e ∈ F ++ [(p, M)] := fun e he => List.mem_append_left _ he
  have hpF : (p, M) ∈ F ++ [(p, M)] := List.mem_append_right _ (List.mem_singleton.mpr rfl)
  have new : ∀ e ∈ F ++ [(p, M)], e ∈ F ∨ e = (p, M) := fun e he => (List.mem_append.mp he).imp id List.mem_singleton.mp
  refine ⟨?_, fun e he => ?_, fun e he => ?_, fun e he z q hq hx => ?_, fun e he f hf z zz => ?_, fun e he z => ?_, fun q hq => ?_, ?_, ?_⟩
  · rw [List.map_append]
    refine List.nodup_append.mpr ⟨h.nd, List.nodup_cons.mpr ⟨fun z => (by cases z), List.nodup_nil⟩, fun a ha b hb => ?_⟩
    obtain ⟨e, he, rfl⟩ := List.mem_map.mp ha
    have : b = p := List.mem_singleton.mp hb
    rw [this]
    exact hp e he
  · rcases new e he with c | rfl
    · exact h.inw e c
    · exact p1
  · rcases new e he with c | rfl
    · exact h.lt e c
    · exact Nat.le_refl _
  · rcases new e he with c | rfl
    · exact hF _ (h.cl e c z q hq hx)
    · exact absurd z (Nat.lt_irrefl _)
  · rcases new e he with c | rfl
    · rcases new f hf with d | rfl
      · exact h.cn e c f d z zz
      · exact absurd z (by rw [zz]; exact Nat.lt_irrefl _)
    · exact absurd z (Nat.lt_irrefl _)
  · rcases new e he with c | rfl
    · refine ⟨(h.m e c z).1, fun q hq hx => ?_⟩
      rcases (h.m e c z).2 q hq hx with d | d
      · exact .inl (hF _ d)
      · rcases List.mem_append.mp d with d | d
        · exact .inr (List.mem_append_left _ d)
        · rw [List.mem_singleton.mp d]; exact .inl hpF
    · refine ⟨p2, fun q hq hx => ?_⟩
      by_cases hk : ∀ e ∈ F ++ [(p, M)], e.1 ≠ q
      · exact .inr (List.mem_append_right _ ((hn q).mpr ⟨hq, hx, hk⟩))
      · obtain ⟨e, he, rfl⟩ : ∃ e ∈ F ++ [(p, M)], e.1 = q := Classical.byContradiction fun z => hk fun e he ez => z ⟨e, he, ez⟩
        rcases new e he with c | rfl
        · by_cases hM : e.2 < M
          · have := h.cl e c hM p (near_symm hq) hx.symm
            exact absurd rfl (hp _ this)
          · have : e.2 = M := Nat.le_antisymm (h.lt e c) (Nat.le_of_not_lt hM)
            exact .inl (hF (e.1, M) (by rw [← this]; exact c))
        · exact .inl hpF
  · rcases List.mem_append.mp hq with c | c
    · obtain ⟨q1, q2, q3⟩ := h.w q (List.mem_append_left _ c)
      refine ⟨q1, q2, fun i hi => ?_⟩
      rcases new _ hi with d | d
      · exact q3 i d
      · exact (Prod.mk.inj d).2
    · obtain ⟨q1, q2, q3⟩ := (hn q).mp c
      exact ⟨(wc_in p1 q2).1, p2.step (near_around.mp q1) (q2.trans p2.col), fun i hi => absurd rfl (q3 _ hi)⟩
  · rcases h.s0 with c | c
    · rcases List.mem_append.mp c with c | c
      · exact .inl (List.mem_append_left _ c)
      · rw [List.mem_singleton.mp c]; exact .inr hpF
    · exact .inr (hF _ c)
  · have := h.len
    rw [List.length_append, List.length_singleton] at this
    rw [List.length_append, List.length_append, List.length_singleton]
    omega
theorem Gi.done (h : Gi ρ F M s []) : Gs ρ F (M + 1) ∧ (s, M) ∈ F := by
  have hs : (s, M) ∈ F := h.s0.resolve_left fun z => by cases z
  refine ⟨⟨h.nd, h.inw, fun e he => Nat.lt_succ_of_le (h.lt e he), fun e he q hq hx => ?_, fun e he f hf z => ?_⟩, hs⟩
  · by_cases hM : e.2 < M
    · exact h.cl e he hM q hq hx
    · have e1 : e.2 = M := Nat.le_antisymm (h.lt e he) (Nat.le_of_not_lt hM)
      rw [e1]
      exact ((h.m e he e1).2 q hq hx).resolve_right fun z => by cases z
  · by_cases hM : e.2 < M
    · exact h.cn e he f hf hM z
    · have e1 : e.2 = M := Nat.le_antisymm (h.lt e he) (Nat.le_of_not_lt hM)
      exact (h.m e he e1).1.symm.trans (h.m f hf (by rw [← z, e1])).1
theorem Gs.walk (h : Gs ρ F M) {i : Nat} {q : Pt} (hp : (p, i) ∈ F) (hc : Cn (wc ρ) p q) : (q, i) ∈ F := by
  induction hc with
  | refl => exact hp
  | step h1 a e ih => exact h.cl _ ih _ (near_around.mpr a) (e.trans h1.col.symm)
theorem Gs.same (h : Gs ρ F M) {i j : Nat} {q : Pt} (hp : (p, i) ∈ F) (hq : (q, j) ∈ F) : i = j ↔ Cn (wc ρ) p q := by
  refine ⟨fun e => h.cn _ hp _ hq e, fun hc => ?_⟩
  have h1 := h.walk hp hc
  -- one number for a key
  have : ∀ {F : List (Pt × Nat)}, (F.map (·.1)).Nodup → (q, i) ∈ F → (q, j) ∈ F → i = j := by
    intro F nd a b
    induction F with
    | nil => cases a
    | cons x F ih =>
      have nd' := List.nodup_cons.mp nd
      rcases List.mem_cons.mp a with a | a
      · rcases List.mem_cons.mp b with b | b
        · rw [← a] at b
          exact (Prod.mk.inj b).2.symm
        · exact absurd (List.mem_map.mpr ⟨_, b, by rw [← a]⟩) nd'.1
      · rcases List.mem_cons.mp b with b | b
        · exact absurd (List.mem_map.mpr ⟨_, a, by rw [← b]⟩) nd'.1
        · exact ih nd'.2 a b
  exact this h.nd h1 hq
end
end K55
set_option maxHeartbeats 1000000
/-! The window's groups. -/
namespace K55
open PySem PySem.Spec PyProof.Rows L2
open Evl (Ex)
abbrev fnD (F : List (Pt × Nat)) : Kvs := F.map fun e => (e.1, D.int (e.2 : Int))
def rowsD (ρ : Pt → Nat) : D := .lst ((List.range 11).map fun (y : Nat) => D.lst ((List.range 11).map fun (x : Nat) => D.str (one (ρ ((x : Int), (y : Int))))))
section
variable {F : List (Pt × Nat)} {p q : Pt} {i : Nat}
theorem has_fn (h : hasP (fnD F) p = true) : ∃ i, (p, i) ∈ F := by
  unfold hasP at h
  obtain ⟨e, he, h2⟩ := List.any_eq_true.mp h
  obtain ⟨x, hx, rfl⟩ := List.mem_map.mp he
  have : x.1 = p := of_decide_eq_true h2
  exact ⟨x.2, this ▸ hx⟩
theorem not_fn (h : hasP (fnD F) p = false) : ∀ e ∈ F, e.1 ≠ p := fun e he z => by
  have : hasP (fnD F) p = true := List.any_eq_true.mpr ⟨_, List.mem_map.mpr ⟨e, he, rfl⟩, decide_eq_true z⟩
  rw [h] at this
  cases this
theorem fn_not (h : ∀ e ∈ F, e.1 ≠ p) : hasP (fnD F) p = false := by
  cases z : hasP (fnD F) p with
  | false => rfl
  | true =>
    obtain ⟨i, hi⟩ := has_fn z
    exact absurd rfl (h _ hi)
theorem get_fn : ∀ {F : List (Pt × Nat)}, (F.map (·.1)).Nodup → (p, i) ∈ F → getP (fnD F) p = some (.int (i : Int))
  | [], _, h => by cases h
  | e :: K, nd, h => by
    have nd' := List.nodup_cons.mp nd
    unfold getP
    by_cases q : e.1 = p
    · rw [show fnD (e :: K) = (e.1, D.int (e.2 : Int)) :: fnD K from rfl, List.find?_cons_of_pos (by simp [q])]
      rcases List.mem_cons.mp h with z | z
      · rw [← z]; rfl
      · exact absurd (List.mem_map.mpr ⟨(p, i), z, q.symm⟩) nd'.1
    · rw [show fnD (e :: K) = (e.1, D.int (e.2 : Int)) :: fnD K from rfl, List.find?_cons_of_neg (by simp [q])]
      rcases List.mem_cons.mp h with z | z
      · exact absurd (by rw [← z]) q
      · exact get_fn nd'.2 z
theorem put_fn (h : hasP (fnD F) p = false) : putP (fnD F) p (.int (i : Int)) = fnD (F ++ [(p, i)]) := by
  unfold putP
  rw [h, if_neg (by decide)]
  show _ = (F ++ [(p, i)]).map _
  rw [List.map_append]
  rfl
theorem at_range {f : Nat → D} {k : Int} (h0 : 0 ≤ k) (h1 : k < 11) : atI ((List.range 11).map f) k = some (f k.toNat) := by
  obtain ⟨j, rfl⟩ : ∃ j : Nat, k = j := ⟨k.toNat, by omega⟩
  refine atI_nat ?_
  rw [List.getElem?_map, List.getElem?_range (by omega)]
  rfl
theorem inw_len {k : List Pt} (nd : k.Nodup) (h : ∀ p ∈ k, InW p) : k.length ≤ 121 := by
  have h1 := nodup_le nd (k := spots 11 11) fun x hx => (mem_spots (by decide) (by decide)).mpr (h x hx)
  rw [spots_len] at h1
  exact h1
end
def wt1 (d : D) : Bool := match d with | .tup [.int x, .int y] => decide (0 ≤ x) && (decide (x < 11) && decide (0 ≤ y)) | _ => false
def wt2 (F : List (Pt × Nat)) (d : D) : Bool := match d with | .tup [.int x, .int y] => decide (y < 11) && !hasP (fnD F) (x, y) | _ => false
def wt3 (ρ : Pt → Nat) (h0 : Pt) (d : D) : Bool := match d with | .tup [.int x, .int y] => decide (one (ρ (x, y)) = one (ρ h0)) | _ => false
theorem win_of {F : List (Pt × Nat)} {q : Pt} (h : (((wt2 F ∘ D.pl) q && (wt1 ∘ D.pl) q) : Bool) = true) : InW q := by
  have h : ((decide (q.2 < 11) && !hasP (fnD F) (q.1, q.2)) && (decide (0 ≤ q.1) && (decide (q.1 < 11) && decide (0 ≤ q.2)))) = true := h
  simp only [Bool.and_eq_true, decide_eq_true_eq] at h
  exact ⟨h.2.1, h.2.2.1, h.2.2.2, h.1.1⟩
def newsOf (ρ : Pt → Nat) (F : List (Pt × Nat)) (h0 : Pt) : List Pt := (near4 h0).filter fun a => (wt3 ρ h0 ∘ D.pl) a && ((wt2 F ∘ D.pl) a && (wt1 ∘ D.pl) a)
theorem news_iff {ρ : Pt → Nat} {F : List (Pt × Nat)} {h0 : Pt} (hin0 : InW h0) (q : Pt) : q ∈ newsOf ρ F h0 ↔ q ∈ near4 h0 ∧ wc ρ q = wc ρ h0 ∧ ∀ e ∈ F, e.1 ≠ q := by
  unfold newsOf
  rw [List.mem_filter]
  refine and_congr_right fun _ => ?_
  constructor
  · intro h
    have h := (Bool.and_eq_true _ _).mp h
    have hin := win_of h.2
    have h3 : one (ρ q) = one (ρ h0) := of_decide_eq_true h.1
    have h2 : (decide (q.2 < 11) && !hasP (fnD F) q) = true := ((Bool.and_eq_true _ _).mp h.2).1
    have h4 : hasP (fnD F) q = false := by
      have := ((Bool.and_eq_true _ _).mp h2).2
      cases z : hasP (fnD F) q with
      | false => rfl
      | true => rw [z] at this; cases this
    exact ⟨(wc_eq hin0 hin).mpr (one_inj.mp h3), not_fn h4⟩
  · rintro ⟨h1, h2⟩
    obtain ⟨hin, hr⟩ := wc_in hin0 h1
    obtain ⟨i1, i2, i3, i4⟩ := hin
    show (decide (one (ρ q) = one (ρ h0)) && ((decide (q.2 < 11) && !hasP (fnD F) q) && (decide (0 ≤ q.1) && (decide (q.1 < 11) && decide (0 ≤ q.2))))) = true
    rw [hr, fn_not h2, decide_eq_true i1, decide_eq_true i2, decide_eq_true i3, decide_eq_true i4, decide_eq_true rfl]
    rfl
section
variable {g : Gl} {Γ : List C} {ta tb te : TE} {ρ : Pt → Nat} {p : Pt}
theorem ev_win (h : EvS g te Γ (· = rowsD ρ)) (hy : EvS g tb Γ (· = .int p.2)) (hx : EvS g ta Γ (· = .int p.1)) (hp : InW p) : EvS g (tOp (rIxL g.K) (tOp (rIxL g.K) te tb) ta) Γ (· = .str (one (ρ p))) := by
  obtain ⟨h1, h2, h3, h4⟩ := hp
  refine EvS.to' (ev_ixL (ev_ixL h hy (at_range h3 h4)) hx (at_range h1 h2)) ?_
  rw [Int.toNat_of_nonneg h1, Int.toNat_of_nonneg h3]
end
section
variable {g : Gl} {Γ : List C} {E : En} {i j : Nat}
theorem sv_par2M {n : Int} (q : E.nx ((Γ.set i (.md [])).set j (.d (.int n)))) : Sv g (tAsg (tTup (tCons tDNewT (tCons (tC (.int n)) tNil))) (gTup g.K 2 (gCons (gName i) (gCons (gName j) gNil)))) Γ E := fun F m σ H Ed e s a _ _ _ => by
  subst e
  refine fun p1 hp1 => ⟨by show 2 ≤ sizeLine; rw [sizeLine_eq]; decide, fun p2 hp2 => ?_⟩
  obtain ⟨s1, l1⟩ := s.setO (i := i) (c' := .md []) (H1 := upd H p1 (.dT [])) (kp_new hp1) hp1 (by rw [upd_same]; exact fun z => by cases z) fun h0 nlk => ⟨p1, [], rfl, List.mem_cons_self, ⟨h0, nlk⟩, upd_same, rfl, .nil⟩
  have s2 := s1.keep (kp_new (o := .tup [.ref p1, .int n]) hp2)
  have l2 := s1.lt (kp_new (o := .tup [.ref p1, .int n]) hp2)
  exact ⟨_, _, rfl, SqT.of upd_same, rfl, _, _, rfl, _, _, rfl, rfl, a _ _ _ _ (l1.trans l2) (s2.setd (.int n)) q⟩
end
section
variable {P : Program} {w : World} {K : PySem.W.Frag} {mg : Str → Option Value} {base : Heap} {g : Gl}
def sp__law_groups (g : Gl) : Sp := pr g 1 (ι := Pt → Nat) (fun ρ => [.d (rowsD ρ)]) (fun _ => True) (fun ρ r => ∃ F M, r = .dct (fnD F) ∧ Gs ρ F M ∧ ∀ p, InW p → ∃ i, (p, i) ∈ F)
theorem cal__law_groups (hK : g.K = K) (T : Blt mg) (h : Dfd K mg "_law_groups" (topS 76)) (c__law_near : C8.Cal P w K mg base 1 "_law_near" (sp__law_near g) []) : C8.Cal P w K mg base 2 "_law_groups" (sp__law_groups g) [] := by
  subst hK
  refine h.cal (k := 1) (N := ["_law_rows", "_law_wide", "_law_found", "_law_many", "_law_spot", "_law_line", "_law_here", "_law_some", "_law_at", "_law_one"]) (ps := ["_law_rows"]) (r := 9) (fun _ _ _ _ _ _ us hl => match us, hl with | [_], _ => rfl) (C8.fnScope_by (by decide +kernel)) rfl rfl fun f cdv A outer s H E hr => ?_
  have nd : List.Nodup (α := Str) ["_law_rows", "_law_wide", "_law_found", "_law_many", "_law_spot", "_law_line", "_law_here", "_law_some", "_law_at", "_law_one"] := by decide +kernel
  refine ⟨_, (pss_cons (ps_set (i := 1) nd rfl (.inr rfl) (pe_callB (lenK (K := g.K) rfl) (by rfl) T.len PySem.boot_len (pa_cons (pv 0) pa_nil)))
    (pss_cons (ps_asg (pe_tup (pa_cons pe_dnewT (pa_cons pe_int pa_nil))) (pgT (K := g.K) (n := 2) rfl (by rfl) (pgs_cons (pg_name (i := 2) nd rfl (.inr rfl)) (pgs_cons (pg_name (i := 3) nd rfl (.inl rfl)) pgs_nil))))
    (pss_cons (ps_for PassesOwn.never rfl (piL (K := g.K) rfl (pe_lc (own := [("_law_at", 8)]) (g := gName 8) rfl nd (pi_range1 rfl T.range (pa_cons (pe_op op_mul (pv 1) (pv 1)) pa_nil)) (blkOk_by (own := [("_law_at", 8)]) (N := ["_law_rows", "_law_wide", "_law_found", "_law_many", "_law_spot", "_law_line", "_law_here", "_law_some", "_law_at", "_law_one"]) (sc := C8.fnScope (topS 76)) (by decide +kernel)) (fun _ _ _ _ _ => (pg_name (i := 8) nd rfl (.inl rfl))) (fun _ _ _ _ _ => pts_nil) (fun _ _ _ _ _ => (pe_tup (pa_cons (pe_op op_mod (pv 8) (pv 1)) (pa_cons (pe_op op_fdiv (pv 8) (pv 1)) pa_nil)))))) (pg_name (i := 4) nd rfl (.inl rfl))
      (pss_one (ps_if (pt_cmp (pc_dnotin (hu_of hr) (pv 4) (pv 2)))
          (pss_cons (ps_set (i := 5) nd rfl (.inl rfl) (pe_lst (pa_cons (pv 4) pa_nil)))
            (pss_cons (ps_while PassesOwn.never (pt_cmpR (neD (K := g.K) rfl hr.units) (pv 5) (pe_lst pa_nil) (nomark _))
              (pss_cons (ps_set (i := 6) nd rfl (.inr rfl) (pe_bm0 PySem.F.plainAttrs_list PySem.F.slot_list_pop PySem.F.type_list_pop mt_pop (pv 5)))
                (pss_one (ps_if (pt_cmp (pc_dnotin (hu_of hr) (pv 6) (pv 2)))
                  (pss_cons (ps_dput (hu_of hr) (pv 2) (pv 6) (pv 3) rfl)
                    (pss_cons (ps_setLc (i := 7) (own := [("_law_one", 9)]) (g := gName 9) rfl nd rfl rfl (sw_true rfl rfl rfl (by decide +kernel)) (piL (K := g.K) rfl (C8.pe_c c__law_near hr (by decide) rfl (pa_cons (pv 6) pa_nil))) (blkOk_by (own := [("_law_one", 9)]) (N := ["_law_rows", "_law_wide", "_law_found", "_law_many", "_law_spot", "_law_line", "_law_here", "_law_some", "_law_at", "_law_one"]) (sc := C8.fnScope (topS 76)) (by decide +kernel)) (fun _ _ _ _ _ => (pg_name (i := 9) nd rfl (.inl rfl))) (fun _ _ _ _ _ => pts_one (PW.pt (pw_and (pt_cmpR op_le pe_int (pe_ix (ixT (K := g.K) rfl) (pv 9) pe_int (fun _ _ => rfl)) (nomark _)) (pw_and (pt_cmpR op_lt (pe_ix (ixT (K := g.K) rfl) (pv 9) pe_int (fun _ _ => rfl)) (pv 1) (nomark _)) (pw_and1 (pt_cmpR op_le pe_int (pe_ix (ixT (K := g.K) rfl) (pv 9) pe_int (fun _ _ => rfl)) (nomark _))))))) (fun _ _ _ _ _ => (pv 9)))
                    (pss_cons (ps_setLc (i := 7) (own := [("_law_one", 9)]) (g := gName 9) rfl nd rfl rfl (sw_true rfl rfl rfl (by decide +kernel)) (piL (K := g.K) rfl (pv 7)) (blkOk_by (own := [("_law_one", 9)]) (N := ["_law_rows", "_law_wide", "_law_found", "_law_many", "_law_spot", "_law_line", "_law_here", "_law_some", "_law_at", "_law_one"]) (sc := C8.fnScope (topS 76)) (by decide +kernel)) (fun _ _ _ _ _ => (pg_name (i := 9) nd rfl (.inl rfl))) (fun _ _ _ _ _ => pts_one (PW.pt (pw_and (pt_cmpR op_lt (pe_ix (ixT (K := g.K) rfl) (pv 9) pe_int (fun _ _ => rfl)) (pv 1) (nomark _)) (pw_and1 (pt_cmp (pc_dnotin (hu_of hr) (pv 9) (pv 2))))))) (fun _ _ _ _ _ => (pv 9)))
                    (pss_one (ps_set (i := 5) nd rfl (.inl rfl) (pe_op op_cat (pv 5) (pe_lc (own := [("_law_one", 9)]) (g := gName 9) rfl nd (piL (K := g.K) rfl (pv 7)) (blkOk_by (own := [("_law_one", 9)]) (N := ["_law_rows", "_law_wide", "_law_found", "_law_many", "_law_spot", "_law_line", "_law_here", "_law_some", "_law_at", "_law_one"]) (sc := C8.fnScope (topS 76)) (by decide +kernel)) (fun _ _ _ _ _ => (pg_name (i := 9) nd rfl (.inl rfl))) (fun _ _ _ _ _ => pts_one (pt_cmpR op_eq (pe_ix (ixL (K := g.K) rfl) (pe_ix (ixL (K := g.K) rfl) (pv 0) (pe_ix (ixT (K := g.K) rfl) (pv 9) pe_int (fun _ _ => rfl)) (fun _ _ => rfl)) (pe_ix (ixT (K := g.K) rfl) (pv 9) pe_int (fun _ _ => rfl)) (fun _ _ => rfl)) (pe_ix (ixL (K := g.K) rfl) (pe_ix (ixL (K := g.K) rfl) (pv 0) (pe_ix (ixT (K := g.K) rfl) (pv 6) pe_int (fun _ _ => rfl)) (fun _ _ => rfl)) (pe_ix (ixT (K := g.K) rfl) (pv 6) pe_int (fun _ _ => rfl)) (fun _ _ => rfl)) (nomark _))) (fun _ _ _ _ _ => (pv 9)))))))))
                  pss_nil))))
            (pss_one (ps_set (i := 3) nd rfl (.inl rfl) (pe_op op_add (pv 3) pe_int)))))
          pss_nil)))
    (pss_one (ps_ret (pv 2)))))), fun ρ hp => ?_⟩
  refine sv_seq (sv_asg (EvS.to' (y := .int 11) (ev_lenL (ev_var rfl)) rfl) fun d e => ?_)
  subst e
  refine sv_seq (sv_par2M ?_)
  refine sv_seq (sv_forN (ei_list' (EvS.to' (y := .lst ((spots 11 11).map D.pl)) (EvL.ev' (el_map (f := fun d => match d with | .int k => D.pl (k % 11, k / 11) | d => d) (ei_rng1 (n := 121) (EvS.to' (ev_I (i := 11) (j := 11) (ev_var rfl) (ev_var rfl) (.inl (by decide))) rfl) (by decide)) (by rw [List.length_map, List.length_range]; decide) (by decide) fun d hd => ?_)) ?_)) (fun idx Γ => ∃ (F : List (Pt × Nat)) (M : Nat) (a4 a5 a6 a7 : C), Γ = [.d (rowsD ρ), .d (.int 11), .md (fnD F), .d (.int (M : Int)), a4, a5, a6, a7, .un, .un] ∧ Gs ρ F M ∧ ∀ p ∈ (spots 11 11).take idx, ∃ i, (p, i) ∈ F) ⟨[], 0, _, _, _, _, rfl, ⟨List.nodup_nil, fun _ h => (by cases h), fun _ h => (by cases h), fun _ h => (by cases h), fun _ h => (by cases h)⟩, fun _ h => (by cases h)⟩ (fun idx d Γ' hd hj => ?_) fun Γ' hj => ?_)
  · obtain ⟨k, hk, rfl⟩ := List.mem_map.mp hd
    exact ev_p2 (ev_I (ev_var rfl) (ev_var rfl) (by show (0 : Int) < 11; decide)) (ev_I (ev_var rfl) (ev_var rfl) ⟨by show (0 : Int) < 11; decide, by show (11 : Int) < 1073741824; decide⟩)
  · unfold spots
    rw [List.map_map, List.map_map]
    rfl
  · obtain ⟨F, M, a4, a5, a6, a7, rfl, hG, ht⟩ := hj
    have hq : ∃ s, d = D.pl s ∧ (spots 11 11)[idx]? = some s := by
      rw [List.getElem?_map] at hd
      cases h : (spots 11 11)[idx]? with
      | none => rw [h] at hd; cases hd
      | some q => rw [h] at hd; cases hd; exact ⟨q, rfl, rfl⟩
    obtain ⟨s, rfl, hs⟩ := hq
    have hin : InW s := (mem_spots (by decide) (by decide)).mp (List.mem_of_getElem? hs)
    have step : ∀ {F' : List (Pt × Nat)}, (∀ e ∈ F, e ∈ F') → (∃ i, (s, i) ∈ F') → ∀ p ∈ (spots 11 11).take (idx + 1), ∃ i, (p, i) ∈ F' := fun {F'} h1 h2 p hp => by
      rw [List.take_add_one, hs] at hp
      rcases List.mem_append.mp hp with e | e
      · obtain ⟨i, hi⟩ := ht p e
        exact ⟨i, h1 _ hi⟩
      · rw [List.mem_singleton.mp e]; exact h2
    refine sv_if (et_B (ev_dinNM (ev_var rfl) rfl)) (fun zz => ?_) fun zz => ?_
    · have hns : hasP (fnD F) s = false := by
        cases h : hasP (fnD F) s with
        | false => rfl
        | true => rw [h] at zz; cases zz
      refine sv_seq (sv_asgL (el_lst' (ed_cons' (ev_var rfl) ed_nil) (by show 1 ≤ 100000; decide)) fun l e => ?_)
      subst e
      have hG0 := hG.start hin (not_fn hns)
      refine sv_seq (sv_while (fun m Γ => ∃ (F1 : List (Pt × Nat)) (W : List Pt) (a6 a7 : C), m = 5 * (121 - F1.length) + W.length ∧ Γ = [.d (rowsD ρ), .d (.int 11), .md (fnD F1), .d (.int (M : Int)), .d (D.pl s), .ml (W.map D.pl), a6, a7, .un, .un] ∧ Gi ρ F1 M s W ∧ ∀ e ∈ F, e ∈ F1) _ ⟨F, [s], _, _, rfl, rfl, hG0, fun _ h => h⟩ fun m Γ' hw => ?_)
      clear hG0 hns hG zz
      obtain ⟨F1, W, a6, a7, rfl, rfl, hG, hsub⟩ := hw
      have hFl : F1.length ≤ 121 := by
        have := inw_len hG.nd fun p hp => by
          obtain ⟨e, he, rfl⟩ := List.mem_map.mp hp
          exact hG.inw e he
        rw [List.length_map] at this
        exact this
      refine ⟨_, et_test (ev_neM rfl), fun z2 => ?_, fun z2 => ?_⟩
      · have hW : W ≠ [] := fun e => by rw [e] at z2; cases z2
        obtain ⟨W0, h0, rfl⟩ : ∃ W0 p, W = W0 ++ [p] := ⟨W.dropLast, W.getLast hW, (List.dropLast_concat_getLast hW).symm⟩
        have hwl := hG.len
        rw [List.length_append, List.length_singleton] at hwl
        refine sv_seq (sv_asgX (ex_pop (d := D.pl h0) rfl (by rw [List.map_append]; exact List.getLast?_concat)) fun d e => ?_)
        subst e
        have eW : ((W0 ++ [h0]).map D.pl).dropLast = W0.map D.pl := by rw [List.map_append]; exact List.dropLast_concat
        show Sv g _ [.d (rowsD ρ), .d (.int 11), .md (fnD F1), .d (.int (M : Int)), .d (D.pl s), .ml ((W0 ++ [h0]).map D.pl).dropLast, .d (D.pl h0), a7, .un, .un] _
        rw [eW]
        refine sv_if (et_B (ev_dinNM (ev_var rfl) rfl)) (fun z3 => ?_) fun z3 => ?_
        · have hnh : hasP (fnD F1) h0 = false := by
            cases h : hasP (fnD F1) h0 with
            | false => rfl
            | true => rw [h] at z3; cases z3
          obtain ⟨hin0, _, _⟩ := hG.w h0 (List.mem_append_right _ (List.mem_singleton.mpr rfl))
          refine sv_seq (sv_dput rfl (by rw [List.length_map]; omega) (ev_var rfl) (ev_var rfl) fun d e => ?_)
          subst e
          show Sv g _ [.d (rowsD ρ), .d (.int 11), .md (putP (fnD F1) h0 (.int (M : Int))), .d (.int (M : Int)), .d (D.pl s), .ml (W0.map D.pl), .d (D.pl h0), a7, .un, .un] _
          rw [put_fn hnh]
          refine sv_seq (sv_asgD (el_filter (f := id) (t := wt1) (ei_list' (ev_callI h0 (ea_cons' (ev_var rfl) ea_nil) trivial)) (by show 4 ≤ 100000; decide) (by decide) (fun d hd => ?_) fun d hd _ => ev_var rfl) fun l e => ?_)
          · obtain ⟨q, _, rfl⟩ := List.mem_map.mp hd
            exact et_and (et_test (ev_cmp ev_int (ev_t0 (ev_var rfl)))) fun _ => et_and (et_test (ev_cmp (ev_t0 (ev_var rfl)) (ev_var rfl))) fun _ => et_test (ev_cmp ev_int (ev_t1 (ev_var rfl)))
          rw [List.map_id, List.filter_map] at e
          subst e
          have hl4 : ∀ t : Pt → Bool, ((near4 h0).filter t).length ≤ 4 := fun t => List.length_filter_le _ _
          refine sv_seq (sv_asgD (el_filter (f := id) (t := wt2 (F1 ++ [(h0, M)])) (ei_list' (ev_var rfl)) (by rw [List.length_map]; have := hl4 (wt1 ∘ D.pl); omega) (by decide) (fun d hd => ?_) fun d hd _ => ev_var rfl) fun l e => ?_)
          · obtain ⟨q, _, rfl⟩ := List.mem_map.mp hd
            exact et_and (et_test (ev_cmp (ev_t1 (ev_var rfl)) (ev_var rfl))) fun _ => et_B (ev_dinNM (ev_var rfl) rfl)
          rw [List.map_id, List.filter_map, List.filter_filter] at e
          subst e
          refine sv_catL rfl (el_filter (f := id) (t := wt3 ρ h0) (ei_list' (ev_var rfl)) (by rw [List.length_map]; exact Nat.le_trans (hl4 _) (by decide)) (by decide) (fun d hd => ?_) fun d hd _ => ev_var rfl) (fun l e => ?_) fun l e => ?_
          · obtain ⟨q, hq, rfl⟩ := List.mem_map.mp hd
            obtain ⟨hq1, hq2⟩ := List.mem_filter.mp hq
            have hinq : InW q := win_of hq2
            exact et_test (ev_eqS (ev_win (p := q) (ev_var rfl) (ev_t1 (ev_var rfl)) (ev_t0 (ev_var rfl)) hinq) (ev_win (p := h0) (ev_var rfl) (ev_t1 (ev_var rfl)) (ev_t0 (ev_var rfl)) hin0))
          · rw [e, List.map_id, List.filter_map, List.length_map, List.length_map]
            refine Nat.le_trans (Nat.add_le_add_left (Nat.le_trans (List.length_filter_le _ _) (hl4 _)) _) (by omega)
          · rw [List.map_id, List.filter_map, List.filter_filter] at e
            have e : l = (newsOf ρ (F1 ++ [(h0, M)]) h0).map D.pl := e
            have hnl : (newsOf ρ (F1 ++ [(h0, M)]) h0).length ≤ 4 := hl4 _
            have hnew := hG.new (not_fn hnh) (news_iff (ρ := ρ) (F := F1 ++ [(h0, M)]) hin0) hnl
            have hFl2 : (F1 ++ [(h0, M)]).length ≤ 121 := by
              have := inw_len hnew.nd fun p hp => by
                obtain ⟨e, he, rfl⟩ := List.mem_map.mp hp
                exact hnew.inw e he
              rw [List.length_map] at this
              exact this
            rw [List.length_append, List.length_singleton] at hFl2
            refine ⟨5 * (121 - (F1 ++ [(h0, M)]).length) + (W0 ++ newsOf ρ (F1 ++ [(h0, M)]) h0).length, ?_, F1 ++ [(h0, M)], W0 ++ newsOf ρ (F1 ++ [(h0, M)]) h0, .d (D.pl h0), .d (.lst (((near4 h0).filter fun a => (wt2 (F1 ++ [(h0, M)]) ∘ D.pl) a && (wt1 ∘ D.pl) a).map D.pl)), rfl, ?_, hnew, fun e he => List.mem_append_left _ (hsub e he)⟩
            · rw [List.length_append, List.length_append, List.length_append, List.length_singleton, List.length_singleton]
              omega
            · subst e
              rw [List.map_append (l₁ := W0)]
              rfl
        · have hh : hasP (fnD F1) h0 = true := by
            cases h : hasP (fnD F1) h0 with
            | true => rfl
            | false => rw [h] at z3; cases z3
          obtain ⟨i, hi⟩ := has_fn hh
          exact sv_next ⟨_, by rw [List.length_append, List.length_singleton]; omega, F1, W0, _, _, rfl, rfl, hG.skip hi, hsub⟩
      · have hW : W = [] := by
          cases W with
          | nil => rfl
          | cons a b => cases z2
        subst hW
        obtain ⟨hG2, hs2⟩ := hG.done
        refine sv_asg (ev_add (ev_var rfl) ev_int) fun d e => ⟨F1, M + 1, .d (D.pl s), .ml [], a6, a7, ?_, hG2, step hsub ⟨M, hs2⟩⟩
        rw [e]
        rfl
    · have hh : hasP (fnD F) s = true := by
        cases h : hasP (fnD F) s with
        | true => rfl
        | false => rw [h] at zz; cases zz
      exact sv_next ⟨F, M, _, _, _, _, rfl, hG, step (fun _ h => h) (has_fn hh)⟩
  · obtain ⟨F, M, a4, a5, a6, a7, rfl, hG, ht⟩ := hj
    rw [List.length_map, List.take_length] at ht
    exact sv_giveM (i := 2) rfl (sv_ret ((ev_var rfl).imp fun d e => ⟨F, M, e, hG, fun p hp => ht p ((mem_spots (by decide) (by decide)).mpr hp)⟩))
end
end K55
set_option maxHeartbeats 1000000
/-! sorted(a dict by places). -/
namespace K55
open PySem PySem.Spec PyProof.Rows L2
open Evl (Ex)
def pairAt (H : Hp) : V → Int × Int
  | .ref t => match H t with
    | some (.tup [.int i, .int j]) => (i, j)
    | _ => (0, 0)
  | _ => (0, 0)
def rSortedKP : List V → Hp → VK → Prop := fun xs H Q => ∃ (d : Addr) (kvs : List (List Key × V)) (ks : List Pt), xs = [V.ref d] ∧ Rd H d (.dT kvs) ∧ kvs.map (·.1) = ks.map keyP ∧
  ∀ (p : Addr) (bs : List Addr) (zs : List V), H p = none → IsKeys H kvs bs → zs.Perm (bs.map V.ref) → Q (.ref p) (upd H p (.lst zs))
theorem cr_sortedKP {X : Cx} (hc : X.calm = true) : CallR X (.builtin "sorted") rSortedKP := by
  intro pins s σ H xs us Q I r h
  obtain ⟨d, kvs, kp, rfl, hd, hks, q⟩ := h
  obtain ⟨u, rfl, rx⟩ := vals1 r
  cases rx
  obtain ⟨z, hs, ks, pr, o, es, ep, ho, hx, hdt, he, hn⟩ := (show ObjOk X.prog X.w H s.heap d (.dT kvs) from hd.ok I.hok)
  have l1 : es.size = ks.length := size_of_entries he
  have l2 : kvs.length = ks.length := Paired.length pr
  refine Calls.call_function_entry PyProof.Rows.kind_sorted PyProof.Rows.plain_sorted PyProof.Rows.entry_sorted (PyProof.Rows.args_sorted1 _) ?_
  unfold Builtin.«sorted»
  refine wpAny_bind (m := checkCount "sorted" 1 1 _) (wpAny_pure ?_)
  refine wpAny_bind (PySem.W.kdu_collect (A := X.A.in1) (kdl_raw hs hx hdt) (I.ok.hd hc) ho (by omega) fun h' tk acc hk it => ?_)
  have ea : acc.toList = ks.map fun x => Value.ref x.2.1 := by
    have hl : acc.toList.length = ks.length := by rw [Array.length_toList, it.1]; exact l1
    apply List.ext_getElem?
    intro j
    rw [List.getElem?_map]
    cases hj : acc.toList[j]? with
    | none =>
      have h1 := List.getElem?_eq_none_iff.mp hj
      rw [List.getElem?_eq_none (by omega)]
      all_goals rfl
    | some v =>
      obtain ⟨en, hen, hv⟩ := it.2 j v (by rw [← Array.getElem?_toList]; exact hj)
      have qe := entry_at he j
      rw [hen] at qe
      cases hb : ks[j]? with
      | none =>
        rw [hb] at qe
        exact nomatch (show some en = none from qe)
      | some b =>
        rw [hb] at qe
        have e2 : en = entryOfKey (tupleKind (mixKind X.prog X.w)) b := Option.some.inj qe
        rw [hv, e2]
        all_goals rfl
  have eb : acc.toList = (ks.map fun x => x.2.1).map Value.ref := by rw [ea, List.map_map]; all_goals rfl
  have rv : Vals ((ks.map fun x => x.2.1).map V.ref) acc.toList := by rw [eb]; exact vals_refs _
  have hz : ((ks.map fun x => x.2.1).map V.ref).length ≤ sizeLine := by rw [List.length_map, List.length_map]; omega
  have hal : acc.toList.length ≤ sizeLine := by rw [eb, List.length_map, List.length_map]; omega
  have I1 : Inv X pins σ H { s with heap := h', toks := tk } := I.kept hk
  refine wpAny_bind (wpAny_newList ?_ hal)
  have hoL : (h'.push (seqObj "list" acc.toList.toArray 0)).get? h'.objs.size = some (seqObj "list" acc.toList.toArray 0) := Heap.get?_push_size _ rfl
  show wpAny _ _ _ _ _ { s with heap := h'.push (seqObj "list" acc.toList.toArray 0), toks := tk }
  have ik := isKeys_of pr
  -- each key is a pair of ints
  have kpair : ∀ v ∈ acc.toList, ∃ t, v = Value.ref t ∧ ∃ i j : Int, H t = some (.tup [.int i, .int j]) := by
    have gen : ∀ {kvs : List (List Key × V)} {kp : List Pt} {bs : List Addr}, IsKeys H kvs bs → kvs.map (·.1) = kp.map keyP → ∀ b ∈ bs, ∃ i j : Int, H b = some (.tup [.int i, .int j]) := by
      intro kvs kp bs h
      induction h generalizing kp with
      | nil => intro _ b hb; cases hb
      | @cons p q ps qs hq t ih =>
        intro e b hb
        cases kp with
        | nil => cases e
        | cons k kp =>
          obtain ⟨e1, e2⟩ := List.cons.inj e
          rcases List.mem_cons.mp hb with rfl | hb
          · exact ⟨k.1, k.2, by rw [hq, show p.1 = keyP k from e1]; rfl⟩
          · exact ih e2 b hb
    intro v hv
    rw [eb] at hv
    obtain ⟨b, hb, rfl⟩ := List.mem_map.mp hv
    exact ⟨b, rfl, gen ik hks b hb⟩
  have e2 : ∀ v ∈ acc.toList, ∃ t, v = Value.ref t := fun v hv => by obtain ⟨t, e, _⟩ := kpair v hv; exact ⟨t, e⟩
  have hp : ∀ v ∈ acc.toList, Srt.IsPair (h'.push (seqObj "list" acc.toList.toArray 0)) v (pairAt H (backV v)).1 (pairAt H (backV v)).2 := fun v hv => by
    obtain ⟨t, rfl, i, j, ht⟩ := kpair v hv
    have ep : pairAt H (backV (Value.ref t)) = (i, j) := by
      show (match H t with
        | some (.tup [.int i, .int j]) => (i, j)
        | _ => (0, 0)) = (i, j)
      rw [ht]
    rw [ep]
    obtain ⟨_, its2, r2, o, ho, hc, n, hd⟩ := I1.hok _ _ ht
    obtain ⟨u1, u2, rfl, ri, rj⟩ := vals2 r2
    obtain ⟨t1, rfl⟩ := ri
    obtain ⟨t2, rfl⟩ := rj
    exact ⟨t, o, t1, t2, n, rfl, Heap.get?_push_of_some _ ho, hc, hd⟩
  refine wpAny_bind (wpAny_holding (wpAny_call_entry PyProof.Rows.slot_list_sort ⟨_, hoL, rfl⟩ PyProof.Rows.entry_list_sort
    (SrtO.list_sort_ord (s := { s with heap := h'.push (seqObj "list" acc.toList.toArray 0), toks := tk }) (SrtO.swo_lex fun u => pairAt H (backV u)) hoL hal (fun h2 => SrtO.pairs_sortableO (by omega) hp fun o e => ?_) fun out h1 h2 => ⟨_, rfl, ?_⟩)
    (PyProof.Rows.args_list_sort _)))
  · have e' : some o = some (seqObj "list" acc.toList.toArray 0) := e.symm.trans hoL
    cases e'
    intro c
    exact absurd (Value.type.inj c) (by decide)
  · have h3 : ∀ u ∈ out, ∃ a, u = Value.ref a := fun u hu => e2 u (h2.perm.mem_iff.mp hu)
    obtain ⟨e', he'⟩ := PyProof.Rows.sortedHeap_at (vs := acc.toList) (out := out.toArray) hoL
    have pm : (out.map backV).Perm ((ks.map fun x => x.2.1).map V.ref) := by
      have := h2.perm.map backV
      rw [eb, List.map_map] at this
      exact this
    have hlen : (out.map backV).length ≤ sizeLine := by
      rw [pm.length_eq]
      exact hz
    refine wpAny_pure ⟨_, rfl, .ref h'.objs.size, upd H h'.objs.size (.lst (out.map backV)), I1.laid (t' := tk) (fun b u e => ?_) (Nat.le_refl _)
      (show ObjOk X.prog X.w _ _ _ (.lst (out.map backV)) from ⟨hlen, out, e', vals_back h3, he'⟩), rfl, q _ _ _ (I1.hok.fresh (Nat.le_refl _)) ik pm⟩
    have hb : b < h'.objs.size := Heap.lt_size e
    rw [PyProof.Rows.sortedHeap_old (Nat.ne_of_lt hb) (by rw [size_push']; exact Nat.lt_succ_of_lt hb)]
    exact Heap.get?_push_of_some _ e
end K55
set_option maxHeartbeats 1000000
/-! sorted(a dict by places), as data. -/
namespace K55
open PySem PySem.Spec PyProof.Rows L2
open Evl (Ex)
theorem rs_of {g : Gl} {H : Hp} {f : V → D} : ∀ {zs : List V}, (∀ z ∈ zs, R g H z (f z)) → Rs g H zs (zs.map f)
  | [], _ => .nil
  | z :: zs, h => .cons (h z List.mem_cons_self) (rs_of fun y hy => h y (List.mem_cons_of_mem _ hy))
theorem keys_at2 {H : Hp} : ∀ {kvs : List (List Key × V)} {kp : List Pt} {bs : List Addr}, IsKeys H kvs bs → kvs.map (·.1) = kp.map keyP → (∀ b ∈ bs, ∃ p : Pt, H b = some (.tup [.int p.1, .int p.2])) ∧ (bs.map V.ref).map (pairAt H) = kp := by
  intro kvs kp bs h
  induction h generalizing kp with
  | nil =>
    intro e
    cases kp with
    | nil => exact ⟨fun _ hb => (by cases hb), rfl⟩
    | cons _ _ => cases e
  | @cons p q ps qs hq t ih =>
    intro e
    cases kp with
    | nil => cases e
    | cons k kp =>
      obtain ⟨e1, e2⟩ := List.cons.inj e
      obtain ⟨h1, h2⟩ := ih e2
      have hb : H q = some (.tup [.int k.1, .int k.2]) := by rw [hq, show p.1 = keyP k from e1]; rfl
      refine ⟨fun b hb2 => ?_, ?_⟩
      · rcases List.mem_cons.mp hb2 with rfl | hb2
        · exact ⟨k, hb⟩
        · exact h1 b hb2
      · show pairAt H (.ref q) :: (qs.map V.ref).map (pairAt H) = k :: kp
        rw [h2]
        have : pairAt H (.ref q) = k := by
          show (match H q with
            | some (.tup [.int i, .int j]) => (i, j)
            | _ => (0, 0)) = k
          rw [hb]
        rw [this]
section
variable {g : Gl} {Γ : List C} {te : TE}
theorem el_sortedD {kvs : Kvs} (h : EvS g te Γ (· = .dct kvs)) : EvL g (tCB rSortedKP (tCons te tNil)) Γ (fun l => ∃ ps : List Pt, l = ps.map D.pl ∧ ps.Perm (kvs.map (·.1))) := fun F m σ H e s Q q => h F m σ H e s _ fun v H1 d k1 a r => by
  subst a
  cases r with
  | @dct a ws _ hd hk hv =>
    have s1 := s.keep k1
    refine ⟨a, ws, kvs.map (·.1), rfl, (hid_rd hd).2, by rw [hk, List.map_map]; rfl, fun p bs zs hp ik pm => ?_⟩
    obtain ⟨h1, h2⟩ := keys_at2 ik (kp := kvs.map (·.1)) (by rw [hk, List.map_map]; rfl)
    have hp0 : H p = none := Kp.back s k1 hp
    refine q p _ zs ((zs.map (pairAt H1)).map D.pl) (k1.trans (kp_new hp)) hp0 upd_same ⟨zs.map (pairAt H1), rfl, ?_⟩ ?_
    · have := pm.map (pairAt H1)
      rw [h2] at this
      exact this
    · rw [List.map_map]
      refine rs_of fun z hz => ?_
      obtain ⟨b, hb, rfl⟩ := List.mem_map.mp (pm.mem_iff.mp hz)
      obtain ⟨k, hk2⟩ := h1 b hb
      have e1 : pairAt H1 (.ref b) = k := by
        show (match H1 b with
          | some (.tup [.int i, .int j]) => (i, j)
          | _ => (0, 0)) = k
        rw [hk2]
      show R g _ (.ref b) (D.pl (pairAt H1 (.ref b)))
      rw [e1]
      have nb : b ∉ m := fun z => (s1.occ b z).2 _ hk2
      have np : b ≠ p := fun z => by rw [z, hp] at hk2; cases hk2
      refine .tup (xs := [.int k.1, .int k.2]) ?_ (.cons (.int _) (.cons (.int _) .nil))
      rw [hid_out (fun z => (List.mem_cons.mp z).elim np nb), upd_ne np]
      exact hk2
end
end K55
/-! set(a list of ints), sorted. -/
namespace K55
open PySem PySem.Spec PyProof.Rows L2
open Evl (Ex)
/-- a set just made -/
abbrev eS (w : World) : Obj := { cls := .type "set", dict := none, data := .set #[] 0 (.fresh 0 0 (!w.params.followText "set-order")) }
section
variable {P : Program} {w : World} {A : Around} {E : Value → Shared → Prop} {s : Shared}
set_option maxHeartbeats 3200000 in
theorem set_list {l : Addr} {us : Array Value} (ns : List Int) {Q : Value → Shared → Prop} (hh : A.handled = none) (hl : s.heap.IsList l us) (hit : IntsAre us.toList ns) (hb : ns.length + 1 < scanBound)
    (h : ∀ (h' : Heap) (tk c : Nat), SetR w h' s.heap.objs.size (fun j => decide (j ∈ ns)) c → c ≤ ns.length → (∀ b o, s.heap.get? b = some o → h'.get? b = some o) → Q (.ref s.heap.objs.size) { s with heap := h', toks := tk }) : wpAny (model P w) A (call (.type "set") [.ref l]) Q E s := by
  have hz : us.size = ns.length := by have q := IntsAre.length hit; rw [Array.length_toList] at q; exact q
  obtain ⟨c, tl, hmro⟩ := F.called_set.mro; have q1 := F.called_set.made; have q2 := F.called_set.sub
  refine wpAny_call (codeAny_of_tree ?_)
  show wpAny (model P w) _ (callAny (.type "set") _) _ _ s
  refine wpAny_pure ⟨Code.quiet_builtin _ (by decide +kernel), codeAny_builtin F.entry_type_call ?_⟩; rw [Around.under_plain (weight_type_call_type "set" [.ref l] []) rfl]
  have q3 := F.called_set.notType; have q4 := F.called_set.canCreate; have q5 := F.typeCall_set_1 (.ref l)
  repeat (any_goals (first | assumption | wp_step))
  refine codeAny_mono (code_set_led1 (.ref l) (E := E) (Q₁ := fun ob t => ob = .ref s.heap.objs.size ∧ t = { s with heap := s.heap.push (eS w) }) ⟨rfl, rfl⟩) fun r t hr => ?_
  cases r with
  | error e => exact hr
  | ok fl =>
    cases fl with
    | next => exact hr.elim
    | brk => exact hr.elim
    | cont => exact hr.elim
    | ret ob =>
      obtain ⟨rfl, rfl⟩ := hr
      have hS : (s.heap.push (eS w)).get? s.heap.objs.size = some (eS w) := Heap.get?_push_size _ rfl
      have hT : Shared.TypeIs { s with heap := s.heap.push (eS w) } (.ref s.heap.objs.size) "set" := ⟨_, hS, rfl⟩
      have q6 := F.called_set.init.lookup; have q7 := F.called_set.init.bind (.ref s.heap.objs.size)
      repeat (any_goals (first | assumption | wp_step))
      refine codeAny_mono (codeAny_call_builtin (R := wants (fun r t => r = .none ∧ ∃ h' tk c, t = { s with heap := h', toks := tk } ∧ SetR w h' s.heap.objs.size (fun j => decide (j ∈ ns)) c ∧ c ≤ ns.length ∧ (∀ b o, s.heap.get? b = some o → h'.get? b = some o)) E) F.called_set.init.plain F.entry_set_init (check_set_init_1 hT ?_)) fun r t hr => ?_
      · obtain ⟨ol, hol, hcl, nl, hdl⟩ := hl
        obtain ⟨oc, od, oda, osl⟩ := ol
        simp only at hcl hdl
        subst hcl; subst hdl
        have hol' : (s.heap.push (eS w)).get? l = some { cls := .type "list", dict := od, data := .seq us nl, slots := osl } := Heap.get?_push_of_some _ hol
        have q8 := F.sub_list_set; have q9 := F.sub_list_frozenset
        have hne : (Value.type "list" == Value.type "dict") = false := by decide
        have hl1 : (s.heap.push (eS w)).IsList l us := ⟨_, hol', rfl, nl, rfl⟩
        unfold Builtin.«set.__init__» noKeywords Builtin.Frozenset.updateFrom
        generalize hPI : pyIter = PI
        wp_walk
        subst hPI
        refine wpAny_pyIter_list hl1 (wpAny_bind (wpAny_runValue ?_))
        have lt1 : l < s.heap.objs.size := Heap.lt_size hol
        have sz1 : (s.heap.push (eS w)).objs.size = s.heap.objs.size + 1 := Heap.size_push ..
        have nI : l ≠ (s.heap.push (eS w)).objs.size := by rw [sz1]; exact Nat.ne_of_lt (Nat.lt_succ_of_lt lt1)
        have nS : s.heap.objs.size ∉ [(s.heap.push (eS w)).objs.size, l] := fun z => by
          rcases List.mem_cons.mp z with e | e
          · rw [sz1] at e; exact absurd e (Nat.ne_of_lt (Nat.lt_succ_self _))
          · exact absurd (List.mem_singleton.mp e) (Nat.ne_of_gt lt1)
        have val : ∀ (i : Nat) (v : Value), us[i]? = some v → ∃ k t, ns[i]? = some k ∧ v = .int k t := fun i v hv => by
          have hi : i < ns.length := by rw [← hz]; exact (Array.getElem?_eq_some_iff.mp hv).1
          obtain ⟨t, e⟩ := PyProof.Rows.IntsAre.int_at hit i v (by rw [Array.getElem?_toList]; exact hv)
          exact ⟨ns[i], t, List.getElem?_eq_getElem hi, by rw [e, List.getD_eq_getElem?_getD, List.getElem?_eq_getElem hi] <;> rfl⟩
        refine set_update_ints ((Walks.list (by simp [hh]) _ l nI us).toS) s.heap.objs.size nS ns hz hb val (us.size - 0) 0 _ (by omega) (Nat.zero_le _) ⟨⟨_, Heap.get?_push_size _ rfl, rfl, rfl⟩, hl1.at fun o e => Heap.get?_push_of_some _ e⟩ ⟨0, Nat.le_refl 0, setR_new_at (Heap.get?_push_of_some _ hS)⟩ fun t c hm hc hS' => ?_
        obtain ⟨h', g2, d', tk, os'⟩ := t
        obtain rfl : g2 = s.gens := hm.gens
        obtain rfl : d' = s.drawn := hm.drawn
        obtain rfl : os' = s.os := hm.os
        show wpAny (model P w) _ (pure ()) _ _ _
        refine wpAny_pure ?_
        show wpAny (model P w) _ (ret Value.none) _ _ _
        refine wpAny_pure (⟨rfl, h', tk, c, rfl, hS', by rw [hz] at hc; exact hc, fun b o e => hm.heap b o (fun z => ?_) (Heap.get?_push_of_some _ (Heap.get?_push_of_some _ e))⟩)
        have b0 := Heap.lt_size e
        rcases List.mem_cons.mp z with z | z
        · exact absurd z (Nat.ne_of_lt b0)
        · have z := List.mem_singleton.mp z
          rw [sz1] at z
          exact absurd z (Nat.ne_of_lt (Nat.lt_succ_of_lt b0))
      · cases r with
        | error e => exact hr
        | ok fl =>
          cases fl with
          | next => exact hr.elim
          | brk => exact hr.elim
          | cont => exact hr.elim
          | ret r =>
            obtain ⟨rfl, h', tk, c', rfl, hS', hc', hk'⟩ := hr
            repeat (any_goals (first | assumption | wp_step))
            exact h _ _ _ hS' hc' hk'
end
end K55
set_option maxHeartbeats 1000000
/-! sorted(set(a list of ints)). -/
namespace K55
open PySem PySem.Spec PyProof.Rows L2
open Evl (Ex)
section
variable {P : Program} {w : World} {A : Around} {E : Value → Shared → Prop} {s : Shared} {a : Addr}
theorem sorted_setN {S : Int → Bool} {n : Nat} {Q : Value → Shared → Prop} (R : SetR w s.heap a S n) (hh : A.handled = none)
    (hQ : ∀ s' p (out : List Value) (c : Nat) (ns : List Int), (∀ b o, s.heap.get? b = some o → s'.heap.get? b = some o) → s'.gens = s.gens → s'.os = s.os → s.heap.objs.size ≤ p →
      s'.heap.get? p = some (seqObj "list" out.toArray c) → IntsAre out ns → ns.Pairwise (· < ·) → (∀ k, k ∈ ns ↔ S k = true) → ns.length < scanBound → Q (.ref p) s') : wpAny (model P w) A (call (.builtin "sorted") [.ref a]) Q E s := by
  obtain ⟨o, es, ep, t, ho, hex, hd, g, nd, hm, hb, hf, hn, hr, hl⟩ := R
  refine Calls.call_function_entry kind_sorted plain_sorted entry_sorted (args_sorted1 _) ?_
  unfold Builtin.«sorted»
  refine wpAny_bind (m := checkCount "sorted" 1 1 _) (wpAny_pure (wpAny_bind (collect_set (A := A.in1) hh ⟨o, ho, hex.1, hd⟩ hf hb hr hl fun s1 vs k1 hz g1 o1 pm => ?_)))
  have vl : vs.length = es.size := by rw [pm.length_eq, List.length_map, Array.length_toList]
  have hI : IntsAre vs (vs.map Builtin.Re.reRawOf) := ints_of vs fun v hv => by
    obtain ⟨e, he, rfl⟩ := List.mem_map.mp (pm.mem_iff.mp hv)
    obtain ⟨k, tk, z, _⟩ := g e he
    exact ⟨k, tk, z⟩
  have pk : (vs.map Builtin.Re.reRawOf).Perm (es.toList.map keyOf) := by have q := pm.map Builtin.Re.reRawOf; rw [List.map_map] at q; exact q
  have vz : vs.length ≤ sizeLine := by rw [vl, sizeLine_eq]; unfold scanBound at hb; omega
  refine wpAny_bind (wpAny_newList ?_ vz)
  have hoL : (s1.heap.push (seqObj "list" vs.toArray 0)).get? s1.heap.objs.size = some (seqObj "list" vs.toArray 0) := Heap.get?_push_size _ rfl
  refine wpAny_bind (wpAny_holding (wpAny_call_entry slot_list_sort ⟨_, hoL, rfl⟩ entry_list_sort (SrtO.list_sort_ord SrtO.swo_int hoL vz (fun h2 => SrtO.ints_sortable hI h2) fun out h1 h2 => ⟨_, rfl, ?_⟩) (args_list_sort _)))
  obtain ⟨a1, a2, a3⟩ := SrtO.ints_out hI h1 h2
  obtain ⟨c, hc⟩ := sortedHeap_at (vs := vs) (out := out.toArray) hoL
  have pn := a2.trans pk
  refine wpAny_pure ⟨_, rfl, hQ _ s1.heap.objs.size out c _ (fun b u e => ?_) g1 o1 hz hc a1 (lt_of_le_nodup _ a3 (pn.nodup_iff.mpr nd)) (fun k => by rw [pn.mem_iff, ← hm k]) (by rw [pn.length_eq, List.length_map, Array.length_toList]; exact hb)⟩
  have q := k1 b u e
  have lt := Heap.lt_size q
  show (sortedHeap (s1.heap.push (seqObj "list" vs.toArray 0)) s1.heap.objs.size vs out.toArray).get? b = some u
  rw [sortedHeap_old (Nat.ne_of_lt lt) (by rw [size_push']; exact Nat.lt_succ_of_lt lt)]
  exact Heap.get?_push_of_some _ q
end
end K55
set_option maxHeartbeats 1000000
/-! sorted(set(a list of ints)): rules. -/
namespace K55
open PySem PySem.Spec PyProof.Rows L2
open Evl (Ex)
def rSetL (K : PySem.W.Frag) (w : World) : List V → Hp → VK → Prop := fun xs H Q => ∃ (l : Addr) (ns : List Int), xs = [.ref l] ∧ SqL K H l (ns.map V.int) ∧ ns.length + 1 < scanBound ∧ ∀ p n, H p = none → Q (.ref p) (upd H p (SetO w p (fun j => decide (j ∈ ns)) n))
def rSortedN (w : World) : List V → Hp → VK → Prop := fun vs H Q => ∃ (a : Addr) (S : Int → Bool) (n : Nat), vs = [V.ref a] ∧ H a = some (SetO w a S n) ∧ ∀ (ns : List Int) (p : Addr), ns.Pairwise (· < ·) → (∀ k : Int, k ∈ ns ↔ S k = true) → H p = none → Q (.ref p) (upd H p (.lst (ns.map V.int)))
section
variable {X : Cx}
theorem cr_setL (hc : X.calm = true) : CallR X (.type "set") (rSetL X.K X.w) := by
  intro pins s σ H xs us Q I r h
  obtain ⟨l, ns, rfl, hs, hb, q⟩ := h
  obtain ⟨its, rv, hl, _⟩ := I.list hs
  rw [Vals.ref1 r]
  refine set_list ns (I.ok.hd hc) hl.isList (by simpa using rv.ints) hb fun h' tk c R _ k => ?_
  exact ⟨.ref _, _, I.laid (t' := tk) (o := SetO X.w s.heap.objs.size (fun j => decide (j ∈ ns)) c) k (Nat.le_refl _) (setO_new R), rfl, q _ _ (I.hok.fresh (Nat.le_refl _))⟩
theorem cr_sortedN (hc : X.calm = true) : CallR X (.builtin "sorted") (rSortedN X.w) := by
  intro pins s σ H vs us Q I r h
  obtain ⟨a, S, n, rfl, ha, q⟩ := h
  rw [Vals.ref1 r]
  refine sorted_setN (setO_get I ha) (I.ok.hd hc) fun s' p out c ns k g o hp hg hi hs hm hl => ?_
  have hlen : (ns.map V.int).length ≤ sizeLine := by rw [List.length_map, sizeLine_eq]; unfold scanBound at hl; omega
  have hn := I.hok.fresh hp
  obtain ⟨h1, g1, d1, t1, o1⟩ := s'
  obtain rfl : g1 = s.gens := g
  obtain rfl : o1 = s.os := o
  exact ⟨.ref p, upd H p (.lst (ns.map V.int)), I.call (ch := []) (Un.laid k hp hn) (I.hok.laid k hp ⟨hlen, out, c, vals_of_ints hi, hg⟩) I.bare (fun _ z => nomatch z), rfl, q ns p hs hm hn⟩
end
end K55
set_option maxHeartbeats 1000000
/-! sorted(set(a list of ints)), as data. -/
namespace K55
open PySem PySem.Spec PyProof.Rows L2
open Evl (Ex)
theorem rs_ints {g : Gl} {H : Hp} : ∀ ns : List Int, Rs g H (ns.map V.int) (ns.map D.int)
  | [] => .nil
  | n :: ns => .cons (.int n) (rs_ints ns)
theorem el_sortedSet {g : Gl} {Γ : List C} {te : TE} {w : World} {Pn : List Int → Prop} (h : EvS g te Γ (fun d => ∃ ns : List Int, d = .lst (ns.map D.int) ∧ ns.length ≤ 4000 ∧ Pn ns)) :
    EvL g (tCB (rSortedN w) (tCons (tCB (rSetL g.K w) (tCons te tNil)) tNil)) Γ (fun l => ∃ ns ns' : List Int, Pn ns ∧ l = ns'.map D.int ∧ ns'.Pairwise (· < ·) ∧ ∀ k, k ∈ ns' ↔ k ∈ ns) := fun F m σ H e s Q q => h F m σ H e s _ fun v H1 d k1 a r => by
  obtain ⟨ns, rfl, hz, hP⟩ := a
  cases r with
  | @lst l xs _ h1 h2 =>
    obtain rfl := int_rs h2
    refine ⟨l, ns, rfl, SqL.of (hid_some h1).2, by unfold scanBound; omega, fun p n hp => ⟨p, _, n, rfl, upd_same, fun ns' p2 hpw hm hp2 => ?_⟩⟩
    have k2 : Kp F.t H (upd H1 p (SetO w p (fun j => decide (j ∈ ns)) n)) := k1.trans (kp_new hp)
    exact q p2 _ (ns'.map V.int) (ns'.map D.int) (k2.trans (kp_new hp2)) (Kp.back s k2 hp2) upd_same ⟨ns, ns', hP, rfl, hpw, fun k => by rw [hm k, decide_eq_true_eq]⟩ (rs_ints ns')
end K55
set_option maxHeartbeats 1000000
/-! The tape. -/
namespace K55
open PySem PySem.Spec PyProof.Rows L2
open Evl (Ex)
theorem none_new {H : Hp} {p : Addr} {u : HO} {l : Addr} (hp : H p = none) (h : upd H p u l = none) : H l = none := by
  cases e : H l with
  | none => rfl
  | some o => rw [Ex.new (o := u) hp l o e] at h; cases h
section
variable {P : Program} {w : World} {K : PySem.W.Frag} {mg : Str → Option Value} {base : Heap}
/-- a new tape -/
def sp__law_tape (K : PySem.W.Frag) : Sp := fun vs H Q _ => ∃ (a : Addr) (ns : List Int), vs = [.ref a] ∧ SqL K H a (ns.map V.int) ∧ ∀ H' t l (ks : List Int), Ex H H' → t ≠ l → H t = none → H l = none → H' l = some (.lst (ks.map V.int)) → ks.length ≤ 63 → H' t = some (.lst [.ref l, .int 0, .int 0, .int 17]) → Q (.ref t) H'
theorem cal__law_tape (T : Blt mg) (h : Dfd K mg "_law_tape" (topS 51)) : C8.Cal P w K mg base 1 "_law_tape" (sp__law_tape K) [] := by
  obtain ⟨f, fd, F, df⟩ := h
  refine C8.cal0 (N := ["_law_script"]) (ps := ["_law_script"]) F (F.fn.binds df (fun _ _ _ _ _ _ us hl => match us, hl with | [_], _ => rfl)) .nil (C8.fnScope_by (by decide +kernel)) (fun vs H Q E ⟨a, ns, e, _⟩ => by rw [e]; rfl) fun cdv A outer s H vs Q E hr hsp => ?_
  refine ⟨_, (pss_one (ps_ret (pe_lst (pa_cons (pe_callTy call_list_of (by rfl) T.list (by decide +kernel) (pa_cons (pe_slice (slLK (K := K) rfl) (pv 0) po_none (po_some pe_int)) pa_nil)) (pa_cons pe_int (pa_cons pe_int (pa_cons pe_int pa_nil))))))), ?_⟩
  obtain ⟨a, ns, rfl, ha, q⟩ := hsp
  refine ⟨_, rfl, 63, rfl, a, _, rfl, ha, fun p1 hp1 => ⟨p1, _, rfl, .inl (SqL.of upd_same), fun l hl => ⟨by show 4 ≤ sizeLine; rw [sizeLine_eq]; decide, fun t ht => ?_⟩⟩⟩
  have hl0 := none_new hp1 hl
  have ht0 := none_new hp1 (none_new hl ht)
  have tl : t ≠ l := fun z => by rw [z, upd_same] at ht; cases ht
  refine q _ t l ((ns.drop (HT.sIx ns.length 0 none)).take (HT.sIx ns.length ns.length (some 63) - HT.sIx ns.length 0 none)) ((Ex.new hp1).trans ((Ex.new hl).trans (Ex.new ht))) tl ht0 hl0 ?_ ?_ upd_same
  · rw [upd_ne tl.symm, upd_same]
    unfold cutV
    rw [List.length_map, ← List.map_drop, ← List.map_take]
  · rw [List.length_take]
    have : HT.sIx ns.length ns.length (some 63) ≤ 63 := by rw [show (63 : Int) = ((63 : Nat) : Int) from rfl, HT.sIx_nat]; omega
    omega
end
end K55
set_option maxHeartbeats 1000000
/-! The window within the plane. -/
namespace K55
section
variable {χ : Pt → Nat} {o p q r : Pt}
theorem add_comm' : pAdd o p = pAdd p o := Prod.ext (Int.add_comm _ _) (Int.add_comm _ _)
/-- the plane's colours, seen from o -/
abbrev seenAt (χ : Pt → Nat) (o : Pt) : Pt → Nat := fun p => χ (pAdd o p)
theorem win_up (hp : InW p) (h : Cn (wc (seenAt χ o)) p q) : Cn χ (pAdd o p) (pAdd o q) := by
  induction h with
  | refl => exact .refl
  | @step q r h a e ih =>
    have ha := around_add (t := o) a
    rw [← add_comm' (o := o) (p := q), ← add_comm' (o := o) (p := r)] at ha
    exact ih.step ha (wc_in hp e).2
theorem win_down (hp : InW p) (hr : ∀ q, Cn (wc (seenAt χ o)) p q → 1 ≤ q.1 ∧ q.1 ≤ 9 ∧ 1 ≤ q.2 ∧ q.2 ≤ 9) (h : Cn χ (pAdd o p) r) : ∃ q, r = pAdd o q ∧ Cn (wc (seenAt χ o)) p q := by
  induction h with
  | refl => exact ⟨p, rfl, .refl⟩
  | @step s t h a e ih =>
    obtain ⟨q, rfl, hq⟩ := ih
    obtain ⟨b1, b2, b3, b4⟩ := hr q hq
    have et : t = pAdd o (pSub t o) := Prod.ext (by show t.1 = o.1 + (t.1 - o.1); omega) (by show t.2 = o.2 + (t.2 - o.2); omega)
    have ha := around_add (t := pNeg o) a
    have e1 : pAdd t (pNeg o) = pSub t o := Prod.ext (by show t.1 + -o.1 = t.1 - o.1; omega) (by show t.2 + -o.2 = t.2 - o.2; omega)
    have e2 : pAdd (pAdd o q) (pNeg o) = q := Prod.ext (by show o.1 + q.1 + -o.1 = q.1; omega) (by show o.2 + q.2 + -o.2 = q.2; omega)
    rw [e1, e2] at ha
    have nr := around_near ha
    have hin : InW (pSub t o) := ⟨by omega, by omega, by omega, by omega⟩
    refine ⟨pSub t o, et, hq.step ha ((wc_eq hp hin).mpr ?_)⟩
    show χ (pAdd o (pSub t o)) = χ (pAdd o p)
    rw [← et]
    exact e
theorem win_box (hp : InW p) (hr : ∀ q, Cn (wc (seenAt χ o)) p q → 1 ≤ q.1 ∧ q.1 ≤ 9 ∧ 1 ≤ q.2 ∧ q.2 ≤ 9) : Bx χ (pAdd o p) := ⟨o.1, o.2, fun r h => by
  obtain ⟨q, rfl, hq⟩ := win_down hp hr h
  have := hr q hq
  unfold pAdd
  dsimp only
  omega⟩
end
end K55
set_option maxHeartbeats 1000000
/-! What the window's groups tell of the parts. -/
namespace K55
section
variable {n : Nt} {χ : Pt → Nat} {o p q st v : Pt} {F : List (Pt × Nat)} {M i j : Nat} {P : PD}
/-- a group that does not meet the window's rim -/
def Inn (F : List (Pt × Nat)) (i : Nat) : Prop := ∀ p, (p, i) ∈ F → rim p = false
theorem not_rim (hp : InW p) (h : rim p = false) : 1 ≤ p.1 ∧ p.1 ≤ 9 ∧ 1 ≤ p.2 ∧ p.2 ≤ 9 := by
  obtain ⟨h1, h2, h3, h4⟩ := hp
  unfold rim at h
  simp only [Bool.or_eq_false_iff, decide_eq_false_iff_not, List.mem_cons, List.not_mem_nil, or_false, not_or] at h
  omega
theorem Inn.box (hG : Gs (seenAt χ o) F M) (hi : Inn F i) (hp : (p, i) ∈ F) : ∀ q, Cn (wc (seenAt χ o)) p q → 1 ≤ q.1 ∧ q.1 ≤ 9 ∧ 1 ≤ q.2 ∧ q.2 ≤ 9 := fun q hq => by
  have h := hG.walk hp hq
  exact not_rim (hG.inw _ h) (hi q h)
theorem grp_size (hχ : Per n χ) (hc : 1 ≤ n.c) (hG : Gs (seenAt χ o) F M) (hi : Inn F i) (hp : (p, i) ∈ F) (hP : PartOk n χ st P) (hv : (lw n (pAdd o p), v) ∈ P.known) {ls : List Pt} (hn : ls.Nodup) (hl : ∀ q, q ∈ ls ↔ (q, i) ∈ F) : P.basis = [] ∧ P.places = ls.length := by
  have hin := hG.inw _ hp
  have hb := hi.box hG hp
  have := hP.size hχ hc hv (win_box hin hb) (ls := ls.map (pAdd o)) (nodup_map_of (f := pAdd o) (g := id) (by rw [List.map_id]; exact hn) fun a _ b _ e => by
    obtain ⟨e1, e2⟩ := Prod.mk.inj e
    exact Prod.ext (by show a.1 = b.1; omega) (by show a.2 = b.2; omega)) fun r => ?_
  · rw [List.length_map] at this
    exact this
  · constructor
    · intro h
      obtain ⟨q, hq, rfl⟩ := List.mem_map.mp h
      exact win_up hin ((hG.same hp ((hl q).mp hq)).mp rfl)
    · intro h
      obtain ⟨q, rfl, hq⟩ := win_down hin hb h
      exact List.mem_map.mpr ⟨q, (hl q).mpr (hG.walk hp hq), rfl⟩
theorem grp_join (hχ : Per n χ) (hc : 1 ≤ n.c) (hG : Gs (seenAt χ o) F M) (hp : (p, i) ∈ F) (hq : (q, j) ∈ F) (hP : PartOk n χ st P) (hv : (lw n (pAdd o p), v) ∈ P.known) (hcase : i = j ∨ Inn F i ∨ Inn F j) {r : D}
    (hr : ((∀ w, (lw n (pAdd o q), w) ∉ P.known) ∧ r = .bl false) ∨ ∃ w, (lw n (pAdd o q), w) ∈ P.known ∧ r = .bl (carB P.basis (pSub (pSub (pAdd o q) w) (pSub (pAdd o p) v)))) : r = .bl (decide (i = j)) := by
  have hinp := hG.inw _ hp
  have hinq := hG.inw _ hq
  by_cases e : i = j
  · have hcn := win_up hinp ((hG.same hp hq).mp e)
    obtain ⟨w, hw, hcar⟩ := hP.join hχ hc hv hcn
    rw [decide_eq_true e]
    rcases hr with ⟨h1, _⟩ | ⟨w', h1, h2⟩
    · exact absurd hw (h1 w)
    · rw [h2, hP.uniq h1 hw, hcar]
  · rw [decide_eq_false e]
    have hcase := hcase.resolve_left e
    have hne : ¬ Cn χ (pAdd o p) (pAdd o q) := fun h => by
      have inj : ∀ {a b : Pt}, pAdd o a = pAdd o b → a = b := fun {a b} e => by
        obtain ⟨e1, e2⟩ := Prod.mk.inj e
        exact Prod.ext (by omega) (by omega)
      rcases hcase with hI | hI
      · obtain ⟨q', e1, h2⟩ := win_down hinp (hI.box hG hp) h
        rw [← inj e1] at h2
        exact e ((hG.same hp hq).mpr h2)
      · obtain ⟨q', e1, h2⟩ := win_down hinq (hI.box hG hq) h.symm
        rw [← inj e1] at h2
        exact e ((hG.same hq hp).mpr h2).symm
    have hbx : Bx χ (pAdd o p) ∨ Bx χ (pAdd o q) := by
      rcases hcase with hI | hI
      · exact .inl (win_box hinp (hI.box hG hp))
      · exact .inr (win_box hinq (hI.box hG hq))
    rcases hr with ⟨_, h2⟩ | ⟨w, h1, h2⟩
    · exact h2
    · rw [h2, hP.part hχ hc hv h1 hne hbx]
end
end K55
set_option maxHeartbeats 2000000
/-! The window beside the parts. -/
namespace K55
open PySem PySem.Spec PyProof.Rows L2
open Evl (Ex)
section
variable {g : Gl} {Γ : List C} {ta : TE} {A Pd : D → Prop} {ι : Type} {k : Nat} {arg : ι → List C} {Pre : ι → Prop} {Post : ι → D → Prop}
theorem ev_propA {Cl : Addr} (ho : EvS g ta Γ A) (h : ∀ x, A x → ∃ i, [.d x] = arg i ∧ (arg i).length = k ∧ Pre i ∧ (∀ (m : List Addr) (H : Hp) (v : V), R g (hid m H) v x → ∃ a dx fs, v = .ref a ∧ H a = some (.ins Cl dx fs)) ∧ ∀ d, Post i d → Pd d) : EvS g (tProp Cl (pr g k arg Pre Post) [] E0 ta) Γ Pd := fun F m σ H e s Q q =>
  ho F m σ H e s _ fun v H1 d k1 a r => by
    obtain ⟨i, ha, hn, hp, ob, h3⟩ := h d a
    obtain ⟨p, dx, fs, rfl, h1⟩ := ob m H1 v r
    exact ⟨p, dx, fs, rfl, h1, pr_use i e (s.keep k1) (by rw [← ha]; exact .cons r .nil) hn hp fun v H3 d k3 p r3 => q v H3 d (k1.trans k3) (h3 d p) r3⟩
end
theorem ints_all {Q : Int → Prop} : ∀ {es : List D}, (∀ e ∈ es, ∃ k, e = .int k ∧ Q k) → ∃ ns : List Int, es = ns.map D.int ∧ ∀ k ∈ ns, Q k
  | [], _ => ⟨[], rfl, fun _ h => by cases h⟩
  | e :: es, h => by
    obtain ⟨k, e1, hk⟩ := h e List.mem_cons_self
    obtain ⟨ns, e2, hn⟩ := ints_all fun x hx => h x (List.mem_cons_of_mem _ hx)
    refine ⟨k :: ns, by rw [e1, e2]; rfl, fun x hx => ?_⟩
    rcases List.mem_cons.mp hx with q | q
    · rw [q]; exact hk
    · exact hn x q
theorem spots_nd : (spots 11 11).Nodup := by decide +kernel
def inF (F : List (Pt × Nat)) (i : Nat) (d : D) : Bool := match d with | .tup [.int x, .int y] => decide (((x, y), i) ∈ F) | _ => false
def numD (F : List (Pt × Nat)) (d : D) : D := match d with | .tup [.int x, .int y] => (getP (fnD F) (x, y)).getD .non | d => d
def shD (o : Pt) (d : D) : D := match d with | .tup [.int x, .int y] => D.pl (pAdd o (x, y)) | d => d
section
variable {P : Program} {w : World} {K : PySem.W.Frag} {mg : Str → Option Value} {base : Heap} {g : Gl}
def sp__law_right (g : Gl) : Sp := pr g 3 (ι := Nt × Str × Pt) (fun i => [.tp, .d (D.ca i.1 i.2.1), .d (D.pl i.2.2)]) (fun i => CarOk i.1 i.2.1) (fun _ r => r = .bl true)
theorem cal__law_right (hK : g.K = K) (T : Blt mg) (h : Dfd K mg "_law_right" (topS 78)) (pk : Pk K g) (c__law_draw : C8.Cal P w K mg base 1 "_law_draw" (sp__law_draw g) []) (c__law_groups : C8.Cal P w K mg base 2 "_law_groups" (sp__law_groups g) []) (c__law_is_inner : C8.Cal P w K mg base 1 "_law_is_inner" (sp__law_is_inner g) []) (c_part_at : C8.Cal P w K mg base 9 "part_at" (sp_part_at g) []) (c_are_joined : C8.Cal P w K mg base 10 "are_joined" (sp_are_joined g) []) (p_Psize : Prp P w K mg base 1 g.part "size" (sp_Part_size g)) {fg : Addr} (gC_ok : FnM P w K mg base 5 fg (sp_Carpet___getitem__ g)) (gC_me : Meth K g.car "__getitem__" fg) (gW_me : Meth K g.wov "__getitem__" fg) (gC_in : PySem.W.fnIn K fg = true) : C8.Cal P w K mg base 12 "_law_right" (sp__law_right g) [] := by
  subst hK
  refine h.cal (k := 11) (N := ["_law_tape_here", "_law_made_here", "_law_place_here", "_law_rows", "_law_groups_here", "_law_spots_here", "_law_whole", "_law_number", "_law_group", "_law_there", "_law_turn", "_law_one", "_law_other", "_law_ends", "_law_is_one", "_law_y", "_law_x", "_law_spot"]) (ps := ["_law_tape_here", "_law_made_here", "_law_place_here"]) (r := 15) (fun _ _ _ _ _ _ us hl => match us, hl with | [_, _, _], _ => rfl) (C8.fnScope_by (by decide +kernel)) rfl rfl fun f cdv A outer s H E hr => ?_
  have nd : List.Nodup (α := Str) ["_law_tape_here", "_law_made_here", "_law_place_here", "_law_rows", "_law_groups_here", "_law_spots_here", "_law_whole", "_law_number", "_law_group", "_law_there", "_law_turn", "_law_one", "_law_other", "_law_ends", "_law_is_one", "_law_y", "_law_x", "_law_spot"] := by decide +kernel
  refine ⟨_, (pss_cons (ps_setLc (i := 3) (own := [("_law_y", 15)]) (g := gName 15) rfl nd rfl rfl (sw_true rfl rfl rfl (by decide +kernel)) (pi_range1 rfl T.range (pa_cons pe_int pa_nil)) (blkOk_by (own := [("_law_y", 15)]) (N := ["_law_tape_here", "_law_made_here", "_law_place_here", "_law_rows", "_law_groups_here", "_law_spots_here", "_law_whole", "_law_number", "_law_group", "_law_there", "_law_turn", "_law_one", "_law_other", "_law_ends", "_law_is_one", "_law_y", "_law_x", "_law_spot"]) (sc := C8.fnScope (topS 78)) (by decide +kernel)) (fun _ _ _ _ _ => (pg_name (i := 15) nd rfl (.inr rfl))) (fun _ _ _ _ _ => pts_nil) (fun _ _ _ _ _ => (pe_lc (own := [("_law_x", 16)]) (g := gName 16) rfl nd (pi_range1 rfl T.range (pa_cons pe_int pa_nil)) (blkOk_by (by kernel_rfl)) (fun _ _ _ _ _ => (pg_name (i := 16) nd rfl (.inl rfl))) (fun _ _ _ _ _ => pts_nil) (fun _ _ _ _ _ => (pe_or2 (pe_ixOwn gC_ok pk.clC gC_me gC_in hr (by decide) (pv 1) (pe_tup (pa_cons (pe_op op_add (pe_ix (ixT (K := g.K) rfl) (pv 2) pe_int (fun _ _ => rfl)) (pv 16)) (pa_cons (pe_op op_add (pe_ix (ixT (K := g.K) rfl) (pv 2) pe_int (fun _ _ => rfl)) (pv 15)) pa_nil)))) (pe_ixOwn gC_ok pk.clW gW_me gC_in hr (by decide) (pv 1) (pe_tup (pa_cons (pe_op op_add (pe_ix (ixT (K := g.K) rfl) (pv 2) pe_int (fun _ _ => rfl)) (pv 16)) (pa_cons (pe_op op_add (pe_ix (ixT (K := g.K) rfl) (pv 2) pe_int (fun _ _ => rfl)) (pv 15)) pa_nil)))))))))
    (pss_cons (ps_set (i := 4) nd rfl (.inr rfl) (C8.pe_c c__law_groups hr (by decide) rfl (pa_cons (pv 3) pa_nil)))
    (pss_cons (ps_set (i := 5) nd rfl (.inl rfl) (pe_callB (cr_sortedKP (by rfl)) (by rfl) T.sorted (by decide +kernel) (pa_cons (pv 4) pa_nil)))
    (pss_cons (ps_set (i := 6) nd rfl (.inl rfl) (pe_lst pa_nil))
    (pss_cons (ps_for PassesOwn.never rfl (piL (K := g.K) rfl (pe_callB (cr_sortedN (by rfl)) (by rfl) T.sorted (by decide +kernel) (pa_cons (pe_callTy (cr_setL (by rfl)) (by rfl) T.set (by decide +kernel) (pa_cons (pe_lc (own := [("_law_spot", 17)]) (g := gName 17) rfl nd (piL (K := g.K) rfl (pv 5)) (blkOk_by (own := [("_law_spot", 17)]) (N := ["_law_tape_here", "_law_made_here", "_law_place_here", "_law_rows", "_law_groups_here", "_law_spots_here", "_law_whole", "_law_number", "_law_group", "_law_there", "_law_turn", "_law_one", "_law_other", "_law_ends", "_law_is_one", "_law_y", "_law_x", "_law_spot"]) (sc := C8.fnScope (topS 78)) (by decide +kernel)) (fun _ _ _ _ _ => (pg_name (i := 17) nd rfl (.inl rfl))) (fun _ _ _ _ _ => pts_nil) (fun _ _ _ _ _ => (pe_dget (hu_of hr) (pv 4) (pv 17) (fun _ _ => rfl)))) pa_nil)) pa_nil))) (pg_name (i := 7) nd rfl (.inr rfl))
      (pss_cons (ps_setLc (i := 8) (own := [("_law_spot", 17)]) (g := gName 17) rfl nd rfl rfl (sw_true rfl rfl rfl (by decide +kernel)) (piL (K := g.K) rfl (pv 5)) (blkOk_by (own := [("_law_spot", 17)]) (N := ["_law_tape_here", "_law_made_here", "_law_place_here", "_law_rows", "_law_groups_here", "_law_spots_here", "_law_whole", "_law_number", "_law_group", "_law_there", "_law_turn", "_law_one", "_law_other", "_law_ends", "_law_is_one", "_law_y", "_law_x", "_law_spot"]) (sc := C8.fnScope (topS 78)) (by decide +kernel)) (fun _ _ _ _ _ => (pg_name (i := 17) nd rfl (.inl rfl))) (fun _ _ _ _ _ => pts_one (pt_cmpR op_eq (pe_dget (hu_of hr) (pv 4) (pv 17) (fun _ _ => rfl)) (pv 7) (nomark _))) (fun _ _ _ _ _ => (pv 17)))
        (pss_cons (ps_set (i := 9) nd rfl (.inl rfl) (pe_tup (pa_cons (pe_op op_add (pe_ix (ixT (K := g.K) rfl) (pv 2) pe_int (fun _ _ => rfl)) (pe_ix (ixT (K := g.K) rfl) (pe_ix (ixL (K := g.K) rfl) (pv 8) pe_int (fun _ _ => rfl)) pe_int (fun _ _ => rfl))) (pa_cons (pe_op op_add (pe_ix (ixT (K := g.K) rfl) (pv 2) pe_int (fun _ _ => rfl)) (pe_ix (ixT (K := g.K) rfl) (pe_ix (ixL (K := g.K) rfl) (pv 8) pe_int (fun _ _ => rfl)) pe_int (fun _ _ => rfl))) pa_nil))))
        (pss_one (ps_if (pt_val (C8.pe_c c__law_is_inner hr (by decide) rfl (pa_cons (pv 8) pa_nil)))
          (pss_cons (ps_expr (pe_bm PySem.F.plainAttrs_list PySem.F.slot_list_append PySem.F.type_list_append mt_append (pv 6) (pa_cons (pv 7) pa_nil)))
            (pss_one (ps_if (pt_cmpR op_ne (pe_prp p_Psize hr (by decide) (C8.pe_c c_part_at hr (by decide) rfl (pa_cons (pv 1) (pa_cons (pv 9) pa_nil))) rfl) (pe_callB (lenK (K := g.K) rfl) (by rfl) T.len PySem.boot_len (pa_cons (pv 8) pa_nil)) (nomark _))
              (pss_one (ps_ret pe_bl))
              pss_nil)))
          pss_nil)))))
    (pss_cons (ps_for PassesOwn.never rfl (pi_range1 rfl T.range (pa_cons pe_int pa_nil)) (pg_name (i := 10) nd rfl (.inl rfl))
      (pss_cons (ps_par (i := 11) (j := 12) (by rfl) nd rfl rfl (by decide) rfl rfl (pa_cons (pe_ix (ixL (K := g.K) rfl) (pv 5) (C8.pe_c c__law_draw hr (by decide) rfl (pa_cons (pv 0) (pa_cons pe_int pa_nil))) (fun _ _ => rfl)) (pa_cons (pe_ix (ixL (K := g.K) rfl) (pv 5) (C8.pe_c c__law_draw hr (by decide) rfl (pa_cons (pv 0) (pa_cons pe_int pa_nil))) (fun _ _ => rfl)) pa_nil)) (by rfl))
        (pss_cons (ps_setLc (i := 13) (own := [("_law_spot", 17)]) (g := gName 17) rfl nd rfl rfl (sw_true rfl rfl rfl (by decide +kernel)) (piL (K := g.K) rfl (pe_lst (pa_cons (pv 11) (pa_cons (pv 12) pa_nil)))) (blkOk_by (own := [("_law_spot", 17)]) (N := ["_law_tape_here", "_law_made_here", "_law_place_here", "_law_rows", "_law_groups_here", "_law_spots_here", "_law_whole", "_law_number", "_law_group", "_law_there", "_law_turn", "_law_one", "_law_other", "_law_ends", "_law_is_one", "_law_y", "_law_x", "_law_spot"]) (sc := C8.fnScope (topS 78)) (by decide +kernel)) (fun _ _ _ _ _ => (pg_name (i := 17) nd rfl (.inl rfl))) (fun _ _ _ _ _ => pts_nil) (fun _ _ _ _ _ => (pe_tup (pa_cons (pe_op op_add (pe_ix (ixT (K := g.K) rfl) (pv 2) pe_int (fun _ _ => rfl)) (pe_ix (ixT (K := g.K) rfl) (pv 17) pe_int (fun _ _ => rfl))) (pa_cons (pe_op op_add (pe_ix (ixT (K := g.K) rfl) (pv 2) pe_int (fun _ _ => rfl)) (pe_ix (ixT (K := g.K) rfl) (pv 17) pe_int (fun _ _ => rfl))) pa_nil)))))
        (pss_cons (ps_set (i := 14) nd rfl (.inl rfl) (pe_cmpR op_eq (pe_dget (hu_of hr) (pv 4) (pv 11) (fun _ _ => rfl)) (pe_dget (hu_of hr) (pv 4) (pv 12) (fun _ _ => rfl)) (nomark _)))
        (pss_one (ps_if (PW.pt (pw_or (pt_val (pv 14)) (pw_or (pt_cmpR (inQ (K := g.K) rfl) (pe_dget (hu_of hr) (pv 4) (pv 11) (fun _ _ => rfl)) (pv 6) rfl) (pw_or1 (pt_cmpR (inQ (K := g.K) rfl) (pe_dget (hu_of hr) (pv 4) (pv 12) (fun _ _ => rfl)) (pv 6) rfl)))))
          (pss_one (ps_if (pt_cmpR op_ne (C8.pe_c c_are_joined hr (by decide) rfl (pa_cons (pv 1) (pa_cons (pe_ix (ixL (K := g.K) rfl) (pv 13) pe_int (fun _ _ => rfl)) (pa_cons (pe_ix (ixL (K := g.K) rfl) (pv 13) pe_int (fun _ _ => rfl)) pa_nil)))) (pv 14) (nomark _))
              (pss_one (ps_ret pe_bl))
              pss_nil))
          pss_nil))))))
    (pss_one (ps_ret pe_bl)))))))), fun i hp => ?_⟩
  obtain ⟨n, z, o⟩ := i
  have hp : CarOk n z := hp
  have c1 := hp.vn.c1
  refine sv_seq (sv_asgD (el_map (f := fun d => match d with | .int y => D.lst ((List.range 11).map fun (x : Nat) => D.str (one (col n z (pAdd o ((x : Int), y))))) | d => d) (ei_rng1 (n := 11) ev_int (by decide)) (by rw [List.length_map, List.length_range]; decide) (by decide) fun d hd => ?_) fun l e => ?_)
  · obtain ⟨y, hy, rfl⟩ := List.mem_map.mp hd
    refine EvS.to' (EvL.ev' (el_map (f := fun d => match d with | .int x => D.str (one (col n z (pAdd o (x, (y : Int))))) | d => d) (ei_rng1 (n := 11) ev_int (by decide)) (by rw [List.length_map, List.length_range]; decide) (by decide) fun d hd => ?_)) ?_
    · obtain ⟨x, hx, rfl⟩ := List.mem_map.mp hd
      exact ev_ixOwn2 (n, z, pAdd o ((x : Int), (y : Int))) rfl (ev_p2 (ev_add (ev_t0 (ev_var rfl)) (ev_var rfl)) (ev_add (ev_t1 (ev_var rfl)) (ev_var rfl))) (fun m H v r => ob_car r) rfl hp
    · rw [List.map_map]
      rfl
  have hl : D.lst l = rowsD (seenAt (col n z) o) := by
    rw [e, List.map_map]
    rfl
  show Sv g _ [.tp, .d (D.ca n z), .d (D.pl o), .d (.lst l), .un, .un, .un, .un, .un, .un, .un, .un, .un, .un, .un, .un, .un, .un] _
  rw [hl]
  refine sv_seq (sv_asg (ev_callI (seenAt (col n z) o) (ea_cons' (ev_var rfl) ea_nil) trivial) fun d hd => ?_)
  obtain ⟨F, M, rfl, hG, hall⟩ := hd
  refine sv_seq (sv_asgD (el_sortedD (ev_var rfl)) fun l2 hl2 => ?_)
  obtain ⟨ps, rfl, hperm⟩ := hl2
  have hF : (fnD F).map (·.1) = F.map (·.1) := by rw [List.map_map]; rfl
  rw [hF] at hperm
  have psn : ps.Nodup := hperm.nodup_iff.mpr hG.nd
  have psm : ∀ p ∈ ps, ∃ i, (p, i) ∈ F := fun p hp => by
    obtain ⟨e, he, rfl⟩ := List.mem_map.mp (hperm.mem_iff.mp hp)
    exact ⟨e.2, he⟩
  have mps : ∀ p i, (p, i) ∈ F → p ∈ ps := fun p i h => hperm.mem_iff.mpr (List.mem_map.mpr ⟨_, h, rfl⟩)
  have pl1 : ps.length ≤ 121 := inw_len psn fun p hp => by
    obtain ⟨i, hi⟩ := psm p hp
    exact hG.inw _ hi
  have pl2 : 121 ≤ ps.length := by
    have := nodup_le spots_nd (k := ps) fun x hx => by
      obtain ⟨i, hi⟩ := hall x ((mem_spots (by decide) (by decide)).mp hx)
      exact mps x i hi
    rw [spots_len] at this
    exact this
  have hget : ∀ p i, (p, i) ∈ F → getP (fnD F) p = some (.int (i : Int)) := fun p i h => get_fn hG.nd h
  have huq : ∀ p i j, (p, i) ∈ F → (p, j) ∈ F → i = j := fun p i j h1 h2 => by
    have := D.int.inj (Option.some.inj ((hget p i h1).symm.trans (hget p j h2)))
    omega
  refine sv_seq (sv_asgL (el_lst' ed_nil (by show 0 ≤ 100000; decide)) fun l3 e3 => ?_)
  subst e3
  have hχ := col_per n z
  refine sv_seq (sv_for (P := fun ds => ∃ ns : List Int, ds = ns.map D.int ∧ ns.length ≤ 121 ∧ ∀ k ∈ ns, ∃ (p : Pt) (i : Nat), (p, i) ∈ F ∧ k = (i : Int)) (ei_list (EvL.ev (el_sortedSet (Pn := fun ns => ns.length ≤ 121 ∧ ∀ k ∈ ns, ∃ (p : Pt) (i : Nat), (p, i) ∈ F ∧ k = (i : Int)) (EvS.imp (EvL.ev (el_mapS (Pd := fun e => ∃ k : Int, e = .int k ∧ ∃ (p : Pt) (i : Nat), (p, i) ∈ F ∧ k = (i : Int)) (ei_list' (ev_var rfl)) (by rw [List.length_map]; omega) (by decide) fun d hd => ?_)) fun d hd => ?_))) fun d hd => ?_)
    (fun ds idx Γ' => ∃ (ws : List Int) (a7 a8 a9 : C), Γ' = [.tp, .d (D.ca n z), .d (D.pl o), .d (rowsD (seenAt (col n z) o)), .d (.dct (fnD F)), .d (.lst (ps.map D.pl)), .ml (ws.map D.int), a7, a8, a9, .un, .un, .un, .un, .un, .un, .un, .un] ∧ ws.length ≤ idx ∧ ∀ k ∈ ws, ∃ i : Nat, k = (i : Int) ∧ Inn F i)
    (fun ds _ => ⟨[], _, _, _, rfl, Nat.le_refl _, fun _ h => by cases h⟩) (fun ds idx d Γ' hds hd hj => ?_) fun ds Γ' _ hj => ?_)
  · obtain ⟨q, hq, rfl⟩ := List.mem_map.mp hd
    obtain ⟨j, hj⟩ := psm q hq
    exact (ev_dget (ev_var rfl) (ev_var rfl) (hget q j hj)).imp fun e he => ⟨_, he, q, j, hj, rfl⟩
  · obtain ⟨es, rfl, he1, he2⟩ := hd
    obtain ⟨ns, rfl, hns⟩ := ints_all he2
    rw [List.length_map, List.length_map] at he1
    exact ⟨ns, rfl, by omega, by omega, hns⟩
  · obtain ⟨l4, rfl, ns, ns', ⟨h1, h2⟩, rfl, h3, h4⟩ := hd
    refine ⟨_, rfl, ns', rfl, ?_, fun k hk => h2 k ((h4 k).mp hk)⟩
    have hnd : ns'.Nodup := h3.imp fun h => Int.ne_of_lt h
    exact Nat.le_trans (nodup_le hnd fun k hk => (h4 k).mp hk) h1
  · obtain ⟨ns, rfl, hlen, hk⟩ := hds
    obtain ⟨ws, a7, a8, a9, rfl, hw, hwi⟩ := hj
    have hix : idx < (ns.map D.int).length := (List.getElem?_eq_some_iff.mp hd).1
    rw [List.length_map] at hix
    obtain ⟨k, hkm, rfl⟩ := List.mem_map.mp (List.mem_of_getElem? hd)
    obtain ⟨p0, i, hp0, rfl⟩ := hk k hkm
    refine ⟨[7], _, eg_name, ?_⟩
    refine sv_seq (sv_asgD (el_filter (f := id) (t := inF F i) (ei_list' (ev_var rfl)) (by rw [List.length_map]; omega) (by decide) (fun d hd => ?_) fun d hd _ => ev_var rfl) fun l e => ?_)
    · obtain ⟨q, hq, rfl⟩ := List.mem_map.mp hd
      obtain ⟨j, hj⟩ := psm q hq
      refine (et_test (ev_eqI (ev_dget (ev_var rfl) (ev_var rfl) (hget q j hj)) (ev_var rfl))).imp fun b hb => ?_
      rw [hb]
      show decide ((j : Int) = (i : Int)) = decide ((q, i) ∈ F)
      exact decide_eq_decide.mpr ⟨fun e => (show j = i by omega) ▸ hj, fun e => by rw [huq q j i hj e]⟩
    obtain ⟨grp, hgrp⟩ : ∃ grp, grp = ps.filter (inF F i ∘ D.pl) := ⟨_, rfl⟩
    rw [List.map_id, List.filter_map, ← hgrp] at e
    subst e
    have gm : ∀ q, q ∈ grp ↔ (q, i) ∈ F := fun q => by
      rw [hgrp, List.mem_filter]
      refine ⟨fun h => of_decide_eq_true h.2, fun h => ⟨mps q i h, decide_eq_true h⟩⟩
    have gnd : grp.Nodup := by rw [hgrp]; exact List.Pairwise.filter _ psn
    have gl : grp.length ≤ 121 := by rw [hgrp]; exact Nat.le_trans (List.length_filter_le _ _) pl1
    clear hgrp
    obtain ⟨q0, rest, rfl⟩ : ∃ q0 rest, grp = q0 :: rest := by
      cases grp with
      | nil => cases (gm p0).mpr hp0
      | cons a b => exact ⟨a, b, rfl⟩
    have hq0 := (gm q0).mp List.mem_cons_self
    refine sv_seq (sv_asg (EvS.to' (y := D.pl (pAdd o q0)) (ev_p2 (ev_add (ev_t0 (ev_var rfl)) (ev_t0 (ev_ixL (d := D.pl q0) (ev_var rfl) ev_int (atI_nat (j := 0) rfl)))) (ev_add (ev_t1 (ev_var rfl)) (ev_t1 (ev_ixL (d := D.pl q0) (ev_var rfl) ev_int (atI_nat (j := 0) rfl))))) rfl) fun d e => ?_)
    subst e
    refine sv_if (et_B (ev_callI (q0 :: rest) (ea_cons' (ev_var rfl) ea_nil) (Nat.le_trans gl (by decide)))) (fun zz => ?_) fun zz => sv_next ⟨ws, _, _, _, rfl, by omega, hwi⟩
    have hinn : Inn F i := fun p hpi => by
      cases hr : rim p with
      | false => rfl
      | true =>
        have hm : p ∈ (q0 :: rest).filter rim := List.mem_filter.mpr ⟨(gm p).mpr hpi, hr⟩
        rw [List.isEmpty_iff.mp zz.symm] at hm
        cases hm
    refine sv_seq (sv_app (ds := ws.map D.int) rfl (by rw [List.length_map]; omega) (ev_var rfl) fun d e => ?_)
    subst e
    refine sv_if (et_test (ev_neI (i := ((q0 :: rest).length : Nat)) (j := ((q0 :: rest).length : Nat)) (ev_propA (ev_callI (n, z, pAdd o q0) (ea_cons' (ev_var rfl) (ea_cons' (ev_var rfl) ea_nil)) hp) fun x hx => ?_) (EvS.to' (ev_lenL (ev_var rfl)) (by rw [List.length_map])))) (fun zz => ?_) fun _ => sv_next ⟨ws ++ [(i : Int)], _, _, _, by rw [List.map_append]; rfl, by rw [List.length_append, List.length_singleton]; omega, fun k hk => ?_⟩
    · obtain ⟨P, st, v, rfl, hP, hv⟩ := hx
      refine ⟨P, rfl, rfl, trivial, fun m H v r => ob_part r, fun d hd => ?_⟩
      obtain ⟨e1, e2⟩ := grp_size hχ c1 hG hinn hq0 hP hv gnd gm
      rw [show d = _ from hd, e1, e2]
      rfl
    · rw [decide_eq_true rfl] at zz
      cases zz
    · rcases List.mem_append.mp hk with h | h
      · exact hwi k h
      · rw [List.mem_singleton.mp h]; exact ⟨i, rfl, hinn⟩
  · obtain ⟨ws, a7, a8, a9, rfl, _, hwi⟩ := hj
    refine sv_seq (sv_forN (ei_rng1 (n := 24) ev_int (by decide)) (fun idx Γ' => ∃ a10 a11 a12 a13 a14 : C, Γ' = [.tp, .d (D.ca n z), .d (D.pl o), .d (rowsD (seenAt (col n z) o)), .d (.dct (fnD F)), .d (.lst (ps.map D.pl)), .ml (ws.map D.int), a7, a8, a9, a10, a11, a12, a13, a14, .un, .un, .un]) ⟨_, _, _, _, _, rfl⟩ (fun idx d Γ' hd hj => ?_) fun Γ' hj => ?_)
    · obtain ⟨a10, a11, a12, a13, a14, rfl⟩ := hj
      have pick : ∀ {x y : D}, x = .lst (ps.map D.pl) → InR 121 y → ∃ ds k d, x = .lst ds ∧ y = .int k ∧ atI ds k = some d ∧ ∃ p : Pt, d = D.pl p ∧ p ∈ ps := fun {x y} hx hy => by
        obtain ⟨k, rfl, k0, k1⟩ := hy
        obtain ⟨j, rfl⟩ : ∃ j : Nat, k = (j : Int) := ⟨k.toNat, by omega⟩
        have hj : j < ps.length := by omega
        refine ⟨_, _, D.pl ps[j], hx, rfl, atI_nat ?_, _, rfl, List.getElem_mem hj⟩
        rw [List.getElem?_map, List.getElem?_eq_getElem hj]
        rfl
      refine sv_seq (sv_par (ev_ixLs (P := fun d => ∃ p : Pt, d = D.pl p ∧ p ∈ ps) (ev_var rfl) (ev_draw rfl ev_int (by decide) (by decide)) fun x y hx hy => pick hx hy) (ev_ixLs (P := fun d => ∃ p : Pt, d = D.pl p ∧ p ∈ ps) (ev_var rfl) (ev_draw rfl ev_int (by decide) (by decide)) fun x y hx hy => pick hx hy) fun x y hx hy => ?_)
      obtain ⟨p, rfl, hpm⟩ := hx
      obtain ⟨q, rfl, hqm⟩ := hy
      obtain ⟨i, hpi⟩ := psm p hpm
      obtain ⟨j, hqj⟩ := psm q hqm
      obtain ⟨p1, p2, p3, p4⟩ := hG.inw _ hpi
      obtain ⟨q1, q2, q3, q4⟩ := hG.inw _ hqj
      dsimp only at p1 p2 p3 p4 q1 q2 q3 q4
      refine sv_seq (sv_asgD (el_map (f := shD o) (ei_list' (EvL.ev' (el_lst' (ed_cons' (x := D.pl p) (ev_var rfl) (ed_cons' (x := D.pl q) (ev_var rfl) ed_nil)) (by show 2 ≤ 100000; decide)))) (by show 2 ≤ 100000; decide) (by decide) fun d hd => ?_) fun l e => ?_)
      · have hd : ∃ s : Pt, d = D.pl s := by
          rcases List.mem_cons.mp hd with h | h
          · exact ⟨p, h⟩
          · exact ⟨q, List.mem_singleton.mp h⟩
        obtain ⟨s, rfl⟩ := hd
        exact EvS.to' (ev_p2 (ev_add (ev_t0 (ev_var rfl)) (ev_t0 (ev_var rfl))) (ev_add (ev_t1 (ev_var rfl)) (ev_t1 (ev_var rfl)))) rfl
      have e : l = [D.pl (pAdd o p), D.pl (pAdd o q)] := e
      subst e
      refine sv_seq (sv_asg (EvS.to' (y := .bl (decide (i = j))) (ev_eqI (ev_dget (ev_var rfl) (ev_var rfl) (hget p i hpi)) (ev_dget (ev_var rfl) (ev_var rfl) (hget q j hqj))) (congrArg D.bl (decide_eq_decide.mpr (by omega)))) fun d e => ?_)
      subst e
      refine sv_if (et_or (et_B (ev_var rfl)) fun _ => et_or (et_test (ev_inMI (ev_dget (ev_var rfl) (ev_var rfl) (hget p i hpi)) rfl)) fun _ => et_test (ev_inMI (ev_dget (ev_var rfl) (ev_var rfl) (hget q j hqj)) rfl)) (fun zz => ?_) fun zz => sv_next ⟨_, _, _, _, _, rfl⟩
      have hcase : i = j ∨ Inn F i ∨ Inn F j := by
        have inn : ∀ {i : Nat}, (i : Int) ∈ ws → Inn F i := fun {i} h => by
          obtain ⟨i', e, hI⟩ := hwi _ h
          have e : i = i' := by omega
          rw [e]; exact hI
        have zz := zz.symm
        rw [Bool.or_eq_true, Bool.or_eq_true] at zz
        rcases zz with z1 | z1 | z1
        · exact .inl (of_decide_eq_true z1)
        · exact .inr (.inl (inn (of_decide_eq_true z1)))
        · exact .inr (.inr (inn (of_decide_eq_true z1)))
      refine sv_if (et_test (ev_neB (z := decide (i = j)) (w := decide (i = j)) (EvS.imp (ev_callI (n, z, pAdd o p, pAdd o q) (ea_cons' (ev_var rfl) (ea_cons' (ev_ixL (d := D.pl (pAdd o p)) (ev_var rfl) ev_int (atI_nat (j := 0) rfl)) (ea_cons' (ev_ixL (d := D.pl (pAdd o q)) (ev_var rfl) ev_int (atI_nat (j := 1) rfl)) ea_nil))) ⟨hp, ?_⟩) fun d hd => ?_) (ev_var rfl))) (fun z2 => ?_) fun _ => sv_next ⟨_, _, _, _, _, rfl⟩
      · show -1000 ≤ o.1 + q.1 - (o.1 + p.1) ∧ o.1 + q.1 - (o.1 + p.1) ≤ 1000 ∧ -1000 ≤ o.2 + q.2 - (o.2 + p.2) ∧ o.2 + q.2 - (o.2 + p.2) ≤ 1000
        omega
      · obtain ⟨P, st, v, hP, hv, hr⟩ := hd
        exact grp_join hχ c1 hG hpi hqj hP hv hcase hr
      · rw [decide_eq_true rfl] at z2
        cases z2
    · obtain ⟨a10, a11, a12, a13, a14, rfl⟩ := hj
      exact sv_ret (ev_bl.imp fun d e => e)
end
end K55
set_option maxHeartbeats 1000000
/-! The law. -/
namespace K55
open PySem PySem.Spec PyProof.Rows L2
open Evl (Ex)
theorem Sv.run {g : Gl} {ts : TS} {F : Fr} {m : List Addr} {σ : L2.St} {H : Hp} {Γ : List C} {E : Ends} (rt : D → Prop) (hF : F.g = g) (s : S F m σ H Γ) (h : Sv g ts Γ { nx := fun _ => False, rt := rt }) (q : ∀ v H' d, Kp F.t F.H0 H' → R g (hid F.m0 H') v d → rt d → E.rt v H') : ts E σ H :=
  h F m σ H E hF s (fun _ _ _ _ _ _ z => z.elim) (fun _ _ _ _ _ _ z => z.elim) (fun _ _ _ _ _ _ z => z.elim) q
/-- the slots behind the tape's making -/
theorem tape_s {g : Gl} {H : Hp} {t l a : Addr} {ks : List Int} (tl : t ≠ l) (hks : H l = some (.lst (ks.map V.int))) (hkl : ks.length ≤ 63) (htp : H t = some (.lst [.ref l, .int 0, .int 0, .int 17])) :
    S ⟨g, some ⟨t, l, ks⟩, H, [t], []⟩ [t] [some (.ref a), some (.ref t), none, none, none, none] H [.un, .tp, .un, .un, .un, .un] := by
  have hT : Tape ⟨t, l, ks⟩ H := ⟨tl.symm, hks, hkl, 0, 0, 17, htp, by decide, by decide, by decide, by decide⟩
  have ho : ∀ (i : Nat) (c : C), ([.un, .tp, .un, .un, .un, .un] : List C)[i]? = some c → c = .un ∨ (c = .tp ∧ i = 1) := fun i c h => by
    match i, h with
    | 0, h => exact .inl (Option.some.inj h).symm
    | 1, h => exact .inr ⟨(Option.some.inj h).symm, rfl⟩
    | 2, h => exact .inl (Option.some.inj h).symm
    | 3, h => exact .inl (Option.some.inj h).symm
    | 4, h => exact .inl (Option.some.inj h).symm
    | 5, h => exact .inl (Option.some.inj h).symm
    | n + 6, h => cases h
  have hm : ∀ x ∈ ([t] : List Addr), x = t := fun x h => List.mem_singleton.mp h
  refine ⟨rfl, fun i v c h1 h2 => ?_, fun i j l ci cj n h1 h2 h3 h4 o1 o2 => ?_, fun x hx => ?_, fun τ h => ?_, Kp.refl _, fun x h => h, fun x hx => ?_, fun x h => by cases h⟩
  · rcases ho i c h2 with rfl | ⟨rfl, rfl⟩
    · trivial
    · cases h1
      exact ⟨_, rfl, rfl⟩
  · rcases ho i ci h3 with rfl | ⟨rfl, rfl⟩
    · cases o1
    · cases o1
  · rw [hm x hx]
    exact ⟨fun z => (by rw [htp] at z; cases z), fun xs z => by rw [htp] at z; cases z⟩
  · cases h
    exact ⟨List.mem_singleton.mpr rfl, hT⟩
  · rw [hm x hx]
    show H t ≠ none
    rw [htp]
    exact fun z => by cases z
section
variable {P : Program} {w : World} {K : PySem.W.Frag} {mg : Str → Option Value} {base : Heap} {g : Gl}
def sp_law (K : PySem.W.Frag) : Sp := fun vs H Q _ => ∃ (a : Addr) (ns : List Int), vs = [.ref a] ∧ SqL K H a (ns.map V.int) ∧ ∀ H', Q (.bl true) H'
theorem ok_law (hK : g.K = K) (T : Blt mg) {f : Addr} {fd : FuncData} (h : C8.Fun K "law" "law" (topS 79) f fd) (c__law_tape : C8.Cal P w K mg base 1 "_law_tape" (sp__law_tape K) []) (c__law_least : C8.Cal P w K mg base 5 "_law_least" (sp__law_least g) []) (c__law_made : C8.Cal P w K mg base 12 "_law_made" (sp__law_made g) []) (c__law_right : C8.Cal P w K mg base 12 "_law_right" (sp__law_right g) []) (c__law_place : C8.Cal P w K mg base 3 "_law_place" (sp__law_place g) []) : FnOk P w K mg base CX0 13 f fd ["_law_script"] (sp_law K) := by
  subst hK
  refine C8.fn0 (k := 12) (N := ["_law_script", "_law_tape_here", "_law_turn", "_law_net_here", "_law_text", "_law_made_here"]) h (C8.fnScope_by (by decide +kernel)) (fun vs H Q E ⟨a, ns, e, _⟩ => by rw [e]; rfl) fun cdv A outer s H vs Q E hr hsp => ?_
  have nd : List.Nodup (α := Str) ["_law_script", "_law_tape_here", "_law_turn", "_law_net_here", "_law_text", "_law_made_here"] := by decide +kernel
  refine ⟨_, (pss_cons (ps_set (i := 1) nd rfl (.inl rfl) (C8.pe_c c__law_tape hr (by decide) rfl (pa_cons (pv 0) pa_nil)))
    (pss_cons (ps_for PassesOwn.never rfl (pi_range1 rfl T.range (pa_cons pe_int pa_nil)) (pg_name (i := 2) nd rfl (.inl rfl))
      (pss_cons (ps_asg (C8.pe_c c__law_least hr (by decide) rfl (pa_cons (pv 1) (pa_cons pe_int pa_nil))) (pgT (K := g.K) (n := 2) rfl (by rfl) (pgs_cons (pg_name (i := 3) nd rfl (.inl rfl)) (pgs_cons (pg_name (i := 4) nd rfl (.inl rfl)) pgs_nil))))
        (pss_cons (ps_set (i := 5) nd rfl (.inl rfl) (C8.pe_c c__law_made hr (by decide) rfl (pa_cons (pv 1) (pa_cons (pv 3) (pa_cons (pv 4) pa_nil)))))
        (pss_one (ps_if (pt_not (pt_val (C8.pe_c c__law_right hr (by decide) rfl (pa_cons (pv 1) (pa_cons (pv 5) (pa_cons (pe_ix (ixL (K := g.K) rfl) (pe_lst (pa_cons (pe_tup (pa_cons pe_int (pa_cons pe_int pa_nil))) (pa_cons (C8.pe_c c__law_place hr (by decide) rfl (pa_cons (pv 1) pa_nil)) pa_nil))) (pv 2) (fun _ _ => rfl)) pa_nil))))))
          (pss_one (ps_ret pe_bl))
          pss_nil)))))
    (pss_one (ps_ret pe_bl)))), ?_⟩
  obtain ⟨a, ns, rfl, ha, q⟩ := hsp
  refine ⟨_, rfl, a, ns, rfl, ha, fun H' t l ks ex tl ht hl hks hkl htp => ?_⟩
  dsimp only [gName]
  refine Sv.run (g := g) (F := ⟨g, some ⟨t, l, ks⟩, H', [t], []⟩) (m := [t]) (Γ := [.un, .tp, .un, .un, .un, .un]) (· = .bl true) rfl (tape_s tl hks hkl htp) ?_ fun v H2 d _ r e => by
    subst e
    cases r
    exact q H2
  refine sv_seq (sv_forN (ei_rng1 (n := 2) ev_int (by decide)) (fun idx Γ' => ∃ a2 a3 a4 a5 : C, Γ' = [.un, .tp, a2, a3, a4, a5]) ⟨_, _, _, _, rfl⟩ (fun idx d Γ' hd hj => ?_) fun Γ' hj => sv_ret ev_bl)
  obtain ⟨a2, a3, a4, a5, rfl⟩ := hj
  have hd0 : d = .int 0 ∨ d = .int 1 := by
    obtain ⟨k, hk, rfl⟩ := List.mem_map.mp (List.mem_of_getElem? hd)
    have hk := List.mem_range.mp hk
    match k, hk with
    | 0, _ => exact .inl rfl
    | 1, _ => exact .inr rfl
  refine sv_seq (sv_asg2 (ev_callI () (ea_tp' rfl (ea_cons' ev_int ea_nil)) trivial) fun d2 hd2 => ?_)
  obtain ⟨n, z, rfl, hv, hz⟩ := hd2
  refine ⟨_, _, rfl, ?_⟩
  refine sv_seq (sv_asg (ev_callI (n, z) (ea_tp' rfl (ea_cons' (ev_var rfl) (ea_cons' (ev_var rfl) ea_nil))) ⟨hv, hz⟩) fun d3 hd3 => ?_)
  obtain ⟨n', z', rfl, hc⟩ := hd3
  refine sv_if (et_not (et_B (b := true) (ev_call (As := fun cs => ∃ p : Pt, cs = [.tp, .d (D.ca n' z'), .d (D.pl p)]) (ea_tp rfl (ea_cons (A := (· = D.ca n' z')) (As := fun l => ∃ p : Pt, l = [.d (D.pl p)]) (Ps := fun l => ∃ p : Pt, l = [.d (D.ca n' z'), .d (D.pl p)]) (ev_var rfl) (ea_cons (A := fun d => ∃ p : Pt, d = D.pl p) (As := (· = [])) (ev_ixLs (A := fun d => ∃ p : Pt, d = .lst [D.pl (0, 0), D.pl p]) (B := (· = d)) (EvS.imp (EvL.ev (el_lst (Ps := fun l => ∃ p : Pt, l = [D.pl (0, 0), D.pl p]) (ed_cons (A := (· = D.pl (0, 0))) (As := fun l => ∃ p : Pt, l = [D.pl p]) (ev_p2 ev_int ev_int) (ed_cons (A := fun d => ∃ p : Pt, d = D.pl p) (As := (· = [])) (ev_callI () (ea_tp' rfl ea_nil) trivial) ed_nil fun x l hx hl => ?_) fun x l hx hl => ?_) fun l hl => ?_)) fun x hx => ?_) (ev_var rfl) fun x y hx hy => ?_) ea_nil fun x l hx hl => ?_) fun x l hx hl => ?_) fun l hl => ?_) fun cs hcs => ?_))) (fun zz => ?_) fun _ => sv_next ⟨_, _, _, _, rfl⟩
  · obtain ⟨p, rfl⟩ := hx
    exact ⟨p, by rw [hl]⟩
  · obtain ⟨p, rfl⟩ := hl
    exact ⟨p, by rw [hx]⟩
  · obtain ⟨p, rfl⟩ := hl
    show 2 ≤ 100000
    decide
  · obtain ⟨l, rfl, p, rfl⟩ := hx
    exact ⟨p, rfl⟩
  · obtain ⟨p, rfl⟩ := hx
    subst hy
    rcases hd0 with rfl | rfl
    · exact ⟨_, 0, D.pl (0, 0), rfl, rfl, atI_nat (j := 0) rfl, _, rfl⟩
    · exact ⟨_, 1, D.pl p, rfl, rfl, atI_nat (j := 1) rfl, _, rfl⟩
  · obtain ⟨p, rfl⟩ := hx
    exact ⟨p, by rw [hl]⟩
  · obtain ⟨p, rfl⟩ := hl
    exact ⟨p, by rw [hx]⟩
  · obtain ⟨p, rfl⟩ := hl
    exact ⟨p, rfl⟩
  · obtain ⟨p, rfl⟩ := hcs
    exact ⟨(n', z', p), rfl, rfl, hc, fun d e => e⟩
  · cases zz
end
end K55
set_option maxHeartbeats 1000000
/-! .. and what that says. -/
namespace K55
open PySem PySem.Spec PyProof.Rows L2
theorem recB_ok {K : Fg} {p : Addr} {T : String} (h : recB K p T = true) : ∃ rest, PySem.W.recIn K p T = some (.ref (recFn K p T) :: rest) := by
  unfold recB at h
  unfold recFn
  cases e : PySem.W.recIn K p T with
  | none => rw [e] at h; cases h
  | some l =>
    rw [e] at h
    cases l with
    | nil => cases h
    | cons v r =>
      cases v with
      | ref a => exact ⟨r, rfl⟩
      | _ => cases h
theorem DF.fnd {K : Fg} {d : DF} (e : seenF K (d.wh K) = d.val) (c : codeB K (d.wh K) d.ql = true) : Fnd K d.nm d.ql d.st (d.wh K) := by
  unfold codeB at c
  unfold seenF at e
  cases lk : K.lookup (d.wh K) with
  | none => rw [lk] at c; cases c
  | some o =>
    rw [lk] at c e
    obtain ⟨oc, od, dt, sl⟩ := o
    cases dt with
    | func fd =>
      obtain ⟨e1, e2⟩ := Prod.mk.inj e
      obtain ⟨f1, f2, f3, f4, f5, f6, f7, f8, f9, f10, f11, f12, f13, f14, f15⟩ := fd
      have e1 := Option.some.inj e1
      simp only [Prod.mk.injEq] at e1
      obtain ⟨h1, h2, h3, h4, h5, h6, h7, h8⟩ := e1
      subst h1 h2 h3 h4 h5 h6 h7 h8
      have df : f8 = .none := by
        cases f8 with
        | none => rfl
        | _ => cases e2
      exact ⟨_, ⟨oc, od, f8, f9, f10, f11, f12, f13, f14, sl, rfl, lk, c⟩, df⟩
    | _ => cases c
theorem propB_ok {K : Fg} {C f : Str} (h : propB K C f = true) : PropOf K (He.ga K C) f (mA C f K) (pA C f K) := by
  obtain ⟨h1, h⟩ := He.ba h
  obtain ⟨h2, h⟩ := He.ba h
  obtain ⟨h3, h4⟩ := He.ba h
  exact ⟨He.eqO_ok h1, He.eqO_ok h2, of_decide_eq_true h3, recB_ok h4⟩
theorem foundS_ok {K : Fg} {C m : Str} (h : foundS K C m = true) : PySem.W.findCls K (.ref (He.ga K C)) (.type "type") m = some (.get (.builtin "staticmethod.__get__") (.ref (mA C m K)) .none (.ref (He.ga K C))) := by
  unfold foundS at h
  split at h
  · rename_i b p c e
    obtain ⟨h1, h⟩ := He.ba h
    obtain ⟨h2, h3⟩ := He.ba h
    rw [e, of_decide_eq_true h1, of_decide_eq_true h2, of_decide_eq_true h3]
  · cases h
theorem statB_ok {K : Fg} {C m : Str} (h : statB K C m = true) : SMet K (He.ga K C) m (sA C m K) := by
  obtain ⟨h1, h⟩ := He.ba h
  obtain ⟨h2, h⟩ := He.ba h
  obtain ⟨h3, h⟩ := He.ba h
  obtain ⟨h4, h5⟩ := He.ba h
  obtain ⟨r, h4⟩ := recB_ok h4
  exact ⟨_, _, r, ⟨h1, He.eqO_ok h2⟩, foundS_ok h3, h4, h5⟩
theorem tupA_ok {K : Fg} {a : Addr} {vs : List V} (h : tupA K a vs = true) (H : Hp) : SqT K H a vs := by
  unfold tupA at h
  cases lk : K.lookup a with
  | none => rw [lk] at h; cases h
  | some o =>
    rw [lk] at h
    obtain ⟨oc, od, dt, sl⟩ := o
    cases oc with
    | type c =>
      cases dt with
      | seq its n =>
        obtain ⟨h1, h⟩ := He.ba h
        obtain ⟨h2, h3⟩ := He.ba h
        exact .inr ⟨_, its, n, lk, congrArg Value.type (of_decide_eq_true h1), rfl, of_decide_eq_true h2, He.relAll_ok h3⟩
      | _ => cases h
    | _ => cases h
theorem stepsB_ok {g : Gl} (h : stepsB g.K = true) (H : Hp) : R g H (.ref (He.ga g.K "STEPS")) stepsD := by
  obtain ⟨h1, h⟩ := He.ba h
  obtain ⟨h2, h⟩ := He.ba h
  obtain ⟨h3, h⟩ := He.ba h
  obtain ⟨h4, h5⟩ := He.ba h
  have p : ∀ {a : Addr} {i j : Int}, tupA g.K a [.int i, .int j] = true → R g H (.ref a) (.ktup [.int i, .int j]) := fun h => .ktup (tupA_ok h H) (.cons (.int _) (.cons (.int _) .nil))
  exact .ktup (tupA_ok h1 H) (.cons (p h2) (.cons (p h3) (.cons (p h4) (.cons (p h5) .nil))))
section
variable {ex : Fg → Bool} {fn : List DF} {K : Fg}
theorem SaysK.more (c : SaysK ex fn K) : ex K = true := (He.ba (congrArg (fun z : AlK => z.1) c)).1
theorem SaysK.fnd (c : SaysK ex fn K) (i : Nat) {d : DF} (h : fn[i]? = some d) : Fnd K d.nm d.ql d.st (d.wh K) := by
  have c2 := (He.ba (congrArg (fun z : AlK => z.1) c)).2
  have e : fn.map (fun d => seenF K (d.wh K)) = fn.map DF.val := congrArg (fun z : AlK => z.2) c
  have e2 : (fn.map fun d => seenF K (d.wh K))[i]? = (fn.map DF.val)[i]? := by rw [e]
  rw [List.getElem?_map, List.getElem?_map, h] at e2
  exact DF.fnd (Option.some.inj e2) (List.all_eq_true.mp c2 d (List.mem_of_getElem? h))
end
end K55
set_option maxHeartbeats 2000000
/-! All defs keep their promises. -/
namespace K55
open PySem PySem.Spec PyProof.Rows L2
theorem mkDfd {K : Fg} {mg : Str → Option Value} {x : Str} {st : Stmt} (h : Fnd K x x st (He.ga K x)) (e : mg x = some (.ref (He.ga K x))) (k : PySem.W.keepIn K (.ref (He.ga K x)) = true) : Dfd K mg x st := by
  obtain ⟨fd, F, df⟩ := h
  exact ⟨_, fd, ⟨F, e, k⟩, df⟩
theorem law_ok {P : Program} {w : World} {K : Fg} {mg : Str → Option Value} {h : Heap} (X : K.In h) (G : h.Ns mainGlobals mg) (c : SaysK exK fns K) :
    ∃ fd : FuncData, (∀ (s : Shared) (u : Value), BindsTo s fd ⟨[u], []⟩ [("_law_script", u)]) ∧ ∀ base : Heap, FnOk P w K mg base CX0 13 (gA "law" K) fd ["_law_script"] (sp_law K) := by
  obtain ⟨c1, c2⟩ := He.ba c.more
  obtain ⟨c2, c3⟩ := He.ba c2
  obtain ⟨c3, c4⟩ := He.ba c3
  have fact : ∀ (i : Nat) {f : He.Fa}, fas[i]? = some f → f.ok K = true := fun i f h => List.all_eq_true.mp c1 f (List.mem_of_getElem? h)
  have T := (⟨He.free_ok X G (fact 57 (f := .free "range") rfl), He.free_ok X G (fact 58 (f := .free "len") rfl), He.free_ok X G (fact 59 (f := .free "isinstance") rfl), He.free_ok X G (fact 60 (f := .free "all") rfl), He.free_ok X G (fact 61 (f := .free "abs") rfl), He.free_ok X G (fact 62 (f := .free "int") rfl), He.free_ok X G (fact 63 (f := .free "bool") rfl), He.free_ok X G (fact 64 (f := .free "str") rfl), He.free_ok X G (fact 65 (f := .free "tuple") rfl), He.free_ok X G (fact 66 (f := .free "list") rfl), He.free_ok X G (fact 67 (f := .free "set") rfl), He.free_ok X G (fact 68 (f := .free "sorted") rfl), He.free_ok X G (fact 69 (f := .free "enumerate") rfl)⟩ : Blt mg)
  have hK : (⟨K, gA "Net" K, gA "Carpet" K, gA "Woven" K, gA "Part" K⟩ : Gl).K = K := rfl
  have pk := (⟨He.cls_ok (fact 74 (f := .cls "Net") rfl), He.cls_ok (fact 75 (f := .cls "Carpet") rfl), He.cls_ok (fact 76 (f := .cls "Woven") rfl), He.cls_ok (fact 77 (f := .cls "Part") rfl), He.noat_ok (fact 82 (f := .noat "Net" "own_numbers") rfl), He.noat_ok (fact 83 (f := .noat "Carpet" "own_net") rfl), He.noat_ok (fact 84 (f := .noat "Carpet" "own_text") rfl), He.noat_ok (fact 85 (f := .noat "Woven" "own_net") rfl), He.noat_ok (fact 86 (f := .noat "Woven" "own_text") rfl), He.noat_ok (fact 87 (f := .noat "Part" "own_colour") rfl), He.noat_ok (fact 88 (f := .noat "Part" "own_start") rfl), He.noat_ok (fact 89 (f := .noat "Part" "known") rfl), He.noat_ok (fact 90 (f := .noat "Part" "own_places") rfl), He.noat_ok (fact 91 (f := .noat "Part" "own_basis") rfl), He.noat_ok (fact 92 (f := .noat "Part" "own_border") rfl)⟩ : Pk K ⟨K, gA "Net" K, gA "Carpet" K, gA "Woven" K, gA "Part" K⟩)
  have ⟨cp0, cp1, cp2, cp3, cp4, cp5⟩ : propB K "Net" "numbers" = true ∧ propB K "Net" "size" = true ∧ propB K "Carpet" "net" = true ∧ propB K "Part" "size" = true ∧ propB K "Part" "net" = true ∧ propB K "Woven" "net" = true := by
    have z := c2
    obtain ⟨y0, z⟩ := He.ba z
    obtain ⟨y1, z⟩ := He.ba z
    obtain ⟨y2, z⟩ := He.ba z
    obtain ⟨y3, z⟩ := He.ba z
    obtain ⟨y4, z⟩ := He.ba z
    exact ⟨y0, y1, y2, y3, y4, z⟩
  obtain ⟨e1, e⟩ := He.ba c3
  obtain ⟨e2, e3⟩ := He.ba e
  have e1 := of_decide_eq_true e1
  have e2 := of_decide_eq_true e2
  have e3 := of_decide_eq_true e3
  obtain ⟨r1, r⟩ := He.ba c4
  obtain ⟨r2, r3⟩ := He.ba r
  have gl_MOST_ROWS : ∃ u, mg "MOST_ROWS" = some u ∧ RelV (.int 100) u := by
    obtain ⟨t, e⟩ := He.int_ok X G (fact 71 (f := .int "MOST_ROWS" 100) rfl)
    exact ⟨_, e, t, rfl⟩
  have gl_MOST_LETTERS : ∃ u, mg "MOST_LETTERS" = some u ∧ RelV (.int 1000) u := by
    obtain ⟨t, e⟩ := He.int_ok X G (fact 72 (f := .int "MOST_LETTERS" 1000) rfl)
    exact ⟨_, e, t, rfl⟩
  have gl_MOST_PLACES : ∃ u, mg "MOST_PLACES" = some u ∧ RelV (.int 2000) u := by
    obtain ⟨t, e⟩ := He.int_ok X G (fact 73 (f := .int "MOST_PLACES" 2000) rfl)
    exact ⟨_, e, t, rfl⟩
  have gl_LETTERS : ∃ u, mg "LETTERS" = some u ∧ RelV (.str letters) u := by
    obtain ⟨t, e⟩ := He.str_ok X G (fact 70 (f := .str "LETTERS" letters) rfl)
    exact ⟨_, e, t, rfl⟩
  have gm_Carpet := (He.glo_ok X G (fact 53 (f := .glo "Carpet") rfl))
  have gl_Carpet : ∃ u, mg "Carpet" = some u ∧ RelV (.ref (gA "Carpet" K)) u := ⟨_, gm_Carpet, rfl⟩
  have gl_STEPS : ∃ u, mg "STEPS" = some u ∧ RelV (.ref (gA "STEPS" K)) u := ⟨_, (He.glo_ok X G (fact 56 (f := .glo "STEPS") rfl)), rfl⟩
  have hst := stepsB_ok (g := ⟨K, gA "Net" K, gA "Carpet" K, gA "Woven" K, gA "Part" K⟩) r2
  have D_is_integer : Dfd K mg "is_integer" (topS 10) := mkDfd (c.fnd 0 (d := ⟨gA "is_integer", "is_integer", "is_integer", (topS 10)⟩) rfl) (He.glo_ok X G (fact 0 (f := .glo "is_integer") rfl)) (He.keep_ok (fact 102 (f := .keep "is_integer") rfl))
  have D_is_place : Dfd K mg "is_place" (topS 11) := mkDfd (c.fnd 1 (d := ⟨gA "is_place", "is_place", "is_place", (topS 11)⟩) rfl) (He.glo_ok X G (fact 1 (f := .glo "is_place") rfl)) (He.keep_ok (fact 103 (f := .keep "is_place") rfl))
  have D_check_place : Dfd K mg "check_place" (topS 12) := mkDfd (c.fnd 2 (d := ⟨gA "check_place", "check_place", "check_place", (topS 12)⟩) rfl) (He.glo_ok X G (fact 2 (f := .glo "check_place") rfl)) (He.keep_ok (fact 104 (f := .keep "check_place") rfl))
  have D_greatest_divisor : Dfd K mg "greatest_divisor" (topS 13) := mkDfd (c.fnd 3 (d := ⟨gA "greatest_divisor", "greatest_divisor", "greatest_divisor", (topS 13)⟩) rfl) (He.glo_ok X G (fact 3 (f := .glo "greatest_divisor") rfl)) (He.keep_ok (fact 105 (f := .keep "greatest_divisor") rfl))
  have D_divisors : Dfd K mg "divisors" (topS 15) := mkDfd (c.fnd 4 (d := ⟨gA "divisors", "divisors", "divisors", (topS 15)⟩) rfl) (He.glo_ok X G (fact 4 (f := .glo "divisors") rfl)) (He.keep_ok (fact 106 (f := .keep "divisors") rfl))
  have D_plus : Dfd K mg "plus" (topS 16) := mkDfd (c.fnd 5 (d := ⟨gA "plus", "plus", "plus", (topS 16)⟩) rfl) (He.glo_ok X G (fact 5 (f := .glo "plus") rfl)) (He.keep_ok (fact 107 (f := .keep "plus") rfl))
  have D_minus : Dfd K mg "minus" (topS 17) := mkDfd (c.fnd 6 (d := ⟨gA "minus", "minus", "minus", (topS 17)⟩) rfl) (He.glo_ok X G (fact 6 (f := .glo "minus") rfl)) (He.keep_ok (fact 108 (f := .keep "minus") rfl))
  have D_form_of : Dfd K mg "form_of" (topS 22) := mkDfd (c.fnd 7 (d := ⟨gA "form_of", "form_of", "form_of", (topS 22)⟩) rfl) (He.glo_ok X G (fact 7 (f := .glo "form_of") rfl)) (He.keep_ok (fact 109 (f := .keep "form_of") rfl))
  have D_are_numbers : Dfd K mg "are_numbers" (topS 23) := mkDfd (c.fnd 8 (d := ⟨gA "are_numbers", "are_numbers", "are_numbers", (topS 23)⟩) rfl) (He.glo_ok X G (fact 8 (f := .glo "are_numbers") rfl)) (He.keep_ok (fact 110 (f := .keep "are_numbers") rfl))
  have D_is_row : Dfd K mg "is_row" (topS 31) := mkDfd (c.fnd 9 (d := ⟨gA "is_row", "is_row", "is_row", (topS 31)⟩) rfl) (He.glo_ok X G (fact 9 (f := .glo "is_row") rfl)) (He.keep_ok (fact 111 (f := .keep "is_row") rfl))
  have D_check_rows : Dfd K mg "check_rows" (topS 32) := mkDfd (c.fnd 10 (d := ⟨gA "check_rows", "check_rows", "check_rows", (topS 32)⟩) rfl) (He.glo_ok X G (fact 10 (f := .glo "check_rows") rfl)) (He.keep_ok (fact 112 (f := .keep "check_rows") rfl))
  have D_checked_block : Dfd K mg "checked_block" (topS 33) := mkDfd (c.fnd 11 (d := ⟨gA "checked_block", "checked_block", "checked_block", (topS 33)⟩) rfl) (He.glo_ok X G (fact 11 (f := .glo "checked_block") rfl)) (He.keep_ok (fact 113 (f := .keep "checked_block") rfl))
  have D_colour_at : Dfd K mg "colour_at" (topS 34) := mkDfd (c.fnd 12 (d := ⟨gA "colour_at", "colour_at", "colour_at", (topS 34)⟩) rfl) (He.glo_ok X G (fact 12 (f := .glo "colour_at") rfl)) (He.keep_ok (fact 114 (f := .keep "colour_at") rfl))
  have D_is_kept : Dfd K mg "is_kept" (topS 35) := mkDfd (c.fnd 13 (d := ⟨gA "is_kept", "is_kept", "is_kept", (topS 35)⟩) rfl) (He.glo_ok X G (fact 13 (f := .glo "is_kept") rfl)) (He.keep_ok (fact 115 (f := .keep "is_kept") rfl))
  have D_kept_net : Dfd K mg "kept_net" (topS 36) := mkDfd (c.fnd 14 (d := ⟨gA "kept_net", "kept_net", "kept_net", (topS 36)⟩) rfl) (He.glo_ok X G (fact 14 (f := .glo "kept_net") rfl)) (He.keep_ok (fact 116 (f := .keep "kept_net") rfl))
  have D_least_cell : Dfd K mg "least_cell" (topS 37) := mkDfd (c.fnd 15 (d := ⟨gA "least_cell", "least_cell", "least_cell", (topS 37)⟩) rfl) (He.glo_ok X G (fact 15 (f := .glo "least_cell") rfl)) (He.keep_ok (fact 117 (f := .keep "least_cell") rfl))
  have D_neighbours : Dfd K mg "neighbours" (topS 42) := mkDfd (c.fnd 16 (d := ⟨gA "neighbours", "neighbours", "neighbours", (topS 42)⟩) rfl) (He.glo_ok X G (fact 16 (f := .glo "neighbours") rfl)) (He.keep_ok (fact 118 (f := .keep "neighbours") rfl))
  have D_line_basis : Dfd K mg "line_basis" (topS 43) := mkDfd (c.fnd 17 (d := ⟨gA "line_basis", "line_basis", "line_basis", (topS 43)⟩) rfl) (He.glo_ok X G (fact 17 (f := .glo "line_basis") rfl)) (He.keep_ok (fact 119 (f := .keep "line_basis") rfl))
  have D_basis_of : Dfd K mg "basis_of" (topS 44) := mkDfd (c.fnd 18 (d := ⟨gA "basis_of", "basis_of", "basis_of", (topS 44)⟩) rfl) (He.glo_ok X G (fact 18 (f := .glo "basis_of") rfl)) (He.keep_ok (fact 120 (f := .keep "basis_of") rfl))
  have D_part_from : Dfd K mg "part_from" (topS 46) := mkDfd (c.fnd 19 (d := ⟨gA "part_from", "part_from", "part_from", (topS 46)⟩) rfl) (He.glo_ok X G (fact 19 (f := .glo "part_from") rfl)) (He.keep_ok (fact 121 (f := .keep "part_from") rfl))
  have D_parts : Dfd K mg "parts" (topS 47) := mkDfd (c.fnd 20 (d := ⟨gA "parts", "parts", "parts", (topS 47)⟩) rfl) (He.glo_ok X G (fact 20 (f := .glo "parts") rfl)) (He.keep_ok (fact 122 (f := .keep "parts") rfl))
  have D_part_at : Dfd K mg "part_at" (topS 48) := mkDfd (c.fnd 21 (d := ⟨gA "part_at", "part_at", "part_at", (topS 48)⟩) rfl) (He.glo_ok X G (fact 21 (f := .glo "part_at") rfl)) (He.keep_ok (fact 123 (f := .keep "part_at") rfl))
  have D_are_joined : Dfd K mg "are_joined" (topS 49) := mkDfd (c.fnd 22 (d := ⟨gA "are_joined", "are_joined", "are_joined", (topS 49)⟩) rfl) (He.glo_ok X G (fact 22 (f := .glo "are_joined") rfl)) (He.keep_ok (fact 124 (f := .keep "are_joined") rfl))
  have D__law_tape : Dfd K mg "_law_tape" (topS 51) := mkDfd (c.fnd 23 (d := ⟨gA "_law_tape", "_law_tape", "_law_tape", (topS 51)⟩) rfl) (He.glo_ok X G (fact 23 (f := .glo "_law_tape") rfl)) (He.keep_ok (fact 125 (f := .keep "_law_tape") rfl))
  have D__law_draw : Dfd K mg "_law_draw" (topS 52) := mkDfd (c.fnd 24 (d := ⟨gA "_law_draw", "_law_draw", "_law_draw", (topS 52)⟩) rfl) (He.glo_ok X G (fact 24 (f := .glo "_law_draw") rfl)) (He.keep_ok (fact 126 (f := .keep "_law_draw") rfl))
  have D__law_great : Dfd K mg "_law_great" (topS 53) := mkDfd (c.fnd 25 (d := ⟨gA "_law_great", "_law_great", "_law_great", (topS 53)⟩) rfl) (He.glo_ok X G (fact 25 (f := .glo "_law_great") rfl)) (He.keep_ok (fact 127 (f := .keep "_law_great") rfl))
  have D__law_place : Dfd K mg "_law_place" (topS 54) := mkDfd (c.fnd 26 (d := ⟨gA "_law_place", "_law_place", "_law_place", (topS 54)⟩) rfl) (He.glo_ok X G (fact 26 (f := .glo "_law_place") rfl)) (He.keep_ok (fact 128 (f := .keep "_law_place") rfl))
  have D__law_low : Dfd K mg "_law_low" (topS 55) := mkDfd (c.fnd 27 (d := ⟨gA "_law_low", "_law_low", "_law_low", (topS 55)⟩) rfl) (He.glo_ok X G (fact 27 (f := .glo "_law_low") rfl)) (He.keep_ok (fact 129 (f := .keep "_law_low") rfl))
  have D__law_spots : Dfd K mg "_law_spots" (topS 56) := mkDfd (c.fnd 28 (d := ⟨gA "_law_spots", "_law_spots", "_law_spots", (topS 56)⟩) rfl) (He.glo_ok X G (fact 28 (f := .glo "_law_spots") rfl)) (He.keep_ok (fact 130 (f := .keep "_law_spots") rfl))
  have D__law_seen : Dfd K mg "_law_seen" (topS 57) := mkDfd (c.fnd 29 (d := ⟨gA "_law_seen", "_law_seen", "_law_seen", (topS 57)⟩) rfl) (He.glo_ok X G (fact 29 (f := .glo "_law_seen") rfl)) (He.keep_ok (fact 131 (f := .keep "_law_seen") rfl))
  have D__law_net : Dfd K mg "_law_net" (topS 58) := mkDfd (c.fnd 30 (d := ⟨gA "_law_net", "_law_net", "_law_net", (topS 58)⟩) rfl) (He.glo_ok X G (fact 30 (f := .glo "_law_net") rfl)) (He.keep_ok (fact 132 (f := .keep "_law_net") rfl))
  have D__law_turned : Dfd K mg "_law_turned" (topS 59) := mkDfd (c.fnd 31 (d := ⟨gA "_law_turned", "_law_turned", "_law_turned", (topS 59)⟩) rfl) (He.glo_ok X G (fact 31 (f := .glo "_law_turned") rfl)) (He.keep_ok (fact 133 (f := .keep "_law_turned") rfl))
  have D__law_kinds : Dfd K mg "_law_kinds" (topS 60) := mkDfd (c.fnd 32 (d := ⟨gA "_law_kinds", "_law_kinds", "_law_kinds", (topS 60)⟩) rfl) (He.glo_ok X G (fact 32 (f := .glo "_law_kinds") rfl)) (He.keep_ok (fact 134 (f := .keep "_law_kinds") rfl))
  have D__law_carried : Dfd K mg "_law_carried" (topS 61) := mkDfd (c.fnd 33 (d := ⟨gA "_law_carried", "_law_carried", "_law_carried", (topS 61)⟩) rfl) (He.glo_ok X G (fact 33 (f := .glo "_law_carried") rfl)) (He.keep_ok (fact 135 (f := .keep "_law_carried") rfl))
  have D__law_divisor : Dfd K mg "_law_divisor" (topS 62) := mkDfd (c.fnd 34 (d := ⟨gA "_law_divisor", "_law_divisor", "_law_divisor", (topS 62)⟩) rfl) (He.glo_ok X G (fact 34 (f := .glo "_law_divisor") rfl)) (He.keep_ok (fact 136 (f := .keep "_law_divisor") rfl))
  have D__law_net_of : Dfd K mg "_law_net_of" (topS 63) := mkDfd (c.fnd 35 (d := ⟨gA "_law_net_of", "_law_net_of", "_law_net_of", (topS 63)⟩) rfl) (He.glo_ok X G (fact 35 (f := .glo "_law_net_of") rfl)) (He.keep_ok (fact 137 (f := .keep "_law_net_of") rfl))
  have D__law_keeps : Dfd K mg "_law_keeps" (topS 64) := mkDfd (c.fnd 36 (d := ⟨gA "_law_keeps", "_law_keeps", "_law_keeps", (topS 64)⟩) rfl) (He.glo_ok X G (fact 36 (f := .glo "_law_keeps") rfl)) (He.keep_ok (fact 138 (f := .keep "_law_keeps") rfl))
  have D__law_move : Dfd K mg "_law_move" (topS 65) := mkDfd (c.fnd 37 (d := ⟨gA "_law_move", "_law_move", "_law_move", (topS 65)⟩) rfl) (He.glo_ok X G (fact 37 (f := .glo "_law_move") rfl)) (He.keep_ok (fact 139 (f := .keep "_law_move") rfl))
  have D__law_tied : Dfd K mg "_law_tied" (topS 66) := mkDfd (c.fnd 38 (d := ⟨gA "_law_tied", "_law_tied", "_law_tied", (topS 66)⟩) rfl) (He.glo_ok X G (fact 38 (f := .glo "_law_tied") rfl)) (He.keep_ok (fact 140 (f := .keep "_law_tied") rfl))
  have D__law_letters : Dfd K mg "_law_letters" (topS 67) := mkDfd (c.fnd 39 (d := ⟨gA "_law_letters", "_law_letters", "_law_letters", (topS 67)⟩) rfl) (He.glo_ok X G (fact 39 (f := .glo "_law_letters") rfl)) (He.keep_ok (fact 141 (f := .keep "_law_letters") rfl))
  have D__law_square : Dfd K mg "_law_square" (topS 68) := mkDfd (c.fnd 40 (d := ⟨gA "_law_square", "_law_square", "_law_square", (topS 68)⟩) rfl) (He.glo_ok X G (fact 40 (f := .glo "_law_square") rfl)) (He.keep_ok (fact 142 (f := .keep "_law_square") rfl))
  have D__law_copied : Dfd K mg "_law_copied" (topS 69) := mkDfd (c.fnd 41 (d := ⟨gA "_law_copied", "_law_copied", "_law_copied", (topS 69)⟩) rfl) (He.glo_ok X G (fact 41 (f := .glo "_law_copied") rfl)) (He.keep_ok (fact 143 (f := .keep "_law_copied") rfl))
  have D__law_woven : Dfd K mg "_law_woven" (topS 70) := mkDfd (c.fnd 42 (d := ⟨gA "_law_woven", "_law_woven", "_law_woven", (topS 70)⟩) rfl) (He.glo_ok X G (fact 42 (f := .glo "_law_woven") rfl)) (He.keep_ok (fact 144 (f := .keep "_law_woven") rfl))
  have D__law_exact : Dfd K mg "_law_exact" (topS 71) := mkDfd (c.fnd 43 (d := ⟨gA "_law_exact", "_law_exact", "_law_exact", (topS 71)⟩) rfl) (He.glo_ok X G (fact 43 (f := .glo "_law_exact") rfl)) (He.keep_ok (fact 145 (f := .keep "_law_exact") rfl))
  have D__law_made : Dfd K mg "_law_made" (topS 72) := mkDfd (c.fnd 44 (d := ⟨gA "_law_made", "_law_made", "_law_made", (topS 72)⟩) rfl) (He.glo_ok X G (fact 44 (f := .glo "_law_made") rfl)) (He.keep_ok (fact 146 (f := .keep "_law_made") rfl))
  have D__law_is_kept : Dfd K mg "_law_is_kept" (topS 73) := mkDfd (c.fnd 45 (d := ⟨gA "_law_is_kept", "_law_is_kept", "_law_is_kept", (topS 73)⟩) rfl) (He.glo_ok X G (fact 45 (f := .glo "_law_is_kept") rfl)) (He.keep_ok (fact 147 (f := .keep "_law_is_kept") rfl))
  have D__law_least : Dfd K mg "_law_least" (topS 74) := mkDfd (c.fnd 46 (d := ⟨gA "_law_least", "_law_least", "_law_least", (topS 74)⟩) rfl) (He.glo_ok X G (fact 46 (f := .glo "_law_least") rfl)) (He.keep_ok (fact 148 (f := .keep "_law_least") rfl))
  have D__law_near : Dfd K mg "_law_near" (topS 75) := mkDfd (c.fnd 47 (d := ⟨gA "_law_near", "_law_near", "_law_near", (topS 75)⟩) rfl) (He.glo_ok X G (fact 47 (f := .glo "_law_near") rfl)) (He.keep_ok (fact 149 (f := .keep "_law_near") rfl))
  have D__law_groups : Dfd K mg "_law_groups" (topS 76) := mkDfd (c.fnd 48 (d := ⟨gA "_law_groups", "_law_groups", "_law_groups", (topS 76)⟩) rfl) (He.glo_ok X G (fact 48 (f := .glo "_law_groups") rfl)) (He.keep_ok (fact 150 (f := .keep "_law_groups") rfl))
  have D__law_is_inner : Dfd K mg "_law_is_inner" (topS 77) := mkDfd (c.fnd 49 (d := ⟨gA "_law_is_inner", "_law_is_inner", "_law_is_inner", (topS 77)⟩) rfl) (He.glo_ok X G (fact 49 (f := .glo "_law_is_inner") rfl)) (He.keep_ok (fact 151 (f := .keep "_law_is_inner") rfl))
  have D__law_right : Dfd K mg "_law_right" (topS 78) := mkDfd (c.fnd 50 (d := ⟨gA "_law_right", "_law_right", "_law_right", (topS 78)⟩) rfl) (He.glo_ok X G (fact 50 (f := .glo "_law_right") rfl)) (He.keep_ok (fact 152 (f := .keep "_law_right") rfl))
  obtain ⟨fd, F, df⟩ := (c.fnd 51 (d := ⟨gA "law", "law", "law", (topS 79)⟩) rfl)
  have hb : ∀ (s : Shared) (u : Value), BindsTo s fd ⟨[u], []⟩ [("_law_script", u)] := by
    obtain ⟨oc, od, dV, kV, doc, pm, an, cdv, ct, osl, rfl, lk, hcd⟩ := F.ex
    have df : dV = .none := df
    subst df
    exact fun s u => .of_eq rfl
  refine ⟨fd, hb, fun base => ?_⟩
  have c_is_integer := cal_is_integer (P := P) (w := w) (base := base) (hK := hK) (T := T) (h := D_is_integer)
  have c_is_place := cal_is_place (P := P) (w := w) (base := base) (hK := hK) (T := T) (h := D_is_place) (c_is_integer := c_is_integer)
  have c_check_place := cal_check_place (P := P) (w := w) (base := base) (hK := hK) (T := T) (h := D_check_place) (c_is_place := c_is_place)
  have c_greatest_divisor := cal_greatest_divisor (P := P) (w := w) (base := base) (hK := hK) (T := T) (h := D_greatest_divisor)
  have c_divisors := cal_divisors (P := P) (w := w) (base := base) (hK := hK) (T := T) (h := D_divisors)
  have c_plus := cal_plus (P := P) (w := w) (base := base) (hK := hK) (T := T) (h := D_plus)
  have c_minus := cal_minus (P := P) (w := w) (base := base) (hK := hK) (T := T) (h := D_minus)
  have c_form_of := cal_form_of (P := P) (w := w) (base := base) (hK := hK) (T := T) (h := D_form_of) (c_greatest_divisor := c_greatest_divisor)
  have c_are_numbers := cal_are_numbers (P := P) (w := w) (base := base) (hK := hK) (T := T) (h := D_are_numbers) (c_is_integer := c_is_integer)
  have c_plusK := cal_plusK (P := P) (w := w) (base := base) (hK := hK) (T := T) (h := D_plus)
  have c_neighbours := cal_neighbours (P := P) (w := w) (base := base) (hK := hK) (T := T) (h := D_neighbours) (c_plus := c_plusK) (gl_STEPS := gl_STEPS) (hst := hst)
  have c_line_basis := cal_line_basis (P := P) (w := w) (base := base) (hK := hK) (T := T) (h := D_line_basis)
  have c_basis_of := cal_basis_of (P := P) (w := w) (base := base) (hK := hK) (T := T) (h := D_basis_of) (c_form_of := c_form_of) (c_line_basis := c_line_basis)
  have fNi := fn_Net___init__ (P := P) (w := w) (base := base) (hK := hK) (T := T) (pk := pk) (h := (c.fnd 52 (d := ⟨mA "Net" "__init__", "__init__", "Net.__init__", (inClass (topS 25) 0)⟩) rfl)) (c_are_numbers := c_are_numbers)
  have mk_Net := fNi.mak (He.mkr_ok (fact 78 (f := .mkr "Net") rfl)) (He.glo_ok X G (fact 52 (f := .glo "Net") rfl))
  have fNp := fn_Net_place_in_cell (P := P) (w := w) (base := base) (hK := hK) (T := T) (pk := pk) (h := (c.fnd 53 (d := ⟨mA "Net" "place_in_cell", "place_in_cell", "Net.place_in_cell", (inClass (topS 25) 6)⟩) rfl))
  have m_place_in_cell := fNp.met pk.clN (He.meth_ok (fact 93 (f := .meth "Net" "place_in_cell") rfl))
  have fNs := fn_Net_spots (P := P) (w := w) (base := base) (hK := hK) (T := T) (pk := pk) (h := (c.fnd 55 (d := ⟨mA "Net" "spots", "spots", "Net.spots", (inClass (topS 25) 15)⟩) rfl))
  have m_spots := fNs.met pk.clN (He.meth_ok (fact 95 (f := .meth "Net" "spots") rfl))
  have fc_ok := fn_Net___contains__ (P := P) (w := w) (base := base) (hK := hK) (T := T) (pk := pk) (h := (c.fnd 54 (d := ⟨mA "Net" "__contains__", "__contains__", "Net.__contains__", (inClass (topS 25) 7)⟩) rfl)) (c_is_place := c_is_place) (m_place_in_cell := m_place_in_cell)
  have me_c := (He.meth_ok (fact 94 (f := .meth "Net" "__contains__") rfl))
  have fNn := fn_Net_numbers (P := P) (w := w) (base := base) (hK := hK) (T := T) (pk := pk) (h := (c.fnd 63 (d := ⟨pA "Net" "numbers", "numbers", "Net.numbers", (inClass (topS 25) 3)⟩) rfl))
  have p_Nnumbers : Prp P w K mg base 1 (gA "Net" K) "numbers" (sp_Net_numbers ⟨K, gA "Net" K, gA "Carpet" K, gA "Woven" K, gA "Part" K⟩) := ⟨_, _, pk.clN, propB_ok cp0, fNn⟩
  have fNz := fn_Net_size (P := P) (w := w) (base := base) (hK := hK) (T := T) (pk := pk) (h := (c.fnd 64 (d := ⟨pA "Net" "size", "size", "Net.size", (inClass (topS 25) 4)⟩) rfl))
  have p_Nsize : Prp P w K mg base 1 (gA "Net" K) "size" (sp_Net_size ⟨K, gA "Net" K, gA "Carpet" K, gA "Woven" K, gA "Part" K⟩) := ⟨_, _, pk.clN, propB_ok cp1, fNz⟩
  have c_colour_at := cal_colour_at (P := P) (w := w) (base := base) (hK := hK) (T := T) (h := D_colour_at) (m_place_in_cell := m_place_in_cell) (m_spots := m_spots) (p_Nnumbers := p_Nnumbers) (mk_Net := mk_Net)
  have c_is_kept := cal_is_kept (P := P) (w := w) (base := base) (hK := hK) (T := T) (h := D_is_kept) (c_colour_at := c_colour_at) (c_plus := c_plus) (m_place_in_cell := m_place_in_cell) (m_spots := m_spots) (p_Nnumbers := p_Nnumbers) (mk_Net := mk_Net)
  have c_kept_net := cal_kept_net (P := P) (w := w) (base := base) (hK := hK) (T := T) (h := D_kept_net) (c_divisors := c_divisors) (c_is_kept := c_is_kept) (m_place_in_cell := m_place_in_cell) (m_spots := m_spots) (p_Nnumbers := p_Nnumbers) (mk_Net := mk_Net)
  have c_least_cell := cal_least_cell (P := P) (w := w) (base := base) (hK := hK) (T := T) (h := D_least_cell) (c_kept_net := c_kept_net) (c_colour_at := c_colour_at) (m_place_in_cell := m_place_in_cell) (m_spots := m_spots) (p_Nnumbers := p_Nnumbers) (mk_Net := mk_Net)
  have c_is_row := cal_is_row (P := P) (w := w) (base := base) (hK := hK) (T := T) (h := D_is_row)
  have c_check_rows := cal_check_rows (P := P) (w := w) (base := base) (hK := hK) (T := T) (h := D_check_rows) (c_is_row := c_is_row)
  have c_checked_block := cal_checked_block (P := P) (w := w) (base := base) (hK := hK) (T := T) (h := D_checked_block) (c_check_rows := c_check_rows) (c_is_integer := c_is_integer) (gl_LETTERS := gl_LETTERS) (gl_MOST_ROWS := gl_MOST_ROWS) (gl_MOST_LETTERS := gl_MOST_LETTERS) (m_place_in_cell := m_place_in_cell) (m_spots := m_spots) (p_Nnumbers := p_Nnumbers) (mk_Net := mk_Net)
  have fWi := fn_Woven___init__ (P := P) (w := w) (base := base) (hK := hK) (T := T) (pk := pk) (h := (c.fnd 60 (d := ⟨mA "Woven" "__init__", "__init__", "Woven.__init__", (inClass (topS 39) 0)⟩) rfl)) (c_least_cell := c_least_cell)
  have mk_Woven := fWi.mak (He.mkr_ok (fact 80 (f := .mkr "Woven") rfl)) (He.glo_ok X G (fact 54 (f := .glo "Woven") rfl))
  have ci_ok := fn_Carpet___init__ (P := P) (w := w) (base := base) (hK := hK) (T := T) (pk := pk) (h := (c.fnd 57 (d := ⟨mA "Carpet" "__init__", "__init__", "Carpet.__init__", (inClass (topS 38) 0)⟩) rfl)) (c_checked_block := c_checked_block) (c_least_cell := c_least_cell)
  have ci_mk := (He.mkr_ok (fact 79 (f := .mkr "Carpet") rfl))
  have on_ok := fn_Carpet_on (P := P) (w := w) (base := base) (hK := hK) (T := T) (pk := pk) (h := (c.fnd 68 (d := ⟨sA "Carpet" "on", "on", "Carpet.on", (inClass (topS 38) 1)⟩) rfl)) (c_is_row := c_is_row) (gl_MOST_PLACES := gl_MOST_PLACES) (gl_LETTERS := gl_LETTERS) (p_Nsize := p_Nsize) (mk_Woven := mk_Woven)
  have on_sm := statB_ok r1
  have fCn := fn_Carpet_net (P := P) (w := w) (base := base) (hK := hK) (T := T) (pk := pk) (h := (c.fnd 65 (d := ⟨pA "Carpet" "net", "net", "Carpet.net", (inClass (topS 38) 3)⟩) rfl))
  have pC_net : Prp P w K mg base 1 (gA "Carpet" K) "net" (sp_Carpet_net ⟨K, gA "Net" K, gA "Carpet" K, gA "Woven" K, gA "Part" K⟩) := ⟨_, _, pk.clC, propB_ok cp2, fCn⟩
  have pW_net : Prp P w K mg base 1 (gA "Woven" K) "net" (sp_Carpet_net ⟨K, gA "Net" K, gA "Carpet" K, gA "Woven" K, gA "Part" K⟩) := ⟨_, _, pk.clW, propB_ok cp5, (by rw [e3]; exact fCn)⟩
  have fCs := fn_Carpet_seen (P := P) (w := w) (base := base) (hK := hK) (T := T) (pk := pk) (h := (c.fnd 58 (d := ⟨mA "Carpet" "seen", "seen", "Carpet.seen", (inClass (topS 38) 7)⟩) rfl)) (c_colour_at := c_colour_at)
  have mC_seen := fCs.met pk.clC (He.meth_ok (fact 97 (f := .meth "Carpet" "seen") rfl))
  have mWs := (He.meth_ok (fact 99 (f := .meth "Woven" "seen") rfl))
  rw [show He.ma K (He.ga K "Woven") "seen" = _ from e1] at mWs
  have mW_seen := fCs.met pk.clW mWs
  have gC_ok := fn_Carpet___getitem__ (P := P) (w := w) (base := base) (hK := hK) (T := T) (pk := pk) (h := (c.fnd 59 (d := ⟨mA "Carpet" "__getitem__", "__getitem__", "Carpet.__getitem__", (inClass (topS 38) 8)⟩) rfl)) (c_is_place := c_is_place) (mC_seen := mC_seen) (mW_seen := mW_seen)
  have gC_me := (He.meth_ok (fact 98 (f := .meth "Carpet" "__getitem__") rfl))
  have gW_me := (He.meth_ok (fact 100 (f := .meth "Woven" "__getitem__") rfl))
  rw [show He.ma K (He.ga K "Woven") "__getitem__" = _ from e2] at gW_me
  have gC_in := r3
  have fPi := fn_Part___init__ (P := P) (w := w) (base := base) (hK := hK) (T := T) (pk := pk) (h := (c.fnd 61 (d := ⟨mA "Part" "__init__", "__init__", "Part.__init__", (inClass (topS 45) 0)⟩) rfl)) (c_basis_of := c_basis_of)
  have mk_Part := fPi.mak (He.mkr_ok (fact 81 (f := .mkr "Part") rfl)) (He.glo_ok X G (fact 55 (f := .glo "Part") rfl))
  have fPz := fn_Part_size (P := P) (w := w) (base := base) (hK := hK) (T := T) (pk := pk) (h := (c.fnd 66 (d := ⟨pA "Part" "size", "size", "Part.size", (inClass (topS 45) 5)⟩) rfl))
  have p_Psize : Prp P w K mg base 1 (gA "Part" K) "size" (sp_Part_size ⟨K, gA "Net" K, gA "Carpet" K, gA "Woven" K, gA "Part" K⟩) := ⟨_, _, pk.clP, propB_ok cp3, fPz⟩
  have fPn := fn_Part_net (P := P) (w := w) (base := base) (hK := hK) (T := T) (pk := pk) (h := (c.fnd 67 (d := ⟨pA "Part" "net", "net", "Part.net", (inClass (topS 45) 7)⟩) rfl)) (mk_Net := mk_Net)
  have p_Pnet : Prp P w K mg base 5 (gA "Part" K) "net" (sp_Part_net ⟨K, gA "Net" K, gA "Carpet" K, gA "Woven" K, gA "Part" K⟩) := ⟨_, _, pk.clP, propB_ok cp4, fPn⟩
  have fPc := fn_Part_carries (P := P) (w := w) (base := base) (hK := hK) (T := T) (pk := pk) (h := (c.fnd 62 (d := ⟨mA "Part" "carries", "carries", "Part.carries", (inClass (topS 45) 9)⟩) rfl)) (p_Pnet := p_Pnet) (fc_ok := fc_ok) (me_c := me_c)
  have m_carries := fPc.met pk.clP (He.meth_ok (fact 101 (f := .meth "Part" "carries") rfl))
  have c_part_from := cal_part_from (P := P) (w := w) (base := base) (hK := hK) (T := T) (h := D_part_from) (c_neighbours := c_neighbours) (c_minus := c_minus) (m_place_in_cell := m_place_in_cell) (pC_net := pC_net) (pW_net := pW_net) (mC_seen := mC_seen) (mW_seen := mW_seen) (mk_Part := mk_Part)
  have f_cell := (c.fnd 56 (d := ⟨mA "Net" "cell", "cell", "Net.cell", (inClass (topS 25) 16)⟩) rfl)
  have me_cell := (He.meth_ok (fact 96 (f := .meth "Net" "cell") rfl))
  have c_parts := cal_parts (P := P) (w := w) (base := base) (hK := hK) (T := T) (h := D_parts) (pk := pk) (f_cell := f_cell) (me_cell := me_cell) (pC_net := pC_net) (pW_net := pW_net) (c_part_from := c_part_from)
  have c_part_at := cal_part_at (P := P) (w := w) (base := base) (hK := hK) (T := T) (h := D_part_at) (c_check_place := c_check_place) (c_parts := c_parts) (pk := pk) (m_place_in_cell := m_place_in_cell) (pC_net := pC_net) (pW_net := pW_net)
  have c_are_joined := cal_are_joined (P := P) (w := w) (base := base) (hK := hK) (T := T) (h := D_are_joined) (c_check_place := c_check_place) (c_minus := c_minus) (c_part_at := c_part_at) (pk := pk) (m_place_in_cell := m_place_in_cell) (pC_net := pC_net) (pW_net := pW_net) (m_carries := m_carries)
  have c__law_draw := cal__law_draw (P := P) (w := w) (base := base) (hK := hK) (T := T) (h := D__law_draw)
  have c__law_great := cal__law_great (P := P) (w := w) (base := base) (hK := hK) (T := T) (h := D__law_great) (c__law_draw := c__law_draw)
  have c__law_place := cal__law_place (P := P) (w := w) (base := base) (hK := hK) (T := T) (h := D__law_place) (c__law_great := c__law_great)
  have c__law_low := cal__law_low (P := P) (w := w) (base := base) (hK := hK) (T := T) (h := D__law_low)
  have c__law_spots := cal__law_spots (P := P) (w := w) (base := base) (hK := hK) (T := T) (h := D__law_spots)
  have c__law_seen := cal__law_seen (P := P) (w := w) (base := base) (hK := hK) (T := T) (h := D__law_seen) (c__law_low := c__law_low)
  have c__law_net := cal__law_net (P := P) (w := w) (base := base) (hK := hK) (T := T) (h := D__law_net) (c__law_draw := c__law_draw)
  have c__law_turned := cal__law_turned (P := P) (w := w) (base := base) (hK := hK) (T := T) (h := D__law_turned)
  have c__law_kinds := cal__law_kinds (P := P) (w := w) (base := base) (hK := hK) (T := T) (h := D__law_kinds)
  have c__law_carried := cal__law_carried (P := P) (w := w) (base := base) (hK := hK) (T := T) (h := D__law_carried) (c__law_turned := c__law_turned)
  have c__law_divisor := cal__law_divisor (P := P) (w := w) (base := base) (hK := hK) (T := T) (h := D__law_divisor)
  have c__law_net_of := cal__law_net_of (P := P) (w := w) (base := base) (hK := hK) (T := T) (h := D__law_net_of) (c__law_divisor := c__law_divisor)
  have c__law_keeps := cal__law_keeps (P := P) (w := w) (base := base) (hK := hK) (T := T) (h := D__law_keeps) (c__law_turned := c__law_turned) (c__law_low := c__law_low)
  have c__law_move := cal__law_move (P := P) (w := w) (base := base) (hK := hK) (T := T) (h := D__law_move) (c__law_kinds := c__law_kinds) (c__law_keeps := c__law_keeps) (c__law_draw := c__law_draw)
  have c__law_tied := cal__law_tied (P := P) (w := w) (base := base) (hK := hK) (T := T) (h := D__law_tied) (c__law_spots := c__law_spots) (c__law_low := c__law_low) (c__law_carried := c__law_carried)
  have c__law_letters := cal__law_letters (P := P) (w := w) (base := base) (hK := hK) (T := T) (h := D__law_letters) (c__law_draw := c__law_draw)
  have c__law_square := cal__law_square (P := P) (w := w) (base := base) (hK := hK) (T := T) (h := D__law_square) (c__law_draw := c__law_draw)
  have c__law_copied := cal__law_copied (P := P) (w := w) (base := base) (hK := hK) (T := T) (h := D__law_copied) (c__law_draw := c__law_draw) (c__law_seen := c__law_seen) (c__law_spots := c__law_spots)
  have c__law_woven := cal__law_woven (P := P) (w := w) (base := base) (hK := hK) (T := T) (h := D__law_woven) (c__law_draw := c__law_draw) (c__law_net := c__law_net) (c__law_copied := c__law_copied) (c__law_square := c__law_square) (c__law_letters := c__law_letters) (c__law_move := c__law_move) (c__law_tied := c__law_tied) (c__law_divisor := c__law_divisor) (c__law_spots := c__law_spots)
  have c__law_is_kept := cal__law_is_kept (P := P) (w := w) (base := base) (hK := hK) (T := T) (h := D__law_is_kept) (c__law_spots := c__law_spots) (c__law_keeps := c__law_keeps) (c__law_seen := c__law_seen) (c__law_carried := c__law_carried)
  have c__law_exact := cal__law_exact (P := P) (w := w) (base := base) (hK := hK) (T := T) (h := D__law_exact) (c__law_spots := c__law_spots) (c__law_net_of := c__law_net_of) (c__law_is_kept := c__law_is_kept) (c__law_seen := c__law_seen)
  have c__law_made := cal__law_made (P := P) (w := w) (base := base) (hK := hK) (T := T) (h := D__law_made) (pk := pk) (c__law_draw := c__law_draw) (mk_Net := mk_Net) (on_ok := on_ok) (on_sm := on_sm) (ci_ok := ci_ok) (ci_mk := ci_mk) (gm_Carpet := gm_Carpet) (gl_Carpet := gl_Carpet)
  have c__law_least := cal__law_least (P := P) (w := w) (base := base) (hK := hK) (T := T) (h := D__law_least) (c__law_woven := c__law_woven) (c__law_exact := c__law_exact)
  have c__law_near := cal__law_near (P := P) (w := w) (base := base) (hK := hK) (T := T) (h := D__law_near)
  have c__law_groups := cal__law_groups (P := P) (w := w) (base := base) (hK := hK) (T := T) (h := D__law_groups) (c__law_near := c__law_near)
  have c__law_is_inner := cal__law_is_inner (P := P) (w := w) (base := base) (hK := hK) (T := T) (h := D__law_is_inner)
  have c__law_right := cal__law_right (P := P) (w := w) (base := base) (hK := hK) (T := T) (h := D__law_right) (pk := pk) (c__law_draw := c__law_draw) (c__law_groups := c__law_groups) (c__law_is_inner := c__law_is_inner) (c_part_at := c_part_at) (c_are_joined := c_are_joined) (p_Psize := p_Psize) (gC_ok := gC_ok) (gC_me := gC_me) (gW_me := gW_me) (gC_in := gC_in)
  have c__law_tape := cal__law_tape (P := P) (w := w) (base := base) (T := T) (h := D__law_tape)
  exact ok_law (g := ⟨K, gA "Net" K, gA "Carpet" K, gA "Woven" K, gA "Part" K⟩) hK T F c__law_tape c__law_least c__law_made c__law_right c__law_place
theorem law_at {K : Fg} {mg : Str → Option Value} {h : Heap} (X : K.In h) (G : h.Ns mainGlobals mg) (c : SaysK exK fns K) : mg "law" = some (.ref (gA "law" K)) :=
  He.glo_ok X G (List.all_eq_true.mp (He.ba c.more).1 (.glo "law") (List.mem_of_getElem? (i := 51) rfl))
end K55
set_option maxHeartbeats 0
open PySem PySem.W PySem.Calls PyProof.Rows
theorem PySem.Challenge.cw_carpets_k55_whole_parts_beside_windows_holds : PySem.Challenge.rw_carpets_k55_whole_parts_beside_windows.Holds := by
  w_on; o_law
  refine HandSHeadRun.head_any (r := OpenLaw.row PySem.Challenge.rw_carpets_k55_whole_parts_beside_windows) (q := K55.qv) (H := K55.hookK K55.exK K55.fns) (ob := K55.obK K55.exK K55.fns) (M := 12000) (loose := K55.names) (d := HandSHeadRun.topDef (OpenLaw.row PySem.Challenge.rw_carpets_k55_whole_parts_beside_windows).prog 79) (kwd := []) (K55.obK_eq K55.exK K55.fns)
    (by kernel_rfl) (fun s => by kernel_rfl) K55.top_run (by kernel_rfl) (by kernel_rfl) (by kernel_rfl) (by rfl) (by first | assumption | decide +kernel) (by decide +kernel) ⟨rfl, rfl, rfl, rfl, rfl, by decide +kernel⟩ ?hw ?hc
  case hw => w_witness2
  case hc =>
    refine L2.walk_ofE (l := PySem.Challenge.rw_carpets_k55_whole_parts_beside_windows) (n := 63) (k := 13) (x := "_law_script") (CX := L2.CX0) rfl (by decide) (by kernel_rfl) ⟨rfl, by decide, by decide⟩ ?F (fun _ _ _ _ z => z)
    intro w mg fa h Y G hmg0
    obtain ⟨K, KX, c⟩ := Y
    have hmg : mg ("law" : PySem.Str) = some (.ref fa) := by
      have e : (HandSHeadRun.topDef (OpenLaw.row PySem.Challenge.rw_carpets_k55_whole_parts_beside_windows).prog 79).name = ("law" : PySem.Str) := by kernel_rfl
      rw [← e]
      exact hmg0
    obtain ⟨fd, hb, hF⟩ := K55.law_ok (P := (PySem.Challenge.rw_carpets_k55_whole_parts_beside_windows).prog) (w := w) KX G c
    have ea : fa = K55.gA "law" K := Value.ref.inj (Option.some.inj (hmg.symm.trans (K55.law_at KX G c)))
    subst ea
    exact ⟨K, fd, K55.sp_law K, KX, hb, fun H a ns hl _ hS => ⟨a, ns, rfl, hS, fun _ => rfl⟩, fun base _ _ => hF base⟩
