import PyProof.Rows.All
import Wide.All
import OpenK.AllK
import Wide.FinOn
import KE.KStateDown
import HandS.ForMost
import HandS.Exc
import HandS.TryOnly
import HandS.TryMany
import HandS.ExcOwn
import HandS.WordsExc
import HandS.CallSlots
import HandS.ExcIs
import HandS.ExcField
import HandS.HotCalls
import HandS.IsInst
import HandS.Wide
import HandS.Defaults
import HandS.Head0
import HandS.Head1
import HandS.Head2
import HandS.HeadEnd
import HandS.HeadHook1
import HandS.HeadHook2
import HandS.ClsMeth
import HandS.SlotsOwn
import HandS.Star
import HandS.SortInts
import HandS.Conv
import HandS.CallLocal
import KE.KOpsOwn
import PyProof.TupleOfSeq
import HandS.Strs
import HandS.TupAny
import HandS.GenList
import HandS.ExcValue
import HandS.SetFor
import KE.KExcIs
import HandS.StrMore
import HandS.FStr
import KE.KDictKeyed
import KE.KDictDisplayH
import KE.GoesEnum
import KE.GoesEnumKw
import HandS.OwnIter
import HandS.IterVal
import HandS.Property
import KE.KExcSuper
import HandS.ExcInit
import KE.KSuper
import HandS.SetBool
import HandS.ReplaceLit
import HandS.Codes
import HandS.NoneIn
import KE.SortData
import KE.DatumOrd
import PySem.Challenge.RW_ownlabels_k25_whole_forms_of_states
set_option Elab.async false
set_option linter.all false
set_option maxRecDepth 100000
set_option maxHeartbeats 4000000
namespace LW
open PySem PySem.Spec PyProof.Rows L2
inductive D where
  | non | bl (b : Bool) | int (i : Int) | str (s : Str)
  | tup (ds : List D) | lst (ds : List D) | ins (C : Addr) (ns : List Str) (ds : List D) | adr (a : Addr)
mutual
def D.py : D → PyData
  | .non => .none
  | .bl b => .bool b
  | .int i => .int i
  | .str s => .str s
  | .tup ds => .tuple (D.pys ds)
  | .lst ds => .list (D.pys ds)
  | .ins _ _ _ => .none
  | .adr _ => .none
def D.pys : List D → List PyData
  | [] => []
  | d :: ds => d.py :: D.pys ds
end
structure DefW where
  at_ : PySem.W.Frag → Addr
  name : Str
  qual : Str
  params : Arguments
  body : List Stmt
  scope : Scope
  dfl : List He.Dv
  /-- it says super(); its class -/
  sup : Option Str := none
def fnWA (K : PySem.W.Frag) (sup : Option Str) (a : Addr) : He.FnW := match K.lookup a with
  | some ⟨_, _, .func fd, _⟩ => some (fd.name, fd.qualname, fd.params, fd.body, fd.scope, fd.globals, (match sup with | some _ => fd.closure.map fun p => (p.1, 0) | none => fd.closure), fd.builtins)
  | _ => none
def DefW.val (d : DefW) : He.FnW := some (d.name, d.qual, d.params, .stmts d.body, d.scope, mainGlobals, (match d.sup with | some _ => [("__class__", 0)] | none => []), builtinsNs)
def supB (K : PySem.W.Frag) (D : Addr) (fd : FuncData) : Bool := (match fd.closure with
  | [(_, cc)] => (match K.lookup cc with
    | some ⟨_, _, .cell (some (.ref D')), _⟩ => decide (D' = D)
    | _ => false)
  | _ => false) && ((match fd.code with
  | .ref cda => (match K.lookup cda with
    | some ⟨_, _, .fields vs, _⟩ => (match vs[2]? with
      | some (Value.str file _) => decide (file = "/claim/cut.py")
      | _ => false)
    | _ => false)
  | _ => false) && (PySem.W.clsIn K D).isSome)
def DefW.dvs (K : PySem.W.Frag) (d : DefW) : List V := d.dfl.map (He.Dv.v K)
def DefW.ok (K : PySem.W.Frag) (d : DefW) : Bool := PySem.W.keepIn K (.ref (d.at_ K)) && (match K.lookup (d.at_ K) with
  | some ⟨_, _, .func fd, _⟩ => PySem.W.codeIn K fd.code d.qual && He.dflB K fd.defaults (d.dvs K) && (match d.sup with
    | some C => supB K (He.ga K C) fd
    | none => true)
  | _ => false)
abbrev AlW : Type := Bool × List He.FnW
def obsW (fa : List He.Fa) (fn : List DefW) (ex : PySem.W.Frag → List Bool) (K : PySem.W.Frag) : AlW := ((fa.all fun f => f.ok K) && ((fn.all fun d => d.ok K) && (ex K).all id), fn.map fun d => fnWA K d.sup (d.at_ K))
def valW (fn : List DefW) : AlW := (true, fn.map DefW.val)
def SaysW (fa : List He.Fa) (fn : List DefW) (ex : PySem.W.Frag → List Bool) (K : PySem.W.Frag) : Prop := obsW fa fn ex K = valW fn
def levM (k : Nat → List Addr → List Addr) : List Addr → Nat → List Addr → List Addr
  | [], m, new => k m new
  | a :: r, m, new => bif Nat.beq (Nat.mod (Nat.shiftRight m a) 2) 1 then levM k r m new else levM k r (Nat.add m (Nat.pow 2 a)) (a :: new)
def asM (g : Addr → Option Obj) : Nat → Nat → List Addr → List Addr
  | 0, _, fr => fr
  | n + 1, m, fr => fr ++ levM (asM g n) (fr.flatMap fun a => match g a with
    | some o => He.refsD o
    | none => []) m []
def asW (g : Addr → Option Obj) : List Addr := asM g 5 (2 ^ mainGlobals) [mainGlobals] ++ [cStatics]
def hookW (fa : List He.Fa) (fn : List DefW) (ex : PySem.W.Frag → List Bool) : PySem.W.Hook where
  α := AlW
  obs := fun s => obsW fa fn ex (He.frG s.heap.get? (asW s.heap.get?))
  val := fun _ => valW fn
  says := fun _ h => ∃ K : PySem.W.Frag, K.In h ∧ SaysW fa fn ex K
  of := fun _ _ e => ⟨_, He.frG_in, e⟩
  keeps := fun _ _ _ ⟨K, hK, q⟩ k => ⟨K, PySem.W.Frag.In.keeps hK k, q⟩
def obT (fa : List He.Fa) (fn : List DefW) (ex : PySem.W.Frag → List Bool) (s : PySem.W.SharedT) : AlW := obsW fa fn ex (He.frG (HandSHeadRun.getT s) (asW (HandSHeadRun.getT s)))
section
variable {fa : List He.Fa} {fn : List DefW} {ex : PySem.W.Frag → List Bool} {K : PySem.W.Frag}
theorem SaysW.all (c : SaysW fa fn ex K) : (fa.all fun f => f.ok K) = true ∧ (fn.all fun d => d.ok K) = true ∧ (ex K).all id = true := by
  have z := Bool.and_eq_true_iff.mp (show ((fa.all fun f => f.ok K) && ((fn.all fun d => d.ok K) && (ex K).all id)) = true from congrArg (fun z : AlW => z.1) c)
  exact ⟨z.1, Bool.and_eq_true_iff.mp z.2⟩
end
end LW
namespace LW
open PySem PySem.Spec PyProof.Rows L2
section
variable {K : PySem.W.Frag} {x m : Str}
def cmoB (K : PySem.W.Frag) (x m : Str) : Bool := decide (PySem.W.findIn K (.ref (He.ga K x)) m = some (some (.ref (He.ma K (He.ga K x) m)))) && PySem.W.isFn K (.ref (He.ma K (He.ga K x) m))
def opoB (K : PySem.W.Frag) (x m : Str) : Bool := PySem.W.selfFirst K (He.ga K x) && cmoB K x m
def crdB (K : PySem.W.Frag) (x : Str) : Bool := PySem.W.readsIn K (He.ga K x) (.type "type") && decide (PySem.W.specialIn K (.ref (He.ga K x)) "__getattribute__" = some (some (.builtin "type.__getattribute__")))
def cvlB (K : PySem.W.Frag) (x m : Str) (i : Int) : Bool := match PySem.W.findCls K (.ref (He.ga K x)) (.type "type") m with
  | some (.val (.int j _)) => decide (j = i)
  | _ => false
end
end LW
namespace LW
open PySem PySem.Spec PyProof.Rows L2
def valB : V → Value → Bool
  | .int i, .int j _ => decide (i = j)
  | .str a, .str b _ => decide (a = b)
  | _, _ => false
def valsB : List V → List Value → Bool
  | [], [] => true
  | v :: vs, u :: us => valB v u && valsB vs us
  | _, _ => false
def ctB (K : PySem.W.Frag) (x : Str) (vs : List V) : Bool := match K.lookup (He.ga K x) with
  | some ⟨.type "tuple", none, .seq its _, _⟩ => decide (its.size ≤ sizeLine) && valsB vs its.toList
  | _ => false
end LW
namespace LW
open PySem PySem.Spec PyProof.Rows L2
def itoB (K : PySem.W.Frag) (x : Str) : Bool := cmoB K x "__iter__"
end LW

namespace LW
open PySem PySem.Spec PyProof.Rows L2
end LW
namespace LW
open PySem PySem.Spec PyProof.Rows L2
def top (i : Nat) : Stmt := PySem.Challenge.pw_ownlabels_k25_whole_forms_of_states.main.body.getD i (.Pass ⟨0, 0, 0, 0⟩)
abbrev s__law_begin : Stmt := top 23
abbrev N__law_begin : List Str := ["_law_script"]
def d__law_begin : DefW := ⟨fun K => He.ga K "_law_begin", "_law_begin", "_law_begin", defArgs s__law_begin, defBody s__law_begin, defScope s__law_begin, [], none⟩
abbrev A__law_begin (K : PySem.W.Frag) : Addr := He.ga K "_law_begin"
abbrev s__law_draw : Stmt := top 24
abbrev N__law_draw : List Str := ["_law_tape", "_law_many", "_law_cell", "_law_number"]
def d__law_draw : DefW := ⟨fun K => He.ga K "_law_draw", "_law_draw", "_law_draw", defArgs s__law_draw, defBody s__law_draw, defScope s__law_draw, [], none⟩
abbrev A__law_draw (K : PySem.W.Frag) : Addr := He.ga K "_law_draw"
abbrev s__law_instruction : Stmt := top 27
abbrev N__law_instruction : List Str := ["_law_tape", "_law_lines", "_law_conditions", "_law_kind", "_law_condition"]
def d__law_instruction : DefW := ⟨fun K => He.ga K "_law_instruction", "_law_instruction", "_law_instruction", defArgs s__law_instruction, defBody s__law_instruction, defScope s__law_instruction, [], none⟩
abbrev A__law_instruction (K : PySem.W.Frag) : Addr := He.ga K "_law_instruction"
abbrev s__law_written : Stmt := top 28
abbrev N__law_written : List Str := ["_law_tape", "_law_most", "_law_lines", "_law_k"]
def d__law_written : DefW := ⟨fun K => He.ga K "_law_written", "_law_written", "_law_written", defArgs s__law_written, defBody s__law_written, defScope s__law_written, [], none⟩
abbrev A__law_written (K : PySem.W.Frag) : Addr := He.ga K "_law_written"
abbrev s__law_shuffled : Stmt := top 26
abbrev N__law_shuffled : List Str := ["_law_tape", "_law_cells", "_law_left", "_law_places", "_law_k"]
def d__law_shuffled : DefW := ⟨fun K => He.ga K "_law_shuffled", "_law_shuffled", "_law_shuffled", defArgs s__law_shuffled, defBody s__law_shuffled, defScope s__law_shuffled, [], none⟩
abbrev A__law_shuffled (K : PySem.W.Frag) : Addr := He.ga K "_law_shuffled"
abbrev s__law_home : Stmt := top 29
abbrev N__law_home : List Str := ["_law_tape", "_law_lines", "_law_workers", "_law_cells", "_law_instructions", "_law_orders_here", "_law_k"]
def d__law_home : DefW := ⟨fun K => He.ga K "_law_home", "_law_home", "_law_home", defArgs s__law_home, defBody s__law_home, defScope s__law_home, [], none⟩
abbrev A__law_home (K : PySem.W.Frag) : Addr := He.ga K "_law_home"
abbrev s_Numbering___init__ : Stmt := inClass (top 9) 1
abbrev N_Numbering___init__ : List Str := ["self", "places", "many"]
def d_Numbering___init__ : DefW := ⟨fun K => He.ma K (He.ga K "Numbering") "__init__", "__init__", "Numbering.__init__", defArgs s_Numbering___init__, defBody s_Numbering___init__, defScope s_Numbering___init__, [], none⟩
abbrev A_Numbering___init__ (K : PySem.W.Frag) : Addr := He.ma K (He.ga K "Numbering") "__init__"
abbrev s_Numbering___len__ : Stmt := inClass (top 9) 11
abbrev N_Numbering___len__ : List Str := ["self"]
def d_Numbering___len__ : DefW := ⟨fun K => He.ma K (He.ga K "Numbering") "__len__", "__len__", "Numbering.__len__", defArgs s_Numbering___len__, defBody s_Numbering___len__, defScope s_Numbering___len__, [], none⟩
abbrev A_Numbering___len__ (K : PySem.W.Frag) : Addr := He.ma K (He.ga K "Numbering") "__len__"
abbrev s_System___init__ : Stmt := inClass (top 21) 0
abbrev N_System___init__ : List Str := ["self", "program", "numberings", "capacity", "numbering"]
def d_System___init__ : DefW := ⟨fun K => He.ma K (He.ga K "System") "__init__", "__init__", "System.__init__", defArgs s_System___init__, defBody s_System___init__, defScope s_System___init__, [.int 1], none⟩
abbrev A_System___init__ (K : PySem.W.Frag) : Addr := He.ma K (He.ga K "System") "__init__"
abbrev s__line_number : Stmt := top 14
abbrev N__line_number : List Str := ["word", "lines", "line"]
def d__line_number : DefW := ⟨fun K => He.ga K "_line_number", "_line_number", "_line_number", defArgs s__line_number, defBody s__line_number, defScope s__line_number, [], none⟩
abbrev A__line_number (K : PySem.W.Frag) : Addr := He.ga K "_line_number"
abbrev s__parsed : Stmt := top 15
abbrev N__parsed : List Str := ["text", "lines", "words", "verb", "target"]
def d__parsed : DefW := ⟨fun K => He.ga K "_parsed", "_parsed", "_parsed", defArgs s__parsed, defBody s__parsed, defScope s__parsed, [], none⟩
abbrev A__parsed (K : PySem.W.Frag) : Addr := He.ga K "_parsed"
abbrev s_Program___init__ : Stmt := inClass (top 16) 1
abbrev N_Program___init__ : List Str := ["self", "instructions", "rows", "line", "text", "row"]
def d_Program___init__ : DefW := ⟨fun K => He.ma K (He.ga K "Program") "__init__", "__init__", "Program.__init__", defArgs s_Program___init__, defBody s_Program___init__, defScope s_Program___init__, [], none⟩
abbrev A_Program___init__ (K : PySem.W.Frag) : Addr := He.ma K (He.ga K "Program") "__init__"
abbrev s__law_made : Stmt := top 31
abbrev N__law_made : List Str := ["_law_house", "_law_numberings", "_law_places"]
def d__law_made : DefW := ⟨fun K => He.ga K "_law_made", "_law_made", "_law_made", defArgs s__law_made, defBody s__law_made, defScope s__law_made, [], none⟩
abbrev A__law_made (K : PySem.W.Frag) : Addr := He.ga K "_law_made"
abbrev s__law_orders : Stmt := top 37
abbrev N__law_orders : List Str := ["_law_workers", "_law_rows", "_law_k", "_law_longer", "_law_row", "_law_number"]
def d__law_orders : DefW := ⟨fun K => He.ga K "_law_orders", "_law_orders", "_law_orders", defArgs s__law_orders, defBody s__law_orders, defScope s__law_orders, [], none⟩
abbrev A__law_orders (K : PySem.W.Frag) : Addr := He.ga K "_law_orders"
abbrev s__law_exchanged : Stmt := top 35
abbrev N__law_exchanged : List Str := ["_law_orders_here", "_law_order", "_law_moved", "_law_k"]
def d__law_exchanged : DefW := ⟨fun K => He.ga K "_law_exchanged", "_law_exchanged", "_law_exchanged", defArgs s__law_exchanged, defBody s__law_exchanged, defScope s__law_exchanged, [], none⟩
abbrev A__law_exchanged (K : PySem.W.Frag) : Addr := He.ga K "_law_exchanged"
abbrev s__law_renamed : Stmt := top 36
abbrev N__law_renamed : List Str := ["_law_orders_here", "_law_places", "_law_row", "_law_place"]
def d__law_renamed : DefW := ⟨fun K => He.ga K "_law_renamed", "_law_renamed", "_law_renamed", defArgs s__law_renamed, defBody s__law_renamed, defScope s__law_renamed, [], none⟩
abbrev A__law_renamed (K : PySem.W.Frag) : Addr := He.ga K "_law_renamed"
abbrev s__law_symmetries : Stmt := top 39
abbrev N__law_symmetries : List Str := ["_law_orders_here", "_law_found", "_law_order", "_law_moved", "_law_places", "_law_place"]
def d__law_symmetries : DefW := ⟨fun K => He.ga K "_law_symmetries", "_law_symmetries", "_law_symmetries", defArgs s__law_symmetries, defBody s__law_symmetries, defScope s__law_symmetries, [], none⟩
abbrev A__law_symmetries (K : PySem.W.Frag) : Addr := He.ga K "_law_symmetries"
abbrev s__law_drawn_state : Stmt := top 32
abbrev N__law_drawn_state : List Str := ["_law_tape", "_law_house", "_law_cells", "_law_contents", "_law_pairs", "_law_k"]
def d__law_drawn_state : DefW := ⟨fun K => He.ga K "_law_drawn_state", "_law_drawn_state", "_law_drawn_state", defArgs s__law_drawn_state, defBody s__law_drawn_state, defScope s__law_drawn_state, [], none⟩
abbrev A__law_drawn_state (K : PySem.W.Frag) : Addr := He.ga K "_law_drawn_state"
abbrev s__law_exchange : Stmt := top 33
abbrev N__law_exchange : List Str := ["_law_state", "_law_order", "_law_contents", "_law_pairs", "_law_k", "_law_content"]
def d__law_exchange : DefW := ⟨fun K => He.ga K "_law_exchange", "_law_exchange", "_law_exchange", defArgs s__law_exchange, defBody s__law_exchange, defScope s__law_exchange, [], none⟩
abbrev A__law_exchange (K : PySem.W.Frag) : Addr := He.ga K "_law_exchange"
abbrev s__law_rename : Stmt := top 34
abbrev N__law_rename : List Str := ["_law_state", "_law_places", "_law_contents", "_law_place"]
def d__law_rename : DefW := ⟨fun K => He.ga K "_law_rename", "_law_rename", "_law_rename", defArgs s__law_rename, defBody s__law_rename, defScope s__law_rename, [], none⟩
abbrev A__law_rename (K : PySem.W.Frag) : Addr := He.ga K "_law_rename"
abbrev s_every_numbering : Stmt := top 10
abbrev N_every_numbering : List Str := ["cells", "rows", "_", "row", "begun", "place"]
def d_every_numbering : DefW := ⟨fun K => He.ga K "every_numbering", "every_numbering", "every_numbering", defArgs s_every_numbering, defBody s_every_numbering, defScope s_every_numbering, [], none⟩
abbrev A_every_numbering (K : PySem.W.Frag) : Addr := He.ga K "every_numbering"
abbrev s_Numbering___iter__ : Stmt := inClass (top 9) 12
abbrev N_Numbering___iter__ : List Str := ["self"]
def d_Numbering___iter__ : DefW := ⟨fun K => He.ma K (He.ga K "Numbering") "__iter__", "__iter__", "Numbering.__iter__", defArgs s_Numbering___iter__, defBody s_Numbering___iter__, defScope s_Numbering___iter__, [], none⟩
abbrev A_Numbering___iter__ (K : PySem.W.Frag) : Addr := He.ma K (He.ga K "Numbering") "__iter__"
abbrev s__former : Stmt := top 18
abbrev N__former : List Str := ["order", "workers", "number"]
def d__former : DefW := ⟨fun K => He.ga K "_former", "_former", "_former", defArgs s__former, defBody s__former, defScope s__former, [], none⟩
abbrev A__former (K : PySem.W.Frag) : Addr := He.ga K "_former"
abbrev s_System_exchanged : Stmt := inClass (top 21) 9
abbrev N_System_exchanged : List Str := ["self", "order", "numberings", "k"]
def d_System_exchanged : DefW := ⟨fun K => He.ma K (He.ga K "System") "exchanged", "exchanged", "System.exchanged", defArgs s_System_exchanged, defBody s_System_exchanged, defScope s_System_exchanged, [], none⟩
abbrev A_System_exchanged (K : PySem.W.Frag) : Addr := He.ma K (He.ga K "System") "exchanged"
abbrev s_Numbering___invert__ : Stmt := inClass (top 9) 6
abbrev N_Numbering___invert__ : List Str := ["self", "place"]
def d_Numbering___invert__ : DefW := ⟨fun K => He.ma K (He.ga K "Numbering") "__invert__", "__invert__", "Numbering.__invert__", defArgs s_Numbering___invert__, defBody s_Numbering___invert__, defScope s_Numbering___invert__, [], none⟩
abbrev A_Numbering___invert__ (K : PySem.W.Frag) : Addr := He.ma K (He.ga K "Numbering") "__invert__"
abbrev s_Numbering___mul__ : Stmt := inClass (top 9) 5
abbrev N_Numbering___mul__ : List Str := ["self", "other", "place"]
def d_Numbering___mul__ : DefW := ⟨fun K => He.ma K (He.ga K "Numbering") "__mul__", "__mul__", "Numbering.__mul__", defArgs s_Numbering___mul__, defBody s_Numbering___mul__, defScope s_Numbering___mul__, [], none⟩
abbrev A_Numbering___mul__ (K : PySem.W.Frag) : Addr := He.ma K (He.ga K "Numbering") "__mul__"
abbrev s_System_renamed : Stmt := inClass (top 21) 10
abbrev N_System_renamed : List Str := ["self", "numbering", "own"]
def d_System_renamed : DefW := ⟨fun K => He.ma K (He.ga K "System") "renamed", "renamed", "System.renamed", defArgs s_System_renamed, defBody s_System_renamed, defScope s_System_renamed, [], none⟩
abbrev A_System_renamed (K : PySem.W.Frag) : Addr := He.ma K (He.ga K "System") "renamed"
abbrev s_exchange : Stmt := top 19
abbrev N_exchange : List Str := ["state", "order", "contents", "pairs", "former", "renumbered", "content", "k"]
def d_exchange : DefW := ⟨fun K => He.ga K "exchange", "exchange", "exchange", defArgs s_exchange, defBody s_exchange, defScope s_exchange, [], none⟩
abbrev A_exchange (K : PySem.W.Frag) : Addr := He.ga K "exchange"
abbrev s_rename : Stmt := top 20
abbrev N_rename : List Str := ["state", "numbering", "contents", "pairs", "back", "place"]
def d_rename : DefW := ⟨fun K => He.ga K "rename", "rename", "rename", defArgs s_rename, defBody s_rename, defScope s_rename, [], none⟩
abbrev A_rename (K : PySem.W.Frag) : Addr := He.ga K "rename"
abbrev s_System_form : Stmt := inClass (top 21) 11
abbrev N_System_form : List Str := ["self", "state", "triples", "numbering", "order", "exchanged", "back", "renamed", "contents", "pairs", "place", "own"]
def d_System_form : DefW := ⟨fun K => He.ma K (He.ga K "System") "form", "form", "System.form", defArgs s_System_form, defBody s_System_form, defScope s_System_form, [], none⟩
abbrev A_System_form (K : PySem.W.Frag) : Addr := He.ma K (He.ga K "System") "form"
abbrev s__law_form : Stmt := top 38
abbrev N__law_form : List Str := ["_law_orders_here", "_law_state", "_law_triples", "_law_order", "_law_moved", "_law_back", "_law_contents", "_law_pairs", "_law_place", "_law_row"]
def d__law_form : DefW := ⟨fun K => He.ga K "_law_form", "_law_form", "_law_form", defArgs s__law_form, defBody s__law_form, defScope s__law_form, [], none⟩
abbrev A__law_form (K : PySem.W.Frag) : Addr := He.ga K "_law_form"
abbrev s__law_same : Stmt := top 25
abbrev N__law_same : List Str := ["_law_actual", "_law_expected", "_law_k"]
def d__law_same : DefW := ⟨fun K => He.ga K "_law_same", "_law_same", "_law_same", defArgs s__law_same, defBody s__law_same, defScope s__law_same, [], none⟩
abbrev A__law_same (K : PySem.W.Frag) : Addr := He.ga K "_law_same"
abbrev s_law : Stmt := top 40
abbrev N_law : List Str := ["_law_script", "_law_tape", "_law_lines", "_law_house", "_law_workers", "_law_cells", "_law_kind", "_law_by", "_law_system", "_law_symmetries_here", "_law_state", "_law_other", "_law_chosen", "_law_moved", "_law_alike", "_law_form_here", "_law_order", "_law_places", "_law_twin", "_law_place", "_law_k"]
def d_law : DefW := ⟨fun K => He.ga K "law", "law", "law", defArgs s_law, defBody s_law, defScope s_law, [], none⟩
abbrev A_law (K : PySem.W.Frag) : Addr := He.ga K "law"
def fn : List DefW := [d__law_begin, d__law_draw, d__law_instruction, d__law_written, d__law_shuffled, d__law_home, d_Numbering___init__, d_Numbering___len__, d_System___init__, d__line_number, d__parsed, d_Program___init__, d__law_made, d__law_orders, d__law_exchanged, d__law_renamed, d__law_symmetries, d__law_drawn_state, d__law_exchange, d__law_rename, d_every_numbering, d_Numbering___iter__, d__former, d_System_exchanged, d_Numbering___invert__, d_Numbering___mul__, d_System_renamed, d_exchange, d_rename, d_System_form, d__law_form, d__law_same, d_law]
def fa : List He.Fa := [.free "abs", .free "bool", .free "enumerate", .free "int", .free "isinstance", .free "iter", .free "len", .free "list", .free "min", .free "range", .free "sorted", .free "str", .free "tuple", .glo "_law_begin", .glo "_law_draw", .glo "_law_instruction", .glo "_law_written", .glo "_law_shuffled", .glo "_law_home", .glo "_line_number", .glo "_parsed", .glo "_law_made", .glo "_law_orders", .glo "_law_exchanged", .glo "_law_renamed", .glo "_law_symmetries", .glo "_law_drawn_state", .glo "_law_exchange", .glo "_law_rename", .glo "every_numbering", .glo "_former", .glo "exchange", .glo "rename", .glo "_law_form", .glo "_law_same", .glo "law", .glo "Numbering", .glo "Program", .glo "System", .glo "BadNumbering", .glo "BadSize", .glo "CONDITIONS", .glo "MOVES", .exc "BadNumbering", .exc "BadSize", .mkr "Numbering", .mkr "Program", .mkr "System", .meth "System" "exchanged", .meth "System" "form", .meth "System" "renamed", .cls "Numbering", .cls "Program", .cls "System", .noat "Numbering" "places", .noat "Program" "instructions", .noat "Program" "rows", .noat "System" "program", .noat "System" "numberings", .noat "System" "workers", .noat "System" "cells", .noat "System" "capacity"]
def exB (K : PySem.W.Frag) : List Bool := [(cmoB K "Numbering" "__invert__"), (cmoB K "Numbering" "__len__"), (crdB K "Numbering"), (crdB K "Program"), (ctB K "CONDITIONS" [.str "first", .str "empty", .str "mine", .str "other", .str "none", .str "full", .str "enough", .str "behind"]), (ctB K "MOVES" [.str "take", .str "give", .str "on"]), (cvlB K "Numbering" "MOST" 12), (cvlB K "Program" "LONGEST" 24), (itoB K "Numbering"), (opoB K "Numbering" "__mul__")]
abbrev RRow : PySem.W.OpenRow := PySem.W.OpenLaw.row PySem.Challenge.rw_ownlabels_k25_whole_forms_of_states
abbrev hkW : PySem.W.Hook := hookW fa fn exB
def looseN : List PySem.Str := (["_wall", "HallError", "BadNumbering", "BadSize", "BadInstruction", "BadProgram", "NoCell", "Numbering", "every_numbering", "CONDITIONS", "MOVES", "_line_number", "_parsed", "Program", "_former", "exchange", "rename", "System", "_law_begin", "_law_draw", "_law_same", "_law_shuffled", "_law_instruction", "_law_written", "_law_home", "_law_split", "_law_made", "_law_drawn_state", "_law_exchange", "_law_rename"] : List PySem.Str) ++ (["_law_exchanged", "_law_renamed", "_law_orders", "_law_form", "_law_symmetries"] : List PySem.Str)
set_option maxHeartbeats 0 in
theorem runW (w : World) : HandSHeadRun.RunEq RRow (PySem.W.view RRow.prog [40]) hkW (obT fa fn exB) 8000 looseN w := by
  intro os
  kernel_rfl

end LW
namespace LW
open PySem PySem.Spec PyProof.Rows L2
def immNames : List (List Str) := [["places"], ["instructions", "rows"], ["program", "numberings", "workers", "cells", "capacity"], ["system", "system"], ["system", "schedule", "system"], ["system", "schedule", "cycle", "system"], ["system", "states", "ranks", "levels", "helpers", "system"]]
def imm (ns : List Str) : Bool := decide (ns ∈ immNames)
def pers : HO → Bool
  | .lst _ => false
  | .dK _ => false
  | .dT _ => false
  | .set _ _ => false
  | .ext _ => false
  | .ins _ _ fs => imm (fs.map (·.1))
  | _ => true
mutual
inductive Rep (K : PySem.W.Frag) (H : Hp) : D → V → Prop
  | non : Rep K H .non .non
  | bl (b : Bool) : Rep K H (.bl b) (.bl b)
  | int (i : Int) : Rep K H (.int i) (.int i)
  | str (s : Str) : Rep K H (.str s) (.str s)
  | adr (a : Addr) : Rep K H (.adr a) (.ref a)
  | tup {a : Addr} {xs : List V} {ds : List D} : SqT K H a xs → Reps K H ds xs → Rep K H (.tup ds) (.ref a)
  | lst {a : Addr} {xs : List V} {ds : List D} : SqL K H a xs → Reps K H ds xs → Rep K H (.lst ds) (.ref a)
  | ins {a C dx : Addr} {ns : List Str} {xs : List V} {ds : List D} : H a = some (.ins C dx (ns.zip xs)) → imm ns = true → ns.length = ds.length → Reps K H ds xs → Rep K H (.ins C ns ds) (.ref a)
inductive Reps (K : PySem.W.Frag) (H : Hp) : List D → List V → Prop
  | nil : Reps K H [] []
  | cons {d : D} {ds : List D} {v : V} {vs : List V} : Rep K H d v → Reps K H ds vs → Reps K H (d :: ds) (v :: vs)
end
mutual
def D.pure : D → Bool
  | .tup ds => D.pures ds
  | .lst _ => false
  | .ins _ _ ds => D.pures ds
  | _ => true
def D.pures : List D → Bool
  | [] => true
  | d :: ds => d.pure && D.pures ds
end
structure Gr (S : List Addr) (H H' : Hp) : Prop where
  keep : ∀ a o, H a = some o → a ∉ S → H' a = some o
  mu : ∀ a, a ∈ S → ∃ o, H a = some o ∧ pers o = false
section
variable {K : PySem.W.Frag} {H H' H1 H2 : Hp} {S S' : List Addr} {a l p : Addr} {o : HO} {xs ys : List V}
theorem Gr.refl (H : Hp) : Gr [] H H := ⟨fun _ _ h _ => h, fun _ h => by cases h⟩
theorem Gr.get (g : Gr S H H') (h : H a = some o) (hp : pers o = true) : H' a = some o := g.keep a o h fun m => by
  obtain ⟨u, h1, h2⟩ := g.mu a m
  rw [h] at h1
  cases h1
  rw [hp] at h2
  cases h2
theorem Gr.get0 (g : Gr [] H H') (h : H a = some o) : H' a = some o := g.keep a o h (by simp)
theorem Gr.trans (g : Gr S H H1) (g' : Gr S' H1 H2) (hs : ∀ a, a ∈ S' → a ∈ S ∨ H a = none) : Gr S H H2 :=
  ⟨fun a o h m => g'.keep a o (g.keep a o h m) fun m' => by
    rcases hs a m' with q | q
    · exact m q
    · exact absurd (h.symm.trans q) (by simp), g.mu⟩
theorem Gr.trans0 (g : Gr S H H1) (g' : Gr [] H1 H2) : Gr S H H2 := g.trans g' fun _ h => by cases h
theorem Gr.transN (g : Gr S H H1) (g' : Gr [l] H1 H2) (h : H l = none) : Gr S H H2 := g.trans g' fun a m => by
  have e : a = l := by simpa using m
  subst e
  exact .inr h
theorem Gr.weak (g : Gr [] H H') (h : ∀ a, a ∈ S → ∃ o, H a = some o ∧ pers o = false) : Gr S H H' := ⟨fun a o e _ => g.keep a o e (by simp), h⟩
theorem Gr.new (h : H p = none) : Gr [] H (upd H p o) := ⟨fun a u e _ => by rw [upd_ne (ne_of_none e h)]; exact e, fun _ m => by cases m⟩
theorem Gr.wr (h : H l = some (.lst xs)) : Gr [l] H (upd H l o) := ⟨fun a u e m => by
    rw [upd_ne (by simpa using m)]
    exact e, fun a m => by
    have e : a = l := by simpa using m
    subst e
    exact ⟨_, h, rfl⟩⟩
theorem Gr.free (g : Gr S H H') (h : H' p = none) (hp : p ∉ S) : H p = none := by
  cases q : H p with
  | none => rfl
  | some u =>
    rw [g.keep p u q hp] at h
    cases h
theorem Gr.free0 (g : Gr [] H H') (h : H' p = none) : H p = none := g.free h (by simp)
theorem Gr.free1 (g : Gr [l] H H') (h : H' p = none) (ne : p ≠ l) : H p = none := g.free h (by simpa using ne)
theorem Gr.sqt (g : Gr S H H') (h : SqT K H a xs) : SqT K H' a xs := by
  rcases h with (h | ⟨u, h⟩) | h
  · exact .inl (.inl (g.get h rfl))
  · exact .inl (.inr ⟨u, g.get h rfl⟩)
  · exact .inr h
theorem Gr.sql0 (g : Gr [] H H') (h : SqL K H a xs) : SqL K H' a xs := by
  rcases h with (h | ⟨u, h⟩) | h
  · exact .inl (.inl (g.get0 h))
  · exact .inl (.inr ⟨u, g.get0 h⟩)
  · exact .inr h
theorem Gr.sql (g : Gr S H H') (h : SqL K H a xs) (hn : a ∉ S) : SqL K H' a xs := by
  rcases h with (h | ⟨u, h⟩) | h
  · exact .inl (.inl (g.keep _ _ h hn))
  · exact .inl (.inr ⟨u, g.keep _ _ h hn⟩)
  · exact .inr h
end
mutual
theorem Rep.gr {K : PySem.W.Frag} {H H' : Hp} {S : List Addr} (g : Gr S H H') : ∀ {d : D} {v : V}, Rep K H d v → d.pure = true → Rep K H' d v
  | _, _, .non, _ => .non
  | _, _, .bl b, _ => .bl b
  | _, _, .int b, _ => .int b
  | _, _, .str b, _ => .str b
  | _, _, .adr b, _ => .adr b
  | _, _, .tup h r, q => .tup (g.sqt h) (Reps.gr g r q)
  | _, _, .lst h r, q => nomatch (show false = true from q)
  | _, _, .ins (ns := ns) (xs := xs) (ds := ds) h i l r, q => .ins (g.get h (by
      have e : xs.length = ds.length := Reps.len r
      show imm ((ns.zip xs).map (·.1)) = true
      rw [List.map_fst_zip (by omega)]
      exact i)) i l (Reps.gr g r q)
theorem Reps.gr {K : PySem.W.Frag} {H H' : Hp} {S : List Addr} (g : Gr S H H') : ∀ {ds : List D} {vs : List V}, Reps K H ds vs → D.pures ds = true → Reps K H' ds vs
  | _, _, .nil, _ => .nil
  | _, _, .cons h r, q => by
    have q2 := Bool.and_eq_true_iff.mp q
    exact .cons (Rep.gr g h q2.1) (Reps.gr g r q2.2)
theorem Reps.len {K : PySem.W.Frag} {H : Hp} : ∀ {ds : List D} {vs : List V}, Reps K H ds vs → vs.length = ds.length
  | _, _, .nil => rfl
  | _, _, .cons _ r => congrArg Nat.succ (Reps.len r)
end
mutual
theorem Rep.gr0 {K : PySem.W.Frag} {H H' : Hp} (g : Gr [] H H') : ∀ {d : D} {v : V}, Rep K H d v → Rep K H' d v
  | _, _, .non => .non
  | _, _, .bl b => .bl b
  | _, _, .int b => .int b
  | _, _, .str b => .str b
  | _, _, .adr b => .adr b
  | _, _, .tup h r => .tup (g.sqt h) (Reps.gr0 g r)
  | _, _, .lst h r => .lst (g.sql0 h) (Reps.gr0 g r)
  | _, _, .ins h i l r => .ins (g.get0 h) i l (Reps.gr0 g r)
theorem Reps.gr0 {K : PySem.W.Frag} {H H' : Hp} (g : Gr [] H H') : ∀ {ds : List D} {vs : List V}, Reps K H ds vs → Reps K H' ds vs
  | _, _, .nil => .nil
  | _, _, .cons h r => .cons (Rep.gr0 g h) (Reps.gr0 g r)
end
def noFd : FuncData := PySem.W.fnOf Str.empty Str.empty ⟨[], [], none, [], [], none, []⟩ [] ⟨.function, [], false, false, []⟩ .none .none .none .none none .none .none
def fdA (K : PySem.W.Frag) (a : Addr) : FuncData := match K.lookup a with
  | some ⟨_, _, .func fd, _⟩ => fd
  | _ => noFd
theorem fdA_of {K : PySem.W.Frag} {x qual : Str} {params : Arguments} {body : List Stmt} {scope : Scope} {dvs : List V} {kws : List (Str × V)} {f : Addr} (h : ∃ fd, FunD K x qual params body scope dvs kws f fd) : FunD K x qual params body scope dvs kws f (fdA K f) := by
  obtain ⟨fd, h⟩ := h
  have e : fdA K f = fd := by
    obtain ⟨oc, od, dV, kV, doc, pm, an, cdv, ct, osl, _, lk, _⟩ := h.ex
    unfold fdA
    rw [lk]
  rw [e]
  exact h
theorem okT {P : Program} {w : World} {K : PySem.W.Frag} {mg : Str → Option Value} {base : Heap} {x qual : Str} {params : Arguments} {body : List Stmt} {scope : Scope} {dvs : List V} {kws : List (Str × V)} {f : Addr} {fd : FuncData} {N ps : List Str} {k : Nat} {sp : Sp}
    (F : FunD K x qual params body scope dvs kws f fd) (S : FnScope N ps scope) (len : ∀ vs H Q E, sp vs H Q E → vs.length = ps.length)
    (hbody : ∀ (cdv : Value) (A : Around) (outer : List Env) (s : Shared) (H : Hp) (vs : List V) (Q : VK) (E : XK), Room k (A.deeper (envOfC qual scope s.heap.objs.size f cdv)) → sp vs H Q E →
      L2N.Takes (cxOf (L2N.CX P w) P w K mg base N qual scope f cdv A outer s H E) (fun cls d _ H' => E cls d H') →
      PassesOwn (model P w) (cxOf (L2N.CX P w) P w K mg base N qual scope f cdv A outer s H E).A (cxOf (L2N.CX P w) P w K mg base N qual scope f cdv A outer s H E).env (cxOf (L2N.CX P w) P w K mg base N qual scope f cdv A outer s H E).xe →
      ∃ t, PSs (cxOf (L2N.CX P w) P w K mg base N qual scope f cdv A outer s H E) body t ∧ t { nx := fun _ H' => Q .non H', rt := Q } (start N vs) H) : FnOk P w K mg base (L2N.CX P w) (k + 1) f fd ps sp :=
  F.ok S len fun cdv A outer s H vs Q E hr h => hbody cdv A outer s H vs Q E hr h (L2N.takes_of rfl rfl rfl rfl) (passes_of rfl)
abbrev TSu := Addr → Value → Option Addr → TS
abbrev TSv := Addr → Value → Option Addr → Obj → List (Addr × Obj) → TS
def oeZ : Obj := ⟨.none, none, .plain, #[]⟩
def endsNo (i : Nat) (D : Ends) : Ends := { nx := fun σ H => D.nx (σ.set i none) H, rt := D.rt, bk := fun σ H => D.bk (σ.set i none) H, ct := fun σ H => D.ct (σ.set i none) H }
inductive HdsE (X : Cx) : List ExceptHandler → List (Value × Option Nat × TSu) → Prop
  | nil : HdsE X [] []
  | only {x : Str} {c : Value} {ts : TSv} {b0 : Stmt} {su : List Stmt} {np p : Pos} {hds : List ExceptHandler} {l : List (Value × Option Nat × TSu)} (hc : Names X x c)
      (hsu : ∀ (a : Addr) (oe : Obj) (cls : Value) (d : Option Addr) (pn : List (Addr × Obj)), L2N.Zn cls d oe → (∃ vs, oe.data = .fields vs) → PSs (X.suite a ((a, oe) :: pn)) (b0 :: su) (ts a cls d oe pn)) (r : HdsE X hds l)
      (he : ∀ a oe cls d pn, ts a cls d oe pn = ts a cls d oeZ [] := by intros; rfl) :
      HdsE X (.ExceptHandler (some (.Name x np)) none (b0 :: su) p :: hds) ((c, none, fun a cls d => ts a cls d oeZ []) :: l)
  | as_ {x n : Str} {i : Nat} {c : Value} {ts : TSv} {b0 : Stmt} {su : List Stmt} {np p : Pos} {hds : List ExceptHandler} {l : List (Value × Option Nat × TSu)} (hN : X.N.Nodup) (hi : X.N[i]? = some n) (hln : X.env.kindOf n = some .local) (hc : Names X x c)
      (hsu : ∀ (a : Addr) (oe : Obj) (cls : Value) (d : Option Addr) (pn : List (Addr × Obj)), L2N.Zn cls d oe → (∃ vs, oe.data = .fields vs) → PSs (X.suite a ((a, oe) :: pn)) (b0 :: su) (ts a cls d oe pn)) (r : HdsE X hds l)
      (he : ∀ a oe cls d pn, ts a cls d oe pn = ts a cls d oeZ [] := by intros; rfl) :
      HdsE X (.ExceptHandler (some (.Name x np)) (some n) (b0 :: su) p :: hds) ((c, some i, fun a cls d => ts a cls d oeZ []) :: l)
section
variable {X : Cx} {body : List Stmt} {h0 : ExceptHandler} {hds : List ExceptHandler} {l : List (Value × Option Nat × TSu)} {pos : Pos} {tb : WX → List (Addr × Obj) → (Value → Shared → Prop) → TS} {Wo : WX}
end
def rLenA (K : PySem.W.Frag) : List V → Hp → VK → Prop := fun xs H Q => ∃ p ys, xs = [.ref p] ∧ (SqL K H p ys ∨ SqT K H p ys) ∧ Q (.int ys.length) H
theorem cr_len {X : Cx} : CallR X (.builtin "len") (rLenA X.K) := call_len_seq
def rListOf (K : PySem.W.Frag) : List V → Hp → VK → Prop := fun xs H Q => ∃ p ys, xs = [.ref p] ∧ (SqL K H p ys ∨ SqT K H p ys) ∧ ∀ l, H l = none → Q (.ref l) (upd H l (.lst ys))
theorem cr_list {X : Cx} : CallR X (.type "list") (rListOf X.K) := call_list_of
def TupX (H : Hp) (a : Addr) (xs : List V) : Prop := ∃ o : Obj, H a = some (.frz o (.tup xs)) ∧ o.dict = none
theorem TupX.sqt {K : PySem.W.Frag} {H : Hp} {a : Addr} {xs : List V} (h : TupX H a xs) : SqT K H a xs := by
  obtain ⟨o, h, _⟩ := h
  exact .inl (.inr ⟨o, h⟩)
theorem TupX.gr {H H' : Hp} {S : List Addr} {a : Addr} {xs : List V} (h : TupX H a xs) (g : Gr S H H') : TupX H' a xs := by
  obtain ⟨o, h, d⟩ := h
  exact ⟨o, g.get h rfl, d⟩
def rTupleOf (K : PySem.W.Frag) : List V → Hp → VK → Prop := fun xs H Q => ∃ p ys, xs = [.ref p] ∧ ((SqL K H p ys ∧ ∀ (l : Addr) (o : Obj), H l = none → o.dict = none → Q (.ref l) (upd H l (.frz o (.tup ys)))) ∨ (SqT K H p ys ∧ Q (.ref p) H))
theorem cr_tuple {X : Cx} : CallR X (.type "tuple") (rTupleOf X.K) := by
  intro pins s σ H xs us Q I r h
  obtain ⟨p, ys, rfl, h⟩ := h
  obtain ⟨u, rfl, ru⟩ := r.one
  cases (show u = Value.ref p from ru)
  rcases h with ⟨hs, q⟩ | ⟨hs, q⟩
  · obtain ⟨its, rv, pl, hz⟩ := I.list hs
    refine call_tuple_list pl.isList (fun h' hk => ?_) (by rw [List.size_toArray, ← rv.length]; exact hz)
    have I1 : Inv X pins σ H { s with heap := h' } := I.kept (t' := s.toks) hk
    refine ⟨.ref h'.objs.size, _, I1.laid (t' := s.toks) (o := .frz { cls := .type "tuple", data := .seq its.toArray } (.tup ys)) (fun b o e => Heap.get?_push_of_some _ e) (Nat.le_refl _) ⟨Heap.get?_push_size _ rfl, hz, its, rv, IsTup.new _ _⟩, rfl, q _ _ (I1.hok.fresh (Nat.le_refl _)) rfl⟩
  · obtain ⟨its, rv, pl, hz⟩ := I.tuple hs
    exact call_tuple_tup pl ⟨.ref p, H, I, rfl, q⟩
def rAbs : List V → Hp → VK → Prop := fun xs H Q => ∃ i, xs = [.int i] ∧ Q (.int (if i < 0 then -i else i)) H
theorem cr_abs {X : Cx} : CallR X (.builtin "abs") rAbs := call_abs
def rInt1 : List V → Hp → VK → Prop := fun xs H Q => (∃ i, xs = [.int i] ∧ Q (.int i) H) ∨ ∃ k, xs = [.bl k] ∧ Q (.int (if k then 1 else 0)) H
theorem cr_int {X : Cx} : CallR X (.type "int") rInt1 := call_int1
def rNewL : List V → Hp → VK → Prop := fun xs H Q => xs.length ≤ sizeLine ∧ ∀ p, H p = none → Q (.ref p) (upd H p (.lst xs))
def rNewT : List V → Hp → VK → Prop := fun xs H Q => xs.length ≤ sizeLine ∧ ∀ p, H p = none → Q (.ref p) (upd H p (.tup xs))
def tLstN (t : TA) : TE := fun σ H Q => t σ H fun xs H1 => rNewL xs H1 Q
def tTupN (t : TA) : TE := fun σ H Q => t σ H fun xs H1 => rNewT xs H1 Q
theorem pe_lstN {X : Cx} {es : List Expr} {t : TA} {pos : Pos} (h : PA X es t) : PE X (.List es pos) (tLstN t) := pe_lst h
section
variable {K : PySem.W.Frag} {σ : L2.St} {H : Hp} {Q : VK} {D : Ends} {ta tb tc te : TE} {tA tr : TA} {c t u' : TT} {ts us : TS} {i j : Int} {v x y : V} {QA : List V → Hp → Prop} {QB : Bool → Hp → Prop}
theorem w_seq (h : ts { D with nx := us D } σ H) : tSeq ts us D σ H := h
theorem w_asg {g : TG} (h : te σ H fun x H1 => g x σ H1 D.nx) : tAsg te g D σ H := h
theorem w_gname {n : Nat} {QS : L2.St → Hp → Prop} (h : QS (σ.set n (some v)) H) : gName n v σ H QS := h
theorem w_drop (h : te σ H fun _ H1 => D.nx σ H1) : tDrop te D σ H := h
theorem w_ret (h : te σ H D.rt) : tRet te D σ H := h
theorem w_retN (h : D.rt .non H) : tRetN D σ H := h
theorem w_next (h : D.nx σ H) : tNext D σ H := h
theorem w_ifS (h : c σ H fun b H1 => if b = true then ts D σ H1 else us D σ H1) : tIfS c ts us D σ H := h
theorem w_var {n : Nat} (h1 : σ[n]? = some (some v)) (h : Q v H) : tVar n σ H Q := ⟨v, h1, h⟩
theorem w_c (h : Q v H) : tC v σ H Q := h
theorem w_op {r : R2} (h : ta σ H fun x H1 => tb σ H1 fun y H2 => r x y H2 Q) : tOp r ta tb σ H Q := h
theorem w_un {r : V → Hp → VK → Prop} (h : ta σ H fun x H1 => r x H1 Q) : tUn r ta σ H Q := h
theorem w_rU {g : Int → V} (h : Q (g i) H) : rU g (.int i) H Q := ⟨i, rfl, h⟩
theorem w_cons (h : te σ H fun x H1 => tr σ H1 fun xs H2 => QA (x :: xs) H2) : tCons te tr σ H QA := h
theorem w_nil (h : QA [] H) : tNil σ H QA := h
theorem w_cb {r : List V → Hp → VK → Prop} (h : tA σ H fun vs H1 => r vs H1 Q) : tCB r tA σ H Q := h
theorem w_rI0 {g : Int → Int → V} (h : Q (g i j) H) : rI0 g (.int i) (.int j) H Q := ⟨i, j, rfl, rfl, h⟩
theorem w_rI {C : Int → Int → Prop} {g : Int → Int → V} (hc : C i j) (h : Q (g i j) H) : rI C g (.int i) (.int j) H Q := ⟨i, j, rfl, rfl, hc, h⟩
theorem w_eq (h0 : scal x y = true) (h : Q (.bl (decide (x = y))) H) : rEq x y H Q := ⟨h0, h⟩
theorem w_ne (h0 : scal x y = true) (h : Q (.bl (!decide (x = y))) H) : rNe x y H Q := ⟨h0, h⟩
theorem w_test (h : te σ H fun x H1 => ∃ k, x = .bl k ∧ QB k H1) : tTest te σ H QB := h
theorem w_tB (h : te σ H fun x H1 => ∃ k, x = .bl k ∧ QB k H1) : tB te σ H QB := h
theorem w_exb {k : Bool} (h : QB k H) : ∃ k', V.bl k = .bl k' ∧ QB k' H := ⟨k, rfl, h⟩
theorem w_and (h : c σ H fun b H1 => if b = true then t σ H1 QB else QB false H1) : tAnd c t σ H QB := h
theorem w_or (h : c σ H fun b H1 => if b = true then QB true H1 else t σ H1 QB) : tOr c t σ H QB := h
theorem w_not (h : c σ H fun b H1 => QB (!b) H1) : tNot c σ H QB := h
theorem w_andV (h : ta σ H fun x H1 => ∃ k, x = .bl k ∧ if k = true then tb σ H1 Q else Q (.bl false) H1) : tAndV ta tb σ H Q := h
theorem w_orV (h : ta σ H fun x H1 => ∃ k, x = .bl k ∧ if k = true then Q (.bl true) H1 else tb σ H1 Q) : tOrV ta tb σ H Q := h
theorem w_notV (h : ta σ H fun x H1 => ∃ k, x = .bl k ∧ Q (.bl (!k)) H1) : tNotV ta σ H Q := h
theorem w_exV {k : Bool} {R : Bool → Prop} (h : R k) : ∃ k', V.bl k = .bl k' ∧ R k' := ⟨k, rfl, h⟩
theorem w_chain {r r' : R2} (h : ta σ H fun x H1 => tb σ H1 fun y H2 => r x y H2 fun z H3 => ∃ k, z = .bl k ∧ if k = true then tc σ H3 (fun w' H4 => r' y w' H4 Q) else Q (.bl false) H3) : tChain r r' ta tb tc σ H Q := h
theorem w_ifE (h : c σ H fun b H1 => if b = true then ta σ H1 Q else tb σ H1 Q) : tIf c ta tb σ H Q := h
theorem w_tLst (h : tA σ H fun xs H1 => rNewL xs H1 Q) : tLstN tA σ H Q := h
theorem w_tTup (h : tA σ H fun xs H1 => rNewT xs H1 Q) : tTupN tA σ H Q := h
theorem w_lst {xs : List V} (h0 : xs.length ≤ sizeLine) (h : ∀ p H', H p = none → Gr [] H H' → H' p = some (.lst xs) → Q (.ref p) H') : rNewL xs H Q := ⟨h0, fun p hp => h p _ hp (Gr.new hp) upd_same⟩
theorem w_tup {xs : List V} (h0 : xs.length ≤ sizeLine) (h : ∀ p H', H p = none → Gr [] H H' → H' p = some (.tup xs) → Q (.ref p) H') : rNewT xs H Q := ⟨h0, fun p hp => h p _ hp (Gr.new hp) upd_same⟩
theorem w_ixL {p : Addr} {xs : List V} {k : Int} (h0 : SqL K H p xs) (h1 : atI xs k = some v) (h : Q v H) : rIxL K (.ref p) (.int k) H Q := ⟨p, xs, k, v, rfl, rfl, h0, h1, h⟩
theorem w_ixT {p : Addr} {xs : List V} {k : Int} (h0 : SqT K H p xs) (h1 : atI xs k = some v) (h : Q v H) : rIxT K (.ref p) (.int k) H Q := ⟨p, xs, k, v, rfl, rfl, h0, h1, h⟩
theorem w_setL {p : Addr} {xs : List V} {k : Int} {n : Nat} {w : V} {R : Hp → Prop} (h0 : H p = some (.lst xs)) (h1 : ixN xs.length k = some n) (h : ∀ H', Gr [p] H H' → H' p = some (.lst (xs.set n w)) → R H') : rSetL (.ref p) (.int k) w H R :=
  ⟨p, xs, k, n, rfl, rfl, h0, h1, h _ (Gr.wr h0) upd_same⟩
theorem w_gsub {to ti : TE} {t : TSet} {QS : L2.St → Hp → Prop} (h : to σ H fun o H1 => ti σ H1 fun i H2 => t o i v H2 fun H3 => QS σ H3) : gSub to ti t v σ H QS := h
theorem w_bm {T : String} {r : V → List V → Hp → VK → Prop} {to : TE} (h : to σ H fun x H1 => tyV K T x H1 ∧ tA σ H1 fun xs H2 => r x xs H2 Q) : tBM K T r to tA σ H Q := h
theorem w_bm0 {T : String} {r : V → List V → Hp → VK → Prop} {to : TE} (h : to σ H fun x H1 => tyV K T x H1 ∧ r x [] H1 Q) : tBM0 K T r to σ H Q := h
theorem w_ty {p : Addr} {xs : List V} {P : Prop} (h0 : SqL K H p xs) (h : P) : tyV K "list" (.ref p) H ∧ P := ⟨.inl ⟨rfl, _, h0⟩, h⟩
theorem w_app {p : Addr} {xs : List V} (h0 : H p = some (.lst xs)) (h1 : xs.length < sizeLine) (h : ∀ H', Gr [p] H H' → H' p = some (.lst (xs ++ [v])) → Q .non H') : rAppend (.ref p) [v] H Q :=
  ⟨p, xs, v, rfl, rfl, h0, h1, h _ (Gr.wr h0) upd_same⟩
theorem w_popAt {p : Addr} {xs : List V} {k : Int} {n : Nat} (h0 : H p = some (.lst xs)) (h1 : 0 ≤ k) (h2 : k < 2 ^ 63) (hn : k.toNat = n) (h3 : xs[n]? = some v) (h : ∀ H', Gr [p] H H' → H' p = some (.lst (xs.eraseIdx n)) → Q v H') : rPopAt (.ref p) [.int k] H Q := by
  have hl : n < xs.length := (List.getElem?_eq_some_iff.mp h3).1
  refine ⟨p, xs, k, n, v, rfl, rfl, h0, by omega, h2, ?_, h3, h _ (Gr.wr h0) upd_same⟩
  exact (ixN_seq (show ixN xs.length k = some n by unfold ixN; rw [if_pos h1, if_pos (by omega), hn])).1
theorem w_len {p : Addr} {xs : List V} (h0 : SqL K H p xs ∨ SqT K H p xs) (h : Q (.int xs.length) H) : rLenA K [.ref p] H Q := ⟨p, xs, rfl, h0, h⟩
theorem w_listOf {p : Addr} {xs : List V} (h0 : SqL K H p xs ∨ SqT K H p xs) (h : ∀ l H', H l = none → Gr [] H H' → H' l = some (.lst xs) → Q (.ref l) H') : rListOf K [.ref p] H Q :=
  ⟨p, xs, rfl, h0, fun l hl => h l _ hl (Gr.new hl) upd_same⟩
theorem w_tupOfL {p : Addr} {xs : List V} (h0 : SqL K H p xs) (h : ∀ l H', H l = none → Gr [] H H' → TupX H' l xs → Q (.ref l) H') : rTupleOf K [.ref p] H Q :=
  ⟨p, xs, rfl, .inl ⟨h0, fun l o hl ho => h l _ hl (Gr.new hl) ⟨o, upd_same, ho⟩⟩⟩
theorem w_tupOfT {p : Addr} {xs : List V} (h0 : SqT K H p xs) (h : Q (.ref p) H) : rTupleOf K [.ref p] H Q := ⟨p, xs, rfl, .inr ⟨h0, h⟩⟩
theorem w_abs (h : Q (.int (if i < 0 then -i else i)) H) : rAbs [.int i] H Q := ⟨i, rfl, h⟩
theorem w_int (h : Q (.int i) H) : rInt1 [.int i] H Q := .inl ⟨i, rfl, h⟩
theorem w_call {sp : Sp} {E : L2.St → XK} (h : tA σ H fun vs H1 => sp vs H1 Q (E σ)) : tCallS sp E tA σ H Q := h
theorem w_callD {sp : Sp} {dvs : List V} {E : L2.St → XK} (h : tA σ H fun vs H1 => sp (vs ++ dvs) H1 Q (E σ)) : tCallSD sp dvs E tA σ H Q := h
theorem w_call1 {sp : Sp} {dvs : List V} {E : XK} (h : tA σ H fun vs H1 => sp (vs ++ dvs) H1 Q E) : tCall sp dvs E tA σ H Q := h
theorem w_iteI {a b : Int} {A B : Prop} (h1 : a = b → A) (h2 : a ≠ b → B) : if decide (V.int a = V.int b) = true then A else B := by
  by_cases e : a = b
  · rw [if_pos (decide_eq_true (by rw [e]))]; exact h1 e
  · rw [if_neg (by simpa using e)]; exact h2 e
theorem w_iteIN {a b : Int} {A B : Prop} (h1 : a ≠ b → A) (h2 : a = b → B) : if (!decide (V.int a = V.int b)) = true then A else B := by
  by_cases e : a = b
  · rw [if_neg (by simpa using e)]; exact h2 e
  · rw [if_pos (by simpa using e)]; exact h1 e
theorem w_iteP {p : Prop} [Decidable p] {A B : Prop} (h1 : p → A) (h2 : ¬ p → B) : if decide p = true then A else B := by
  by_cases e : p
  · rw [if_pos (decide_eq_true e)]; exact h1 e
  · rw [if_neg (by simpa using e)]; exact h2 e
theorem w_iteNP {p : Prop} [Decidable p] {A B : Prop} (h1 : ¬ p → A) (h2 : p → B) : if (!decide p) = true then A else B := by
  by_cases e : p
  · rw [if_neg (by simpa using e)]; exact h2 e
  · rw [if_pos (by simpa using e)]; exact h1 e
theorem w_T {A B : Prop} (h : A) : if true = true then A else B := by rw [if_pos rfl]; exact h
theorem w_F {A B : Prop} (h : B) : if false = true then A else B := by rw [if_neg Bool.false_ne_true]; exact h
theorem w_nT {A B : Prop} (h : B) : if (!true) = true then A else B := by rw [if_neg (by decide)]; exact h
theorem w_nF {A B : Prop} (h : A) : if (!false) = true then A else B := by rw [if_pos (by decide)]; exact h
end
theorem sql_of {K : PySem.W.Frag} {H : Hp} {a : Addr} {xs : List V} (h : H a = some (.lst xs)) : SqL K H a xs := SqL.of h
theorem small {n : Nat} (h : n ≤ 100000) : n ≤ sizeLine := Nat.le_trans h (by decide)
theorem smallLt {n : Nat} (h : n < 100000) : n < sizeLine := Nat.lt_of_lt_of_le h (by decide)
theorem HOk.frzL {P : Program} {w : World} {H : Hp} {h : Heap} {a : Addr} {xs : List V} {o : Obj} (ok : HOk P w H h) (e : H a = some (.lst xs)) (ho : h.get? a = some o) : HOk P w (upd H a (.frz o (.lst xs))) h := fun b u q => by
  have ne : ∀ {b : Addr} {v : HO}, H b = some v → v ≠ .lst xs → b ≠ a := fun {b v} h1 h2 z => by
    subst z
    rw [e] at h1
    exact h2 (Option.some.inj h1).symm
  by_cases hb : b = a
  · subst hb
    rw [upd_same] at q
    cases q
    exact ⟨ho, ok b _ e⟩
  · rw [upd_ne hb] at q
    exact (ok b u q).stay (fun _ _ _ r => r) (fun c r => by rw [upd_ne (ne r (by intro z; cases z))]; exact r) fun c ys r => by rw [upd_ne (ne r (by intro z; cases z))]; exact r
theorem Un.frzL {fs ex : List Addr} {H H' : Hp} {h h' : Heap} {a : Addr} {xs : List V} {o : Obj} (u : Un fs ex H H' h h') (e : H' a = some (.lst xs)) : Un fs ex H (upd H' a (.frz o (.lst xs))) h h' := by
  have ne : ∀ {b : Addr} {v : HO}, H' b = some v → v ≠ .lst xs → b ≠ a := fun {b v} h1 h2 z => by
    subst z
    rw [e] at h1
    exact h2 (Option.some.inj h1).symm
  refine ⟨u.keep, u.slot, fun b ob q n hx => ?_, u.there, fun b ys q => ?_, fun b ob v q => ?_, fun b ps q => ?_⟩
  · have z := u.free b ob q n hx
    rw [upd_ne (ne_of_none e z).symm]
    exact z
  · have z := u.tups b ys q
    rw [upd_ne (ne z (by intro z; cases z))]
    exact z
  · have z := u.frzs b ob v q
    rw [upd_ne (ne z (by intro z; cases z))]
    exact z
  · obtain ⟨more, z⟩ := u.tbls b ps q
    exact ⟨more, by rw [upd_ne (ne z (by intro z; cases z))]; exact z⟩
theorem fnOk_frz {P : Program} {w : World} {K : PySem.W.Frag} {mg : Str → Option Value} {base : Heap} {CX : CXT} {k : Nat} {f : Addr} {fd : FuncData} {ps : List Str} {sp : Sp} (F : FnOk P w K mg base CX k f fd ps sp) :
    FnOk P w K mg base CX k f fd ps (fun vs H Q E => sp vs H (fun v H1 => ∃ a xs, H1 a = some (.lst xs) ∧ ∀ o, Q v (upd H1 a (.frz o (.lst xs)))) E) := by
  refine ⟨fun vs H Q E q => F.len vs H _ E q, fun A outer s H args us vs Q E hr he hb hv hs => codeAny_mono (F.run A outer s H args us vs _ E hr he hb hv hs) fun r s' hq => ?_⟩
  cases r with
  | error e => exact hq
  | ok fl =>
    cases fl with
    | ret u =>
      obtain ⟨v, H', os, bare, un, hok, rv, a, xs, ea, q⟩ := hq
      obtain ⟨_, its, n, _, ho⟩ := hok a _ ea
      exact ⟨v, _, os, bare, Un.frzL un ea, HOk.frzL hok ea ho, rv, q _⟩
    | next => exact False.elim hq
    | brk => exact False.elim hq
    | cont => exact False.elim hq
theorem Gr.frz {H : Hp} {a : Addr} {xs : List V} {o : Obj} (h : H a = some (.lst xs)) : Gr [a] H (upd H a (.frz o (.lst xs))) := Gr.wr h
section
variable {K : PySem.W.Frag} {H H' : Hp} {S : List Addr} {a l l2 l3 : Addr} {o : HO} {ob : Obj} {xs : List V}
theorem Gr.keepB (g : Gr (l :: S) H H') (h : H a = some o) (hn : pers o = true ∨ a ∉ l :: S) : H' a = some o := by
  rcases hn with hn | hn
  · exact g.get h hn
  · exact g.keep _ _ h hn
theorem nin0 : a ∉ ([] : List Addr) := by simp
theorem nin1 (h : a ≠ l) : a ∉ [l] := by simpa using h
theorem nin2 (h : a ≠ l) (h2 : a ≠ l2) : a ∉ [l, l2] := by simp [h, h2]
theorem nin3 (h : a ≠ l) (h2 : a ≠ l2) (h3 : a ≠ l3) : a ∉ [l, l2, l3] := by simp [h, h2, h3]
theorem sql_frz (h : H a = some (.frz ob (.lst xs))) : SqL K H a xs := .inl (.inr ⟨ob, h⟩)
theorem sqt_of (h : H a = some (.tup xs)) : SqT K H a xs := .inl (.inl h)
theorem Gr.sqlB (g : Gr (l :: S) H H') (h : SqL K H a xs) (hn : a ∉ l :: S) : SqL K H' a xs := g.sql h hn
end
def tCut (t u : TS) : TS := fun D σ H => ∃ R : L2.St → Hp → Prop, t { D with nx := R } σ H ∧ ∀ σ' H', R σ' H' → u D σ' H'
theorem pss_cut {X : Cx} {st : Stmt} {rest : List Stmt} {t u : TS} (h1 : PS X st t) (h2 : PSs X rest u) : PSs X (st :: rest) (tCut t u) := by
  refine ⟨fun pins s σ H D I h => ?_⟩
  obtain ⟨R, h, hk⟩ := h
  refine wpAny_execs_cons (thn (h1.run pins s σ H { D with nx := R } I h) fun f s1 q => ?_)
  cases f with
  | next =>
    obtain ⟨σ', H', I', q⟩ := q
    exact h2.run pins s1 σ' H' D I' (hk σ' H' q)
  | _ => exact q
theorem w_cut {ts us : TS} {D : Ends} {σ : L2.St} {H : Hp} (R : L2.St → Hp → Prop) (h : ts { D with nx := R } σ H) (k : ∀ σ' H', R σ' H' → us D σ' H') : tCut ts us D σ H := ⟨R, h, k⟩
section
variable {H H1 H2 : Hp} {S S' : List Addr} {l l2 : Addr} {xs : List V} {o : HO}
theorem Gr.step (g2 : Gr S' H1 H2) (g1 : Gr S H H1) (hs : ∀ a, a ∈ S' → a ∈ S ∨ H a = none) : Gr S H H2 := g1.trans g2 hs
theorem sub0 : ∀ a, a ∈ ([] : List Addr) → a ∈ S ∨ H a = none := fun _ h => by cases h
theorem sub1 (h : l ∈ S ∨ H l = none) : ∀ a, a ∈ [l] → a ∈ S ∨ H a = none := fun a m => by
  have e : a = l := by simpa using m
  subst e
  exact h
theorem sub2 (h : l ∈ S ∨ H l = none) (h2 : l2 ∈ S ∨ H l2 = none) : ∀ a, a ∈ [l, l2] → a ∈ S ∨ H a = none := fun a m => by
  rcases List.mem_cons.mp m with e | m
  · subst e; exact h
  · exact sub1 h2 a m
theorem Gr.same1 (h : H l = some o) (hp : pers o = false) : Gr [l] H H := (Gr.refl H).weak fun a m => by
  have e : a = l := by simpa using m
  subst e
  exact ⟨_, h, hp⟩
end
theorem atI_of {α : Type} {xs : List α} {i : Int} {v : α} (h0 : 0 ≤ i) (h : xs[i.toNat]? = some v) : atI xs i = some v := by
  have e := atI_nat h
  rw [Int.toNat_of_nonneg h0] at e
  exact e
theorem ints_at {ns : List Int} {i : Int} (h0 : 0 ≤ i) (h : i < ns.length) : ∃ x, atI (ns.map V.int) i = some (V.int x) ∧ ns[i.toNat]? = some x := by
  have hl : i.toNat < ns.length := by omega
  exact ⟨ns[i.toNat], atI_of h0 (by simp [hl]), by simp [hl]⟩
def D.dep : Nat → D → Bool
  | _, .int _ => true
  | _, .str s => (PyData.str s).canLay0
  | _, .non => true
  | _, .bl _ => false
  | _, .ins _ _ _ => false
  | _, .adr _ => false
  | 0, .tup _ => false
  | 0, .lst _ => false
  | n + 1, .tup ds => ds.all (D.dep n)
  | n + 1, .lst ds => ds.all (D.dep n)
theorem canLay_pys {n : Nat} (ih : ∀ d : D, d.dep n = true → d.py.canLay0 = true ∧ d.py.depth ≤ n) : ∀ ds : List D, ds.all (D.dep n) = true → PyData.canLayAll0 (D.pys ds) = true ∧ PyData.depthAll (D.pys ds) ≤ n
  | [], _ => ⟨rfl, Nat.zero_le _⟩
  | d :: ds, h => by
    rw [List.all_cons, Bool.and_eq_true] at h
    obtain ⟨a1, a2⟩ := ih d h.1
    obtain ⟨b1, b2⟩ := canLay_pys ih ds h.2
    simp only [D.pys, PyData.canLayAll0, PyData.depthAll, a1, b1, Bool.and_self, true_and]
    omega
theorem canLay_py : ∀ (n : Nat) (d : D), d.dep n = true → d.py.canLay0 = true ∧ d.py.depth ≤ n := by
  intro n
  induction n with
  | zero =>
    intro d h
    cases d with
    | tup ds => cases h
    | lst ds => cases h
    | ins C ns ds => cases h
    | adr a => cases h
    | bl b => cases h
    | str s => exact ⟨h, Nat.zero_le _⟩
    | _ => exact ⟨rfl, Nat.zero_le _⟩
  | succ n ih =>
    intro d h
    cases d with
    | tup ds =>
      obtain ⟨a, b⟩ := canLay_pys ih ds h
      exact ⟨a, Nat.succ_le_succ b⟩
    | lst ds =>
      obtain ⟨a, b⟩ := canLay_pys ih ds h
      exact ⟨a, Nat.succ_le_succ b⟩
    | ins C ns ds => cases h
    | adr a => cases h
    | bl b => cases h
    | str s => exact ⟨h, Nat.zero_le _⟩
    | _ => exact ⟨rfl, Nat.zero_le _⟩
theorem shaped_py {n : Nat} {d : D} (h : d.dep n = true) (hn : n ≤ 64) : SeqAt.shaped d.py = true := by
  obtain ⟨a, b⟩ := canLay_py n d h
  unfold SeqAt.shaped
  rw [a, Bool.true_and]
  exact decide_eq_true (by omega)
theorem eqv_pys {n : Nat} (ih : ∀ d e : D, d.dep n = true → e.dep n = true → (PyData.eqv d.py e.py = true ↔ d = e)) : ∀ ds es : List D, ds.all (D.dep n) = true → es.all (D.dep n) = true → (PyData.eqvAll (D.pys ds) (D.pys es) = true ↔ ds = es)
  | [], [], _, _ => by simp [D.pys, PyData.eqvAll]
  | [], e :: es, _, _ => by simp [D.pys, PyData.eqvAll]
  | d :: ds, [], _, _ => by simp [D.pys, PyData.eqvAll]
  | d :: ds, e :: es, h, h' => by
    rw [List.all_cons, Bool.and_eq_true] at h h'
    simp only [D.pys, PyData.eqvAll, Bool.and_eq_true, ih d e h.1 h'.1, eqv_pys ih ds es h.2 h'.2, List.cons.injEq]
theorem eqv_py : ∀ (n : Nat) (d e : D), d.dep n = true → e.dep n = true → (PyData.eqv d.py e.py = true ↔ d = e) := by
  intro n
  induction n with
  | zero =>
    intro d e h h'
    cases d <;> first | (cases h; done) | (cases e <;> first | (cases h'; done) | simp [D.py, PyData.eqv])
  | succ n ih =>
    intro d e h h'
    cases d <;> first | (cases h; done) | (cases e <;> first | (cases h'; done) | (simp only [D.py, PyData.eqv, D.tup.injEq, D.lst.injEq]; exact eqv_pys ih _ _ h h') | simp [D.py, PyData.eqv])
mutual
theorem dp_py {K : PySem.W.Frag} {H : Hp} : ∀ {d : D} {v : V}, Rep K H d v → ∀ n, d.dep n = true → Dp K H v d.py
  | _, _, .non, _, _ => .non
  | _, _, .bl b, _, _ => .bl b
  | _, _, .int i, _, _ => .int i
  | _, _, .str s, _, _ => .str s
  | _, _, .adr b, n, q => by cases n <;> cases q
  | _, _, .tup h r, n, q => by
    cases n with
    | zero => cases q
    | succ n => exact .tup h (dp_pys r n q)
  | _, _, .lst h r, n, q => by
    cases n with
    | zero => cases q
    | succ n => exact .lst h (dp_pys r n q)
  | _, _, .ins h i l r, n, q => by
    cases n <;> cases q
theorem dp_pys {K : PySem.W.Frag} {H : Hp} : ∀ {ds : List D} {vs : List V}, Reps K H ds vs → ∀ n, ds.all (D.dep n) = true → DpAll K H vs (D.pys ds)
  | _, _, .nil, _, _ => .nil
  | _, _, .cons h r, n, q => by
    rw [List.all_cons, Bool.and_eq_true] at q
    exact .cons (dp_py h n q.1) (dp_pys r n q.2)
end
section
variable {K : PySem.W.Frag} {H : Hp} {Q : VK} {d e : D} {v w : V}
theorem w_eqD (n : Nat) (hv : Rep K H d v) (hw : Rep K H e w) (hd : d.dep n = true) (he : e.dep n = true) (hn : n ≤ 64) (h1 : d = e → Q (.bl true) H) (h2 : d ≠ e → Q (.bl false) H) : rEqD K v w H Q := by
  refine ⟨d.py, e.py, dp_py hv n hd, dp_py hw n he, shaped_py hd hn, shaped_py he hn, ?_⟩
  by_cases c : d = e
  · rw [(eqv_py n d e hd he).mpr c]
    exact h1 c
  · have z : PyData.eqv d.py e.py = false := by
      cases q : PyData.eqv d.py e.py with
      | false => rfl
      | true => exact absurd ((eqv_py n d e hd he).mp q) c
    rw [z]
    exact h2 c
theorem w_neD (n : Nat) (hv : Rep K H d v) (hw : Rep K H e w) (hd : d.dep n = true) (he : e.dep n = true) (hn : n ≤ 64) (h1 : d = e → Q (.bl false) H) (h2 : d ≠ e → Q (.bl true) H) : rNeD K v w H Q := by
  refine ⟨d.py, e.py, dp_py hv n hd, dp_py hw n he, shaped_py hd hn, shaped_py he hn, ?_⟩
  by_cases c : d = e
  · rw [(eqv_py n d e hd he).mpr c]
    exact h1 c
  · have z : PyData.eqv d.py e.py = false := by
      cases q : PyData.eqv d.py e.py with
      | false => rfl
      | true => exact absurd ((eqv_py n d e hd he).mp q) c
    rw [z]
    exact h2 c
end
theorem Rep.grB {K : PySem.W.Frag} {H H' : Hp} {l : Addr} {S : List Addr} {d : D} {v : V} (g : Gr (l :: S) H H') (h : Rep K H d v) (q : d.pure = true) : Rep K H' d v := Rep.gr g h q
def dInts (ns : List Int) : List D := ns.map D.int
theorem reps_ints {K : PySem.W.Frag} {H : Hp} : ∀ ns : List Int, Reps K H (dInts ns) (ns.map V.int)
  | [] => .nil
  | n :: ns => .cons (.int n) (reps_ints ns)
theorem dep_ints (ns : List Int) (n : Nat) : (dInts ns).all (D.dep n) = true := by
  rw [List.all_eq_true]
  intro d hd
  obtain ⟨i, _, rfl⟩ := List.mem_map.mp hd
  cases n <;> rfl
theorem dInts_inj {ns ms : List Int} (h : dInts ns = dInts ms) : ns = ms := by
  unfold dInts at h
  exact List.map_inj_right (fun _ _ e => by injection e) |>.mp h
theorem pure_ints (ns : List Int) : D.pures (dInts ns) = true := by
  induction ns with
  | nil => rfl
  | cons n ns ih => exact ih
theorem rep_lstI {K : PySem.W.Frag} {H : Hp} {a : Addr} {ns : List Int} (h : SqL K H a (ns.map V.int)) : Rep K H (.lst (dInts ns)) (.ref a) := .lst h (reps_ints ns)
theorem rep_tupI {K : PySem.W.Frag} {H : Hp} {a : Addr} {ns : List Int} (h : SqT K H a (ns.map V.int)) : Rep K H (.tup (dInts ns)) (.ref a) := .tup h (reps_ints ns)
theorem w_callN {n m : Nat} {sp : Sp} {gV : List V → List V → List V} {E : XK} {t tk : TA} {σ : L2.St} {H : Hp} {Q : VK} (h : t σ H fun vs H1 => tk σ H1 fun zs H2 => vs.length = n ∧ zs.length = m ∧ sp (gV vs zs) H2 Q E) : tCallN n m sp gV E t tk σ H Q := h
def tCallNS (n m : Nat) (sp : Sp) (gV : List V → List V → List V) (E : L2.St → XK) (t tk : TA) : TE := fun σ H Q => t σ H fun vs H1 => tk σ H1 fun zs H2 => vs.length = n ∧ zs.length = m ∧ sp (gV vs zs) H2 Q (E σ)
section
variable {X : Cx} {CX : CXT} {k n : Nat} {f : Addr} {fd : FuncData} {ps ks : List Str} {sp : Sp} {E : L2.St → XK} {x : Str} {p pos : Pos} {e : Expr} {es : List Expr} {kws : List Keyword} {t tk : TA} {g : List Value → List Value → List Value} {gV : List V → List V → List V}
end
theorem w_callNS {n m : Nat} {sp : Sp} {gV : List V → List V → List V} {E : L2.St → XK} {t tk : TA} {σ : L2.St} {H : Hp} {Q : VK} (h : t σ H fun vs H1 => tk σ H1 fun zs H2 => vs.length = n ∧ zs.length = m ∧ sp (gV vs zs) H2 Q (E σ)) : tCallNS n m sp gV E t tk σ H Q := h
def D.tyn : D → String
  | .non => "NoneType"
  | .bl _ => "bool"
  | .int _ => "int"
  | .str _ => "str"
  | .tup _ => "tuple"
  | .lst _ => "list"
  | .ins _ _ _ => ""
  | .adr _ => ""
def D.isIns : D → Bool
  | .ins _ _ _ => true
  | .adr _ => true
  | _ => false
theorem tyx_of {K : PySem.W.Frag} {H : Hp} {d : D} {v : V} (h : Rep K H d v) (n : d.isIns = false) : TyX K H v (.type d.tyn) := by
  cases h with
  | non => exact .base .non
  | bl b => exact .base (.bl b)
  | int i => exact .base (.int i)
  | str s => exact .base (.str s)
  | tup h r =>
    rcases h with (h | ⟨o, h⟩) | ⟨o, its, k, h1, h2, _⟩
    · exact .base (.tup h)
    · exact .fTuple h
    · exact .kTuple h1 h2
  | lst h r =>
    rcases h with (h | ⟨o, h⟩) | ⟨o, its, k, h1, h2, _⟩
    · exact .base (.lst h)
    · exact .base (.frz h)
    · exact .kList h1 h2
  | ins h i l r => cases n
  | adr a => cases n
section
variable {K : PySem.W.Frag} {H : Hp} {Q : VK} {d : D} {v : V} {b : Bool} {T : String}
theorem w_isi (h : Rep K H d v) (n : d.isIns = false) (hk : kitB d.tyn T = some b) (q : Q (.bl b) H) : rIsi K [v, .ty T] H Q := ⟨v, .ty T, _, _, b, rfl, .ty T, tyx_of h n, kit_ty hk, q⟩
end
def XcOk (K : PySem.W.Frag) (C : Addr) : Prop := PySem.W.excIn K C He.veBase "ValueError.__new__" = true ∧ PySem.W.keepIn K (.ref C) = true ∧ PySem.W.subIn K (.ref C) (.type "BaseException") = some true ∧ PySem.W.typeIn K (.ref C) = some (.type "type")
def rIsEx (K : PySem.W.Frag) (a : Addr) (cls : Value) (d : Option Addr) : List V → Hp → VK → Prop := fun xs H Q => ∃ (D C : Addr) (b : Bool), cls = .ref D ∧ d = none ∧ ExcC K D ∧ xs = [.ref a, .ref C] ∧ PySem.W.kitOne K (.ref D) (.ref C) = some b ∧ Q (.bl b) H
theorem w_isE {K : PySem.W.Frag} {a D C : Addr} {b : Bool} {H : Hp} {Q : VK} (hC : ExcC K D) (hk : PySem.W.kitOne K (.ref D) (.ref C) = some b) (q : Q (.bl b) H) : rIsEx K a (.ref D) none [.ref a, .ref C] H Q := ⟨D, C, b, rfl, rfl, hC, rfl, hk, q⟩
theorem w_ends {i : Nat} {D : Ends} {σ : L2.St} {H : Hp} (h : D.nx (σ.set i none) H) : (endsNo i D).nx σ H := h
def D.lev : Nat → D → Bool
  | _, .int _ => true
  | _, .str _ => true
  | _, .non => true
  | _, .bl _ => true
  | _, .ins _ _ _ => false
  | _, .adr _ => false
  | 0, .tup _ => false
  | 0, .lst _ => false
  | n + 1, .tup ds => decide (ds.length ≤ 1000000) && ds.all (D.lev n)
  | n + 1, .lst ds => decide (ds.length ≤ 1000000) && ds.all (D.lev n)
theorem lev_ints (ns : List Int) (n : Nat) : (dInts ns).all (D.lev n) = true := by
  rw [List.all_eq_true]
  intro d hd
  obtain ⟨i, _, rfl⟩ := List.mem_map.mp hd
  cases n <;> rfl
theorem lev_tupI {ns : List Int} {n : Nat} (h : ns.length ≤ 1000000) : (D.tup (dInts ns)).lev (n + 1) = true := Bool.and_eq_true_iff.mpr ⟨decide_eq_true (by unfold dInts; rw [List.length_map]; exact h), lev_ints ns n⟩
theorem lev_lstI {ns : List Int} {n : Nat} (h : ns.length ≤ 1000000) : (D.lst (dInts ns)).lev (n + 1) = true := Bool.and_eq_true_iff.mpr ⟨decide_eq_true (by unfold dInts; rw [List.length_map]; exact h), lev_ints ns n⟩
theorem reps_get {K : PySem.W.Frag} {H : Hp} : ∀ {ds : List D} {vs : List V} {i : Nat} {d : D}, Reps K H ds vs → ds[i]? = some d → ∃ v, vs[i]? = some v ∧ Rep K H d v
  | _, _, _, _, .nil, e => by simp at e
  | _, _, 0, _, .cons h _, e => by
    simp at e
    subst e
    exact ⟨_, rfl, h⟩
  | _, _, i + 1, _, .cons _ r, e => by
    obtain ⟨v, h1, h2⟩ := reps_get (i := i) r (by simpa using e)
    exact ⟨v, by simpa using h1, h2⟩
@[reducible] def D.isTup : D → Bool
  | .tup _ => true
  | _ => false
theorem w_isi_tuple {K : PySem.W.Frag} {H : Hp} {Q : VK} {d : D} {v : V} (h : Rep K H d v) (n : d.isIns = false) (q : Q (.bl d.isTup) H) : rIsi K [v, .ty "tuple"] H Q :=
  w_isi h n (by cases d <;> first | (cases n; done) | (dsimp only [D.tyn, D.isTup]; decide +kernel)) q
@[reducible] def D.isLst : D → Bool
  | .lst _ => true
  | _ => false
theorem w_isi_list {K : PySem.W.Frag} {H : Hp} {Q : VK} {d : D} {v : V} (h : Rep K H d v) (n : d.isIns = false) (q : Q (.bl d.isLst) H) : rIsi K [v, .ty "list"] H Q :=
  w_isi h n (by cases d <;> first | (cases n; done) | (dsimp only [D.tyn, D.isLst]; decide +kernel)) q
@[reducible] def D.isBl : D → Bool
  | .bl _ => true
  | _ => false
theorem w_isi_bool {K : PySem.W.Frag} {H : Hp} {Q : VK} {d : D} {v : V} (h : Rep K H d v) (n : d.isIns = false) (q : Q (.bl d.isBl) H) : rIsi K [v, .ty "bool"] H Q :=
  w_isi h n (by cases d <;> first | (cases n; done) | (dsimp only [D.tyn, D.isBl]; decide +kernel)) q
@[reducible] def D.isInt : D → Bool
  | .int _ => true
  | .bl _ => true
  | _ => false
theorem w_isi_int {K : PySem.W.Frag} {H : Hp} {Q : VK} {d : D} {v : V} (h : Rep K H d v) (n : d.isIns = false) (q : Q (.bl d.isInt) H) : rIsi K [v, .ty "int"] H Q :=
  w_isi h n (by cases d <;> first | (cases n; done) | (dsimp only [D.tyn, D.isInt]; decide +kernel)) q
@[reducible] def D.isStr : D → Bool
  | .str _ => true
  | _ => false
theorem w_isi_str {K : PySem.W.Frag} {H : Hp} {Q : VK} {d : D} {v : V} (h : Rep K H d v) (n : d.isIns = false) (q : Q (.bl d.isStr) H) : rIsi K [v, .ty "str"] H Q :=
  w_isi h n (by cases d <;> first | (cases n; done) | (dsimp only [D.tyn, D.isStr]; decide +kernel)) q
theorem tyx_tup {K : PySem.W.Frag} {H : Hp} {a : Addr} {xs : List V} (h : SqT K H a xs) : TyX K H (.ref a) (.type "tuple") := by
  rcases h with (h | ⟨o, h⟩) | ⟨o, its, k, h1, h2, _⟩
  · exact .base (.tup h)
  · exact .fTuple h
  · exact .kTuple h1 h2
theorem tyx_lst {K : PySem.W.Frag} {H : Hp} {a : Addr} {xs : List V} (h : SqL K H a xs) : TyX K H (.ref a) (.type "list") := by
  rcases h with (h | ⟨o, h⟩) | ⟨o, its, k, h1, h2, _⟩
  · exact .base (.lst h)
  · exact .base (.frz h)
  · exact .kList h1 h2
theorem w_isiTT {K : PySem.W.Frag} {H : Hp} {Q : VK} {a : Addr} {xs : List V} (h : SqT K H a xs) (q : Q (.bl true) H) : rIsi K [.ref a, .ty "tuple"] H Q := ⟨.ref a, .ty "tuple", _, _, true, rfl, .ty _, tyx_tup h, kit_ty (by decide +kernel), q⟩
theorem w_isiLL {K : PySem.W.Frag} {H : Hp} {Q : VK} {a : Addr} {xs : List V} (h : SqL K H a xs) (q : Q (.bl true) H) : rIsi K [.ref a, .ty "list"] H Q := ⟨.ref a, .ty "list", _, _, true, rfl, .ty _, tyx_lst h, kit_ty (by decide +kernel), q⟩
def rRng1 : List V → Hp → (It → Hp → Prop) → Prop := fun vs H R => ∃ j : Int, vs = [.int j] ∧ -(2 ^ 62) ≤ j ∧ j < 2 ^ 62 ∧ R (Itr 0 j.toNat) H
def rRng2 : List V → Hp → (It → Hp → Prop) → Prop := fun vs H R => ∃ i j : Int, vs = [.int i, .int j] ∧ (-(2 ^ 62) ≤ i ∧ i < 2 ^ 62 ∧ -(2 ^ 62) ≤ j ∧ j < 2 ^ 62) ∧ R (Itr i (j - i).toNat) H
def rRng3 : List V → Hp → (It → Hp → Prop) → Prop := fun vs H R => ∃ (i j c : Int) (n : Nat), vs = [.int i, .int j, .int c] ∧ RgC i j c n ∧ R (Itc i c n) H
def rItL (K : PySem.W.Frag) : V → Hp → (It → Hp → Prop) → Prop := fun x H R => ∃ a, x = .ref a ∧ (∃ xs, SqL K H a xs) ∧ R (Itl K a) H
def rItT (K : PySem.W.Frag) : V → Hp → (It → Hp → Prop) → Prop := fun x H R => ∃ a, x = .ref a ∧ (∃ xs, SqT K H a xs) ∧ R (Itt K a) H
section
variable {K : PySem.W.Frag} {σ : L2.St} {H : Hp} {D : Ends} {ta : TA} {te : TE} {R : It → Hp → Prop} {g : TG} {tb : TS} {i j : Int} {n : Nat} {a : Addr} {xs : List V}
theorem w_iRng1 (h : ta σ H fun vs H1 => rRng1 vs H1 R) : iRng1 ta σ H R := h
theorem w_iRng2 (h : ta σ H fun vs H1 => rRng2 vs H1 R) : iRng2 ta σ H R := h
theorem w_iRng3 (h : ta σ H fun vs H1 => rRng3 vs H1 R) : iRng3 ta σ H R := h
theorem w_iList (h : te σ H fun x H1 => rItL K x H1 R) : iList K te σ H R := h
theorem w_iTup (h : te σ H fun x H1 => rItT K x H1 R) : iTup K te σ H R := h
theorem w_rRng1N (h0 : n ≤ 1000000000) (h : R (Itr 0 n) H) : rRng1 [.int n] H R := ⟨n, rfl, by omega, by omega, h⟩
theorem w_rItL (h0 : SqL K H a xs) (h : R (Itl K a) H) : rItL K (.ref a) H R := ⟨a, rfl, ⟨xs, h0⟩, h⟩
theorem w_rItT (h0 : SqT K H a xs) (h : R (Itt K a) H) : rItT K (.ref a) H R := ⟨a, rfl, ⟨xs, h0⟩, h⟩
def forK (g : TG) (tb : TS) (D : Ends) (σ : L2.St) : It → Hp → Prop := fun J H1 => ∃ W : Nat → Nat → L2.St → Hp → Prop, (∃ m, W 0 m σ H1) ∧ ∀ i m σ H, W i m σ H →
  (J.stop i H ∧ D.nx σ H) ∨ (J.go i H ∧ ∃ N : L2.St → Hp → Prop, (∀ σ' H', N σ' H' → ∃ m', m' < m ∧ W (i + 1) m' σ' H') ∧ ∀ x H', J.yld i H x H' → g x σ H' fun σ2 H2 => tb { D with nx := N, ct := N, bk := D.nx } σ2 H2)
theorem w_for {wi : TI} (h : wi σ H (forK g tb D σ)) : tFor wi g tb D σ H := h
theorem f_rng {lo : Int} (Pv : Nat → L2.St → Hp → Prop) (h0 : Pv 0 σ H)
    (hs : ∀ i σ H, i < n → Pv i σ H → g (.int (lo + i)) σ H fun σ2 H2 => tb { D with nx := Pv (i + 1), ct := Pv (i + 1), bk := D.nx } σ2 H2) (hd : ∀ σ H, Pv n σ H → D.nx σ H) : forK g tb D σ (Itr lo n) H := for_range Pv h0 hs hd
theorem w_bT {b : Bool} {Q : VK} (e : b = true) (h : Q (.bl true) H) : Q (.bl b) H := by rw [e]; exact h
theorem w_bF {b : Bool} {Q : VK} (e : b = false) (h : Q (.bl false) H) : Q (.bl b) H := by rw [e]; exact h
theorem w_ixSL {p : Addr} {k : Int} {v : V} {Q : VK} (h0 : SqL K H p xs) (h1 : atI xs k = some v) (h : Q v H) : rIx K (.ref p) (.int k) H Q := .inl ⟨p, xs, k, v, rfl, rfl, h0, h1, h⟩
theorem w_ixST {p : Addr} {k : Int} {v : V} {Q : VK} (h0 : SqT K H p xs) (h1 : atI xs k = some v) (h : Q v H) : rIx K (.ref p) (.int k) H Q := .inr (.inl ⟨p, xs, k, v, rfl, rfl, h0, h1, h⟩)
end
theorem DefW.funD {K : PySem.W.Frag} {d : DefW} (hs : d.sup = none) (e : fnWA K d.sup (d.at_ K) = d.val) (c : d.ok K = true) : ∃ fd, FunD K d.name d.qual d.params d.body d.scope (d.dvs K) [] (d.at_ K) fd := by
  obtain ⟨kp, c2⟩ := Bool.and_eq_true_iff.mp c
  unfold fnWA at e
  rcases q : K.lookup (d.at_ K) with _ | ⟨oc, od, dt, osl⟩
  · rw [q] at c2
    cases c2
  · rw [q] at c2 e
    cases dt with
    | func fd =>
      obtain ⟨n1, n2, n3, n4, n5, n6, n7, n8, n9, n10, n11, n12, n13, n14, n15⟩ := fd
      unfold DefW.val at e
      rw [hs] at e c2
      have e2 : (some (n1, n2, n3, n4, n5, n6, n7, n15) : He.FnW) = some (d.name, d.qual, d.params, .stmts d.body, d.scope, mainGlobals, [], builtinsNs) := e
      simp only [Option.some.injEq, Prod.mk.injEq] at e2
      obtain ⟨h1, h2, h3, h4, h5, h6, h7, h8⟩ := e2
      subst h1 h2 h3 h4 h5 h6 h7 h8
      obtain ⟨k1, k3⟩ := Bool.and_eq_true_iff.mp (Bool.and_eq_true_iff.mp (show (PySem.W.codeIn K n13 d.qual && He.dflB K n8 (d.dvs K) && true) = true from c2)).1
      exact ⟨_, ⟨oc, od, n8, n9, n10, n11, n12, n13, n14, osl, rfl, q, k1, He.dflB_ok k3, He.kwdB_ok rfl⟩, kp⟩
    | _ => cases c2
theorem obT_eq {fa : List He.Fa} {fn : List DefW} {ex : PySem.W.Frag → List Bool} (s : PySem.W.SharedT) : obT fa fn ex s = (hookW fa fn ex).obs s.abs := by
  have e : HandSHeadRun.getT s = s.abs.heap.get? := funext (HandSHeadRun.getT_eq s)
  show obsW fa fn ex (He.frG (HandSHeadRun.getT s) (asW (HandSHeadRun.getT s))) = obsW fa fn ex (He.frG s.abs.heap.get? (asW s.abs.heap.get?))
  rw [e]
section
variable {fa : List He.Fa} {fn : List DefW} {ex : PySem.W.Frag → List Bool} {K : PySem.W.Frag}
theorem SaysW.fact (c : SaysW fa fn ex K) (i : Nat) {f : He.Fa} (h : fa[i]? = some f) : f.ok K = true := List.all_eq_true.mp c.all.1 f (List.mem_of_getElem? h)
theorem SaysW.exs (c : SaysW fa fn ex K) (i : Nat) {b : Bool} (h : (ex K)[i]? = some b) : b = true := List.all_eq_true.mp c.all.2.2 b (List.mem_of_getElem? h)
theorem SaysW.defS (c : SaysW fa fn ex K) (i : Nat) {d : DefW} (h : fn[i]? = some d) : fnWA K d.sup (d.at_ K) = d.val ∧ d.ok K = true := by
  have e : fn.map (fun d => fnWA K d.sup (d.at_ K)) = fn.map DefW.val := congrArg (fun z : AlW => z.2) c
  have e2 : (fn.map fun d => fnWA K d.sup (d.at_ K))[i]? = (fn.map DefW.val)[i]? := by rw [e]
  rw [List.getElem?_map, List.getElem?_map, h] at e2
  exact ⟨Option.some.inj e2, List.all_eq_true.mp c.all.2.1 d (List.mem_of_getElem? h)⟩
theorem SaysW.def_ (c : SaysW fa fn ex K) (i : Nat) {d : DefW} (h : fn[i]? = some d) (hs : d.sup = none := by rfl) : ∃ fd, FunD K d.name d.qual d.params d.body d.scope (d.dvs K) [] (d.at_ K) fd := by
  obtain ⟨h1, h2⟩ := c.defS i h
  exact DefW.funD hs h1 h2
end
def rFld (K : PySem.W.Frag) (f : Str) : V → Hp → VK → Prop := fun x H Q => ∃ a C dx fs v, x = .ref a ∧ H a = some (.ins C dx fs) ∧ Cls K C ∧ NoAttr K C f ∧ fs.lookup f = some v ∧ Q v H
theorem w_fld {K : PySem.W.Frag} {ta : TE} {f : Str} {σ : L2.St} {H : Hp} {Q : VK} (h : ta σ H fun x H1 => rFld K f x H1 Q) : tFld K ta f σ H Q := h
theorem w_rFld {K : PySem.W.Frag} {f : Str} {a C dx : Addr} {fs : List (Str × V)} {v : V} {H : Hp} {Q : VK} (h : H a = some (.ins C dx fs)) (c : Cls K C) (n : NoAttr K C f) (l : fs.lookup f = some v) (q : Q v H) : rFld K f (.ref a) H Q := ⟨a, C, dx, fs, v, rfl, h, c, n, l, q⟩
def rPut (K : PySem.W.Frag) (f : Str) (y : V) : V → Hp → (Hp → Prop) → Prop := fun x H R => ∃ a C dx fs, x = .ref a ∧ H a = some (.ins C dx fs) ∧ Cls K C ∧ NoAttr K C f ∧ fs.length < 1000 ∧ R (upd H a (.ins C dx (putF f y fs)))
theorem w_put {K : PySem.W.Frag} {ta tv : TE} {f : Str} {σ : L2.St} {H : Hp} {D : Ends} (h : tv σ H fun y H1 => ta σ H1 fun x H2 => rPut K f y x H2 fun H3 => D.nx σ H3) : sFld K ta tv f D σ H := h
theorem Gr.put {H : Hp} {a C dx : Addr} {fs : List (Str × V)} {o : HO} (h : H a = some (.ins C dx fs)) (hi : imm (fs.map (·.1)) = false) : Gr [a] H (upd H a o) := ⟨fun b u e m => by
    rw [upd_ne (by simpa using m)]
    exact e, fun b m => by
    have e : b = a := by simpa using m
    subst e
    exact ⟨_, h, hi⟩⟩
theorem w_rPut {K : PySem.W.Frag} {f : Str} {y : V} {a C dx : Addr} {fs : List (Str × V)} {H : Hp} {R : Hp → Prop} (h : H a = some (.ins C dx fs)) (c : Cls K C) (n : NoAttr K C f) (l : fs.length < 1000) (hi : imm (fs.map (·.1)) = false)
    (q : ∀ H', Gr [a] H H' → H' a = some (.ins C dx (putF f y fs)) → R H') : rPut K f y (.ref a) H R := ⟨a, C, dx, fs, rfl, h, c, n, l, q _ (Gr.put h hi) upd_same⟩
theorem walkW {l : PySem.W.OpenLaw} {n k : Nat} {q : Program} {loose : List Str} {XP : (Str → Option Value) → Heap → Prop} {YP : World → Heap → Prop} {d : DefRec} {x : Str}
    (hn : l.most = some n) (hn2 : n ≤ sizeLine) (hdf : d.params.defaults = []) (hr : Room k callerA)
    (F : ∀ (w : World) (mg : Str → Option Value) (fa : Addr) (h : Heap), YP w h → h.Ns mainGlobals mg → mg d.name = some (.ref fa) →
      ∃ (K : PySem.W.Frag) (fd : FuncData) (sp : Sp), K.In h ∧ (∀ (s : Shared) (u : Value), BindsTo s fd ⟨[u], []⟩ [(x, u)]) ∧
        (∀ (H : Hp) (a : Addr) (ns : List Int), ns.length ≤ n → Only H → SqL K H a (ns.map V.int) → sp [.ref a] H (fun v _ => v = .bl true) fun _ _ _ => False) ∧
        ∀ base : Heap, K.In base → base.Ns mainGlobals mg → FnOk l.prog w K mg base (L2N.CX l.prog w) k fa fd [x] sp) :
    PySem.W.WalkO q loose XP YP l.row.toRowW d [] (fun f vs => PySem.call f vs) := by
  refine Att.attach_call hn hdf fun w s₀ s₁ mg mb fa o pm cd doc a vs ns G Y ho hd hcd hmg hobj hints hlen hg => ?_
  obtain ⟨K, fd, sp, KX, hb, hsp, hF⟩ := F w mg fa _ Y G.T.g hmg
  refine law_call KX G.T.g G.T.b G.T.builtins G.T.nolimit hg hobj hints (Nat.le_trans hlen hn2) hr hF hb (fun H hO hS => hsp H a ns hlen hO hS) fun H e s' h => ?_
  obtain ⟨_, _, _, _, _, _, _, _, _, _, _, _, z⟩ := h
  exact z
end LW
namespace LW
open PySem PySem.Spec PyProof.Rows L2
def tDead : TS := fun _ _ _ => False
theorem ps_dead {X : Cx} {st : Stmt} : PS X st tDead := ⟨fun _ _ _ _ _ _ h => h.elim⟩
abbrev E0S : L2.St → XK := fun _ _ _ _ => False
theorem passAt0 {X : Cx} (σ : L2.St) : PassesAt (L2N.CX X.prog X.w) X σ (E0S σ) := fun _ _ _ _ _ _ c => by
  obtain ⟨_, _, _, _, _, _, _, _, _, _, _, z⟩ := c
  exact z.2.elim
theorem rawF {P : Program} {w : World} {K : PySem.W.Frag} {mg : Str → Option Value} {base : Heap} {CX : CXT} {k : Nat} {f : Addr} {fd : FuncData} {ps : List Str} {sp : Sp} (F : FnOk P w K mg base CX k f fd ps sp) (hb : Binds K fd ps []) :
    FnR P w K mg base CX k f sp := (F.raw hb .nil).imp fun vs H Q E h => by rw [List.append_nil]; exact h
section
variable {X : Cx} {CX : CXT} {k : Nat} {C f g p : Addr} {mc : Value} {sp : Sp} {E : L2.St → XK} {pins : List (Addr × Obj)} {σ : L2.St} {H : Hp} {s : Shared} {Q : VK} {us : List Value} {vs : List V}
theorem run_S {A : Around} (F : FnR X.prog X.w X.K X.mg X.base CX k g sp) (hr : Room k A) (e0 : Env0 X.prog X.w X.K X.mg X.base A X.stack s H) (hx : PassesAt CX X σ (E σ)) (I : Inv X pins σ H s) (r : Vals vs us) (h : sp vs H Q (E σ)) :
    codeAny (model X.prog X.w) A (.call (.ref g) ⟨us, []⟩) (fun r s' => match r with | .ok (.ret v) => EP X pins σ Q v s' | .ok _ => False | .error e => X.xe e s') s := by
  refine codeAny_mono (F A X.stack s H us vs Q (E σ) hr e0 r h) fun r s' hq => ?_
  rcases r with e | fl
  · exact hx pins H s e s' I hq
  · cases fl <;> first | exact I.after hq | exact False.elim hq
def mkHp (H : Hp) (x dx C : Addr) : Hp := upd (upd H dx (.own x)) x (.ins C dx [])
def tMakeS (C : Addr) (sp : Sp) (E : L2.St → XK) (tf : TE) (t : TA) : TE := fun σ H Q => tf σ H fun y H0 => y = .ref C ∧ t σ H0 fun vs H1 => ∀ x dx, H1 x = Option.none → H1 dx = Option.none → dx ≠ x →
  sp (V.ref x :: vs) (mkHp H1 x dx C) (fun v H2 => v = .non ∧ Q (.ref x) H2) (E σ)
variable {o e fe : Expr} {es : List Expr} {m : Str} {pos apos : Pos} {ta tb tf : TE} {t : TA} {pl : Sem Bool}
theorem pe_makeS (hf : PE X fe tf) (M : Mk X.K C f) (F : FnR X.prog X.w X.K X.mg X.base CX k f sp) (hr : Room (k + 1) X.A) (hx : ∀ σ, PassesAt CX X σ (E σ)) (ha : PA X (e :: es) t)
    (ht : eval (.Call fe (e :: es) [] pos) X.env = (do callWith pos (← eval fe X.env) [] (backTo pos (starEach (e :: es) X.env)) (backToKw pos (keywordEach [] X.env))) := by rfl)
    (he : starEach (e :: es) X.env = (false, eval e X.env) :: starEach es X.env := by rfl) (hpl : (backTo pos (starEach es X.env)).any (·.1) = false := by rfl) : PE X (.Call fe (e :: es) [] pos) (tMakeS C sp E tf t) := by
  refine ⟨fun pins s σ H Q I h => ?_⟩
  refine Call_ (thn (hf.run pins s σ H _ I h) fun u s1 ⟨y, H0, I0, ry, ey, q0⟩ => ?_) ht
  subst ey
  obtain rfl : u = Value.ref C := ry
  refine PySem.W.callWith_K (h₀ := X.base) I0.ok.mod.kin M.kp (thn (ha.run pos pins s1 σ H0 _ I0 q0) fun us s2 ⟨vs, H1, I1, r, q⟩ => ⟨I1.kIn, ?_⟩) he hpl
  have hq := q (s2.heap.objs.size + 1) s2.heap.objs.size (I1.hok.fresh (Nat.le_succ _)) (I1.hok.fresh (Nat.le_refl _)) (Nat.ne_of_lt (Nat.lt_succ_self _))
  have I2 := Inv.made (C := C) I1
  refine wpAny_call (make_map (f := f) I1.kIn M.makes M.init (beq_iff_eq.mp M.fn) (codeAny_mono (run_S (us := Value.ref (s2.heap.objs.size + 1) :: us) (vs := V.ref (s2.heap.objs.size + 1) :: vs) F (hr.make C us []) (I2.env0.make C us []) (hx σ) I2 (.cons rfl r) hq) fun r s' hq' => ?_))
  rcases r with e | fl
  · exact hq'
  · cases fl with
    | ret u =>
      obtain ⟨v, H', I3, rv, ev, q3⟩ := hq'
      subst ev
      exact ⟨rv, ⟨V.ref (s2.heap.objs.size + 1), H', I3, rfl, q3⟩⟩
    | _ => exact False.elim hq'
def tCMethS (C : Addr) (sp : Sp) (E : L2.St → XK) (ta : TE) (t : TA) : TE := fun σ H Q => ta σ H fun x H1 => x = .ref C ∧ t σ H1 fun vs H2 => sp (.ref C :: vs) H2 Q (E σ)
def tMethSS (C : Addr) (m : Str) (sp : Sp) (E : L2.St → XK) (ta : TE) (t : TA) : TE := fun σ H Q => ta σ H fun x H1 => ∃ a dx fs, x = .ref a ∧ H1 a = some (.ins C dx fs) ∧ fs.lookup m = none ∧ t σ H1 fun vs H2 => sp (x :: vs) H2 Q (E σ)
theorem pe_methS (he : PE X o ta) (c : Cls X.K C) (hm : Meth X.K C m f) (F : FnR X.prog X.w X.K X.mg X.base CX k f sp) (hr : Room k X.A) (hx : ∀ σ, PassesAt CX X σ (E σ)) (ha : PA X (e :: es) t)
    (hst : starEach (e :: es) X.env = (false, eval e X.env) :: starEach es X.env := by rfl) (hpl : (backTo pos (starEach es X.env)).any (·.1) = false := by rfl)
    (ht : eval (.Call (.Attribute o m apos) (e :: es) [] pos) X.env = (do
      let ov ← eval o X.env
      standAt apos.atName
      let (f, first) ← holding [ov] (getMethod ov m pl)
      callWith pos f first (backTo pos (starEach (e :: es) X.env)) (backToKw pos (keywordEach [] X.env))) := by rfl) :
    PE X (.Call (.Attribute o m apos) (e :: es) [] pos) (tMethSS C m sp E ta t) := by
  refine ⟨fun pins s σ H Q I h => ?_⟩
  refine PySem.W.methodCall_KW (pl := pl) (thn (he.run pins s σ H _ I h) fun u s1 ⟨x, H1, I1, rx, a, dx, fs, ex, ea, l, q⟩ => ?_) ht
  subst ex
  obtain rfl : u = Value.ref a := rx
  refine getmeth_ok I1 ea c hm l ?_
  refine PySem.W.callWith_K (first := [.ref a]) (h₀ := X.base) I.ok.mod.kin hm.kp (thn (ha.run pos pins s1 σ H1 _ I1 q) fun us s2 ⟨vs, H2, I2, r, q2⟩ => ⟨I2.kIn, ?_⟩) hst hpl
  exact wpAny_call (run_S (us := .ref a :: us) (vs := .ref a :: vs) F hr I2.env0 (hx σ) I2 (.cons rfl r) q2)
def tCallOS (C : Addr) (sp : Sp) (E : L2.St → XK) (tf : TE) (t : TA) : TE := fun σ H Q => tf σ H fun y H1 => ∃ a, y = V.ref a ∧ t σ H1 fun vs H2 => (∃ dx fs, H2 a = some (.ins C dx fs)) ∧ sp (V.ref a :: vs) H2 Q (E σ)
def tBinS (C : Addr) (sp : Sp) (E : L2.St → XK) (ta tb : TE) : TE := fun σ H Q => ta σ H fun x H1 => tb σ H1 fun y H2 => ∃ a dx fs b dy gs, x = .ref a ∧ y = .ref b ∧ H2 a = some (.ins C dx fs) ∧ H2 b = some (.ins C dy gs) ∧ sp [x, y] H2 Q (E σ)
structure OpO (K : PySem.W.Frag) (C : Addr) (m : Str) (g : Addr) : Prop where
  self : PySem.W.selfFirst K C = true
  at_ : PySem.W.findIn K (.ref C) m = some (some (.ref g))
  fn : PySem.W.isFn K (.ref g) = true
theorem ins_at (I : Inv X pins σ H s) {a dx : Addr} {fs : List (Str × V)} (h : H a = some (.ins C dx fs)) : ∃ ox od, PySem.W.InstAt s.heap a ox C od := by
  obtain ⟨ox, od, J, _⟩ := StX.insC_at I (.inr ⟨dx, fs, h⟩)
  exact ⟨ox, od, J⟩
theorem pe_binS {a b : Expr} {op : Operator} (c : OpO X.K C (PySem.dunder op.info.2) g) (F : FnR X.prog X.w X.K X.mg X.base CX k g sp) (hr : Room k X.A) (hx : ∀ σ, PassesAt CX X σ (E σ)) (ha : PE X a ta) (hb : PE X b tb) : PE X (.BinOp a op b pos) (tBinS C sp E ta tb) := by
  refine ⟨fun pins s σ H Q I h => ?_⟩
  refine wpAny_BinOp (binT ha hb I h fun v u s2 x y H2 I2 rx ry q => ?_)
  obtain ⟨a, dx, fs, b, dy, gs, rfl, rfl, ea, eb, q⟩ := q
  cases (show v = Value.ref a from rx)
  cases (show u = Value.ref b from ry)
  obtain ⟨ox, od, J⟩ := ins_at I2 ea
  obtain ⟨ox', od', J'⟩ := ins_at I2 eb
  obtain ⟨m, hF⟩ := I2.fr
  refine PySem.W.binop_K hF I2.ok.mod.kin J J'.type c.self c.at_ c.fn ?_
  refine wpAny_mono (wpAny_call (run_S (us := [.ref a, .ref b]) (vs := [.ref a, .ref b]) F hr I2.env0 (hx σ) I2 (.cons rfl (.cons rfl .nil)) q)) (fun w s' z => ?_) fun _ _ x => x
  obtain ⟨z', H', I', rz, qz⟩ := z
  exact SlX.cmpback rz ⟨z', H', I', rz, qz⟩
structure CmO (K : PySem.W.Frag) (C : Addr) (m : Str) (g : Addr) : Prop where
  at_ : PySem.W.findIn K (.ref C) m = some (some (.ref g))
  fn : PySem.W.isFn K (.ref g) = true
def tBinI (C : Addr) (sp : Sp) (E : L2.St → XK) (ta tb : TE) : TE := fun σ H Q => ta σ H fun x H1 => tb σ H1 fun y H2 => ∃ a dx fs i, x = .ref a ∧ y = .int i ∧ H2 a = some (.ins C dx fs) ∧ sp [x, y] H2 Q (E σ)
def tInvS (C : Addr) (sp : Sp) (E : L2.St → XK) (ta : TE) : TE := fun σ H Q => ta σ H fun x H1 => ∃ a dx fs, x = .ref a ∧ H1 a = some (.ins C dx fs) ∧ sp [x] H1 Q (E σ)
theorem pe_invS {a : Expr} (c : CmO X.K C "__invert__" g) (F : FnR X.prog X.w X.K X.mg X.base CX k g sp) (hr : Room k X.A) (hx : ∀ σ, PassesAt CX X σ (E σ)) (ha : PE X a ta) : PE X (.UnaryOp .Invert a pos) (tInvS C sp E ta) := by
  refine ⟨fun pins s σ H Q I h => ?_⟩
  refine UnaryOp_ (thn (ha.run pins s σ H _ I h) fun v s1 ⟨x, H1, I1, r1, a, dx, fs, ex, ea, q⟩ => ?_)
  subst ex
  cases (show v = Value.ref a from r1)
  obtain ⟨ox, od, J⟩ := ins_at I1 ea
  obtain ⟨m, hF⟩ := I1.fr
  exact PySem.W.ksp_inv hF I1.ok.mod.kin J c.at_ c.fn (wpAny_call (run_S (us := [.ref a]) (vs := [.ref a]) F hr I1.env0 (hx σ) I1 (.cons rfl .nil) q))
def rLenO (C : Addr) (sp : Sp) : List V → Hp → VK → Prop := fun xs H Q => ∃ a dx fs, xs = [.ref a] ∧ H a = some (.ins C dx fs) ∧ sp [.ref a] H (fun v H' => ∃ n : Int, v = .int n ∧ 0 ≤ n ∧ n < 2 ^ 63 ∧ Q (.int n) H') (fun _ _ _ => False)
theorem cr_lenO (c : CmO X.K C "__len__" g) (F : FnR X.prog X.w X.K X.mg X.base (L2N.CX X.prog X.w) k g sp) (hr : Room (k + 1) X.A) : CallR X (.builtin "len") (rLenO C sp) := by
  intro pins s σ H xs us Q I r h
  obtain ⟨a, dx, fs, rfl, ea, q⟩ := h
  obtain ⟨u, rfl, ru⟩ := r.one
  cases (show u = Value.ref a from ru)
  obtain ⟨ox, od, J⟩ := ins_at I ea
  obtain ⟨m, hF⟩ := I.fr
  refine PySem.W.len_K hF I.ok.mod.kin J c.at_ c.fn (wpAny_mono (wpAny_call (run_S (E := E0S) (us := [.ref a]) (vs := [.ref a]) F hr.in1 I.env0.in1 (passAt0 σ) I (.cons rfl .nil) q)) (fun w s' z => ?_) fun _ _ x => x)
  obtain ⟨z', H', I', rz, n, ez, h0, h1, qz⟩ := z
  subst ez
  obtain ⟨t, e⟩ := (show ∃ t, w = Value.int n t from rz)
  cases e
  exact ⟨⟨h0, h1⟩, .int n, H', I'.tok _, ⟨_, rfl⟩, qz⟩
end
section
variable {K : PySem.W.Frag} {x m : Str}
theorem and2 {a b : Bool} (h : (a && b) = true) : a = true ∧ b = true := Bool.and_eq_true_iff.mp h
theorem cmoB_ok (h : cmoB K x m = true) : CmO K (He.ga K x) m (He.ma K (He.ga K x) m) := ⟨of_decide_eq_true (and2 h).1, (and2 h).2⟩
theorem opoB_ok (h : opoB K x m = true) : OpO K (He.ga K x) m (He.ma K (He.ga K x) m) := ⟨(and2 h).1, (cmoB_ok (and2 h).2).1, (cmoB_ok (and2 h).2).2⟩
theorem crdB_ok (h : crdB K x = true) : ClX.CRead K (He.ga K x) (.type "type") := ⟨(and2 h).1, of_decide_eq_true (and2 h).2⟩
theorem cvlB_ok {i : Int} (h : cvlB K x m i = true) : ∃ u, ClX.CVal K (He.ga K x) (.type "type") m (.int i) u := by
  unfold cvlB at h
  split at h
  · rename_i j t e
    exact ⟨_, e, t, by rw [of_decide_eq_true h]⟩
  · cases h
structure IsiC (K : PySem.W.Frag) (C : Addr) : Prop where
  cls : Cls K C
  ca : PySem.W.findIn K (.ref C) "__class__" = some (some (.builtin "object.__class__"))
  cn : PySem.W.specialIn K (.builtin "object.__class__") "__get__" = some (some (.builtin "getset_descriptor.__get__"))
  ct : PySem.W.takesIn K (.builtin "object.__class__") = some true
  cm : PySem.W.mroIn K C (.type "object") = some true
theorem w_isiO {H : Hp} {Q : VK} {a C D dx : Addr} {fs : List (Str × V)} {b : Bool} (I : IsiC K C) (h : H a = some (.ins C dx fs)) (hk : PySem.W.kitOne K (.ref C) (.ref D) = some b) (q : Q (.bl b) H) : rIsi K [.ref a, .ref D] H Q :=
  ⟨.ref a, .ref D, .ref C, .ref D, b, rfl, .own D, .base (.ins h I.cls I.ca I.cn I.ct I.cm), hk, q⟩
end
section
variable {K : PySem.W.Frag} {C : Addr} {sp : Sp} {E : L2.St → XK} {ta tb tf : TE} {t : TA} {σ : L2.St} {H : Hp} {Q : VK} {m : Str}
def kMake (C : Addr) (sp : Sp) (E : XK) (vs : List V) (H1 : Hp) (Q : VK) : Prop := ∀ x dx, H1 x = Option.none → H1 dx = Option.none → dx ≠ x → sp (V.ref x :: vs) (mkHp H1 x dx C) (fun v H2 => v = .non ∧ Q (.ref x) H2) E
def kRef (C : Addr) (y : V) (P : Prop) : Prop := y = .ref C ∧ P
theorem w_kRef {P : Prop} (h : P) : kRef C (.ref C) P := ⟨rfl, h⟩
theorem w_makeS (h : tf σ H fun y H0 => kRef C y (t σ H0 fun vs H1 => kMake C sp (E σ) vs H1 Q)) : tMakeS C sp E tf t σ H Q := h
theorem w_cmethS (h : ta σ H fun y H0 => kRef C y (t σ H0 fun vs H1 => sp (.ref C :: vs) H1 Q (E σ))) : tCMethS C sp E ta t σ H Q := h
def rBinO (C : Addr) (sp : Sp) (E : XK) (x y : V) (H2 : Hp) (Q : VK) : Prop := ∃ a dx fs b dy gs, x = .ref a ∧ y = .ref b ∧ H2 a = some (.ins C dx fs) ∧ H2 b = some (.ins C dy gs) ∧ sp [x, y] H2 Q E
theorem w_binS (h : ta σ H fun x H1 => tb σ H1 fun y H2 => rBinO C sp (E σ) x y H2 Q) : tBinS C sp E ta tb σ H Q := h
def rBinI (C : Addr) (sp : Sp) (E : XK) (x y : V) (H2 : Hp) (Q : VK) : Prop := ∃ a dx fs i, x = .ref a ∧ y = .int i ∧ H2 a = some (.ins C dx fs) ∧ sp [x, y] H2 Q E
theorem w_binI (h : ta σ H fun x H1 => tb σ H1 fun y H2 => rBinI C sp (E σ) x y H2 Q) : tBinI C sp E ta tb σ H Q := h
def rInvO (C : Addr) (sp : Sp) (E : XK) (x : V) (H2 : Hp) (Q : VK) : Prop := ∃ a dx fs, x = .ref a ∧ H2 a = some (.ins C dx fs) ∧ sp [x] H2 Q E
theorem w_invS (h : ta σ H fun x H1 => rInvO C sp (E σ) x H1 Q) : tInvS C sp E ta σ H Q := h
def rCalO (C : Addr) (sp : Sp) (E : XK) (t : TA) (σ : L2.St) (y : V) (H1 : Hp) (Q : VK) : Prop := ∃ a, y = V.ref a ∧ t σ H1 fun vs H2 => (∃ dx fs, H2 a = some (.ins C dx fs)) ∧ sp (V.ref a :: vs) H2 Q E
theorem w_callOS (h : tf σ H fun y H1 => rCalO C sp (E σ) t σ y H1 Q) : tCallOS C sp E tf t σ H Q := h
def rMetO (C : Addr) (m : Str) (sp : Sp) (E : XK) (t : TA) (σ : L2.St) (y : V) (H1 : Hp) (Q : VK) : Prop := ∃ a dx fs, y = .ref a ∧ H1 a = some (.ins C dx fs) ∧ fs.lookup m = none ∧ t σ H1 fun vs H2 => sp (y :: vs) H2 Q E
theorem w_methS (h : ta σ H fun y H1 => rMetO C m sp (E σ) t σ y H1 Q) : tMethSS C m sp E ta t σ H Q := h
def rCVal (K : PySem.W.Frag) (f : Str) (x : V) (H : Hp) (Q : VK) : Prop := ∃ C mc v u, x = .ref C ∧ ClX.CRead K C mc ∧ ClX.CVal K C mc f v u ∧ Q v H
theorem w_cval {f : Str} (h : ta σ H fun x H1 => rCVal K f x H1 Q) : ClX.tCVal K ta f σ H Q := h
theorem w_rCVal {f : Str} {v : V} {mc : Value} (r : ClX.CRead K C mc) (k : ∃ u, ClX.CVal K C mc f v u) (q : Q v H) : rCVal K f (.ref C) H Q := by
  obtain ⟨u, k⟩ := k
  exact ⟨C, mc, v, u, rfl, r, k, q⟩
def kLstRg (a b : Int) (H1 : Hp) (Q : VK) : Prop := RgOk a b ∧ ∀ q, H1 q = none → Q (.ref q) (upd H1 q (.lst (rgV a b)))
def kTupRg (a b : Int) (H1 : Hp) (Q : VK) : Prop := RgOk a b ∧ ∀ q, H1 q = none → Q (.ref q) (upd H1 q (.tup (rgV a b)))
def kRg1 (x : V) (R : Int → Int → Hp → Prop) (H : Hp) : Prop := ∃ n, x = .int n ∧ R 0 n H
theorem w_lstRg {te : L2.St → Hp → (Int → Int → Hp → Prop) → Prop} (h : te σ H fun a b H1 => kLstRg a b H1 Q) : tLstRg te σ H Q := h
theorem w_tupRg {te : L2.St → Hp → (Int → Int → Hp → Prop) → Prop} (h : te σ H fun a b H1 => kTupRg a b H1 Q) : tTupRg te σ H Q := h
theorem w_tRg1 {R : Int → Int → Hp → Prop} (h : ta σ H fun x H1 => kRg1 x R H1) : tRg1 ta σ H R := h
theorem w_kRg1 {n : Int} {R : Int → Int → Hp → Prop} (h : R 0 n H) : kRg1 (.int n) R H := ⟨n, rfl, h⟩
def rg (n : Nat) : List Int := (List.range n).map fun (i : Nat) => (i : Int)
theorem rgV_eq (n : Nat) : rgV 0 n = (rg n).map V.int := by
  unfold rgV rg
  rw [List.map_map, show ((n : Int) - 0).toNat = n by omega]
  exact List.map_congr_left fun i _ => by show V.int (0 + (i : Nat)) = V.int (i : Int); rw [Int.zero_add]
theorem w_kLstRg {n : Nat} (hn : n ≤ 1000000) (h : ∀ q H', H q = none → Gr [] H H' → H' q = some (.lst ((rg n).map V.int)) → Q (.ref q) H') : kLstRg 0 n H Q :=
  ⟨.of_le (by omega) (by omega) (by omega) (by omega), fun q hq => h q _ hq (Gr.new hq) (by rw [rgV_eq]; exact upd_same)⟩
end
abbrev Blk (α : Type) : Type := Shared → Hp → Addr → List (Str × Addr) → List Addr → α
section
variable {X : Cx} {elt tg iter : Expr} {ifs : List Expr} {scope : Scope} {own : List (Str × Nat)} {pos spos : Pos} {wi : TI} {g : TG} {tt : Blk TT} {te : Blk TE} {i : Nat} {y : Str} {py : Pos}
end
def kLc (g : TG) (tt : TT) (te : TE) (vs : List Nat) (σ : L2.St) : It → Hp → VK → Prop := fun J H1 Q => ∀ D, H1 D = none → ∃ W : Nat → Nat → Hp → Prop, (∃ m, W 0 m (upd H1 D (.lst []))) ∧ ∀ i m H, W i m H →
  (J.stop i H ∧ Q (.ref D) H) ∨ (J.go i H ∧ ∃ Nx : Hp → Prop, (∀ H', Nx H' → ∃ m', m' < m ∧ W (i + 1) m' H') ∧ ∀ x H', J.yld i H x H' → g x (wipe σ vs) H' fun σ2 H2 => wipe σ2 vs = wipe σ vs ∧ tt σ2 H2 fun b H3 =>
    if b = true then te σ2 H3 fun y H4 => ∃ acc, H4 D = some (.lst acc) ∧ acc.length < sizeLine ∧ Nx (upd H4 D (.lst (acc ++ [y]))) else Nx H3)
section
variable {K : PySem.W.Frag} {σ : L2.St} {H H1 : Hp} {Q : VK} {wi : TI} {g : TG} {tt : TT} {te : TE} {vs : List Nat} {n : Nat} {lo : Int} {a : Addr} {xs : List V}
theorem w_lc (h : wi σ H fun J H1 => kLc g tt te vs σ J H1 Q) : tLc wi g tt te vs σ H Q := h
def rApp (D : Addr) (Nx : Hp → Prop) (y : V) (H4 : Hp) : Prop := ∃ acc, H4 D = some (.lst acc) ∧ acc.length < sizeLine ∧ Nx (upd H4 D (.lst (acc ++ [y])))
def kIf (b : Bool) (A B : Prop) : Prop := if b = true then A else B
def kTrn (g : TG) (tt : TT) (te : TE) (vs : List Nat) (σ : L2.St) (D : Addr) (Nx : Hp → Prop) (x : V) (H : Hp) : Prop := g x (wipe σ vs) H fun σ2 H2 => wipe σ2 vs = wipe σ vs ∧ tt σ2 H2 fun b H3 => kIf b (te σ2 H3 (rApp D Nx)) (Nx H3)
theorem w_trn {D : Addr} {Nx : Hp → Prop} {x : V} (h : g x (wipe σ vs) H fun σ2 H2 => wipe σ2 vs = wipe σ vs ∧ te σ2 H2 (rApp D Nx)) : kTrn g tYes te vs σ D Nx x H := h
theorem int_get {ns : List Int} {i : Nat} {x : V} (h : (ns.map V.int)[i]? = some x) : ∃ y, ns[i]? = some y ∧ x = .int y := by
  rw [List.getElem?_map] at h
  obtain ⟨y, hy, e⟩ := Option.map_eq_some_iff.mp h
  exact ⟨y, hy, e.symm⟩
end
end LW
namespace LW
open PySem PySem.Spec PyProof.Rows L2
theorem eraseIdx_mapL {α β : Type} (f : α → β) : ∀ (l : List α) (i : Nat), (l.map f).eraseIdx i = (l.eraseIdx i).map f
  | [], _ => rfl
  | _ :: _, 0 => rfl
  | a :: l, i + 1 => congrArg (f a :: ·) (eraseIdx_mapL f l i)
theorem eraseIdx_permL {α : Type} : ∀ {l : List α} {i : Nat} {v : α}, l[i]? = some v → (v :: l.eraseIdx i).Perm l
  | [], _, _, h => by simp at h
  | a :: l, 0, v, h => by
    have e : a = v := by simpa using h
    subst e
    exact .refl _
  | a :: l, i + 1, v, h => by
    have h : l[i]? = some v := by simpa using h
    exact (List.Perm.swap a v _).trans ((eraseIdx_permL h).cons a)
theorem nodup_part {α : Type} [BEq α] [LawfulBEq α] : ∀ {l m : List α}, l.Nodup → (∀ x ∈ l, x ∈ m) → ∃ r, m.Perm (l ++ r)
  | [], m, _, _ => ⟨m, .refl _⟩
  | a :: l, m, hn, hs => by
    obtain ⟨ha, hn⟩ := List.nodup_cons.mp hn
    have h1 : m.Perm (a :: m.erase a) := List.perm_cons_erase (hs a List.mem_cons_self)
    obtain ⟨r, hr⟩ := nodup_part (m := m.erase a) hn fun x hx => by
      have hm := hs x (List.mem_cons_of_mem _ hx)
      have hne : x ≠ a := fun e => ha (e ▸ hx)
      exact (List.mem_erase_of_ne hne).mpr hm
    exact ⟨r, h1.trans (hr.cons a)⟩
theorem perm_of {α : Type} [BEq α] [LawfulBEq α] {l m : List α} (hn : l.Nodup) (hs : ∀ x ∈ l, x ∈ m) (hl : m.length ≤ l.length) : l.Perm m := by
  obtain ⟨r, hr⟩ := nodup_part hn hs
  have e := hr.length_eq
  rw [List.length_append] at e
  have : r = [] := List.eq_nil_of_length_eq_zero (by omega)
  rw [this, List.append_nil] at hr
  exact hr.symm
theorem mem_rg {n : Nat} {x : Int} : x ∈ rg n ↔ 0 ≤ x ∧ x < n := by
  unfold rg
  rw [List.mem_map]
  refine ⟨fun ⟨i, hi, e⟩ => ?_, fun ⟨h0, h1⟩ => ⟨x.toNat, List.mem_range.mpr (by omega), by omega⟩⟩
  have := List.mem_range.mp hi
  omega
theorem length_rg (n : Nat) : (rg n).length = n := by unfold rg; rw [List.length_map, List.length_range]
theorem nodup_rg (n : Nat) : (rg n).Nodup := by
  unfold rg
  exact List.Pairwise.map _ (fun a b h e => h (by omega)) List.nodup_range
theorem sorted_rg (n : Nat) : (rg n).Pairwise (· ≤ ·) := by
  unfold rg
  refine List.Pairwise.map _ (fun a b h => ?_) (List.pairwise_lt_range (n := n))
  exact Int.ofNat_le.mpr (Nat.le_of_lt h)
theorem rg_get {n i : Nat} (h : i < n) : (rg n)[i]? = some (i : Int) := by
  unfold rg
  simp [h]
def IsNum (ps : List Int) : Prop := 1 ≤ ps.length ∧ ps.length ≤ 12 ∧ ps.Perm (rg ps.length)
section
variable {ps qs : List Int} {n : Nat}
theorem IsNum.of (h1 : 1 ≤ n) (h2 : n ≤ 12) (hl : ps.length = n) (hn : ps.Nodup) (hb : ∀ x ∈ ps, 0 ≤ x ∧ x < n) : IsNum ps := by
  subst hl
  exact ⟨h1, h2, perm_of hn (fun x hx => mem_rg.mpr (hb x hx)) (by rw [length_rg]; omega)⟩
theorem IsNum.nodup (h : IsNum ps) : ps.Nodup := h.2.2.symm.nodup (nodup_rg _)
theorem IsNum.mem (h : IsNum ps) {x : Int} : x ∈ ps ↔ 0 ≤ x ∧ x < ps.length := by rw [h.2.2.mem_iff]; exact mem_rg
theorem IsNum.get (h : IsNum ps) {i : Nat} {x : Int} (e : ps[i]? = some x) : 0 ≤ x ∧ x < ps.length := h.mem.mp (List.mem_of_getElem? e)
theorem sorted_iff {ns : List Int} (h : ns.Perm ps) (hs : ns.Pairwise (· ≤ ·)) : ns = rg ps.length ↔ ps.Perm (rg ps.length) := by
  refine ⟨fun e => e ▸ h.symm, fun p => ?_⟩
  exact List.Perm.eq_of_pairwise (le := (· ≤ ·)) (fun a b _ _ h1 h2 => Int.le_antisymm h1 h2) hs (sorted_rg _) (h.trans p)
end
def rSortedA (K : PySem.W.Frag) : List V → Hp → VK → Prop := fun vs H Q => ∃ (a : Addr) (ns : List Int), vs = [V.ref a] ∧ (SqL K H a (ns.map V.int) ∨ SqT K H a (ns.map V.int)) ∧ ns.length < 64 ∧
  ∀ (ns' : List Int) (p : Addr), ns'.Perm ns → ns'.Pairwise (· ≤ ·) → H p = none → Q (.ref p) (upd H p (.lst (ns'.map V.int)))
section
variable {prog : Program} {w : World} {A : Around} {s : Shared} {E : Value → Shared → Prop}
theorem sorted_any {a : Addr} {T : String} {o : Obj} {n : Nat} {vs : List Value} {ns : List Int} {Q : Value → Shared → Prop} (hT : T = "list" ∨ T = "tuple") (ho : s.heap.get? a = some o) (hc : o.cls = .type T) (hd : o.data = .seq vs.toArray n) (hI : IntsAre vs ns) (h64 : vs.length < 64)
    (h : ∀ (h' h2 : Heap) (out : Array Value) (e : Nat) (ns' : List Int), (∀ b o', s.heap.get? b = some o' → h'.get? b = some o') → (∀ b o', h'.get? b = some o' → h2.get? b = some o') → h2.get? h'.objs.size = some (seqObj "list" out e) → IntsAre out.toList ns' → ns'.Perm ns → ns'.Pairwise (· ≤ ·) → Q (.ref h'.objs.size) { s with heap := h2 }) :
    wpAny (model prog w) A (call (.builtin "sorted") [.ref a]) Q E s := by
  refine Calls.call_function_entry kind_sorted plain_sorted entry_sorted (args_sorted1 _) ?_
  unfold Builtin.«sorted»
  refine wpAny_bind (m := checkCount "sorted" 1 1 _) (wpAny_pure ?_)
  refine wpAny_bind (wpAny_collect_seq a hT ho hc hd (fun h' hk => ?_) (by show vs.length ≤ sizeLine; rw [sizeLine_eq]; omega))
  refine wpAny_bind (wpAny_newList ?_)
  have e1 : vs.toArray.toList = vs := by simp
  rw [e1]
  have hoL : (h'.push (seqObj "list" vs.toArray 0)).get? h'.objs.size = some (seqObj "list" vs.toArray 0) := Heap.get?_push_size _ rfl
  refine wpAny_bind (wpAny_holding (wpAny_call_entry slot_list_sort ⟨_, hoL, rfl⟩ entry_list_sort (list_sort_tree hoL hI h64 fun out ns' a1 a2 a3 => ⟨_, rfl, ?_⟩) (args_list_sort _)))
  obtain ⟨e, he⟩ := sortedHeap_at (vs := vs) (out := out) (n := 0) hoL
  refine wpAny_pure ⟨_, rfl, h h' _ out e ns' hk (fun b o' q => ?_) he a1 a2 a3⟩
  have lt := Heap.lt_size q
  rw [sortedHeap_old (Nat.ne_of_lt lt) (by show b < (h'.push _).objs.size; rw [size_push']; exact Nat.lt_succ_of_lt lt)]
  exact Heap.get?_push_of_some _ q
end
theorem cr_sortedA {X : Cx} : CallR X (.builtin "sorted") (rSortedA X.K) := by
  intro pins s σ H vs us Q I r h
  obtain ⟨a, ns, rfl, hs, h64, q⟩ := h
  obtain ⟨u, rfl, ru⟩ := r.one
  cases (show u = Value.ref a from ru)
  have fin : ∀ {T : String} {o : Obj} {n : Nat} {its : List Value}, (T = "list" ∨ T = "tuple") → s.heap.get? a = some o → o.cls = .type T → o.data = .seq its.toArray n → Vals (ns.map V.int) its → wpAny (model X.prog X.w) X.A (call (.builtin "sorted") [.ref a]) (EP X pins σ Q) X.xe s := fun {T o n its} hT ho hc hd rv => by
    have hi := rv.ints
    refine sorted_any hT ho hc hd hi (by rw [hi.length]; exact h64) fun h' h2 out e ns' hk hk2 he h1 h2' h3 => ?_
    have I1 : Inv X pins σ H { s with heap := h' } := I.kept (t' := s.toks) hk
    have hlen : (ns'.map V.int).length ≤ sizeLine := by rw [List.length_map, h2'.length_eq]; exact small (by omega)
    exact ⟨.ref _, upd H h'.objs.size (.lst (ns'.map V.int)), I1.laid (t' := s.toks) hk2 (Nat.le_refl _) ⟨hlen, out.toList, e, vals_of_ints h1, he⟩, rfl, q ns' _ h2' h3 (I1.hok.fresh (Nat.le_refl _))⟩
  rcases hs with hs | hs
  · obtain ⟨its, rv, hl, _⟩ := I.list hs
    obtain ⟨o, ho, hc, n, hd⟩ := hl.isList
    exact fin (.inl rfl) ho hc hd rv
  · obtain ⟨its, rv, ⟨o, ho, hc, n, hd⟩, _⟩ := I.tuple hs
    exact fin (.inr rfl) ho hc hd rv
theorem w_sorted {K : PySem.W.Frag} {H : Hp} {Q : VK} {a : Addr} {ns : List Int} (h : SqL K H a (ns.map V.int) ∨ SqT K H a (ns.map V.int)) (hl : ns.length < 64)
    (k : ∀ (ns' : List Int) p H', H p = none → Gr [] H H' → H' p = some (.lst (ns'.map V.int)) → ns'.Perm ns → ns'.Pairwise (· ≤ ·) → Q (.ref p) H') : rSortedA K [.ref a] H Q :=
  ⟨a, ns, rfl, h, hl, fun ns' p hp hs h0 => k ns' p _ h0 (Gr.new h0) upd_same hp hs⟩
def rIndexT (K : PySem.W.Frag) : V → List V → Hp → VK → Prop := fun x xs H Q => ∃ (p : Addr) (ns : List Int) (z : Int), x = .ref p ∧ xs = [.int z] ∧ SqT K H p (ns.map V.int) ∧ z ∈ ns ∧ Q (.int (ns.idxOf z : Nat)) H
theorem flat_ints (ns : List Int) : (ns.map V.int).all flatV = true := by
  rw [List.all_map]
  exact List.all_eq_true.mpr fun _ _ => rfl
theorem mt_tindex {X : Cx} : MtR X "tuple.index" (rIndexT X.K) := by
  intro pins s σ H x xs v us Q I rx rs h
  obtain ⟨p, ns, z, rfl, rfl, hq, hz, q⟩ := h
  cases rx
  obtain ⟨u, rfl, t, rfl⟩ := vals1 rs
  obtain ⟨its, r, ⟨⟨cls, dd, dt, sl⟩, ho, hc, n, hd⟩, hzz⟩ := I.tuple hq
  simp only at hc hd
  subst hc hd
  have hl : its.toArray.size = ns.length := by rw [List.size_toArray, ← r.length, List.length_map]
  have at' : ∀ (m : Nat) (hm : m < its.toArray.size), ∃ (y : Int) (t' : Tok), ns[m]? = some y ∧ its.toArray[m] = Value.int y t' := fun m hm => by
    have hm' : m < ns.length := by rw [← hl]; exact hm
    obtain ⟨w, hw, t', hw'⟩ := r.get (i := m) (x := .int ns[m]) (by simp [hm'])
    refine ⟨ns[m], t', List.getElem?_eq_getElem hm', ?_⟩
    have e := (List.getElem?_eq_some_iff.mp hw).2
    rw [← hw', ← e]
    simp
  have hj0 : ns.idxOf z < ns.length := List.idxOf_lt_length_of_mem hz
  have hj : ns.idxOf z < its.toArray.size := by rw [hl]; exact hj0
  refine call_meets PySem.F.slot_tuple_index ⟨_, ho, rfl⟩ PySem.F.entry_tuple_index (PySem.F.args_tuple_index_2 _ _) (TI.tuple_indexAt p its.toArray n dd sl (.int z t) (eqU (.int z)) (ns.idxOf z) hj ?_ ?_)
    ⟨ho, fun w hw => mem_eqAt (x := .int z) ⟨t, rfl⟩ rfl r (flat_ints ns) w (by simpa using hw), ⟨.int (ns.idxOf z : Nat), H, I.tok _, ⟨_, rfl⟩, q⟩⟩
  · obtain ⟨y, t', h1, h2⟩ := at' _ hj
    rw [List.getElem?_eq_getElem hj0, List.getElem_idxOf hj0] at h1
    cases h1
    rw [h2]
    show (z == z) = true
    exact beq_self_eq_true z
  · intro m hm hmj
    obtain ⟨y, t', h1, h2⟩ := at' m hm
    rw [h2]
    show (y == z) = false
    refine beq_eq_false_iff_ne.mpr fun e => ?_
    subst e
    have z1 := List.not_of_lt_findIdx (xs := ns) (p := (· == y)) (i := m) hmj
    obtain ⟨hml, hme⟩ := List.getElem?_eq_some_iff.mp h1
    exact absurd (beq_iff_eq.mpr hme) (by simpa using z1)
def kTupX (x : V) (H : Hp) (P : Prop) : Prop := (∃ p ys, x = .ref p ∧ TupX H p ys) ∧ P
def tBMX (r : V → List V → Hp → VK → Prop) (to : TE) (t : TA) : TE := fun σ H Q => to σ H fun x H1 => kTupX x H1 (t σ H1 fun xs H2 => r x xs H2 Q)
theorem pe_bmX {X : Cx} {o e : Expr} {es : List Expr} {to : TE} {t : TA} {name : Str} {apos cpos : Pos} {id : String} {r : V → List V → Hp → VK → Prop} (slot : Slot "tuple" name id) (hty : typeOf (.builtin id) = pure (.type "method_descriptor")) (hm : MtR X id r) (ho : PE X o to) (ha : PA X (e :: es) t)
    (hbase : attributeBase o name X.env (eval o X.env) = eval o X.env := by rfl)
    (hfew : ((backTo cpos (starEach (e :: es) X.env)).all (fun x => !x.1) && (backToKw cpos (keywordEach [] X.env)).all (fun x => x.1.isSome)
      && decide ((e :: es).length + ([] : List Keyword).length + (if ([] : List Keyword).isEmpty then 0 else 1) < 30)) = true := by rfl)
    (hline : (apos.endLine == cpos.line) = true := by rfl) (hs : starEach (e :: es) X.env = (false, eval e X.env) :: starEach es X.env := by rfl) (hplain : (backTo cpos (starEach es X.env)).any (·.1) = false := by rfl) :
    PE X (.Call (.Attribute o name apos) (e :: es) [] cpos) (tBMX r to t) := by
  refine ⟨fun pins s σ H Q I h => ?_⟩
  refine wpAny_Call_method_late hbase hfew hline rfl (thn (ho.run pins s σ H _ I h) fun v s1 ⟨x, H1, I1, r1, ⟨p, ys, ex, ob, ep, hd⟩, q1⟩ => ?_)
  subst ex
  cases (show v = Value.ref p from r1)
  obtain ⟨g1, _, its, rv, o2, g2, g3, n, g4⟩ := (show ObjOk X.prog X.w H1 s1.heap p (.frz ob (.tup ys)) from I1.hok p _ ep)
  have e2 : o2 = ob := Option.some.inj (g2.symm.trans g1)
  subst e2
  refine ⟨"tuple", id, PySem.F.plainAttrs_tuple, slot, hty, ⟨_, g1, g3⟩, fun a e => ?_, ?_⟩
  · cases e
    exact ⟨_, g1, hd⟩
  have hA := ha.run cpos pins s1 σ H1 _ I1 q1
  rw [hs] at hA ⊢
  refine Calls.callWith_builtin (by show (false || (backTo cpos (starEach es X.env)).any (·.1)) = false; rw [hplain] <;> rfl) (Calls.evalArgs_plain ?_)
  exact thn hA fun us s2 ⟨vs, H2, I2, r2, q2⟩ => hm pins s2 σ H2 (.ref p) vs (.ref p) us Q I2 rfl r2 q2
theorem w_bmX {r : V → List V → Hp → VK → Prop} {to : TE} {t : TA} {σ : L2.St} {H : Hp} {Q : VK} (h : to σ H fun x H1 => kTupX x H1 (t σ H1 fun xs H2 => r x xs H2 Q)) : tBMX r to t σ H Q := h
theorem w_kTupX {p : Addr} {ys : List V} {H : Hp} {P : Prop} (h0 : TupX H p ys) (h : P) : kTupX (.ref p) H P := ⟨⟨p, ys, rfl, h0⟩, h⟩
theorem w_indexL {K : PySem.W.Frag} {H : Hp} {Q : VK} {p : Addr} {ns : List Int} {z : Int} (h : SqL K H p (ns.map V.int)) (hz : z ∈ ns) (q : Q (.int (ns.idxOf z : Nat)) H) : rIndex K (.ref p) [.int z] H Q := by
  have hj := List.idxOf_lt_length_of_mem hz
  refine ⟨p, ns.map V.int, .int z, ns.idxOf z, .int z, rfl, rfl, h, rfl, flat_ints ns, by rw [List.getElem?_map, List.getElem?_eq_getElem hj, List.getElem_idxOf hj] <;> rfl, by show (z == z) = true; exact beq_self_eq_true z, fun m z' hm hz' => ?_, q⟩
  obtain ⟨y, hy, rfl⟩ := int_get hz'
  obtain ⟨hml, hme⟩ := List.getElem?_eq_some_iff.mp hy
  have z1 := List.not_of_lt_findIdx (xs := ns) (p := (· == z)) (i := m) hm
  show (y == z) = false
  rw [← hme]
  simpa using z1
abbrev NC (K : PySem.W.Frag) : Addr := He.ga K "Numbering"
structure NumC (K : PySem.W.Frag) : Prop where
  cls : Cls K (NC K)
  na : NoAttr K (NC K) "places"
def Num (K : PySem.W.Frag) (H : Hp) (a : Addr) (ps : List Int) : Prop := IsNum ps ∧ ∃ dx t, H a = some (.ins (NC K) dx [("places", .ref t)]) ∧ TupX H t (ps.map V.int)
section
variable {K : PySem.W.Frag} {H H' H1 : Hp} {Q : VK} {E : XK} {a x p : Addr} {ps ns : List Int} {S : List Addr}
theorem Num.gr (h : Num K H a ps) (g : Gr S H H') : Num K H' a ps := by
  obtain ⟨h0, dx, t, h1, h2⟩ := h
  exact ⟨h0, dx, t, g.get h1 rfl, h2.gr g⟩
theorem Num.ins (h : Num K H a ps) : ∃ dx fs, H a = some (.ins (NC K) dx fs) := by
  obtain ⟨_, dx, t, h1, _⟩ := h
  exact ⟨_, _, h1⟩
theorem w_places (c : NumC K) (h : Num K H a ps) (q : ∀ t, TupX H t (ps.map V.int) → Q (.ref t) H) : rFld K "places" (.ref a) H Q := by
  obtain ⟨_, dx, t, h1, h2⟩ := h
  exact w_rFld h1 c.cls c.na rfl (q t h2)
theorem Gr.made {dx C : Addr} (hx : H x = none) (hd : H dx = none) : Gr [] H (mkHp H x dx C) := ⟨fun b u e _ => by
    unfold mkHp
    rw [upd_ne (ne_of_none e hx), upd_ne (ne_of_none e hd)]
    exact e, fun _ m => by cases m⟩
def sp_Numbering___init__ (K : PySem.W.Frag) : Sp := fun vs H Q E => ∃ (x dx p : Addr) (ns : List Int), vs = [.ref x, .ref p] ∧ H x = some (.ins (NC K) dx []) ∧ (SqL K H p (ns.map V.int) ∨ TupX H p (ns.map V.int)) ∧
  ((¬ IsNum ns ∧ ∀ H', Gr [] H H' → E (.ref (He.ga K "BadNumbering")) none H') ∨ (IsNum ns ∧ ∀ t H', Gr [x] H H' → H' x = some (.ins (NC K) dx [("places", .ref t)]) → TupX H' t (ns.map V.int) → Q .non H'))
def turnP (n : Nat) (by_ : Int) : List Int := (List.range n).map fun (k : Nat) => ((k : Int) + by_) % n
theorem isNum_turn {n : Nat} {b : Int} (h1 : 1 ≤ n) (h2 : n ≤ 12) : IsNum (turnP n b) := by
  refine .of h1 h2 (by unfold turnP; rw [List.length_map, List.length_range]) ?_ fun x hx => ?_
  · unfold turnP
    refine List.pairwise_map.mpr (List.Pairwise.imp_of_mem (fun {a c} ha hc (hne : a ≠ c) e => hne ?_) List.nodup_range)
    have ha := List.mem_range.mp ha
    have hc := List.mem_range.mp hc
    have z : ((a : Int) - c) % n = 0 := by
      have := Int.emod_eq_emod_iff_emod_sub_eq_zero.mp e
      rw [show ((a : Int) + b) - (c + b) = a - c by omega] at this
      exact this
    have d : (n : Int) ∣ (a : Int) - c := Int.dvd_of_emod_eq_zero z
    obtain ⟨k, hk⟩ := d
    rcases Int.lt_trichotomy k 0 with q | q | q
    · have : (n : Int) * k ≤ n * (-1) := Int.mul_le_mul_of_nonneg_left (by omega) (by omega)
      omega
    · rw [q] at hk; omega
    · have : (n : Int) * 1 ≤ n * k := Int.mul_le_mul_of_nonneg_left (by omega) (by omega)
      omega
  · obtain ⟨k, _, rfl⟩ := List.mem_map.mp hx
    exact ⟨Int.emod_nonneg _ (by omega), Int.emod_lt_of_pos _ (by omega)⟩
def atP (ps : List Int) (k : Int) : Int := ps.getD k.toNat 0
theorem atP_mem {k : Int} (h0 : 0 ≤ k) (h : k < ps.length) : atP ps k ∈ ps := by
  have hl : k.toNat < ps.length := by omega
  unfold atP
  rw [List.getD_eq_getElem?_getD, List.getElem?_eq_getElem hl]
  exact List.getElem_mem hl
def mulP (ps qs : List Int) : List Int := qs.map (atP ps)
theorem atP_inj (h : IsNum ps) {i j : Int} (hi : 0 ≤ i ∧ i < ps.length) (hj : 0 ≤ j ∧ j < ps.length) (e : atP ps i = atP ps j) : i = j := by
  unfold atP at e
  have li : i.toNat < ps.length := by omega
  have lj : j.toNat < ps.length := by omega
  rw [List.getD_eq_getElem?_getD, List.getD_eq_getElem?_getD, List.getElem?_eq_getElem li, List.getElem?_eq_getElem lj] at e
  have e : ps[i.toNat] = ps[j.toNat] := e
  have z := List.pairwise_iff_getElem.mp h.nodup
  rcases Nat.lt_trichotomy i.toNat j.toNat with q | q | q
  · exact absurd e (z _ _ li lj q)
  · omega
  · exact absurd e.symm (z _ _ lj li q)
theorem isNum_mul {qs : List Int} (hp : IsNum ps) (hq : IsNum qs) (hl : ps.length = qs.length) : IsNum (mulP ps qs) := by
  refine .of hq.1 hq.2.1 (by unfold mulP; rw [List.length_map]) ?_ fun x hx => ?_
  · unfold mulP
    refine List.pairwise_map.mpr (List.Pairwise.imp_of_mem (fun {i j} hi hj (hne : i ≠ j) e => hne ?_) hq.nodup)
    have hi := hq.mem.mp hi
    have hj := hq.mem.mp hj
    exact atP_inj hp (by omega) (by omega) e
  · obtain ⟨i, hi, rfl⟩ := List.mem_map.mp hx
    have hi := hq.mem.mp hi
    rw [← hl]
    exact hp.mem.mp (atP_mem (by omega) (by omega))
def sp_Numbering___len__ (K : PySem.W.Frag) : Sp := fun vs H Q _ => ∃ (a : Addr) (ps : List Int), vs = [.ref a] ∧ Num K H a ps ∧ Q (.int ps.length) H
theorem turn_at {m : Nat} {b k : Int} (h0 : 0 ≤ k) (h : k < m) : atP (turnP m b) k = (k + b) % m := by
  unfold atP turnP
  rw [List.getD_eq_getElem?_getD, List.getElem?_map, List.getElem?_range (by omega)]
  show ((k.toNat : Int) + b) % m = _
  rw [Int.toNat_of_nonneg h0]
theorem w_isiNum {b : Bool} {D : Addr} (hk : PySem.W.kitOne K (.ref (NC K)) (.ref D) = some b) (I : IsiC K (NC K)) (h : Num K H a ps) (q : Q (.bl b) H) : rIsi K [.ref a, .ref D] H Q := by
  obtain ⟨dx, fs, h1⟩ := h.ins
  exact w_isiO I h1 hk q
theorem w_numCal {sp : Sp} {t : TA} {σ : L2.St} {E : XK} (h : t σ H fun vs H2 => (∃ dx fs, H2 a = some (.ins (NC K) dx fs)) ∧ sp (V.ref a :: vs) H2 Q E) : rCalO (NC K) sp E t σ (.ref a) H Q := ⟨a, rfl, h⟩
theorem w_numLen {ps : List Int} (h : Num K H a ps) (q : Q (.int ps.length) H) : rLenO (NC K) (sp_Numbering___len__ K) [.ref a] H Q := by
  obtain ⟨dx, fs, h1⟩ := h.ins
  have := h.1.2.1
  exact ⟨a, dx, fs, rfl, h1, a, ps, rfl, h, ps.length, rfl, by omega, by omega, q⟩
def invP (ps : List Int) : List Int := (rg ps.length).map fun k => (ps.idxOf k : Int)
theorem idx_lt (h : IsNum ps) {k : Int} (h0 : 0 ≤ k) (h1 : k < ps.length) : ps.idxOf k < ps.length := List.idxOf_lt_length_of_mem (h.mem.mpr ⟨h0, h1⟩)
theorem idx_at (h : IsNum ps) {k : Int} (h0 : 0 ≤ k) (h1 : k < ps.length) : atP ps (ps.idxOf k : Int) = k := by
  unfold atP
  rw [List.getD_eq_getElem?_getD, Int.toNat_natCast, List.getElem?_eq_getElem (idx_lt h h0 h1)]
  exact List.getElem_idxOf (idx_lt h h0 h1)
theorem length_inv : (invP ps).length = ps.length := by unfold invP; rw [List.length_map, length_rg]
theorem inv_get {k : Int} (h0 : 0 ≤ k) (h1 : k < ps.length) : atP (invP ps) k = (ps.idxOf k : Int) := by
  unfold atP invP
  rw [List.getD_eq_getElem?_getD, List.getElem?_map, rg_get (by omega)]
  show ((ps.idxOf (k.toNat : Int) : Nat) : Int) = _
  rw [Int.toNat_of_nonneg h0]
theorem isNum_inv (h : IsNum ps) : IsNum (invP ps) := by
  refine .of h.1 h.2.1 length_inv ?_ fun x hx => ?_
  · unfold invP
    refine List.pairwise_map.mpr (List.Pairwise.imp_of_mem (fun {i j} hi hj (hne : i ≠ j) e => hne ?_) (nodup_rg _))
    have hi := mem_rg.mp hi
    have hj := mem_rg.mp hj
    have z := idx_at h hi.1 hi.2
    rw [e, idx_at h hj.1 hj.2] at z
    exact z.symm
  · obtain ⟨k, hk, rfl⟩ := List.mem_map.mp hx
    have hk := mem_rg.mp hk
    have := idx_lt h hk.1 hk.2
    omega
theorem ext_at {qs : List Int} (hl : ps.length = qs.length) (h : ∀ k : Int, 0 ≤ k → k < ps.length → atP ps k = atP qs k) : ps = qs := by
  refine List.ext_getElem hl fun i h1 h2 => ?_
  have z := h i (by omega) (by omega)
  unfold atP at z
  rw [List.getD_eq_getElem?_getD, List.getD_eq_getElem?_getD, Int.toNat_natCast, List.getElem?_eq_getElem h1, List.getElem?_eq_getElem h2] at z
  exact z
theorem length_mul {qs : List Int} : (mulP ps qs).length = qs.length := by unfold mulP; rw [List.length_map]
theorem mul_at {qs : List Int} {k : Int} (h0 : 0 ≤ k) (h1 : k < qs.length) : atP (mulP ps qs) k = atP ps (atP qs k) := by
  have hl : k.toNat < qs.length := by omega
  have e : (mulP ps qs).getD k.toNat 0 = atP ps (qs.getD k.toNat 0) := by
    unfold mulP
    rw [List.getD_eq_getElem?_getD, List.getD_eq_getElem?_getD, List.getElem?_map, List.getElem?_eq_getElem hl] <;> rfl
  exact e
theorem rg_at {n : Nat} {k : Int} (h0 : 0 ≤ k) (h1 : k < n) : atP (rg n) k = k := by
  unfold atP
  rw [List.getD_eq_getElem?_getD, rg_get (by omega)]
  show ((k.toNat : Nat) : Int) = k
  exact Int.toNat_of_nonneg h0
theorem atP_lt (h : IsNum ps) {k : Int} (h0 : 0 ≤ k) (h1 : k < ps.length) : 0 ≤ atP ps k ∧ atP ps k < ps.length := h.mem.mp (atP_mem h0 h1)
theorem inv_mul (h : IsNum ps) : mulP (invP ps) ps = rg ps.length := by
  refine ext_at (by rw [length_mul, length_rg]) fun k h0 h1 => ?_
  rw [length_mul] at h1
  have z := atP_lt h h0 h1
  rw [mul_at h0 h1, inv_get z.1 z.2, rg_at h0 h1]
  have y := idx_at h z.1 z.2
  have := idx_lt h z.1 z.2
  exact atP_inj h (by omega) (by omega) y
end
end LW
namespace LW
open PySem PySem.Spec PyProof.Rows L2
section
variable {ps qs : List Int} {n m : Nat} {k : Int}
end
section
variable {K : PySem.W.Frag} {H : Hp} {Q : VK} {E : XK} {a : Addr} {ps : List Int}
end
end LW
namespace LW
open PySem PySem.Spec PyProof.Rows L2
abbrev ASet := Addr → Prop
def nop : ASet := fun _ => False
structure GrP (T : ASet) (H H' : Hp) : Prop where
  keep : ∀ a o, H a = some o → (pers o = true ∨ ¬ T a) → H' a = some o
  live : ∀ a, H' a = none → H a = none
section
variable {T T' U : ASet} {H H' H1 H2 : Hp} {a l p : Addr} {o : HO}
theorem GrP.refl (T : ASet) (H : Hp) : GrP T H H := ⟨fun _ _ h _ => h, fun _ h => h⟩
theorem GrP.mono (g : GrP U H H') (h : ∀ a, U a → T a) : GrP T H H' := ⟨fun a o e q => g.keep a o e (q.imp id fun n u => n (h a u)), g.live⟩
theorem GrP.trans (g : GrP T H H1) (g' : GrP T' H1 H2) (h : ∀ a, T' a → T a ∨ H a = none) : GrP T H H2 :=
  ⟨fun a o e q => g'.keep a o (g.keep a o e q) (q.imp id fun n t => (h a t).elim n fun z => by rw [e] at z; cases z), fun a e => g.live a (g'.live a e)⟩
theorem GrP.trans0 (g : GrP T H H1) (g' : GrP nop H1 H2) : GrP T H H2 := g.trans g' fun _ h => h.elim
theorem GrP.new (h : H p = none) : GrP nop H (upd H p o) := ⟨fun a u e _ => by rw [upd_ne (ne_of_none e h)]; exact e, fun a e => by
  by_cases z : a = p
  · rw [z, upd_same] at e; cases e
  · rw [upd_ne z] at e; exact e⟩
theorem GrP.wr (h : T p) (h2 : ∀ u, H p = some u → pers u = false) : GrP T H (upd H p o) := ⟨fun a u e q => by
  by_cases z : a = p
  · subst z
    rcases q with q | q
    · rw [h2 u e] at q; cases q
    · exact absurd h q
  · rw [upd_ne z]; exact e, fun a e => by
  by_cases z : a = p
  · rw [z, upd_same] at e; cases e
  · rw [upd_ne z] at e; exact e⟩
theorem Gr.p0 (g : Gr [] H H') : GrP nop H H' := ⟨fun a o e _ => g.get0 e, fun a e => by
  cases q : H a with
  | none => rfl
  | some u => rw [g.get0 q] at e; cases e⟩
theorem GrP.g0 (g : GrP nop H H') : Gr [] H H' := ⟨fun a o e _ => g.keep a o e (.inr fun h => h), fun a h => by cases h⟩
theorem Gr.p1 (g : Gr [l] H H') (e : ∃ o, H' l = some o) : GrP (fun a => a = l) H H' := ⟨fun a o e q => by
  rcases q with q | q
  · exact g.get e q
  · exact g.keep a o e (by simpa using q), fun a e' => by
  obtain ⟨o, e⟩ := e
  cases q : H a with
  | none => rfl
  | some u =>
    by_cases z : a = l
    · rw [z, e] at e'; cases e'
    · rw [g.keep a u q (by simpa using z)] at e'; cases e'⟩
end
def TupN (K : PySem.W.Frag) (H : Hp) (a : Addr) (xs : List V) : Prop := TupX H a xs
theorem TupN.sqt {K : PySem.W.Frag} {H : Hp} {a : Addr} {xs : List V} (h : TupN K H a xs) : SqT K H a xs := TupX.sqt h
theorem TupN.ext {K : PySem.W.Frag} {T : ASet} {H H' : Hp} {a : Addr} {xs : List V} (h : TupN K H a xs) (g : GrP T H H') : TupN K H' a xs := by
  obtain ⟨o, h, d⟩ := h
  exact ⟨o, g.keep _ _ h (.inl rfl), d⟩
mutual
inductive RepA (K : PySem.W.Frag) (H : Hp) (S : ASet) : D → V → Prop
  | non : RepA K H S .non .non
  | bl (b : Bool) : RepA K H S (.bl b) (.bl b)
  | int (i : Int) : RepA K H S (.int i) (.int i)
  | str (s : Str) : RepA K H S (.str s) (.str s)
  | adr (a : Addr) : RepA K H S (.adr a) (.ref a)
  | tup {a : Addr} {xs : List V} {ds : List D} : TupN K H a xs → RepsA K H S ds xs → RepA K H S (.tup ds) (.ref a)
  | lst {a : Addr} {xs : List V} {ds : List D} : H a = some (.lst xs) → ¬ S a → RepsA K H S ds xs → RepA K H S (.lst ds) (.ref a)
  | lsf {a : Addr} {o : Obj} {xs : List V} {ds : List D} : H a = some (.frz o (.lst xs)) → RepsA K H S ds xs → RepA K H S (.lst ds) (.ref a)
  | ins {a C dx : Addr} {ns : List Str} {xs : List V} {ds : List D} : H a = some (.ins C dx (ns.zip xs)) → imm ns = true → ns.length = ds.length → RepsA K H S ds xs → RepA K H S (.ins C ns ds) (.ref a)
inductive RepsA (K : PySem.W.Frag) (H : Hp) (S : ASet) : List D → List V → Prop
  | nil : RepsA K H S [] []
  | cons {d : D} {ds : List D} {v : V} {vs : List V} : RepA K H S d v → RepsA K H S ds vs → RepsA K H S (d :: ds) (v :: vs)
end
theorem RepsA.len {K : PySem.W.Frag} {H : Hp} {S : ASet} : ∀ {ds : List D} {vs : List V}, RepsA K H S ds vs → vs.length = ds.length
  | _, _, .nil => rfl
  | _, _, .cons _ r => congrArg Nat.succ (RepsA.len r)
theorem pers_ins {C dx : Addr} {ns : List Str} {xs : List V} (i : imm ns = true) (l : ns.length = xs.length) : pers (.ins C dx (ns.zip xs)) = true := by
  show imm ((ns.zip xs).map (·.1)) = true
  rw [List.map_fst_zip (by omega)]
  exact i
mutual
theorem RepA.ext {K : PySem.W.Frag} {T S S' : ASet} {H H' : Hp} (g : GrP T H H') (hT : ∀ a, T a → S a ∨ H a = none) (hS : ∀ a, S' a → S a ∨ H a = none) : ∀ {d : D} {v : V}, RepA K H S d v → RepA K H' S' d v
  | _, _, .non => .non
  | _, _, .bl b => .bl b
  | _, _, .int b => .int b
  | _, _, .str b => .str b
  | _, _, .adr b => .adr b
  | _, _, .tup h r => .tup (h.ext g) (RepsA.ext g hT hS r)
  | _, _, .lst h n r => .lst (g.keep _ _ h (.inr fun t => (hT _ t).elim n fun z => by rw [h] at z; cases z)) (fun s => (hS _ s).elim n fun z => by rw [h] at z; cases z) (RepsA.ext g hT hS r)
  | _, _, .lsf h r => .lsf (g.keep _ _ h (.inl rfl)) (RepsA.ext g hT hS r)
  | _, _, .ins h i l r => .ins (g.keep _ _ h (.inl (pers_ins i (by have := RepsA.len r; omega)))) i l (RepsA.ext g hT hS r)
theorem RepsA.ext {K : PySem.W.Frag} {T S S' : ASet} {H H' : Hp} (g : GrP T H H') (hT : ∀ a, T a → S a ∨ H a = none) (hS : ∀ a, S' a → S a ∨ H a = none) : ∀ {ds : List D} {vs : List V}, RepsA K H S ds vs → RepsA K H' S' ds vs
  | _, _, .nil => .nil
  | _, _, .cons h r => .cons (RepA.ext g hT hS h) (RepsA.ext g hT hS r)
end
theorem RepA.less {K : PySem.W.Frag} {S S' : ASet} {H : Hp} {d : D} {v : V} (h : RepA K H S d v) (hS : ∀ a, S' a → S a) : RepA K H S' d v := h.ext (GrP.refl nop H) (fun _ z => z.elim) fun a s => .inl (hS a s)
theorem RepsA.less {K : PySem.W.Frag} {S S' : ASet} {H : Hp} {ds : List D} {vs : List V} (h : RepsA K H S ds vs) (hS : ∀ a, S' a → S a) : RepsA K H S' ds vs := h.ext (GrP.refl nop H) (fun _ z => z.elim) fun a s => .inl (hS a s)
mutual
theorem RepA.any {K : PySem.W.Frag} {S S' : ASet} {H : Hp} : ∀ {d : D} {v : V}, RepA K H S d v → d.pure = true → RepA K H S' d v
  | _, _, .non, _ => .non
  | _, _, .bl b, _ => .bl b
  | _, _, .int b, _ => .int b
  | _, _, .str b, _ => .str b
  | _, _, .adr b, _ => .adr b
  | _, _, .tup h r, q => .tup h (RepsA.any r q)
  | _, _, .lst h n r, q => nomatch (show false = true from q)
  | _, _, .lsf h r, q => nomatch (show false = true from q)
  | _, _, .ins h i l r, q => .ins h i l (RepsA.any r q)
theorem RepsA.any {K : PySem.W.Frag} {S S' : ASet} {H : Hp} : ∀ {ds : List D} {vs : List V}, RepsA K H S ds vs → D.pures ds = true → RepsA K H S' ds vs
  | _, _, .nil, _ => .nil
  | _, _, .cons h r, q => by
    have q2 := Bool.and_eq_true_iff.mp q
    exact .cons (RepA.any h q2.1) (RepsA.any r q2.2)
end
mutual
theorem RepA.rep {K : PySem.W.Frag} {S : ASet} {H : Hp} : ∀ {d : D} {v : V}, RepA K H S d v → Rep K H d v
  | _, _, .non => .non
  | _, _, .bl b => .bl b
  | _, _, .int b => .int b
  | _, _, .str b => .str b
  | _, _, .adr b => .adr b
  | _, _, .tup h r => .tup h.sqt (RepsA.rep r)
  | _, _, .lst h _ r => .lst (sql_of h) (RepsA.rep r)
  | _, _, .lsf h r => .lst (sql_frz h) (RepsA.rep r)
  | _, _, .ins h i l r => .ins h i l (RepsA.rep r)
theorem RepsA.rep {K : PySem.W.Frag} {S : ASet} {H : Hp} : ∀ {ds : List D} {vs : List V}, RepsA K H S ds vs → Reps K H ds vs
  | _, _, .nil => .nil
  | _, _, .cons h r => .cons (RepA.rep h) (RepsA.rep r)
end
theorem RepsA.get {K : PySem.W.Frag} {S : ASet} {H : Hp} : ∀ {ds : List D} {vs : List V} {i : Nat} {d : D}, RepsA K H S ds vs → ds[i]? = some d → ∃ v, vs[i]? = some v ∧ RepA K H S d v
  | _, _, _, _, .nil, e => by simp at e
  | _, _, 0, _, .cons h _, e => by
    simp at e
    subst e
    exact ⟨_, rfl, h⟩
  | _, _, i + 1, _, .cons _ r, e => by
    obtain ⟨v, h1, h2⟩ := RepsA.get (i := i) r (by simpa using e)
    exact ⟨v, by simpa using h1, h2⟩
theorem RepsA.append {K : PySem.W.Frag} {S : ASet} {H : Hp} {es : List D} {ws : List V} (h' : RepsA K H S es ws) : ∀ {ds : List D} {vs : List V}, RepsA K H S ds vs → RepsA K H S (ds ++ es) (vs ++ ws)
  | _, _, .nil => h'
  | _, _, .cons h r => .cons h (RepsA.append h' r)
theorem RepsA.set {K : PySem.W.Frag} {S : ASet} {H : Hp} {d : D} {v : V} (h' : RepA K H S d v) : ∀ {ds : List D} {vs : List V} (i : Nat), RepsA K H S ds vs → RepsA K H S (ds.set i d) (vs.set i v)
  | _, _, _, .nil => .nil
  | _, _, 0, .cons _ r => .cons h' r
  | _, _, i + 1, .cons h r => .cons h (RepsA.set h' i r)
theorem RepsA.take {K : PySem.W.Frag} {S : ASet} {H : Hp} : ∀ {ds : List D} {vs : List V} (i : Nat), RepsA K H S ds vs → RepsA K H S (ds.take i) (vs.take i)
  | _, _, 0, _ => .nil
  | _, _, _ + 1, .nil => .nil
  | _, _, i + 1, .cons h r => .cons h (RepsA.take i r)
theorem RepsA.drop {K : PySem.W.Frag} {S : ASet} {H : Hp} : ∀ {ds : List D} {vs : List V} (i : Nat), RepsA K H S ds vs → RepsA K H S (ds.drop i) (vs.drop i)
  | _, _, 0, h => h
  | _, _, _ + 1, .nil => .nil
  | _, _, i + 1, .cons _ r => RepsA.drop i r
theorem RepsA.eraseIdx {K : PySem.W.Frag} {S : ASet} {H : Hp} : ∀ {ds : List D} {vs : List V} (i : Nat), RepsA K H S ds vs → RepsA K H S (ds.eraseIdx i) (vs.eraseIdx i)
  | _, _, _, .nil => .nil
  | _, _, 0, .cons _ r => r
  | _, _, i + 1, .cons h r => .cons h (RepsA.eraseIdx i r)
theorem RepsA.reverse {K : PySem.W.Frag} {S : ASet} {H : Hp} : ∀ {ds : List D} {vs : List V}, RepsA K H S ds vs → RepsA K H S ds.reverse vs.reverse
  | _, _, .nil => .nil
  | _, _, .cons h r => by
    rw [List.reverse_cons, List.reverse_cons]
    exact RepsA.append (.cons h .nil) (RepsA.reverse r)
theorem repsA_ints {K : PySem.W.Frag} {H : Hp} {S : ASet} : ∀ ns : List Int, RepsA K H S (dInts ns) (ns.map V.int)
  | [] => .nil
  | n :: ns => .cons (.int n) (repsA_ints ns)
theorem RepsA.ints {K : PySem.W.Frag} {H : Hp} {S : ASet} : ∀ {ns : List Int} {vs : List V}, RepsA K H S (dInts ns) vs → vs = ns.map V.int
  | [], _, .nil => rfl
  | _ :: _, _, .cons (.int _) r => congrArg _ (RepsA.ints r)
structure Exn where
  C : Addr
  f : Option (Str × D)
def XDict (K : PySem.W.Frag) (H : Hp) (x : Exn) (dd : Option Addr) : Prop := match x.f with
  | none => dd = none
  | some (f, d) => ∃ a v, dd = some a ∧ H a = some (.xd [(f, v)]) ∧ RepA K H (fun _ => True) d v
def XRep (K : PySem.W.Frag) (H : Hp) (x : Exn) (cls : Value) (dd : Option Addr) : Prop := cls = .ref x.C ∧ XDict K H x dd
theorem XDict.ext {K : PySem.W.Frag} {T : ASet} {H H' : Hp} {x : Exn} {dd : Option Addr} (h : XDict K H x dd) (g : GrP T H H') : XDict K H' x dd := by
  unfold XDict at h ⊢
  split at h
  · exact h
  · obtain ⟨a, v, e, h1, h2⟩ := h
    exact ⟨a, v, e, g.keep _ _ h1 (.inl rfl), h2.ext g (fun _ _ => .inl trivial) fun _ _ => .inl trivial⟩
inductive Sl
  | no | va (d : D) | ow (l : Addr) (ds : List D) | ex (a : Addr) (dd : Option Addr) (x : Exn)
def owns : List Sl → List Addr
  | [] => []
  | .ow l _ :: r => l :: owns r
  | .no :: r => owns r
  | .va _ :: r => owns r
  | .ex _ _ _ :: r => owns r
inductive SlsR (K : PySem.W.Frag) (H : Hp) (S : ASet) : List Sl → L2.St → Prop
  | nil : SlsR K H S [] []
  | no {ρ : List Sl} {σ : L2.St} {o : Option V} : SlsR K H S ρ σ → SlsR K H S (.no :: ρ) (o :: σ)
  | va {ρ : List Sl} {σ : L2.St} {d : D} {v : V} : RepA K H S d v → SlsR K H S ρ σ → SlsR K H S (.va d :: ρ) (some v :: σ)
  | ex {ρ : List Sl} {σ : L2.St} {a : Addr} {dd : Option Addr} {x : Exn} : XDict K H x dd → SlsR K H S ρ σ → SlsR K H S (.ex a dd x :: ρ) (some (.ref a) :: σ)
  | ow {ρ : List Sl} {σ : L2.St} {l : Addr} {ds : List D} {xs : List V} : H l = some (.lst xs) → RepsA K H S ds xs → SlsR K H S ρ σ → SlsR K H S (.ow l ds :: ρ) (some (.ref l) :: σ)
section
variable {K : PySem.W.Frag} {H H' : Hp} {S S' T : ASet} {ρ : List Sl} {σ : L2.St} {d : D} {v : V} {l : Addr} {ds : List D} {xs : List V}
theorem SlsR.len : ∀ {ρ : List Sl} {σ : L2.St}, SlsR K H S ρ σ → ρ.length = σ.length
  | _, _, .nil => rfl
  | _, _, .no r => congrArg Nat.succ r.len
  | _, _, .va _ r => congrArg Nat.succ r.len
  | _, _, .ex _ r => congrArg Nat.succ r.len
  | _, _, .ow _ _ r => congrArg Nat.succ r.len
theorem SlsR.get_va : ∀ {ρ : List Sl} {σ : L2.St} {i : Nat}, SlsR K H S ρ σ → ρ[i]? = some (.va d) → ∃ v, σ[i]? = some (some v) ∧ RepA K H S d v
  | _, _, _, .nil, e => by simp at e
  | _, _, 0, .no r, e => by simp at e
  | _, _, 0, .va h r, e => by
    simp at e
    subst e
    exact ⟨_, rfl, h⟩
  | _, _, 0, .ow h _ r, e => by simp at e
  | _, _, i + 1, .no r, e => SlsR.get_va (i := i) r (by simpa using e)
  | _, _, i + 1, .va _ r, e => SlsR.get_va (i := i) r (by simpa using e)
  | _, _, 0, .ex _ r, e => by simp at e
  | _, _, i + 1, .ex _ r, e => SlsR.get_va (i := i) r (by simpa using e)
  | _, _, i + 1, .ow _ _ r, e => SlsR.get_va (i := i) r (by simpa using e)
theorem SlsR.get_ow : ∀ {ρ : List Sl} {σ : L2.St} {i : Nat}, SlsR K H S ρ σ → ρ[i]? = some (.ow l ds) → σ[i]? = some (some (.ref l)) ∧ ∃ xs, H l = some (.lst xs) ∧ RepsA K H S ds xs
  | _, _, _, .nil, e => by simp at e
  | _, _, 0, .no r, e => by simp at e
  | _, _, 0, .va h r, e => by simp at e
  | _, _, 0, .ow h h2 r, e => by
    simp at e
    obtain ⟨e1, e2⟩ := e
    subst e1 e2
    exact ⟨rfl, _, h, h2⟩
  | _, _, i + 1, .no r, e => SlsR.get_ow (i := i) r (by simpa using e)
  | _, _, i + 1, .va _ r, e => SlsR.get_ow (i := i) r (by simpa using e)
  | _, _, 0, .ex _ r, e => by simp at e
  | _, _, i + 1, .ex _ r, e => SlsR.get_ow (i := i) r (by simpa using e)
  | _, _, i + 1, .ow _ _ r, e => SlsR.get_ow (i := i) r (by simpa using e)
theorem SlsR.set_va (h : RepA K H S d v) : ∀ {ρ : List Sl} {σ : L2.St} (i : Nat), SlsR K H S ρ σ → SlsR K H S (ρ.set i (.va d)) (σ.set i (some v))
  | _, _, _, .nil => .nil
  | _, _, 0, .no r => .va h r
  | _, _, 0, .va _ r => .va h r
  | _, _, 0, .ow _ _ r => .va h r
  | _, _, i + 1, .no r => .no (r.set_va h i)
  | _, _, i + 1, .va q r => .va q (r.set_va h i)
  | _, _, 0, .ex _ r => .va h r
  | _, _, i + 1, .ex q r => .ex q (r.set_va h i)
  | _, _, i + 1, .ow q q2 r => .ow q q2 (r.set_va h i)
theorem SlsR.set_no (o : Option V) : ∀ {ρ : List Sl} {σ : L2.St} (i : Nat), SlsR K H S ρ σ → SlsR K H S (ρ.set i .no) (σ.set i o)
  | _, _, _, .nil => .nil
  | _, _, 0, .no r => .no r
  | _, _, 0, .va _ r => .no r
  | _, _, 0, .ow _ _ r => .no r
  | _, _, i + 1, .no r => .no (r.set_no o i)
  | _, _, i + 1, .va q r => .va q (r.set_no o i)
  | _, _, 0, .ex _ r => .no r
  | _, _, i + 1, .ex q r => .ex q (r.set_no o i)
  | _, _, i + 1, .ow q q2 r => .ow q q2 (r.set_no o i)
theorem SlsR.set_ow (h : H l = some (.lst xs)) (h2 : RepsA K H S ds xs) : ∀ {ρ : List Sl} {σ : L2.St} (i : Nat), SlsR K H S ρ σ → SlsR K H S (ρ.set i (.ow l ds)) (σ.set i (some (.ref l)))
  | _, _, _, .nil => .nil
  | _, _, 0, .no r => .ow h h2 r
  | _, _, 0, .va _ r => .ow h h2 r
  | _, _, 0, .ow _ _ r => .ow h h2 r
  | _, _, i + 1, .no r => .no (r.set_ow h h2 i)
  | _, _, i + 1, .va q r => .va q (r.set_ow h h2 i)
  | _, _, 0, .ex _ r => .ow h h2 r
  | _, _, i + 1, .ex q r => .ex q (r.set_ow h h2 i)
  | _, _, i + 1, .ow q q2 r => .ow q q2 (r.set_ow h h2 i)
theorem SlsR.ext (g : GrP T H H') (hT : ∀ a, T a → S a ∨ H a = none) (hS : ∀ a, S' a → S a ∨ H a = none) : ∀ {ρ : List Sl} {σ : L2.St}, (∀ l, l ∈ owns ρ → ¬ T l) → SlsR K H S ρ σ → SlsR K H' S' ρ σ
  | _, _, _, .nil => .nil
  | _, _, ho, .no r => .no (r.ext g hT hS ho)
  | _, _, ho, .va q r => .va (q.ext g hT hS) (r.ext g hT hS ho)
  | _, _, ho, .ex q r => .ex (q.ext g) (r.ext g hT hS ho)
  | _, _, ho, .ow q q2 r => .ow (g.keep _ _ q (.inr (ho _ List.mem_cons_self))) (q2.ext g hT hS) (r.ext g hT hS fun l hl => ho l (List.mem_cons_of_mem _ hl))
theorem owns_mem : ∀ {ρ : List Sl} {i : Nat} {ds : List D}, ρ[i]? = some (Sl.ow l ds) → l ∈ owns ρ
  | [], _, _, e => by simp at e
  | .ow _ _ :: _, 0, _, e => by
    simp at e
    rw [← e.1]
    exact List.mem_cons_self
  | .no :: _, 0, _, e => by simp at e
  | .va _ :: _, 0, _, e => by simp at e
  | .ow _ _ :: r, i + 1, _, e => List.mem_cons_of_mem _ (owns_mem (ρ := r) (i := i) (by simpa using e))
  | .no :: r, i + 1, _, e => owns_mem (ρ := r) (i := i) (by simpa using e)
  | .va _ :: r, i + 1, _, e => owns_mem (ρ := r) (i := i) (by simpa using e)
  | .ex _ _ _ :: _, 0, _, e => by simp at e
  | .ex _ _ _ :: r, i + 1, _, e => owns_mem (ρ := r) (i := i) (by simpa using e)
theorem SlsR.wr (h2 : RepsA K H S ds xs) (hS : S l) {i : Nat} {ds0 : List D} (r : SlsR K H S ρ σ) (e : ρ[i]? = some (.ow l ds0)) (n : (owns ρ).Nodup) : SlsR K (upd H l (.lst xs)) S (ρ.set i (.ow l ds)) σ := by
  obtain ⟨-, xs0, e0, -⟩ := r.get_ow e
  have g : GrP (fun a => a = l) H (upd H l (.lst xs)) := GrP.wr rfl fun u hu => by rw [e0] at hu; cases hu; rfl
  have hT : ∀ a, a = l → S a ∨ H a = none := fun a z => by rw [z]; exact .inl hS
  have hS' : ∀ a, S a → S a ∨ H a = none := fun a z => .inl z
  clear e0
  induction r generalizing i with
  | nil => simp at e
  | no r ih =>
    cases i with
    | zero => simp at e
    | succ i => exact .no (ih (by simpa using e) n)
  | va q r ih =>
    cases i with
    | zero => simp at e
    | succ i => exact .va (q.ext g hT hS') (ih (by simpa using e) n)
  | ex q r ih =>
    cases i with
    | zero => simp at e
    | succ i => exact .ex (q.ext g) (ih (by simpa using e) n)
  | ow q q2 r ih =>
    obtain ⟨n1, n2⟩ := List.nodup_cons.mp n
    cases i with
    | zero =>
      simp at e
      obtain ⟨e1, e2⟩ := e
      subst e1
      exact .ow upd_same (h2.ext g hT hS') (r.ext g hT hS' fun b hb z => n1 (z ▸ hb))
    | succ i =>
      have m : l ∈ owns _ := owns_mem (ds := ds0) (i := i) (by simpa using e)
      refine .ow ?_ (q2.ext g hT hS') (ih (by simpa using e) n2)
      rw [upd_ne (fun z => n1 (by rw [z]; exact m))]
      exact q
theorem owns_at : ∀ {ρ : List Sl} {l : Addr}, l ∈ owns ρ → ∃ (i : Nat) (ds : List D), ρ[i]? = some (Sl.ow l ds)
  | [], _, h => by cases h
  | .ow k ds :: r, l, h => by
    rcases List.mem_cons.mp h with z | z
    · exact ⟨0, ds, by rw [z]; rfl⟩
    · obtain ⟨i, ds, e⟩ := owns_at (ρ := r) z
      exact ⟨i + 1, ds, by simpa using e⟩
  | .no :: r, l, h => by
    obtain ⟨i, ds, e⟩ := owns_at (ρ := r) h
    exact ⟨i + 1, ds, by simpa using e⟩
  | .va _ :: r, l, h => by
    obtain ⟨i, ds, e⟩ := owns_at (ρ := r) h
    exact ⟨i + 1, ds, by simpa using e⟩
  | .ex _ _ _ :: r, l, h => by
    obtain ⟨i, ds, e⟩ := owns_at (ρ := r) h
    exact ⟨i + 1, ds, by simpa using e⟩
def Sl.plain : Sl → Bool
  | .ow _ _ => false
  | _ => true
theorem owns_set_sub {s : Sl} (hs : s.plain = true) : ∀ {ρ : List Sl} (i : Nat), (owns (ρ.set i s)).Sublist (owns ρ)
  | [], _ => List.Sublist.refl _
  | .ow k ds :: r, 0 => by
    cases s with
    | ow a b => cases hs
    | no => show (owns r).Sublist (k :: owns r); exact List.sublist_cons_self _ _
    | va d => show (owns r).Sublist (k :: owns r); exact List.sublist_cons_self _ _
    | ex a dd x => show (owns r).Sublist (k :: owns r); exact List.sublist_cons_self _ _
  | .no :: r, 0 => by
    cases s with
    | ow a b => cases hs
    | no => show (owns r).Sublist (owns r); exact List.Sublist.refl _
    | va d => show (owns r).Sublist (owns r); exact List.Sublist.refl _
    | ex a dd x => show (owns r).Sublist (owns r); exact List.Sublist.refl _
  | .va _ :: r, 0 => by
    cases s with
    | ow a b => cases hs
    | no => show (owns r).Sublist (owns r); exact List.Sublist.refl _
    | va d => show (owns r).Sublist (owns r); exact List.Sublist.refl _
    | ex a dd x => show (owns r).Sublist (owns r); exact List.Sublist.refl _
  | .ex _ _ _ :: r, 0 => by
    cases s with
    | ow a b => cases hs
    | no => show (owns r).Sublist (owns r); exact List.Sublist.refl _
    | va d => show (owns r).Sublist (owns r); exact List.Sublist.refl _
    | ex a dd x => show (owns r).Sublist (owns r); exact List.Sublist.refl _
  | .ow k ds :: r, i + 1 => (owns_set_sub hs (ρ := r) i).cons₂ k
  | .no :: r, i + 1 => owns_set_sub hs (ρ := r) i
  | .va _ :: r, i + 1 => owns_set_sub hs (ρ := r) i
  | .ex _ _ _ :: r, i + 1 => owns_set_sub hs (ρ := r) i
theorem owns_set_same {ds' : List D} : ∀ {ρ : List Sl} {i : Nat} {ds : List D}, ρ[i]? = some (Sl.ow l ds) → owns (ρ.set i (.ow l ds')) = owns ρ
  | [], _, _, e => by simp at e
  | .ow k ds :: r, 0, _, e => by
    simp at e
    rw [e.1] <;> rfl
  | .no :: r, 0, _, e => by simp at e
  | .va _ :: r, 0, _, e => by simp at e
  | .ow k ds :: r, i + 1, _, e => congrArg (k :: ·) (owns_set_same (ρ := r) (i := i) (by simpa using e))
  | .no :: r, i + 1, _, e => owns_set_same (ρ := r) (i := i) (by simpa using e)
  | .va _ :: r, i + 1, _, e => owns_set_same (ρ := r) (i := i) (by simpa using e)
  | .ex _ _ _ :: r, 0, _, e => by simp at e
  | .ex _ _ _ :: r, i + 1, _, e => owns_set_same (ρ := r) (i := i) (by simpa using e)
theorem owns_set_mem {ds : List D} : ∀ {ρ : List Sl} {i : Nat} {k : Addr}, k ∈ owns (ρ.set i (.ow l ds)) → k = l ∨ k ∈ owns ρ
  | [], _, _, h => by cases h
  | .ow a _ :: r, 0, k, h => (List.mem_cons.mp h).imp id fun z => List.mem_cons_of_mem _ z
  | .no :: r, 0, k, h => List.mem_cons.mp h
  | .va _ :: r, 0, k, h => List.mem_cons.mp h
  | .ex _ _ _ :: r, 0, k, h => List.mem_cons.mp h
  | .ow a _ :: r, i + 1, k, h => by
    rcases List.mem_cons.mp h with z | z
    · exact .inr (z ▸ List.mem_cons_self)
    · exact (owns_set_mem (ρ := r) (i := i) z).imp id fun z => List.mem_cons_of_mem _ z
  | .no :: r, i + 1, k, h => owns_set_mem (ρ := r) (i := i) h
  | .va _ :: r, i + 1, k, h => owns_set_mem (ρ := r) (i := i) h
  | .ex _ _ _ :: r, i + 1, k, h => owns_set_mem (ρ := r) (i := i) h
theorem owns_set_nodup {ds : List D} : ∀ {ρ : List Sl} {i : Nat}, (owns ρ).Nodup → l ∉ owns ρ → (owns (ρ.set i (.ow l ds))).Nodup
  | [], _, n, _ => n
  | .ow a _ :: r, 0, n, m => List.nodup_cons.mpr ⟨fun h => m (List.mem_cons_of_mem _ h), (List.nodup_cons.mp n).2⟩
  | .no :: r, 0, n, m => List.nodup_cons.mpr ⟨m, n⟩
  | .va _ :: r, 0, n, m => List.nodup_cons.mpr ⟨m, n⟩
  | .ex _ _ _ :: r, 0, n, m => List.nodup_cons.mpr ⟨m, n⟩
  | .ow a _ :: r, i + 1, n, m => by
    refine List.nodup_cons.mpr ⟨fun h => ?_, owns_set_nodup (ρ := r) (i := i) (List.nodup_cons.mp n).2 fun h => m (List.mem_cons_of_mem _ h)⟩
    rcases owns_set_mem (ρ := r) (i := i) h with z | z
    · exact m (z ▸ List.mem_cons_self)
    · exact (List.nodup_cons.mp n).1 z
  | .no :: r, i + 1, n, m => owns_set_nodup (ρ := r) (i := i) n m
  | .va _ :: r, i + 1, n, m => owns_set_nodup (ρ := r) (i := i) n m
  | .ex _ _ _ :: r, i + 1, n, m => owns_set_nodup (ρ := r) (i := i) n m
end
structure Wrl where
  Ω : Type
  inv : Ω → ASet → Hp → Prop
  st : ∀ {ω : Ω} {T U : ASet} {H H' : Hp}, inv ω T H → GrP U H H' → (∀ a, U a → ¬ T a) → inv ω T H'
  lv : ∀ {ω : Ω} {T : ASet} {H : Hp} {a : Addr}, inv ω T H → T a → ∃ o, H a = some o ∧ pers o = false
@[reducible] def W0 : Wrl where
  Ω := Unit
  inv _ T _ := ∀ a, ¬ T a
  st h _ _ := h
  lv h t := absurd t (h _)
structure Frm where
  H : Hp
  S : ASet
  T : ASet
  hid : List (D × V)
def Frm.add (F : Frm) (h : List (D × V)) : Frm := { F with hid := h ++ F.hid }
def Spr (F : Frm) (T : ASet) (ρ : List Sl) : ASet := fun a => F.S a ∨ T a ∨ a ∈ owns ρ
structure Rel (K : PySem.W.Frag) (W : Wrl) (F : Frm) (T : ASet) (ω : W.Ω) (ρ : List Sl) (σ : L2.St) (H : Hp) : Prop where
  gr : GrP F.T F.H H
  inv : W.inv ω T H
  tn : ∀ a, T a → F.T a ∨ F.H a = none
  own : ∀ l, l ∈ owns ρ → F.H l = none ∧ ¬ T l ∧ ¬ F.S l
  nd : (owns ρ).Nodup
  s0 : ∀ a, F.S a → H a ≠ none ∧ ¬ T a
  hd : ∀ p, p ∈ F.hid → RepA K H (Spr F T ρ) p.1 p.2
  sl : SlsR K H (Spr F T ρ) ρ σ
structure Ext (T : ASet) (H : Hp) (T' : ASet) (H' : Hp) : Prop where
  gr : GrP T H H'
  tn : ∀ a, T' a → T a ∨ H a = none
section
variable {K : PySem.W.Frag} {W : Wrl} {F : Frm} {T T' T2 U : ASet} {ω ω' : W.Ω} {ρ ρ' : List Sl} {σ σ' : L2.St} {H H' H2 : Hp} {d : D} {v : V} {l : Addr} {ds : List D} {xs : List V} {i : Nat}
theorem Ext.refl : Ext T H T H := ⟨GrP.refl T H, fun _ h => .inl h⟩
theorem Ext.trans (e : Ext T H T' H') (e2 : Ext T' H' T2 H2) : Ext T H T2 H2 := ⟨e.gr.trans e2.gr e.tn, fun a h => (e2.tn a h).elim (e.tn a) fun z => .inr (e.gr.live a z)⟩
theorem Ext.of0 (g : GrP nop H H') : Ext T H T H' := ⟨g.mono fun _ h => h.elim, fun _ h => .inl h⟩
theorem Rel.spl (R : Rel K W F T ω ρ σ H) : ∀ a, Spr F T ρ a → H a ≠ none := fun a h e => by
  rcases h with h | h | h
  · exact (R.s0 a h).1 e
  · obtain ⟨o, q, _⟩ := W.lv R.inv h
    rw [q] at e; cases e
  · obtain ⟨i, ds, q⟩ := owns_at h
    obtain ⟨_, xs, q, _⟩ := R.sl.get_ow q
    rw [q] at e; cases e
theorem Rel.fresh (R : Rel K W F T ω ρ σ H) (h : H l = none) : ¬ Spr F T ρ l := fun s => R.spl l s h
theorem Spr.ext (e : Ext T H T' H') : ∀ a, Spr F T' ρ a → Spr F T ρ a ∨ H a = none := fun a s => by
  rcases s with s | s | s
  · exact .inl (.inl s)
  · exact (e.tn a s).imp (fun z => .inr (.inl z)) id
  · exact .inl (.inr (.inr s))
theorem Rel.ext_rep (R : Rel K W F T ω ρ σ H) (e : Ext T H T' H') (h : RepA K H (Spr F T ρ) d v) : RepA K H' (Spr F T' ρ) d v := h.ext e.gr (fun a t => .inl (.inr (.inl t))) (Spr.ext e)
theorem Rel.ext_reps (R : Rel K W F T ω ρ σ H) (e : Ext T H T' H') (h : RepsA K H (Spr F T ρ) ds xs) : RepsA K H' (Spr F T' ρ) ds xs := h.ext e.gr (fun a t => .inl (.inr (.inl t))) (Spr.ext e)
theorem Rel.world (R : Rel K W F T ω ρ σ H) (e : Ext T H T' H') (i : W.inv ω' T' H') : Rel K W F T' ω' ρ σ H' where
  gr := R.gr.trans e.gr R.tn
  inv := i
  tn := fun a h => (e.tn a h).elim (R.tn a) fun z => .inr (R.gr.live a z)
  own := fun l h => ⟨(R.own l h).1, fun t => (e.tn l t).elim (R.own l h).2.1 fun z => R.spl l (.inr (.inr h)) z, (R.own l h).2.2⟩
  nd := R.nd
  s0 := fun a s => ⟨fun z => (R.s0 a s).1 (e.gr.live a z), fun t => (e.tn a t).elim (R.s0 a s).2 (R.s0 a s).1⟩
  hd := fun p hp => R.ext_rep e (R.hd p hp)
  sl := R.sl.ext e.gr (fun a t => .inl (.inr (.inl t))) (Spr.ext e) fun l h => (R.own l h).2.1
theorem Rel.grow (R : Rel K W F T ω ρ σ H) (g : GrP nop H H') : Rel K W F T ω ρ σ H' := R.world (Ext.of0 g) (W.st R.inv g fun _ h => h.elim)
theorem Spr.less (hs : (owns ρ').Sublist (owns ρ)) : ∀ a, Spr F T ρ' a → Spr F T ρ a := fun a s => by
  rcases s with s | s | s
  · exact .inl s
  · exact .inr (.inl s)
  · exact .inr (.inr (hs.subset s))
theorem Rel.less (R : Rel K W F T ω ρ σ H) (hs : (owns ρ').Sublist (owns ρ)) (s : SlsR K H (Spr F T ρ') ρ' σ') : Rel K W F T ω ρ' σ' H :=
  ⟨R.gr, R.inv, R.tn, fun l h => R.own l (hs.subset h), R.nd.sublist hs, R.s0, fun p hp => (R.hd p hp).less (Spr.less hs), s⟩
theorem SlsR.less {S S' : ASet} (h : SlsR K H S ρ σ) (hS : ∀ a, S' a → S a) : SlsR K H S' ρ σ := h.ext (GrP.refl nop H) (fun _ z => z.elim) (fun a s => .inl (hS a s)) fun _ _ z => z
theorem Rel.set_va (R : Rel K W F T ω ρ σ H) (h : RepA K H (Spr F T ρ) d v) (i : Nat) : Rel K W F T ω (ρ.set i (.va d)) (σ.set i (some v)) H :=
  R.less (owns_set_sub rfl i) ((R.sl.set_va h i).less (Spr.less (owns_set_sub rfl i)))
theorem Rel.set_no (R : Rel K W F T ω ρ σ H) (o : Option V) (i : Nat) : Rel K W F T ω (ρ.set i .no) (σ.set i o) H :=
  R.less (owns_set_sub rfl i) ((R.sl.set_no o i).less (Spr.less (owns_set_sub rfl i)))
theorem Rel.drop {h : List (D × V)} (R : Rel K W (F.add h) T ω ρ σ H) : Rel K W F T ω ρ σ H :=
  ⟨R.gr, R.inv, R.tn, R.own, R.nd, R.s0, fun p hp => R.hd p (List.mem_append_right _ hp), R.sl⟩
theorem Rel.put {h : List (D × V)} (R : Rel K W F T ω ρ σ H) (hh : ∀ p, p ∈ h → RepA K H (Spr F T ρ) p.1 p.2) : Rel K W (F.add h) T ω ρ σ H :=
  ⟨R.gr, R.inv, R.tn, R.own, R.nd, R.s0, fun p hp => (List.mem_append.mp hp).elim (hh p) (R.hd p), R.sl⟩
theorem Rel.kept {h : List (D × V)} (R : Rel K W (F.add h) T ω ρ σ H) {p : D × V} (hp : p ∈ h) : RepA K H (Spr F T ρ) p.1 p.2 := R.hd p (List.mem_append_left _ hp)
theorem Rel.set_ow {T0 : ASet} {ω0 : W.Ω} {H0 : Hp} (R0 : Rel K W F T0 ω0 ρ σ H0) (R : Rel K W F T ω ρ σ H) (e : Ext T0 H0 T H) (h0 : H0 l = none) (hs : ¬ Spr F T ρ l) (h : H l = some (.lst xs)) (hr : RepsA K H (fun a => Spr F T ρ a ∨ a = l) ds xs) (i : Nat) : Rel K W F T ω (ρ.set i (.ow l ds)) (σ.set i (some (.ref l))) H := by
  have sub : ∀ a, Spr F T (ρ.set i (.ow l ds)) a → Spr F T ρ a ∨ a = l := fun a s => by
    rcases s with s | s | s
    · exact .inl (.inl s)
    · exact .inl (.inr (.inl s))
    · exact (owns_set_mem s).elim .inr fun z => .inl (.inr (.inr z))
  have ee : ∀ a, (Spr F T ρ a ∨ a = l) → Spr F T0 ρ a ∨ H0 a = none := fun a z => z.elim (Spr.ext e a) fun z => by rw [z]; exact .inr h0
  have sl' : SlsR K H (fun a => Spr F T ρ a ∨ a = l) ρ σ := R0.sl.ext e.gr (fun a t => .inl (.inr (.inl t))) ee fun l h => (R0.own l h).2.1
  refine ⟨R.gr, R.inv, R.tn, fun k hk => ?_, owns_set_nodup R.nd fun z => hs (.inr (.inr z)), R.s0, fun p hp => ?_, (sl'.set_ow h hr i).less sub⟩
  · rcases owns_set_mem hk with z | z
    · rw [z]
      exact ⟨R0.gr.live l h0, fun t => hs (.inr (.inl t)), fun t => hs (.inl t)⟩
    · exact R.own k z
  · exact ((R0.hd p hp).ext e.gr (fun a t => .inl (.inr (.inl t))) ee).less sub
theorem Rel.wr (R : Rel K W F T ω ρ σ H) {ds0 : List D} (e : ρ[i]? = some (.ow l ds0)) (hr : RepsA K H (Spr F T ρ) ds xs) : Rel K W F T ω (ρ.set i (.ow l ds)) σ (upd H l (.lst xs)) := by
  obtain ⟨-, xs0, e0, -⟩ := R.sl.get_ow e
  have m := owns_mem e
  have g : GrP (fun a => a = l) H (upd H l (.lst xs)) := GrP.wr rfl fun u hu => by rw [e0] at hu; cases hu; rfl
  have es : owns (ρ.set i (.ow l ds)) = owns ρ := owns_set_same e
  have eS : Spr F T (ρ.set i (.ow l ds)) = Spr F T ρ := by unfold Spr; rw [es]
  refine ⟨R.gr.trans g fun a z => ?_, W.st R.inv g fun a z => ?_, R.tn, fun k hk => R.own k (es ▸ hk), by rw [es]; exact R.nd, fun a s => ⟨fun z => (R.s0 a s).1 (g.live a z), (R.s0 a s).2⟩, fun p hp => ?_, ?_⟩
  · rw [z]; exact .inr (R.own l m).1
  · rw [z]; exact (R.own l m).2.1
  · rw [eS]
    exact (R.hd p hp).ext g (fun a z => by rw [z]; exact .inl (.inr (.inr m))) fun a z => .inl z
  · rw [eS]
    exact R.sl.wr hr (.inr (.inr m)) e R.nd
theorem Rel.wrS (R : Rel K W F T ω ρ σ H) {o : HO} (hl : F.S l) (h0 : F.H l = none) (hm : ∀ u, H l = some u → pers u = false) : Rel K W F T ω ρ σ (upd H l o) := by
  have g : GrP (fun a => a = l) H (upd H l o) := GrP.wr rfl hm
  refine ⟨R.gr.trans g fun a z => ?_, W.st R.inv g fun a z => ?_, R.tn, R.own, R.nd, fun a s => ⟨fun z => (R.s0 a s).1 (g.live a z), (R.s0 a s).2⟩, fun p hp => ?_, ?_⟩
  · rw [z]; exact .inr h0
  · rw [z]; exact (R.s0 l hl).2
  · exact (R.hd p hp).ext g (fun a z => by rw [z]; exact .inl (.inl hl)) fun a z => .inl z
  · exact R.sl.ext g (fun a z => by rw [z]; exact .inl (.inl hl)) (fun a z => .inl z) fun k hk z => (R.own k hk).2.2 (z ▸ hl)
def frz (ρ : List Sl) (i : Nat) : List Sl := match ρ[i]? with
  | some (.ow _ ds) => ρ.set i (.va (.lst ds))
  | _ => ρ
theorem Rel.frz (R : Rel K W F T ω ρ σ H) (i : Nat) : Rel K W F T ω (frz ρ i) σ H := by
  unfold LW.frz
  split
  · rename_i l ds e
    obtain ⟨hv, xs, h1, r⟩ := R.sl.get_ow e
    have m := owns_mem e
    have key : ∀ {ρ : List Sl} {σ : L2.St} {i : Nat} {S : ASet}, SlsR K H S ρ σ → ρ[i]? = some (.ow l ds) → ¬ Spr F T (ρ.set i (.va (.lst ds))) l → True := fun _ _ _ => trivial
    have hσ : σ.set i (some (.ref l)) = σ := by
      refine List.ext_getElem? fun j => ?_
      rw [List.getElem?_set]
      split
      · rename_i z
        subst z
        rw [hv]
        split
        · rfl
        · rename_i z
          rw [List.getElem?_eq_none (by omega)] at hv
          cases hv
      · rfl
    have sub := owns_set_sub (s := .va (.lst ds)) rfl (ρ := ρ) i
    have nl : l ∉ owns (ρ.set i (.va (.lst ds))) := own_out e R.nd
    have nS : ¬ Spr F T (ρ.set i (.va (.lst ds))) l := fun z => by
      rcases z with z | z | z
      · exact (R.own l m).2.2 z
      · exact (R.own l m).2.1 z
      · exact nl z
    have s1 : SlsR K H (Spr F T (ρ.set i (.va (.lst ds)))) ρ σ := R.sl.less (Spr.less sub)
    have s2 := s1.set_va (d := .lst ds) (v := .ref l) (.lst h1 nS (r.less (Spr.less sub))) i
    rw [hσ] at s2
    exact R.less sub s2
  · exact R
where
  own_out : ∀ {ρ : List Sl} {i : Nat} {l : Addr} {ds : List D}, ρ[i]? = some (Sl.ow l ds) → (owns ρ).Nodup → l ∉ owns (ρ.set i (.va (.lst ds)))
  | [], _, _, _, e, _ => by simp at e
  | .ow k es :: r, 0, _, _, e, n => by
    simp at e
    rw [← e.1]
    exact (List.nodup_cons.mp n).1
  | .no :: r, 0, _, _, e, n => by simp at e
  | .va _ :: r, 0, _, _, e, n => by simp at e
  | .ex _ _ _ :: r, 0, _, _, e, n => by simp at e
  | .ow k es :: r, i + 1, l, ds, e, n => fun h => by
    have e' : r[i]? = some (Sl.ow l ds) := by simpa using e
    rcases List.mem_cons.mp h with z | z
    · exact (List.nodup_cons.mp n).1 (z ▸ owns_mem e')
    · exact own_out e' (List.nodup_cons.mp n).2 z
  | .no :: r, i + 1, l, ds, e, n => own_out (ρ := r) (i := i) (by simpa using e) n
  | .va _ :: r, i + 1, l, ds, e, n => own_out (ρ := r) (i := i) (by simpa using e) n
  | .ex _ _ _ :: r, i + 1, l, ds, e, n => own_out (ρ := r) (i := i) (by simpa using e) n
end
inductive Md
  | A | O | C | F
def RO (K : PySem.W.Frag) (H : Hp) (S : ASet) (os : List Addr) (d : D) (v : V) : Prop := RepA K H S d v ∨ ∃ l xs ds, v = .ref l ∧ d = .lst ds ∧ l ∈ os ∧ H l = some (.lst xs) ∧ RepsA K H S ds xs
def RC (K : PySem.W.Frag) (H : Hp) (S : ASet) (os : List Addr) (d : D) (v : V) : Prop := RO K H S os d v ∨ ∃ a xs ds, v = .ref a ∧ d = .tup ds ∧ SqT K H a xs ∧ RepsA K H S ds xs
def RF (K : PySem.W.Frag) (H H' : Hp) (S : ASet) (d : D) (v : V) : Prop := ∃ l xs ds, v = .ref l ∧ d = .lst ds ∧ H l = none ∧ ¬ S l ∧ H' l = some (.lst xs) ∧ RepsA K H' (fun a => S a ∨ a = l) ds xs
def RR (m : Md) (K : PySem.W.Frag) (H H' : Hp) (S : ASet) (os : List Addr) (d : D) (v : V) : Prop := match m with
  | .A => RepA K H' S d v
  | .O => RO K H' S os d v
  | .C => RC K H' S os d v
  | .F => RF K H H' S d v
section
variable {K : PySem.W.Frag} {W : Wrl} {F : Frm} {T T' T2 U S S' : ASet} {ω ω' : W.Ω} {ρ ρ' : List Sl} {σ σ' : L2.St} {H H' H2 : Hp} {d : D} {v : V} {l : Addr} {ds : List D} {xs : List V} {i : Nat} {os : List Addr}
theorem Rel.ext_RO (R : Rel K W F T ω ρ σ H) (e : Ext T H T' H') (h : RO K H (Spr F T ρ) (owns ρ) d v) : RO K H' (Spr F T' ρ) (owns ρ) d v := by
  rcases h with h | ⟨l, xs, ds, rfl, rfl, m, h, hr⟩
  · exact .inl (R.ext_rep e h)
  · exact .inr ⟨l, xs, ds, rfl, rfl, m, e.gr.keep _ _ h (.inr (R.own l m).2.1), R.ext_reps e hr⟩
theorem sqt_ext {a : Addr} (h : SqT K H a xs) (g : GrP T H H') : SqT K H' a xs := by
  rcases h with (h | ⟨o, h⟩) | h
  · exact .inl (.inl (g.keep _ _ h (.inl rfl)))
  · exact .inl (.inr ⟨o, g.keep _ _ h (.inl rfl)⟩)
  · exact .inr h
theorem Rel.ext_RC (R : Rel K W F T ω ρ σ H) (e : Ext T H T' H') (h : RC K H (Spr F T ρ) (owns ρ) d v) : RC K H' (Spr F T' ρ) (owns ρ) d v := by
  rcases h with h | ⟨a, xs, ds, rfl, rfl, h, hr⟩
  · exact .inl (R.ext_RO e h)
  · exact .inr ⟨a, xs, ds, rfl, rfl, sqt_ext h e.gr, R.ext_reps e hr⟩
theorem RF.a (h : RF K H H' S d v) : RepA K H' S d v := by
  obtain ⟨l, xs, ds, rfl, rfl, _, n, h, r⟩ := h
  exact .lst h n (r.less fun _ z => .inl z)
theorem RO.lst (h : RO K H S os (.lst ds) v) : ∃ l xs, v = .ref l ∧ SqL K H l xs ∧ RepsA K H S ds xs ∧ (H l = some (.lst xs) ∨ ∃ o, H l = some (.frz o (.lst xs))) := by
  rcases h with h | ⟨l, xs, ds', rfl, e, m, h, r⟩
  · cases h with
    | lst h n r => exact ⟨_, _, rfl, sql_of h, r, .inl h⟩
    | lsf h r => exact ⟨_, _, rfl, sql_frz h, r, .inr ⟨_, h⟩⟩
  · cases e
    exact ⟨l, xs, rfl, sql_of h, r, .inl h⟩
theorem RO.tup (h : RO K H S os (.tup ds) v) : ∃ l xs, v = .ref l ∧ TupN K H l xs ∧ RepsA K H S ds xs := by
  rcases h with h | ⟨l, xs, ds', rfl, e, m, h, r⟩
  · cases h with
    | tup h r => exact ⟨_, _, rfl, h, r⟩
  · cases e
theorem RC.tup (h : RC K H S os (.tup ds) v) : ∃ l xs, v = .ref l ∧ SqT K H l xs ∧ RepsA K H S ds xs := by
  rcases h with h | ⟨a, xs, ds', rfl, e, h, r⟩
  · obtain ⟨l, xs, e, h, r⟩ := h.tup
    exact ⟨l, xs, e, h.sqt, r⟩
  · cases e
    exact ⟨a, xs, rfl, h, r⟩
theorem RC.lst (h : RC K H S os (.lst ds) v) : ∃ l xs, v = .ref l ∧ SqL K H l xs ∧ RepsA K H S ds xs ∧ (H l = some (.lst xs) ∨ ∃ o, H l = some (.frz o (.lst xs))) := by
  rcases h with h | ⟨a, xs, ds', rfl, e, h, r⟩
  · exact h.lst
  · cases e
theorem RC.int {n : Int} (h : RC K H S os (.int n) v) : v = .int n := by
  rcases h with (h | ⟨l, xs, ds', rfl, e, m, h, r⟩) | ⟨a, xs, ds', rfl, e, h, r⟩
  · cases h; rfl
  · cases e
  · cases e
theorem RC.bl {n : Bool} (h : RC K H S os (.bl n) v) : v = .bl n := by
  rcases h with (h | ⟨l, xs, ds', rfl, e, m, h, r⟩) | ⟨a, xs, ds', rfl, e, h, r⟩
  · cases h; rfl
  · cases e
  · cases e
theorem RC.str {n : Str} (h : RC K H S os (.str n) v) : v = .str n := by
  rcases h with (h | ⟨l, xs, ds', rfl, e, m, h, r⟩) | ⟨a, xs, ds', rfl, e, h, r⟩
  · cases h; rfl
  · cases e
  · cases e
theorem RC.non (h : RC K H S os .non v) : v = .non := by
  rcases h with (h | ⟨l, xs, ds', rfl, e, m, h, r⟩) | ⟨a, xs, ds', rfl, e, h, r⟩
  · cases h; rfl
  · cases e
  · cases e
theorem RC.rep (h : RC K H S os d v) : Rep K H d v := by
  rcases h with (h | ⟨l, xs, ds', rfl, rfl, m, h, r⟩) | ⟨a, xs, ds', rfl, rfl, h, r⟩
  · exact h.rep
  · exact .lst (sql_of h) r.rep
  · exact .tup h r.rep
theorem RC.isNon (h : RC K H S os d v) : v = .non ↔ d = .non := by
  rcases h with (h | ⟨l, xs, ds', rfl, rfl, m, h, r⟩) | ⟨a, xs, ds', rfl, rfl, h, r⟩
  · cases h <;> simp
  · simp
  · simp
theorem RC.ins {C : Addr} {ns : List Str} (h : RC K H S os (.ins C ns ds) v) : ∃ a dx xs, v = .ref a ∧ H a = some (.ins C dx (ns.zip xs)) ∧ ns.length = ds.length ∧ RepsA K H S ds xs := by
  rcases h with (h | ⟨l, xs, ds', rfl, e, m, h, r⟩) | ⟨a, xs, ds', rfl, e, h, r⟩
  · cases h with
    | ins h i l r => exact ⟨_, _, _, rfl, h, l, r⟩
  · cases e
  · cases e
end
abbrev QT (W : Wrl) := W.Ω → List Sl → (W.Ω → D → Prop) → (W.Ω → Exn → Prop) → Prop
abbrev QTT (W : Wrl) := W.Ω → List Sl → (W.Ω → Bool → Prop) → (W.Ω → Exn → Prop) → Prop
abbrev QTA (W : Wrl) := W.Ω → List Sl → (W.Ω → List D → Prop) → (W.Ω → Exn → Prop) → Prop
def XOk (K : PySem.W.Frag) (W : Wrl) (Wo : WX) (F : Frm) (ρ : List Sl) (σ : L2.St) (Ep : W.Ω → Exn → Prop) : Prop :=
  ∀ T ω x cls dd H, Rel K W F T ω ρ σ H → XRep K H x cls dd → Ep ω x → Wo cls dd σ H
def lfE (m : Md) (K : PySem.W.Frag) (W : Wrl) (Wo : WX) (q : QT W) : TE := fun σ H Q => ∃ (F : Frm) (T : ASet) (ω : W.Ω) (ρ : List Sl) (Qp : W.Ω → D → Prop) (Ep : W.Ω → Exn → Prop), Rel K W F T ω ρ σ H ∧ q ω ρ Qp Ep ∧ XOk K W Wo F ρ σ Ep ∧
  ∀ T' ω' d v H', Rel K W F T' ω' ρ σ H' → Ext T H T' H' → RR m K H H' (Spr F T' ρ) (owns ρ) d v → Qp ω' d → Q v H'
def lfT (K : PySem.W.Frag) (W : Wrl) (Wo : WX) (q : QTT W) : TT := fun σ H Q => ∃ (F : Frm) (T : ASet) (ω : W.Ω) (ρ : List Sl) (Qp : W.Ω → Bool → Prop) (Ep : W.Ω → Exn → Prop), Rel K W F T ω ρ σ H ∧ q ω ρ Qp Ep ∧ XOk K W Wo F ρ σ Ep ∧
  ∀ T' ω' b H', Rel K W F T' ω' ρ σ H' → Ext T H T' H' → Qp ω' b → Q b H'
inductive ROs (m : Md) (K : PySem.W.Frag) (H : Hp) (S : ASet) (os : List Addr) : List D → List V → Prop
  | nil : ROs m K H S os [] []
  | cons {d : D} {ds : List D} {v : V} {vs : List V} : RR m K H H S os d v → ROs m K H S os ds vs → ROs m K H S os (d :: ds) (v :: vs)
def lfA (m : Md) (K : PySem.W.Frag) (W : Wrl) (Wo : WX) (q : QTA W) : TA := fun σ H Q => ∃ (F : Frm) (T : ASet) (ω : W.Ω) (ρ : List Sl) (Qp : W.Ω → List D → Prop) (Ep : W.Ω → Exn → Prop), Rel K W F T ω ρ σ H ∧ q ω ρ Qp Ep ∧ XOk K W Wo F ρ σ Ep ∧
  ∀ T' ω' ds vs H', Rel K W F T' ω' ρ σ H' → Ext T H T' H' → ROs m K H' (Spr F T' ρ) (owns ρ) ds vs → Qp ω' ds → Q vs H'
def QE (X : Cx) (m : Md) (W : Wrl) (Wo : WX) (e : Expr) (q : QT W) : Prop := PE X e (lfE m X.K W Wo q)
def QB (X : Cx) (W : Wrl) (Wo : WX) (e : Expr) (q : QTT W) : Prop := PT X e (lfT X.K W Wo q)
def QA (X : Cx) (m : Md) (W : Wrl) (Wo : WX) (es : List Expr) (q : QTA W) : Prop := PA X es (lfA m X.K W Wo q)
structure PEn (W : Wrl) where
  nx : W.Ω → List Sl → Prop
  rt : W.Ω → D → Prop
  bk : W.Ω → List Sl → Prop := fun _ _ => False
  ct : W.Ω → List Sl → Prop := fun _ _ => False
  ex : W.Ω → Exn → List Sl → Prop := fun _ _ _ => False
abbrev QTS (W : Wrl) := PEn W → W.Ω → List Sl → Prop
def RT (mr : Md) (K : PySem.W.Frag) (F : Frm) (T : ASet) (H : Hp) (d : D) (v : V) : Prop := match mr with
  | .F => RF K F.H H (fun a => F.S a ∨ T a) d v
  | _ => RepA K H (fun a => F.S a ∨ T a) d v
structure Sim (mr : Md) (K : PySem.W.Frag) (W : Wrl) (Wo : WX) (F : Frm) (P : PEn W) (D : Ends) : Prop where
  nx : ∀ T ω ρ σ H, Rel K W F T ω ρ σ H → P.nx ω ρ → D.nx σ H
  bk : ∀ T ω ρ σ H, Rel K W F T ω ρ σ H → P.bk ω ρ → D.bk σ H
  ct : ∀ T ω ρ σ H, Rel K W F T ω ρ σ H → P.ct ω ρ → D.ct σ H
  rt : ∀ T ω ρ σ H d v, Rel K W F T ω ρ σ H → RT mr K F T H d v → P.rt ω d → D.rt v H
  ex : ∀ T ω ρ σ H x cls dd, Rel K W F T ω ρ σ H → XRep K H x cls dd → P.ex ω x ρ → Wo cls dd σ H
def lfS (mr : Md) (K : PySem.W.Frag) (W : Wrl) (Wo : WX) (q : QTS W) : TS := fun D σ H => ∃ (F : Frm) (T : ASet) (ω : W.Ω) (ρ : List Sl) (P : PEn W), Rel K W F T ω ρ σ H ∧ q P ω ρ ∧ Sim mr K W Wo F P D
def QS (X : Cx) (mr : Md) (W : Wrl) (Wo : WX) (st : Stmt) (q : QTS W) : Prop := PS X st (lfS mr X.K W Wo q)
def QSs (X : Cx) (mr : Md) (W : Wrl) (Wo : WX) (st : List Stmt) (q : QTS W) : Prop := PSs X st (lfS mr X.K W Wo q)
theorem PE.imp {X : Cx} {e : Expr} {t t' : TE} (h : PE X e t) (k : ∀ σ H Q, t' σ H Q → t σ H Q) : PE X e t' := ⟨fun pins s σ H Q I q => h.run pins s σ H Q I (k σ H Q q)⟩
theorem PT.imp {X : Cx} {e : Expr} {t t' : TT} (h : PT X e t) (k : ∀ σ H Q, t' σ H Q → t σ H Q) : PT X e t' := ⟨fun pins s σ H Q I q => h.run pins s σ H Q I (k σ H Q q)⟩
theorem PW.imp {X : Cx} {e : Expr} {t t' : TT} (h : PW X e t) (k : ∀ σ H Q, t' σ H Q → t σ H Q) : PW X e t' := ⟨fun wh pins s σ H Q I q => h.run wh pins s σ H Q I (k σ H Q q)⟩
theorem PA.imp {X : Cx} {e : List Expr} {t t' : TA} (h : PA X e t) (k : ∀ σ H Q, t' σ H Q → t σ H Q) : PA X e t' := ⟨fun p pins s σ H Q I q => h.run p pins s σ H Q I (k σ H Q q)⟩
theorem PS.imp {X : Cx} {e : Stmt} {t t' : TS} (h : PS X e t) (k : ∀ D σ H, t' D σ H → t D σ H) : PS X e t' := ⟨fun pins s σ H D I q => h.run pins s σ H D I (k D σ H q)⟩
theorem PSs.imp {X : Cx} {e : List Stmt} {t t' : TS} (h : PSs X e t) (k : ∀ D σ H, t' D σ H → t D σ H) : PSs X e t' := ⟨fun pins s σ H D I q => h.run pins s σ H D I (k D σ H q)⟩
end LW
namespace LW
open PySem PySem.Spec PyProof.Rows L2
section
variable {K : PySem.W.Frag} {W : Wrl} {Wo : WX} {F : Frm} {T T' T2 U S S' : ASet} {ω ω' : W.Ω} {ρ ρ' : List Sl} {σ σ' : L2.St} {H H' H2 : Hp} {d : D} {v : V} {l : Addr} {ds : List D} {xs : List V} {i : Nat} {os : List Addr} {m m1 m2 m3 : Md}
theorem RR.c : ∀ {m : Md}, RR m K H H' S os d v → RC K H' S os d v
  | .A, h => .inl (.inl h)
  | .O, h => .inl h
  | .C, h => h
  | .F, h => .inl (.inl (RF.a h))
def Md.st : Md → Bool
  | .A => true
  | .F => true
  | _ => false
theorem RR.a : ∀ {m : Md}, m.st = true → RR m K H H' S os d v → RepA K H' S d v
  | .A, _, h => h
  | .F, _, h => RF.a h
def Md.ow : Md → Bool
  | .C => false
  | _ => true
theorem RR.o : ∀ {m : Md}, m.ow = true → RR m K H H' S os d v → RO K H' S os d v
  | .A, _, h => .inl h
  | .O, _, h => h
  | .F, _, h => .inl (RF.a h)
def Md.le (m m' : Md) : Bool := match m' with
  | .A => m.st
  | .O => m.ow
  | .C => true
  | .F => match m with
    | .F => true
    | _ => false
theorem RR.up : ∀ {m m' : Md}, m.le m' = true → RR m K H H' S os d v → RR m' K H H' S os d v
  | _, .A, q, h => h.a q
  | _, .O, q, h => h.o q
  | _, .C, _, h => h.c
  | .F, .F, _, h => h
  | .A, .F, q, h => nomatch q
  | .O, .F, q, h => nomatch q
  | .C, .F, q, h => nomatch q
theorem RR.at : ∀ {m : Md}, m ≠ .F → RR m K H H' S os d v → RR m K H' H' S os d v
  | .A, _, h => h
  | .O, _, h => h
  | .C, _, h => h
  | .F, n, h => absurd rfl n
theorem RR.back (g : ∀ a, H' a = none → H a = none) : ∀ {m : Md}, RR m K H' H2 S os d v → RR m K H H2 S os d v
  | .A, h => h
  | .O, h => h
  | .C, h => h
  | .F, ⟨l, xs, ds, h1, h2, h3, h4, h5, h6⟩ => ⟨l, xs, ds, h1, h2, g l h3, h4, h5, h6⟩
def Md.sta : Md → Bool
  | .F => false
  | _ => true
theorem Rel.ext_RR (R : Rel K W F T ω ρ σ H) (e : Ext T H T' H') : ∀ {m : Md}, m.sta = true → RR m K H H (Spr F T ρ) (owns ρ) d v → RR m K H' H' (Spr F T' ρ) (owns ρ) d v
  | .A, _, h => R.ext_rep e h
  | .O, _, h => R.ext_RO e h
  | .C, _, h => R.ext_RC e h
theorem ROs.reps : ∀ {ds : List D} {vs : List V}, ROs .A K H S os ds vs → RepsA K H S ds vs
  | _, _, .nil => .nil
  | _, _, .cons h r => .cons h r.reps
theorem ROs.one (h : ROs m K H S os [d] xs) : ∃ v, xs = [v] ∧ RR m K H H S os d v := by
  cases h with
  | cons h r => cases r; exact ⟨_, rfl, h⟩
theorem ROs.off (hS : ∀ a, S' a → S a) (ho : ∀ l, l ∈ os → ¬ S' l) : ∀ {ds : List D} {vs : List V}, ROs .O K H S os ds vs → RepsA K H S' ds vs
  | _, _, .nil => .nil
  | _, _, .cons h r => .cons (by
    rcases h with h | ⟨l, xs, ds, rfl, rfl, m, h, q⟩
    · exact h.less hS
    · exact .lst h (ho l m) (q.less hS)) (r.off hS ho)
end
section
variable {X : Cx} {W : Wrl} {Wo : WX} {m m1 m2 m3 : Md} {e a b c : Expr} {es : List Expr} {i : Nat} {pos : Pos} {q qa qb qc : QT W} {qs : QTA W} {qt : QTT W}
def slD : Option Sl → Option D
  | some (.va d) => some d
  | some (.ow _ ds) => some (.lst ds)
  | _ => none
def qV (i : Nat) : QT W := fun ω ρ Q _ => ∃ d, slD ρ[i]? = some d ∧ Q ω d
def qVa (i : Nat) : QT W := fun ω ρ Q _ => ∃ d, ρ[i]? = some (.va d) ∧ Q ω d
theorem qe_v (h : PE X e (tVar i)) : QE X .O W Wo e (qV i) := PE.imp h fun σ H Q ⟨F, T, ω, ρ, Qp, Ep, R, ⟨d, hd, q⟩, hx, k⟩ => by
  cases e : ρ[i]? with
  | none => rw [e] at hd; cases hd
  | some s =>
    rw [e] at hd
    cases s with
    | no => cases hd
    | ex a dd x => cases hd
    | va d' =>
      cases hd
      obtain ⟨v, hv, r⟩ := R.sl.get_va e
      exact ⟨v, hv, k T ω _ v H R .refl (.inl r) q⟩
    | ow l ds =>
      cases hd
      obtain ⟨hv, xs, h1, r⟩ := R.sl.get_ow e
      exact ⟨_, hv, k T ω _ _ H R .refl (.inr ⟨l, xs, ds, rfl, rfl, owns_mem e, h1, r⟩) q⟩
theorem qe_va (h : PE X e (tVar i)) : QE X .A W Wo e (qVa i) := PE.imp h fun σ H Q ⟨F, T, ω, ρ, Qp, Ep, R, ⟨d, hd, q⟩, hx, k⟩ => by
  obtain ⟨v, hv, r⟩ := R.sl.get_va hd
  exact ⟨v, hv, k T ω _ v H R .refl r q⟩
def qC (d : D) : QT W := fun ω _ Q _ => Q ω d
theorem qe_c {d : D} {v : V} (h : PE X e (tC v)) (r : ∀ H S, RepA X.K H S d v) : QE X .A W Wo e (qC d) := PE.imp h fun σ H Q ⟨F, T, ω, ρ, Qp, Ep, R, q, hx, k⟩ => k T ω d v H R .refl (r _ _) q
theorem qe_int {n : Int} {j} : QE X .A W Wo (.Constant (.int n) j pos) (qC (.int n)) := qe_c pe_int fun _ _ => .int n
theorem qe_str {n : Str} {j} : QE X .A W Wo (.Constant (.str n) j pos) (qC (.str n)) := qe_c pe_str fun _ _ => .str n
theorem qe_bl {n : Bool} {j} : QE X .A W Wo (.Constant (.bool n) j pos) (qC (.bl n)) := qe_c pe_bl fun _ _ => .bl n
theorem qe_non {j} : QE X .A W Wo (.Constant .none j pos) (qC .non) := qe_c pe_non fun _ _ => .non
theorem qe_ct {d : List D} {p : Addr} {vs : List V} (h : PE X e (tC (.ref p))) (hq : ∀ H, SqT X.K H p vs) (r : ∀ H S, RepsA X.K H S d vs) : QE X .C W Wo e (qC (.tup d)) := PE.imp h fun σ H Q ⟨F, T, ω, ρ, Qp, Ep, R, q, hx, k⟩ =>
  k T ω _ _ H R .refl (.inr ⟨p, vs, d, rfl, rfl, hq H, r _ _⟩) q
def OpP (m : Md) (K : PySem.W.Frag) (r : R2) (f : D → D → (D → Prop) → Prop) : Prop := ∀ (S : ASet) (os : List Addr) (H : Hp) (d e : D) (v w : V) (Q : VK) (Qp : D → Prop), (∀ a, S a → H a ≠ none) → RC K H S os d v → RC K H S os e w → f d e Qp →
  (∀ x u H', GrP nop H H' → RR m K H H' S os x u → Qp x → Q u H') → r v w H Q
def UnP (m : Md) (K : PySem.W.Frag) (r : V → Hp → VK → Prop) (f : D → (D → Prop) → Prop) : Prop := ∀ (S : ASet) (os : List Addr) (H : Hp) (d : D) (v : V) (Q : VK) (Qp : D → Prop), (∀ a, S a → H a ≠ none) → RC K H S os d v → f d Qp →
  (∀ x u H', GrP nop H H' → RR m K H H' S os x u → Qp x → Q u H') → r v H Q
def CaP (ma m : Md) (K : PySem.W.Frag) (r : List V → Hp → VK → Prop) (f : List D → (D → Prop) → Prop) : Prop := ∀ (S : ASet) (os : List Addr) (H : Hp) (ds : List D) (vs : List V) (Q : VK) (Qp : D → Prop), (∀ a, S a → H a ≠ none) → ROs ma K H S os ds vs → f ds Qp →
  (∀ x u H', GrP nop H H' → RR m K H H' S os x u → Qp x → Q u H') → r vs H Q
def qOp (f : D → D → (D → Prop) → Prop) (qa qb : QT W) : QT W := fun ω ρ Q E => qa ω ρ (fun ω1 x => qb ω1 ρ (fun ω2 y => f x y (Q ω2)) E) E
def qUn (f : D → (D → Prop) → Prop) (qa : QT W) : QT W := fun ω ρ Q E => qa ω ρ (fun ω1 x => f x (Q ω1)) E
def qCa (f : List D → (D → Prop) → Prop) (qs : QTA W) : QT W := fun ω ρ Q E => qs ω ρ (fun ω1 xs => f xs (Q ω1)) E
theorem lf_op {K : PySem.W.Frag} {r : R2} {f : D → D → (D → Prop) → Prop} (hp : OpP m K r f) (σ : L2.St) (H : Hp) (Q : VK) (h : lfE m K W Wo (qOp f qa qb) σ H Q) : tOp r (lfE m1 K W Wo qa) (lfE m2 K W Wo qb) σ H Q := by
  obtain ⟨F, T, ω, ρ, Qp, Ep, R, q, hx, k⟩ := h
  refine ⟨F, T, ω, ρ, _, Ep, R, q, hx, fun T1 ω1 d v H1 R1 e1 r1 q1 => ?_⟩
  refine ⟨F, T1, ω1, ρ, _, Ep, R1, q1, hx, fun T2 ω2 e w H2 R2 e2 r2 q2 => ?_⟩
  refine hp _ _ H2 d e v w Q _ R2.spl (R1.ext_RC e2 r1.c) r2.c q2 fun x u H' g rr qq => ?_
  exact k T2 ω2 x u H' (R2.grow g) ((e1.trans e2).trans (Ext.of0 g)) (rr.back fun a z => e1.gr.live a (e2.gr.live a z)) qq
theorem lf_un {K : PySem.W.Frag} {r : V → Hp → VK → Prop} {f : D → (D → Prop) → Prop} (hp : UnP m K r f) (σ : L2.St) (H : Hp) (Q : VK) (h : lfE m K W Wo (qUn f qa) σ H Q) : tUn r (lfE m1 K W Wo qa) σ H Q := by
  obtain ⟨F, T, ω, ρ, Qp, Ep, R, q, hx, k⟩ := h
  refine ⟨F, T, ω, ρ, _, Ep, R, q, hx, fun T1 ω1 d v H1 R1 e1 r1 q1 => ?_⟩
  refine hp _ _ H1 d v Q _ R1.spl r1.c q1 fun x u H' g rr qq => ?_
  exact k T1 ω1 x u H' (R1.grow g) (e1.trans (Ext.of0 g)) (rr.back fun a z => e1.gr.live a z) qq
theorem lf_ca {K : PySem.W.Frag} {ma : Md} {r : List V → Hp → VK → Prop} {f : List D → (D → Prop) → Prop} (hp : CaP ma m K r f) (σ : L2.St) (H : Hp) (Q : VK) (h : lfE m K W Wo (qCa f qs) σ H Q) : tCB r (lfA ma K W Wo qs) σ H Q := by
  obtain ⟨F, T, ω, ρ, Qp, Ep, R, q, hx, k⟩ := h
  refine ⟨F, T, ω, ρ, _, Ep, R, q, hx, fun T1 ω1 ds vs H1 R1 e1 r1 q1 => ?_⟩
  refine hp _ _ H1 ds vs Q _ R1.spl r1 q1 fun x u H' g rr qq => ?_
  exact k T1 ω1 x u H' (R1.grow g) (e1.trans (Ext.of0 g)) (rr.back fun a z => e1.gr.live a z) qq
theorem qe_op {op : Operator} {r : R2} {f : D → D → (D → Prop) → Prop} (ho : OpR X (binaryOp op) r) (hp : OpP m X.K r f) (ha : QE X m1 W Wo a qa) (hb : QE X m2 W Wo b qb) : QE X m W Wo (.BinOp a op b pos) (qOp f qa qb) := PE.imp (pe_op ho ha hb) (lf_op hp)
theorem qe_un {op : UnaryOp} {r : V → Hp → VK → Prop} {f : D → (D → Prop) → Prop} (ho : UnR X (unaryOp op) r) (hp : UnP m X.K r f) (ha : QE X m1 W Wo a qa) : QE X m W Wo (.UnaryOp op a pos) (qUn f qa) := PE.imp (pe_un ho ha) (lf_un hp)
theorem qe_cmp {op : CmpOp} {r : R2} {f : D → D → (D → Prop) → Prop} (ho : OpR X (compareOp op) r) (hp : OpP m X.K r f) (ha : QE X m1 W Wo a qa) (hb : QE X m2 W Wo b qb) (hm : behindInMarks op b = false) : QE X m W Wo (.Compare a [op] [b] pos) (qOp f qa qb) := PE.imp (pe_cmpR ho ha hb hm) (lf_op hp)
theorem qe_ix {r : R2} {f : D → D → (D → Prop) → Prop} (hr : IxR X r) (hp : OpP m X.K r f) (ha : QE X m1 W Wo a qa) (hb : QE X m2 W Wo b qb) (hs : PlainIx b) : QE X m W Wo (.Subscript a b pos) (qOp f qa qb) := PE.imp (pe_ix hr ha hb hs) (lf_op hp)
def fI0 (g : Int → Int → D) : D → D → (D → Prop) → Prop
  | .int i, .int j, Q => Q (g i j)
  | _, _, _ => False
def fI (C : Int → Int → Prop) (g : Int → Int → D) : D → D → (D → Prop) → Prop
  | .int i, .int j, Q => C i j ∧ Q (g i j)
  | _, _, _ => False
theorem fI0_inv {g : Int → Int → D} {d e : D} {Q : D → Prop} (h : fI0 g d e Q) : ∃ i j, d = .int i ∧ e = .int j ∧ Q (g i j) := by
  cases d <;> cases e <;> first | exact ⟨_, _, rfl, rfl, h⟩ | exact h.elim
theorem fI_inv {C : Int → Int → Prop} {g : Int → Int → D} {d e : D} {Q : D → Prop} (h : fI C g d e Q) : ∃ i j, d = .int i ∧ e = .int j ∧ C i j ∧ Q (g i j) := by
  cases d <;> cases e <;> first | exact ⟨_, _, rfl, rfl, h⟩ | exact h.elim
theorem opI0_int {K : PySem.W.Frag} {g : Int → Int → Int} : OpP .A K (rI0 fun i j => .int (g i j)) (fI0 fun i j => .int (g i j)) := fun S os H d e v w Q Qp hS r1 r2 h k => by
  obtain ⟨i, j, rfl, rfl, h⟩ := fI0_inv h
  exact ⟨i, j, r1.int, r2.int, k _ _ H (GrP.refl _ _) (.int _) h⟩
theorem opI0_bl {K : PySem.W.Frag} {g : Int → Int → Bool} : OpP .A K (rI0 fun i j => .bl (g i j)) (fI0 fun i j => .bl (g i j)) := fun S os H d e v w Q Qp hS r1 r2 h k => by
  obtain ⟨i, j, rfl, rfl, h⟩ := fI0_inv h
  exact ⟨i, j, r1.int, r2.int, k _ _ H (GrP.refl _ _) (.bl _) h⟩
theorem opI_int {K : PySem.W.Frag} {C : Int → Int → Prop} {g : Int → Int → Int} : OpP .A K (rI C fun i j => .int (g i j)) (fI C fun i j => .int (g i j)) := fun S os H d e v w Q Qp hS r1 r2 h k => by
  obtain ⟨i, j, rfl, rfl, hc, h⟩ := fI_inv h
  exact ⟨i, j, r1.int, r2.int, hc, k _ _ H (GrP.refl _ _) (.int _) h⟩
def fNeg : D → (D → Prop) → Prop
  | .int i, Q => Q (.int (-i))
  | _, _ => False
theorem un_negP {K : PySem.W.Frag} : UnP .A K (rU fun i => .int (-i)) fNeg := fun S os H d v Q Qp hS r1 h k => by
  cases d <;> first | exact ⟨_, r1.int, k _ _ H (GrP.refl _ _) (.int _) h⟩ | exact h.elim
def fEq : D → D → (D → Prop) → Prop
  | .int i, .int j, Q => Q (.bl (decide (i = j)))
  | .str i, .str j, Q => Q (.bl (decide (i = j)))
  | .bl i, .bl j, Q => Q (.bl (decide (i = j)))
  | .non, .non, Q => Q (.bl true)
  | _, _, _ => False
def fNe : D → D → (D → Prop) → Prop
  | .int i, .int j, Q => Q (.bl (!decide (i = j)))
  | .str i, .str j, Q => Q (.bl (!decide (i = j)))
  | .bl i, .bl j, Q => Q (.bl (!decide (i = j)))
  | .non, .non, Q => Q (.bl false)
  | _, _, _ => False
theorem opEqP {K : PySem.W.Frag} : OpP .A K rEq fEq := fun S os H d e v w Q Qp hS r1 r2 h k => by
  cases d <;> cases e <;> first
    | exact h.elim
    | (rw [r1.non, r2.non]; exact ⟨rfl, k _ _ H (GrP.refl _ _) (.bl _) h⟩)
    | (rw [r1.bl, r2.bl]; exact ⟨rfl, k _ _ H (GrP.refl _ _) (.bl _) (by simpa [fEq] using h)⟩)
    | (rw [r1.int, r2.int]; exact ⟨rfl, k _ _ H (GrP.refl _ _) (.bl _) (by simpa [fEq] using h)⟩)
    | (rw [r1.str, r2.str]; exact ⟨rfl, k _ _ H (GrP.refl _ _) (.bl _) (by simpa [fEq] using h)⟩)
theorem opNeP {K : PySem.W.Frag} : OpP .A K rNe fNe := fun S os H d e v w Q Qp hS r1 r2 h k => by
  cases d <;> cases e <;> first
    | exact h.elim
    | (rw [r1.non, r2.non]; exact ⟨rfl, k _ _ H (GrP.refl _ _) (.bl _) h⟩)
    | (rw [r1.bl, r2.bl]; exact ⟨rfl, k _ _ H (GrP.refl _ _) (.bl _) (by simpa [fNe] using h)⟩)
    | (rw [r1.int, r2.int]; exact ⟨rfl, k _ _ H (GrP.refl _ _) (.bl _) (by simpa [fNe] using h)⟩)
    | (rw [r1.str, r2.str]; exact ⟨rfl, k _ _ H (GrP.refl _ _) (.bl _) (by simpa [fNe] using h)⟩)
noncomputable def deq (d e : D) : Bool := @decide (d = e) (Classical.propDecidable (d = e))
theorem deq_t {d e : D} (h : d = e) : deq d e = true := @decide_eq_true _ (Classical.propDecidable (d = e)) h
theorem deq_f {d e : D} (h : d ≠ e) : deq d e = false := @decide_eq_false _ (Classical.propDecidable (d = e)) h
theorem deq_iff {d e : D} : deq d e = true ↔ d = e := by
  refine ⟨fun h => ?_, deq_t⟩
  refine Classical.byContradiction fun n => ?_
  rw [deq_f n] at h
  cases h
def fEqD (d e : D) (Q : D → Prop) : Prop := ∃ n, n ≤ 64 ∧ d.dep n = true ∧ e.dep n = true ∧ Q (.bl (deq d e))
def fNeD (d e : D) (Q : D → Prop) : Prop := ∃ n, n ≤ 64 ∧ d.dep n = true ∧ e.dep n = true ∧ Q (.bl (!deq d e))
theorem opEqDP {K : PySem.W.Frag} : OpP .A K (rEqD K) fEqD := fun S os H d e v w Q Qp hS r1 r2 ⟨n, hn, h1, h2, h⟩ k => by
  refine w_eqD n r1.rep r2.rep h1 h2 hn (fun z => ?_) (fun z => ?_)
  · exact k _ _ H (GrP.refl _ _) (.bl _) (by rw [deq_t z] at h; exact h)
  · exact k _ _ H (GrP.refl _ _) (.bl _) (by rw [deq_f z] at h; exact h)
theorem opNeDP {K : PySem.W.Frag} : OpP .A K (rNeD K) fNeD := fun S os H d e v w Q Qp hS r1 r2 ⟨n, hn, h1, h2, h⟩ k => by
  refine w_neD n r1.rep r2.rep h1 h2 hn (fun z => ?_) (fun z => ?_)
  · exact k _ _ H (GrP.refl _ _) (.bl _) (by rw [deq_t z] at h; exact h)
  · exact k _ _ H (GrP.refl _ _) (.bl _) (by rw [deq_f z] at h; exact h)
def D.isNon : D → Bool
  | .non => true
  | _ => false
theorem isNon_iff {d : D} : d.isNon = true ↔ d = .non := by cases d <;> simp [D.isNon]
def fIsN (neg : Bool) (d e : D) (Q : D → Prop) : Prop := e = .non ∧ Q (.bl (if neg then !d.isNon else d.isNon))
theorem dec_isNon {K : PySem.W.Frag} {H : Hp} {S : ASet} {os : List Addr} {d : D} {v : V} (r : RC K H S os d v) : decide (v = .non) = d.isNon := by
  by_cases h : v = .non
  · rw [decide_eq_true h, (isNon_iff.mpr (r.isNon.mp h))]
  · rw [decide_eq_false h]
    cases q : d.isNon with
    | false => rfl
    | true => exact absurd (r.isNon.mpr (isNon_iff.mp q)) h
theorem opIsP {K : PySem.W.Frag} : OpP .A K (fun x y H Q => y = .non ∧ Q (.bl (decide (x = .non))) H) (fIsN false) := fun S os H d e v w Q Qp hS r1 r2 ⟨z, h⟩ k => by
  subst z
  rw [dec_isNon r1]
  exact ⟨r2.non, k _ _ H (GrP.refl _ _) (.bl _) h⟩
def fSS (C : Str → Str → Prop) (g : Str → Str → D) : D → D → (D → Prop) → Prop
  | .str i, .str j, Q => C i j ∧ Q (g i j)
  | _, _, _ => False
theorem fSS_inv {C : Str → Str → Prop} {g : Str → Str → D} {d e : D} {Q : D → Prop} (h : fSS C g d e Q) : ∃ i j, d = .str i ∧ e = .str j ∧ C i j ∧ Q (g i j) := by
  cases d <;> cases e <;> first | exact ⟨_, _, rfl, rfl, h⟩ | exact h.elim
abbrev fAddS : D → D → (D → Prop) → Prop := fSS (fun i j => i.length + j.length ≤ sizeLine) (fun i j => .str (i ++ j))
theorem opAddSP {K : PySem.W.Frag} : OpP .A K (fun x y H Q => ∃ i j, x = .str i ∧ y = .str j ∧ i.length + j.length ≤ sizeLine ∧ Q (.str (i ++ j)) H) fAddS := fun S os H d e v w Q Qp hS r1 r2 h k => by
  obtain ⟨i, j, rfl, rfl, hc, h⟩ := fSS_inv h
  exact ⟨i, j, r1.str, r2.str, hc, k _ _ H (GrP.refl _ _) (.str _) h⟩
theorem RepsA.atI {K : PySem.W.Frag} {H : Hp} {S : ASet} {ds : List D} {vs : List V} {i : Int} {d : D} (r : RepsA K H S ds vs) (h : L2.atI ds i = some d) : ∃ v, L2.atI vs i = some v ∧ RepA K H S d v := by
  unfold L2.atI at h ⊢
  rw [r.len]
  cases e : ixN ds.length i with
  | none => rw [e] at h; cases h
  | some j =>
    rw [e] at h
    exact r.get (show ds[j]? = some d from h)
def fIxL : D → D → (D → Prop) → Prop
  | .lst ds, .int i, Q => ∃ d, atI ds i = some d ∧ Q d
  | _, _, _ => False
def fIxT : D → D → (D → Prop) → Prop
  | .tup ds, .int i, Q => ∃ d, atI ds i = some d ∧ Q d
  | _, _, _ => False
theorem ixLP {K : PySem.W.Frag} : OpP .A K (rIxL K) fIxL := fun S os H d e v w Q Qp hS r1 r2 h k => by
  cases d <;> cases e <;> first | (exact h.elim) | skip
  obtain ⟨d, ha, h⟩ := h
  obtain ⟨l, xs, rfl, hl, hr, _⟩ := r1.lst
  obtain ⟨u, hu, ru⟩ := hr.atI ha
  exact ⟨l, xs, _, u, rfl, r2.int, hl, hu, k _ _ H (GrP.refl _ _) ru h⟩
theorem ixTP {K : PySem.W.Frag} : OpP .A K (rIxT K) fIxT := fun S os H d e v w Q Qp hS r1 r2 h k => by
  cases d <;> cases e <;> first | (exact h.elim) | skip
  obtain ⟨d, ha, h⟩ := h
  obtain ⟨l, xs, rfl, hl, hr⟩ := r1.tup
  obtain ⟨u, hu, ru⟩ := hr.atI ha
  exact ⟨l, xs, _, u, rfl, r2.int, hl, hu, k _ _ H (GrP.refl _ _) ru h⟩
def D.flat : D → Bool
  | .int _ => true
  | .str _ => true
  | _ => false
def D.same : D → D → Bool
  | .int i, .int j => decide (i = j)
  | .str i, .str j => decide (i = j)
  | _, _ => false
def fIn (neg : Bool) (d e : D) (Q : D → Prop) : Prop := ∃ ds, (e = .lst ds ∨ e = .tup ds) ∧ d.flat = true ∧ ds.all D.flat = true ∧ Q (.bl (if neg then !(ds.any fun x => x.same d) else ds.any fun x => x.same d))
theorem flat_V {K : PySem.W.Frag} {H : Hp} {S : ASet} {d : D} {v : V} (h : d.flat = true) (r : RepA K H S d v) : flatV v = true := by
  cases r <;> first | rfl | (cases h; done)
theorem same_V {K : PySem.W.Frag} {H : Hp} {S : ASet} {d e : D} {v w : V} (h : d.flat = true) (h2 : e.flat = true) (r : RepA K H S d v) (r2 : RepA K H S e w) : eqV v w = d.same e := by
  cases r <;> first | (cases h; done) | (cases r2 <;> first | (cases h2; done) | rfl)
theorem flats_V {K : PySem.W.Frag} {H : Hp} {S : ASet} : ∀ {ds : List D} {vs : List V}, ds.all D.flat = true → RepsA K H S ds vs → vs.all flatV = true
  | _, _, _, .nil => rfl
  | _, _, q, .cons h r => by
    rw [List.all_cons, Bool.and_eq_true] at q ⊢
    exact ⟨flat_V q.1 h, flats_V q.2 r⟩
theorem any_V {K : PySem.W.Frag} {H : Hp} {S : ASet} {e : D} {w : V} (h2 : e.flat = true) (r2 : RepA K H S e w) : ∀ {ds : List D} {vs : List V}, ds.all D.flat = true → RepsA K H S ds vs → inV w vs = ds.any fun x => x.same e
  | _, _, _, .nil => rfl
  | _, _, q, .cons h r => by
    rw [List.all_cons, Bool.and_eq_true] at q
    rw [List.any_cons, ← any_V h2 r2 q.2 r, ← same_V q.1 h2 h r2]
    rfl
theorem RC.flat {K : PySem.W.Frag} {H : Hp} {S : ASet} {os : List Addr} {d : D} {v : V} (h : d.flat = true) (r : RC K H S os d v) : RepA K H S d v := by
  rcases r with (r | ⟨l, xs, ds', rfl, rfl, m, h', r⟩) | ⟨a, xs, ds', rfl, rfl, h', r⟩
  · exact r
  · exact nomatch (show false = true from h)
  · exact nomatch (show false = true from h)
theorem opInP {K : PySem.W.Frag} {neg : Bool} : OpP .A K (rIn K neg) (fIn neg) := fun S os H d e v w Q Qp hS r1 r2 ⟨ds, he, h1, h2, h⟩ k => by
  have ra := r1.flat h1
  have fin : ∀ {p : Addr} {xs : List V}, RepsA K H S ds xs → (SqL K H p xs ∨ SqT K H p xs) → rIn K neg v (.ref p) H Q := fun {p xs} hr hq => by
    refine ⟨p, xs, rfl, hq, flat_V h1 ra, flats_V h2 hr, ?_⟩
    rw [any_V h1 ra h2 hr]
    exact k _ _ H (GrP.refl _ _) (.bl _) h
  rcases he with rfl | rfl
  · obtain ⟨l, xs, rfl, hl, hr, _⟩ := r2.lst
    exact fin hr (.inl hl)
  · obtain ⟨l, xs, rfl, hl, hr⟩ := r2.tup
    exact fin hr (.inr hl)
def fCat : D → D → (D → Prop) → Prop
  | .lst ds, .lst es, Q => ds.length + es.length ≤ 1000000 ∧ Q (.lst (ds ++ es))
  | _, _, _ => False
theorem small6 {n : Nat} (h : n ≤ 1000000) : n ≤ sizeLine := Nat.le_trans h (by decide)
theorem rf_new {K : PySem.W.Frag} {H : Hp} {S : ASet} {l : Addr} {ds : List D} {xs : List V} (hS : ∀ a, S a → H a ≠ none) (hl : H l = none) (r : RepsA K H S ds xs) : RF K H (upd H l (.lst xs)) S (.lst ds) (.ref l) :=
  ⟨l, xs, ds, rfl, rfl, hl, fun s => hS l s hl, upd_same, r.ext (GrP.new hl) (fun _ z => z.elim) fun a z => z.imp id fun z => by rw [z]; exact hl⟩
def rCatR : R2 := fun x y H Q => ∃ l b xs zs, x = .ref l ∧ y = .ref b ∧ Rd H l (.lst xs) ∧ Rd H b (.lst zs) ∧ xs.length + zs.length ≤ sizeLine ∧ ∀ p, H p = none → Q (.ref p) (upd H p (.lst (xs ++ zs)))
theorem lst_rd {X : Cx} {pins : List (Addr × Obj)} {σ : L2.St} {H : Hp} {s : Shared} {l : Addr} {xs : List V} (I : Inv X pins σ H s) (h : Rd H l (.lst xs)) : xs.length ≤ sizeLine ∧ ∃ (its : List Value) (n : Nat), Vals xs its ∧ s.heap.get? l = some { cls := .type "list", data := .seq its.toArray n } := by
  rcases h with h | ⟨o, h⟩
  · exact I.hok l _ h
  · exact (I.hok l _ h).2
theorem op_catR {X : Cx} : OpR X (binaryOp .Add) rCatR := by
  intro pins s σ H x y v u Q I rx ry h
  obtain ⟨l, b, xs, zs, rfl, rfl, hH, hB, hz, q⟩ := h
  cases rx
  cases ry
  obtain ⟨z, its, n, r, e⟩ := lst_rd I hH
  obtain ⟨z2, its2, n2, r2, e2⟩ := lst_rd I hB
  have hl := r.length
  have hl2 := r2.length
  refine PySem.P.add_list e e2 ?_ (by rw [List.size_toArray, List.size_toArray]; omega)
  have ea : its.toArray ++ its2.toArray = (its ++ its2).toArray := by simp
  rw [ea]
  exact ⟨.ref _, _, I.lnew (t' := s.toks) (r.append r2) (by rw [List.length_append]; omega), rfl, q _ I.fresh⟩
theorem opCatP {K : PySem.W.Frag} : OpP .F K rCatR fCat := fun S os H d e v w Q Qp hS r1 r2 h k => by
  cases d <;> cases e <;> first | (exact h.elim) | skip
  obtain ⟨hz, h⟩ := h
  obtain ⟨l, xs, rfl, hl, hr, z1⟩ := r1.lst
  obtain ⟨l2, ys, rfl, hl2, hr2, z2⟩ := r2.lst
  exact ⟨l, l2, xs, ys, rfl, rfl, z1, z2, by rw [hr.len, hr2.len]; exact small6 hz, fun p hp => k _ _ _ (GrP.new hp) (rf_new hS hp (RepsA.append hr2 hr)) h⟩
def qPart : Option (QT W) → W.Ω → List Sl → (W.Ω → Option Int → Prop) → (W.Ω → Exn → Prop) → Prop
  | none => fun ω _ k _ => k ω none
  | some q => fun ω ρ k E => q ω ρ (fun ω' y => ∃ i, y = .int i ∧ k ω' (some i)) E
def qSl (f : D → Option Int → Option Int → (D → Prop) → Prop) (qa : QT W) (lo hi : Option (QT W)) : QT W := fun ω ρ Q E => qa ω ρ (fun ω1 x => qPart lo ω1 ρ (fun ω2 l => qPart hi ω2 ρ (fun ω3 u => f x l u (Q ω3)) E) E) E
def lfO (K : PySem.W.Frag) (W : Wrl) (Wo : WX) (q : Option (QT W)) : TO := fun σ H Q => ∃ (F : Frm) (T : ASet) (ω : W.Ω) (ρ : List Sl) (Qp : W.Ω → Option Int → Prop) (Ep : W.Ω → Exn → Prop), Rel K W F T ω ρ σ H ∧ qPart q ω ρ Qp Ep ∧ XOk K W Wo F ρ σ Ep ∧
  ∀ T' ω' o H', Rel K W F T' ω' ρ σ H' → Ext T H T' H' → Qp ω' o → Q o H'
def QO (X : Cx) (W : Wrl) (Wo : WX) (e : Option Expr) (q : Option (QT W)) : Prop := PO X e (lfO X.K W Wo q)
theorem PO.imp {X : Cx} {e : Option Expr} {t t' : TO} (h : PO X e t) (k : ∀ σ H Q, t' σ H Q → t σ H Q) : PO X e t' := ⟨fun pins s σ H Q I q => h.run pins s σ H Q I (k σ H Q q)⟩
theorem qo_none : QO X W Wo none none := PO.imp po_none fun σ H Q ⟨F, T, ω, ρ, Qp, Ep, R, q, hx, k⟩ => k T ω none H R .refl q
theorem qo_some (h : QE X m W Wo e q) : QO X W Wo (some e) (some q) := PO.imp (po_some h) fun σ H Q ⟨F, T, ω, ρ, Qp, Ep, R, q, hx, k⟩ =>
  ⟨F, T, ω, ρ, _, Ep, R, q, hx, fun T' ω' d v H' R' e r ⟨i, z, q'⟩ => by subst z; exact ⟨i, r.c.int, k T' ω' _ H' R' e q'⟩⟩
def cutD (xs : List D) (lo hi : Option Int) : List D := (xs.drop (HT.sIx xs.length 0 lo)).take (HT.sIx xs.length xs.length hi - HT.sIx xs.length 0 lo)
theorem RepsA.cut {K : PySem.W.Frag} {H : Hp} {S : ASet} {ds : List D} {vs : List V} {lo hi : Option Int} (r : RepsA K H S ds vs) : RepsA K H S (cutD ds lo hi) (cutV vs lo hi) := by
  unfold cutD cutV
  rw [r.len]
  exact (r.drop _).take _
def fSlL : D → Option Int → Option Int → (D → Prop) → Prop
  | .lst ds, lo, hi, Q => Q (.lst (cutD ds lo hi))
  | _, _, _, _ => False
def fSlT : D → Option Int → Option Int → (D → Prop) → Prop
  | .tup ds, lo, hi, Q => Q (.tup (cutD ds lo hi))
  | _, _, _, _ => False
theorem cut_wholeD {xs : List D} {lo hi : Option Int} (h : HT.sIx xs.length 0 lo = 0 ∧ HT.sIx xs.length xs.length hi = xs.length) : cutD xs lo hi = xs := by
  unfold cutD
  rw [h.1, h.2]
  simp
theorem RepsA.nil_of {K : PySem.W.Frag} {H : Hp} {S : ASet} {ds : List D} {vs : List V} (r : RepsA K H S ds vs) (e : vs = []) : ds = [] := by
  subst e
  cases r
  rfl
def fCatT : D → D → (D → Prop) → Prop
  | .tup ds, .tup es, Q => ds.length + es.length ≤ 1000000 ∧ Q (.tup (ds ++ es))
  | _, _, _ => False
def qTe (qa : QT W) : QTT W := fun ω ρ Q E => qa ω ρ (fun ω1 d => ∃ b, d = .bl b ∧ Q ω1 b) E
theorem qb_val (ha : QE X m W Wo a qa) (he : ∀ whole, isTrue a X.env whole = (do let v ← whole; standAt a.pos; holding [v] (truthy v)) := by intro _; rfl) : QB X W Wo a (qTe qa) := PT.imp (pt_val ha he) fun σ H Q ⟨F, T, ω, ρ, Qp, Ep, R, q, hx, k⟩ =>
  ⟨F, T, ω, ρ, _, Ep, R, q, hx, fun T' ω' d v H' R' e r ⟨b, z, q'⟩ => by subst z; exact ⟨b, r.c.bl, k T' ω' b H' R' e q'⟩⟩
theorem qb_cmp {op : CmpOp} {r : R2} {f : D → D → (D → Prop) → Prop} (ho : OpR X (compareOp op) r) (hp : OpP .A X.K r f) (ha : QE X m1 W Wo a qa) (hb : QE X m2 W Wo b qb) (hm : behindInMarks op b = false) : QB X W Wo (.Compare a [op] [b] pos) (qTe (qOp f qa qb)) := PT.imp (pt_cmpR ho ha hb hm) fun σ H Q ⟨F, T, ω, ρ, Qp, Ep, R, q, hx, k⟩ =>
  lf_op hp σ H _ ⟨F, T, ω, ρ, _, Ep, R, q, hx, fun T' ω' d v H' R' e r ⟨b, z, q'⟩ => by subst z; exact ⟨b, (RR.c r).bl, k T' ω' b H' R' e q'⟩⟩
def D.tru : D → (Bool → Prop) → Prop
  | .non, Q => Q false
  | .bl b, Q => Q b
  | .int i, Q => Q (i != 0)
  | .lst ds, Q => Q (!ds.isEmpty)
  | .tup ds, Q => Q (!ds.isEmpty)
  | _, _ => False
def qTru (qa : QT W) : QTT W := fun ω ρ Q E => qa ω ρ (fun ω1 d => d.tru (Q ω1)) E
def qNotT (qt : QTT W) : QTT W := fun ω ρ Q E => qt ω ρ (fun ω1 b => Q ω1 (!b)) E
theorem qb_not (ha : QB X W Wo a qt) : QB X W Wo (.UnaryOp .Not a pos) (qNotT qt) := PT.imp (pt_not ha) fun σ H Q ⟨F, T, ω, ρ, Qp, Ep, R, q, hx, k⟩ =>
  ⟨F, T, ω, ρ, _, Ep, R, q, hx, fun T' ω' b H' R' e q' => k T' ω' (!b) H' R' e q'⟩
def QW (X : Cx) (W : Wrl) (Wo : WX) (e : Expr) (q : QTT W) : Prop := PW X e (lfT X.K W Wo q)
theorem QW.toB (h : QW X W Wo e qt) : QB X W Wo e qt := PW.pt h
def qAndT (qt qu : QTT W) : QTT W := fun ω ρ Q E => qt ω ρ (fun ω1 b => if b = true then qu ω1 ρ Q E else Q ω1 false) E
def qOrT (qt qu : QTT W) : QTT W := fun ω ρ Q E => qt ω ρ (fun ω1 b => if b = true then Q ω1 true else qu ω1 ρ Q E) E
variable {qu : QTT W} {rest : List Expr}
theorem qw_and1 (ha : QB X W Wo a qt) : QW X W Wo (.BoolOp .And [a] pos) qt := pw_and1 ha
theorem qw_or1 (ha : QB X W Wo a qt) : QW X W Wo (.BoolOp .Or [a] pos) qt := pw_or1 ha
theorem qw_and (ha : QB X W Wo a qt) (hb : QW X W Wo (.BoolOp .And (b :: rest) pos) qu) : QW X W Wo (.BoolOp .And (a :: b :: rest) pos) (qAndT qt qu) := PW.imp (pw_and ha hb) fun σ H Q ⟨F, T, ω, ρ, Qp, Ep, R, q, hx, k⟩ =>
  ⟨F, T, ω, ρ, _, Ep, R, q, hx, fun T' ω' b H' R' e q' => by
    cases b with
    | true => exact ⟨F, T', ω', ρ, _, Ep, R', q', hx, fun T2 ω2 b2 H2 R2 e2 q2 => k T2 ω2 b2 H2 R2 (e.trans e2) q2⟩
    | false => exact k T' ω' false H' R' e q'⟩
theorem qw_or (ha : QB X W Wo a qt) (hb : QW X W Wo (.BoolOp .Or (b :: rest) pos) qu) : QW X W Wo (.BoolOp .Or (a :: b :: rest) pos) (qOrT qt qu) := PW.imp (pw_or ha hb) fun σ H Q ⟨F, T, ω, ρ, Qp, Ep, R, q, hx, k⟩ =>
  ⟨F, T, ω, ρ, _, Ep, R, q, hx, fun T' ω' b H' R' e q' => by
    cases b with
    | false => exact ⟨F, T', ω', ρ, _, Ep, R', q', hx, fun T2 ω2 b2 H2 R2 e2 q2 => k T2 ω2 b2 H2 R2 (e.trans e2) q2⟩
    | true => exact k T' ω' true H' R' e q'⟩
def qAndV (qa qb : QT W) : QT W := fun ω ρ Q E => qa ω ρ (fun ω1 d => ∃ b, d = .bl b ∧ if b = true then qb ω1 ρ Q E else Q ω1 (.bl false)) E
def qOrV (qa qb : QT W) : QT W := fun ω ρ Q E => qa ω ρ (fun ω1 d => ∃ b, d = .bl b ∧ if b = true then Q ω1 (.bl true) else qb ω1 ρ Q E) E
def qNotV (qa : QT W) : QT W := fun ω ρ Q E => qa ω ρ (fun ω1 d => ∃ b, d = .bl b ∧ Q ω1 (.bl (!b))) E
def qChain (f g : D → D → (D → Prop) → Prop) (qa qb qc : QT W) : QT W := fun ω ρ Q E => qa ω ρ (fun ω1 x => qb ω1 ρ (fun ω2 y => f x y fun z => ∃ b, z = .bl b ∧ if b = true then qc ω2 ρ (fun ω3 w => g y w (Q ω3)) E else Q ω2 (.bl false)) E) E
theorem lf_chain {K : PySem.W.Frag} {r r' : R2} {f g : D → D → (D → Prop) → Prop} (hp : OpP .A K r f) (hp' : OpP .A K r' g) (σ : L2.St) (H : Hp) (Q : VK) (h : lfE .A K W Wo (qChain f g qa qb qc) σ H Q) : tChain r r' (lfE m1 K W Wo qa) (lfE m2 K W Wo qb) (lfE m3 K W Wo qc) σ H Q := by
  obtain ⟨F, T, ω, ρ, Qp, Ep, R, q, hx, k⟩ := h
  refine ⟨F, T, ω, ρ, _, Ep, R, q, hx, fun T1 ω1 d v H1 R1 e1 r1 q1 => ?_⟩
  refine ⟨F, T1, ω1, ρ, _, Ep, R1, q1, hx, fun T2 ω2 e w H2 R2 e2 r2 q2 => ?_⟩
  refine hp _ _ H2 d e v w _ _ R2.spl (R1.ext_RC e2 r1.c) r2.c q2 fun x u H3 g3 rr ⟨b, z, qq⟩ => ?_
  subst z
  refine ⟨b, (RR.c (m := .A) rr).bl, ?_⟩
  have R3 := R2.grow g3
  have e3 := (e1.trans e2).trans (Ext.of0 (T := T2) g3)
  cases b with
  | false => exact k T2 ω2 _ _ H3 R3 e3 (.bl false) qq
  | true =>
    refine ⟨F, T2, ω2, ρ, _, Ep, R3, qq, hx, fun T4 ω4 e' w' H4 R4 e4 r4 q4 => ?_⟩
    refine hp' _ _ H4 _ e' _ w' _ _ R4.spl (R3.ext_RC e4 (R2.ext_RC (Ext.of0 g3) r2.c)) r4.c q4 fun x' u' H5 g5 rr' qq' => ?_
    exact k T4 ω4 x' u' H5 (R4.grow g5) ((e3.trans e4).trans (Ext.of0 g5)) rr' qq'
theorem qb_chain {op op' : CmpOp} {r r' : R2} {f g : D → D → (D → Prop) → Prop} (ho : OpR X (compareOp op) r) (ho' : OpR X (compareOp op') r') (hp : OpP .A X.K r f) (hp' : OpP .A X.K r' g) (ha : QE X m1 W Wo a qa) (hb : QE X m2 W Wo b qb) (hc : QE X m3 W Wo c qc) (hm : lastMarks [op, op'] [b, c] = false := by with_unfolding_all rfl) :
    QB X W Wo (.Compare a [op, op'] [b, c] pos) (qTe (qChain f g qa qb qc)) := PT.imp (pt_chain ho ho' ha hb hc hm) fun σ H Q ⟨F, T, ω, ρ, Qp, Ep, R, q, hx, k⟩ =>
  lf_chain hp hp' σ H _ ⟨F, T, ω, ρ, _, Ep, R, q, hx, fun T' ω' d v H' R' e r ⟨b, z, q'⟩ => by subst z; exact ⟨b, (RR.c r).bl, k T' ω' b H' R' e q'⟩⟩
def qIfE (qt : QTT W) (qa qb : QT W) : QT W := fun ω ρ Q E => qt ω ρ (fun ω1 b => if b = true then qa ω1 ρ Q E else qb ω1 ρ Q E) E
theorem qe_ifE (ht : QB X W Wo c qt) (ha : QE X m1 W Wo a qa) (hb : QE X m2 W Wo b qb) (l1 : m1.le m = true := by rfl) (l2 : m2.le m = true := by rfl) : QE X m W Wo (.IfExp c a b pos) (qIfE qt qa qb) := PE.imp (pe_ifExp ht ha hb) fun σ H Q ⟨F, T, ω, ρ, Qp, Ep, R, q, hx, k⟩ =>
  ⟨F, T, ω, ρ, _, Ep, R, q, hx, fun T' ω' b H' R' e q' => by
    cases b with
    | true => exact ⟨F, T', ω', ρ, _, Ep, R', q', hx, fun T2 ω2 b2 v2 H2 R2 e2 r2 q2 => k T2 ω2 b2 v2 H2 R2 (e.trans e2) ((r2.up l1).back e.gr.live) q2⟩
    | false => exact ⟨F, T', ω', ρ, _, Ep, R', q', hx, fun T2 ω2 b2 v2 H2 R2 e2 r2 q2 => k T2 ω2 b2 v2 H2 R2 (e.trans e2) ((r2.up l2).back e.gr.live) q2⟩⟩
def qNil : QTA W := fun ω _ Q _ => Q ω []
def qCons (qa : QT W) (qs : QTA W) : QTA W := fun ω ρ Q E => qa ω ρ (fun ω1 d => qs ω1 ρ (fun ω2 ds => Q ω2 (d :: ds)) E) E
theorem qa_nil : QA X m W Wo [] qNil := PA.imp pa_nil fun σ H Q ⟨F, T, ω, ρ, Qp, Ep, R, q, hx, k⟩ => k T ω [] [] H R .refl .nil q
theorem qa_cons (ha : QE X m1 W Wo e qa) (hr : QA X m W Wo es qs) (hm : m.sta = true := by rfl) (l : m1.le m = true := by rfl) (hs : starEach (e :: es) X.env = (false, eval e X.env) :: starEach es X.env := by rfl) : QA X m W Wo (e :: es) (qCons qa qs) := PA.imp (pa_cons ha hr hs) fun σ H Q ⟨F, T, ω, ρ, Qp, Ep, R, q, hx, k⟩ =>
  ⟨F, T, ω, ρ, _, Ep, R, q, hx, fun T1 ω1 d v H1 R1 e1 r1 q1 => ⟨F, T1, ω1, ρ, _, Ep, R1, q1, hx, fun T2 ω2 ds vs H2 R2 e2 r2 q2 =>
    k T2 ω2 (d :: ds) (v :: vs) H2 R2 (e1.trans e2) (.cons (R1.ext_RR e2 hm ((r1.up l).at (by intro z; subst z; cases hm))) r2) q2⟩⟩
def qStar (qa : QT W) (qs : QTA W) : QTA W := fun ω ρ Q E => qa ω ρ (fun ω1 d => ∃ ds, (d = .lst ds ∨ d = .tup ds) ∧ qs ω1 ρ (fun ω2 es => Q ω2 (ds ++ es)) E) E
theorem ROs.of {K : PySem.W.Frag} {H : Hp} {S : ASet} {os : List Addr} {m : Md} (h : ∀ d v, RepA K H S d v → RR m K H H S os d v) : ∀ {ds : List D} {vs : List V}, RepsA K H S ds vs → ROs m K H S os ds vs
  | _, _, .nil => .nil
  | _, _, .cons q r => .cons (h _ _ q) (ROs.of h r)
theorem ROs.append {K : PySem.W.Frag} {H : Hp} {S : ASet} {os : List Addr} {m : Md} {es : List D} {ws : List V} (h' : ROs m K H S os es ws) : ∀ {ds : List D} {vs : List V}, ROs m K H S os ds vs → ROs m K H S os (ds ++ es) (vs ++ ws)
  | _, _, .nil => h'
  | _, _, .cons h r => .cons h (ROs.append h' r)
theorem rr_a {K : PySem.W.Frag} {H : Hp} {S : ASet} {os : List Addr} : ∀ {m : Md}, m.sta = true → ∀ d v, RepA K H S d v → RR m K H H S os d v
  | .A, _, _, _, h => h
  | .O, _, _, _, h => .inl h
  | .C, _, _, _, h => .inl (.inl h)
theorem qa_star {p : Pos} (ha : QE X m1 W Wo e qa) (hr : QA X m W Wo es qs) (hm : m.sta = true := by rfl) (hs : starEach (.Starred e p :: es) X.env = (true, eval e X.env) :: starEach es X.env := by rfl) : QA X m W Wo (.Starred e p :: es) (qStar qa qs) := PA.imp (StX.pa_star ha hr hs) fun σ H Q ⟨F, T, ω, ρ, Qp, Ep, R, q, hx, k⟩ =>
  ⟨F, T, ω, ρ, _, Ep, R, q, hx, fun T1 ω1 d v H1 R1 e1 r1 ⟨ds, z, q1⟩ => by
    have fin : ∀ {a : Addr} {xs : List V}, RepsA X.K H1 (Spr F T1 ρ) ds xs → lfA m X.K W Wo qs σ H1 (fun vs H2 => Q (xs ++ vs) H2) := fun {a xs} hr => ⟨F, T1, ω1, ρ, _, Ep, R1, q1, hx, fun T2 ω2 es vs H2 R2 e2 r2 q2 =>
      k T2 ω2 _ _ H2 R2 (e1.trans e2) (ROs.append r2 (ROs.of (rr_a hm) (R1.ext_reps e2 hr))) q2⟩
    rcases z with rfl | rfl
    · obtain ⟨l, xs, rfl, hl, hr, _⟩ := r1.c.lst
      exact ⟨l, xs, rfl, .inr hl, fin (a := l) hr⟩
    · obtain ⟨l, xs, rfl, hl, hr⟩ := r1.c.tup
      exact ⟨l, xs, rfl, .inl hl, fin (a := l) hr⟩⟩
def fLst (ds : List D) (Q : D → Prop) : Prop := ds.length ≤ 1000000 ∧ Q (.lst ds)
def fTup (ds : List D) (Q : D → Prop) : Prop := ds.length ≤ 1000000 ∧ Q (.tup ds)
theorem lstP {K : PySem.W.Frag} : CaP .A .F K rNewL fLst := fun S os H ds vs Q Qp hS r ⟨hl, h⟩ k => by
  have r := r.reps
  exact ⟨by rw [r.len]; exact small6 hl, fun p hp => k _ _ _ (GrP.new hp) (rf_new hS hp r) h⟩
theorem qe_lst (h : QA X .A W Wo es qs) : QE X .F W Wo (.List es pos) (qCa fLst qs) := PE.imp (pe_lstN h) (lf_ca lstP)
def rNewX : List V → Hp → VK → Prop := fun xs H Q => xs.length ≤ sizeLine ∧ ∀ p o, H p = none → o.dict = none → Q (.ref p) (upd H p (.frz o (.tup xs)))
theorem pe_tupX {X : Cx} {es : List Expr} {t : TA} {pos : Pos} {k : Nat} (h : PA X es t) : PE X (.Tuple es k pos) (tCB rNewX t) := by
  refine ⟨fun pins s σ H Q I hq => ?_⟩
  refine wpAny_Tuple_spliced (thn (h.run pos pins s σ H _ I hq) fun us s1 ⟨xs, H1, I1, r, z, q⟩ => ⟨by rw [← r.length]; exact z, ?_⟩)
  have hf : H1 s1.heap.objs.size = none := I1.hok.fresh (Nat.le_refl _)
  have hg : (s1.heap.push { cls := .type "tuple", data := .seq us.toArray }).get? s1.heap.objs.size = some { cls := .type "tuple", data := .seq us.toArray } := Heap.get?_push_size _ rfl
  refine ⟨.ref s1.heap.objs.size, upd H1 s1.heap.objs.size (.frz { cls := .type "tuple", data := .seq us.toArray } (.tup xs)), I1.laid (t' := s1.toks) (fun b u e => Heap.get?_push_of_some _ e) (Nat.le_refl _) ?_, rfl, q _ _ hf rfl⟩
  exact ⟨hg, z, us, r, ⟨_, hg, rfl, _, rfl⟩⟩
theorem tupP {K : PySem.W.Frag} : CaP .A .A K rNewX fTup := fun S os H ds vs Q Qp hS r ⟨hl, h⟩ k => by
  have r := r.reps
  exact ⟨by rw [r.len]; exact small6 hl, fun p o hp ho => k _ _ _ (GrP.new hp) (.tup ⟨o, upd_same, ho⟩ (r.ext (GrP.new hp) (fun _ z => z.elim) fun a z => .inl z)) h⟩
theorem qe_tup {n : Nat} (h : QA X .A W Wo es qs) : QE X .A W Wo (.Tuple es n pos) (qCa fTup qs) := PE.imp (pe_tupX h) (lf_ca tupP)
end
end LW
namespace LW
open PySem PySem.Spec PyProof.Rows L2
section
variable {X : Cx} {W : Wrl} {Wo : WX} {m m1 m2 m3 : Md} {e a b c : Expr} {es : List Expr} {i : Nat} {pos : Pos} {q qa qb qc : QT W} {qs : QTA W} {qt : QTT W}
theorem qe_cB {ma : Md} {r : List V → Hp → VK → Prop} {f : List D → (D → Prop) → Prop} {x : Str} {id : String} {p : Pos} (hc : CallR X (.builtin id) r) (hp : CaP ma m X.K r f) (hg : Gl X x) (hm : X.mg x = none) (hv : bootBuiltins x = some (.builtin id)) (ha : QA X ma W Wo (e :: es) qs)
    (hn : x ≠ "__name__" := by decide) (hdb : (x == ("__debug__" : Str)) = false := by decide) (h1 : starEach (e :: es) X.env = (false, eval e X.env) :: starEach es X.env := by rfl) (h2 : (backTo pos (starEach es X.env)).any (·.1) = false := by rfl) :
    QE X m W Wo (.Call (.Name x p) (e :: es) [] pos) (qCa f qs) := PE.imp (pe_callB hc hg hm hv ha hn hdb h1 h2) (lf_ca hp)
theorem qe_cT {ma : Md} {r : List V → Hp → VK → Prop} {f : List D → (D → Prop) → Prop} {x : Str} {T : String} {p : Pos} (hc : CallR X (.type T) r) (hp : CaP ma m X.K r f) (hg : Gl X x) (hm : X.mg x = none) (hv : bootBuiltins x = some (.type T)) (ha : QA X ma W Wo (e :: es) qs)
    (hn : x ≠ "__name__" := by decide) (hdb : (x == ("__debug__" : Str)) = false := by decide) (h1 : starEach (e :: es) X.env = (false, eval e X.env) :: starEach es X.env := by rfl) (h2 : (backTo pos (starEach es X.env)).any (·.1) = false := by rfl) :
    QE X m W Wo (.Call (.Name x p) (e :: es) [] pos) (qCa f qs) := PE.imp (pe_callTy hc hg hm hv ha hn hdb h1 h2) (lf_ca hp)
def fLen : List D → (D → Prop) → Prop
  | [.lst ds], Q => Q (.int ds.length)
  | [.tup ds], Q => Q (.int ds.length)
  | _, _ => False
theorem lenP {K : PySem.W.Frag} : CaP .C .A K (rLenA K) fLen := fun S os H ds vs Q Qp hS r h k => by
  unfold fLen at h
  split at h
  · obtain ⟨v, rfl, rv⟩ := r.one
    obtain ⟨l, xs, rfl, hl, hr, _⟩ := rv.c.lst
    rw [← hr.len] at h
    exact ⟨l, xs, rfl, .inl hl, k _ _ H (GrP.refl _ _) (.int _) h⟩
  · obtain ⟨v, rfl, rv⟩ := r.one
    obtain ⟨l, xs, rfl, hl, hr⟩ := rv.c.tup
    rw [← hr.len] at h
    exact ⟨l, xs, rfl, .inr hl, k _ _ H (GrP.refl _ _) (.int _) h⟩
  · exact h.elim
def fList : List D → (D → Prop) → Prop
  | [.lst ds], Q => Q (.lst ds)
  | [.tup ds], Q => Q (.lst ds)
  | _, _ => False
theorem listP {K : PySem.W.Frag} : CaP .C .F K (rListOf K) fList := fun S os H ds vs Q Qp hS r h k => by
  unfold fList at h
  split at h
  · obtain ⟨v, rfl, rv⟩ := r.one
    obtain ⟨l, xs, rfl, hl, hr, _⟩ := rv.c.lst
    exact ⟨l, xs, rfl, .inl hl, fun p hp => k _ _ _ (GrP.new hp) (rf_new hS hp hr) h⟩
  · obtain ⟨v, rfl, rv⟩ := r.one
    obtain ⟨l, xs, rfl, hl, hr⟩ := rv.c.tup
    exact ⟨l, xs, rfl, .inr hl, fun p hp => k _ _ _ (GrP.new hp) (rf_new hS hp hr) h⟩
  · exact h.elim
def fTuple : List D → (D → Prop) → Prop
  | [.lst ds], Q => Q (.tup ds)
  | [.tup ds], Q => Q (.tup ds)
  | _, _ => False
theorem ra_tup {K : PySem.W.Frag} {H : Hp} {S : ASet} {p : Addr} {o : Obj} {xs : List V} {ds : List D} (hp : H p = none) (ho : o.dict = none) (r : RepsA K H S ds xs) : RepA K (upd H p (.frz o (.tup xs))) S (.tup ds) (.ref p) :=
  .tup ⟨o, upd_same, ho⟩ (r.ext (GrP.new hp) (fun _ z => z.elim) fun a z => .inl z)
theorem tupleP {K : PySem.W.Frag} : CaP .O .A K (rTupleOf K) fTuple := fun S os H ds vs Q Qp hS r h k => by
  unfold fTuple at h
  split at h
  · obtain ⟨v, rfl, rv⟩ := r.one
    obtain ⟨l, xs, rfl, hl, hr, _⟩ := RO.lst rv
    exact ⟨l, xs, rfl, .inl ⟨hl, fun p o hp ho => k _ _ _ (GrP.new hp) (ra_tup hp ho hr) h⟩⟩
  · obtain ⟨v, rfl, rv⟩ := r.one
    obtain ⟨l, xs, rfl, hl, hr⟩ := RO.tup rv
    exact ⟨l, xs, rfl, .inr ⟨hl.sqt, k _ _ H (GrP.refl _ _) (.tup hl hr) h⟩⟩
  · exact h.elim
def fAbs : List D → (D → Prop) → Prop
  | [.int i], Q => Q (.int (if i < 0 then -i else i))
  | _, _ => False
def fInt : List D → (D → Prop) → Prop
  | [.int i], Q => Q (.int i)
  | [.bl b], Q => Q (.int (if b then 1 else 0))
  | _, _ => False
theorem intP {K : PySem.W.Frag} : CaP .C .A K rInt1 fInt := fun S os H ds vs Q Qp hS r h k => by
  unfold fInt at h
  split at h
  · obtain ⟨v, rfl, rv⟩ := r.one
    rw [rv.c.int]
    exact .inl ⟨_, rfl, k _ _ H (GrP.refl _ _) (.int _) h⟩
  · obtain ⟨v, rfl, rv⟩ := r.one
    rw [rv.c.bl]
    exact .inr ⟨_, rfl, k _ _ H (GrP.refl _ _) (.int _) h⟩
  · exact h.elim
def rgI (a b : Int) : List Int := (List.range (b - a).toNat).map fun (i : Nat) => a + (i : Int)
theorem rgV_rgI (a b : Int) : rgV a b = (rgI a b).map V.int := by
  unfold rgV rgI
  rw [List.map_map] <;> rfl
theorem rgI_rg (n : Nat) : rgI 0 n = rg n := by
  unfold rgI rg
  rw [show ((n : Int) - 0).toNat = n by omega]
  exact List.map_congr_left fun i _ => Int.zero_add _
def qRg1 (qa : QT W) : W.Ω → List Sl → (W.Ω → Int → Int → Prop) → (W.Ω → Exn → Prop) → Prop := fun ω ρ k E => qa ω ρ (fun ω1 x => ∃ n, x = .int n ∧ k ω1 0 n) E
def qRg2 (qa qb : QT W) : W.Ω → List Sl → (W.Ω → Int → Int → Prop) → (W.Ω → Exn → Prop) → Prop := fun ω ρ k E => qa ω ρ (fun ω1 x => qb ω1 ρ (fun ω2 y => ∃ n k', x = .int n ∧ y = .int k' ∧ k ω2 n k') E) E
abbrev QTR (W : Wrl) := W.Ω → List Sl → (W.Ω → Int → Int → Prop) → (W.Ω → Exn → Prop) → Prop
def qListRg (qr : QTR W) : QT W := fun ω ρ Q E => qr ω ρ (fun ω1 i j => RgOk i j ∧ Q ω1 (.lst (dInts (rgI i j)))) E
def qTupRg (qr : QTR W) : QT W := fun ω ρ Q E => qr ω ρ (fun ω1 i j => RgOk i j ∧ Q ω1 (.tup (dInts (rgI i j)))) E
def lfR (K : PySem.W.Frag) (W : Wrl) (Wo : WX) (q : QTR W) : L2.St → Hp → (Int → Int → Hp → Prop) → Prop := fun σ H Q => ∃ (F : Frm) (T : ASet) (ω : W.Ω) (ρ : List Sl) (Qp : W.Ω → Int → Int → Prop) (Ep : W.Ω → Exn → Prop), Rel K W F T ω ρ σ H ∧ q ω ρ Qp Ep ∧ XOk K W Wo F ρ σ Ep ∧
  ∀ T' ω' i j H', Rel K W F T' ω' ρ σ H' → Ext T H T' H' → Qp ω' i j → Q i j H'
def QR (X : Cx) (W : Wrl) (Wo : WX) (e : Expr) (q : QTR W) : Prop := PRg X e (lfR X.K W Wo q)
theorem PRg.imp {X : Cx} {e : Expr} {t t' : L2.St → Hp → (Int → Int → Hp → Prop) → Prop} (h : PRg X e t) (k : ∀ σ H Q, t' σ H Q → t σ H Q) : PRg X e t' := fun pins s σ H Q I q => h pins s σ H Q I (k σ H Q q)
theorem qe_listRg {p : Pos} {qr : QTR W} (hc : X.calm = true) (hg : Gl X "list") (hm : X.mg "list" = none) (he : QR X W Wo e qr) (na : starEach [e] X.env = (false, eval e X.env) :: starEach [] X.env := by rfl) :
    QE X .F W Wo (.Call (.Name "list" p) [e] [] pos) (qListRg qr) := PE.imp (pe_listRg hc hg hm he na) fun σ H Q ⟨F, T, ω, ρ, Qp, Ep, R, q, hx, k⟩ =>
  ⟨F, T, ω, ρ, _, Ep, R, q, hx, fun T1 ω1 i j H1 R1 e1 ⟨ok, q1⟩ => ⟨ok, fun p hp => k T1 ω1 _ _ _ (R1.grow (GrP.new hp)) (e1.trans (Ext.of0 (GrP.new hp))) (RR.back (m := .F) e1.gr.live (rf_new R1.spl hp (show RepsA X.K H1 _ (dInts (rgI i j)) (rgV i j) from by rw [rgV_rgI]; exact repsA_ints _))) q1⟩⟩
theorem qr_2 {p : Pos} (hg : Gl X "range") (hm : X.mg "range" = none) (ha : QE X m1 W Wo a qa) (hb : QE X m2 W Wo b qb) (na : starEach [a, b] X.env = (false, eval a X.env) :: starEach [b] X.env := by rfl)
    (nb : starEach [b] X.env = (false, eval b X.env) :: starEach [] X.env := by rfl) (hp : (backTo pos (starEach [b] X.env)).any (·.1) = false := by rfl) : QR X W Wo (.Call (.Name "range" p) [a, b] [] pos) (qRg2 qa qb) := PRg.imp (prg_2 hg hm ha hb na nb hp) fun σ H Q ⟨F, T, ω, ρ, Qp, Ep, R, q, hx, k⟩ =>
  ⟨F, T, ω, ρ, _, Ep, R, q, hx, fun T1 ω1 d v H1 R1 e1 r1 q1 => ⟨F, T1, ω1, ρ, _, Ep, R1, q1, hx, fun T2 ω2 d2 v2 H2 R2 e2 r2 ⟨n, n2, z, z2, q2⟩ => by subst z z2; exact ⟨n, n2, r1.c.int, r2.c.int, k T2 ω2 n n2 H2 R2 (e1.trans e2) q2⟩⟩⟩
end
abbrev PSp (W : Wrl) := W.Ω → List D → (W.Ω → D → Prop) → (W.Ω → Exn → Prop) → Prop
def spM (mr : Md) (K : PySem.W.Frag) (W : Wrl) (pf : PSp W) : Sp := fun vs H Q E => ∃ (S T : ASet) (ω : W.Ω) (ds : List D) (Qp : W.Ω → D → Prop) (Ep : W.Ω → Exn → Prop), (∀ a, S a → H a ≠ none ∧ ¬ T a) ∧ W.inv ω T H ∧ RepsA K H (fun a => S a ∨ T a) ds vs ∧ pf ω ds Qp Ep ∧
  (∀ T' ω' d v H', Ext T H T' H' → W.inv ω' T' H' → RT mr K ⟨H, S, T, []⟩ T' H' d v → Qp ω' d → Q v H') ∧ ∀ T' ω' x cls dd H', Ext T H T' H' → W.inv ω' T' H' → XRep K H' x cls dd → Ep ω' x → E cls dd H'
def inW (W : Wrl) (pf : PSp W0) : PSp W := fun ω ds Q E => pf () ds (fun _ d => Q ω d) fun _ x => E ω x
def pureP {W : Wrl} (pf : PSp W) : PSp W := fun ω ds Q E => pf ω ds (fun ω' d => d.pure = true ∧ Q ω' d) E
section
variable {K : PySem.W.Frag} {W : Wrl} {Wo : WX} {mr m : Md} {pf : PSp W} {qs : QTA W}
theorem spM_inW {pf : PSp W0} {vs : List V} {H : Hp} {Q : VK} {E : XK} (h : spM mr K W (inW W pf) vs H Q E) : spM mr K W0 pf vs H Q E := by
  obtain ⟨S, T, ω, ds, Qp, Ep, hS, hi, r, q, k, kx⟩ := h
  refine ⟨fun a => S a ∨ T a, nop, (), ds, _, _, fun a z => ⟨fun e => ?_, fun z => z⟩, fun a z => z, r.less fun a z => z.elim id fun z => z.elim, q, fun T' ω' d v H' e i' rt q' => ?_, fun T' ω' x cls dd H' e i' xr q' => ?_⟩
  · rcases z with z | z
    · exact (hS a z).1 e
    · obtain ⟨o, h, _⟩ := W.lv hi z
      rw [h] at e; cases e
  · have e' : Ext T H T H' := Ext.of0 e.gr
    refine k T ω d v H' e' (W.st hi e.gr fun _ z => z.elim) ?_ q'
    cases mr with
    | F =>
      obtain ⟨l, xs, es, h1, h2, h3, h4, h5, h6⟩ := rt
      exact ⟨l, xs, es, h1, h2, h3, fun z => h4 (.inl z), h5, h6.less fun a z => z.imp (fun z => .inl z) id⟩
    | A => exact RepA.less (show RepA K H' _ d v from rt) fun a z => .inl z
    | O => exact RepA.less (show RepA K H' _ d v from rt) fun a z => .inl z
    | C => exact RepA.less (show RepA K H' _ d v from rt) fun a z => .inl z
  · exact kx T ω x cls dd H' (Ext.of0 e.gr) (W.st hi e.gr fun _ z => z.elim) xr q'
theorem FnOk.inW {P : Program} {w : World} {mg : Str → Option Value} {base : Heap} {CX : CXT} {k : Nat} {f : Addr} {fd : FuncData} {ps : List Str} {pf : PSp W0} (F : FnOk P w K mg base CX k f fd ps (spM mr K W0 pf)) (W : Wrl) : FnOk P w K mg base CX k f fd ps (spM mr K W (inW W pf)) := F.imp fun _ _ _ _ => spM_inW
theorem FnR.inW {P : Program} {w : World} {mg : Str → Option Value} {base : Heap} {CX : CXT} {k : Nat} {f : Addr} {pf : PSp W0} (F : FnR P w K mg base CX k f (spM mr K W0 pf)) (W : Wrl) : FnR P w K mg base CX k f (spM mr K W (inW W pf)) := F.imp fun _ _ _ _ => spM_inW
def qCall (pf : PSp W) (qs : QTA W) : QT W := fun ω ρ Q E => qs ω ρ (fun ω1 ds => pf ω1 ds Q E) E
theorem rt_rr {F : Frm} {T T' : ASet} {ρ : List Sl} {H H1 H' : Hp} {d : D} {v : V} (live : ∀ a, H1 a = none → H a = none) (h : RT mr K ⟨H1, fun a => F.S a ∨ a ∈ owns ρ, T, []⟩ T' H' d v) : RR mr K H H' (Spr F T' ρ) (owns ρ) d v := by
  have hs : ∀ a, Spr F T' ρ a → (F.S a ∨ a ∈ owns ρ) ∨ T' a := fun a z => by
    rcases z with z | z | z
    · exact .inl (.inl z)
    · exact .inr z
    · exact .inl (.inr z)
  cases mr with
  | F =>
    obtain ⟨l, xs, es, h1, h2, h3, h4, h5, h6⟩ := h
    exact ⟨l, xs, es, h1, h2, live l h3, fun z => h4 (hs l z), h5, h6.less fun a z => z.imp (hs a) id⟩
  | A => exact RepA.less (show RepA K H' _ d v from h) hs
  | O => exact .inl (RepA.less (show RepA K H' _ d v from h) hs)
  | C => exact .inl (.inl (RepA.less (show RepA K H' _ d v from h) hs))
theorem sp_at {F : Frm} {T T1 : ASet} {ω1 : W.Ω} {ρ : List Sl} {σ : L2.St} {H H1 : Hp} {ds : List D} {vs : List V} {Qp : W.Ω → D → Prop} {Ep : W.Ω → Exn → Prop} {Q : VK} (R1 : Rel K W F T1 ω1 ρ σ H1) (e1 : Ext T H T1 H1) (hx : XOk K W Wo F ρ σ Ep) (r : RepsA K H1 (Spr F T1 ρ) ds vs) (q : pf ω1 ds Qp Ep)
    (k : ∀ T' ω' d v H', Rel K W F T' ω' ρ σ H' → Ext T H T' H' → RR mr K H H' (Spr F T' ρ) (owns ρ) d v → Qp ω' d → Q v H') : spM mr K W pf vs H1 Q (WE Wo σ) := by
  refine ⟨fun a => F.S a ∨ a ∈ owns ρ, T1, ω1, ds, Qp, Ep, fun a z => ⟨R1.spl a (z.imp id fun z => .inr z), z.elim (fun z => (R1.s0 a z).2) fun z => (R1.own a z).2.1⟩, R1.inv, r.less fun a z => ?_, q, fun T' ω' d v H' e i' rt q' => ?_, fun T' ω' x cls dd H' e i' xr q' => ?_⟩
  · rcases z with (z | z) | z
    · exact .inl z
    · exact .inr (.inr z)
    · exact .inr (.inl z)
  · exact k T' ω' d v H' (R1.world e i') (e1.trans e) (rt_rr e1.gr.live rt) q'
  · exact hx T' ω' x cls dd H' (R1.world e i') xr q'
theorem sp_atO {F : Frm} {T T1 : ASet} {ω1 : W.Ω} {ρ : List Sl} {σ : L2.St} {H H1 : Hp} {ds : List D} {vs : List V} {Qp : W.Ω → D → Prop} {Ep : W.Ω → Exn → Prop} {Q : VK} (R1 : Rel K W F T1 ω1 ρ σ H1) (e1 : Ext T H T1 H1) (hx : XOk K W Wo F ρ σ Ep) (r : ROs .O K H1 (Spr F T1 ρ) (owns ρ) ds vs) (q : pf ω1 ds (fun ω' d => d.pure = true ∧ Qp ω' d) Ep)
    (k : ∀ T' ω' d v H', Rel K W F T' ω' ρ σ H' → Ext T H T' H' → RepA K H' (Spr F T' ρ) d v → Qp ω' d → Q v H') : spM .A K W pf vs H1 Q (WE Wo σ) := by
  refine ⟨F.S, T1, ω1, ds, _, Ep, R1.s0, R1.inv, r.off (fun a z => z.imp id fun z => .inl z) (fun l h z => ?_), q, fun T' ω' d v H' e i' rt ⟨hp, q'⟩ => ?_, fun T' ω' x cls dd H' e i' xr q' => ?_⟩
  · rcases z with z | z
    · exact (R1.own l h).2.2 z
    · exact (R1.own l h).2.1 z
  · exact k T' ω' d v H' (R1.world e i') (e1.trans e) (RepA.any (show RepA K H' _ d v from rt) hp) q'
  · exact hx T' ω' x cls dd H' (R1.world e i') xr q'
end
section
variable {X : Cx} {W : Wrl} {Wo : WX} {mr m m1 m2 : Md} {pf : PSp W} {qs : QTA W} {qo : QT W} {k : Nat} {f C : Addr} {fd : FuncData} {ps : List Str} {x mn : Str} {p pos apos : Pos} {e o a b fe : Expr} {es : List Expr} {qa qb : QT W}
theorem qe_call (F : FnOk X.prog X.w X.K X.mg X.base (L2N.CX X.prog X.w) k f fd ps (spM mr X.K W pf)) (hr : Room k X.A) (hg : Gl X x) (hm : X.mg x = some (.ref f)) (hk : PySem.W.keepIn X.K (.ref f) = true) (hb : Binds X.K fd ps []) (hx : ∀ σ, PassesAt (L2N.CX X.prog X.w) X σ (WE Wo σ))
    (ha : QA X .A W Wo (e :: es) qs) (hdb : (x == ("__debug__" : Str)) = false := by decide) (he : starEach (e :: es) X.env = (false, eval e X.env) :: starEach es X.env := by rfl) (hpl : (backTo pos (starEach es X.env)).any (·.1) = false := by rfl) :
    QE X mr W Wo (.Call (.Name x p) (e :: es) [] pos) (qCall pf qs) := PE.imp (pe_callS F hr hg hm hk hb hx ha hdb he hpl) fun σ H Q ⟨F, T, ω, ρ, Qp, Ep, R, q, hx, k⟩ =>
  ⟨F, T, ω, ρ, _, Ep, R, q, hx, fun T1 ω1 ds vs H1 R1 e1 r1 q1 => sp_at R1 e1 hx r1.reps q1 k⟩
theorem qe_callO (F : FnOk X.prog X.w X.K X.mg X.base (L2N.CX X.prog X.w) k f fd ps (spM .A X.K W pf)) (hr : Room k X.A) (hg : Gl X x) (hm : X.mg x = some (.ref f)) (hk : PySem.W.keepIn X.K (.ref f) = true) (hb : Binds X.K fd ps []) (hx : ∀ σ, PassesAt (L2N.CX X.prog X.w) X σ (WE Wo σ))
    (ha : QA X .O W Wo (e :: es) qs) (hdb : (x == ("__debug__" : Str)) = false := by decide) (he : starEach (e :: es) X.env = (false, eval e X.env) :: starEach es X.env := by rfl) (hpl : (backTo pos (starEach es X.env)).any (·.1) = false := by rfl) :
    QE X .A W Wo (.Call (.Name x p) (e :: es) [] pos) (qCall (pureP pf) qs) := PE.imp (pe_callS F hr hg hm hk hb hx ha hdb he hpl) fun σ H Q ⟨F, T, ω, ρ, Qp, Ep, R, q, hx, k⟩ =>
  ⟨F, T, ω, ρ, _, Ep, R, q, hx, fun T1 ω1 ds vs H1 R1 e1 r1 q1 => sp_atO R1 e1 hx r1 q1 k⟩
def qMeth (C : Addr) (mn : Str) (pf : PSp W) (qo : QT W) (qs : QTA W) : QT W := fun ω ρ Q E => qo ω ρ (fun ω1 d => ∃ ns ds, d = .ins C ns ds ∧ mn ∉ ns ∧ qs ω1 ρ (fun ω2 es => pf ω2 (d :: es) Q E) E) E
theorem lookup_zip {ns : List Str} {xs : List V} (h : mn ∉ ns) : (ns.zip xs).lookup mn = none := by
  induction ns generalizing xs with
  | nil => cases xs <;> rfl
  | cons n ns ih =>
    cases xs with
    | nil => rfl
    | cons x xs =>
      have h1 : mn ≠ n := fun z => h (z ▸ List.mem_cons_self)
      rw [List.zip_cons_cons, List.lookup_cons, show (mn == n) = false from beq_eq_false_iff_ne.mpr h1]
      exact ih fun z => h (List.mem_cons_of_mem _ z)
theorem RC.insR {K : PySem.W.Frag} {H : Hp} {S : ASet} {os : List Addr} {ns : List Str} {ds : List D} {v : V} (h : RC K H S os (.ins C ns ds) v) : ∃ a dx xs, v = .ref a ∧ H a = some (.ins C dx (ns.zip xs)) ∧ RepA K H S (.ins C ns ds) (.ref a) := by
  rcases h with (h | ⟨l, xs, ds', rfl, e, m, h, r⟩) | ⟨a, xs, ds', rfl, e, h, r⟩
  · have h' := h
    cases h with
    | ins h i l r => exact ⟨_, _, _, rfl, h, h'⟩
  · cases e
  · cases e
theorem qe_meth (he : QE X m W Wo o qo) (c : Cls X.K C) (hm : Meth X.K C mn f) (F : FnR X.prog X.w X.K X.mg X.base (L2N.CX X.prog X.w) k f (spM mr X.K W pf)) (hr : Room k X.A) (hx : ∀ σ, PassesAt (L2N.CX X.prog X.w) X σ (WE Wo σ)) (ha : QA X .A W Wo (e :: es) qs)
    (hst : starEach (e :: es) X.env = (false, eval e X.env) :: starEach es X.env := by rfl) (hpl : (backTo pos (starEach es X.env)).any (·.1) = false := by rfl)
    {pl : Sem Bool} (ht : eval (.Call (.Attribute o mn apos) (e :: es) [] pos) X.env = (do
      let ov ← eval o X.env
      standAt apos.atName
      let (f, first) ← holding [ov] (getMethod ov mn pl)
      callWith pos f first (backTo pos (starEach (e :: es) X.env)) (backToKw pos (keywordEach [] X.env))) := by rfl) :
    QE X mr W Wo (.Call (.Attribute o mn apos) (e :: es) [] pos) (qMeth C mn pf qo qs) := PE.imp (pe_methS he c hm F hr hx ha hst hpl ht) fun σ H Q ⟨F, T, ω, ρ, Qp, Ep, R, q, hx, k⟩ =>
  ⟨F, T, ω, ρ, _, Ep, R, q, hx, fun T1 ω1 d v H1 R1 e1 r1 ⟨ns, ds, z, hn, q1⟩ => by
    subst z
    obtain ⟨a, dx, xs, rfl, h1, ra⟩ := r1.c.insR
    exact ⟨a, dx, _, rfl, h1, lookup_zip hn, F, T1, ω1, ρ, _, Ep, R1, q1, hx, fun T2 ω2 es vs H2 R2 e2 r2 q2 => sp_at R2 (e1.trans e2) hx (.cons (R1.ext_rep e2 ra) r2.reps) q2 k⟩⟩
def qObj (C : Addr) (pf : PSp W) (qo : QT W) (qs : QTA W) : QT W := fun ω ρ Q E => qo ω ρ (fun ω1 d => ∃ ns ds, d = .ins C ns ds ∧ qs ω1 ρ (fun ω2 es => pf ω2 (d :: es) Q E) E) E
def qBin (C : Addr) (pf : PSp W) (qa qb : QT W) : QT W := fun ω ρ Q E => qa ω ρ (fun ω1 x => qb ω1 ρ (fun ω2 y => ∃ ns ds ns' ds', x = .ins C ns ds ∧ y = .ins C ns' ds' ∧ pf ω2 [x, y] Q E) E) E
theorem qe_bin {op : Operator} (c : OpO X.K C (PySem.dunder op.info.2) f) (F : FnR X.prog X.w X.K X.mg X.base (L2N.CX X.prog X.w) k f (spM mr X.K W pf)) (hr : Room k X.A) (hx : ∀ σ, PassesAt (L2N.CX X.prog X.w) X σ (WE Wo σ)) (ha : QE X m1 W Wo a qa) (hb : QE X m2 W Wo b qb) : QE X mr W Wo (.BinOp a op b pos) (qBin C pf qa qb) := PE.imp (pe_binS c F hr hx ha hb) fun σ H Q ⟨F, T, ω, ρ, Qp, Ep, R, q, hx, k⟩ =>
  ⟨F, T, ω, ρ, _, Ep, R, q, hx, fun T1 ω1 d v H1 R1 e1 r1 q1 => ⟨F, T1, ω1, ρ, _, Ep, R1, q1, hx, fun T2 ω2 d2 v2 H2 R2 e2 r2 ⟨ns, ds, ns', ds', z, z', q2⟩ => by
    subst z z'
    obtain ⟨a, dx, xs, rfl, h1, ra⟩ := (R1.ext_RC e2 r1.c).insR
    obtain ⟨a', dx', xs', rfl, h1', ra'⟩ := r2.c.insR
    exact ⟨a, dx, _, a', dx', _, rfl, rfl, h1, h1', sp_at R2 (e1.trans e2) hx (.cons ra (.cons ra' .nil)) q2 k⟩⟩⟩
def qBinI (C : Addr) (pf : PSp W) (qa qb : QT W) : QT W := fun ω ρ Q E => qa ω ρ (fun ω1 x => qb ω1 ρ (fun ω2 y => ∃ ns ds i, x = .ins C ns ds ∧ y = .int i ∧ pf ω2 [x, y] Q E) E) E
def qInv (C : Addr) (pf : PSp W) (qa : QT W) : QT W := fun ω ρ Q E => qa ω ρ (fun ω1 x => ∃ ns ds, x = .ins C ns ds ∧ pf ω1 [x] Q E) E
theorem qe_inv (c : CmO X.K C "__invert__" f) (F : FnR X.prog X.w X.K X.mg X.base (L2N.CX X.prog X.w) k f (spM mr X.K W pf)) (hr : Room k X.A) (hx : ∀ σ, PassesAt (L2N.CX X.prog X.w) X σ (WE Wo σ)) (ha : QE X m1 W Wo a qa) : QE X mr W Wo (.UnaryOp .Invert a pos) (qInv C pf qa) := PE.imp (pe_invS c F hr hx ha) fun σ H Q ⟨F, T, ω, ρ, Qp, Ep, R, q, hx, k⟩ =>
  ⟨F, T, ω, ρ, _, Ep, R, q, hx, fun T1 ω1 d v H1 R1 e1 r1 ⟨ns, ds, z, q1⟩ => by
    subst z
    obtain ⟨a, dx, xs, rfl, h1, ra⟩ := r1.c.insR
    exact ⟨a, dx, _, rfl, h1, sp_at R1 e1 hx (.cons ra .nil) q1 k⟩⟩
structure MkP (K : PySem.W.Frag) (C : Addr) (sp : Sp) (pf : PSp W0) : Prop where
  run : ∀ (S T : ASet) (ds : List D) (vs : List V) (H : Hp) (Q : VK) (E : XK) (Qp : Unit → D → Prop) (Ep : Unit → Exn → Prop), (∀ a, S a → H a ≠ none) → RepsA K H S ds vs → pf () ds Qp Ep → (∀ d v H', GrP nop H H' → RepA K H' S d v → Qp () d → Q v H') →
    (∀ x cls dd H', GrP nop H H' → XRep K H' x cls dd → Ep () x → E cls dd H') → ∀ x dx, H x = none → H dx = none → dx ≠ x → sp (V.ref x :: vs) (mkHp H x dx C) (fun v H2 => v = .non ∧ Q (.ref x) H2) E
def qMake (C : Addr) (pf : PSp W0) (qf : QT W) (qs : QTA W) : QT W := fun ω ρ Q E => qf ω ρ (fun ω0 d => d = .adr C ∧ qs ω0 ρ (fun ω1 ds => inW W pf ω1 ds Q E) E) E
theorem RC.adr {K : PySem.W.Frag} {H : Hp} {S : ASet} {os : List Addr} {a : Addr} {v : V} (h : RC K H S os (.adr a) v) : v = .ref a := by
  rcases h with (h | ⟨l, xs, ds', rfl, e, m, h, r⟩) | ⟨a, xs, ds', rfl, e, h, r⟩
  · cases h; rfl
  · cases e
  · cases e
theorem qe_adr {v : Addr} (h : PE X e (tC (.ref v))) : QE X .A W Wo e (qC (.adr v)) := qe_c h fun _ _ => .adr v
theorem qe_make {sp : Sp} {pf : PSp W0} {qf : QT W} (hf : QE X m W Wo fe qf) (M : Mk X.K C f) (F : FnR X.prog X.w X.K X.mg X.base (L2N.CX X.prog X.w) k f sp) (mk : MkP X.K C sp pf) (hr : Room (k + 1) X.A) (hx : ∀ σ, PassesAt (L2N.CX X.prog X.w) X σ (WE Wo σ)) (ha : QA X .O W Wo (e :: es) qs)
    (ht : eval (.Call fe (e :: es) [] pos) X.env = (do callWith pos (← eval fe X.env) [] (backTo pos (starEach (e :: es) X.env)) (backToKw pos (keywordEach [] X.env))) := by rfl)
    (he : starEach (e :: es) X.env = (false, eval e X.env) :: starEach es X.env := by rfl) (hpl : (backTo pos (starEach es X.env)).any (·.1) = false := by rfl) : QE X .A W Wo (.Call fe (e :: es) [] pos) (qMake C (pureP pf) qf qs) := PE.imp (pe_makeS hf M F hr hx ha ht he hpl) fun σ H Q ⟨F, T, ω, ρ, Qp, Ep, R, q, hx, k⟩ =>
  ⟨F, T, ω, ρ, _, Ep, R, q, hx, fun T0 ω0 d v H0 R0 e0 r0 ⟨z, q0⟩ => by
    subst z
    refine ⟨r0.c.adr, F, T0, ω0, ρ, _, Ep, R0, q0, hx, fun T1 ω1 ds vs H1 R1 e1 r1 q1 x dx nx ndx ne => ?_⟩
    refine mk.run F.S nop ds vs H1 Q _ _ _ (fun a z => R1.spl a (.inl z)) (r1.off (fun a z => .inl z) fun l h z => (R1.own l h).2.2 z) q1 (fun d v H' g r ⟨hp, q⟩ => ?_) (fun y cls dd H' g r q => ?_) x dx nx ndx ne
    · exact k T1 ω1 d v H' (R1.grow g) ((e0.trans e1).trans (Ext.of0 g)) (RepA.any r hp) q
    · exact hx T1 ω1 y cls dd H' (R1.grow g) r q⟩
def qCMeth (C : Addr) (pf : PSp W) (qf : QT W) (qs : QTA W) : QT W := fun ω ρ Q E => qf ω ρ (fun ω0 d => d = .adr C ∧ qs ω0 ρ (fun ω1 ds => pf ω1 (.adr C :: ds) Q E) E) E
def qLenO (C : Addr) (pf : PSp W) (qs : QTA W) : QT W := fun ω ρ Q E => qs ω ρ (fun ω1 ds => ∃ ns es, ds = [.ins C ns es] ∧ pf ω1 ds (fun ω' d => ∃ n : Int, d = .int n ∧ 0 ≤ n ∧ n < 2 ^ 63 ∧ Q ω' d) (fun _ _ => False)) E
theorem qe_lenO {ma : Md} (c : CmO X.K C "__len__" f) (F : FnR X.prog X.w X.K X.mg X.base (L2N.CX X.prog X.w) k f (spM .A X.K W pf)) (hr : Room (k + 1) X.A) (hg : Gl X "len") (hm : X.mg "len" = none) (ha : QA X ma W Wo (e :: es) qs)
    (h1 : starEach (e :: es) X.env = (false, eval e X.env) :: starEach es X.env := by rfl) (h2 : (backTo pos (starEach es X.env)).any (·.1) = false := by rfl) :
    QE X .A W Wo (.Call (.Name "len" p) (e :: es) [] pos) (qLenO C pf qs) := PE.imp (pe_callB (cr_lenO c F hr) hg hm (by decide +kernel) ha (by decide) (by decide) h1 h2) fun σ H Q ⟨F, T, ω, ρ, Qp, Ep, R, q, hx, k⟩ =>
  ⟨F, T, ω, ρ, _, Ep, R, q, hx, fun T1 ω1 ds vs H1 R1 e1 r1 ⟨ns, es', z, q1⟩ => by
    subst z
    obtain ⟨v, rfl, r⟩ := r1.one
    obtain ⟨a, dx, xs, rfl, h1, ra⟩ := r.c.insR
    refine ⟨a, dx, _, rfl, h1, ?_⟩
    have hz : spM .A X.K W pf [.ref a] H1 (fun v H' => ∃ n : Int, v = .int n ∧ 0 ≤ n ∧ n < 2 ^ 63 ∧ Q (.int n) H') (WE (fun _ _ _ _ => False) σ) := sp_at R1 e1 (fun _ _ _ _ _ _ _ _ z => z) (.cons ra .nil) q1 fun T' ω' d v H' R' e' r' ⟨n, z, h0, h9, q'⟩ => by
      subst z
      exact ⟨n, (RR.c (m := .A) r').int, h0, h9, by rw [← (RR.c (m := .A) r').int]; exact k T' ω' _ v H' R' e' r' q'⟩
    exact hz⟩
def fFld (C : Addr) (fn : Str) (d : D) (Q : D → Prop) : Prop := ∃ ns ds x, d = .ins C ns ds ∧ (ns.zip ds).lookup fn = some x ∧ Q x
theorem lookup_rep {K : PySem.W.Frag} {H : Hp} {S : ASet} {fn : Str} : ∀ {ns : List Str} {ds : List D} {xs : List V} {x : D}, RepsA K H S ds xs → (ns.zip ds).lookup fn = some x → ∃ v, (ns.zip xs).lookup fn = some v ∧ RepA K H S x v
  | [], _, _, _, _, h => by simp at h
  | _ :: _, _, _, _, .nil, h => by simp at h
  | n :: ns, _, _, _, .cons r rs, h => by
    rw [List.zip_cons_cons, List.lookup_cons] at h ⊢
    split at h
    · cases h
      exact ⟨_, rfl, r⟩
    · exact lookup_rep rs h
theorem qe_fld {fn : Str} (ha : QE X m W Wo a qa) (c : Cls X.K C) (n : NoAttr X.K C fn) (hb : attributeBase a fn X.env (eval a X.env) = eval a X.env := by rfl) : QE X .A W Wo (.Attribute a fn pos) (qUn (fFld C fn) qa) := PE.imp (pe_fld ha hb) fun σ H Q ⟨F, T, ω, ρ, Qp, Ep, R, q, hx, k⟩ =>
  ⟨F, T, ω, ρ, _, Ep, R, q, hx, fun T1 ω1 d v H1 R1 e1 r1 ⟨ns, ds, x, z, hl, q1⟩ => by
    subst z
    obtain ⟨a, dx, xs, rfl, h1, hlen, ra⟩ := r1.c.ins
    obtain ⟨u, hu, ru⟩ := lookup_rep ra hl
    exact ⟨a, C, dx, _, u, rfl, h1, c, n, hu, k T1 ω1 x u H1 R1 e1 ru q1⟩⟩
end
end LW
namespace LW
open PySem PySem.Spec PyProof.Rows L2
section
variable {K : PySem.W.Frag} {W : Wrl} {Wo : WX} {F : Frm} {mr : Md} {P : PEn W} {D : Ends} {T : ASet} {ω : W.Ω} {ρ : List Sl} {σ : L2.St} {H : Hp}
theorem Sim.xok (S : Sim mr K W Wo F P D) : XOk K W Wo F ρ σ (fun ω x => P.ex ω x ρ) := fun T ω x cls dd H R xr e => S.ex T ω ρ σ H x cls dd R xr e
theorem Sim.drop {h : List (LW.D × V)} (S : Sim mr K W Wo F P D) : Sim mr K W Wo (F.add h) P D where
  nx T ω ρ σ H R q := S.nx T ω ρ σ H R.drop q
  bk T ω ρ σ H R q := S.bk T ω ρ σ H R.drop q
  ct T ω ρ σ H R q := S.ct T ω ρ σ H R.drop q
  rt T ω ρ σ H d v R r q := S.rt T ω ρ σ H d v R.drop r q
  ex T ω ρ σ H x cls dd R r q := S.ex T ω ρ σ H x cls dd R.drop r q
end
section
variable {X : Cx} {W : Wrl} {Wo : WX} {mr m m1 m2 : Md} {e a b c : Expr} {st : Stmt} {sts ss ts : List Stmt} {es : List Expr} {i : Nat} {x : Str} {pos pos' : Pos} {q qa qb qc : QT W} {qs : QTA W} {qt : QTT W} {s u : QTS W}
def sNx : QTS W := fun P ω ρ => P.nx ω ρ
def sSeq (s u : QTS W) : QTS W := fun P ω ρ => s { P with nx := u P } ω ρ
theorem qss_nil : QSs X mr W Wo [] sNx := PSs.imp pss_nil fun D σ H ⟨F, T, ω, ρ, P, R, q, S⟩ => S.nx T ω ρ σ H R q
theorem qss_one (h : QS X mr W Wo st s) : QSs X mr W Wo [st] s := pss_one h
theorem qss_cons (h : QS X mr W Wo st s) (h2 : QSs X mr W Wo sts u) : QSs X mr W Wo (st :: sts) (sSeq s u) := PSs.imp (pss_cons h h2) fun D σ H ⟨F, T, ω, ρ, P, R, q, S⟩ =>
  ⟨F, T, ω, ρ, _, R, q, ⟨fun T ω ρ σ H R q => ⟨F, T, ω, ρ, P, R, q, S⟩, S.bk, S.ct, S.rt, S.ex⟩⟩
def sCut (s u : QTS W) : QTS W := fun P ω ρ => ∃ R : W.Ω → List Sl → Prop, s { P with nx := R } ω ρ ∧ ∀ ω ρ, R ω ρ → u P ω ρ
theorem qss_cut (h : QS X mr W Wo st s) (h2 : QSs X mr W Wo sts u) : QSs X mr W Wo (st :: sts) (sCut s u) := PSs.imp (pss_cons h h2) fun D σ H ⟨F, T, ω, ρ, P, R, ⟨N, q, k⟩, S⟩ =>
  ⟨F, T, ω, ρ, _, R, q, ⟨fun T ω ρ σ H R q => ⟨F, T, ω, ρ, P, R, k ω ρ q, S⟩, S.bk, S.ct, S.rt, S.ex⟩⟩
def sFrz (i : Nat) (s : QTS W) : QTS W := fun P ω ρ => s P ω (frz ρ i)
def sDrop (qa : QT W) : QTS W := fun P ω ρ => qa ω ρ (fun ω1 _ => P.nx ω1 ρ) fun ω1 x => P.ex ω1 x ρ
def sRet (qa : QT W) : QTS W := fun P ω ρ => qa ω ρ (fun ω1 d => P.rt ω1 d) fun ω1 x => P.ex ω1 x ρ
theorem rt_of {K : PySem.W.Frag} {F : Frm} {T T' : ASet} {ω ω' : W.Ω} {ρ : List Sl} {σ : L2.St} {H H' : Hp} {d : D} {v : V} (R : Rel K W F T' ω' ρ σ H') (hm : m.ow = true) (r : RR m K H H' (Spr F T' ρ) (owns ρ) d v) : RepA K H' (fun a => F.S a ∨ T' a) d v := by
  rcases r.o hm with r | ⟨l, xs, ds, rfl, rfl, mem, h, r⟩
  · exact r.less fun a z => z.imp id .inl
  · exact .lst h (fun z => z.elim (R.own l mem).2.2 (R.own l mem).2.1) (r.less fun a z => z.imp id .inl)
theorem qs_ret (he : QE X m W Wo e qa) (hm : m.ow = true := by rfl) : QS X .A W Wo (.Return (some e) pos) (sRet qa) := PS.imp (ps_ret he) fun D σ H ⟨F, T, ω, ρ, P, R, q, S⟩ =>
  ⟨F, T, ω, ρ, _, _, R, q, S.xok, fun T' ω' d v H' R' e r q' => S.rt T' ω' ρ σ H' d v R' (rt_of (ω := ω) (T := T) R' hm r) q'⟩
theorem qs_retF (he : QE X .F W Wo e qa) : QS X .F W Wo (.Return (some e) pos) (sRet qa) := PS.imp (ps_ret he) fun D σ H ⟨F, T, ω, ρ, P, R, q, S⟩ =>
  ⟨F, T, ω, ρ, _, _, R, q, S.xok, fun T' ω' d v H' R' e ⟨l, xs, ds, h1, h2, h3, h4, h5, h6⟩ q' => S.rt T' ω' ρ σ H' d v R' ⟨l, xs, ds, h1, h2, R.gr.live l h3, fun z => h4 (z.imp id .inl), h5, h6.less fun a z => z.imp (fun z => z.imp id .inl) id⟩ q'⟩
def sRetO (i : Nat) : QTS W := fun P ω ρ => ∃ l ds, ρ[i]? = some (.ow l ds) ∧ P.rt ω (.lst ds)
theorem qs_retO (he : PE X e (tVar i)) : QS X .F W Wo (.Return (some e) pos) (sRetO i) := PS.imp (ps_ret he) fun D σ H ⟨F, T, ω, ρ, P, R, ⟨l, ds, hi, q⟩, S⟩ => by
  obtain ⟨hv, xs, h1, r⟩ := R.sl.get_ow hi
  have m := owns_mem hi
  refine ⟨_, hv, S.rt T ω ρ σ H _ _ R ⟨l, xs, ds, rfl, rfl, (R.own l m).1, fun z => z.elim (R.own l m).2.2 (R.own l m).2.1, h1, r.less fun a z => ?_⟩ q⟩
  rcases z with (z | z) | z
  · exact .inl z
  · exact .inr (.inl z)
  · rw [z]; exact .inr (.inr m)
def sRetN : QTS W := fun P ω _ => P.rt ω .non
def sBrk : QTS W := fun P ω ρ => P.bk ω ρ
def sCnt : QTS W := fun P ω ρ => P.ct ω ρ
def sIf (qt : QTT W) (s u : QTS W) : QTS W := fun P ω ρ => qt ω ρ (fun ω1 b => if b = true then s P ω1 ρ else u P ω1 ρ) fun ω1 x => P.ex ω1 x ρ
theorem qs_if (hc : QB X W Wo c qt) (ha : QSs X mr W Wo ss s) (hb : QSs X mr W Wo ts u) : QS X mr W Wo (.If c ss ts pos) (sIf qt s u) := PS.imp (ps_if hc ha hb) fun D σ H ⟨F, T, ω, ρ, P, R, q, S⟩ =>
  ⟨F, T, ω, ρ, _, _, R, q, S.xok, fun T' ω' b H' R' e q' => by
    cases b with
    | true => exact ⟨F, T', ω', ρ, P, R', q', S⟩
    | false => exact ⟨F, T', ω', ρ, P, R', q', S⟩⟩
def sSet (i : Nat) (qa : QT W) : QTS W := fun P ω ρ => qa ω ρ (fun ω1 d => P.nx ω1 (ρ.set i (.va d))) fun ω1 x => P.ex ω1 x ρ
theorem qs_set (hN : X.N.Nodup) (hi : X.N[i]? = some x) (hx : Loc X.env.scope x) (he : QE X m W Wo e qa) (hm : m.st = true := by rfl) (hs : swapsWith e (some (.Name x pos')) pos.line X.env = pure false := by rfl) (hf : X.fn x = true ∨ X.env.scope.names.lookup x = some .local := by first | exact .inl rfl | exact .inr rfl | assumption) :
    QS X mr W Wo (.Assign [.Name x pos'] e pos) (sSet i qa) := PS.imp (ps_set hN hi hx he hs hf) fun D σ H ⟨F, T, ω, ρ, P, R, q, S⟩ =>
  ⟨F, T, ω, ρ, _, _, R, q, S.xok, fun T' ω' d v H' R' e r q' => S.nx T' ω' _ _ H' (R'.set_va (r.a hm) i) q'⟩
def sSetO (i : Nat) (qa : QT W) : QTS W := fun P ω ρ => qa ω ρ (fun ω1 d => ∃ ds, d = .lst ds ∧ ∀ l, P.nx ω1 (ρ.set i (.ow l ds))) fun ω1 x => P.ex ω1 x ρ
theorem qs_setO (hN : X.N.Nodup) (hi : X.N[i]? = some x) (hx : Loc X.env.scope x) (he : QE X .F W Wo e qa) (hs : swapsWith e (some (.Name x pos')) pos.line X.env = pure false := by rfl) (hf : X.fn x = true ∨ X.env.scope.names.lookup x = some .local := by first | exact .inl rfl | exact .inr rfl | assumption) :
    QS X mr W Wo (.Assign [.Name x pos'] e pos) (sSetO i qa) := PS.imp (ps_set hN hi hx he hs hf) fun D σ H ⟨F, T, ω, ρ, P, R, q, S⟩ =>
  ⟨F, T, ω, ρ, _, _, R, q, S.xok, fun T' ω' d v H' R' e ⟨l, xs, ds, h1, h2, h3, h4, h5, h6⟩ ⟨ds', z, q'⟩ => by
    subst h1 h2
    cases z
    exact S.nx T' ω' _ _ H' (R.set_ow R' e h3 h4 h5 h6 i) (q' l)⟩
def sAug (i : Nat) (g : Int → Int → Int) (qa : QT W) : QTS W := fun P ω ρ => ∃ n, ρ[i]? = some (.va (.int n)) ∧ qa ω ρ (fun ω1 d => ∃ k, d = .int k ∧ P.nx ω1 (ρ.set i (.va (.int (g n k))))) fun ω1 x => P.ex ω1 x ρ
abbrev QTG := D → List Sl → (List Sl → Prop) → Prop
abbrev QTGs := List D → List Sl → (List Sl → Prop) → Prop
def lfG (m : Md) (K : PySem.W.Frag) (W : Wrl) (ts : List Nat) (g : QTG) : TG := fun v σ H Q => ∃ (F : Frm) (T : ASet) (ω : W.Ω) (ρ : List Sl) (d : D) (k : List Sl → Prop), Rel K W F T ω ρ σ H ∧ RR m K H H (Spr F T ρ) (owns ρ) d v ∧ g d ρ k ∧ ∀ ρ' σ', Rel K W F T ω ρ' σ' H → σ'.length = σ.length → (∀ j, j ∉ ts → σ'[j]? = σ[j]?) → k ρ' → Q σ' H
def lfGs (K : PySem.W.Frag) (W : Wrl) (ts : List Nat) (g : QTGs) : TGs := fun vs σ H Q => ∃ (F : Frm) (T : ASet) (ω : W.Ω) (ρ : List Sl) (ds : List D) (k : List Sl → Prop), Rel K W F T ω ρ σ H ∧ RepsA K H (Spr F T ρ) ds vs ∧ g ds ρ k ∧ ∀ ρ' σ', Rel K W F T ω ρ' σ' H → σ'.length = σ.length → (∀ j, j ∉ ts → σ'[j]? = σ[j]?) → k ρ' → Q σ' H
def QG (X : Cx) (m : Md) (W : Wrl) (e : Expr) (ts : List Nat) (g : QTG) : Prop := PG X e (lfG m X.K W ts g)
def QGs (X : Cx) (W : Wrl) (es : List Expr) (ts : List Nat) (g : QTGs) : Prop := PGs X es (lfGs X.K W ts g)
theorem PG.imp {X : Cx} {e : Expr} {t t' : TG} (h : PG X e t) (k : ∀ v σ H Q, t' v σ H Q → t v σ H Q) : PG X e t' := ⟨fun pins s σ H v u Q I r q => h.run pins s σ H v u Q I r (k v σ H _ q)⟩
theorem PGs.imp {X : Cx} {e : List Expr} {t t' : TGs} (h : PGs X e t) (k : ∀ v σ H Q, t' v σ H Q → t v σ H Q) : PGs X e t' := ⟨fun pins s σ H v u Q I r q => h.run pins s σ H v u Q I r (k v σ H _ q)⟩
def gnm (i : Nat) : QTG := fun d ρ k => k (ρ.set i (.va d))
def gtp (n : Nat) (g : QTGs) : QTG := fun d ρ k => ∃ ds, d = .tup ds ∧ ds.length = n ∧ g ds ρ k
def gsn : QTGs := fun ds ρ k => ds = [] ∧ k ρ
def gsc (g : QTG) (gs : QTGs) : QTGs := fun ds ρ k => ∃ d ds', ds = d :: ds' ∧ g d ρ fun ρ' => gs ds' ρ' k
theorem set_ne {σ : L2.St} {i : Nat} {o : Option V} : ∀ j, j ∉ [i] → (σ.set i o)[j]? = σ[j]? := fun j hj => List.getElem?_set_ne (fun z => hj (by rw [z]; exact List.mem_cons_self))
theorem qg_name (hN : X.N.Nodup) (hi : X.N[i]? = some x) (hx : Loc X.env.scope x) (hf : X.fn x = true ∨ X.env.scope.names.lookup x = some .local := by first | exact .inl rfl | exact .inr rfl | assumption) : QG X .A W (.Name x pos) [i] (gnm i) := PG.imp (pg_name hN hi hx hf) fun v σ H Q ⟨F, T, ω, ρ, d, k, R, r, g, kk⟩ =>
  kk _ _ (R.set_va r i) (List.length_set ..) set_ne g
theorem RepsA.pairs {K : PySem.W.Frag} {H : Hp} {S : ASet} : ∀ {ds : List D} {vs : List V}, RepsA K H S ds vs → ∀ p, p ∈ ds.zip vs → RepA K H S p.1 p.2
  | _, _, .nil, p, h => by cases h
  | _, _, .cons q r, p, h => by
    rcases List.mem_cons.mp h with z | z
    · rw [z]; exact q
    · exact r.pairs p z
theorem RepsA.ofPairs {K : PySem.W.Frag} {H : Hp} {S : ASet} : ∀ {ds : List D} {vs : List V}, ds.length = vs.length → (∀ p, p ∈ ds.zip vs → RepA K H S p.1 p.2) → RepsA K H S ds vs
  | [], [], _, _ => .nil
  | [], _ :: _, h, _ => by cases h
  | _ :: _, [], h, _ => by cases h
  | d :: ds, v :: vs, h, hp => .cons (hp (d, v) List.mem_cons_self) (RepsA.ofPairs (Nat.succ.inj h) fun p q => hp p (List.mem_cons_of_mem _ q))
theorem qgs_nil : QGs X W [] [] gsn := PGs.imp pgs_nil fun v σ H Q ⟨F, T, ω, ρ, d, k, R, r, ⟨z, g⟩, kk⟩ => by
  subst z
  cases r
  exact ⟨rfl, kk ρ σ R rfl (fun _ _ => rfl) g⟩
theorem qgs_cons {t1 t2 : List Nat} {g : QTG} {gs : QTGs} (h1 : QG X .A W e t1 g) (h2 : QGs X W es t2 gs) (hs : (assignEach (e :: es) X.env).map (·.2) = assign e X.env :: (assignEach es X.env).map (·.2) := by rfl) : QGs X W (e :: es) (t1 ++ t2) (gsc g gs) := PGs.imp (pgs_cons h1 h2 hs) fun v σ H Q ⟨F, T, ω, ρ, ds, k, R, r, ⟨d, ds', z, g⟩, kk⟩ => by
  subst z
  cases r with
  | cons r rs =>
    refine ⟨_, _, rfl, F.add (ds'.zip _), T, ω, ρ, d, _, R.put rs.pairs, r, g, fun ρ1 σ1 R1 l1 f1 g1 => ?_⟩
    refine ⟨F, T, ω, ρ1, ds', k, R1.drop, RepsA.ofPairs rs.len.symm fun p hp => R1.kept hp, g1, fun ρ2 σ2 R2 l2 f2 g2 => ?_⟩
    exact kk ρ2 σ2 R2 (l2.trans l1) (fun j hj => (f2 j fun z => hj (List.mem_append_right _ z)).trans (f1 j fun z => hj (List.mem_append_left _ z))) g2
theorem qg_tup {n k : Nat} {t : List Nat} {gs : QTGs} (hc : X.calm = true) (h : QGs X W es t gs) (hn : (assignEach es X.env).length = n := by rfl) (hst : (assignEach es X.env).findIdx? (·.1) = none := by rfl) : QG X .C W (.Tuple es k pos) t (gtp n gs) := PG.imp (pg_tup hc h hn hst) fun v σ H Q ⟨F, T, ω, ρ, d, k, R, r, ⟨ds, z, hl, g⟩, kk⟩ => by
  subst z
  obtain ⟨a, xs, rfl, hq, rs⟩ := RC.tup r
  exact ⟨a, xs, rfl, hq, by rw [rs.len, hl], F, T, ω, ρ, ds, k, R, rs, g, kk⟩
def sAsg (g : QTG) (qa : QT W) : QTS W := fun P ω ρ => qa ω ρ (fun ω1 d => g d ρ fun ρ' => P.nx ω1 ρ') fun ω1 x => P.ex ω1 x ρ
theorem qs_asg {tg : Expr} {t : List Nat} {g : QTG} (he : QE X m1 W Wo e qa) (hg : QG X m W tg t g) (l : m1.le m = true := by rfl) (hm : m ≠ .F := by intro z; cases z) (hs : swapsWithSole [tg] e pos.line X.env = pure false := by rfl) (hw : swappedStores [tg] e X.env = pure none := by rfl) (h1 : (assignEach [tg] X.env).map (·.2) = [assign tg X.env] := by rfl) : QS X mr W Wo (.Assign [tg] e pos) (sAsg g qa) := PS.imp (ps_asg he hg hs hw h1) fun D σ H ⟨F, T, ω, ρ, P, R, q, S⟩ =>
  ⟨F, T, ω, ρ, _, _, R, q, S.xok, fun T' ω' d v H' R' e r q' => ⟨F, T', ω', ρ, d, _, R', (r.up l).at hm, q', fun ρ1 σ1 R1 _ _ k => S.nx T' ω' ρ1 σ1 H' R1 k⟩⟩
def sApp (i : Nat) (qa : QT W) : QTS W := fun P ω ρ => ∃ l ds, ρ[i]? = some (.ow l ds) ∧ ds.length < 1000000 ∧ qa ω ρ (fun ω1 d => P.nx ω1 (ρ.set i (.ow l (ds ++ [d])))) fun ω1 x => P.ex ω1 x ρ
theorem qs_app {to : TE} {o : Expr} {apos : Pos} (hto : to = tVar i) (ho : PE X o to) (ha : QE X m W Wo e qa) (hm : m.st = true := by rfl)
    (hbase : attributeBase o "append" X.env (eval o X.env) = eval o X.env := by rfl)
    (hfew : ((backTo pos' (starEach [e] X.env)).all (fun x => !x.1) && (backToKw pos' (keywordEach [] X.env)).all (fun x => x.1.isSome)
      && decide ([e].length + ([] : List Keyword).length + (if ([] : List Keyword).isEmpty then 0 else 1) < 30)) = true := by rfl)
    (hline : (apos.endLine == pos'.line) = true := by rfl) (hst : starEach [e] X.env = (false, eval e X.env) :: starEach [] X.env := by rfl) (hplain : (backTo pos' (starEach [] X.env)).any (·.1) = false := by rfl)
    (hs : swapsWith (.Call (.Attribute o "append" apos) [e] [] pos') none pos.line X.env = pure false := by rfl) :
    QS X mr W Wo (.Expr (.Call (.Attribute o "append" apos) [e] [] pos') pos) (sApp i qa) := PS.imp (ps_expr (pe_bm PySem.F.plainAttrs_list PySem.F.slot_list_append PySem.F.type_list_append mt_append ho (pa_cons ha pa_nil hst) hbase hfew hline hst hplain) hs) fun D σ H ⟨F, T, ω, ρ, P, R, ⟨l, ds, hi, hl, q⟩, S⟩ => by
  subst hto
  obtain ⟨hv, xs, h1, r⟩ := R.sl.get_ow hi
  refine ⟨.ref l, hv, .inl ⟨rfl, xs, sql_of h1⟩, F, T, ω, ρ, _, _, R, q, S.xok, fun T' ω' d v H' R' e r' q' => ?_⟩
  obtain ⟨_, xs', h1', rr⟩ := R'.sl.get_ow hi
  exact ⟨l, xs', v, rfl, rfl, h1', Nat.lt_of_lt_of_le (by rw [rr.len]; exact hl) (by decide), S.nx T' ω' _ _ _ (R'.wr hi (RepsA.append (.cons (r'.a hm) .nil) rr)) q'⟩
def sPut (i : Nat) (qk qa : QT W) : QTS W := fun P ω ρ => qa ω ρ (fun ω1 d => ∃ l ds, ρ[i]? = some (.ow l ds) ∧ qk ω1 ρ (fun ω2 y => ∃ n j, y = .int n ∧ ixN ds.length n = some j ∧ P.nx ω2 (ρ.set i (.ow l (ds.set j d)))) fun ω1 x => P.ex ω1 x ρ) fun ω1 x => P.ex ω1 x ρ
theorem qs_put {to : TE} {o k : Expr} {spos : Pos} {qk : QT W} (hto : to = tVar i) (he : QE X m W Wo e qa) (ho : PE X o to) (hk : QE X m2 W Wo k qk) (hm : m.st = true := by rfl)
    (ha : ∀ v, assign (.Subscript o k spos) X.env v = (do
      let ov ← holding [v] (eval o X.env)
      let iv ← holding [v, ov] (eval k X.env)
      standAt spos
      holding [v, ov, iv] (setItem ov iv v)
      release [v, ov, iv] []) := by intro _; rfl)
    (hs : swapsWithSole [.Subscript o k spos] e pos.line X.env = pure false := by rfl) (hw : swappedStores [.Subscript o k spos] e X.env = pure none := by rfl) (h1 : (assignEach [.Subscript o k spos] X.env).map (·.2) = [assign (.Subscript o k spos) X.env] := by rfl) :
    QS X mr W Wo (.Assign [.Subscript o k spos] e pos) (sPut i qk qa) := PS.imp (ps_asg he (pg_sub ho hk set_list ha) hs hw h1) fun D σ H ⟨F, T, ω, ρ, P, R, q, S⟩ => by
  subst hto
  refine ⟨F, T, ω, ρ, _, _, R, q, S.xok, fun T1 ω1 d v H1 R1 e1 r1 ⟨l, ds, hi, q1⟩ => ?_⟩
  obtain ⟨hv, _⟩ := R1.sl.get_ow hi
  refine ⟨_, hv, F, T1, ω1, ρ, _, _, R1, q1, S.xok, fun T2 ω2 y w H2 R2 e2 r2 ⟨n, j, z, hj, q2⟩ => ?_⟩
  subst z
  obtain ⟨_, xs, h1, rr⟩ := R2.sl.get_ow hi
  exact ⟨l, xs, n, j, rfl, r2.c.int, h1, by rw [rr.len]; exact hj, S.nx T2 ω2 _ _ _ (R2.wr hi (rr.set (R1.ext_rep e2 (r1.a hm)) j)) q2⟩
def sRaise (x : Exn) : QTS W := fun P ω ρ => P.ex ω x ρ
theorem qs_raise {C : Addr} (h : PS X st (fun _ σ H => Wo (.ref C) none σ H)) : QS X mr W Wo st (sRaise ⟨C, none⟩) := PS.imp h fun D σ H ⟨F, T, ω, ρ, P, R, q, S⟩ => S.ex T ω ρ σ H ⟨C, none⟩ _ _ R ⟨rfl, rfl⟩ q
abbrev QTI (W : Wrl) := W.Ω → List Sl → (W.Ω → List D → Prop) → (W.Ω → Exn → Prop) → Prop
def ItOk (mi : Md) (K : PySem.W.Frag) (W : Wrl) (h : List (D × V)) (ds : List D) (J : It) : Prop := ∀ F T ω ρ σ H, (∀ p, p ∈ h → p ∈ F.hid) → Rel K W F T ω ρ σ H → ∀ i, (i < ds.length → J.go i H) ∧ (ds.length ≤ i → J.stop i H) ∧ ∀ d x H2, ds[i]? = some d → J.yld i H x H2 → GrP nop H H2 ∧ RR mi K H2 H2 (Spr F T ρ) (owns ρ) d x
def lfI (mi : Md) (K : PySem.W.Frag) (W : Wrl) (Wo : WX) (q : QTI W) : TI := fun σ H Rj => ∃ (F : Frm) (T : ASet) (ω : W.Ω) (ρ : List Sl) (Qp : W.Ω → List D → Prop) (Ep : W.Ω → Exn → Prop), Rel K W F T ω ρ σ H ∧ q ω ρ Qp Ep ∧ XOk K W Wo F ρ σ Ep ∧
  ∀ T' ω' h ds J H', Rel K W (F.add h) T' ω' ρ σ H' → Ext T H T' H' → ItOk mi K W h ds J → Qp ω' ds → Rj J H'
def QI (X : Cx) (mi : Md) (W : Wrl) (Wo : WX) (tg iter : Expr) (q : QTI W) : Prop := PI X tg iter (lfI mi X.K W Wo q)
theorem PI.imp {X : Cx} {tg e : Expr} {t t' : TI} (h : PI X tg e t) (k : ∀ σ H R, t' σ H R → t σ H R) : PI X tg e t' := ⟨fun pins s σ H R I q => h.run pins s σ H R I (k σ H R q)⟩
def iSeq (qa : QT W) : QTI W := fun ω ρ Q E => qa ω ρ (fun ω1 d => ∃ ds, d = .lst ds ∧ Q ω1 ds) E
def iTupl (qa : QT W) : QTI W := fun ω ρ Q E => qa ω ρ (fun ω1 d => ∃ ds, d = .tup ds ∧ Q ω1 ds) E
theorem repA_lst {K : PySem.W.Frag} {H : Hp} {S : ASet} {ds : List D} {v : V} (h : RepA K H S (.lst ds) v) : ∃ l xs, v = .ref l ∧ SqL K H l xs ∧ RepsA K H S ds xs := by
  cases h with
  | lst h n r => exact ⟨_, _, rfl, sql_of h, r⟩
  | lsf h r => exact ⟨_, _, rfl, sql_frz h, r⟩
theorem repA_tup {K : PySem.W.Frag} {H : Hp} {S : ASet} {ds : List D} {v : V} (h : RepA K H S (.tup ds) v) : ∃ l xs, v = .ref l ∧ SqT K H l xs ∧ RepsA K H S ds xs := by
  cases h with
  | tup h r => exact ⟨_, _, rfl, h.sqt, r⟩
theorem qi_lst {tg : Expr} (ha : QE X m W Wo a qa) (hm : m.st = true := by rfl) : QI X .A W Wo tg a (iSeq qa) := PI.imp (pi_list ha) fun σ H Rj ⟨F, T, ω, ρ, Qp, Ep, R, q, hx, k⟩ =>
  ⟨F, T, ω, ρ, _, Ep, R, q, hx, fun T1 ω1 d v H1 R1 e1 r1 ⟨ds, z, q1⟩ => by
    subst z
    have ra := r1.a hm
    obtain ⟨l, xs, rfl, hl, _⟩ := repA_lst ra
    refine ⟨l, rfl, ⟨xs, hl⟩, k T1 ω1 [(.lst ds, .ref l)] ds _ H1 (R1.put fun p hp => ?_) e1 (fun F T ω ρ σ H hh R i => ?_) q1⟩
    · have : p = (.lst ds, .ref l) := by simpa using hp
      rw [this]; exact ra
    · obtain ⟨l', xs', e', hl', rr⟩ := repA_lst (R.hd _ (hh (.lst ds, .ref l) List.mem_cons_self))
      cases e'
      refine ⟨fun hi => ?_, fun hi => ⟨xs', hl', by rw [rr.len]; exact hi⟩, fun d x H2 hd hy => ?_⟩
      · obtain ⟨v, hv, _⟩ := rr.get (List.getElem?_eq_getElem hi)
        exact ⟨xs', v, hl', hv⟩
      · obtain ⟨z, hx⟩ := hy
        subst z
        obtain ⟨v, hv, rv⟩ := rr.get hd
        have := hx xs' hl'
        rw [hv] at this
        cases this
        exact ⟨GrP.refl _ _, rv⟩⟩
theorem qi_tup {tg : Expr} (ha : QE X m W Wo a qa) (hm : m.st = true := by rfl) : QI X .A W Wo tg a (iTupl qa) := PI.imp (pi_tup ha) fun σ H Rj ⟨F, T, ω, ρ, Qp, Ep, R, q, hx, k⟩ =>
  ⟨F, T, ω, ρ, _, Ep, R, q, hx, fun T1 ω1 d v H1 R1 e1 r1 ⟨ds, z, q1⟩ => by
    subst z
    have ra := r1.a hm
    obtain ⟨l, xs, rfl, hl, _⟩ := repA_tup ra
    refine ⟨l, rfl, ⟨xs, hl⟩, k T1 ω1 [(.tup ds, .ref l)] ds _ H1 (R1.put fun p hp => ?_) e1 (fun F T ω ρ σ H hh R i => ?_) q1⟩
    · have : p = (.tup ds, .ref l) := by simpa using hp
      rw [this]; exact ra
    · obtain ⟨l', xs', e', hl', rr⟩ := repA_tup (R.hd _ (hh (.tup ds, .ref l) List.mem_cons_self))
      cases e'
      refine ⟨fun hi => ?_, fun hi => ⟨xs', hl', by rw [rr.len]; exact hi⟩, fun d x H2 hd hy => ?_⟩
      · obtain ⟨v, hv, _⟩ := rr.get (List.getElem?_eq_getElem hi)
        exact ⟨xs', v, hl', hv⟩
      · obtain ⟨z, hx⟩ := hy
        subst z
        obtain ⟨v, hv, rv⟩ := rr.get hd
        have := hx xs' hl'
        rw [hv] at this
        cases this
        exact ⟨GrP.refl _ _, rv⟩⟩
theorem itr_ok {K : PySem.W.Frag} {lo : Int} {n : Nat} : ItOk .A K W [] (dInts (rgI lo (lo + n))) (Itr lo n) := fun F T ω ρ σ H _ R i => by
  have hl : (dInts (rgI lo (lo + n))).length = n := by unfold dInts rgI; rw [List.length_map, List.length_map, List.length_range]; omega
  refine ⟨fun h => by rw [hl] at h; exact h, fun h => by rw [hl] at h; exact h, fun d x H2 hd hy => ?_⟩
  obtain ⟨z, hx⟩ := hy
  subst z hx
  have hi : i < n := by rw [← hl]; exact (List.getElem?_eq_some_iff.mp hd).1
  unfold dInts rgI at hd
  rw [List.getElem?_map, List.getElem?_map, List.getElem?_range (by omega)] at hd
  cases hd
  exact ⟨GrP.refl _ _, .int _⟩
def RgB (i : Int) : Prop := -(2 ^ 62) ≤ i ∧ i < 2 ^ 62
def iRg1 (qa : QT W) : QTI W := fun ω ρ Q E => qa ω ρ (fun ω1 d => ∃ n, d = .int n ∧ RgB n ∧ Q ω1 (dInts (rgI 0 n))) E
def iRg2 (qa qb : QT W) : QTI W := fun ω ρ Q E => qa ω ρ (fun ω1 d => qb ω1 ρ (fun ω2 d2 => ∃ n k, d = .int n ∧ d2 = .int k ∧ RgB n ∧ RgB k ∧ Q ω2 (dInts (rgI n k))) E) E
theorem rgI_nat {lo hi : Int} : rgI lo (lo + ((hi - lo).toNat : Nat)) = rgI lo hi := by
  unfold rgI
  rw [show (lo + ((hi - lo).toNat : Nat) - lo).toNat = (hi - lo).toNat by omega]
theorem qi_rg1 {tg : Expr} {p : Pos} (hg : Gl X "range") (hm : X.mg "range" = none) (ha : QE X m W Wo a qa) (h1 : starEach [a] X.env = (false, eval a X.env) :: starEach [] X.env := by rfl) (hs : starEach [a] X.env = [(false, eval a X.env)] := by rfl) : QI X .A W Wo tg (.Call (.Name "range" p) [a] [] pos) (iRg1 qa) := PI.imp (pi_range1 hg hm (pa_cons ha pa_nil h1) hs) fun σ H Rj ⟨F, T, ω, ρ, Qp, Ep, R, q, hx, k⟩ =>
  ⟨F, T, ω, ρ, _, Ep, R, q, hx, fun T1 ω1 d v H1 R1 e1 r1 ⟨n, z, hb, q1⟩ => by
    subst z
    refine ⟨n, by rw [r1.c.int], hb.1, hb.2, k T1 ω1 [] _ _ H1 R1 e1 itr_ok ?_⟩
    have := rgI_nat (lo := 0) (hi := n)
    rw [Int.sub_zero] at this
    rw [this]
    exact q1⟩
theorem qi_rg2 {tg : Expr} {p : Pos} (hg : Gl X "range") (hm : X.mg "range" = none) (ha : QE X m1 W Wo a qa) (hb : QE X m2 W Wo b qb) (h1 : starEach [a, b] X.env = (false, eval a X.env) :: starEach [b] X.env := by rfl) (h2 : starEach [b] X.env = (false, eval b X.env) :: starEach [] X.env := by rfl)
    (hs : starEach [a, b] X.env = [(false, eval a X.env), (false, eval b X.env)] := by rfl) (hs2 : starEach [b] X.env = [(false, eval b X.env)] := by rfl) : QI X .A W Wo tg (.Call (.Name "range" p) [a, b] [] pos) (iRg2 qa qb) := PI.imp (pi_range2 hg hm (pa_cons ha (pa_cons hb pa_nil h2) h1) hs hs2) fun σ H Rj ⟨F, T, ω, ρ, Qp, Ep, R, q, hx, k⟩ =>
  ⟨F, T, ω, ρ, _, Ep, R, q, hx, fun T1 ω1 d v H1 R1 e1 r1 q1 => ⟨F, T1, ω1, ρ, _, Ep, R1, q1, hx, fun T2 ω2 d2 v2 H2 R2 e2 r2 ⟨n, n2, z, z2, hb, hb2, q2⟩ => by
    subst z z2
    refine ⟨n, n2, by rw [r1.c.int, r2.c.int], ⟨hb.1, hb.2, hb2.1, hb2.2⟩, k T2 ω2 [] _ _ H2 R2 (e1.trans e2) itr_ok ?_⟩
    rw [rgI_nat]
    exact q2⟩⟩
def sFor (qi : QTI W) (g : QTG) (s : QTS W) : QTS W := fun P ω ρ => qi ω ρ (fun ω1 ds => ∃ I : Nat → W.Ω → List Sl → Prop, I 0 ω1 ρ ∧ (∀ i d ω ρ, ds[i]? = some d → I i ω ρ → g d ρ fun ρ' => s { P with nx := I (i + 1), ct := I (i + 1), bk := P.nx } ω ρ') ∧ ∀ ω ρ, I ds.length ω ρ → P.nx ω ρ) fun ω1 x => P.ex ω1 x ρ
theorem qs_for {tg iter : Expr} {t : List Nat} {qi : QTI W} {g : QTG} {body : List Stmt} (hp : PassesOwn (model X.prog X.w) X.A X.env X.xe) (hc : X.calm = true) (hi : QI X m W Wo tg iter qi) (hg : QG X m W tg t g) (hb : QSs X mr W Wo body s)
    (hs : ∀ x, foldedSetIterable iter X.env x = pure x := by intro _; rfl) : QS X mr W Wo (.For tg iter body [] pos) (sFor qi g s) := PS.imp (ps_for hp hc hi hg hb hs) fun D σ H ⟨F, T, ω, ρ, P, R, q, S⟩ =>
  ⟨F, T, ω, ρ, _, _, R, q, S.xok, fun T1 ω1 h ds J H1 R1 e1 it ⟨I, i0, hs, hd⟩ => by
    refine ⟨fun i n σ H => i + n = ds.length ∧ ∃ T ω ρ, Rel X.K W (F.add h) T ω ρ σ H ∧ I i ω ρ, ⟨ds.length, by omega, T1, ω1, ρ, R1, i0⟩, fun i n σ H ⟨hn, T2, ω2, ρ2, R2, q2⟩ => ?_⟩
    obtain ⟨h1, h2, h3⟩ := it _ T2 ω2 ρ2 σ H (fun p hp => List.mem_append_left _ hp) R2 i
    rcases Nat.lt_or_ge i ds.length with hi | hi
    · refine .inr ⟨h1 hi, fun σ H => ∃ T ω ρ, Rel X.K W (F.add h) T ω ρ σ H ∧ I (i + 1) ω ρ, fun σ' H' q => ⟨n - 1, by omega, by omega, q⟩, fun x H2 hy => ?_⟩
      obtain ⟨g2, rx⟩ := h3 ds[i] x H2 (List.getElem?_eq_getElem hi) hy
      have R3 := R2.grow g2
      refine ⟨F.add h, T2, ω2, ρ2, ds[i], _, R3, rx, hs i _ ω2 ρ2 (List.getElem?_eq_getElem hi) q2, fun ρ4 σ4 R4 _ _ q4 => ?_⟩
      exact ⟨F.add h, T2, ω2, ρ4, _, R4, q4, ⟨fun T ω ρ σ H R q => ⟨T, ω, ρ, R, q⟩, fun T ω ρ σ H R q => S.nx T ω ρ σ H R.drop q, fun T ω ρ σ H R q => ⟨T, ω, ρ, R, q⟩, fun T ω ρ σ H d v R r q => S.rt T ω ρ σ H d v R.drop r q, fun T ω ρ σ H x cls dd R r q => S.ex T ω ρ σ H x cls dd R.drop r q⟩⟩
    · have : i = ds.length := by omega
      subst this
      exact .inl ⟨h2 hi, S.nx T2 ω2 ρ2 σ H R2.drop (hd ω2 ρ2 q2)⟩⟩
end
end LW
namespace LW
open PySem PySem.Spec PyProof.Rows L2
def wipeP (ρ : List Sl) : List Nat → List Sl
  | [] => ρ
  | v :: vs => (wipeP ρ vs).set v .no
def Sl.pv : Sl → Bool
  | .no => true
  | .va _ => true
  | _ => false
def still (ρ : List Sl) : List Nat → Bool
  | [] => true
  | v :: vs => (match (wipeP ρ vs)[v]? with
    | some s => s.pv
    | none => true) && still ρ vs
section
variable {K : PySem.W.Frag} {W : Wrl} {F : Frm} {T T' T2 U : ASet} {ω ω' : W.Ω} {ρ ρ' : List Sl} {σ σ' : L2.St} {H H' H2 : Hp} {d : D} {v : V} {l : Addr} {ds : List D} {xs : List V} {i : Nat}
theorem Rel.wipe (R : Rel K W F T ω ρ σ H) : ∀ vs : List Nat, Rel K W F T ω (wipeP ρ vs) (L2.wipe σ vs) H
  | [] => R
  | v :: vs => (R.wipe vs).set_no none v
theorem set_set_self {α : Type} {xs : List α} {i : Nat} {a b : α} (h : xs[i]? = some a) : (xs.set i b).set i a = xs := by
  rw [List.set_set]
  refine List.ext_getElem? fun j => ?_
  rw [List.getElem?_set]
  split
  · rename_i z
    subst z
    rw [h]
    split
    · rfl
    · rename_i z
      rw [List.getElem?_eq_none (by omega)] at h
      cases h
  · rfl
theorem set_out {α : Type} {xs : List α} {i : Nat} {b : α} (h : xs[i]? = none) : xs.set i b = xs := List.set_eq_of_length_le (List.getElem?_eq_none_iff.mp h)
theorem wipeHid : ∀ (vs : List Nat), still ρ vs = true → Rel K W F T ω ρ σ H → ∃ hv : List (D × V), Rel K W (F.add hv) T ω (wipeP ρ vs) (L2.wipe σ vs) H ∧ ∀ F2 T2 ω2 H2, (∀ p, p ∈ hv → p ∈ F2.hid) → Rel K W F2 T2 ω2 (wipeP ρ vs) (L2.wipe σ vs) H2 → Rel K W F2 T2 ω2 ρ σ H2
  | [], _, R => ⟨[], R, fun F2 T2 ω2 H2 _ R2 => R2⟩
  | v :: vs, h, R => by
    have h' : ((match (wipeP ρ vs)[v]? with | some s => s.pv | none => true) && still ρ vs) = true := h
    obtain ⟨h1, h2⟩ := Bool.and_eq_true_iff.mp h'
    obtain ⟨hv, R1, back⟩ := wipeHid vs h2 R
    have R2 := R1.set_no none v
    cases e : (wipeP ρ vs)[v]? with
    | none =>
      refine ⟨hv, R2, fun F2 T2 ω2 H2 hh Rb => back F2 T2 ω2 H2 hh ?_⟩
      have e2 : (L2.wipe σ vs)[v]? = none := by
        rw [List.getElem?_eq_none_iff, ← R1.sl.len]
        exact List.getElem?_eq_none_iff.mp e
      have Rb' : Rel K W F2 T2 ω2 ((wipeP ρ vs).set v .no) ((L2.wipe σ vs).set v none) H2 := Rb
      rw [set_out e, set_out e2] at Rb'
      exact Rb'
    | some s =>
      rw [e] at h1
      obtain ⟨o, e2⟩ : ∃ o, (L2.wipe σ vs)[v]? = some o := by
        have := (List.getElem?_eq_some_iff.mp e).1
        rw [R1.sl.len] at this
        exact ⟨_, List.getElem?_eq_getElem this⟩
      cases s with
      | no =>
        refine ⟨hv, R2, fun F2 T2 ω2 H2 hh Rb => back F2 T2 ω2 H2 hh ?_⟩
        have Rb' : Rel K W F2 T2 ω2 ((wipeP ρ vs).set v .no) ((L2.wipe σ vs).set v none) H2 := Rb
        have Rc := Rb'.set_no o v
        rw [set_set_self e, set_set_self e2] at Rc
        exact Rc
      | va d =>
        obtain ⟨x, hx, rx⟩ := R1.sl.get_va e
        rw [e2] at hx
        cases hx
        refine ⟨(d, x) :: hv, ?_, fun F2 T2 ω2 H2 hh Rb => back F2 T2 ω2 H2 (fun p hp => hh p (List.mem_cons_of_mem _ hp)) ?_⟩
        · have : Rel K W ((F.add hv).add [(d, x)]) T ω (wipeP ρ vs) (L2.wipe σ vs) H := R1.put fun p hp => by
            have : p = (d, x) := by simpa using hp
            rw [this]; exact rx
          exact this.set_no none v
        · have Rb' : Rel K W F2 T2 ω2 ((wipeP ρ vs).set v .no) ((L2.wipe σ vs).set v none) H2 := Rb
          have Rc := Rb'.set_va (Rb'.hd _ (hh (d, x) List.mem_cons_self)) v
          rw [set_set_self e, set_set_self e2] at Rc
          exact Rc
      | ow l ds => cases h1
      | ex a dd x => cases h1
theorem owns_set_pv : ∀ {ρ : List Sl} {v : Nat}, (match ρ[v]? with | some s => s.pv | none => true) = true → owns (ρ.set v .no) = owns ρ
  | [], _, _ => rfl
  | .ow k ds :: r, 0, h => nomatch (show false = true from h)
  | .ex a b c :: r, 0, h => nomatch (show false = true from h)
  | .no :: r, 0, _ => rfl
  | .va _ :: r, 0, _ => rfl
  | .ow k ds :: r, v + 1, h => congrArg (k :: ·) (owns_set_pv (ρ := r) (v := v) (by simpa using h))
  | .no :: r, v + 1, h => owns_set_pv (ρ := r) (v := v) (by simpa using h)
  | .va _ :: r, v + 1, h => owns_set_pv (ρ := r) (v := v) (by simpa using h)
  | .ex _ _ _ :: r, v + 1, h => owns_set_pv (ρ := r) (v := v) (by simpa using h)
theorem owns_wipe : ∀ {vs : List Nat}, still ρ vs = true → owns (wipeP ρ vs) = owns ρ
  | [], _ => rfl
  | v :: vs, h => by
    have h' : ((match (wipeP ρ vs)[v]? with | some s => s.pv | none => true) && still ρ vs) = true := h
    obtain ⟨h1, h2⟩ := Bool.and_eq_true_iff.mp h'
    exact (owns_set_pv h1).trans (owns_wipe h2)
theorem owns_wipe_sub : ∀ vs : List Nat, (owns (wipeP ρ vs)).Sublist (owns ρ)
  | [] => List.Sublist.refl _
  | v :: vs => (owns_set_sub rfl v).trans (owns_wipe_sub vs)
theorem wipe_get {σ : L2.St} {j : Nat} : ∀ {vs : List Nat}, (L2.wipe σ vs)[j]? = if j ∈ vs then (if j < σ.length then some none else none) else σ[j]?
  | [] => by simp [L2.wipe]
  | v :: vs => by
    unfold L2.wipe
    rw [List.getElem?_set]
    by_cases h : v = j
    · subst h
      rw [if_pos rfl, wipe_length, if_pos List.mem_cons_self]
    · rw [if_neg h, wipe_get (vs := vs)]
      by_cases h2 : j ∈ vs
      · rw [if_pos h2, if_pos (List.mem_cons_of_mem _ h2)]
      · rw [if_neg h2, if_neg (by simp [h2]; exact fun z => h z.symm)]
theorem wipe_same {σ σ4 : L2.St} {vs ts : List Nat} (hl : σ4.length = (L2.wipe σ vs).length) (hf : ∀ j, j ∉ ts → σ4[j]? = (L2.wipe σ vs)[j]?) (ht : ∀ j, j ∈ ts → j ∈ vs) : L2.wipe σ4 vs = L2.wipe σ vs := by
  rw [wipe_length] at hl
  refine List.ext_getElem? fun j => ?_
  rw [wipe_get, wipe_get, hl]
  by_cases h : j ∈ vs
  · rw [if_pos h, if_pos h]
  · rw [if_neg h, if_neg h, hf j fun z => h (ht j z), wipe_get, if_neg h]
def Frm.grd (F : Frm) (l : Addr) : Frm := { F with S := fun a => F.S a ∨ a = l }
theorem Spr.grd {F : Frm} : ∀ a, Spr (F.grd l) T ρ a → Spr F T ρ a ∨ a = l := fun a z => by
  rcases z with (z | z) | z | z
  · exact .inl (.inl z)
  · exact .inr z
  · exact .inl (.inr (.inl z))
  · exact .inl (.inr (.inr z))
theorem Spr.ungrd {F : Frm} : ∀ a, Spr F T ρ a → Spr (F.grd l) T ρ a := fun a z => by
  rcases z with z | z | z
  · exact .inl (.inl z)
  · exact .inr (.inl z)
  · exact .inr (.inr z)
theorem Rel.guard (R : Rel K W F T ω ρ σ H) (h : H l = none) (o : HO) : Rel K W (F.grd l) T ω ρ σ (upd H l o) := by
  have g : GrP nop H (upd H l o) := GrP.new h
  have R1 := R.grow g
  have ee : ∀ a, Spr (F.grd l) T ρ a → Spr F T ρ a ∨ H a = none := fun a z => (Spr.grd a z).imp id fun z => by rw [z]; exact h
  refine ⟨R1.gr, R1.inv, R1.tn, fun k hk => ⟨(R1.own k hk).1, (R1.own k hk).2.1, fun z => Or.elim (show F.S k ∨ k = l from z) (R1.own k hk).2.2 fun z => R.spl k (.inr (.inr hk)) (by rw [z]; exact h)⟩, R1.nd, fun a z => ?_, fun p hp => (R.hd p hp).ext g (fun _ z => z.elim) ee, R.sl.ext g (fun _ z => z.elim) ee fun _ _ z => z⟩
  rcases z with z | z
  · exact R1.s0 a z
  · rw [z]
    exact ⟨fun z => (by rw [upd_same] at z; cases z), fun t => R.spl l (.inr (.inl t)) h⟩
theorem Rel.unguard (R : Rel K W (F.grd l) T ω ρ σ H) : Rel K W F T ω ρ σ H :=
  ⟨R.gr, R.inv, R.tn, fun k hk => ⟨(R.own k hk).1, (R.own k hk).2.1, fun z => (R.own k hk).2.2 (.inl z)⟩, R.nd, fun a z => R.s0 a (.inl z), fun p hp => (R.hd p hp).less Spr.ungrd, R.sl.less Spr.ungrd⟩
end
abbrev Wo0 : WX := fun _ _ _ _ => False
section
variable {X : Cx} {W : Wrl} {Wo : WX} {mi m : Md} {qi : QTI W} {g : QTG} {qt : QTT W} {qe : QT W} {vs ts : List Nat} {c : Expr} {ifs : List Expr}
def qLc (qi : QTI W) (g : QTG) (qt : QTT W) (qe : QT W) (vs : List Nat) : QT W := fun ω ρ Q E => qi ω ρ (fun ω1 ds => still ρ vs = true ∧ ds.length ≤ 1000000 ∧ ∃ I : Nat → W.Ω → List D → Prop, I 0 ω1 [] ∧
  (∀ i d ω acc, ds[i]? = some d → I i ω acc → acc.length ≤ i → g d (wipeP ρ vs) fun ρ2 => wipeP ρ2 vs = wipeP ρ vs ∧ qt ω ρ2 (fun ω2 b => if b = true then qe ω2 ρ2 (fun ω3 y => I (i + 1) ω3 (acc ++ [y])) (fun _ _ => False) else I (i + 1) ω2 acc) (fun _ _ => False)) ∧
  ∀ ω acc, I ds.length ω acc → Q ω (.lst acc)) E
def qYes : QTT W := fun ω _ Q _ => Q ω true
theorem PTs.imp {t t' : TT} (h : PTs X ifs t) (k : ∀ σ H Q, t' σ H Q → t σ H Q) : PTs X ifs t' := ⟨fun pins s σ H Q I q => h.run pins s σ H Q I (k σ H Q q)⟩
def QTs (X : Cx) (W : Wrl) (Wo : WX) (ifs : List Expr) (q : QTT W) : Prop := PTs X ifs (lfT X.K W Wo q)
theorem qts_nil : QTs X W Wo [] qYes := PTs.imp pts_nil fun σ H Q ⟨F, T, ω, ρ, Qp, Ep, R, q, hx, k⟩ => k T ω true H R .refl q
theorem qts_one (h : QB X W Wo c qt) : QTs X W Wo [c] qt := pts_one h
theorem lf_lc {K : PySem.W.Frag} (hts : ∀ j, j ∈ ts → j ∈ vs) (σ : L2.St) (H : Hp) (Q : VK) (h : lfE .F K W Wo (qLc qi g qt qe vs) σ H Q) : tLc (lfI mi K W Wo qi) (lfG mi K W ts g) (lfT K W Wo0 qt) (lfE .A K W Wo0 qe) vs σ H Q := by
  obtain ⟨F, T, ω, ρ, Qp, Ep, R, q, hx, k⟩ := h
  refine ⟨F, T, ω, ρ, _, Ep, R, q, hx, fun T1 ω1 h ds J H1 R1 e1 it ⟨hst, hlen, I, i0, hstep, hend⟩ D hD => ?_⟩
  obtain ⟨hv, Rw, back⟩ := wipeHid vs hst R1
  have F1D : F.H D = none := R1.gr.live D hD
  have Rg := Rw.guard hD (.lst [])
  have eD : Ext T1 H1 T1 (upd H1 D (.lst [])) := Ext.of0 (GrP.new hD)
  have hh : ∀ p, p ∈ h → p ∈ (((F.add h).add hv).grd D).hid := fun p hp => List.mem_append_right _ (List.mem_append_left _ hp)
  have hhv : ∀ p, p ∈ hv → p ∈ ((F.add h).add hv).hid := fun p hp => List.mem_append_left _ hp
  refine ⟨fun i n H => i + n = ds.length ∧ ∃ T ω acc xs, Rel K W (((F.add h).add hv).grd D) T ω (wipeP ρ vs) (L2.wipe σ vs) H ∧ Ext T1 H1 T H ∧ H D = some (.lst xs) ∧ RepsA K H (Spr (((F.add h).add hv).grd D) T (wipeP ρ vs)) acc xs ∧ acc.length ≤ i ∧ I i ω acc, ⟨ds.length, by omega, T1, ω1, [], [], Rg, eD, upd_same, .nil, Nat.le_refl _, i0⟩, fun i n H2 ⟨hn, T2, ω2, acc, xs, R2, e2, hD2, ra, hl, q2⟩ => ?_⟩
  obtain ⟨h1, h2, h3⟩ := it _ T2 ω2 _ _ H2 hh R2 i
  rcases Nat.lt_or_ge i ds.length with hi | hi
  · refine .inr ⟨h1 hi, fun H' => ∃ T ω acc xs, Rel K W (((F.add h).add hv).grd D) T ω (wipeP ρ vs) (L2.wipe σ vs) H' ∧ Ext T1 H1 T H' ∧ H' D = some (.lst xs) ∧ RepsA K H' (Spr (((F.add h).add hv).grd D) T (wipeP ρ vs)) acc xs ∧ acc.length ≤ i + 1 ∧ I (i + 1) ω acc, fun H' q => ⟨n - 1, by omega, by omega, q⟩, fun x H3 hy => ?_⟩
    obtain ⟨g3, rx⟩ := h3 ds[i] x H3 (List.getElem?_eq_getElem hi) hy
    have R3 := R2.grow g3
    have x3 : Ext T2 H2 T2 H3 := Ext.of0 g3
    refine ⟨_, T2, ω2, _, ds[i], _, R3, rx, hstep i _ ω2 acc (List.getElem?_eq_getElem hi) q2 hl, fun ρ4 σ4 R4 l4 f4 ⟨w4, q4⟩ => ⟨wipe_same l4 f4 hts, _, T2, ω2, ρ4, _, _, R4, q4, fun _ _ _ _ _ _ _ _ z => z, fun T5 ω5 b H5 R5 e5 q5 => ?_⟩⟩
    have sw : L2.wipe σ4 vs = L2.wipe σ vs := wipe_same l4 f4 hts
    have done : ∀ T6 ω6 H6, Rel K W (((F.add h).add hv).grd D) T6 ω6 ρ4 σ4 H6 → Ext T2 H3 T6 H6 → Rel K W (((F.add h).add hv).grd D) T6 ω6 (wipeP ρ vs) (L2.wipe σ vs) H6 ∧ Ext T1 H1 T6 H6 ∧ H6 D = some (.lst xs) ∧ RepsA K H6 (Spr (((F.add h).add hv).grd D) T6 (wipeP ρ vs)) acc xs := fun T6 ω6 H6 R6 e6 => by
      have z := R6.wipe vs
      rw [w4, sw] at z
      refine ⟨z, e2.trans (x3.trans e6), (x3.trans e6).gr.keep _ _ hD2 (.inr (R2.s0 D (.inr rfl)).2), R2.ext_reps (x3.trans e6) ra⟩
    cases b with
    | false =>
      obtain ⟨z1, z2, z3, z4⟩ := done T5 ω5 H5 R5 e5
      exact ⟨T5, ω5, acc, xs, z1, z2, z3, z4, by omega, q5⟩
    | true =>
      refine ⟨_, T5, ω5, ρ4, _, _, R5, q5, fun _ _ _ _ _ _ _ _ z => z, fun T6 ω6 y w H6 R6 e6 r6 q6 => ?_⟩
      obtain ⟨z1, z2, z3, z4⟩ := done T6 ω6 H6 R6 (e5.trans e6)
      have gD : GrP (fun a => a = D) H6 (upd H6 D (.lst (xs ++ [w]))) := GrP.wr rfl fun u hu => by rw [z3] at hu; cases hu; rfl
      have ry : RepA K H6 (Spr (((F.add h).add hv).grd D) T6 (wipeP ρ vs)) y w := RepA.less r6 fun a z => by
        rcases z with z | z | z
        · exact .inl z
        · exact .inr (.inl z)
        · exact .inr (.inr ((owns_wipe_sub vs).subset (by rw [w4]; exact z)))
      have hxl : xs.length ≤ 1000000 := by have := z4.len; omega
      refine ⟨xs, z3, Nat.lt_of_le_of_lt hxl (by decide), T6, ω6, acc ++ [y], xs ++ [w], z1.wrS (.inr rfl) F1D (fun u hu => by rw [z3] at hu; cases hu; rfl), ⟨z2.gr.trans gD fun a z => by rw [z]; exact .inr hD, z2.tn⟩, upd_same, ?_, by rw [List.length_append]; show acc.length + 1 ≤ i + 1; omega, q6⟩
      exact (RepsA.append (.cons ry .nil) z4).ext gD (fun a z => by rw [z]; exact .inl (.inl (.inr rfl))) fun a z => .inl z
  · have : i = ds.length := by omega
    subst this
    refine .inl ⟨h2 hi, ?_⟩
    have Rf : Rel K W F T2 ω2 ρ σ H2 := (back _ T2 ω2 H2 hhv R2.unguard).drop.drop
    refine k T2 ω2 (.lst acc) (.ref D) H2 Rf (e1.trans e2) ⟨D, xs, acc, rfl, rfl, e1.gr.live D hD, fun z => ?_, hD2, ra.less fun a z => ?_⟩ (hend ω2 acc q2)
    · rcases z with z | z | z
      · exact (R1.s0 D z).1 hD
      · exact (R2.s0 D (.inr rfl)).2 z
      · exact R1.spl D (.inr (.inr z)) hD
    · rcases z with (z | z | z) | z
      · exact .inl (.inl z)
      · exact .inr (.inl z)
      · exact .inr (.inr (by rw [owns_wipe hst]; exact z))
      · exact .inl (.inr z)
variable {elt tg iter : Expr} {scope : Scope} {own : List (Str × Nat)} {pos spos py : Pos} {i : Nat} {y : Str}
theorem qe_lc (hc : X.calm = true) (hN : X.N.Nodup) (hi : QI X mi W Wo tg iter qi) (ok : BlkOk X.N X.env.scope scope own)
    (hg : ∀ (s : Shared) (H : Hp) (C : Addr) (cl : List (Str × Addr)) (fp : List Addr), QG (X.blk s H scope (compEnvC scope cl C X.env) fp) mi W tg ts g) (ht : ∀ (s : Shared) (H : Hp) (C : Addr) (cl : List (Str × Addr)) (fp : List Addr), QTs (X.blk s H scope (compEnvC scope cl C X.env) fp) W Wo0 ifs qt)
    (he : ∀ (s : Shared) (H : Hp) (C : Addr) (cl : List (Str × Addr)) (fp : List Addr), QE (X.blk s H scope (compEnvC scope cl C X.env) fp) .A W Wo0 elt qe) (hts : ∀ j, j ∈ ts → j ∈ own.map (·.2) := by decide) (hs : ∀ x, foldedSetIterable iter X.env x = pure x := by intro _; rfl) :
    QE X .F W Wo (.ListComp elt [⟨tg, iter, ifs, 0⟩] scope pos) (qLc qi g qt qe (own.map (·.2))) := PE.imp (pe_lc (g := lfG mi X.K W ts g) (tt := lfT X.K W Wo0 qt) (te := lfE .A X.K W Wo0 qe) hc hN hi ok hg ht he hs) (lf_lc hts)
theorem ps_setQ (hc : X.calm = true) (hN : X.N.Nodup) (hy : X.N[i]? = some y) (hyl : X.env.scope.names.lookup y = some .local)
    (hsw : swapsWith (.ListComp elt [⟨tg, iter, ifs, 0⟩] scope pos) (some (.Name y py)) spos.line X.env = pure true) (hi : QI X mi W Wo tg iter qi) (ok : BlkOk X.N X.env.scope scope own)
    (hg : ∀ (s : Shared) (H : Hp) (C : Addr) (cl : List (Str × Addr)) (fp : List Addr), QG (X.blk s H scope (compEnvC scope cl C X.env) fp) mi W tg ts g) (ht : ∀ (s : Shared) (H : Hp) (C : Addr) (cl : List (Str × Addr)) (fp : List Addr), QTs (X.blk s H scope (compEnvC scope cl C X.env) fp) W Wo0 ifs qt)
    (he : ∀ (s : Shared) (H : Hp) (C : Addr) (cl : List (Str × Addr)) (fp : List Addr), QE (X.blk s H scope (compEnvC scope cl C X.env) fp) .A W Wo0 elt qe) (hts : ∀ j, j ∈ ts → j ∈ own.map (·.2)) (hs : ∀ x, foldedSetIterable iter X.env x = pure x) :
    PS X (.Assign [.Name y py] (.ListComp elt [⟨tg, iter, ifs, 0⟩] scope pos) spos) (tAsg (lfE .F X.K W Wo (qLc qi g qt qe (own.map (·.2)))) (gName i)) := PS.imp (ps_setLc (g := lfG mi X.K W ts g) (tt := lfT X.K W Wo0 qt) (te := lfE .A X.K W Wo0 qe) hc hN hy hyl hsw hi ok hg ht he hs) fun D σ H h => lf_lc hts σ H _ h
variable {mr : Md}
theorem qs_setLc (hc : X.calm = true) (hN : X.N.Nodup) (hy : X.N[i]? = some y) (hyl : X.env.scope.names.lookup y = some .local)
    (hsw : swapsWith (.ListComp elt [⟨tg, iter, ifs, 0⟩] scope pos) (some (.Name y py)) spos.line X.env = pure true) (hi : QI X mi W Wo tg iter qi) (ok : BlkOk X.N X.env.scope scope own)
    (hg : ∀ (s : Shared) (H : Hp) (C : Addr) (cl : List (Str × Addr)) (fp : List Addr), QG (X.blk s H scope (compEnvC scope cl C X.env) fp) mi W tg ts g) (ht : ∀ (s : Shared) (H : Hp) (C : Addr) (cl : List (Str × Addr)) (fp : List Addr), QTs (X.blk s H scope (compEnvC scope cl C X.env) fp) W Wo0 ifs qt)
    (he : ∀ (s : Shared) (H : Hp) (C : Addr) (cl : List (Str × Addr)) (fp : List Addr), QE (X.blk s H scope (compEnvC scope cl C X.env) fp) .A W Wo0 elt qe) (hts : ∀ j, j ∈ ts → j ∈ own.map (·.2) := by decide) (hs : ∀ x, foldedSetIterable iter X.env x = pure x := by intro _; rfl) :
    QS X mr W Wo (.Assign [.Name y py] (.ListComp elt [⟨tg, iter, ifs, 0⟩] scope pos) spos) (sSet i (qLc qi g qt qe (own.map (·.2)))) := PS.imp (ps_setQ hc hN hy hyl hsw hi ok hg ht he hts hs) fun D σ H ⟨F, T, ω, ρ, P, R, q, S⟩ =>
  ⟨F, T, ω, ρ, _, _, R, q, S.xok, fun T' ω' d v H' R' e r q' => S.nx T' ω' _ _ H' (R'.set_va (RF.a r) i) q'⟩
end
end LW
namespace LW
open PySem PySem.Spec PyProof.Rows L2
def startP (N : List Str) (ds : List D) : List Sl := ds.map .va ++ List.replicate (N.length - ds.length) .no
theorem owns_start (N : List Str) (ds : List D) : owns (startP N ds) = [] := by
  unfold startP
  induction ds with
  | nil =>
    have : ∀ n, owns (List.replicate n Sl.no) = [] := fun n => by
      induction n with
      | zero => rfl
      | succ n ih => exact ih
    exact this _
  | cons d ds ih =>
    have : ∀ (a b : List Sl), owns (Sl.va d :: a ++ b) = owns (a ++ b) := fun a b => rfl
    have h2 : ∀ (ds : List D) (n : Nat), owns (ds.map Sl.va ++ List.replicate n Sl.no) = [] := fun ds n => by
      induction ds with
      | nil =>
        induction n with
        | zero => rfl
        | succ n ih => exact ih
      | cons d ds ih => exact ih
    exact h2 _ _
theorem slsR_start {K : PySem.W.Frag} {H : Hp} {S : ASet} (N : List Str) : ∀ {ds : List D} {vs : List V}, RepsA K H S ds vs → ∀ n, SlsR K H S (ds.map .va ++ List.replicate n .no) (vs.map some ++ List.replicate n none)
  | _, _, .nil, n => by
    induction n with
    | zero => exact .nil
    | succ n ih => exact .no ih
  | _, _, .cons h r, n => .va h (slsR_start N r n)
def endP (mr : Md) (W : Wrl) (Q : W.Ω → D → Prop) (E : W.Ω → Exn → Prop) : PEn W := { nx := fun ω _ => (match mr with | .F => False | _ => Q ω .non), rt := Q, ex := fun ω x _ => E ω x }
theorem okQ {P : Program} {w : World} {K : PySem.W.Frag} {mg : Str → Option Value} {base : Heap} {x qual : Str} {params : Arguments} {body : List Stmt} {scope : Scope} {dvs : List V} {kws : List (Str × V)} {f : Addr} {fd : FuncData} {N ps : List Str} {k : Nat} {mr : Md} {W : Wrl} {pf : PSp W} {s : QTS W}
    (F : FunD K x qual params body scope dvs kws f fd) (S : FnScope N ps scope) (hl : ∀ ω ds Q E, pf ω ds Q E → ds.length = ps.length)
    (hb : ∀ (cdv : Value) (A : Around) (outer : List Env) (s0 : Shared) (H : Hp) (E : XK), Room k (A.deeper (envOfC qual scope s0.heap.objs.size f cdv)) →
      L2N.Takes (cxOf (L2N.CX P w) P w K mg base N qual scope f cdv A outer s0 H E) (fun cls d _ H' => E cls d H') →
      PassesOwn (model P w) (cxOf (L2N.CX P w) P w K mg base N qual scope f cdv A outer s0 H E).A (cxOf (L2N.CX P w) P w K mg base N qual scope f cdv A outer s0 H E).env (cxOf (L2N.CX P w) P w K mg base N qual scope f cdv A outer s0 H E).xe →
      QSs (cxOf (L2N.CX P w) P w K mg base N qual scope f cdv A outer s0 H E) mr W (fun cls d _ H' => E cls d H') body s)
    (hq : ∀ ω ds Q E, pf ω ds Q E → s (endP mr W Q E) ω (startP N ds)) : FnOk P w K mg base (L2N.CX P w) (k + 1) f fd ps (spM mr K W pf) := by
  refine okT F S (fun vs H Q E h => ?_) fun cdv A outer s0 H vs Q E hr h tk pown => ⟨_, hb cdv A outer s0 H E hr tk pown, ?_⟩
  · obtain ⟨S', T, ω, ds, Qp, Ep, hS, hi, r, q, k, kx⟩ := h
    exact r.len.trans (hl _ _ _ _ q)
  · obtain ⟨S', T, ω, ds, Qp, Ep, hS, hi, r, q, k, kx⟩ := h
    have es : ∀ a, Spr ⟨H, S', T, []⟩ T (startP N ds) a → S' a ∨ T a := fun a z => by
      rcases z with z | z | z
      · exact .inl z
      · exact .inr z
      · rw [owns_start] at z; cases z
    have en : N.length - vs.length = N.length - ds.length := by rw [r.len]
    have R : Rel K W ⟨H, S', T, []⟩ T ω (startP N ds) (L2.start N vs) H := by
      refine ⟨GrP.refl _ _, hi, fun a z => .inl z, fun l hl => ?_, ?_, hS, fun p hp => ?_, ?_⟩
      · rw [owns_start] at hl; cases hl
      · rw [owns_start]; exact List.nodup_nil
      · cases hp
      · unfold L2.start startP
        rw [en]
        exact (slsR_start N (r.less es) _)
    refine ⟨⟨H, S', T, []⟩, T, ω, startP N ds, endP mr W Qp Ep, R, hq ω ds Qp Ep q, ⟨fun T' ω' ρ' σ' H' R' q' => ?_, fun _ _ _ _ _ _ z => z.elim, fun _ _ _ _ _ _ z => z.elim, fun T' ω' ρ' σ' H' d v R' rt q' => k T' ω' d v H' ⟨R'.gr, R'.tn⟩ R'.inv rt q', fun T' ω' ρ' σ' H' x cls dd R' xr q' => kx T' ω' x cls dd H' ⟨R'.gr, R'.tn⟩ R'.inv xr q'⟩⟩
    cases mr with
    | F => exact (show False from q').elim
    | A => exact k T' ω' .non .non H' ⟨R'.gr, R'.tn⟩ R'.inv (show RepA K H' _ .non .non from .non) q'
    | O => exact k T' ω' .non .non H' ⟨R'.gr, R'.tn⟩ R'.inv (show RepA K H' _ .non .non from .non) q'
    | C => exact k T' ω' .non .non H' ⟨R'.gr, R'.tn⟩ R'.inv (show RepA K H' _ .non .non from .non) q'
def endsNP {W : Wrl} (i : Nat) (P : PEn W) : PEn W := { nx := fun ω ρ => P.nx ω (ρ.set i .no), rt := P.rt, bk := fun ω ρ => P.bk ω (ρ.set i .no), ct := fun ω ρ => P.ct ω (ρ.set i .no), ex := fun _ _ _ => False }
def noEx {W : Wrl} (P : PEn W) : PEn W := { P with ex := fun _ _ _ => False }
abbrev Cls3 (W : Wrl) := List (Addr × Option Nat × (Exn → Addr → Option Addr → QTS W))
def hsel (K : PySem.W.Frag) {W : Wrl} : Cls3 W → PEn W → W.Ω → Exn → List Sl → Prop
  | [], P, ω, x, ρ => P.ex ω x ρ
  | (C, o, u) :: r, P, ω, x, ρ => ∃ b, PySem.W.exmOne K (.ref x.C) (.ref C) = some b ∧ if b = true then (match o with
    | some i => ∀ a dd, u x a dd (endsNP i P) ω (ρ.set i (.ex a dd x))
    | none => ∀ a dd, u x a dd (noEx P) ω ρ) else hsel K r P ω x ρ
def sTry (K : PySem.W.Frag) {W : Wrl} (s : QTS W) (hs : Cls3 W) : QTS W := fun P ω ρ => s { P with ex := fun ω x ρ => hsel K hs P ω x ρ } ω ρ
section
variable {X : Cx} {W : Wrl} {Wo : WX} {mr : Md} {s : QTS W} {body : List Stmt} {h0 : ExceptHandler} {hds : List ExceptHandler} {pos : Pos}
def lfX (mr : Md) (K : PySem.W.Frag) (W : Wrl) (u : Exn → Addr → Option Addr → QTS W) (a : Addr) (cls : Value) (d : Option Addr) : TS := fun D σ H => ∃ x, cls = .ref x.C ∧ XDict K H x d ∧ ∃ (F : Frm) (T : ASet) (ω : W.Ω) (ρ : List Sl) (P : PEn W), Rel K W F T ω ρ σ H ∧ u x a d P ω ρ ∧ Sim mr K W Wo0 F P D
inductive QHd (X : Cx) (mr : Md) (W : Wrl) : List ExceptHandler → Cls3 W → Prop
  | nil : QHd X mr W [] []
  | only {x : Str} {C : Addr} {u : Exn → Addr → Option Addr → QTS W} {b0 : Stmt} {su : List Stmt} {np p : Pos} {hds : List ExceptHandler} {l : Cls3 W} (hc : Names X x (.ref C))
      (hsu : ∀ (a : Addr) (oe : Obj) (d : Option Addr) (pn : List (Addr × Obj)) (x : Exn), L2N.Zn (.ref x.C) d oe → (∃ vs, oe.data = .fields vs) → QSs (X.suite a ((a, oe) :: pn)) mr W Wo0 (b0 :: su) (u x a d)) (r : QHd X mr W hds l) :
      QHd X mr W (.ExceptHandler (some (.Name x np)) none (b0 :: su) p :: hds) ((C, none, u) :: l)
  | as_ {x n : Str} {i : Nat} {C : Addr} {u : Exn → Addr → Option Addr → QTS W} {b0 : Stmt} {su : List Stmt} {np p : Pos} {hds : List ExceptHandler} {l : Cls3 W} (hN : X.N.Nodup) (hi : X.N[i]? = some n) (hln : X.env.kindOf n = some .local) (hc : Names X x (.ref C))
      (hsu : ∀ (a : Addr) (oe : Obj) (d : Option Addr) (pn : List (Addr × Obj)) (x : Exn), L2N.Zn (.ref x.C) d oe → (∃ vs, oe.data = .fields vs) → QSs (X.suite a ((a, oe) :: pn)) mr W Wo0 (b0 :: su) (u x a d)) (r : QHd X mr W hds l) :
      QHd X mr W (.ExceptHandler (some (.Name x np)) (some n) (b0 :: su) p :: hds) ((C, some i, u) :: l)
def toL (mr : Md) (K : PySem.W.Frag) {W : Wrl} : Cls3 W → List (Value × Option Nat × TSu)
  | [] => []
  | (C, o, u) :: r => (.ref C, o, fun a cls d => lfX mr K W u a cls d) :: toL mr K r
theorem QHd.to {hds : List ExceptHandler} {l : Cls3 W} (h : QHd X mr W hds l) : HdsE X hds (toL mr X.K l) := by
  induction h with
  | nil => exact .nil
  | only hc hsu r ih =>
    rename_i u _ _ _ _ _ _
    exact .only (ts := fun a cls d _ _ => lfX mr X.K W u a cls d) hc (fun a oe cls d pn hz hf => ⟨fun pins s σ H D I ⟨x, e, xd, F, T, ω, ρ, P, R, q, S⟩ => by
      subst e
      exact (hsu a oe d pn x hz hf).run pins s σ H D I ⟨F, T, ω, ρ, P, R, q, S⟩⟩) ih
  | as_ hN hi hln hc hsu r ih =>
    rename_i i _ u _ _ _ _ _ _
    exact .as_ (ts := fun a cls d _ _ => lfX mr X.K W u a cls d) hN hi hln hc (fun a oe cls d pn hz hf => ⟨fun pins s σ H D I ⟨x, e, xd, F, T, ω, ρ, P, R, q, S⟩ => by
      subst e
      exact (hsu a oe d pn x hz hf).run pins s σ H D I ⟨F, T, ω, ρ, P, R, q, S⟩⟩) ih
end
section
variable {X : Cx} {W : Wrl} {Wo : WX} {a C : Addr} {oe : Obj} {d : Option Addr} {pn : List (Addr × Obj)} {x : Exn} {i : Nat} {e e2 : Expr} {p pos : Pos}
end
end LW
namespace LW
open PySem PySem.Spec PyProof.Rows L2
section
variable {W : Wrl} {P : PEn W} {ω : W.Ω} {ρ : List Sl} {Q : W.Ω → D → Prop} {E : W.Ω → Exn → Prop} {QB : W.Ω → Bool → Prop} {QL : W.Ω → List D → Prop} {Q1 : D → Prop} {B1 : Bool → Prop} {q qa qb qc : QT W} {qt qu : QTT W} {qs : QTA W} {s u : QTS W} {i j : Int} {n : Nat} {d e : D} {ds es : List D} {g : QTG} {gs : QTGs} {qi : QTI W} {k : List Sl → Prop} {pf : PSp W} {C : Addr} {m : Str}
theorem v_seq (h : s { P with nx := u P } ω ρ) : sSeq s u P ω ρ := h
theorem v_nx (h : P.nx ω ρ) : sNx P ω ρ := h
theorem v_drop (h : qa ω ρ (fun ω1 _ => P.nx ω1 ρ) fun ω1 x => P.ex ω1 x ρ) : sDrop qa P ω ρ := h
theorem v_ret (h : qa ω ρ (fun ω1 d => P.rt ω1 d) fun ω1 x => P.ex ω1 x ρ) : sRet qa P ω ρ := h
theorem v_retO {l : Addr} (h1 : ρ[n]? = some (.ow l ds)) (h : P.rt ω (.lst ds)) : sRetO n P ω ρ := ⟨l, ds, h1, h⟩
theorem v_retN (h : P.rt ω .non) : sRetN P ω ρ := h
theorem v_brk (h : P.bk ω ρ) : sBrk P ω ρ := h
theorem v_cnt (h : P.ct ω ρ) : sCnt P ω ρ := h
theorem v_frz (h : s P ω (frz ρ n)) : sFrz n s P ω ρ := h
theorem v_if (h : qt ω ρ (fun ω1 b => if b = true then s P ω1 ρ else u P ω1 ρ) fun ω1 x => P.ex ω1 x ρ) : sIf qt s u P ω ρ := h
theorem v_set (h : qa ω ρ (fun ω1 d => P.nx ω1 (ρ.set n (.va d))) fun ω1 x => P.ex ω1 x ρ) : sSet n qa P ω ρ := h
def kSetO (n : Nat) (P : PEn W) (ω1 : W.Ω) (ρ : List Sl) (d : D) : Prop := ∃ ds, d = .lst ds ∧ ∀ l, P.nx ω1 (ρ.set n (.ow l ds))
theorem v_setO (h : qa ω ρ (fun ω1 d => kSetO n P ω1 ρ d) fun ω1 x => P.ex ω1 x ρ) : sSetO n qa P ω ρ := h
theorem v_kSetO (h : ∀ l, P.nx ω (ρ.set n (.ow l ds))) : kSetO n P ω ρ (.lst ds) := ⟨ds, rfl, h⟩
def kAug (n : Nat) (f : Int → Int → Int) (i : Int) (P : PEn W) (ω1 : W.Ω) (ρ : List Sl) (d : D) : Prop := ∃ k, d = .int k ∧ P.nx ω1 (ρ.set n (.va (.int (f i k))))
theorem v_aug {f : Int → Int → Int} (h1 : ρ[n]? = some (.va (.int i))) (h : qa ω ρ (fun ω1 d => kAug n f i P ω1 ρ d) fun ω1 x => P.ex ω1 x ρ) : sAug n f qa P ω ρ := ⟨i, h1, h⟩
theorem v_kAug {f : Int → Int → Int} (h : P.nx ω (ρ.set n (.va (.int (f i j))))) : kAug n f i P ω ρ (.int j) := ⟨j, rfl, h⟩
theorem v_asg (h : qa ω ρ (fun ω1 d => g d ρ fun ρ' => P.nx ω1 ρ') fun ω1 x => P.ex ω1 x ρ) : sAsg g qa P ω ρ := h
theorem v_gnm (h : k (ρ.set n (.va d))) : gnm n d ρ k := h
theorem v_gtp (h1 : ds.length = n) (h : gs ds ρ k) : gtp n gs (.tup ds) ρ k := ⟨ds, rfl, h1, h⟩
theorem v_gsn (h : k ρ) : gsn [] ρ k := ⟨rfl, h⟩
theorem v_gsc (h : g d ρ fun ρ' => gs ds ρ' k) : gsc g gs (d :: ds) ρ k := ⟨d, ds, rfl, h⟩
theorem v_app {l : Addr} (h1 : ρ[n]? = some (.ow l ds)) (h2 : ds.length < 1000000) (h : qa ω ρ (fun ω1 d => P.nx ω1 (ρ.set n (.ow l (ds ++ [d])))) fun ω1 x => P.ex ω1 x ρ) : sApp n qa P ω ρ := ⟨l, ds, h1, h2, h⟩
def kPut2 (n : Nat) (P : PEn W) (ω2 : W.Ω) (ρ : List Sl) (l : Addr) (ds : List D) (d y : D) : Prop := ∃ i j, y = .int i ∧ ixN ds.length i = some j ∧ P.nx ω2 (ρ.set n (.ow l (ds.set j d)))
def kPut (n : Nat) (qk : QT W) (P : PEn W) (ω1 : W.Ω) (ρ : List Sl) (d : D) : Prop := ∃ l ds, ρ[n]? = some (.ow l ds) ∧ qk ω1 ρ (fun ω2 y => kPut2 n P ω2 ρ l ds d y) fun ω1 x => P.ex ω1 x ρ
theorem v_put {qk : QT W} (h : qa ω ρ (fun ω1 d => kPut n qk P ω1 ρ d) fun ω1 x => P.ex ω1 x ρ) : sPut n qk qa P ω ρ := h
theorem v_kPut {qk : QT W} {l : Addr} (h1 : ρ[n]? = some (.ow l ds)) (h : qk ω ρ (fun ω2 y => kPut2 n P ω2 ρ l ds d y) fun ω1 x => P.ex ω1 x ρ) : kPut n qk P ω ρ d := ⟨l, ds, h1, h⟩
theorem ixN_nat {n : Nat} {i : Int} (h0 : 0 ≤ i) (h : i < n) : ixN n i = some i.toNat := by unfold ixN; rw [if_pos h0, if_pos h]
theorem v_kPut2 {l : Addr} {j : Nat} (h1 : ixN ds.length i = some j) (h : P.nx ω (ρ.set n (.ow l (ds.set j d)))) : kPut2 n P ω ρ l ds d (.int i) := ⟨i, j, rfl, h1, h⟩
theorem v_raise {x : Exn} (h : P.ex ω x ρ) : sRaise x P ω ρ := h
def kFor (g : QTG) (s : QTS W) (P : PEn W) (ω1 : W.Ω) (ρ : List Sl) (ds : List D) : Prop := ∃ I : Nat → W.Ω → List Sl → Prop, I 0 ω1 ρ ∧ (∀ i d ω ρ, ds[i]? = some d → I i ω ρ → g d ρ fun ρ' => s { P with nx := I (i + 1), ct := I (i + 1), bk := P.nx } ω ρ') ∧ ∀ ω ρ, I ds.length ω ρ → P.nx ω ρ
theorem v_for (h : qi ω ρ (fun ω1 ds => kFor g s P ω1 ρ ds) fun ω1 x => P.ex ω1 x ρ) : sFor qi g s P ω ρ := h
theorem v_kFor (I : Nat → W.Ω → List Sl → Prop) (h0 : I 0 ω ρ) (hs : ∀ i d ω ρ, ds[i]? = some d → I i ω ρ → g d ρ fun ρ' => s { P with nx := I (i + 1), ct := I (i + 1), bk := P.nx } ω ρ') (hd : ∀ ω ρ, I ds.length ω ρ → P.nx ω ρ) : kFor g s P ω ρ ds := ⟨I, h0, hs, hd⟩
theorem v_kForI {ns : List Int} (I : Nat → W.Ω → List Sl → Prop) (h0 : I 0 ω ρ) (hs : ∀ i y ω ρ, ns[i]? = some y → I i ω ρ → g (.int y) ρ fun ρ' => s { P with nx := I (i + 1), ct := I (i + 1), bk := P.nx } ω ρ') (hd : ∀ ω ρ, I ns.length ω ρ → P.nx ω ρ) : kFor g s P ω ρ (dInts ns) := by
  refine ⟨I, h0, fun i d ω ρ hd => ?_, fun ω ρ h => hd ω ρ (by unfold dInts at h; rw [List.length_map] at h; exact h)⟩
  unfold dInts at hd
  rw [List.getElem?_map] at hd
  obtain ⟨y, hy, rfl⟩ := Option.map_eq_some_iff.mp hd
  exact hs i y ω ρ hy
theorem rg_iff {n i : Nat} {y : Int} : (rg n)[i]? = some y ↔ i < n ∧ y = i := by
  by_cases h : i < n
  · rw [rg_get h]
    simp [h]
    exact eq_comm
  · rw [List.getElem?_eq_none (by rw [length_rg]; omega)]
    simp [h]
theorem v_kForR {n : Nat} (I : Nat → W.Ω → List Sl → Prop) (h0 : I 0 ω ρ) (hs : ∀ (i : Nat) ω ρ, i < n → I i ω ρ → g (.int i) ρ fun ρ' => s { P with nx := I (i + 1), ct := I (i + 1), bk := P.nx } ω ρ') (hd : ∀ ω ρ, I n ω ρ → P.nx ω ρ) : kFor g s P ω ρ (dInts (rgI 0 n)) := by
  rw [rgI_rg]
  refine v_kForI I h0 (fun i y ω ρ hy => ?_) fun ω ρ h => hd ω ρ (by rw [length_rg] at h; exact h)
  obtain ⟨hi, rfl⟩ := rg_iff.mp hy
  exact hs i ω ρ hi
theorem v_iSeq (h : qa ω ρ (fun ω1 d => ∃ ds, d = .lst ds ∧ QL ω1 ds) E) : iSeq qa ω ρ QL E := h
theorem v_iTupl (h : qa ω ρ (fun ω1 d => ∃ ds, d = .tup ds ∧ QL ω1 ds) E) : iTupl qa ω ρ QL E := h
theorem v_exl {R : List D → Prop} (h : R ds) : ∃ ds', D.lst ds = .lst ds' ∧ R ds' := ⟨ds, rfl, h⟩
theorem v_ext {R : List D → Prop} (h : R ds) : ∃ ds', D.tup ds = .tup ds' ∧ R ds' := ⟨ds, rfl, h⟩
def kRg (x : D) (R : Int → Prop) : Prop := ∃ n, x = .int n ∧ RgB n ∧ R n
theorem v_iRg1 (h : qa ω ρ (fun ω1 d => kRg d fun n => QL ω1 (dInts (rgI 0 n))) E) : iRg1 qa ω ρ QL E := h
theorem v_kRg {R : Int → Prop} (h1 : RgB i) (h : R i) : kRg (.int i) R := ⟨i, rfl, h1, h⟩
def kRg2 (x y : D) (R : Int → Int → Prop) : Prop := ∃ n k, x = .int n ∧ y = .int k ∧ RgB n ∧ RgB k ∧ R n k
theorem v_iRg2 (h : qa ω ρ (fun ω1 d => qb ω1 ρ (fun ω2 d2 => kRg2 d d2 fun n k => QL ω2 (dInts (rgI n k))) E) E) : iRg2 qa qb ω ρ QL E := h
theorem v_kRg2 {R : Int → Int → Prop} (h1 : RgB i) (h2 : RgB j) (h : R i j) : kRg2 (.int i) (.int j) R := ⟨i, j, rfl, rfl, h1, h2, h⟩
theorem rgB (h0 : -1000000000 ≤ i) (h : i ≤ 1000000000) : RgB i := ⟨by omega, by omega⟩
def kLcQ (g : QTG) (qt : QTT W) (qe : QT W) (vs : List Nat) (ρ : List Sl) (Q : W.Ω → D → Prop) (ω1 : W.Ω) (ds : List D) : Prop := still ρ vs = true ∧ ds.length ≤ 1000000 ∧ ∃ I : Nat → W.Ω → List D → Prop, I 0 ω1 [] ∧
  (∀ i d ω acc, ds[i]? = some d → I i ω acc → acc.length ≤ i → g d (wipeP ρ vs) fun ρ2 => wipeP ρ2 vs = wipeP ρ vs ∧ qt ω ρ2 (fun ω2 b => if b = true then qe ω2 ρ2 (fun ω3 y => I (i + 1) ω3 (acc ++ [y])) (fun _ _ => False) else I (i + 1) ω2 acc) (fun _ _ => False)) ∧
  ∀ ω acc, I ds.length ω acc → Q ω (.lst acc)
variable {qe : QT W} {vs : List Nat}
theorem v_lc (h : qi ω ρ (fun ω1 ds => kLcQ g qt qe vs ρ Q ω1 ds) E) : qLc qi g qt qe vs ω ρ Q E := h
theorem v_kLcW (I : Nat → W.Ω → List D → Prop) (hl : ds.length ≤ 1000000) (h0 : I 0 ω []) (hst : still ρ vs = true)
    (hs : ∀ i d ω acc, ds[i]? = some d → I i ω acc → acc.length ≤ i → g d (wipeP ρ vs) fun ρ2 => wipeP ρ2 vs = wipeP ρ vs ∧ qe ω ρ2 (fun ω3 y => I (i + 1) ω3 (acc ++ [y])) (fun _ _ => False))
    (hd : ∀ ω acc, I ds.length ω acc → Q ω (.lst acc)) : kLcQ g qYes qe vs ρ Q ω ds := by
  refine ⟨hst, hl, I, h0, fun i d ω acc hd hi hl => ?_, hd⟩
  have z := hs i d ω acc hd hi hl
  exact z
theorem v_kLcM (f : D → D) (hl : ds.length ≤ 1000000) (hst : still ρ vs = true)
    (hs : ∀ (i : Nat) (d : D) (Q' : W.Ω → D → Prop), ds[i]? = some d → Q' ω (f d) → g d (wipeP ρ vs) fun ρ2 => wipeP ρ2 vs = wipeP ρ vs ∧ qe ω ρ2 Q' (fun _ _ => False))
    (hd : Q ω (.lst (ds.map f))) : kLcQ g qYes qe vs ρ Q ω ds := by
  refine v_kLcW (fun i ω' acc => ω' = ω ∧ acc = (ds.take i).map f) hl ⟨rfl, rfl⟩ hst (fun i d ω' acc hi ⟨e1, e2⟩ _ => ?_) (fun ω' acc ⟨e1, e2⟩ => by rw [e1, e2, List.take_length]; exact hd)
  subst e1 e2
  exact hs i d _ hi ⟨rfl, by rw [List.take_succ, hi, List.map_append] <;> rfl⟩
theorem v_kLcMI {ns : List Int} (f : Int → D) (hl : ns.length ≤ 1000000) (hst : still ρ vs = true)
    (hs : ∀ (i : Nat) (y : Int) (Q' : W.Ω → D → Prop), ns[i]? = some y → Q' ω (f y) → g (.int y) (wipeP ρ vs) fun ρ2 => wipeP ρ2 vs = wipeP ρ vs ∧ qe ω ρ2 Q' (fun _ _ => False))
    (hd : Q ω (.lst (ns.map f))) : kLcQ g qYes qe vs ρ Q ω (dInts ns) := by
  refine v_kLcM (fun d => match d with | .int y => f y | _ => .non) (by unfold dInts; rw [List.length_map]; exact hl) hst (fun i d Q' hi hq => ?_) (by unfold dInts; rw [List.map_map]; exact hd)
  unfold dInts at hi
  rw [List.getElem?_map] at hi
  obtain ⟨y, hy, rfl⟩ := Option.map_eq_some_iff.mp hi
  exact hs i y Q' hy hq
theorem v_V (h1 : slD ρ[n]? = some d) (h : Q ω d) : qV n ω ρ Q E := ⟨d, h1, h⟩
theorem v_Va (h1 : ρ[n]? = some (.va d)) (h : Q ω d) : qVa n ω ρ Q E := ⟨d, h1, h⟩
theorem v_C (h : Q ω d) : qC d ω ρ Q E := h
theorem v_op {f : D → D → (D → Prop) → Prop} (h : qa ω ρ (fun ω1 x => qb ω1 ρ (fun ω2 y => f x y (Q ω2)) E) E) : qOp f qa qb ω ρ Q E := h
theorem v_un {f : D → (D → Prop) → Prop} (h : qa ω ρ (fun ω1 x => f x (Q ω1)) E) : qUn f qa ω ρ Q E := h
theorem v_ca {f : List D → (D → Prop) → Prop} (h : qs ω ρ (fun ω1 xs => f xs (Q ω1)) E) : qCa f qs ω ρ Q E := h
theorem v_nil (h : QL ω []) : qNil ω ρ QL E := h
theorem v_cons (h : qa ω ρ (fun ω1 d => qs ω1 ρ (fun ω2 ds => QL ω2 (d :: ds)) E) E) : qCons qa qs ω ρ QL E := h
theorem v_star (h : qa ω ρ (fun ω1 d => ∃ ds, (d = .lst ds ∨ d = .tup ds) ∧ qs ω1 ρ (fun ω2 es => QL ω2 (ds ++ es)) E) E) : qStar qa qs ω ρ QL E := h
theorem v_sta {R : List D → Prop} (h : R ds) : ∃ ds', (D.lst ds = .lst ds' ∨ D.lst ds = .tup ds') ∧ R ds' := ⟨ds, .inl rfl, h⟩
theorem v_stb {R : List D → Prop} (h : R ds) : ∃ ds', (D.tup ds = .lst ds' ∨ D.tup ds = .tup ds') ∧ R ds' := ⟨ds, .inr rfl, h⟩
theorem v_sl {f : D → Option Int → Option Int → (D → Prop) → Prop} {lo hi : Option (QT W)} (h : qa ω ρ (fun ω1 x => qPart lo ω1 ρ (fun ω2 l => qPart hi ω2 ρ (fun ω3 u => f x l u (Q ω3)) E) E) E) : qSl f qa lo hi ω ρ Q E := h
theorem v_pn {R : W.Ω → Option Int → Prop} (h : R ω none) : qPart none ω ρ R E := h
theorem v_ps {R : W.Ω → Option Int → Prop} (h : q ω ρ (fun ω' y => ∃ i, y = .int i ∧ R ω' (some i)) E) : qPart (some q) ω ρ R E := h
theorem v_exi {R : Int → Prop} (h : R i) : ∃ j, D.int i = .int j ∧ R j := ⟨i, rfl, h⟩
theorem v_te (h : qa ω ρ (fun ω1 d => ∃ b, d = .bl b ∧ QB ω1 b) E) : qTe qa ω ρ QB E := h
theorem v_exb {b : Bool} (h : B1 b) : ∃ b', D.bl b = .bl b' ∧ B1 b' := ⟨b, rfl, h⟩
theorem v_tru (h : qa ω ρ (fun ω1 d => d.tru (QB ω1)) E) : qTru qa ω ρ QB E := h
theorem v_truL (h : B1 (!ds.isEmpty)) : (D.lst ds).tru B1 := h
theorem v_truT (h : B1 (!ds.isEmpty)) : (D.tup ds).tru B1 := h
theorem v_truB {b : Bool} (h : B1 b) : (D.bl b).tru B1 := h
theorem v_truN (h : B1 false) : D.non.tru B1 := h
theorem v_notT (h : qt ω ρ (fun ω1 b => QB ω1 (!b)) E) : qNotT qt ω ρ QB E := h
theorem v_andT (h : qt ω ρ (fun ω1 b => if b = true then qu ω1 ρ QB E else QB ω1 false) E) : qAndT qt qu ω ρ QB E := h
theorem v_orT (h : qt ω ρ (fun ω1 b => if b = true then QB ω1 true else qu ω1 ρ QB E) E) : qOrT qt qu ω ρ QB E := h
theorem v_yes (h : QB ω true) : qYes ω ρ QB E := h
theorem v_andV (h : qa ω ρ (fun ω1 d => ∃ b, d = .bl b ∧ if b = true then qb ω1 ρ Q E else Q ω1 (.bl false)) E) : qAndV qa qb ω ρ Q E := h
theorem v_orV (h : qa ω ρ (fun ω1 d => ∃ b, d = .bl b ∧ if b = true then Q ω1 (.bl true) else qb ω1 ρ Q E) E) : qOrV qa qb ω ρ Q E := h
theorem v_notV (h : qa ω ρ (fun ω1 d => ∃ b, d = .bl b ∧ Q ω1 (.bl (!b))) E) : qNotV qa ω ρ Q E := h
theorem v_chain {f f' : D → D → (D → Prop) → Prop} (h : qa ω ρ (fun ω1 x => qb ω1 ρ (fun ω2 y => f x y fun z => ∃ b, z = .bl b ∧ if b = true then qc ω2 ρ (fun ω3 w => f' y w (Q ω3)) E else Q ω2 (.bl false)) E) E) : qChain f f' qa qb qc ω ρ Q E := h
theorem v_ifE (h : qt ω ρ (fun ω1 b => if b = true then qa ω1 ρ Q E else qb ω1 ρ Q E) E) : qIfE qt qa qb ω ρ Q E := h
theorem v_fI0 {f : Int → Int → D} (h : Q1 (f i j)) : fI0 f (.int i) (.int j) Q1 := h
theorem v_fI {c : Int → Int → Prop} {f : Int → Int → D} (hc : c i j) (h : Q1 (f i j)) : fI c f (.int i) (.int j) Q1 := ⟨hc, h⟩
theorem v_eqI (h : Q1 (.bl (decide (i = j)))) : fEq (.int i) (.int j) Q1 := h
theorem v_neI (h : Q1 (.bl (!decide (i = j)))) : fNe (.int i) (.int j) Q1 := h
theorem v_eqS {x y : Str} (h : Q1 (.bl (decide (x = y)))) : fEq (.str x) (.str y) Q1 := h
theorem v_neS {x y : Str} (h : Q1 (.bl (!decide (x = y)))) : fNe (.str x) (.str y) Q1 := h
theorem v_eqB {x y : Bool} (h : Q1 (.bl (decide (x = y)))) : fEq (.bl x) (.bl y) Q1 := h
theorem v_neB {x y : Bool} (h : Q1 (.bl (!decide (x = y)))) : fNe (.bl x) (.bl y) Q1 := h
theorem v_eqD (k : Nat) (hk : k ≤ 64) (h1 : d.dep k = true) (h2 : e.dep k = true) (h : Q1 (.bl (deq d e))) : fEqD d e Q1 := ⟨k, hk, h1, h2, h⟩
theorem v_neD (k : Nat) (hk : k ≤ 64) (h1 : d.dep k = true) (h2 : e.dep k = true) (h : Q1 (.bl (!deq d e))) : fNeD d e Q1 := ⟨k, hk, h1, h2, h⟩
theorem v_isN {b : Bool} (h : Q1 (.bl (if b then !d.isNon else d.isNon))) : fIsN b d .non Q1 := ⟨rfl, h⟩
theorem v_neg (h : Q1 (.int (-i))) : fNeg (.int i) Q1 := h
theorem v_lenL (h : Q1 (.int ds.length)) : fLen [.lst ds] Q1 := h
theorem v_lenT (h : Q1 (.int ds.length)) : fLen [.tup ds] Q1 := h
theorem v_listL (h : Q1 (.lst ds)) : fList [.lst ds] Q1 := h
theorem v_listT (h : Q1 (.lst ds)) : fList [.tup ds] Q1 := h
theorem v_tupleL (h : Q1 (.tup ds)) : fTuple [.lst ds] Q1 := h
theorem v_tupleT (h : Q1 (.tup ds)) : fTuple [.tup ds] Q1 := h
theorem v_absI (h : Q1 (.int (if i < 0 then -i else i))) : fAbs [.int i] Q1 := h
theorem v_intI (h : Q1 (.int i)) : fInt [.int i] Q1 := h
theorem v_intB {b : Bool} (h : Q1 (.int (if b then 1 else 0))) : fInt [.bl b] Q1 := h
theorem v_fLst (hl : ds.length ≤ 1000000) (h : Q1 (.lst ds)) : fLst ds Q1 := ⟨hl, h⟩
theorem v_fTup (hl : ds.length ≤ 1000000) (h : Q1 (.tup ds)) : fTup ds Q1 := ⟨hl, h⟩
theorem v_ixL (h1 : atI ds i = some d) (h : Q1 d) : fIxL (.lst ds) (.int i) Q1 := ⟨d, h1, h⟩
theorem v_ixT (h1 : atI ds i = some d) (h : Q1 d) : fIxT (.tup ds) (.int i) Q1 := ⟨d, h1, h⟩
theorem v_catL (hl : ds.length + es.length ≤ 1000000) (h : Q1 (.lst (ds ++ es))) : fCat (.lst ds) (.lst es) Q1 := ⟨hl, h⟩
theorem v_catT (hl : ds.length + es.length ≤ 1000000) (h : Q1 (.tup (ds ++ es))) : fCatT (.tup ds) (.tup es) Q1 := ⟨hl, h⟩
theorem v_slL {lo hi : Option Int} (h : Q1 (.lst (cutD ds lo hi))) : fSlL (.lst ds) lo hi Q1 := h
theorem v_slT {lo hi : Option Int} (h : Q1 (.tup (cutD ds lo hi))) : fSlT (.tup ds) lo hi Q1 := h
theorem v_addS {x y : Str} (hl : x.length + y.length ≤ sizeLine) (h : Q1 (.str (x ++ y))) : fSS (fun i j => i.length + j.length ≤ sizeLine) (fun i j => .str (i ++ j)) (.str x) (.str y) Q1 := ⟨hl, h⟩
theorem v_fld {f : Str} {ns : List Str} {x : D} (h1 : (ns.zip ds).lookup f = some x) (h : Q1 x) : fFld C f (.ins C ns ds) Q1 := ⟨ns, ds, x, rfl, h1, h⟩
theorem v_call (h : qs ω ρ (fun ω1 ds => pf ω1 ds Q E) E) : qCall pf qs ω ρ Q E := h
theorem v_inW {pf : PSp W0} (h : pf () ds (fun _ d => Q ω d) fun _ x => E ω x) : inW W pf ω ds Q E := h
theorem v_pureP (h : pf ω ds (fun ω' d => d.pure = true ∧ Q ω' d) E) : pureP pf ω ds Q E := h
def kIns (C : Addr) (m : Str) (d : D) (R : Prop) : Prop := ∃ ns ds, d = .ins C ns ds ∧ m ∉ ns ∧ R
theorem v_meth (h : q ω ρ (fun ω1 d => kIns C m d (qs ω1 ρ (fun ω2 es => pf ω2 (d :: es) Q E) E)) E) : qMeth C m pf q qs ω ρ Q E := by
  have e : qMeth C m pf q qs ω ρ Q E = q ω ρ (fun ω1 d => kIns C m d (qs ω1 ρ (fun ω2 es => pf ω2 (d :: es) Q E) E)) E := by
    unfold qMeth
    rfl
  rw [e]
  exact h
theorem v_kIns {ns : List Str} {R : Prop} (h1 : m ∉ ns) (h : R) : kIns C m (.ins C ns ds) R := ⟨ns, ds, rfl, h1, h⟩
def kObj (C : Addr) (d : D) (R : Prop) : Prop := ∃ ns ds, d = .ins C ns ds ∧ R
theorem v_kObj {ns : List Str} {R : Prop} (h : R) : kObj C (.ins C ns ds) R := ⟨ns, ds, rfl, h⟩
theorem v_obj (h : q ω ρ (fun ω1 d => kObj C d (qs ω1 ρ (fun ω2 es => pf ω2 (d :: es) Q E) E)) E) : qObj C pf q qs ω ρ Q E := h
def kBin (C : Addr) (x y : D) (R : Prop) : Prop := ∃ ns ds ns' ds', x = .ins C ns ds ∧ y = .ins C ns' ds' ∧ R
theorem v_kBin {ns ns' : List Str} {R : Prop} (h : R) : kBin C (.ins C ns ds) (.ins C ns' es) R := ⟨ns, ds, ns', es, rfl, rfl, h⟩
theorem v_bin (h : qa ω ρ (fun ω1 x => qb ω1 ρ (fun ω2 y => kBin C x y (pf ω2 [x, y] Q E)) E) E) : qBin C pf qa qb ω ρ Q E := h
def kBinI (C : Addr) (x y : D) (R : Prop) : Prop := ∃ ns ds i, x = .ins C ns ds ∧ y = .int i ∧ R
theorem v_kBinI {ns : List Str} {R : Prop} (h : R) : kBinI C (.ins C ns ds) (.int i) R := ⟨ns, ds, i, rfl, rfl, h⟩
theorem v_binI (h : qa ω ρ (fun ω1 x => qb ω1 ρ (fun ω2 y => kBinI C x y (pf ω2 [x, y] Q E)) E) E) : qBinI C pf qa qb ω ρ Q E := h
theorem v_inv (h : qa ω ρ (fun ω1 x => kObj C x (pf ω1 [x] Q E)) E) : qInv C pf qa ω ρ Q E := h
def kAdr (C : Addr) (d : D) (R : Prop) : Prop := d = .adr C ∧ R
theorem v_kAdr {R : Prop} (h : R) : kAdr C (.adr C) R := ⟨rfl, h⟩
theorem v_make {pf : PSp W0} (h : q ω ρ (fun ω0 d => kAdr C d (qs ω0 ρ (fun ω1 ds => inW W pf ω1 ds Q E) E)) E) : qMake C pf q qs ω ρ Q E := h
theorem v_cmeth (h : q ω ρ (fun ω0 d => kAdr C d (qs ω0 ρ (fun ω1 ds => pf ω1 (.adr C :: ds) Q E) E)) E) : qCMeth C pf q qs ω ρ Q E := h
def kLenO (C : Addr) (ds : List D) (R : Prop) : Prop := ∃ ns es, ds = [.ins C ns es] ∧ R
theorem v_kLenO {ns : List Str} {R : Prop} (h : R) : kLenO C [.ins C ns ds] R := ⟨ns, ds, rfl, h⟩
def kN63 (d : D) (R : Prop) : Prop := ∃ n : Int, d = .int n ∧ 0 ≤ n ∧ n < 2 ^ 63 ∧ R
theorem v_kN63 {R : Prop} (h0 : 0 ≤ i) (h1 : i < 1000000000) (h : R) : kN63 (.int i) R := ⟨i, rfl, h0, by omega, h⟩
theorem v_lenO (h : qs ω ρ (fun ω1 ds => kLenO C ds (pf ω1 ds (fun ω' d => kN63 d (Q ω' d)) (fun _ _ => False))) E) : qLenO C pf qs ω ρ Q E := h
theorem v_listRg {qr : QTR W} (h : qr ω ρ (fun ω1 i j => RgOk i j ∧ Q ω1 (.lst (dInts (rgI i j)))) E) : qListRg qr ω ρ Q E := h
theorem v_tupRg {qr : QTR W} (h : qr ω ρ (fun ω1 i j => RgOk i j ∧ Q ω1 (.tup (dInts (rgI i j)))) E) : qTupRg qr ω ρ Q E := h
theorem v_rg1 {R : W.Ω → Int → Int → Prop} (h : qa ω ρ (fun ω1 x => ∃ n, x = .int n ∧ R ω1 0 n) E) : qRg1 qa ω ρ R E := h
def kTwo (x y : D) (R : Int → Int → Prop) : Prop := ∃ n k', x = .int n ∧ y = .int k' ∧ R n k'
theorem v_kTwo {R : Int → Int → Prop} (h : R i j) : kTwo (.int i) (.int j) R := ⟨i, j, rfl, rfl, h⟩
theorem v_rg2 {R : W.Ω → Int → Int → Prop} (h : qa ω ρ (fun ω1 x => qb ω1 ρ (fun ω2 y => kTwo x y fun n k => R ω2 n k) E) E) : qRg2 qa qb ω ρ R E := h
end
theorem v_try {K : PySem.W.Frag} {W : Wrl} {s : QTS W} {l : Cls3 W} {P : PEn W} {ω : W.Ω} {ρ : List Sl} (h : s { P with ex := fun ω x ρ => hsel K l P ω x ρ } ω ρ) : sTry K s l P ω ρ := h
end LW
namespace LW
open PySem PySem.Spec PyProof.Rows L2
theorem wipeP_get {ρ : List Sl} {j : Nat} : ∀ {vs : List Nat}, (wipeP ρ vs)[j]? = if j ∈ vs then (if j < ρ.length then some .no else none) else ρ[j]?
  | [] => by simp [wipeP]
  | v :: vs => by
    have ih := @wipeP_get ρ j vs
    have hl : ∀ vs : List Nat, (wipeP ρ vs).length = ρ.length := fun vs => by
      induction vs with
      | nil => rfl
      | cons v vs ih => show ((wipeP ρ vs).set v .no).length = _; rw [List.length_set, ih]
    show ((wipeP ρ vs).set v .no)[j]? = _
    rw [List.getElem?_set, hl]
    by_cases e : v = j
    · subst e
      rw [if_pos rfl, if_pos List.mem_cons_self]
    · rw [if_neg e, ih]
      have : (j ∈ v :: vs) ↔ j ∈ vs := by
        rw [List.mem_cons]
        exact ⟨fun h => h.resolve_left fun z => e z.symm, .inr⟩
      simp only [this]
theorem wipeP_len {ρ : List Sl} : ∀ vs : List Nat, (wipeP ρ vs).length = ρ.length
  | [] => rfl
  | v :: vs => by show ((wipeP ρ vs).set v .no).length = _; rw [List.length_set, wipeP_len vs]
theorem wipeP_sub {ρ : List Sl} {vs vs1 : List Nat} (h : ∀ j, j ∈ vs1 → j ∈ vs) : wipeP (wipeP ρ vs1) vs = wipeP ρ vs := by
  refine List.ext_getElem? fun j => ?_
  rw [wipeP_get, wipeP_get, wipeP_len, wipeP_get]
  by_cases e : j ∈ vs
  · rw [if_pos e, if_pos e]
  · rw [if_neg e, if_neg e, if_neg fun z => e (h j z)]
theorem wipe_sub {σ : L2.St} {vs vs1 : List Nat} (h : ∀ j, j ∈ vs1 → j ∈ vs) : L2.wipe (L2.wipe σ vs1) vs = L2.wipe σ vs := by
  refine List.ext_getElem? fun j => ?_
  rw [wipe_get, wipe_get, wipe_length, wipe_get]
  by_cases e : j ∈ vs
  · rw [if_pos e, if_pos e]
  · rw [if_neg e, if_neg e, if_neg fun z => e (h j z)]
section
variable {X : Cx} {W : Wrl} {Wo : WX} {mi mi1 m : Md} {qi qi1 : QTI W} {g g1 : QTG} {qt1 : QTT W} {qe : QT W} {vs vs1 ts ts1 : List Nat} {ifs1 : List Expr}
def kLc2 (qi1 : QTI W) (g g1 : QTG) (qt1 : QTT W) (qe : QT W) (vs vs1 : List Nat) (ρ : List Sl) (Q : W.Ω → D → Prop) (ω1 : W.Ω) (ds : List D) : Prop := still ρ vs = true ∧ ∃ I : Nat → W.Ω → List D → Prop, I 0 ω1 [] ∧
  (∀ i d ω acc, ds[i]? = some d → I i ω acc → g d (wipeP ρ vs) fun ρ2 => wipeP ρ2 vs = wipeP ρ vs ∧ qi1 ω ρ2 (fun ω2 es => ∃ J : Nat → W.Ω → List D → Prop, J 0 ω2 acc ∧
    (∀ j e ω acc, es[j]? = some e → J j ω acc → acc.length < 1000000 ∧ g1 e (wipeP ρ2 vs1) fun ρ3 => wipeP ρ3 vs1 = wipeP ρ2 vs1 ∧ qt1 ω ρ3 (fun ω3 b => if b = true then qe ω3 ρ3 (fun ω4 y => J (j + 1) ω4 (acc ++ [y])) (fun _ _ => False) else J (j + 1) ω3 acc) (fun _ _ => False)) ∧
    ∀ ω acc, J es.length ω acc → I (i + 1) ω acc) (fun _ _ => False)) ∧ ∀ ω acc, I ds.length ω acc → Q ω (.lst acc)
def qLc2 (qi qi1 : QTI W) (g g1 : QTG) (qt1 : QTT W) (qe : QT W) (vs vs1 : List Nat) : QT W := fun ω ρ Q E => qi ω ρ (fun ω1 ds => kLc2 qi1 g g1 qt1 qe vs vs1 ρ Q ω1 ds) E
theorem lf_lc2 {K : PySem.W.Frag} (hts : ∀ j, j ∈ ts → j ∈ vs) (hts1 : ∀ j, j ∈ ts1 → j ∈ vs1) (hv1 : ∀ j, j ∈ vs1 → j ∈ vs) (σ : L2.St) (H : Hp) (Q : VK) (h : lfE .F K W Wo (qLc2 qi qi1 g g1 qt1 qe vs vs1) σ H Q) :
    tLc2 (lfI mi K W Wo qi) (lfG mi K W ts g) (lfT K W Wo0 qYes) (lfI mi1 K W Wo0 qi1) (lfG mi1 K W ts1 g1) (lfT K W Wo0 qt1) (lfE .A K W Wo0 qe) vs vs1 σ H Q := by
  obtain ⟨F, T, ω, ρ, Qp, Ep, R, q, hx, k⟩ := h
  refine ⟨F, T, ω, ρ, _, Ep, R, q, hx, fun T1 ω1 h ds J H1 R1 e1 it ⟨hst, I, i0, hstep, hend⟩ B hB => ?_⟩
  obtain ⟨hv, Rw, back⟩ := wipeHid vs hst R1
  have F1B : F.H B = none := R1.gr.live B hB
  have Rg := Rw.guard hB (.lst [])
  have eB : Ext T1 H1 T1 (upd H1 B (.lst [])) := Ext.of0 (GrP.new hB)
  generalize hF : ((F.add h).add hv).grd B = F' at Rg
  have SB : F'.S B := by rw [← hF]; exact .inr rfl
  have FB : F'.H B = none := by rw [← hF]; exact F1B
  have hh : ∀ p, p ∈ h → p ∈ F'.hid := fun p hp => by rw [← hF]; exact List.mem_append_right _ (List.mem_append_left _ hp)
  have hhv : ∀ p, p ∈ hv → p ∈ ((F.add h).add hv).hid := fun p hp => List.mem_append_left _ hp
  have ext : ∀ {T H T' H' : _} {acc : List D} {xs : List V}, Ext T H T' H' → RepsA K H (Spr F' T (wipeP ρ vs)) acc xs → RepsA K H' (Spr F' T' (wipeP ρ vs)) acc xs := fun e r => r.ext e.gr (fun a t => .inl (.inr (.inl t))) (Spr.ext e)
  refine ⟨fun i n H => i + n = ds.length ∧ ∃ T ω acc xs, Rel K W F' T ω (wipeP ρ vs) (L2.wipe σ vs) H ∧ Ext T1 H1 T H ∧ H B = some (.lst xs) ∧ RepsA K H (Spr F' T (wipeP ρ vs)) acc xs ∧ I i ω acc, ⟨ds.length, by omega, T1, ω1, [], [], Rg, eB, upd_same, .nil, i0⟩, fun i n H2 ⟨hn, T2, ω2, acc, xs, R2, e2, hB2, ra, q2⟩ => ?_⟩
  obtain ⟨h1, h2, h3⟩ := it _ T2 ω2 _ _ H2 hh R2 i
  rcases Nat.lt_or_ge i ds.length with hi | hi
  · refine .inr ⟨h1 hi, fun H' => ∃ T ω acc xs, Rel K W F' T ω (wipeP ρ vs) (L2.wipe σ vs) H' ∧ Ext T1 H1 T H' ∧ H' B = some (.lst xs) ∧ RepsA K H' (Spr F' T (wipeP ρ vs)) acc xs ∧ I (i + 1) ω acc, fun H' q => ⟨n - 1, by omega, by omega, q⟩, fun x H3 hy => ?_⟩
    obtain ⟨g3, rx⟩ := h3 ds[i] x H3 (List.getElem?_eq_getElem hi) hy
    have R3 := R2.grow g3
    have x3 : Ext T2 H2 T2 H3 := Ext.of0 g3
    refine ⟨_, T2, ω2, _, ds[i], _, R3, rx, hstep i _ ω2 acc (List.getElem?_eq_getElem hi) q2, fun ρ4 σ4 R4 l4 f4 ⟨w4, q4⟩ => ⟨wipe_same l4 f4 hts, _, T2, ω2, ρ4, fun ω' b => b = true ∧ qi1 ω' ρ4 _ _, fun _ _ => False, R4, ⟨rfl, q4⟩, fun _ _ _ _ _ _ _ _ z => z, fun T5 ω5 b H5 R5 e5 ⟨hb, q5⟩ => ?_⟩⟩
    subst hb
    rw [if_pos rfl]
    have sw : L2.wipe σ4 vs = L2.wipe σ vs := wipe_same l4 f4 hts
    refine ⟨_, T5, ω5, ρ4, _, _, R5, q5, fun _ _ _ _ _ _ _ _ z => z, fun T6 ω6 h6 es J1 H6 R6 e6 it1 ⟨Jv, j0, jstep, jend⟩ => ?_⟩
    have eI : Ext T2 H2 T6 H6 := x3.trans (e5.trans e6)
    have hB6 : H6 B = some (.lst xs) := eI.gr.keep _ _ hB2 (.inr (R2.s0 B SB).2)
    refine ⟨fun j n H => j + n = es.length ∧ ∃ T ω acc xs, Rel K W (F'.add h6) T ω (wipeP ρ4 vs1) (L2.wipe σ4 vs1) H ∧ Ext T1 H1 T H ∧ H B = some (.lst xs) ∧ RepsA K H (Spr F' T (wipeP ρ vs)) acc xs ∧ Jv j ω acc, ⟨es.length, by omega, T6, ω6, acc, xs, R6.wipe vs1, e2.trans eI, hB6, ext eI ra, j0⟩, fun j n H7 ⟨hn7, T7, ω7, acc7, xs7, R7, e7, hB7, ra7, q7⟩ => ?_⟩
    obtain ⟨k1, k2, k3⟩ := it1 (F'.add h6) T7 ω7 _ _ H7 (fun p hp => List.mem_append_left _ hp) R7 j
    rcases Nat.lt_or_ge j es.length with hj | hj
    · refine .inr ⟨k1 hj, fun H' => ∃ T ω acc xs, Rel K W (F'.add h6) T ω (wipeP ρ4 vs1) (L2.wipe σ4 vs1) H' ∧ Ext T1 H1 T H' ∧ H' B = some (.lst xs) ∧ RepsA K H' (Spr F' T (wipeP ρ vs)) acc xs ∧ Jv (j + 1) ω acc, fun H' q => ⟨n - 1, by omega, by omega, q⟩, fun x8 H8 hy8 => ?_⟩
      obtain ⟨g8, rx8⟩ := k3 es[j] x8 H8 (List.getElem?_eq_getElem hj) hy8
      obtain ⟨hl7, js⟩ := jstep j _ ω7 acc7 (List.getElem?_eq_getElem hj) q7
      have R8 := R7.grow g8
      have x8' : Ext T7 H7 T7 H8 := Ext.of0 g8
      refine ⟨_, T7, ω7, _, es[j], _, R8, rx8, js, fun ρ9 σ9 R9 l9 f9 ⟨w9, q9⟩ => ⟨wipe_same l9 f9 hts1, _, T7, ω7, ρ9, _, _, R9, q9, fun _ _ _ _ _ _ _ _ z => z, fun T10 ω10 b H10 R10 e10 q10 => ?_⟩⟩
      have sw9 : L2.wipe σ9 vs1 = L2.wipe σ4 vs1 := wipe_same l9 f9 hts1
      have done : ∀ T11 ω11 H11, Rel K W (F'.add h6) T11 ω11 ρ9 σ9 H11 → Ext T7 H8 T11 H11 → Rel K W (F'.add h6) T11 ω11 (wipeP ρ4 vs1) (L2.wipe σ4 vs1) H11 ∧ Ext T1 H1 T11 H11 ∧ H11 B = some (.lst xs7) ∧ RepsA K H11 (Spr F' T11 (wipeP ρ vs)) acc7 xs7 := fun T11 ω11 H11 R11 e11 => by
        have z := R11.wipe vs1
        rw [w9, sw9] at z
        exact ⟨z, e7.trans (x8'.trans e11), (x8'.trans e11).gr.keep _ _ hB7 (.inr (R7.s0 B SB).2), ext (x8'.trans e11) ra7⟩
      cases b with
      | false =>
        obtain ⟨z1, z2, z3, z4⟩ := done T10 ω10 H10 R10 e10
        exact ⟨T10, ω10, acc7, xs7, z1, z2, z3, z4, q10⟩
      | true =>
        refine ⟨_, T10, ω10, ρ9, _, _, R10, q10, fun _ _ _ _ _ _ _ _ z => z, fun T11 ω11 y w H11 R11 e11 r11 q11 => ?_⟩
        obtain ⟨z1, z2, z3, z4⟩ := done T11 ω11 H11 R11 (e10.trans e11)
        have gD : GrP (fun a => a = B) H11 (upd H11 B (.lst (xs7 ++ [w]))) := GrP.wr rfl fun u hu => by rw [z3] at hu; cases hu; rfl
        have ew : wipeP ρ9 vs = wipeP ρ vs := by rw [← wipeP_sub (ρ := ρ9) hv1, w9, wipeP_sub hv1, w4]
        have ry : RepA K H11 (Spr F' T11 (wipeP ρ vs)) y w := RepA.less r11 fun a z => by
          rcases z with z | z | z
          · exact .inl z
          · exact .inr (.inl z)
          · exact .inr (.inr ((owns_wipe_sub vs).subset (by rw [ew]; exact z)))
        have hxl : xs7.length < 1000000 := by have := z4.len; omega
        refine ⟨xs7, z3, Nat.lt_of_lt_of_le hxl (by decide), T11, ω11, acc7 ++ [y], xs7 ++ [w], z1.wrS SB FB (fun u hu => by rw [z3] at hu; cases hu; rfl), ⟨z2.gr.trans gD fun a z => by rw [z]; exact .inr hB, z2.tn⟩, upd_same, ?_, q11⟩
        exact (RepsA.append (.cons ry .nil) z4).ext gD (fun a z => by rw [z]; exact .inl (.inl SB)) fun a z => .inl z
    · have : j = es.length := by omega
      subst this
      refine .inl ⟨k2 hj, ?_⟩
      have z := R7.drop.wipe vs
      rw [wipeP_sub hv1, wipe_sub hv1, w4, sw] at z
      exact ⟨T7, ω7, acc7, xs7, z, e7, hB7, ra7, jend ω7 acc7 q7⟩
  · have : i = ds.length := by omega
    subst this
    refine .inl ⟨h2 hi, ?_⟩
    subst hF
    have Rf : Rel K W F T2 ω2 ρ σ H2 := (back _ T2 ω2 H2 hhv R2.unguard).drop.drop
    refine k T2 ω2 (.lst acc) (.ref B) H2 Rf (e1.trans e2) ⟨B, xs, acc, rfl, rfl, e1.gr.live B hB, fun z => ?_, hB2, ra.less fun a z => ?_⟩ (hend ω2 acc q2)
    · rcases z with z | z | z
      · exact (R1.s0 B z).1 hB
      · exact (R2.s0 B (.inr rfl)).2 z
      · exact R1.spl B (.inr (.inr z)) hB
    · rcases z with (z | z | z) | z
      · exact .inl (.inl z)
      · exact .inr (.inl z)
      · exact .inr (.inr (by rw [owns_wipe hst]; exact z))
      · exact .inl (.inr z)
variable {elt tg iter tg1 iter1 : Expr} {scope : Scope} {own : List (Str × Nat)} {pos spos py : Pos} {i : Nat} {y : Str}
variable {mr : Md}
theorem qs_setLc2 (hc : X.calm = true) (hN : X.N.Nodup) (hy : X.N[i]? = some y) (hyl : X.env.scope.names.lookup y = some .local)
    (hsw : swapsWith (.ListComp elt [⟨tg, iter, [], 0⟩, ⟨tg1, iter1, ifs1, 0⟩] scope pos) (some (.Name y py)) spos.line X.env = pure true) (hi : QI X mi W Wo tg iter qi) (ok : BlkOk X.N X.env.scope scope own)
    (hg : ∀ (s : Shared) (H : Hp) (C : Addr) (cl : List (Str × Addr)) (fp : List Addr), QG (X.blk s H scope (compEnvC scope cl C X.env) fp) mi W tg ts g)
    (hi1 : ∀ (s : Shared) (H : Hp) (C : Addr) (cl : List (Str × Addr)) (fp : List Addr), QI (X.blk s H scope (compEnvC scope cl C X.env) fp) mi1 W Wo0 tg1 iter1 qi1)
    (hg1 : ∀ (s : Shared) (H : Hp) (C : Addr) (cl : List (Str × Addr)) (fp : List Addr), QG (X.blk s H scope (compEnvC scope cl C X.env) fp) mi1 W tg1 ts1 g1)
    (ht1 : ∀ (s : Shared) (H : Hp) (C : Addr) (cl : List (Str × Addr)) (fp : List Addr), QTs (X.blk s H scope (compEnvC scope cl C X.env) fp) W Wo0 ifs1 qt1)
    (he : ∀ (s : Shared) (H : Hp) (C : Addr) (cl : List (Str × Addr)) (fp : List Addr), QE (X.blk s H scope (compEnvC scope cl C X.env) fp) .A W Wo0 elt qe)
    (hts : ∀ j, j ∈ ts → j ∈ own.map (·.2) := by decide) (hts1 : ∀ j, j ∈ ts1 → j ∈ vs1 := by decide) (hv1 : ∀ j, j ∈ vs1 → j ∈ own.map (·.2) := by decide) (hs : ∀ x, foldedSetIterable iter X.env x = pure x := by intro _; rfl) (hs1 : ∀ env x, foldedSetIterable iter1 env x = pure x := by intro _ _; rfl) :
    QS X mr W Wo (.Assign [.Name y py] (.ListComp elt [⟨tg, iter, [], 0⟩, ⟨tg1, iter1, ifs1, 0⟩] scope pos) spos) (sSet i (qLc2 qi qi1 g g1 qt1 qe (own.map (·.2)) vs1)) :=
  PS.imp (ps_setLc2 (g := lfG mi X.K W ts g) (tt := lfT X.K W Wo0 qYes) (g1 := lfG mi1 X.K W ts1 g1) (tt1 := lfT X.K W Wo0 qt1) (te := lfE .A X.K W Wo0 qe) (wi1 := lfI mi1 X.K W Wo0 qi1) hc hN hy hyl hsw hi ok hv1 hg (fun _ _ _ _ _ => qts_nil) hi1 hg1 ht1 he hs hs1) fun D σ H ⟨F, T, ω, ρ, P, R, q, S⟩ => lf_lc2 hts hts1 hv1 σ H _
    ⟨F, T, ω, ρ, _, _, R, q, S.xok, fun T' ω' d v H' R' e r q' => S.nx T' ω' _ _ H' (R'.set_va (RF.a r) i) q'⟩
end
section
variable {W : Wrl} {ω : W.Ω} {ρ : List Sl} {Q : W.Ω → D → Prop} {E : W.Ω → Exn → Prop} {qi qi1 : QTI W} {g g1 : QTG} {qt1 : QTT W} {qe : QT W} {vs vs1 : List Nat} {ds : List D}
theorem v_lc2 (h : qi ω ρ (fun ω1 ds => kLc2 qi1 g g1 qt1 qe vs vs1 ρ Q ω1 ds) E) : qLc2 qi qi1 g g1 qt1 qe vs vs1 ω ρ Q E := h
def kLc2i (g1 : QTG) (qt1 : QTT W) (qe : QT W) (vs1 : List Nat) (ρ2 : List Sl) (Z : W.Ω → List D → Prop) (acc : List D) (ω2 : W.Ω) (es : List D) : Prop := ∃ J : Nat → W.Ω → List D → Prop, J 0 ω2 acc ∧
    (∀ j e ω acc, es[j]? = some e → J j ω acc → acc.length < 1000000 ∧ g1 e (wipeP ρ2 vs1) fun ρ3 => wipeP ρ3 vs1 = wipeP ρ2 vs1 ∧ qt1 ω ρ3 (fun ω3 b => if b = true then qe ω3 ρ3 (fun ω4 y => J (j + 1) ω4 (acc ++ [y])) (fun _ _ => False) else J (j + 1) ω3 acc) (fun _ _ => False)) ∧
    ∀ ω acc, J es.length ω acc → Z ω acc
theorem v_kLc2 (I : Nat → W.Ω → List D → Prop) (hst : still ρ vs = true) (h0 : I 0 ω [])
    (hs : ∀ i d ω acc, ds[i]? = some d → I i ω acc → g d (wipeP ρ vs) fun ρ2 => wipeP ρ2 vs = wipeP ρ vs ∧ qi1 ω ρ2 (fun ω2 es => kLc2i g1 qt1 qe vs1 ρ2 (I (i + 1)) acc ω2 es) (fun _ _ => False))
    (hd : ∀ ω acc, I ds.length ω acc → Q ω (.lst acc)) : kLc2 qi1 g g1 qt1 qe vs vs1 ρ Q ω ds := ⟨hst, I, h0, hs, hd⟩
theorem v_kLc2i {ρ2 : List Sl} {Z : W.Ω → List D → Prop} {acc es : List D} (J : Nat → W.Ω → List D → Prop) (h0 : J 0 ω acc)
    (hs : ∀ j e ω acc, es[j]? = some e → J j ω acc → acc.length < 1000000 ∧ g1 e (wipeP ρ2 vs1) fun ρ3 => wipeP ρ3 vs1 = wipeP ρ2 vs1 ∧ qt1 ω ρ3 (fun ω3 b => if b = true then qe ω3 ρ3 (fun ω4 y => J (j + 1) ω4 (acc ++ [y])) (fun _ _ => False) else J (j + 1) ω3 acc) (fun _ _ => False))
    (hd : ∀ ω acc, J es.length ω acc → Z ω acc) : kLc2i g1 qt1 qe vs1 ρ2 Z acc ω es := ⟨J, h0, hs, hd⟩
end
end LW
namespace LW
open PySem
open Sem (wp)
def deadK : Resume → Sem PySem.Fin := fun _ => .unsupported "asleep"
def offG : GenState → GenState
  | .suspended _ l c p fs cl => .suspended deadK l c p fs cl
  | g => g
def isSus : GenState → Bool
  | .suspended .. => true
  | _ => false
def NoG (fs : List Frame) : Prop := ∀ F ∈ fs, ∃ k h g l c p kp, F = .ret k h g l c p kp
theorem NoG.nil : NoG [] := fun _ h => by cases h
theorem NoG.cons {k h g l c p kp fs} (x : NoG fs) : NoG (.ret k h g l c p kp :: fs) := fun F hF => by
  rcases List.mem_cons.mp hF with rfl | hF
  · exact ⟨_, _, _, _, _, _, _, rfl⟩
  · exact x F hF
theorem NoG.append {a b : List Frame} (x : NoG a) (y : NoG b) : NoG (a ++ b) := fun F hF => (List.mem_append.mp hF).elim (x F) (y F)
theorem NoG.split : ∀ {fs : List Frame}, NoG fs → splitAtGen fs = none
  | [], _ => rfl
  | F :: fs, x => by
    obtain ⟨k, h, g, l, c, p, kp, rfl⟩ := x F List.mem_cons_self
    show (splitAtGen fs).map _ = none
    rw [NoG.split fun G hG => x G (List.mem_cons_of_mem _ hG)]
    rfl
structure OffG (O : Nat → Prop) (g0 G T : Array GenState) : Prop where
  size : G.size = T.size
  off : ∀ i, O i → G[i]? = g0[i]? ∧ ∃ k l c p fs cl, G[i]? = some (.suspended k l c p fs cl) ∧ T[i]? = some (.suspended deadK l c p fs cl)
  on : ∀ i, ¬ O i → G[i]? = T[i]? ∧ ∀ k l c p fs cl, T[i]? = some (.suspended k l c p fs cl) → NoG fs
def NoGS : GenState → Prop
  | .suspended _ _ _ _ fs _ => NoG fs
  | _ => True
def NoGE : End → Prop
  | .susp _ _ _ _ _ _ fs => NoG fs
  | _ => True
theorem NoGE.st {e : End} (h : NoGE e) : NoGS e.genState := by
  cases e with
  | ret r => trivial
  | susp v g l k c p fs => exact h
variable {O : Nat → Prop} {g0 G T : Array GenState} {M : Model}
theorem getSet {A : Array GenState} {g i : Nat} {x : GenState} : (A.setIfInBounds g x)[i]? = if i = g then (if g < A.size then some x else none) else A[i]? := by
  rw [Array.getElem?_setIfInBounds]
  by_cases h : g = i
  · subst h
    simp
  · rw [if_neg h, if_neg (fun z => h z.symm)]
theorem OffG.set {g : Nat} {x : GenState} (h : OffG O g0 G T) (hg : ¬ O g) (hx : NoGS x) : OffG O g0 (G.setIfInBounds g x) (T.setIfInBounds g x) where
  size := by rw [Array.size_setIfInBounds, Array.size_setIfInBounds]; exact h.size
  off i hi := by
    have hn : i ≠ g := fun z => hg (z ▸ hi)
    rw [getSet, if_neg hn, getSet, if_neg hn]
    exact h.off i hi
  on i hi := by
    rw [getSet (A := G), getSet (A := T), h.size]
    by_cases hn : i = g
    · rw [if_pos hn, if_pos hn]
      refine ⟨rfl, fun k l c p fs cl e => ?_⟩
      split at e
      · cases e; exact hx
      · cases e
    · rw [if_neg hn, if_neg hn]
      exact h.on i hi
theorem OffG.push {c : Code} (h : OffG O g0 G T) (hO : ∀ i, O i → i < G.size) : OffG O g0 (G.push (.fresh c)) (T.push (.fresh c)) where
  size := by rw [Array.size_push, Array.size_push, h.size]
  off i hi := by
    have h1 := hO i hi
    have h2 : i < T.size := by rw [← h.size]; exact h1
    have := h.off i hi
    rw [Array.getElem?_eq_getElem h1, Array.getElem?_eq_getElem h2] at this
    rw [Array.getElem?_push_lt h1, Array.getElem?_push_lt h2]
    exact this
  on i hi := by
    rw [Array.getElem?_push, Array.getElem?_push, h.size]
    split
    · exact ⟨rfl, fun k l c p fs cl e => by cases e⟩
    · exact h.on i hi
theorem OffG.lt {i : Nat} (h : OffG O g0 G T) (hi : O i) : i < G.size := by
  obtain ⟨_, k, l, c, p, fs, cl, e, _⟩ := h.off i hi
  exact (Array.getElem?_eq_some_iff.mp e).1
theorem OffG.notO {i : Nat} {y : GenState} (h : OffG O g0 G T) (e : T[i]? = some y) (hy : isSus y = false) : ¬ O i := fun z => by
  obtain ⟨_, k, l, c, p, fs, cl, _, e2⟩ := h.off i z
  rw [e] at e2
  cases e2
  cases hy
theorem OffG.seen {i : Nat} {x : GenState} (h : OffG O g0 G T) (e : T[i]? = some x) : ∃ y, G[i]? = some y ∧ y.seen = x.seen := by
  by_cases hi : O i
  · obtain ⟨_, k, l, c, p, fs, cl, e1, e2⟩ := h.off i hi
    rw [e2] at e
    cases e
    exact ⟨_, e1, rfl⟩
  · exact ⟨x, (h.on i hi).1.trans e, rfl⟩
theorem dead_runs {Γ : Ctx} {p : Pos} {w : String} {fs : List Frame} {s s' : Shared} {e : End} : ¬ Runs M Γ p (.unsupported w) fs s e s' := by
  intro h
  cases h with
  | segRet h1 _ => cases h1
  | segGen h1 _ => cases h1
  | segSuspOut _ h1 => cases h1
  | segSuspGen _ h1 _ _ => cases h1
theorem runs_off {Γ : Ctx} {p : Pos} {t : Sem PySem.Fin} {fs : List Frame} {s s' : Shared} {e : End} (h : Runs M Γ p t fs s e s') : NoG fs → ∀ G, OffG O g0 G s.gens →
    ∃ G', Runs M Γ p t fs { s with gens := G } e { s' with gens := G' } ∧ OffG O g0 G' s'.gens ∧ NoGE e := by
  induction h with
  | done => intro _ G r; exact ⟨G, .done, r, trivial⟩
  | raise => intro _ G r; exact ⟨G, .raise, r, trivial⟩
  | again hq _ ih => intro n G r; obtain ⟨G', a, b, c⟩ := ih n G r; exact ⟨G', .again hq a, b, c⟩
  | rule _ ih => intro n G r; obtain ⟨G', a, b, c⟩ := ih n G r; exact ⟨G', .rule a, b, c⟩
  | «at» _ ih => intro n G r; obtain ⟨G', a, b, c⟩ := ih n G r; exact ⟨G', .at a, b, c⟩
  | load ho _ ih => intro n G r; obtain ⟨G', a, b, c⟩ := ih n G r; exact ⟨G', .load ho a, b, c⟩
  | update ho _ ih => intro n G r; obtain ⟨G', a, b, c⟩ := ih n G r; exact ⟨G', .update ho a, b, c⟩
  | loadIfAlive _ ih => intro n G r; obtain ⟨G', a, b, c⟩ := ih n G r; exact ⟨G', .loadIfAlive a, b, c⟩
  | point _ ih => intro n G r; obtain ⟨G', a, b, c⟩ := ih n G r; exact ⟨G', .point a, b, c⟩
  | alloc _ ih => intro n G r; obtain ⟨G', a, b, c⟩ := ih n G r; exact ⟨G', .alloc a, b, c⟩
  | fresh _ ih => intro n G r; obtain ⟨G', a, b, c⟩ := ih n G r; exact ⟨G', .fresh a, b, c⟩
  | ask _ ih => intro n G r; obtain ⟨G', a, b, c⟩ := ih n G r; exact ⟨G', .ask a, b, c⟩
  | choose hn _ ih => intro n G r; obtain ⟨G', a, b, c⟩ := ih n G r; exact ⟨G', .choose hn a, b, c⟩
  | os _ ih => intro n G r; obtain ⟨G', a, b, c⟩ := ih n G r; exact ⟨G', .os a, b, c⟩
  | handled _ ih => intro n G r; obtain ⟨G', a, b, c⟩ := ih n G r; exact ⟨G', .handled a, b, c⟩
  | genState hg _ ih =>
    intro n G r
    obtain ⟨y, hy, e⟩ := r.seen hg
    obtain ⟨G', a, b, c⟩ := ih n G r
    exact ⟨G', .genState hy (by rw [e]; exact a), b, c⟩
  | stack _ ih => intro n G r; obtain ⟨G', a, b, c⟩ := ih n G r; exact ⟨G', .stack a, b, c⟩
  | thread _ ih => intro n G r; obtain ⟨G', a, b, c⟩ := ih n G r; exact ⟨G', .thread a, b, c⟩
  | @newGen Γ p k s e s' c _ ih =>
    intro n G r
    obtain ⟨G', a, b, d⟩ := ih n (G.push (.fresh c)) (r.push fun i hi => r.lt hi)
    exact ⟨G', .newGen (by show Runs M Γ p (k G.size) _ _ _ _; rw [r.size]; exact a), b, d⟩
  | call _ _ ih1 ih2 =>
    intro n G r
    obtain ⟨G1, a1, b1, _⟩ := ih1 .nil G r
    obtain ⟨G2, a2, b2, c2⟩ := ih2 n G1 b1
    exact ⟨G2, .call a1 a2, b2, c2⟩
  | callSusp _ ih =>
    intro n G r
    obtain ⟨G1, a1, b1, c1⟩ := ih .nil G r
    exact ⟨G1, .callSusp a1, b1, NoG.append c1 (.cons .nil)⟩
  | yield => intro _ G r; exact ⟨G, .yield, r, NoG.nil⟩
  | @resumeFresh Γ p g l k s c e₁ s₁ e s' hg _ hq _ ih1 ih2 =>
    intro n G r
    have hO : ¬ O g := fun z => by
      obtain ⟨_, k, l, c, p, fs, cl, _, e⟩ := r.off g z
      rw [hg] at e; cases e
    obtain ⟨G1, a1, b1, c1⟩ := ih1 .nil (G.setIfInBounds g .running) (r.set hO (x := .running) trivial)
    obtain ⟨G2, a2, b2, c2⟩ := ih2 n (G1.setIfInBounds g e₁.genState) (b1.set hO c1.st)
    exact ⟨G2, .resumeFresh (s := { s with gens := G }) (s₁ := { s₁ with gens := G1 }) ((r.on g hO).1.trans hg) a1 hq a2, b2, c2⟩
  | @resumeSuspended Γ p g r' l k s k₀ l₀ c₀ p₀ fs cl e₁ s₁ e s' hg h1 hq _ ih1 ih2 =>
    intro n G r
    have hO : ¬ O g := fun z => by
      obtain ⟨_, k, l, c, p, fs, cl, _, e⟩ := r.off g z
      rw [hg] at e; cases e
      exact dead_runs h1
    obtain ⟨G1, a1, b1, c1⟩ := ih1 ((r.on g hO).2 _ _ _ _ _ _ hg) (G.setIfInBounds g .running) (r.set hO (x := .running) trivial)
    obtain ⟨G2, a2, b2, c2⟩ := ih2 n (G1.setIfInBounds g e₁.genState) (b1.set hO c1.st)
    exact ⟨G2, .resumeSuspended (s := { s with gens := G }) (s₁ := { s₁ with gens := G1 }) ((r.on g hO).1.trans hg) a1 hq a2, b2, c2⟩
  | resumeJustStarted hg hv _ ih =>
    intro n G r
    have hO := r.notO hg rfl
    obtain ⟨G1, a1, b1, c1⟩ := ih n G r
    exact ⟨G1, .resumeJustStarted ((r.on _ hO).1.trans hg) hv a1, b1, c1⟩
  | resumeThrowFresh hg _ ih =>
    intro n G r
    have hO := r.notO hg rfl
    obtain ⟨G1, a1, b1, c1⟩ := ih n _ (r.set (x := .finished) hO trivial)
    exact ⟨G1, .resumeThrowFresh ((r.on _ hO).1.trans hg) a1, b1, c1⟩
  | resumeRunning hg _ ih =>
    intro n G r
    have hO := r.notO hg rfl
    obtain ⟨G1, a1, b1, c1⟩ := ih n G r
    exact ⟨G1, .resumeRunning ((r.on _ hO).1.trans hg) a1, b1, c1⟩
  | resumeFinished hg _ ih =>
    intro n G r
    have hO := r.notO hg rfl
    obtain ⟨G1, a1, b1, c1⟩ := ih n G r
    exact ⟨G1, .resumeFinished ((r.on _ hO).1.trans hg) a1, b1, c1⟩
  | segRet _ _ ih1 ih2 =>
    intro n G r
    obtain ⟨G1, a1, b1, _⟩ := ih1 .nil G r
    obtain ⟨G2, a2, b2, c2⟩ := ih2 (fun F hF => n F (List.mem_cons_of_mem _ hF)) G1 b1
    exact ⟨G2, .segRet a1 a2, b2, c2⟩
  | segGen _ _ _ _ =>
    intro n
    obtain ⟨_, _, _, _, _, _, _, z⟩ := n _ List.mem_cons_self
    cases z
  | segSuspOut hs _ ih =>
    intro n G r
    obtain ⟨G1, a1, b1, c1⟩ := ih .nil G r
    exact ⟨G1, .segSuspOut hs a1, b1, NoG.append c1 n⟩
  | segSuspGen hs _ _ _ _ _ =>
    intro n
    rw [n.split] at hs
    cases hs
theorem wakes_off {Γ : Ctx} {p : Pos} {g : Nat} {r : Resume} {s s' : Shared} {res : GenResult} (h : Wakes M Γ p g r s res s') {G : Array GenState} (x : OffG O g0 G s.gens) :
    ∃ G', Wakes M Γ p g r { s with gens := G } res { s' with gens := G' } ∧ OffG O g0 G' s'.gens := by
  unfold Wakes at h
  split at h
  · exact h.elim
  · rename_i c hg
    have hO : ¬ O g := fun z => by
      obtain ⟨_, k, l, c, p, fs, cl, _, e⟩ := x.off g z
      rw [hg] at e; cases e
    have hg' : G[g]? = some (.fresh c) := (x.on g hO).1.trans hg
    split at h
    · obtain ⟨e₁, s₁, hr, hq, rfl, rfl⟩ := h
      obtain ⟨G1, a1, b1, c1⟩ := runs_off hr .nil (G.setIfInBounds g .running) (x.set hO (x := .running) trivial)
      refine ⟨G1.setIfInBounds g e₁.genState, ?_, b1.set hO c1.st⟩
      unfold Wakes
      dsimp only
      rw [hg']
      exact ⟨e₁, _, a1, hq, rfl, rfl⟩
    · rename_i v hv
      obtain ⟨rfl, rfl⟩ := h
      refine ⟨G, ?_, x⟩
      unfold Wakes
      dsimp only
      rw [hg']
      cases v <;> first | exact ⟨rfl, rfl⟩ | exact absurd rfl hv
    · obtain ⟨rfl, rfl⟩ := h
      refine ⟨G.setIfInBounds g .finished, ?_, x.set hO (x := .finished) trivial⟩
      unfold Wakes
      dsimp only
      rw [hg']
      exact ⟨rfl, rfl⟩
  · rename_i k₀ l₀ c₀ p₀ fs cl hg
    obtain ⟨e₁, s₁, hr, hq, rfl, rfl⟩ := h
    have hO : ¬ O g := fun z => by
      obtain ⟨_, k, l, c, p, fs, cl, _, e⟩ := x.off g z
      rw [hg] at e; cases e
      exact dead_runs hr
    obtain ⟨h1, h2⟩ := x.on g hO
    obtain ⟨G1, a1, b1, c1⟩ := runs_off hr (h2 _ _ _ _ _ _ hg) (G.setIfInBounds g .running) (x.set hO (x := .running) trivial)
    refine ⟨G1.setIfInBounds g e₁.genState, ?_, b1.set hO c1.st⟩
    unfold Wakes
    dsimp only
    rw [h1.trans hg]
    exact ⟨e₁, _, a1, hq, rfl, rfl⟩
  · rename_i hg
    obtain ⟨rfl, rfl⟩ := h
    have hO : ¬ O g := fun z => by
      obtain ⟨_, k, l, c, p, fs, cl, _, e⟩ := x.off g z
      rw [hg] at e; cases e
    refine ⟨G, ?_, x⟩
    unfold Wakes
    dsimp only
    rw [(x.on g hO).1.trans hg]
    exact ⟨rfl, rfl⟩
  · rename_i hg
    obtain ⟨rfl, rfl⟩ := h
    have hO : ¬ O g := fun z => by
      obtain ⟨_, k, l, c, p, fs, cl, _, e⟩ := x.off g z
      rw [hg] at e; cases e
    refine ⟨G, ?_, x⟩
    unfold Wakes
    dsimp only
    rw [(x.on g hO).1.trans hg]
    exact ⟨rfl, rfl⟩
theorem wp_off {α : Type} {Γ : Ctx} (t : Sem α) : ∀ {Q : α → Pos → Shared → Prop} {E : Value → Pos → Shared → Prop} {p : Pos} {s : Shared} {G : Array GenState}, OffG O g0 G s.gens → wp M Γ t Q E p s →
    wp M Γ t (fun a p' s' => ∃ T, OffG O g0 s'.gens T ∧ Q a p' { s' with gens := T }) (fun e p' s' => ∃ T, OffG O g0 s'.gens T ∧ E e p' { s' with gens := T }) p { s with gens := G } := by
  induction t with
  | pure a => intro Q E p s G x h; exact ⟨s.gens, x, h⟩
  | raise e => intro Q E p s G x h; exact ⟨s.gens, x, h⟩
  | unsupported w => intro Q E p s G x h; exact h.elim
  | finish e => intro Q E p s G x h; exact h.elim
  | register a k => intro Q E p s G x h; exact h.elim
  | yield v g l k => intro Q E p s G x h; exact h.elim
  | fork c k => intro Q E p s G x h; exact h.elim
  | await a f d l k => intro Q E p s G x h; exact h.elim
  | rule tag k ih => intro Q E p s G x h; exact ih () x h
  | «at» p' k ih => intro Q E p s G x h; exact ih () x h
  | load a part k ih => intro Q E p s G x h; obtain ⟨o, ho, h⟩ := h; exact ⟨o, ho, ih o x h⟩
  | update a part f k ih => intro Q E p s G x h; exact ⟨h.1, ih () (s := { s with heap := s.heap.update a f }) x h.2⟩
  | alloc o k ih => intro Q E p s G x h; exact ih _ (s := { s with heap := s.heap.push o }) x h
  | loadIfAlive a k ih => intro Q E p s G x h; exact ih _ x h
  | point l k ih => intro Q E p s G x h; exact ih () x h
  | fresh k ih => intro Q E p s G x h; exact ih _ (s := { s with toks := s.toks + 1 }) x h
  | ask k ih => intro Q E p s G x h; exact ih _ x h
  | choose src n k ih => intro Q E p s G x h; exact ⟨h.1, ih _ (s := { s with drawn := s.drawn.bump src }) x h.2⟩
  | os q l k ih => intro Q E p s G x h; exact ih _ (s := { s with os := (Os.step s.os q).1 }) x h
  | call c hd g l k ih =>
    intro Q E p s G x h
    obtain ⟨r, s₁, hr, h⟩ := h
    obtain ⟨G1, a1, b1, _⟩ := runs_off hr .nil G x
    exact ⟨r, _, a1, ih r b1 h⟩
  | handled own k ih => intro Q E p s G x h; exact ih _ x h
  | genState g k ih =>
    intro Q E p s G x h
    obtain ⟨st, hg, h⟩ := h
    obtain ⟨y, hy, e⟩ := x.seen hg
    exact ⟨y, hy, by rw [e]; exact ih _ x h⟩
  | newGen c k ih =>
    intro Q E p s G x h
    have := ih s.gens.size (s := { s with gens := s.gens.push (.fresh c) }) (x.push (c := c) fun i hi => x.lt hi) h
    rw [← x.size] at this
    exact this
  | resume g r l k ih =>
    intro Q E p s G x h
    obtain ⟨res, s₁, hw, h⟩ := h
    obtain ⟨G1, a1, b1⟩ := wakes_off hw x
    exact ⟨res, _, a1, ih res b1 h⟩
  | stack k ih => intro Q E p s G x h; exact ih _ x h
  | thread k ih => intro Q E p s G x h; exact ih _ x h
theorem offG_map (G : Array GenState) : OffG (fun i => ∃ g, G[i]? = some g ∧ isSus g = true) G G (G.map offG) where
  size := by rw [Array.size_map]
  off i hi := by
    obtain ⟨g, hg, hs⟩ := hi
    cases g with
    | suspended k l c p fs cl => exact ⟨rfl, k, l, c, p, fs, cl, hg, by rw [Array.getElem?_map, hg]; rfl⟩
    | fresh c => cases hs
    | running => cases hs
    | finished => cases hs
  on i hi := by
    rw [Array.getElem?_map]
    cases e : G[i]? with
    | none => exact ⟨rfl, fun k l c p fs cl z => by cases z⟩
    | some g =>
      cases g with
      | suspended k l c p fs cl => exact absurd ⟨_, e, rfl⟩ hi
      | fresh c => exact ⟨rfl, fun k l c p fs cl z => by cases z⟩
      | running => exact ⟨rfl, fun k l c p fs cl z => by cases z⟩
      | finished => exact ⟨rfl, fun k l c p fs cl z => by cases z⟩
theorem wpAny_asleep {α : Type} {A : Around} {t : Sem α} {Q : α → Shared → Prop} {E : Value → Shared → Prop} {s : Shared}
    (h : wpAny M A t (fun a s' => ∀ G : Array GenState, G.size = s'.gens.size → (∀ (i : Nat) (g : GenState), s.gens[i]? = some g → isSus g = true → G[i]? = some g) → (PyProof.Rows.AllBare s'.gens → PyProof.Rows.AllBare G) → Q a { s' with gens := G })
      (fun e s' => ∀ G : Array GenState, G.size = s'.gens.size → (∀ (i : Nat) (g : GenState), s.gens[i]? = some g → isSus g = true → G[i]? = some g) → (PyProof.Rows.AllBare s'.gens → PyProof.Rows.AllBare G) → E e { s' with gens := G }) { s with gens := s.gens.map offG }) : wpAny M A t Q E s := by
  have fin : ∀ (G T : Array GenState), OffG (fun i => ∃ g, s.gens[i]? = some g ∧ isSus g = true) s.gens G T → G.size = T.size ∧ (∀ (i : Nat) (g : GenState), s.gens[i]? = some g → isSus g = true → G[i]? = some g) ∧ (PyProof.Rows.AllBare T → PyProof.Rows.AllBare G) := fun G T x =>
    ⟨x.size, fun i g hg hs => ((x.off i ⟨g, hg, hs⟩).1).trans hg, fun b y hy => by
      obtain ⟨i, hi, rfl⟩ := Array.mem_iff_getElem.mp hy
      have e : G[i]? = some G[i] := Array.getElem?_eq_getElem hi
      obtain ⟨z, hz⟩ : ∃ z, T[i]? = some z := ⟨_, Array.getElem?_eq_getElem (x.size ▸ hi)⟩
      have hb := b z (Array.mem_of_getElem? hz)
      by_cases hO : ∃ g, s.gens[i]? = some g ∧ isSus g = true
      · obtain ⟨_, k, l, c, p, fs, cl, e1, e2⟩ := x.off i hO
        rw [e2] at hz
        cases hz
        rw [e1] at e
        rw [← Option.some.inj e]
        exact hb
      · have := (x.on i hO).1
        rw [e, hz] at this
        rw [Option.some.inj this]
        exact hb⟩
  intro Γ p hΓ
  have := wp_off t (offG_map s.gens) (h Γ p hΓ)
  refine Sem.wp_mono M Γ t (fun a p' s' ⟨T, x, q⟩ => ?_) (fun e p' s' ⟨T, x, q⟩ => ?_) p _ this
  · obtain ⟨a1, a2, a3⟩ := fin _ _ x
    exact q s'.gens a1 a2 a3
  · obtain ⟨a1, a2, a3⟩ := fin _ _ x
    exact q s'.gens a1 a2 a3
end LW
namespace LW
open PySem PySem.Spec PyProof.Rows L2 GenW
abbrev FinP := End → Shared → Prop
def Sg (M : Model) (A : Around) (Φ : FinP) (c : Code) (t : Sem PySem.Fin) (fs : List Frame) (s : Shared) : Prop :=
  ∀ (Γ : PySem.Ctx) (p : Pos), Γ.code = c → Γ.Woken A → ∃ e s', PySem.Runs M Γ p t fs s e s' ∧ Φ e s'
section
variable {M : Model} {A : Around} {Φ Ψ : FinP} {c : Code} {fs : List Frame} {s : Shared}
theorem Sg.mono {t : Sem PySem.Fin} (h : Sg M A Φ c t fs s) (k : ∀ e s, Φ e s → Ψ e s) : Sg M A Ψ c t fs s := fun Γ p h1 h2 => by
  obtain ⟨e, s', a, b⟩ := h Γ p h1 h2
  exact ⟨e, s', a, k e s' b⟩
theorem sg_wrap {α : Type} {m : Sem α} {K : α → Sem PySem.Fin} {H : Value → Sem PySem.Fin} {gd : Bool → Bool} {lv : List Value → List Value}
    (h : wpAny M (A.over c fs) m (fun a s' => Sg M A Φ c (K a) fs s') (fun x s' => Sg M A Φ c (H x) fs s') s) : Sg M A Φ c (m.wrap K H gd lv) fs s := by
  rintro Γ p rfl hΓ
  exact runs_wrap_of_wp K H gd lv m (h (Γ.over fs) p (hΓ.over fs)) (fun a p' s' h' => h' Γ p' rfl hΓ) (fun x p' s' h' => h' Γ p' rfl hΓ)
theorem sg_bind_wrap {α β : Type} {m : Sem α} {K : α → Sem β} {K' : β → Sem PySem.Fin} {H' : Value → Sem PySem.Fin} {gd : Bool → Bool} {lv : List Value → List Value}
    (h : wpAny M (A.over c fs) m (fun a s' => Sg M A Φ c ((K a).wrap K' H' gd lv) fs s') (fun x s' => Sg M A Φ c (H' x) fs s') s) : Sg M A Φ c ((m >>= K).wrap K' H' gd lv) fs s := by
  rw [Sem.bind_eq_wrap', Sem.wrap_wrap]; exact sg_wrap h
theorem sg_at {p' : Pos} {k : Unit → Sem PySem.Fin} (h : Sg M A Φ c (k ()) fs s) : Sg M A Φ c (.at p' k) fs s :=
  sg_wrap (m := standAt p') (K := k) (H := .raise) (gd := id) (lv := id) (wpAny_standAt h)
theorem sg_point {l : List Value} {k : Unit → Sem PySem.Fin} (h : Sg M A Φ c (k ()) fs s) : Sg M A Φ c (.point l k) fs s :=
  sg_wrap (m := point) (K := k) (H := .raise) (gd := id) (lv := fun _ => l) (wpAny_point h)
theorem sg_call {c' : Code} {h : Option Value} {g : Bool} {l : List Value} {k : Result → Sem PySem.Fin} (hc : ∀ p, Sg M A Φ c' (M.den c') (.ret k h g l c p [] :: fs) s) : Sg M A Φ c (.call c' h g l k) fs s := by
  rintro Γ p rfl hΓ
  obtain ⟨e, s', hr, he⟩ := hc p (Γ.goto c') p rfl (hΓ.goto c')
  exact ⟨e, s', runs_call_seg hr, he⟩
theorem sg_leaf {k : Result → Sem PySem.Fin} {h : Option Value} {g : Bool} {l kp : List Value} {c₁ : Code} {p₁ : Pos} (r : Result) (hk : Sg M A Φ c₁ (k r) fs s) : Sg M A Φ c (leafOf r) (.ret k h g l c₁ p₁ kp :: fs) s := by
  rintro Γ p rfl hΓ
  obtain ⟨e, s', hr, he⟩ := hk (Γ.goto c₁) p₁ rfl (hΓ.goto c₁)
  exact ⟨e, s', Runs.pop r hr, he⟩
theorem sg_again {c' : Code} (hq : c'.quiet = true) (hc : Sg M A Φ c' (M.den c') fs s) : Sg M A Φ c (.pure (.again c')) fs s := by
  rintro Γ p rfl hΓ
  obtain ⟨e, s', hr, he⟩ := hc (Γ.goto c') p rfl (hΓ.goto c')
  exact ⟨e, s', Runs.head (c₁ := c') (fun _ _ x => .again hq x) hr, he⟩
theorem sg_end (r : Result) (h : Φ (.ret r) s) : Sg M A Φ c (leafOf r) [] s := by
  rintro Γ p rfl _
  exact ⟨.ret r, s, Runs.leaf r, h⟩
theorem sg_yield {v : Value} {g : Bool} {l : List Value} {k : Resume → Sem PySem.Fin} (hfs : splitAtGen fs = none) (h : ∀ p, Φ (.susp v g l k c p fs) s) : Sg M A Φ c (.yield v g l k) fs s := by
  rintro Γ p rfl _
  exact ⟨_, s, Runs.yield' fs hfs, h p⟩
end
section
variable {prog : Program} {w : World} {A : Around} {Φ : FinP} {c : Code} {fs : List Frame} {s : Shared} {env : Env} {K : Flow → Sem PySem.Fin} {J : Value → Sem PySem.Fin} {gd : Bool → Bool} {lv : List Value → List Value}
theorem sg_execs_nil (h : Sg (model prog w) A Φ c (K .next) fs s) : Sg (model prog w) A Φ c ((execs [] env).wrap K J gd lv) fs s := h
theorem sg_execs_cons {st : Stmt} {rest : List Stmt} (h : Sg (model prog w) A Φ c ((exec st env).wrap (fun f => match f with | .next => (execs rest env).wrap K J gd lv | f => K f) J gd lv) fs s) :
    Sg (model prog w) A Φ c ((execs (st :: rest) env).wrap K J gd lv) fs s := by rw [execs_cons_wrap]; exact h
theorem sg_Expr_Yield {e : Expr} {ypos pos : Pos} (hfs : splitAtGen fs = none) (hgd : gd false = false)
    (h : wpAny (model prog w) (A.over c fs) (eval e env) (fun v s' => ∀ (l : List Value) (kk : Resume → Sem PySem.Fin) (p : Pos),
        (∀ Ψ s'', Sg (model prog w) A Ψ c (K .next) fs s'' → Sg (model prog w) A Ψ c (kk (.send .none)) fs s'') → Φ (.susp v false l kk c p fs) s')
      (fun x s' => Sg (model prog w) A Φ c (J x) fs s') s) (hco : env.scope.isCoroutine = false := by rfl) (hi : interactive env = false := by rfl) :
    Sg (model prog w) A Φ c ((exec (.Expr (.Yield (some e) ypos) pos) env).wrap K J gd lv) fs s := by
  rw [exec_Expr env _ pos hi rfl]
  show Sg (model prog w) A Φ c (.at pos fun _ => ((eval e env >>= fun v => (standAt ypos >>= fun _ => yieldOut env v)) >>= fun x =>
    dropValue (.Yield (some e) ypos) pos x).wrap K J gd lv) fs s
  have hy : ∀ v, yieldOut env v = yieldValue v := fun v => by simp only [yieldOut, hco, Bool.false_eq_true, if_false]
  simp only [hy]
  refine sg_at ?_
  rw [Sem.bind_eq_wrap', Sem.bind_eq_wrap', Sem.wrap_wrap, Sem.wrap_wrap]
  refine sg_wrap (wpAny_mono h (fun v s' h' => ?_) fun _ _ x => x)
  refine sg_at ?_
  show Sg _ A Φ c (.yield v (gd false) _ _) fs s'
  rw [hgd]
  refine sg_yield hfs fun p => h' _ _ p fun Ψ s'' hx => ?_
  exact hx
theorem sg_func {body : List Stmt}
    (h : Sg (model prog w) A Φ (.func body env) ((execs body env).wrap (fun f => .pure (.done (.ret (match f with | .ret v => v | _ => .none))))
      (fun e => (leaving env e).wrap (fun _ => .raise e) .raise id id) id id) fs s) :
    Sg (model prog w) A Φ (.func body env) ((model prog w).den (.func body env)) fs s := by
  show Sg _ A Φ _ (.point [] fun _ => ((execs body env).onRaise (leaving env)) >>= _) fs s
  refine sg_point ?_
  rw [Sem.onRaise_eq_wrap, Sem.bind_eq_wrap', Sem.wrap_wrap]
  rw [Sem.wrap_congr (execs body env) _ _ (K' := fun f => .pure (.done (.ret (match f with | .ret v => v | _ => .none))))
    (H' := fun e => (leaving env e).wrap (fun _ => .raise e) .raise id id) (fun f => by cases f <;> rfl)
    (fun e => by rw [Sem.bind_eq_wrap, Sem.wrap_wrap]; rfl)]
  exact h
abbrev ownRet (env : Env) (K : Flow → Sem PySem.Fin) (J : Value → Sem PySem.Fin) (gd : Bool → Bool) (lv : List Value → List Value) (c : Code) (p : Pos) : Frame :=
  .ret (fun r => ((match r with | .ok f => (.pure f : Sem Flow) | .error e => .raise e).onRaise (cameBack env)).wrap K J gd lv) none (gd false) (lv []) c p []
theorem sg_For {target iter : Expr} {body orelse : List Stmt} {pos : Pos}
    (h : wpAny (model prog w) (A.over c fs) (eval iter env) (fun x s₁ => wpAny (model prog w) (A.over c fs) (pyIter x) (fun it s₂ => ∀ p,
        Sg (model prog w) A Φ (.forLoop target it body orelse env) ((model prog w).den (.forLoop target it body orelse env)) (ownRet env K J gd lv c p :: fs) s₂)
        (fun e s' => Sg (model prog w) A Φ c (J e) fs s') s₁) (fun e s' => Sg (model prog w) A Φ c (J e) fs s') s)
    (hs : ∀ x, foldedSetIterable iter env x = pure x := by intro _; rfl) :
    Sg (model prog w) A Φ c ((exec (.For target iter body orelse pos) env).wrap K J gd lv) fs s := by
  rw [exec_For]
  refine sg_bind_wrap (wpAny_standAt ?_)
  refine sg_bind_wrap (wpAny_mono h (fun x s₁ h₁ => ?_) fun _ _ x => x)
  refine sg_bind_wrap (wpAny_of_eq (hs x) ?_)
  refine sg_bind_wrap (wpAny_standAt ?_)
  refine sg_bind_wrap (wpAny_holding (wpAny_mono h₁ (fun it s₂ h₂ => ?_) fun _ _ x => x))
  exact sg_call h₂
theorem sg_forLoop {target : Expr} {it : Value} {body orelse : List Stmt}
    (h : wpAny (model prog w) (A.over (.forLoop target it body orelse env) fs) (pyNext it) (fun r s₁ => match r with
      | none => Sg (model prog w) A Φ (.forLoop target it body orelse env) (.pure (.again (.block orelse env))) fs s₁
      | some v => wpAny (model prog w) (A.over (.forLoop target it body orelse env) fs) (letOwnedTupleGo target it v) (fun _ s₂ => wpAny (model prog w) (A.over (.forLoop target it body orelse env) fs) (assign target env v) (fun _ s₃ =>
          Sg (model prog w) A Φ (.forLoop target it body orelse env) ((execs body env).wrap (fun f => match f with
            | .next | .cont => .pure (.again (.forLoop target it body orelse env))
            | .brk => .pure (.done .next)
            | .ret v => .pure (.done (.ret v))) (fun e => (do noteFrame e env; theTreesLotGoes e : Sem Unit).wrap (fun _ => .raise e) .raise id id) id id) fs s₃)
          (fun x s' => Sg (model prog w) A Φ (.forLoop target it body orelse env) ((do noteFrame x env; theTreesLotGoes x : Sem Unit).wrap (fun _ => .raise x) .raise id id) fs s') s₂)
        (fun x s' => Sg (model prog w) A Φ (.forLoop target it body orelse env) ((do noteFrame x env; theTreesLotGoes x : Sem Unit).wrap (fun _ => .raise x) .raise id id) fs s') s₁)
      (fun x s' => Sg (model prog w) A Φ (.forLoop target it body orelse env) ((do noteFrame x env; theTreesLotGoes x : Sem Unit).wrap (fun _ => .raise x) .raise id id) fs s') s) :
    Sg (model prog w) A Φ (.forLoop target it body orelse env) ((model prog w).den (.forLoop target it body orelse env)) fs s := by
  show Sg _ A Φ _ ((forTurn target it body orelse env).onRaise (fun x => do noteFrame x env; theTreesLotGoes x)) fs s
  have e1 : ∀ x : Value, (do noteFrame x env; theTreesLotGoes x : Sem Unit).bind (fun _ => (.raise x : Sem PySem.Fin)) = (do noteFrame x env; theTreesLotGoes x : Sem Unit).wrap (fun _ => .raise x) .raise id id := fun x => Sem.bind_eq_wrap _ _
  unfold forTurn
  rw [Sem.onRaise_eq_wrap]
  refine sg_bind_wrap (wpAny_standAt ?_)
  refine sg_bind_wrap (wpAny_onRaise (wpAny_mono h (fun r s₁ h₁ => ?_) fun x s' hx => wpAny_standAt ?_))
  · cases r with
    | none => exact h₁
    | some v =>
      refine sg_bind_wrap (wpAny_mono h₁ (fun _ s₂ h₂ => ?_) fun x s' hx => ?_)
      · refine sg_bind_wrap (wpAny_mono h₂ (fun _ s₃ h₃ => ?_) fun x s' hx => ?_)
        · rw [Sem.bind_eq_wrap', Sem.wrap_wrap]
          rw [Sem.wrap_congr (execs body env) (fun g => id (id g)) (fun l => id (id l)) (K' := fun f => match f with
            | .next | .cont => .pure (.again (.forLoop target it body orelse env))
            | .brk => .pure (.done .next)
            | .ret v => .pure (.done (.ret v))) (H' := (fun e => (do noteFrame e env; theTreesLotGoes e : Sem Unit).wrap (fun _ => .raise e) .raise id id))
            (fun f => by cases f <;> rfl) (fun e => by first | exact e1 e | (show (do noteFrame e env; theTreesLotGoes e : Sem Unit).bind (fun _ => .raise e) = _; exact e1 e))]
          exact h₃
        · rw [e1]; exact hx
      · rw [e1]; exact hx
  · rw [e1]; exact hx
theorem sg_block {body : List Stmt} (h : Sg (model prog w) A Φ (.block body env) ((execs body env).wrap (fun f => .pure (.done f)) (fun e => (do noteFrame e env; theTreesLotGoes e : Sem Unit).wrap (fun _ => .raise e) .raise id id) id id) fs s) :
    Sg (model prog w) A Φ (.block body env) ((model prog w).den (.block body env)) fs s := by
  show Sg _ A Φ _ ((execs body env).onRaise (fun x => do noteFrame x env; theTreesLotGoes x) >>= fun f => pure (.done f)) fs s
  rw [Sem.onRaise_eq_wrap, Sem.bind_eq_wrap', Sem.wrap_wrap]
  rw [Sem.wrap_congr (execs body env) _ _ (K' := fun f => .pure (.done f)) (H' := fun e => (do noteFrame e env; theTreesLotGoes e : Sem Unit).wrap (fun _ => .raise e) .raise id id) (fun f => by rfl)
    (fun e => by rw [Sem.bind_eq_wrap, Sem.wrap_wrap]; rfl)]
  exact h
end
def GoesZ (M : Model) (A : Around) (Φ : FinP) (gs : GenState) (s : Shared) : Prop :=
  match gs with
  | .fresh c => Sg M A Φ c (M.den c) [] s
  | .suspended k _ c _ fs _ => Sg M A Φ c (k (.send .none)) fs s
  | _ => False
theorem wpAny_resumeZ {M : Model} {A : Around} {Φ : FinP} {E : Value → Shared → Prop} {s : Shared} {g : Nat} {gs : GenState} {l : List Value} {α : Type} {k : GenResult → Sem α} {Q : α → Shared → Prop} (hg : s.gens[g]? = some gs)
    (hgo : GoesZ M A Φ gs (s.setGen g .running))
    (hR : ∀ x s₁, Φ (.ret x) s₁ → wpAny M A (k (End.ret x).result) Q E (s₁.setGen g .finished))
    (hY : ∀ v g' l' k' c' p' fs' s₁, Φ (.susp v g' l' k' c' p' fs') s₁ → (End.susp v g' l' k' c' p' fs').quiet = true ∧ wpAny M A (k (.yielded v)) Q E (s₁.setGen g (.suspended k' l' c' p' fs' (g' || fs'.any Frame.guarded)))) :
    wpAny M A (.resume g (.send .none) l k) Q E s := by
  intro Γ p hΓ
  rw [Sem.wp_resume]
  have fin : ∀ e₁ s₁, Φ e₁ s₁ → e₁.quiet = true ∧ Sem.wp M Γ (k e₁.result) (fun a _ s' => Q a s') (fun e _ s' => E e s') p (s₁.setGen g e₁.genState) := by
    intro e₁ s₁ he
    cases e₁ with
    | ret x => exact ⟨rfl, hR x s₁ he Γ p hΓ⟩
    | susp v g₀ l₀ k₀ c₀ p₀ fs₀ =>
      obtain ⟨a, b⟩ := hY v g₀ l₀ k₀ c₀ p₀ fs₀ s₁ he
      exact ⟨a, b Γ p hΓ⟩
  cases gs with
  | fresh c =>
    obtain ⟨e₁, s₁, hr, he⟩ := hgo (Γ.wake c p) p rfl (hΓ.wake c p)
    exact ⟨_, _, by unfold Wakes; rw [hg]; exact ⟨e₁, s₁, hr, (fin e₁ s₁ he).1, rfl, rfl⟩, (fin e₁ s₁ he).2⟩
  | suspended k₀ l₀ c₀ p₀ fs₀ cl =>
    obtain ⟨e₁, s₁, hr, he⟩ := hgo (Γ.wake c₀ p) p₀ rfl (hΓ.wake c₀ p)
    exact ⟨_, _, by unfold Wakes; rw [hg]; exact ⟨e₁, s₁, hr, (fin e₁ s₁ he).1, rfl, rfl⟩, (fin e₁ s₁ he).2⟩
  | running => exact hgo.elim
  | finished => exact hgo.elim
end LW
namespace LW
open PySem PySem.Spec PyProof.Rows L2
def celD (N : List Str) (env : Env) (σ : L2.St) (c : Addr) : Heap → Prop := fun h => (∃ v, h.IsCell c v) ∧ ∀ (j : Nat) (x : Str) (v : V), N[j]? = some x → σ[j]? = some (some v) → env.cells.lookup x = some c → Vis env.scope x → (env.kindOf x = some .cell ∨ env.kindOf x = some .free) → ∃ u, RelV v u ∧ h.IsCell c (some u)
theorem celD_stay {N : List Str} {env : Env} {σ : L2.St} {c : Addr} {h1 h2 : Heap} (x : celD N env σ c h1) (k : ∀ o, h1.get? c = some o → h2.get? c = some o) : celD N env σ c h2 :=
  ⟨let ⟨v, o, e1, e2⟩ := x.1; ⟨v, o, k o e1, e2⟩, fun j y v e1 e2 e3 e4 e5 => let ⟨u, r, o, q1, q2⟩ := x.2 j y v e1 e2 e3 e4 e5; ⟨u, r, o, k o q1, q2⟩⟩
abbrev CFn := Addr → Heap → Prop
def dnH (cs : List Addr) (H : Hp) : Hp := fun b => if b ∈ cs then none else H b
def upH (cs : List Addr) (φ : CFn) (H : Hp) : Hp := fun b => if b ∈ cs then some (.ext (φ b)) else H b
def Celd (cs : List Addr) (φ : CFn) (H : Hp) : Prop := ∀ c ∈ cs, H c = some (.ext (φ c))
abbrev onC (cs : List Addr) : ASet := fun a => a ∈ cs
section
variable {cs : List Addr} {φ ψ : CFn} {H H' : Hp} {h h' : Heap} {b c : Addr} {fs ex : List Addr} {P : Program} {w : World} {K : PySem.W.Frag} {S : ASet}
theorem dnH_in (m : b ∈ cs) : dnH cs H b = none := if_pos m
theorem dnH_out (m : b ∉ cs) : dnH cs H b = H b := if_neg m
theorem upH_in (m : b ∈ cs) : upH cs φ H b = some (.ext (φ b)) := if_pos m
theorem upH_out (m : b ∉ cs) : upH cs φ H b = H b := if_neg m
theorem dnH_none (n : H b = none) : dnH cs H b = none := by
  unfold dnH
  split
  · rfl
  · exact n
theorem upH_none (n : H b = none) (m : b ∉ cs) : upH cs φ H b = none := (upH_out m).trans n
theorem dnH_some {o : HO} (e : dnH cs H b = some o) : b ∉ cs ∧ H b = some o := by
  by_cases m : b ∈ cs
  · rw [dnH_in m] at e; cases e
  · rw [dnH_out m] at e; exact ⟨m, e⟩
theorem dnH_of_none (e : dnH cs H b = none) (m : b ∉ cs) : H b = none := by rw [dnH_out m] at e; exact e
theorem upH_celd : Celd cs φ (upH cs φ H) := fun c m => upH_in m
theorem dn_up (n : ∀ c ∈ cs, H c = none) : dnH cs (upH cs φ H) = H := by
  funext a
  by_cases m : a ∈ cs
  · rw [dnH_in m, n a m]
  · rw [dnH_out m, upH_out m]
theorem Celd.ne (k : Celd cs φ H) {o : HO} (e : H b = some o) (d : ∀ φ, o ≠ .ext φ) : b ∉ cs := fun m => by
  rw [k b m] at e
  exact d _ (Option.some.inj e).symm
theorem Celd.none (k : Celd cs φ H) (e : H b = none) : b ∉ cs := fun m => by rw [k b m] at e; cases e
theorem grp_upH (n : ∀ c ∈ cs, H c = none) : GrP nop H (upH cs φ H) := ⟨fun a o e _ => by
  by_cases m : a ∈ cs
  · rw [n a m] at e; cases e
  · rw [upH_out m]; exact e, fun a e => by
  by_cases m : a ∈ cs
  · exact n a m
  · rw [upH_out m] at e; exact e⟩
theorem grp_up (k : Celd cs φ H) (g : GrP nop (dnH cs H) H') : GrP (onC cs) H (upH cs ψ H') := ⟨fun a o e q => by
  by_cases m : a ∈ cs
  · rw [k a m] at e
    cases e
    rcases q with q | q
    · cases q
    · exact absurd m q
  · rw [upH_out m]
    exact g.keep a o (by rw [dnH_out m]; exact e) (.inr fun z => z), fun a e => by
  by_cases m : a ∈ cs
  · rw [upH_in m] at e; cases e
  · rw [upH_out m] at e
    exact dnH_of_none (g.live a e) m⟩
theorem un_up (k : Celd cs φ H) (hc : ∀ c ∈ cs, h.get? c = none) (u : Un fs ex (dnH cs H) H' h h') : Un fs ex H (upH cs ψ H') h h' := by
  have out : ∀ {b o}, h.get? b = some o → b ∉ cs := fun {b o} e m => by rw [hc b m] at e; cases e
  refine ⟨fun b o e n hb hx => u.keep b o e (dnH_none n) hb hx, fun b o e n hb hx => u.slot b o e (dnH_none n) hb hx, fun b o e n hx => upH_none (u.free b o e (dnH_none n) hx) (out e), u.there, fun b xs e => ?_, fun b o x e => ?_, fun b ps e => ?_⟩
  · have m := k.ne e (fun φ z => by cases z)
    rw [upH_out m]
    exact u.tups b xs (by rw [dnH_out m]; exact e)
  · have m := k.ne e (fun φ z => by cases z)
    rw [upH_out m]
    exact u.frzs b o x (by rw [dnH_out m]; exact e)
  · have m := k.ne e (fun φ z => by cases z)
    rw [upH_out m]
    exact u.tbls b ps (by rw [dnH_out m]; exact e)
theorem hok_up (x : HOk P w H h) (n : ∀ c ∈ cs, H c = none ∧ ∃ v, h.IsCell c v) (hφ : ∀ c ∈ cs, φ c h ∧ ∀ h1 h2 : Heap, φ c h1 → (∀ o, h1.get? c = some o → h2.get? c = some o) → φ c h2) : HOk P w (upH cs φ H) h := fun a o e => by
  by_cases m : a ∈ cs
  · rw [upH_in m] at e
    cases e
    obtain ⟨_, v, oc, e1, e2⟩ := n a m
    exact ⟨(hφ a m).1, ⟨oc, e1⟩, (hφ a m).2⟩
  · rw [upH_out m] at e
    have ne : ∀ {b o}, H b = some o → b ∉ cs := fun {b o} e m => by rw [(n b m).1] at e; cases e
    exact (x a o e).stay (fun _ _ _ q => q) (fun b q => by rw [upH_out (ne q)]; exact q) fun b xs q => by rw [upH_out (ne q)]; exact q
theorem hok_dn (k : Celd cs φ H) (x : HOk P w H h) : HOk P w (dnH cs H) h := fun a o e => by
  obtain ⟨m, e⟩ := dnH_some e
  exact (x a o e).stay (fun _ _ _ q => q) (fun b q => by rw [dnH_out (k.ne q fun φ z => by cases z)]; exact q) fun b xs q => by rw [dnH_out (k.ne q fun φ z => by cases z)]; exact q
theorem Celd.cell (k : Celd cs φ H) (x : HOk P w H h) (m : c ∈ cs) : φ c h := (x c _ (k c m)).1
mutual
theorem rep_dn (k : Celd cs φ H) : ∀ {d : D} {v : V}, RepA K H S d v → RepA K (dnH cs H) S d v
  | _, _, .non => .non
  | _, _, .bl b => .bl b
  | _, _, .int b => .int b
  | _, _, .str b => .str b
  | _, _, .adr b => .adr b
  | _, _, .tup (ds := ds) h r => .tup (by
      obtain ⟨o, h, d⟩ := h
      exact ⟨o, by rw [dnH_out (k.ne h fun φ z => by cases z)]; exact h, d⟩) (reps_dn k r)
  | _, _, .lst h n r => .lst (by rw [dnH_out (k.ne h fun φ z => by cases z)]; exact h) n (reps_dn k r)
  | _, _, .lsf h r => .lsf (by rw [dnH_out (k.ne h fun φ z => by cases z)]; exact h) (reps_dn k r)
  | _, _, .ins h i l r => .ins (by rw [dnH_out (k.ne h fun φ z => by cases z)]; exact h) i l (reps_dn k r)
theorem reps_dn (k : Celd cs φ H) : ∀ {ds : List D} {vs : List V}, RepsA K H S ds vs → RepsA K (dnH cs H) S ds vs
  | _, _, .nil => .nil
  | _, _, .cons h r => .cons (rep_dn k h) (reps_dn k r)
end
theorem rep_up (n : ∀ c ∈ cs, H c = none) {d : D} {v : V} (r : RepA K H S d v) : RepA K (upH cs φ H) S d v := r.ext (grp_upH n) (fun _ z => z.elim) fun a s => .inl s
end
def Frm.trk (F : Frm) (cs : List Addr) (φ : CFn) : Frm := { F with H := upH cs φ F.H, T := fun a => F.T a ∧ a ∉ cs }
section
variable {K : PySem.W.Frag} {W : Wrl} {F : Frm} {T : ASet} {ω : W.Ω} {ρ : List Sl} {σ : L2.St} {H H' : Hp} {cs : List Addr} {φ : CFn}
theorem xdict_dn (k : Celd cs φ H) {x : Exn} {dd : Option Addr} (h : XDict K H x dd) : XDict K (dnH cs H) x dd := by
  unfold XDict at h ⊢
  split at h
  · exact h
  · obtain ⟨a, v, e, h1, h2⟩ := h
    exact ⟨a, v, e, by rw [dnH_out (k.ne h1 fun φ z => by cases z)]; exact h1, rep_dn k h2⟩
theorem slsR_dn {S : ASet} (k : Celd cs φ H) : ∀ {ρ : List Sl} {σ : L2.St}, SlsR K H S ρ σ → SlsR K (dnH cs H) S ρ σ
  | _, _, .nil => .nil
  | _, _, .no r => .no (slsR_dn k r)
  | _, _, .va q r => .va (rep_dn k q) (slsR_dn k r)
  | _, _, .ex q r => .ex (xdict_dn k q) (slsR_dn k r)
  | _, _, .ow h q r => .ow (by rw [dnH_out (k.ne h fun φ z => by cases z)]; exact h) (reps_dn k q) (slsR_dn k r)
theorem grp_dn (g : GrP (onC cs) H H') : GrP nop (dnH cs H) H' := ⟨fun a o e _ => by
  obtain ⟨m, e⟩ := dnH_some e
  exact g.keep a o e (.inr m), fun a e => dnH_none (g.live a e)⟩
theorem Rel.growC (R : Rel K W F T ω ρ σ H) (k : Celd cs φ H) (g : GrP (onC cs) H H') (nF : ∀ c ∈ cs, F.H c = none) (nS : ∀ c ∈ cs, ¬ Spr F T ρ c) : Rel K W F T ω ρ σ H' := by
  have g0 := grp_dn g
  refine ⟨⟨fun a o e q => ?_, fun a e => R.gr.live a (g.live a e)⟩, W.st R.inv g fun a m t => nS a m (.inr (.inl t)), R.tn, R.own, R.nd, fun a s => ⟨fun z => (R.s0 a s).1 (g.live a z), (R.s0 a s).2⟩, fun p hp => (rep_dn k (R.hd p hp)).ext g0 (fun _ z => z.elim) fun a s => .inl s, (slsR_dn k R.sl).ext g0 (fun _ z => z.elim) (fun a s => .inl s) fun _ _ z => z⟩
  have m : a ∉ cs := fun m => by rw [nF a m] at e; cases e
  exact g.keep a o (R.gr.keep a o e q) (.inr m)
theorem Rel.trk (R : Rel K W F T ω ρ σ H) (k : Celd cs φ H) (nS : ∀ c ∈ cs, ¬ Spr F T ρ c) : Rel K W (F.trk cs φ) T ω ρ σ H := by
  refine ⟨⟨fun a o e q => ?_, fun a e => ?_⟩, R.inv, fun a t => ?_, fun l hl => ⟨?_, (R.own l hl).2⟩, R.nd, R.s0, R.hd, R.sl⟩
  · have e : upH cs φ F.H a = some o := e
    by_cases m : a ∈ cs
    · rw [upH_in m] at e
      rw [k a m]; exact e
    · rw [upH_out m] at e
      exact R.gr.keep a o e (q.imp id fun q z => q ⟨z, m⟩)
  · show upH cs φ F.H a = none
    have m := k.none e
    rw [upH_out m]
    exact R.gr.live a e
  · have m : a ∉ cs := fun m => nS a m (.inr (.inl t))
    rcases R.tn a t with z | z
    · exact .inl ⟨z, m⟩
    · exact .inr ((upH_out m).trans z)
  · exact (upH_out fun m => nS l m (.inr (.inr hl))).trans (R.own l hl).1
theorem Rel.celd (R : Rel K W (F.trk cs φ) T ω ρ σ H) : Celd cs φ H := fun c m => R.gr.keep c _ (upH_in m) (.inr fun z => z.2 m)
theorem Rel.untrk (R : Rel K W (F.trk cs φ) T ω ρ σ H) (n : ∀ c ∈ cs, F.H c = none) : Rel K W F T ω ρ σ H := by
  have up : ∀ {a}, upH cs φ F.H a = none → F.H a = none := fun {a} e => by
    by_cases m : a ∈ cs
    · exact n a m
    · rw [upH_out m] at e; exact e
  refine ⟨⟨fun a o e q => ?_, fun a e => up (R.gr.live a e)⟩, R.inv, fun a t => (R.tn a t).imp (fun z => z.1) up, fun l hl => ⟨up (R.own l hl).1, (R.own l hl).2⟩, R.nd, R.s0, R.hd, R.sl⟩
  have m : a ∉ cs := fun m => by rw [n a m] at e; cases e
  exact R.gr.keep a o ((upH_out m).trans e) (q.imp id fun q z => q z.1)
theorem Rel.trk_spr (R : Rel K W (F.trk cs φ) T ω ρ σ H) (n : ∀ c ∈ cs, ¬ F.S c) : ∀ c ∈ cs, ¬ Spr F T ρ c := fun c m s => by
  rcases s with s | s | s
  · exact n c m s
  · rcases R.tn c s with z | z
    · exact z.2 m
    · have z : upH cs φ F.H c = none := z
      rw [upH_in m] at z; cases z
  · have z : upH cs φ F.H c = none := (R.own c s).1
    rw [upH_in m] at z; cases z
end
end LW
namespace LW
open PySem PySem.Spec PyProof.Rows L2 GenW
def cutS (s : Shared) (n : Nat) : Shared := { s with heap := { s.heap with objs := s.heap.objs.extract 0 n } }
theorem cutS_get {s : Shared} {n b : Nat} (h : b < n) : (cutS s n).heap.get? b = s.heap.get? b := by
  show Heap.get? { s.heap with objs := s.heap.objs.extract 0 n } b = _
  unfold Heap.get?
  have e : (s.heap.objs.extract 0 n)[b]? = s.heap.objs[b]? := by
    rw [Array.getElem?_extract]
    split
    · rw [Nat.zero_add]
    · rename_i z
      rw [Array.getElem?_eq_none (by omega)]
  show (match (s.heap.objs.extract 0 n)[b]? with | some ⟨_, _, .freed, _⟩ => none | o => o) = _
  rw [e] <;> rfl
theorem cutS_none {s : Shared} {n b : Nat} (h : n ≤ b) : (cutS s n).heap.get? b = none := by
  show Heap.get? { s.heap with objs := s.heap.objs.extract 0 n } b = _
  unfold Heap.get?
  have e : (s.heap.objs.extract 0 n)[b]? = none := by
    rw [Array.getElem?_extract]
    split
    · omega
    · rfl
  show (match (s.heap.objs.extract 0 n)[b]? with | some ⟨_, _, .freed, _⟩ => none | o => o) = _
  rw [e]
theorem cutS_of {s : Shared} {n b : Nat} {o : Obj} (h : (cutS s n).heap.get? b = some o) : b < n ∧ s.heap.get? b = some o := by
  rcases Nat.lt_or_ge b n with z | z
  · rw [cutS_get z] at h; exact ⟨z, h⟩
  · rw [cutS_none z] at h; cases h
theorem cutS_size {s : Shared} {n : Nat} (h : n ≤ s.heap.objs.size) : (cutS s n).heap.objs.size = n := by
  show (s.heap.objs.extract 0 n).size = n
  rw [Array.size_extract]; omega
structure GZ where
  P : Program
  w : World
  K : PySem.W.Frag
  mg : Str → Option Value
  base : Heap
  N : List Str
  qual : Str
  scope : Scope
  f : Addr
  cd : Value
  A : Around
  outer : List Env
  L : Nat
  fin : Option Exn
structure GIx where
  s : Shared
  H : Hp
  S : ASet
  pn : List (Addr × Obj)
@[reducible] def GZ.env (Z : GZ) : Env := envOfC Z.qual Z.scope Z.L Z.f Z.cd
def csOf (scope : Scope) (L : Nat) : List Addr := (cellsFrom (L + 1) scope.names []).filterMap fun p => (cellsFrom (L + 1) scope.names []).lookup p.1
def GZ.cs (Z : GZ) : List Addr := csOf Z.scope Z.L
theorem GZ.mem_cs {Z : GZ} {c : Addr} : c ∈ Z.cs ↔ ∃ x, Z.env.cells.lookup x = some c := by
  show c ∈ (Z.env.cells.filterMap fun p => Z.env.cells.lookup p.1) ↔ _
  rw [List.mem_filterMap]
  constructor
  · rintro ⟨p, _, e⟩
    exact ⟨p.1, e⟩
  · rintro ⟨x, e⟩
    exact ⟨(x, c), PySem.mem_of_lookup e, e⟩
def GZ.EX (Z : GZ) (ys : List D) (i : GIx) : XK := fun cls dd H' => ys = [] ∧ GrP (onC Z.cs) i.H H' ∧ ∃ x, Z.fin = some x ∧ XRep Z.K H' x cls dd
def GZ.EY (Z : GZ) (ys : List D) (i : GIx) : XK := fun cls dd H' => ys = [] ∧ GrP nop (dnH Z.cs i.H) H' ∧ (∃ φ, Celd Z.cs φ i.H) ∧ ∃ x, Z.fin = some x ∧ XRep Z.K H' x cls dd
@[reducible] def GZ.X (Z : GZ) (ys : List D) (i : GIx) : Cx where
  prog := Z.P
  w := Z.w
  K := Z.K
  mg := Z.mg
  base := Z.base
  A := Z.A.deeper Z.env
  N := Z.N
  s_0 := i.s
  H_0 := dnH Z.cs i.H
  env := Z.env
  outer := Z.outer
  stack := Z.env :: Z.outer
  ex := []
  calm := true
  fn := fun _ => true
  pn := i.pn
  xe := fun e s' => wpAny (model Z.P Z.w) (Z.A.deeper Z.env) (leaving Z.env e) (fun _ s'' => L2N.CX Z.P Z.w Z.outer i.H i.s (Z.EX ys i) e s'' ∧ ∀ p ∈ i.pn, s''.heap.get? p.1 = some p.2) (fun _ _ => False) s'
theorem XE.leaveG {X : Cx} {W : WX} {E : XK} {s' : Shared} {Hw : Hp} {cs : List Addr} (hs : X.stack = X.env :: X.outer) (hf : X.env.frame = some X.env.locals) (hex : X.ex = []) {E₁ : Value → Shared → Prop} (hcs : ∀ c ∈ cs, ∃ x, X.env.cells.lookup x = some c) (hfn : ∀ x, X.fn x = true) (hH : X.H_0 = dnH cs Hw)
    (hW : ∀ cls d σ H, (∀ c ∈ cs, H c = none) → W cls d σ H → (∃ φ, Celd cs φ Hw) ∧ E cls d (upH cs (fun c h => ∃ v, h.IsCell c v) H)) {u : Value} (x : L2N.XE X W u s') :
    wpAny (model X.prog X.w) X.A (leaving X.env u) (fun _ s'' => L2N.CX X.prog X.w X.outer Hw X.s_0 E u s'' ∧ ∀ p ∈ X.pn, s''.heap.get? p.1 = some p.2) E₁ s' := by
  obtain ⟨a, B, sI, pins, σ, H, cls, d, rfl, I, nb, up, sky, na, os, ag, w⟩ := x
  have hfr : X.A.frames = some (X.env :: X.outer) := by rw [I.ok.frames, hs]
  have nst : ∀ b o, X.s_0.heap.get? b = some o → b ∉ X.fs → b ∉ frs X.stack := fun b o e hb hm => by
    rcases List.mem_cons.mp (I.stkSub b hm) with z | z
    · have h1 := Heap.lt_size e
      have h2 := I.ok.above
      rw [z] at h1
      exact absurd (Nat.lt_of_lt_of_le h1 h2) (Nat.lt_irrefl _)
    · exact hb z
  have hex' : ∀ b, b ∉ X.ex := fun b hb => by rw [hex] at hb; cases hb
  have hokB := I.inGround nb
  have cel0 : ∀ c ∈ cs, H c = none := fun c m => let ⟨x, e⟩ := hcs c m; I.freeC x c e
  obtain ⟨⟨φ, hcel⟩, hE⟩ := hW _ _ _ _ cel0 w
  have new : ∀ c ∈ cs, X.s_0.heap.objs.size ≤ c := fun c m => let ⟨x, e⟩ := hcs c m; I.ok.cab x c (hfn x) e
  have celB : ∀ c ∈ cs, ∃ v, B.IsCell c v := fun c m => by
    obtain ⟨x, e⟩ := hcs c m
    obtain ⟨v, o, e1, e2⟩ := I.cell x c e
    refine ⟨v, o, nb c o e1 fun hm => ?_, e2⟩
    rcases List.mem_cons.mp (I.stkSub c hm) with z | z
    · exact I.cne x c e z
    · obtain ⟨_, o', ho, _⟩ := I.ok.funs.mem z
      exact Nat.lt_irrefl _ (Nat.lt_of_lt_of_le (Heap.lt_size ho) (new c m))
  have hokU := hok_up (φ := fun c h => ∃ v, h.IsCell c v) hokB (fun c m => ⟨cel0 c m, celB c m⟩) fun c m => ⟨celB c m, fun h1 h2 ⟨v, o, q1, q2⟩ q => ⟨v, o, q o q1, q2⟩⟩
  have base := I.base
  rw [hH] at base
  have un := un_up (ψ := fun c h => ∃ v, h.IsCell c v) hcel (fun c m => Heap.get?_none_of_le (new c m)) base
  have pinB : ∀ p ∈ X.pn, B.get? p.1 = some p.2 := fun p hp => by
    obtain ⟨h1, _, h3, h4, _⟩ := I.pin p (List.mem_append_left _ hp)
    refine nb p.1 p.2 h1 fun hm => ?_
    rcases List.mem_cons.mp (I.stkSub p.1 hm) with z | z
    · exact h3 z
    · exact h4 z
  have fin : ∀ h', HandSPX.FlyingZ B X.outer a (L2N.Zn cls d) h' → s'.heap.UpToSlots h' → (L2N.CX X.prog X.w X.outer Hw X.s_0 E (.ref a) { s' with heap := h' } ∧ ∀ p ∈ X.pn, ({ s' with heap := h' } : Shared).heap.get? p.1 = some p.2) := fun h' fl up' => by
    have acs : a ∉ cs := fun m => by
      obtain ⟨v, o, e1, e2⟩ := celB a m
      obtain ⟨oe, vs, q1, _, q2⟩ := fl.there
      have e1 := fl.1 a o e1
      rw [q1] at e1
      cases e1
      rw [q2] at e2; cases e2
    refine ⟨⟨a, B, upH cs (fun c h => ∃ v, h.IsCell c v) H, cls, d, rfl, fl, hokU, ⟨fun b o e n hb => nb b o (un.keep b o e n hb (hex' b)) (nst b o e hb), fun b o e hb => ?_, fun b o e n => un.free b o e n (hex' b), fun b o e hb => ?_, un.tups, un.frzs, un.tbls⟩,
      (upH_out acs).trans na, os.trans I.os, ag, hE⟩, fun p hp => fl.1 p.1 p.2 (pinB p hp)⟩
    · obtain ⟨_, o₀, e₀, hnf⟩ := I.ok.funs.mem hb
      rw [e] at e₀; cases e₀
      obtain ⟨sl, e1⟩ := I.base.slot b o e (I.ok.frf b hb) hb (hex' b)
      obtain ⟨sl2, e2⟩ := up b _ e1 hnf
      obtain ⟨sl3, e3⟩ := up' b _ e2 hnf
      exact ⟨sl3, e3⟩
    · obtain ⟨o', e1⟩ := I.base.there b o e (hex' b)
      exact ⟨o', nb b o' e1 (nst b o e hb)⟩
  rw [hs] at sky
  rcases sky with ⟨hB, hn, hl, oe, vs, he, hz, hd, h1⟩ | fl | hd
  · exact PXN.leaving_firstZ L2N.Zn.steady hfr hl hf he hB hn hd h1 hz fin
  · exact PXN.leaves_onZ L2N.Zn.steady hfr hf fl fin
  · exact HandSPX.leaves_heldZ hf hd fin
theorem takesG (Z : GZ) (ys : List D) (i : GIx) : L2N.Takes (Z.X ys i) (fun cls d _ H' => Z.EY ys i cls d H') := fun u s' x =>
  XE.leaveG (X := Z.X ys i) (W := fun cls d _ H' => Z.EY ys i cls d H') (E := Z.EX ys i) (cs := Z.cs) rfl rfl rfl (fun c m => GZ.mem_cs.mp m) (fun _ => rfl) rfl (fun cls d σ H n h => by
    obtain ⟨h1, h2, h3, x, h4, h5, h6⟩ := h
    obtain ⟨φ, h3⟩ := h3
    exact ⟨⟨φ, h3⟩, h1, grp_up h3 h2, x, h4, h5, h6.ext (grp_upH n)⟩) x
theorem ownsG (Z : GZ) (ys : List D) (i : GIx) : PassesOwn (model (Z.X ys i).prog (Z.X ys i).w) (Z.X ys i).A (Z.X ys i).env (Z.X ys i).xe :=
  passes_of (X := Z.X ys i) (K := fun e s'' => L2N.CX Z.P Z.w Z.outer i.H i.s (Z.EX ys i) e s'' ∧ ∀ p ∈ i.pn, s''.heap.get? p.1 = some p.2) (E₁ := fun _ _ => False) rfl
structure GZ.Left (Z : GZ) (i : GIx) (H : Hp) (s : Shared) : Prop where
  os : s.os = i.s.os
  bare : AllBare s.gens
  gr : GrP (onC Z.cs) i.H H
  un : Un (frs Z.outer) [] i.H H i.s.heap s.heap
  hok : HOk Z.P Z.w H s.heap
  pn : ∀ p ∈ i.pn, s.heap.get? p.1 = some p.2 ∧ H p.1 = none
def GZ.Own (Z : GZ) (gp : List (Addr × Obj)) (H : Hp) (s : Shared) : Prop := ∀ p ∈ gp, s.heap.get? p.1 = some p.2 ∧ H p.1 = none ∧ Z.L ≤ p.1 ∧ p.1 ∉ frs Z.outer ∧ ∀ v, p.2.data ≠ .cell v
structure GZ.Wake (Z : GZ) (gp : List (Addr × Obj)) (hv : List (D × V)) (φ : CFn) (i : GIx) (s : Shared) : Prop where
  ix : i.s = cutS s Z.L
  sz : Z.L ≤ s.heap.objs.size
  bare : AllBare s.gens
  hok : HOk Z.P Z.w i.H s.heap
  base : ∀ b o, Z.base.get? b = some o → s.heap.get? b = some o ∧ i.H b = none
  funs : s.heap.FunFrames Z.base Z.outer
  frf : ∀ b ∈ frs Z.outer, i.H b = none ∧ b < Z.L
  own : ∀ p ∈ gp, s.heap.get? p.1 = some p.2 ∧ i.H p.1 = none
  pn : ∀ p ∈ i.pn, s.heap.get? p.1 = some p.2 ∧ i.H p.1 = none ∧ p.1 ∉ frs Z.outer ∧ (∀ v, p.2.data ≠ .cell v) ∧ ∀ q ∈ gp, p.1 ≠ q.1
  s0 : ∀ a, i.S a → i.H a ≠ none
  cel : Celd Z.cs φ i.H
  cS : ∀ c ∈ Z.cs, ¬ i.S c
  hv : ∀ p ∈ hv, RepA Z.K i.H i.S p.1 p.2
def GZ.Phi (Z : GZ) : List D → GIx → FinP
  | [] => fun i e s => match e with
    | .ret r => ((r = .ok (.ret .none) ∨ r = .ok .next) ∧ Z.fin = none ∧ ∃ H, Z.Left i H s) ∨ ∃ x, r = .error x ∧ L2N.CX Z.P Z.w Z.outer i.H i.s (Z.EX [] i) x s ∧ ∀ p ∈ i.pn, s.heap.get? p.1 = some p.2
    | .susp _ _ _ _ _ _ _ => False
  | d :: ys => fun i e s => match e with
    | .ret _ => False
    | .susp v g l k c p fs => (End.susp v g l k c p fs).quiet = true ∧ ∃ (x : V) (H : Hp) (gp : List (Addr × Obj)) (hv : List (D × V)) (φ : CFn), RelV x v ∧ Z.Left i H s ∧ Celd Z.cs φ H ∧ Z.Own gp H s ∧ (∀ p ∈ i.pn, ∀ q ∈ gp, p.1 ≠ q.1) ∧ RepA Z.K H i.S d x ∧ (∀ p ∈ hv, RepA Z.K H i.S p.1 p.2) ∧
        ∀ i' s', Z.Wake gp hv φ i' s' → Sg (model Z.P Z.w) Z.A (Z.Phi ys i') c (k (.send .none)) fs s'
structure GSt (Z : GZ) (ip : List (Addr × Obj)) (hid : List (D × V)) (ys : List D) (i : GIx) (ρ : List Sl) (σ : L2.St) (H : Hp) (s : Shared) : Prop where
  inv : Inv (Z.X ys i) ip σ H s
  rel : ∃ T, Rel Z.K W0 ⟨dnH Z.cs i.H, i.S, nop, hid⟩ T () ρ σ H
  sz : i.s.heap.objs.size = Z.L
  dis : ∀ p ∈ i.pn, ∀ q ∈ ip, p.1 ≠ q.1
  big : ∀ q ∈ ip, Z.L ≤ q.1
  frl : ∀ b ∈ frs Z.outer, b < Z.L
  cel : (∃ φ, Celd Z.cs φ i.H) ∧ ∀ c ∈ Z.cs, ¬ i.S c
structure PGn where
  nx : List D → List Sl → Prop
  rt : List D → Prop
  bk : List D → List Sl → Prop := fun _ _ => False
  ct : List D → List Sl → Prop := fun _ _ => False
  ex : List D → Exn → Prop
abbrev QTGn := PGn → List D → List Sl → Prop
def GSP1 (Z : GZ) (ip : List (Addr × Obj)) (hid : List (D × V)) (P : PGn) (ys : List D) (i : GIx) (f : Flow) (s : Shared) : Prop :=
  match f with
  | .next => ∃ ρ σ H, GSt Z ip hid ys i ρ σ H s ∧ P.nx ys ρ
  | .brk => ∃ ρ σ H, GSt Z ip hid ys i ρ σ H s ∧ P.bk ys ρ
  | .cont => ∃ ρ σ H, GSt Z ip hid ys i ρ σ H s ∧ P.ct ys ρ
  | .ret u => u = .none ∧ ∃ σ H, Inv (Z.X ys i) ip σ H s ∧ GrP nop (dnH Z.cs i.H) H ∧ (∃ φ, Celd Z.cs φ i.H) ∧ P.rt ys
structure GC1 (Z : GZ) (c : Code) (fs : List Frame) (gd : Bool → Bool) : Prop where
  over : Z.A.over c fs = Z.A.deeper Z.env
  split : splitAtGen fs = none
  guard : fs.any Frame.guarded = false
  gd : gd false = false
structure GK1 (Z : GZ) (ip : List (Addr × Obj)) (hid : List (D × V)) (c : Code) (fs : List Frame) (Kc : Flow → Sem PySem.Fin) (J : Value → Sem PySem.Fin) (P : PGn) : Prop where
  ok : ∀ ys i f s, GSP1 Z ip hid P ys i f s → Sg (model Z.P Z.w) Z.A (Z.Phi ys i) c (Kc f) fs s
  exc : ∀ ys i e s, (Z.X ys i).xe e s → Sg (model Z.P Z.w) Z.A (Z.Phi ys i) c (J e) fs s
  ex : ∀ ys x, P.ex ys x → ys = [] ∧ Z.fin = some x
structure GS1 (Z : GZ) (st : Stmt) (q : QTGn) : Prop where
  run : ∀ (ip : List (Addr × Obj)) (hid : List (D × V)) (ys : List D) (i : GIx) (c : Code) (fs : List Frame) (Kc : Flow → Sem PySem.Fin) (J : Value → Sem PySem.Fin) (gd : Bool → Bool) (lv : List Value → List Value) (ρ : List Sl) (σ : L2.St) (H : Hp) (s : Shared) (P : PGn),
    GC1 Z c fs gd → GK1 Z ip hid c fs Kc J P → GSt Z ip hid ys i ρ σ H s → q P ys ρ → Sg (model Z.P Z.w) Z.A (Z.Phi ys i) c ((exec st Z.env).wrap Kc J gd lv) fs s
structure GSs1 (Z : GZ) (st : List Stmt) (q : QTGn) : Prop where
  run : ∀ (ip : List (Addr × Obj)) (hid : List (D × V)) (ys : List D) (i : GIx) (c : Code) (fs : List Frame) (Kc : Flow → Sem PySem.Fin) (J : Value → Sem PySem.Fin) (gd : Bool → Bool) (lv : List Value → List Value) (ρ : List Sl) (σ : L2.St) (H : Hp) (s : Shared) (P : PGn),
    GC1 Z c fs gd → GK1 Z ip hid c fs Kc J P → GSt Z ip hid ys i ρ σ H s → q P ys ρ → Sg (model Z.P Z.w) Z.A (Z.Phi ys i) c ((execs st Z.env).wrap Kc J gd lv) fs s
theorem sg_cameBack {Z : GZ} {ip : List (Addr × Obj)} {hid : List (D × V)} {c : Code} {fs : List Frame} {Kc : Flow → Sem PySem.Fin} {J : Value → Sem PySem.Fin} {gd : Bool → Bool} {lv : List Value → List Value} {P : PGn} {ys : List D} {i : GIx} {e : Value} {s : Shared}
    (g : GC1 Z c fs gd) (k : GK1 Z ip hid c fs Kc J P) (h : cameBackBy (model Z.P Z.w) (Z.X ys i).A Z.env (Z.X ys i).xe e s) :
    Sg (model Z.P Z.w) Z.A (Z.Phi ys i) c (((Sem.raise e : Sem Flow).onRaise (cameBack Z.env)).wrap Kc J gd lv) fs s := by
  show Sg _ _ _ _ (((cameBack Z.env e).bind fun _ => (Sem.raise e : Sem Flow)).wrap Kc J gd lv) _ _
  rw [Sem.bind_eq_wrap, Sem.wrap_wrap]
  refine sg_wrap ?_
  rw [g.over]
  exact wpAny_mono h (fun _ s' hx => k.exc ys i e s' hx) fun x s' hx => k.exc ys i x s' hx
section
variable {Z : GZ} {st : Stmt} {rest : List Stmt} {q u : QTGn}
def toPEn (P : PGn) (ys : List D) : PEn W0 := { nx := fun _ ρ => P.nx ys ρ, rt := fun _ d => d = .non ∧ P.rt ys, bk := fun _ ρ => P.bk ys ρ, ct := fun _ ρ => P.ct ys ρ, ex := fun _ x _ => P.ex ys x }
def gPl (s : QTS W0) : QTGn := fun P ys ρ => s (toPEn P ys) () ρ
theorem gk_plain {ip : List (Addr × Obj)} {hid : List (D × V)} {ys : List D} {i : GIx} {c : Code} {fs : List Frame} {Kc : Flow → Sem PySem.Fin} {J : Value → Sem PySem.Fin} {P : PGn} {ρ : List Sl} {σ : L2.St} {H : Hp} {s : Shared} (k : GK1 Z ip hid c fs Kc J P) (h : GSt Z ip hid ys i ρ σ H s) :
    ∃ D : Ends, Sim .A Z.K W0 (fun cls d _ H' => Z.EY ys i cls d H') ⟨dnH Z.cs i.H, i.S, nop, hid⟩ (toPEn P ys) D ∧ ∀ f s', SP (Z.X ys i) ip D f s' → GSP1 Z ip hid P ys i f s' := by
  have mk : ∀ {ρ' : List Sl} {σ' : L2.St} {H' : Hp} {s' : Shared}, Inv (Z.X ys i) ip σ' H' s' → (∃ T, Rel Z.K W0 ⟨dnH Z.cs i.H, i.S, nop, hid⟩ T () ρ' σ' H') → GSt Z ip hid ys i ρ' σ' H' s' := fun I R => ⟨I, R, h.sz, h.dis, h.big, h.frl, h.cel⟩
  let R : List Sl → L2.St → Hp → Prop := fun ρ' σ' H' => ∃ T, Rel Z.K W0 ⟨dnH Z.cs i.H, i.S, nop, hid⟩ T () ρ' σ' H'
  refine ⟨{ nx := fun σ' H' => ∃ ρ', R ρ' σ' H' ∧ P.nx ys ρ', rt := fun v H' => v = .non ∧ GrP nop (dnH Z.cs i.H) H' ∧ P.rt ys, bk := fun σ' H' => ∃ ρ', R ρ' σ' H' ∧ P.bk ys ρ', ct := fun σ' H' => ∃ ρ', R ρ' σ' H' ∧ P.ct ys ρ' },
    ⟨fun T ω ρ σ H R q => ⟨ρ, ⟨T, R⟩, q⟩, fun T ω ρ σ H R q => ⟨ρ, ⟨T, R⟩, q⟩, fun T ω ρ σ H R q => ⟨ρ, ⟨T, R⟩, q⟩, fun T ω ρ σ H d v R r q => ?_, fun T ω ρ σ H x cls dd R xr q => ?_⟩, fun f s' hs => ?_⟩
  · obtain ⟨rfl, q⟩ := q
    have r : RepA Z.K H _ .non v := r
    cases r
    exact ⟨rfl, R.gr, q⟩
  · obtain ⟨h1, h2⟩ := k.ex ys x q
    exact ⟨h1, R.gr, h.cel.1, x, h2, xr⟩
  · cases f with
    | next => obtain ⟨σ', H', I, ρ', R, q⟩ := hs; exact ⟨ρ', σ', H', mk I R, q⟩
    | brk => obtain ⟨σ', H', I, ρ', R, q⟩ := hs; exact ⟨ρ', σ', H', mk I R, q⟩
    | cont => obtain ⟨σ', H', I, ρ', R, q⟩ := hs; exact ⟨ρ', σ', H', mk I R, q⟩
    | ret u =>
      obtain ⟨v, σ', H', I, rv, ev, gr, q⟩ := hs
      subst ev
      have eu : u = Value.none := rv
      exact ⟨eu, σ', H', I, gr, h.cel.1, q⟩
theorem gs_plain {s : QTS W0} (h : ∀ ys i, L2N.Takes (Z.X ys i) (fun cls d _ H' => Z.EY ys i cls d H') → PassesOwn (model (Z.X ys i).prog (Z.X ys i).w) (Z.X ys i).A (Z.X ys i).env (Z.X ys i).xe → QS (Z.X ys i) .A W0 (fun cls d _ H' => Z.EY ys i cls d H') st s) : GS1 Z st (gPl s) := by
  refine ⟨fun ip hid ys i c fs Kc J gd lv ρ σ H s' P g k hs hq => ?_⟩
  refine sg_wrap ?_
  rw [g.over]
  obtain ⟨D, hS, hD⟩ := gk_plain k hs
  obtain ⟨T, R⟩ := hs.rel
  exact wpAny_mono ((h ys i (takesG Z ys i) (ownsG Z ys i)).run ip s' σ H D hs.inv ⟨⟨dnH Z.cs i.H, i.S, nop, hid⟩, T, (), ρ, toPEn P ys, R, hq, hS⟩) (fun f s2 h2 => k.ok ys i f s2 (hD f s2 h2)) fun e s2 he => k.exc ys i e s2 he
end
end LW
namespace LW
open PySem PySem.Spec PyProof.Rows L2 GenW
section
variable {Z : GZ} {st : Stmt} {rest : List Stmt} {q u : QTGn}
def gSeq (q u : QTGn) : QTGn := fun P ys ρ => q { P with nx := u P } ys ρ
theorem gss_cons (a : GS1 Z st q) (b : GSs1 Z rest u) : GSs1 Z (st :: rest) (gSeq q u) := by
  refine ⟨fun ip hid ys i c fs Kc J gd lv ρ σ H s P g k h hq => ?_⟩
  refine sg_execs_cons ?_
  refine a.run ip hid ys i c fs _ J gd lv ρ σ H s { P with nx := u P } g ⟨fun ys' i' f s' hs => ?_, k.exc, k.ex⟩ h hq
  cases f with
  | next =>
    obtain ⟨ρ', σ', H', h', q'⟩ := hs
    exact b.run ip hid ys' i' c fs Kc J gd lv ρ' σ' H' s' P g k h' q'
  | brk => exact k.ok ys' i' .brk s' hs
  | cont => exact k.ok ys' i' .cont s' hs
  | ret v => exact k.ok ys' i' (.ret v) s' hs
theorem gss_one (a : GS1 Z st q) : GSs1 Z [st] q := by
  refine ⟨fun ip hid ys i c fs Kc J gd lv ρ σ H s P g k h hq => ?_⟩
  refine sg_execs_cons ?_
  refine a.run ip hid ys i c fs _ J gd lv ρ σ H s P g ⟨fun ys' i' f s' hs => ?_, k.exc, k.ex⟩ h hq
  cases f with
  | next => exact sg_execs_nil (k.ok ys' i' .next s' hs)
  | brk => exact k.ok ys' i' .brk s' hs
  | cont => exact k.ok ys' i' .cont s' hs
  | ret v => exact k.ok ys' i' (.ret v) s' hs
end
def slotPairs : List Sl → L2.St → List (D × V)
  | .va d :: ρ, some v :: σ => (d, v) :: slotPairs ρ σ
  | _ :: ρ, _ :: σ => slotPairs ρ σ
  | _, _ => []
def allVa : List Sl → Bool
  | [] => true
  | .va _ :: ρ => allVa ρ
  | .no :: ρ => allVa ρ
  | _ => false
theorem allVa_owns : ∀ {ρ : List Sl}, allVa ρ = true → owns ρ = []
  | [], _ => rfl
  | .va _ :: ρ, h => allVa_owns (ρ := ρ) h
  | .no :: ρ, h => allVa_owns (ρ := ρ) h
  | .ow _ _ :: _, h => nomatch (show false = true from h)
  | .ex _ _ _ :: _, h => nomatch (show false = true from h)
theorem slots_pairs {K : PySem.W.Frag} {H : Hp} {S : ASet} : ∀ {ρ : List Sl} {σ : L2.St}, SlsR K H S ρ σ → allVa ρ = true → ∀ p ∈ slotPairs ρ σ, RepA K H S p.1 p.2
  | _, _, .nil, _, p, hp => by cases hp
  | _, _, .no r, h, p, hp => slots_pairs r h p (by unfold slotPairs at hp; exact hp)
  | _, _, .va q r, h, p, hp => by
    unfold slotPairs at hp
    rcases List.mem_cons.mp hp with z | z
    · rw [z]; exact q
    · exact slots_pairs r h p z
  | _, _, .ex _ _, h, _, _ => nomatch (show false = true from h)
  | _, _, .ow _ _ _, h, _, _ => nomatch (show false = true from h)
theorem slots_back {K : PySem.W.Frag} {H H' : Hp} {S S' : ASet} : ∀ {ρ : List Sl} {σ : L2.St}, SlsR K H S ρ σ → allVa ρ = true → (∀ p ∈ slotPairs ρ σ, RepA K H' S' p.1 p.2) → SlsR K H' S' ρ σ
  | _, _, .nil, _, _ => .nil
  | _, _, .no r, h, k => .no (slots_back r h fun p hp => k p (by unfold slotPairs; exact hp))
  | _, _, .va q r, h, k => .va (k (_, _) (by unfold slotPairs; exact List.mem_cons_self)) (slots_back r h fun p hp => k p (by unfold slotPairs; exact List.mem_cons_of_mem _ hp))
  | _, _, .ex _ _, h, _ => nomatch (show false = true from h)
  | _, _, .ow _ _ _, h, _ => nomatch (show false = true from h)
theorem funFrames_cut {s : Shared} {n : Nat} {base : Heap} : ∀ {l : List Env}, (∀ b ∈ frs l, b < n) → s.heap.FunFrames base l → (cutS s n).heap.FunFrames base l
  | [], _, _ => trivial
  | env :: rest, hl, ⟨hk, ⟨L, o, hf, hn, ho, hd⟩, hr⟩ => by
    have hL : L ∈ frs (env :: rest) := by unfold frs; rw [List.filterMap_cons, hf]; exact List.mem_cons_self
    refine ⟨hk, ⟨L, o, hf, hn, (cutS_get (hl L hL)).trans ho, hd⟩, funFrames_cut (fun b hb => hl b ?_) hr⟩
    unfold frs at hb ⊢
    rw [List.filterMap_cons, hf]
    exact List.mem_cons_of_mem _ hb
theorem spr_va {F : Frm} {T : ASet} {ρ : List Sl} (hT : ∀ a, ¬ T a) (h : allVa ρ = true) : ∀ a, Spr F T ρ a → F.S a := fun a z => by
  rcases z with z | z | z
  · exact z
  · exact absurd z (hT a)
  · rw [allVa_owns h] at z; cases z
theorem GSt.obj {Z : GZ} {ip : List (Addr × Obj)} {hid : List (D × V)} {ys : List D} {i : GIx} {ρ : List Sl} {σ : L2.St} {H : Hp} {s : Shared} (h : GSt Z ip hid ys i ρ σ H s) : ∃ oL, s.heap.get? Z.L = some oL :=
  let ⟨_, ⟨oL, _, _, eL, _⟩, _⟩ := h.inv.loc
  ⟨oL, eL⟩
theorem inv_cs {Z : GZ} {ip : List (Addr × Obj)} {ys : List D} {i : GIx} {σ : L2.St} {H : Hp} {s : Shared} (I : Inv (Z.X ys i) ip σ H s) : ∀ c ∈ Z.cs, i.s.heap.objs.size ≤ c ∧ H c = none ∧ (∃ v, s.heap.IsCell c v) ∧ c ≠ Z.L := fun c m => by
  obtain ⟨x, e⟩ := GZ.mem_cs.mp m
  exact ⟨I.ok.cab x c rfl e, I.freeC x c e, I.cell x c e, I.cne x c e⟩
theorem inv_pin_cs {Z : GZ} {ip : List (Addr × Obj)} {ys : List D} {i : GIx} {σ : L2.St} {H : Hp} {s : Shared} (I : Inv (Z.X ys i) ip σ H s) {p : Addr × Obj} (hp : p ∈ i.pn ++ ip) : p.1 ∉ Z.cs := fun m => by
  obtain ⟨_, _, ⟨v, o, e1, e2⟩, _⟩ := inv_cs I p.1 m
  obtain ⟨q1, _, _, _, q2⟩ := I.pin p hp
  rw [q1] at e1
  cases e1
  exact q2 v e2
theorem GZ.left_of {Z : GZ} {ip : List (Addr × Obj)} {ys : List D} {i : GIx} {σ : L2.St} {H : Hp} {s : Shared} {φ ψ : CFn} (I : Inv (Z.X ys i) ip σ H s) (k : Celd Z.cs φ i.H) (g : GrP nop (dnH Z.cs i.H) H) (hψ : ∀ c ∈ Z.cs, ψ c s.heap ∧ ∀ h1 h2 : Heap, ψ c h1 → (∀ o, h1.get? c = some o → h2.get? c = some o) → ψ c h2) : Z.Left i (upH Z.cs ψ H) s := by
  refine ⟨I.os, I.bare, grp_up k g, un_up k (fun c m => Heap.get?_none_of_le (inv_cs I c m).1) I.base, hok_up I.hok (fun c m => ⟨(inv_cs I c m).2.1, (inv_cs I c m).2.2.1⟩) hψ, fun p hp => ?_⟩
  have hp' := List.mem_append_left ip hp
  obtain ⟨a, b, _⟩ := I.pin p hp'
  exact ⟨a, upH_none b (inv_pin_cs I hp')⟩
theorem GZ.left_end {Z : GZ} {ip : List (Addr × Obj)} {ys : List D} {i : GIx} {σ : L2.St} {H : Hp} {s : Shared} (I : Inv (Z.X ys i) ip σ H s) (k : ∃ φ, Celd Z.cs φ i.H) (g : GrP nop (dnH Z.cs i.H) H) : ∃ H', Z.Left i H' s :=
  let ⟨_, k⟩ := k
  ⟨_, GZ.left_of (ψ := fun c h => ∃ v, h.IsCell c v) I k g fun c m => ⟨(inv_cs I c m).2.2.1, fun h1 h2 ⟨v, o, q1, q2⟩ q => ⟨v, o, q o q1, q2⟩⟩⟩
theorem inv_celD {Z : GZ} {ip : List (Addr × Obj)} {ys : List D} {i : GIx} {σ : L2.St} {H : Hp} {s : Shared} (I : Inv (Z.X ys i) ip σ H s) : ∀ c ∈ Z.cs, celD Z.N Z.env σ c s.heap ∧ ∀ h1 h2 : Heap, celD Z.N Z.env σ c h1 → (∀ o, h1.get? c = some o → h2.get? c = some o) → celD Z.N Z.env σ c h2 := fun c m => by
  refine ⟨⟨(inv_cs I c m).2.2.1, fun j x v e1 e2 e3 e4 e5 => ?_⟩, fun h1 h2 a b => celD_stay a b⟩
  obtain ⟨_, _, hloc⟩ := I.loc
  obtain ⟨u, r, lk⟩ := hloc j x v e1 e2 e4
  refine ⟨u, r, ?_⟩
  rcases lk with ⟨k, _⟩ | ⟨_, c', q1, q2⟩
  · have k : Z.env.kindOf x = some .local := k
    rcases e5 with z | z
    · rw [k] at z; cases z
    · rw [k] at z; cases z
  · have q1 : Z.env.cells.lookup x = some c' := q1
    rw [e3] at q1
    cases q1
    exact q2
theorem GSt.rest {Z : GZ} {ip : List (Addr × Obj)} {hid : List (D × V)} {ys : List D} {i : GIx} {ρ : List Sl} {σ : L2.St} {H : Hp} {s : Shared} {oL : Obj} (h : GSt Z ip hid ys i ρ σ H s) (hv : allVa ρ = true) (eo' : s.heap.get? Z.L = some oL) :
    Z.Left i (upH Z.cs (celD Z.N Z.env σ) H) s ∧ Celd Z.cs (celD Z.N Z.env σ) (upH Z.cs (celD Z.N Z.env σ) H) ∧ Z.Own ((Z.L, oL) :: ip) (upH Z.cs (celD Z.N Z.env σ) H) s ∧ (∀ p ∈ i.pn, ∀ q ∈ (Z.L, oL) :: ip, p.1 ≠ q.1) ∧ (∀ p ∈ hid ++ slotPairs ρ σ, RepA Z.K (upH Z.cs (celD Z.N Z.env σ) H) i.S p.1 p.2) ∧ ∀ ys' i' s', Z.Wake ((Z.L, oL) :: ip) (hid ++ slotPairs ρ σ) (celD Z.N Z.env σ) i' s' → GSt Z ip hid ys' i' ρ σ (dnH Z.cs i'.H) s' := by
  obtain ⟨I, ⟨T, R⟩, sz, dis, big, frl, ⟨⟨φ, cel⟩, cS⟩⟩ := h
  have hT : ∀ a, ¬ T a := R.inv
  obtain ⟨m, ⟨oL', es, ep, eL, dL, hk, hm⟩, hloc⟩ := id I.loc
  have e0 : s.heap.get? Z.L = some oL' := eL
  rw [eo'] at e0
  cases e0
  have cs0 := inv_cs I
  have cn : ∀ c ∈ Z.cs, H c = none := fun c m => (cs0 c m).2.1
  have less : ∀ a, i.S a → Spr ⟨dnH Z.cs i.H, i.S, nop, hid⟩ T ρ a := fun a z => .inl z
  have cellL : ∀ v, oL.data ≠ .cell v := fun v z => by rw [dL] at z; cases z
  have LnotF : Z.L ∉ frs Z.outer := fun z => Nat.lt_irrefl _ (frl _ z)
  refine ⟨GZ.left_of I cel R.gr (inv_celD I), upH_celd, fun p hp => ?_, fun p hp q hq => ?_, fun p hp => rep_up cn ?_, fun ys' i' s' wk => ?_⟩
  · rcases List.mem_cons.mp hp with rfl | hp
    · exact ⟨eL, upH_none I.free fun z => (cs0 _ z).2.2.2 rfl, Nat.le_refl _, LnotF, cellL⟩
    · obtain ⟨a, b, _, d, e⟩ := I.pin p (List.mem_append_right _ hp)
      exact ⟨a, upH_none b (inv_pin_cs I (List.mem_append_right _ hp)), big p hp, d, e⟩
  · rcases List.mem_cons.mp hq with rfl | hq
    · exact (I.pin p (List.mem_append_left _ hp)).2.2.1
    · exact dis p hp q hq
  · rcases List.mem_append.mp hp with hp | hp
    · exact (R.hd p hp).less less
    · exact (slots_pairs R.sl hv p hp).less less
  · have ok := I.ok
    obtain ⟨eo, hoL⟩ := wk.own (Z.L, oL) List.mem_cons_self
    have esz : i'.s.heap.objs.size = Z.L := by rw [wk.ix]; exact cutS_size wk.sz
    have bL : ∀ b o, Z.base.get? b = some o → b < Z.L := fun b o e => by
      have h2 : Z.base.objs.size ≤ i.s.heap.objs.size := ok.bsz
      rw [sz] at h2
      exact Nat.lt_of_lt_of_le (Heap.lt_size e) h2
    refine ⟨⟨⟨ok.mod, ok.kind, ok.glob, ok.blt, ?_, ok.inj, ok.has, fun x c hf e => ?_, ok.hd, ok.frames, ok.stk, (fun b hb => by cases hb), fun b o e => ?_, ?_, (fun b o e hb => by cases hb), (fun b hb => by cases hb), ?_, fun b hb => dnH_none (wk.frf b hb).1⟩, ?_, wk.bare, ?_, ⟨m, ⟨oL, es, ep, eo, dL, hk, hm⟩, fun j x v h1 h2 h3 => ?_⟩, fun x c e => (wk.cel.cell wk.hok (GZ.mem_cs.mpr ⟨x, e⟩)).1, dnH_none hoL, fun x c e => dnH_in (GZ.mem_cs.mpr ⟨x, e⟩), fun p hp => ?_, hok_dn wk.cel wk.hok, I.len⟩, ⟨nop, GrP.refl _ _, fun _ z => z, fun _ z => z.elim, fun l hl => ?_, ?_, fun a sa => ⟨?_, fun z => z⟩, fun p hp => ?_, ?_⟩, esz, fun p hp q hq => ?_, big, frl, ⟨⟨_, wk.cel⟩, wk.cS⟩⟩
    · show i'.s.heap.objs.size ≤ Z.L
      omega
    · show i'.s.heap.objs.size ≤ c
      have h1 := ok.cab x c hf e
      have h1 : i.s.heap.objs.size ≤ c := h1
      omega
    · refine ⟨?_, dnH_none (wk.base b o e).2⟩
      show i'.s.heap.get? b = some o
      rw [wk.ix, cutS_get (bL b o e)]
      exact (wk.base b o e).1
    · show Z.base.objs.size ≤ i'.s.heap.objs.size
      have h2 : Z.base.objs.size ≤ i.s.heap.objs.size := ok.bsz
      omega
    · show i'.s.heap.FunFrames Z.base Z.outer
      rw [wk.ix]
      exact funFrames_cut frl wk.funs
    · show s'.os = i'.s.os
      rw [wk.ix] <;> rfl
    · show Un (frs Z.outer) [] (dnH Z.cs i'.H) (dnH Z.cs i'.H) i'.s.heap s'.heap
      rw [wk.ix]
      exact Un.kept fun b o e => (cutS_of e).2
    · obtain ⟨u, ru, lk⟩ := hloc j x v h1 h2 h3
      rcases lk with lk | ⟨k, c, e, _⟩
      · exact ⟨u, ru, .inl lk⟩
      · obtain ⟨u', ru', ic⟩ := (wk.cel.cell wk.hok (GZ.mem_cs.mpr ⟨x, e⟩)).2 j x v h1 h2 e h3 k
        exact ⟨u', ru', .inr ⟨k, c, e, ic⟩⟩
    · rcases List.mem_append.mp hp with hp | hp
      · obtain ⟨a, b, c, d, e⟩ := wk.pn p hp
        exact ⟨a, dnH_none b, e (Z.L, oL) List.mem_cons_self, c, d⟩
      · obtain ⟨_, _, c, d, e⟩ := I.pin p (List.mem_append_right _ hp)
        obtain ⟨a, b⟩ := wk.own p (List.mem_cons_of_mem _ hp)
        exact ⟨a, dnH_none b, c, d, e⟩
    · rw [allVa_owns hv] at hl; cases hl
    · rw [allVa_owns hv]; exact List.nodup_nil
    · rw [dnH_out fun m => wk.cS a m sa]
      exact wk.s0 a sa
    · exact (rep_dn wk.cel (wk.hv p (List.mem_append_left _ hp))).less fun a z => spr_va (fun _ z => z) hv a z
    · exact slots_back R.sl hv fun p hp => (rep_dn wk.cel (wk.hv p (List.mem_append_right _ hp))).less fun a z => spr_va (fun _ z => z) hv a z
    · exact (wk.pn p hp).2.2.2.2 q (List.mem_cons_of_mem _ hq)
def gYield (qa : QT W0) : QTGn := fun P ys ρ => allVa ρ = true ∧ qa () ρ (fun _ d => ∃ ys', ys = d :: ys' ∧ P.nx ys' ρ) fun _ x => P.ex ys x
theorem gs_yield {Z : GZ} {e : Expr} {yp pos : Pos} {m : Md} {qa : QT W0} (he : ∀ ys i, L2N.Takes (Z.X ys i) (fun cls d _ H' => Z.EY ys i cls d H') → PassesOwn (model (Z.X ys i).prog (Z.X ys i).w) (Z.X ys i).A (Z.X ys i).env (Z.X ys i).xe → QE (Z.X ys i) m W0 (fun cls d _ H' => Z.EY ys i cls d H') e qa) (hm : m.st = true := by rfl)
    (hco : Z.scope.isCoroutine = false := by rfl) (hi : interactive Z.env = false := by rfl) : GS1 Z (.Expr (.Yield (some e) yp) pos) (gYield qa) := by
  refine ⟨fun ip hid ys i c fs Kc J gd lv ρ σ H s P g k hs ⟨hv, hq⟩ => ?_⟩
  refine sg_Expr_Yield g.split g.gd ?_ hco hi
  rw [g.over]
  obtain ⟨D0, hS, _⟩ := gk_plain k hs
  obtain ⟨T, R⟩ := hs.rel
  refine wpAny_mono ((he ys i (takesG Z ys i) (ownsG Z ys i)).run ip s σ H (fun x H' => ∃ T' d, Rel Z.K W0 ⟨dnH Z.cs i.H, i.S, nop, hid⟩ T' () ρ σ H' ∧ RepA Z.K H' (Spr ⟨dnH Z.cs i.H, i.S, nop, hid⟩ T' ρ) d x ∧ ∃ ys', ys = d :: ys' ∧ P.nx ys' ρ) hs.inv
    ⟨⟨dnH Z.cs i.H, i.S, nop, hid⟩, T, (), ρ, _, _, R, hq, hS.xok, fun T' ω' d v H' R' _ rr q' => ⟨T', d, R', rr.a hm, q'⟩⟩) (fun v s' hv' => ?_) fun x s' hx => k.exc ys i x s' hx
  obtain ⟨x, H', I', rv, T', d, R', rd, ys', rfl, hn⟩ := hv'
  have hs' : GSt Z ip hid (d :: ys') i ρ σ H' s' := ⟨I', ⟨T', R'⟩, hs.sz, hs.dis, hs.big, hs.frl, hs.cel⟩
  obtain ⟨oL, eo⟩ := hs'.obj
  obtain ⟨left, ce, own, dis, hvr, wake⟩ := hs'.rest hv eo
  intro l kk p hk
  refine ⟨?_, x, _, _, _, _, rv, left, ce, own, dis, (rep_up (fun c m => (inv_cs I' c m).2.1) rd).less fun a z => .inl z, hvr, fun i' s'' wk => ?_⟩
  · show (!(false || fs.any Frame.guarded)) = true
    rw [g.guard] <;> rfl
  · exact hk _ s'' (k.ok ys' i' .next s'' ⟨ρ, σ, _, wake ys' i' s'' wk, hn⟩)
def gFor (qi : QTI W0) (g : QTG) (q : QTGn) : QTGn := fun P ys ρ => qi () ρ (fun _ ds => ∃ I : Nat → List D → List Sl → Prop, I 0 ys ρ ∧ (∀ k d ys ρ, ds[k]? = some d → I k ys ρ → g d ρ fun ρ' => q { P with nx := I (k + 1), ct := I (k + 1), bk := P.nx } ys ρ') ∧ ∀ ys ρ, I ds.length ys ρ → P.nx ys ρ) fun _ x => P.ex ys x
theorem gc_loop1 {Z : GZ} {c c' : Code} {fs : List Frame} {gd : Bool → Bool} {k : Result → Sem PySem.Fin} {l kp : List Value} {p : Pos} (g : GC1 Z c fs gd) (hw : c'.weight = 0) (hu : c'.cUnits = 0) : GC1 Z c' (.ret k none (gd false) l c p kp :: fs) id where
  over := (over_loop hw hu).trans g.over
  split := by
    show (splitAtGen fs).map _ = none
    rw [g.split]; rfl
  guard := by
    show (gd false || fs.any Frame.guarded) = false
    rw [g.gd, g.guard]; rfl
  gd := rfl
theorem GSt.hdrop {Z : GZ} {ip : List (Addr × Obj)} {h hid : List (D × V)} {ys : List D} {i : GIx} {ρ : List Sl} {σ : L2.St} {H : Hp} {s : Shared} (x : GSt Z ip (h ++ hid) ys i ρ σ H s) : GSt Z ip hid ys i ρ σ H s :=
  ⟨x.inv, let ⟨T, R⟩ := x.rel; ⟨T, Rel.drop (F := ⟨dnH Z.cs i.H, i.S, nop, hid⟩) (h := h) R⟩, x.sz, x.dis, x.big, x.frl, x.cel⟩
theorem GSt.unpin {Z : GZ} {ip pl : List (Addr × Obj)} {hid : List (D × V)} {ys : List D} {i : GIx} {ρ : List Sl} {σ : L2.St} {H : Hp} {s : Shared} (x : GSt Z (ip ++ pl) hid ys i ρ σ H s) : GSt Z ip hid ys i ρ σ H s :=
  ⟨x.inv.unpinned, x.rel, x.sz, fun p hp q hq => x.dis p hp q (List.mem_append_left _ hq), fun q hq => x.big q (List.mem_append_left _ hq), x.frl, x.cel⟩
theorem gs_for {Z : GZ} {tg iter : Expr} {body : List Stmt} {pos : Pos} {m : Md} {t : List Nat} {qi : QTI W0} {g : QTG} {q : QTGn}
    (hi : ∀ ys i, L2N.Takes (Z.X ys i) (fun cls d _ H' => Z.EY ys i cls d H') → PassesOwn (model (Z.X ys i).prog (Z.X ys i).w) (Z.X ys i).A (Z.X ys i).env (Z.X ys i).xe → QI (Z.X ys i) m W0 (fun cls d _ H' => Z.EY ys i cls d H') tg iter qi)
    (hg : ∀ ys i, QG (Z.X ys i) m W0 tg t g) (hb : GSs1 Z body q) (hs : ∀ x, foldedSetIterable iter Z.env x = pure x := by intro _; rfl) : GS1 Z (.For tg iter body [] pos) (gFor qi g q) := by
  refine ⟨fun ip hid ys0 i0 c fs Kc J gd lv ρ0 σ0 H0 s0 P gc k hst hq => ?_⟩
  refine sg_For ?_ hs
  rw [gc.over]
  obtain ⟨D0, hS, _⟩ := gk_plain k hst
  obtain ⟨T0, R0⟩ := hst.rel
  refine wpAny_mono ((hi ys0 i0 (takesG Z ys0 i0) (ownsG Z ys0 i0)).run ip s0 σ0 H0 (fun Jt H' => ∃ T' h ds, Rel Z.K W0 (Frm.add ⟨dnH Z.cs i0.H, i0.S, nop, hid⟩ h) T' () ρ0 σ0 H' ∧ ItOk m Z.K W0 h ds Jt ∧ ∃ I : Nat → List D → List Sl → Prop, I 0 ys0 ρ0 ∧ (∀ k d ys ρ, ds[k]? = some d → I k ys ρ → g d ρ fun ρ' => q { P with nx := I (k + 1), ct := I (k + 1), bk := P.nx } ys ρ') ∧ ∀ ys ρ, I ds.length ys ρ → P.nx ys ρ) hst.inv
    ⟨⟨dnH Z.cs i0.H, i0.S, nop, hid⟩, T0, (), ρ0, _, _, R0, hq, hS.xok, fun T' ω' h ds Jt H' R' _ it q' => ⟨T', h, ds, R', it, q'⟩⟩) (fun v s1 h1 => ?_) fun x s' hx => k.exc ys0 i0 x s' hx
  refine wpAny_mono h1 (fun itv s2 h2 => ?_) fun x s' hx => k.exc ys0 i0 x s' hx
  obtain ⟨it, fp, tn, Jt, H2, rfl, I2, T, st2, f2, T2, h, ds, R2, itok, Iv, iv0, ivs, ivd⟩ := h2
  intro p
  have gl : GC1 Z (.forLoop tg (.ref it) body [] Z.env) (ownRet Z.env Kc J gd lv c p :: fs) id := gc_loop1 gc rfl rfl
  have ee : ∀ (ys : List D) (i : GIx) (x : Value) (s' : Shared), (Z.X ys i).xe x s' → Sg (model Z.P Z.w) Z.A (Z.Phi ys i) (.forLoop tg (.ref it) body [] Z.env)
      ((do noteFrame x Z.env; theTreesLotGoes x : Sem Unit).wrap (fun _ => .raise x) .raise id id) (ownRet Z.env Kc J gd lv c p :: fs) s' := fun ys i x s' hx => by
    refine sg_wrap ?_
    rw [gl.over]
    refine wpAny_bind (wpAny_mono (ownsG Z ys i x s' hx) (fun _ s'' hcb => wpAny_theTreesLotGoes ?_) fun y s'' hcb => ?_)
    · exact sg_leaf (.error x) (sg_cameBack gc k hcb)
    · exact sg_leaf (.error y) (sg_cameBack gc k hcb)
  have loop : ∀ (r j : Nat) (ys : List D) (i : GIx) (ρ : List Sl) (σ : L2.St) (H : Hp) (s : Shared), j + r = ds.length → GSt Z ip (h ++ hid) ys i ρ σ H s → tn j s.heap → (∀ b ∈ fp, FpOk (Z.X ys i) ip H b) → Iv j ys ρ →
      Sg (model Z.P Z.w) Z.A (Z.Phi ys i) (.forLoop tg (.ref it) body [] Z.env) ((model Z.P Z.w).den (.forLoop tg (.ref it) body [] Z.env)) (ownRet Z.env Kc J gd lv c p :: fs) s := by
    intro r
    induction r with
    | zero =>
      intro j ys i ρ σ H s hj hst hn hf hiv
      obtain ⟨T', R'⟩ := hst.rel
      have hj' : j = ds.length := by omega
      subst hj'
      refine sg_forLoop ?_
      rw [gl.over]
      refine wpAny_mono (T.done (Z.X ys i) rfl rfl rfl rfl _ ip s σ H _ hst.inv hf hn ((itok _ _ _ _ _ _ (fun p hp => List.mem_append_left _ hp) R' _).2.1 (Nat.le_refl _))) (fun r s1 ⟨hr, I1⟩ => ?_) fun x s' hx => hx
      subst hr
      refine sg_again rfl (sg_block (sg_execs_nil ?_))
      refine sg_leaf (.ok .next) (k.ok ys i .next s1 ⟨ρ, σ, H, ?_, ivd ys ρ hiv⟩)
      exact GSt.hdrop ⟨I1, ⟨T', R'⟩, hst.sz, hst.dis, hst.big, hst.frl, hst.cel⟩
    | succ r ih =>
      intro j ys i ρ σ H s hj hst hn hf hiv
      obtain ⟨T', R'⟩ := hst.rel
      have hjl : j < ds.length := by omega
      obtain ⟨go, _, yld⟩ := itok _ _ _ _ _ _ (fun p hp => List.mem_append_left _ hp) R' j
      refine sg_forLoop ?_
      rw [gl.over]
      refine wpAny_mono (T.item (Z.X ys i) rfl rfl rfl rfl j ip s σ H _ hst.inv hf hn (go hjl)) (fun r1 s1 hr => ?_) fun x s' hx => hx
      obtain ⟨u, rfl, h4⟩ := hr
      refine wpAny_mono h4 (fun _ s5 h5 => ?_) fun x s' hx => hx
      obtain ⟨x, H5, I5, r5, y5, st5, fr5⟩ := h5
      obtain ⟨g5, rr5⟩ := yld ds[j] x H5 (List.getElem?_eq_getElem hjl) y5
      have hf5 : ∀ b ∈ fp, FpOk (Z.X ys i) ip H5 b := fun b hb => ⟨fr5 b hb, (hf b hb).2⟩
      have I5' := I5.pinned hf5 (T.obj _ _ st5)
      have R5 := R'.grow g5
      refine wpAny_mono ((hg ys i).run _ s5 σ H5 x u (fun σ6 H6 => ∃ ρ6 T6, Rel Z.K W0 (Frm.add ⟨dnH Z.cs i.H, i.S, nop, hid⟩ h) T6 () ρ6 σ6 H6 ∧ q { P with nx := Iv (j + 1), ct := Iv (j + 1), bk := P.nx } ys ρ6) I5' r5
        ⟨_, T', (), ρ, ds[j], _, R5, rr5, ivs j _ ys ρ (List.getElem?_eq_getElem hjl) hiv, fun ρ4 σ4 R4 _ _ q4 => ⟨ρ4, T', R4, q4⟩⟩) (fun _ s6 h6 => ?_) fun x s' hx => ee ys i x s' hx
      obtain ⟨σ6, H6, I6, ρ6, T6, R6, q6⟩ := h6
      have st6 : GSt Z (ip ++ pinsAt fp s5.heap) (h ++ hid) ys i ρ6 σ6 H6 s6 := by
        refine ⟨I6, ⟨T6, R6⟩, hst.sz, fun p hp z hz => ?_, fun z hz => ?_, hst.frl, hst.cel⟩
        · rcases List.mem_append.mp hz with hz | hz
          · exact hst.dis p hp z hz
          · exact (hf5 z.1 (of_pinsAt hz).1).2.2.2.2.2 p (List.mem_append_left _ hp)
        · rcases List.mem_append.mp hz with hz | hz
          · exact hst.big z hz
          · rcases (hf5 z.1 (of_pinsAt hz).1).2.2.2.1 with w | w
            · cases w
            · have w : i.s.heap.objs.size ≤ z.1 := w
              rw [hst.sz] at w
              exact w
      have again : ∀ {ys' : List D} {i' : GIx} {ρ7 : List Sl} {σ7 : L2.St} {H7 : Hp} {s7 : Shared}, GSt Z (ip ++ pinsAt fp s5.heap) (h ++ hid) ys' i' ρ7 σ7 H7 s7 → Iv (j + 1) ys' ρ7 →
          Sg (model Z.P Z.w) Z.A (Z.Phi ys' i') (.forLoop tg (.ref it) body [] Z.env) (.pure (.again (.forLoop tg (.ref it) body [] Z.env))) (ownRet Z.env Kc J gd lv c p :: fs) s7 := fun {ys' i' ρ7 σ7 H7 s7} st7 hiv7 => by
        refine sg_again rfl (ih (j + 1) ys' i' ρ7 σ7 H7 s7 (by omega) st7.unpin (T.keep _ _ _ st5 fun b hb o e => (st7.inv.pin (b, o) (List.mem_append_right _ (List.mem_append_right _ (mem_pinsAt hb e)))).1) (fun b hb => ?_) hiv7)
        obtain ⟨o, e, d⟩ := T.obj _ _ st5 b hb
        have hm := mem_pinsAt hb e
        obtain ⟨p1, p2, p3, p4, p5⟩ := st7.inv.pin (b, o) (List.mem_append_right _ (List.mem_append_right _ hm))
        refine ⟨p2, p3, p4, .inr ?_, fun x c e => ?_, fun z hz => ?_⟩
        · show i'.s.heap.objs.size ≤ b
          rw [st7.sz]
          exact st7.big (b, o) (List.mem_append_right _ hm)
        · obtain ⟨v, oc, q1, q2⟩ := st7.inv.cell x c e
          intro z
          subst z
          rw [p1] at q1
          cases q1
          exact p5 v q2
        · rcases List.mem_append.mp hz with hz | hz
          · exact st7.dis z hz (b, o) (List.mem_append_right _ hm)
          · exact (hf b hb).2.2.2.2.2 z (List.mem_append_right _ hz)
      refine hb.run (ip ++ pinsAt fp s5.heap) (h ++ hid) ys i _ _ _ _ id id ρ6 σ6 H6 s6 { P with nx := Iv (j + 1), ct := Iv (j + 1), bk := P.nx } gl ⟨fun ys' i' f s7 h7 => ?_, ee, k.ex⟩ st6 q6
      cases f with
      | next => obtain ⟨ρ7, σ7, H7, st7, q7⟩ := h7; exact again st7 q7
      | cont => obtain ⟨ρ7, σ7, H7, st7, q7⟩ := h7; exact again st7 q7
      | brk =>
        obtain ⟨ρ7, σ7, H7, st7, q7⟩ := h7
        exact sg_leaf (.ok .next) (k.ok ys' i' .next s7 ⟨ρ7, σ7, H7, st7.unpin.hdrop, q7⟩)
      | ret v =>
        obtain ⟨e, σ7, H7, I7, g7, c7, q7⟩ := h7
        exact sg_leaf (.ok (.ret v)) (k.ok ys' i' (.ret v) s7 ⟨e, σ7, H7, I7.unpinned, g7, c7, q7⟩)
  exact loop ds.length 0 ys0 i0 ρ0 σ0 H2 s2 (Nat.zero_add _) ⟨I2, ⟨T2, R2⟩, hst.sz, hst.dis, hst.big, hst.frl, hst.cel⟩ st2 f2 iv0
end LW
namespace LW
open PySem PySem.Spec PyProof.Rows L2 GenW
abbrev PSpG := List D → List D → Option Exn → Prop
abbrev mkZ (P : Program) (w : World) (K : PySem.W.Frag) (mg : Str → Option Value) (base : Heap) (N : List Str) (qual : Str) (scope : Scope) (f : Addr) (cd : Value) (A : Around) (outer : List Env) (L : Nat) (fin : Option Exn) : GZ :=
  ⟨P, w, K, mg, base, N, qual, scope, f, cd, A, outer, L, fin⟩
structure GObj (go : Obj) (g : Nat) : Prop where
  cls : go.cls = .type "generator"
  data : ∃ nm qn, go.data = .fields #[.int g 0, nm, qn]
  slots : go.slots = #[]
theorem GObj.is {go : Obj} {g : Nat} {h : Heap} {a : Addr} (x : GObj go g) (e : h.get? a = some go) : h.IsGen a g :=
  let ⟨nm, qn, d⟩ := x.data
  ⟨go, nm, qn, e, x.cls, d, x.slots⟩
def GMadeZ (P : Program) (w : World) (K : PySem.W.Frag) (base : Heap) (k : Nat) (outer : List Env) (H : Hp) (S : ASet) (sc : Shared) (ys : List D) (fin : Option Exn) (u : Value) (s' : Shared) : Prop :=
  ∃ (a : Addr) (g : Nat) (c : Code) (go : Obj) (gp : List (Addr × Obj)) (hv : List (D × V)) (mg : Str → Option Value) (N : List Str) (qual : Str) (scope : Scope) (f : Addr) (cd : Value) (φ : CFn),
    u = .ref a ∧ GObj go g ∧ s'.heap.get? a = some go ∧ sc.heap.objs.size ≤ a ∧ s'.gens[g]? = some (.fresh c) ∧ s'.os = sc.os ∧ AllBare s'.gens ∧ (∀ b o, sc.heap.get? b = some o → s'.heap.get? b = some o) ∧
    (∀ p ∈ gp, s'.heap.get? p.1 = some p.2 ∧ sc.heap.objs.size ≤ p.1 ∧ p.1 ≠ a ∧ p.1 ∉ csOf scope sc.heap.objs.size ∧ ∀ v, p.2.data ≠ .cell v) ∧ (∀ c ∈ csOf scope sc.heap.objs.size, sc.heap.objs.size ≤ c ∧ c < a ∧ (∃ v, s'.heap.IsCell c v) ∧ φ c s'.heap ∧ ∀ h1 h2 : Heap, φ c h1 → (∀ o, h1.get? c = some o → h2.get? c = some o) → φ c h2) ∧ (∀ p ∈ hv, RepA K (upH (csOf scope sc.heap.objs.size) φ H) S p.1 p.2) ∧
    ∀ A, Room k A → A.frames = some outer → ∀ i s2, (mkZ P w K mg base N qual scope f cd A outer sc.heap.objs.size fin).Wake gp hv φ i s2 → Sg (model P w) A ((mkZ P w K mg base N qual scope f cd A outer sc.heap.objs.size fin).Phi ys i) c ((model P w).den c) [] s2
structure GFnZ (P : Program) (w : World) (K : PySem.W.Frag) (mg : Str → Option Value) (base : Heap) (k : Nat) (f : Addr) (fd : FuncData) (ps : List Str) (pf : PSpG) : Prop where
  len : ∀ ds ys fin, pf ds ys fin → ds.length = ps.length
  run : ∀ (A : Around) (outer : List Env) (s : Shared) (H : Hp) (S : ASet) (args : Args) (us : List Value) (vs : List V) (ds ys : List D) (fin : Option Exn), Room k A → Env0 P w K mg base A outer s H → BindsTo s fd args (ps.zip us) → Vals vs us → (∀ a, S a → H a ≠ none) → RepsA K H S ds vs → pf ds ys fin →
    codeAny (model P w) A (.call (.ref f) args) (fun r s' => match r with | .ok (.ret u) => GMadeZ P w K base k outer H S s ys fin u s' | _ => False) s
theorem allVa_start (N : List Str) : ∀ ds : List D, allVa (startP N ds) = true := fun ds => by
  unfold startP
  generalize N.length - ds.length = n
  induction ds with
  | nil =>
    induction n with
    | zero => rfl
    | succ n ih => exact ih
  | cons d ds ih => exact ih
theorem inv_xe {X : Cx} {f : Value → Shared → Prop} {pins : List (Addr × Obj)} {σ : L2.St} {H : Hp} {s : Shared} (I : Inv X pins σ H s) : Inv { X with xe := f } pins σ H s :=
  ⟨⟨I.ok.mod, I.ok.kind, I.ok.glob, I.ok.blt, I.ok.above, I.ok.inj, I.ok.has, I.ok.cab, I.ok.hd, I.ok.frames, I.ok.stk, I.ok.exf, I.ok.bs, I.ok.bsz, I.ok.noex, I.ok.exfs, I.ok.funs, I.ok.frf⟩, I.os, I.bare, I.base, I.loc, I.cell, I.free, I.freeC, I.pin, I.hok, I.len⟩
theorem gfnZ_of {P : Program} {w : World} {K : PySem.W.Frag} {mg : Str → Option Value} {base : Heap} {k : Nat} {f : Addr} {name qual : Str} {params : Arguments} {body : List Stmt} {scope : Scope} {dV kV doc pm cdv ct oc : Value} {an od : Option Addr}
    {osl : Array (Option Value)} {N ps : List Str} {pf : PSpG} {q : QTGn} (lk : K.lookup f = some ⟨oc, od, .func (PySem.W.fnOf name qual params body scope dV kV doc pm an cdv ct), osl⟩) (hcd : PySem.W.codeIn K cdv qual = true) (S : GScope N ps scope)
    (len : ∀ ds ys fin, pf ds ys fin → ds.length = ps.length)
    (hbody : ∀ (A : Around) (outer : List Env) (L : Nat) (fin : Option Exn), Room k (A.deeper (envOfC qual scope L f cdv)) → GSs1 (mkZ P w K mg base N qual scope f cdv A outer L fin) body q)
    (hq : ∀ ds ys fin, pf ds ys fin → q { nx := fun ys' _ => ys' = [] ∧ fin = none, rt := fun ys' => ys' = [] ∧ fin = none, ex := fun ys' x => ys' = [] ∧ fin = some x } ys (startP N ds)) :
    GFnZ P w K mg base (k + 1) f (PySem.W.fnOf name qual params body scope dV kV doc pm an cdv ct) ps pf := by
  refine ⟨len, fun A outer s H SS args us vs ds ys fin hr e0 hb r hS hrep hpf => ?_⟩
  have hlv : vs.length = ds.length := hrep.len
  have hl : vs.length = ps.length := hlv.trans (len _ _ _ hpf)
  have KX : K.In s.heap := e0.mod.kin.keeps fun b o e => (e0.bs b o e).1
  have lim : s.heap.NoLimit := e0.mod.nolimit.keeps fun b o e => (e0.bs b o e).1
  have hkind : ∀ y ∈ ps.zip us, scope.names.lookup y.1 = some .local ∨ (scope.names.lookup y.1 = some .cell ∧ ((cellsFrom (s.heap.objs.size + 1) scope.names []).lookup y.1).isSome = true) := fun ⟨n, v⟩ hy => by
    rcases S.par n (List.of_mem_zip hy).1 with q | q
    · exact .inl q
    · exact .inr ⟨q, by obtain ⟨c, e⟩ := cell_has (n := s.heap.objs.size + 1) q; rw [e]; rfl⟩
  refine codeAny_call_generator hr.depth (KX _ _ lk) rfl S.co S.gen rfl (PySem.W.codeRec_of KX hcd) (hb _ _ _ _ ?_)
  refine wpAny_newFunctionEnv_cells S.kind hkind fun env he s1 x => ?_
  subst he
  have lim1 : s1.heap.NoLimit := lim.keeps x.toInCall.keep
  refine ⟨lim1, ?_⟩
  obtain ⟨h1, tk, es1, hk1⟩ := x.done
  have os1 : s1.os = s.os := by rw [es1]
  have gen1 : s1.gens = s.gens := by rw [es1]
  have lt1 : s.heap.objs.size < s1.heap.objs.size := x.toInCall.ns.lt
  have sz1 : s.heap.objs.size ≤ s1.heap.objs.size := Nat.le_of_lt lt1
  have kp1 : ∀ b o, s.heap.get? b = some o → s1.heap.get? b = some o := x.toInCall.keep
  have main : ∀ (go : Obj) (nm qn : Value) (tk2 : Nat), go.cls = .type "generator" → go.data = .fields #[.int s1.gens.size 0, nm, qn] → go.slots = #[] → (∀ h : Heap, (h.push go).get? h.objs.size = some go) →
      GMadeZ P w K base (k + 1) outer H SS s ys fin (.ref s1.heap.objs.size) { s1 with gens := s1.gens.push (.fresh (.func body (envOfC qual scope s.heap.objs.size f cdv))), toks := tk2, heap := s1.heap.push go } := by
    intro go nm qn tk2 hgc hgd0 hgs hgp
    have hpushed : (s1.heap.push go).get? s1.heap.objs.size = some go := hgp _
    obtain ⟨m0, ⟨oL, esL, epL, eL, dL, hkL, hmL⟩⟩ : ∃ m, s1.heap.Ns s.heap.objs.size m := ⟨_, x.toInCall.ns⟩
    have eL2 : (s1.heap.push go).get? s.heap.objs.size = some oL := Heap.get?_push_of_some _ eL
    have hba2 : AllBare (s1.gens.push (.fresh (.func body (envOfC qual scope s.heap.objs.size f cdv)))) := AllBare.push (by rw [gen1]; exact e0.bare) rfl
    have frl : ∀ b ∈ frs outer, b < s.heap.objs.size := fun b hb => by
      obtain ⟨_, o, ho, _⟩ := e0.funs.mem hb
      exact Heap.lt_size ho
    have cs0 : ∀ c ∈ csOf scope s.heap.objs.size, s.heap.objs.size ≤ c ∧ c < s1.heap.objs.size ∧ H c = none := fun c m => by
      have e0w : Env0 P w K mg base A outer s H := e0
      have I1 : Inv (gcxOf P w K mg base N qual scope f cdv A outer s H (fun _ _ _ => False) []) [] (L2.start N vs) H s1 := inv_startG S hr.hd e0w hl r x
      have m : c ∈ (mkZ P w K mg base N qual scope f cdv A outer s.heap.objs.size fin).cs := m
      obtain ⟨y, e⟩ := GZ.mem_cs.mp m
      obtain ⟨v, ic⟩ := I1.cell y c e
      have h1 : s.heap.objs.size ≤ c := I1.ok.cab y c rfl e
      exact ⟨h1, ic.lt, e0.hok.fresh h1⟩
    generalize hcs : csOf scope s.heap.objs.size = cs at cs0
    generalize hφ0 : (fun (c : Addr) (h : Heap) => True) = φ0
    have eH : dnH cs (upH cs φ0 H) = H := dn_up fun c m => (cs0 c m).2.2
    have st : ∀ A, Room (k + 1) A → A.frames = some outer → GSt (mkZ P w K mg base N qual scope f cdv A outer s.heap.objs.size fin) [] [] ys ⟨s, upH cs φ0 H, SS, []⟩ (startP N ds) (L2.start N vs) H { s1 with gens := s1.gens.push (.fresh (.func body (envOfC qual scope s.heap.objs.size f cdv))), toks := tk2, heap := s1.heap.push go } := fun Aw hrw hfr => by
      have e0w : Env0 P w K mg base Aw outer s H := ⟨hfr, e0.mod, e0.bs, e0.bsz, e0.funs, e0.frf, e0.hok, e0.bare⟩
      have I1 : Inv (gcxOf P w K mg base N qual scope f cdv Aw outer s H (fun _ _ _ => False) []) [] (L2.start N vs) H s1 := inv_startG S hrw.hd e0w hl r x
      have kp2 : ∀ b o, s1.heap.get? b = some o → (s1.heap.push go).get? b = some o := fun b o e => Heap.get?_push_of_some _ e
      have I2 := I1.call' (s' := { s1 with gens := s1.gens.push (.fresh (.func body (envOfC qual scope s.heap.objs.size f cdv))), toks := tk2, heap := s1.heap.push go }) (ch := []) rfl (Un.kept kp2) (I1.hok.kept kp2) hba2 fun b z => by simp at z
      have eZ : dnH (mkZ P w K mg base N qual scope f cdv Aw outer s.heap.objs.size fin).cs (upH cs φ0 H) = H := by
        show dnH (csOf scope s.heap.objs.size) _ = H
        rw [hcs]; exact eH
      refine ⟨⟨⟨I2.ok.mod, I2.ok.kind, I2.ok.glob, I2.ok.blt, I2.ok.above, I2.ok.inj, I2.ok.has, I2.ok.cab, I2.ok.hd, I2.ok.frames, I2.ok.stk, I2.ok.exf, ?_, I2.ok.bsz, I2.ok.noex, I2.ok.exfs, I2.ok.funs, ?_⟩, I2.os, I2.bare, ?_, I2.loc, I2.cell, I2.free, I2.freeC, I2.pin, I2.hok, I2.len⟩, ⟨nop, ?_⟩, rfl, (fun p hp => by cases hp), (fun p hp => by cases hp), frl, ⟨φ0, ?_⟩, fun c m => ?_⟩
      · intro b o e
        refine ⟨(I2.ok.bs b o e).1, ?_⟩
        show dnH (mkZ P w K mg base N qual scope f cdv Aw outer s.heap.objs.size fin).cs (upH cs φ0 H) b = none
        rw [eZ]
        exact (I2.ok.bs b o e).2
      · intro b hb
        show dnH (mkZ P w K mg base N qual scope f cdv Aw outer s.heap.objs.size fin).cs (upH cs φ0 H) b = none
        rw [eZ]
        exact I2.ok.frf b hb
      · show Un (frs outer) [] (dnH (mkZ P w K mg base N qual scope f cdv Aw outer s.heap.objs.size fin).cs (upH cs φ0 H)) H s.heap _
        rw [eZ]
        exact I2.base
      · show Rel K W0 ⟨dnH (mkZ P w K mg base N qual scope f cdv Aw outer s.heap.objs.size fin).cs (upH cs φ0 H), SS, nop, []⟩ nop () (startP N ds) (L2.start N vs) H
        rw [eZ]
        have ow : owns (startP N ds) = [] := allVa_owns (allVa_start N ds)
        refine ⟨GrP.refl _ _, fun _ z => z, fun _ z => z.elim, fun l hl => ?_, ?_, fun a sa => ⟨hS a sa, fun z => z⟩, (fun p hp => by cases hp), ?_⟩
        · rw [ow] at hl; cases hl
        · rw [ow]; exact List.nodup_nil
        · have en : N.length - vs.length = N.length - ds.length := by rw [hlv]
          unfold L2.start startP
          rw [en]
          exact slsR_start N (hrep.less fun a z => spr_va (fun _ z => z) (allVa_start N ds) a z) _
      · show Celd (csOf scope s.heap.objs.size) φ0 (upH cs φ0 H)
        rw [hcs]; exact upH_celd
      · have m : c ∈ csOf scope s.heap.objs.size := m
        rw [hcs] at m
        exact fun z => hS c z (cs0 c m).2.2
    obtain ⟨A0, hA0⟩ : ∃ A0 : Around, A0 = A := ⟨_, rfl⟩
    obtain ⟨_, _, own0, _, hv0, _⟩ := (st A hr e0.frames).rest (allVa_start N ds) eL2
    refine ⟨s1.heap.objs.size, s1.gens.size, _, go, [(s.heap.objs.size, oL)], _, mg, N, qual, scope, f, cdv, _, rfl, ⟨hgc, ⟨nm, qn, hgd0⟩, hgs⟩, hpushed, sz1, Array.getElem?_push_size .., os1, hba2, fun b o e => Heap.get?_push_of_some _ (kp1 b o e), fun p hp => ?_, fun c m => ?_, hv0, fun Aw hrw hfr i s2 wk => ?_⟩
    · obtain ⟨a1, a2, a3, a4, a5⟩ := own0 p hp
      have : p = (s.heap.objs.size, oL) := by simpa using hp
      refine ⟨a1, a3, ?_, fun m => ?_, a5⟩
      · rw [this]
        exact Nat.ne_of_lt lt1
      · have a2 : upH (csOf scope s.heap.objs.size) _ H p.1 = none := a2
        rw [upH_in m] at a2; cases a2
    · have I2 := (st A hr e0.frames).inv
      have m' : c ∈ cs := hcs ▸ m
      have m'' : c ∈ (mkZ P w K mg base N qual scope f cdv A outer s.heap.objs.size fin).cs := m
      exact ⟨(cs0 c m').1, (cs0 c m').2.1, (inv_cs I2 c m'').2.2.1, inv_celD I2 c m''⟩
    · have stw := ((st Aw hrw hfr).rest (allVa_start N ds) eL2).2.2.2.2.2 ys i s2 wk
      refine sg_func ?_
      refine (hbody Aw outer s.heap.objs.size fin (hrw.deeper _)).run [] [] ys i _ [] _ _ id id (startP N ds) (L2.start N vs) _ s2 _ ⟨over_func, rfl, rfl, rfl⟩ ⟨fun ys' i' fl s' h => ?_, fun ys' i' e s' hx => ?_, fun ys' x h => h⟩ stw (hq ds ys fin hpf)
      · cases fl with
        | next =>
          obtain ⟨ρ, σ, H', h', e1, e2⟩ := h
          subst e1
          obtain ⟨T, R⟩ := h'.rel
          exact sg_end (.ok (.ret .none)) (.inl ⟨.inl rfl, e2, GZ.left_end h'.inv h'.cel.1 R.gr⟩)
        | brk => obtain ⟨_, _, _, _, z⟩ := h; exact z.elim
        | cont => obtain ⟨_, _, _, _, z⟩ := h; exact z.elim
        | ret v =>
          obtain ⟨ev, σ, H', I', gr, ce, e1, e2⟩ := h
          subst ev e1
          exact sg_end (.ok (.ret .none)) (.inl ⟨.inl rfl, e2, GZ.left_end I' ce gr⟩)
      · refine sg_wrap ?_
        rw [over_func]
        refine wpAny_mono (show wpAny (model P w) (Aw.deeper (envOfC qual scope s.heap.objs.size f cdv)) (leaving (envOfC qual scope s.heap.objs.size f cdv) e) (fun _ s'' => L2N.CX P w outer i'.H i'.s ((mkZ P w K mg base N qual scope f cdv Aw outer s.heap.objs.size fin).EX ys' i') e s'' ∧ ∀ p ∈ i'.pn, s''.heap.get? p.1 = some p.2) (fun _ _ => False) s' from hx) (fun _ s'' q => ?_) fun _ s'' q => q.elim
        obtain ⟨q1, q2⟩ := q
        have hys : ys' = [] := by
          obtain ⟨_, _, _, _, _, _, _, _, _, _, _, _, z, _⟩ := q1
          exact z
        subst hys
        exact sg_end (.error e) (.inr ⟨e, rfl, q1, q2⟩)
  exact main _ _ _ _ rfl rfl rfl fun h => Heap.get?_push_size _ rfl
end LW
namespace LW
open PySem PySem.Spec PyProof.Rows L2 GenW
def ads (L n : Nat) : List Addr := (List.range n).filter fun b => decide (L ≤ b)
theorem mem_ads {L n b : Nat} : b ∈ ads L n ↔ L ≤ b ∧ b < n := by
  unfold ads
  rw [List.mem_filter, List.mem_range]
  simp [and_comm]
theorem un_cut {fs : List Addr} {H H1 : Hp} {s : Shared} {h' : Heap} {L : Nat} (u : Un fs [] H H1 (cutS s L).heap h') : Un fs (ads L s.heap.objs.size) H H1 s.heap h' := by
  have lt : ∀ {b o}, s.heap.get? b = some o → b ∉ ads L s.heap.objs.size → (cutS s L).heap.get? b = some o := fun {b o} e hn => by
    have hb : b < L := Nat.lt_of_not_le fun z => hn (mem_ads.mpr ⟨z, Heap.lt_size e⟩)
    rw [cutS_get hb]; exact e
  have no : ∀ b : Addr, b ∉ ([] : List Addr) := fun b z => by cases z
  exact ⟨fun b o e n hb hx => u.keep b o (lt e hx) n hb (no b), fun b o e n hb hx => u.slot b o (lt e hx) n hb (no b), fun b o e n hx => u.free b o (lt e hx) n (no b), fun b o e hx => u.there b o (lt e hx) (no b), u.tups, u.frzs, u.tbls⟩
structure Old (X : Cx) (pins : List (Addr × Obj)) (L : Nat) : Prop where
  s0 : X.s_0.heap.objs.size ≤ L
  loc : X.env.locals < L
  cell : ∀ x c, X.env.cells.lookup x = some c → c < L
  pin : ∀ p ∈ X.pn ++ pins, p.1 < L
  fr : ∀ b ∈ frs X.stack, b < L
theorem inv_old {X : Cx} {pins : List (Addr × Obj)} {σ : L2.St} {H : Hp} {s : Shared} (I : Inv X pins σ H s) : Old X pins s.heap.objs.size where
  s0 := I.sz
  loc := I.lt
  cell := fun x c e => let ⟨v, q⟩ := I.cell x c e; q.lt
  pin := fun p hp => Heap.lt_size (I.pin p hp).1
  fr := fun b hb => let ⟨_, o, ho, _⟩ := I.stack.mem hb; Heap.lt_size ho
theorem Old.ch {X : Cx} {pins : List (Addr × Obj)} {L n : Nat} (o : Old X pins L) : ∀ b ∈ ads L n, (b ∈ X.ex ∨ X.s_0.heap.objs.size ≤ b) ∧ b ≠ X.env.locals ∧ (∀ x c, X.env.cells.lookup x = some c → c ≠ b) ∧ ∀ p ∈ X.pn ++ pins, p.1 ≠ b := fun b hb => by
  have h := (mem_ads.mp hb).1
  exact ⟨.inr (Nat.le_trans o.s0 h), Nat.ne_of_gt (Nat.lt_of_lt_of_le o.loc h), fun x c e => Nat.ne_of_lt (Nat.lt_of_lt_of_le (o.cell x c e) h), fun p hp => Nat.ne_of_lt (Nat.lt_of_lt_of_le (o.pin p hp) h)⟩
section
variable {X : Cx} {pins : List (Addr × Obj)} {σ : L2.St} {H H1 : Hp} {s s' : Shared} {L : Nat}
theorem inv_cut (I : Inv X pins σ H s) (o : Old X pins L) (os : s'.os = s.os) (un : Un (frs X.stack) [] H H1 (cutS s L).heap s'.heap) (hok : HOk X.prog X.w H1 s'.heap) (hb : AllBare s'.gens) : Inv X pins σ H1 s' :=
  I.call' (ch := ads L s.heap.objs.size) os (un_cut un) hok hb o.ch
theorem xe_cut {W : WX} {E : XK} (I : Inv X pins σ H s) (ol : Old X pins L) (hW : ∀ cls d H', E cls d H' → W cls d σ H') {u : Value} (c : L2N.CX X.prog X.w X.stack H (cutS s L) E u s') : L2N.XE X W u s' := by
  obtain ⟨a, B, H', cls, d, rfl, fl, hok, ub, na, os, ag, hE⟩ := c
  obtain ⟨G, g1, g2⟩ := restrict s'.heap fun b => (B.get? b).isSome || decide (b ∈ frs X.stack)
  have st : B.StaysIn s'.heap := fl.1
  have gB : ∀ b o, B.get? b = some o → G.get? b = some o := fun b o e => by
    rw [g1 b (by simp [e])]
    exact st b o e
  have gF : ∀ b, b ∈ frs X.stack → G.get? b = s'.heap.get? b := fun b hb => g1 b (by simp [hb])
  have og : ∀ b o, G.get? b = some o → s'.heap.get? b = some o ∧ ((B.get? b).isSome = true ∨ b ∈ frs X.stack) := fun b o e => by
    cases q : ((B.get? b).isSome || decide (b ∈ frs X.stack)) with
    | false => rw [g2 b q] at e; cases e
    | true =>
      rw [g1 b q] at e
      exact ⟨e, by simpa [Bool.or_eq_true] using q⟩
  have uc : Un (frs X.stack) [] H H' (cutS s L).heap G := by
    refine ⟨fun b o e n hb _ => gB b o (ub.keep b o e n hb), fun b o e n hb _ => ?_, fun b o e n _ => ub.free b o e n, fun b o e _ => ?_, ub.tups, ub.frzs, ub.tbls⟩
    · obtain ⟨sl, q⟩ := ub.slot b o e hb
      exact ⟨sl, by rw [gF b hb]; exact q⟩
    · by_cases hb : b ∈ frs X.stack
      · obtain ⟨sl, q⟩ := ub.slot b o e hb
        exact ⟨_, by rw [gF b hb]; exact q⟩
      · obtain ⟨o', q⟩ := ub.there b o e hb
        exact ⟨o', gB b o' q⟩
  refine ⟨a, B, { s with heap := G, gens := s'.gens, drawn := s'.drawn, toks := s'.toks }, pins, σ, H', cls, d, rfl, inv_cut I ol rfl uc (hok.kept gB) ag, fun b o e hb => ?_, Heap.UpToSlots.of_keeps fun b o e => (og b o e).1, .inr (.inl fl), na, os, ag, hW _ _ _ hE⟩
  obtain ⟨e', h⟩ := og b o e
  rcases h with h | h
  · obtain ⟨o', q⟩ := Option.isSome_iff_exists.mp h
    have z := st b o' q
    rw [e'] at z; cases z
    exact q
  · exact absurd h hb
theorem xe_gens {W : WX} {u : Value} {G : Array GenState} (x : L2N.XE X W u s') (h : AllBare G) : L2N.XE X W u { s' with gens := G } := by
  obtain ⟨a, B, sI, pins, σ, H, cls, d, rfl, I, nb, up, sky, na, os, ag, w⟩ := x
  exact ⟨a, B, sI, pins, σ, H, cls, d, rfl, I, nb, up, sky, na, os, h, w⟩
end
theorem notStop_ofN {P : Program} {w : World} {K : PySem.W.Frag} {outer : List Env} {H : Hp} {s s' : Shared} {E : XK} {e : Value} (hE : NoStop K E) (kin : K.In s'.heap) (c : L2N.CX P w outer H s E e s') : NotStop (model P w) e s'.heap := by
  obtain ⟨a, B, H', cls, d, rfl, fl, _, _, _, _, _, hW⟩ := c
  obtain ⟨oe, vs, he, hz, hd⟩ := fl.there
  have L := PySem.W.looks_subIn (M := model P w) kin (hE cls d H' hW)
  intro A Q E' s2 hs hq
  simp only [isInstance]
  refine wpAny_bind (wpAny_typeOf_ref (o := oe) (by rw [hs]; exact he) ?_)
  rw [hz.1]
  exact L A Q E' s2 (fun b o z => by rw [hs]; exact z) hq
structure Rdy (P : Program) (w : World) (K : PySem.W.Frag) (base : Heap) (A : Around) (outer : List Env) (L : Nat) (fin : Option Exn) (a g : Nat) (go : Obj) (S : ASet) (ys : List D) (gp : List (Addr × Obj)) (hv : List (D × V)) (cs : List Addr) (φ : CFn) (gs : GenState) (H : Hp) (s : Shared) : Prop where
  obj : s.heap.get? a = some go
  ho : H a = none
  own : ∀ p ∈ gp, s.heap.get? p.1 = some p.2 ∧ H p.1 = none ∧ L ≤ p.1 ∧ p.1 ≠ a ∧ ∀ v, p.2.data ≠ .cell v
  hvr : ∀ p ∈ hv, RepA K H S p.1 p.2
  gsa : s.gens[g]? = some gs
  cel : Celd cs φ H
  goes : ∃ (mg : Str → Option Value) (N : List Str) (qual : Str) (scope : Scope) (f : Addr) (cd : Value), csOf scope L = cs ∧ ∀ i s2, (mkZ P w K mg base N qual scope f cd A outer L fin).Wake gp hv φ i s2 → GoesZ (model P w) A ((mkZ P w K mg base N qual scope f cd A outer L fin).Phi ys i) gs s2
theorem Rdy.keep {P : Program} {w : World} {K : PySem.W.Frag} {base : Heap} {A : Around} {outer : List Env} {L : Nat} {fin : Option Exn} {a g : Nat} {go : Obj} {S S' : ASet} {ys : List D} {gp : List (Addr × Obj)} {hv : List (D × V)} {cs : List Addr} {φ : CFn} {gs : GenState} {H H' : Hp} {s s' : Shared} (r : Rdy P w K base A outer L fin a g go S ys gp hv cs φ gs H s)
    (ho : s'.heap.get? a = some go ∧ H' a = none) (hp : ∀ p ∈ gp, s'.heap.get? p.1 = some p.2 ∧ H' p.1 = none) (hh : ∀ p ∈ hv, RepA K H' S' p.1 p.2) (hg : s'.gens[g]? = some gs) (hc : Celd cs φ H') : Rdy P w K base A outer L fin a g go S' ys gp hv cs φ gs H' s' :=
  ⟨ho.1, ho.2, fun p hp' => ⟨(hp p hp').1, (hp p hp').2, (r.own p hp').2.2⟩, hh, hg, hc, r.goes⟩
theorem next_gz {X : Cx} {W : Wrl} {F : Frm} {T : ASet} {ω : W.Ω} {ρ : List Sl} {pins : List (Addr × Obj)} {σ : L2.St} {H : Hp} {s : Shared} {A : Around} {L : Nat} {fin : Option Exn} {a g : Nat} {go : Obj} {ys : List D} {gp : List (Addr × Obj)} {hv : List (D × V)} {cs : List Addr} {φ : CFn} {gs : GenState} {Q : Option Value → Shared → Prop} {E : Value → Shared → Prop} (xp : List (Addr × Obj))
    (hxp : ∀ p ∈ xp, s.heap.get? p.1 = some p.2 ∧ H p.1 = none ∧ p.1 ∉ frs X.stack ∧ (∀ v, p.2.data ≠ .cell v) ∧ ∀ q ∈ gp, p.1 ≠ q.1) (hh : A.handled = none) (hdep : A.depth < recursionLimit) (I : Inv X pins σ H s) (R : Rel X.K W F T ω ρ σ H) (ol : Old X pins L) (hgo : GObj go g) (hLa : L ≤ a)
    (r : Rdy X.prog X.w X.K X.base A.in1 X.stack L fin a g go (Spr F T ρ) ys gp hv cs φ gs H s) (nS : ∀ c ∈ cs, ¬ Spr F T ρ c) (hns : ∀ x, fin = some x → PySem.W.subIn X.K (.ref x.C) (.type "StopIteration") = some false)
    (hY : ∀ d ys' v x s1 H1 gp' hv' φ' gs', ys = d :: ys' → (∀ p ∈ xp, s1.heap.get? p.1 = some p.2 ∧ H1 p.1 = none ∧ ∀ q ∈ gp', p.1 ≠ q.1) → Inv X pins σ H1 s1 → GrP (onC cs) H H1 → RelV x v → RepA X.K H1 (Spr F T ρ) d x → isSus gs' = true → Rdy X.prog X.w X.K X.base A.in1 X.stack L fin a g go (Spr F T ρ) ys' gp' hv' cs φ' gs' H1 s1 → Q (some v) s1)
    (hD : ∀ s1 H1, ys = [] → fin = none → (∀ p ∈ xp, s1.heap.get? p.1 = some p.2 ∧ H1 p.1 = none) → Inv X pins σ H1 s1 → GrP (onC cs) H H1 → Q none s1)
    (hE : ∀ x e s1, ys = [] → fin = some x → L2N.XE X (fun cls dd σ' H' => σ' = σ ∧ GrP (onC cs) H H' ∧ XRep X.K H' x cls dd) e s1 → E e s1) : wpAny (model X.prog X.w) A (pyNext (.ref a)) Q E s := by
  have hg : s.heap.IsGen a g := hgo.is r.obj
  have hgs := r.gsa
  refine wpAny_gsz (n := g + 1) (Array.getElem?_eq_some_iff.mp hgs).1 ?_
  obtain ⟨mg, N, qual, scope, f, cd, hcs, hgoes⟩ := r.goes
  subst hcs
  have hL : L ≤ s.heap.objs.size := Nat.le_trans hLa (Nat.le_of_lt (Heap.lt_size r.obj))
  obtain ⟨gnm, gqn, gdat⟩ := hgo.data
  have gcell : ∀ v, go.data ≠ .cell v := fun v z => by rw [gdat] at z; cases z
  have gfr : a ∉ frs X.stack := fun z => Nat.lt_irrefl _ (Nat.lt_of_lt_of_le (ol.fr a z) hLa)
  have wk : (mkZ X.prog X.w X.K mg X.base N qual scope f cd A.in1 X.stack L fin).Wake gp hv φ ⟨cutS (s.setGen g .running) L, H, Spr F T ρ, (a, go) :: xp⟩ (s.setGen g .running) :=
    ⟨rfl, hL, allBare_setGen I.bare rfl, I.hok, I.bs, I.stack, fun b hb => ⟨I.stkFree b hb, ol.fr b hb⟩, fun p hp => ⟨(r.own p hp).1, (r.own p hp).2.1⟩, fun p hp => by
      rcases List.mem_cons.mp hp with z | z
      · rw [z]
        exact ⟨r.obj, r.ho, gfr, gcell, fun q hq => fun z => (r.own q hq).2.2.2.1 z.symm⟩
      · exact hxp p z, R.spl, r.cel, nS, r.hvr⟩
  have hgo' := hgoes _ _ wk
  have kin : ∀ {s1 : Shared} {H1 : Hp}, Un (frs X.stack) [] H H1 (cutS s L).heap s1.heap → X.K.In s1.heap := fun {s1 H1} un => by
    refine I.ok.mod.kin.keeps fun b o eb => ?_
    obtain ⟨e1, e2⟩ := I.bs b o eb
    have hbL : b < L := Nat.lt_of_lt_of_le (Heap.lt_size eb) (Nat.le_trans I.ok.bsz ol.s0)
    refine un.keep b o (by rw [cutS_get hbL]; exact e1) e2 (fun hm => ?_) (fun z => by cases z)
    have := I.stack.mem hm
    rw [this.1] at eb; cases eb
  unfold pyNext
  refine wpAny_bind (wpAny_attempt (wpAny_callSpecial?_slot (name := Str.ofString "__next__") hg.typeIs slot_gen_next
    (wpAny_call_entry slot_gen_next hg.typeIs entry_gen_next ?_ (args_gen_next _))))
  show wpAny _ A.in1 (Builtin.Generator.genWake (.ref a) (.send .none)) _ _ s
  unfold Builtin.Generator.genWake
  refine wpAny_bind (wpAny_holding (wpAny_genNumber hg (wpAny_bind (wpAny_genState hgs ?_))))
  cases gs with
  | running => exact hgo'.elim
  | finished => exact hgo'.elim
  | _ =>
    refine wpAny_bind (wpAny_roomToWake I.nolimit hdep ?_)
    show wpAny _ A.in1 (.resume g (.send .none) [] _) _ _ s
    refine wpAny_resumeZ hgs hgo' (fun x s₁ hx => ?_) (fun v g' l' k' c' p' fs' s₁ hy => ?_)
    · cases ys with
      | cons d ys => exact False.elim hx
      | nil =>
        rcases hx with ⟨hr, hfin, H1, left⟩ | ⟨e, rfl, hcx, hpin⟩
        · have hres : End.result (.ret x) = .returned .none := by
            rcases hr with hr | hr <;> rw [hr] <;> rfl
          first | rw [hres] | simp only [hres]
          show wpAny _ A.in1 (newExc (.type "StopIteration") [] >>= _) _ _ _
          refine wpAny_bind ?_
          simp only [newExc, newTuple]
          refine wpAny_bind (wpAny_newObj_type ?_ (by size_fits))
          refine wpAny_bind (m := firstArgMember _ _) (wpAny_of_eq (a := Value.none) (by first | rfl | (simp only [firstArgMember]; rfl)) ?_)
          refine wpAny_newObj_type ?_ (by size_fits)
          simp only [raiseNew]
          refine wpAny_bind (wpAny_bind (wpAny_handled ?_))
          first | rw [show A.in1.handled = none from hh] | rw [hh]
          refine wpAny_throw ?_
          refine wpAny_bind (wpAny_isInstance (T := "StopIteration") (b := true) ⟨_, Heap.get?_push_size _ rfl, rfl⟩ isSubtype_stop ?_)
          have kp : ∀ (h' : Heap), (∀ b o, s₁.heap.get? b = some o → h'.get? b = some o) → (g + 1 ≤ ({ s₁.setGen g .finished with heap := h' } : Shared).gens.size → Q none { s₁.setGen g .finished with heap := h' }) := fun h' hk _ =>
            hD _ H1 rfl hfin (fun p hp => ⟨hk _ _ (left.pn p (List.mem_cons_of_mem _ hp)).1, (left.pn p (List.mem_cons_of_mem _ hp)).2⟩) (inv_cut I ol left.os ((show Un (frs X.stack) [] H H1 (cutS s L).heap s₁.heap from left.un).trans (Un.kept hk)) (left.hok.kept hk) (allBare_setGen left.bare rfl)) left.gr
          exact wpAny_pure (kp _ fun b o hb => Heap.get?_push_of_some _ (Heap.get?_push_of_some _ hb))
        · have hcx' : L2N.CX X.prog X.w X.stack H (cutS (s.setGen g .running) L) _ e s₁ := hcx
          have hg1 : s₁.heap.IsGen a g := hgo.is (hpin (a, go) List.mem_cons_self)
          have hxx : ∃ x, fin = some x := by
            obtain ⟨_, _, _, _, _, _, _, _, _, _, _, _, _, _, x, hx, _⟩ := hcx
            exact ⟨x, hx⟩
          obtain ⟨x, hx⟩ := hxx
          have nst : NoStop X.K ((mkZ X.prog X.w X.K mg X.base N qual scope f cd A.in1 X.stack L fin).EX [] ⟨cutS (s.setGen g .running) L, H, Spr F T ρ, (a, go) :: xp⟩) := fun cls d H' h => by
            obtain ⟨_, _, x', hx', hr⟩ := h
            have hx' : fin = some x' := hx'
            rw [hx] at hx'
            cases hx'
            rw [hr.1]
            exact hns x hx
          have kin1 : X.K.In s₁.heap := by
            obtain ⟨_, B, H', _, _, _, fl, _, ub, _⟩ := id hcx'
            refine I.ok.mod.kin.keeps fun b o eb => ?_
            obtain ⟨e1, e2⟩ := I.bs b o eb
            have hbL : b < L := Nat.lt_of_lt_of_le (Heap.lt_size eb) (Nat.le_trans I.ok.bsz ol.s0)
            refine fl.1 b o (ub.keep b o (by rw [cutS_get hbL]; exact e1) e2 fun hm => ?_)
            have := I.stack.mem hm
            rw [this.1] at eb; cases eb
          have hns1 := notStop_ofN nst kin1 hcx'
          have hq : g + 1 ≤ (s₁.setGen g .finished).gens.size → E e (s₁.setGen g .finished) := by
            intro _
            have ag : AllBare s₁.gens := by
              obtain ⟨_, _, _, _, _, _, _, _, _, _, _, ag, _⟩ := id hcx'
              exact ag
            refine hE x e _ rfl hx (xe_gens (xe_cut I ol (fun cls d H' h => ?_) hcx') (allBare_setGen ag rfl))
            obtain ⟨_, gr, x', hx', hr⟩ := h
            have hx' : fin = some x' := hx'
            rw [hx] at hx'
            cases hx'
            exact ⟨rfl, gr, hr⟩
          obtain ⟨o, nm, qn, ho, hc, hd, hsl⟩ := hg1
          show wpAny _ A.in1 (Builtin.Generator.genLeft (.ref a) e) _ _ _
          unfold Builtin.Generator.genLeft Builtin.Generator.madeByALambda
          refine wpAny_bind (wpAny_bind (wpAny_load (o := o) ho (wpAny_pure ?_)))
          refine wpAny_bind (hns1 _ _ _ _ rfl ?_)
          rw [Bool.and_false, if_neg Bool.false_ne_true]
          unfold Builtin.Generator.genEscaped
          first
            | refine wpAny_bind (hns1 _ _ _ _ rfl ?_)
            | refine wpAny_bind (wpAny_pure (wpAny_bind (hns1 _ _ _ _ rfl ?_)))
          rw [if_pos (show (!false) = true from rfl)]
          first
            | refine wpAny_throw ?_
            | refine wpAny_bind (wpAny_throw ?_)
          refine wpAny_bind (hns1 _ _ _ _ rfl ?_)
          rw [if_neg Bool.false_ne_true]
          exact wpAny_throw hq
    · cases ys with
      | nil => exact False.elim hy
      | cons d ys =>
        obtain ⟨hq, x, H1, gp', hv', φ', rv, left, ce, own, dis, rd, hvr, wake⟩ := hy
        refine ⟨hq, ?_⟩
        have hI : Inv X pins σ H1 (s₁.setGen g (.suspended k' l' c' p' fs' (g' || fs'.any Frame.guarded))) :=
          inv_cut I ol left.os left.un left.hok (allBare_setGen left.bare (by
            show (!(g' || fs'.any Frame.guarded)) = true
            exact hq))
        refine wpAny_pure ⟨v, rfl, wpAny_pure fun hsz => hY d ys v x _ H1 gp' hv' φ' _ rfl (fun p hp => ⟨(left.pn p (List.mem_cons_of_mem _ hp)).1, (left.pn p (List.mem_cons_of_mem _ hp)).2, dis p (List.mem_cons_of_mem _ hp)⟩) hI left.gr rv rd rfl ⟨(left.pn (a, go) List.mem_cons_self).1, (left.pn (a, go) List.mem_cons_self).2, fun p hp => ?_, hvr, setGen_at ?_, ce, mg, N, qual, scope, f, cd, rfl, wake⟩⟩
        · obtain ⟨a1, a2, a3, a4, a5⟩ := own p hp
          exact ⟨a1, a2, a3, fun z => dis (a, go) List.mem_cons_self p hp z.symm, a5⟩
        · have q : (s₁.setGen g (.suspended k' l' c' p' fs' (g' || fs'.any Frame.guarded))).gens.size = s₁.gens.size := setGen_size _ _ _
          omega
end LW
namespace LW
open PySem PySem.Spec PyProof.Rows L2 GenW
abbrev QTGen (W : Wrl) := W.Ω → List Sl → (W.Ω → List D → Option Exn → Prop) → (W.Ω → Exn → Prop) → Prop
structure QGen (X : Cx) (k : Nat) (W : Wrl) (Wo : WX) (e : Expr) (qg : QTGen W) : Prop where
  run : ∀ (pins : List (Addr × Obj)) (s : Shared) (σ : L2.St) (H : Hp) (F : Frm) (T : ASet) (ω : W.Ω) (ρ : List Sl) (Qp : W.Ω → List D → Option Exn → Prop) (Ep : W.Ω → Exn → Prop), Inv X pins σ H s → Rel X.K W F T ω ρ σ H → qg ω ρ Qp Ep → XOk X.K W Wo F ρ σ Ep →
    wpAny (model X.prog X.w) X.A (eval e X.env) (fun u s' => ∃ (H1 : Hp) (sc : Shared) (T1 : ASet) (ω1 : W.Ω) (ys : List D) (fin : Option Exn), Inv X pins σ H1 sc ∧ Rel X.K W F T1 ω1 ρ σ H1 ∧ Ext T H T1 H1 ∧ GMadeZ X.prog X.w X.K X.base k X.stack H1 (Spr F T1 ρ) sc ys fin u s' ∧ Qp ω1 ys fin) X.xe s
section
variable {X : Cx} {W : Wrl} {Wo : WX} {mr m m1 m2 : Md} {pf : PSpG} {qs : QTA W} {qo : QT W} {k : Nat} {f C : Addr} {fd : FuncData} {ps : List Str} {x mn : Str} {p pos apos : Pos} {e o a b fe : Expr} {es : List Expr}
theorem run_gfnZ {pins : List (Addr × Obj)} {σ : L2.St} {H : Hp} {s : Shared} {F : Frm} {T : ASet} {ω : W.Ω} {ρ : List Sl} {us : List Value} {vs : List V} {ds ys : List D} {fin : Option Exn} {E1 : Value → Shared → Prop} (G : GFnZ X.prog X.w X.K X.mg X.base k f fd ps pf) (hr : Room k X.A) (hb : Binds X.K fd ps [])
    (I : Inv X pins σ H s) (R : Rel X.K W F T ω ρ σ H) (r : Vals vs us) (rep : RepsA X.K H (Spr F T ρ) ds vs) (h : pf ds ys fin) :
    wpAny (model X.prog X.w) X.A (call (.ref f) us) (fun u s' => GMadeZ X.prog X.w X.K X.base k X.stack H (Spr F T ρ) s ys fin u s') E1 s := by
  have hl : us.length = ps.length := by rw [← r.length, rep.len]; exact G.len _ _ _ h
  have b := hb s us I.kIn (by rw [List.append_nil]; exact hl)
  rw [List.append_nil] at b
  refine wpAny_call (codeAny_mono (G.run X.A X.stack s H _ ⟨us, []⟩ us vs ds ys fin hr I.env0 b r R.spl rep h) fun r s' hq => ?_)
  cases r with
  | error e => exact False.elim hq
  | ok fl =>
    cases fl with
    | ret u => exact hq
    | next => exact False.elim hq
    | brk => exact False.elim hq
    | cont => exact False.elim hq
def qGMeth (C : Addr) (mn : Str) (pf : PSpG) (qo : QT W) (qs : QTA W) : QTGen W := fun ω ρ Q E => qo ω ρ (fun ω1 d => ∃ ns ds, d = .ins C ns ds ∧ mn ∉ ns ∧ qs ω1 ρ (fun ω2 es => ∃ ys fin, pf (d :: es) ys fin ∧ Q ω2 ys fin) E) E
def qGCall (pf : PSpG) (qs : QTA W) : QTGen W := fun ω ρ Q E => qs ω ρ (fun ω1 es => ∃ ys fin, pf es ys fin ∧ Q ω1 ys fin) E
theorem qg_call (G : GFnZ X.prog X.w X.K X.mg X.base k f fd ps pf) (hr : Room k X.A) (hg : Gl X x) (hm : X.mg x = some (.ref f)) (hk : PySem.W.keepIn X.K (.ref f) = true) (hb : Binds X.K fd ps [])
    (ha : QA X .A W Wo (e :: es) qs) (hdb : (x == ("__debug__" : Str)) = false := by decide) (he : starEach (e :: es) X.env = (false, eval e X.env) :: starEach es X.env := by rfl) (hpl : (backTo pos (starEach es X.env)).any (·.1) = false := by rfl) :
    QGen X k W Wo (.Call (.Name x p) (e :: es) [] pos) (qGCall pf qs) := by
  refine ⟨fun pins s σ H F T ω ρ Qp Ep I R hq hx => ?_⟩
  refine wpAny_Call_Name_kw (ld_glob I hg hm ?_ hdb)
  refine PySem.W.callWith_K (h₀ := X.base) I.ok.mod.kin hk (thn (PA.run ha pos pins s σ H (fun vs H2 => ∃ T2 ω2 es, Rel X.K W F T2 ω2 ρ σ H2 ∧ Ext T H T2 H2 ∧ RepsA X.K H2 (Spr F T2 ρ) es vs ∧ ∃ ys fin, pf es ys fin ∧ Qp ω2 ys fin) I
    ⟨F, T, ω, ρ, _, Ep, R, hq, hx, fun T2 ω2 es vs H2 R2 e2 r2 q2 => ⟨T2, ω2, es, R2, e2, r2.reps, q2⟩⟩) fun us s2 ⟨vs, H2, I2, r, T2, ω2, es, R2, e2, r2, ys, fin, hp, q2⟩ => ⟨I2.kIn, ?_⟩) he hpl
  exact thn (run_gfnZ G hr hb I2 R2 r r2 hp) fun u' s' made => ⟨H2, s2, T2, ω2, ys, fin, I2, R2, e2, made, q2⟩
end
theorem inv_gens {X : Cx} {pins : List (Addr × Obj)} {σ : L2.St} {H : Hp} {s : Shared} {G : Array GenState} (I : Inv X pins σ H s) (h : AllBare G) : Inv X pins σ H { s with gens := G } :=
  ⟨I.ok, I.os, h, I.base, I.loc, I.cell, I.free, I.freeC, I.pin, I.hok, I.len⟩
theorem bare_off {G : Array GenState} (h : AllBare G) : AllBare (G.map offG) := fun y hy => by
  obtain ⟨x, hx, rfl⟩ := Array.mem_map.mp hy
  have := h x hx
  cases x <;> exact this
theorem un_new {fs ex cs : List Addr} {φ : CFn} {H : Hp} {h h' : Heap} (k : ∀ b o, h.get? b = some o → h'.get? b = some o) (n : ∀ c ∈ cs, h.objs.size ≤ c ∧ H c = none) : Un fs ex H (upH cs φ H) h h' := by
  have ne : ∀ {b o}, H b = some o → b ∉ cs := fun {b o} e m => by rw [(n b m).2] at e; cases e
  refine ⟨fun b o e _ _ _ => k b o e, fun b o e _ _ _ => ⟨o.slots, k b o e⟩, fun b o e q _ => upH_none q fun m => Nat.lt_irrefl _ (Nat.lt_of_lt_of_le (Heap.lt_size e) (n b m).1), fun b o e _ => ⟨o, k b o e⟩, fun b xs e => by rw [upH_out (ne e)]; exact e, fun b o x e => by rw [upH_out (ne e)]; exact e, fun b ps e => ⟨#[], by rw [upH_out (ne e), e]; simp⟩⟩
theorem made_rdy {X : Cx} {W : Wrl} {F : Frm} {T : ASet} {ω : W.Ω} {ρ : List Sl} {pins : List (Addr × Obj)} {σ : L2.St} {H : Hp} {sc s' : Shared} {k : Nat} {ys : List D} {fin : Option Exn} {u : Value} {A : Around} (hr : Room k A) (hfr : A.frames = some X.stack)
    (I : Inv X pins σ H sc) (R : Rel X.K W F T ω ρ σ H) (made : GMadeZ X.prog X.w X.K X.base k X.stack H (Spr F T ρ) sc ys fin u s') :
    ∃ (a g : Nat) (go : Obj) (gp : List (Addr × Obj)) (hv : List (D × V)) (cs : List Addr) (φ : CFn) (gs : GenState), u = .ref a ∧ Inv X pins σ (upH cs φ H) s' ∧ Old X pins sc.heap.objs.size ∧ GObj go g ∧ sc.heap.objs.size ≤ a ∧ (∀ p ∈ gp, sc.heap.objs.size ≤ p.1 ∧ p.1 < s'.heap.objs.size) ∧ (∀ c ∈ cs, H c = none ∧ sc.heap.objs.size ≤ c ∧ c < s'.heap.objs.size) ∧
      Rdy X.prog X.w X.K X.base A X.stack sc.heap.objs.size fin a g go (Spr F T ρ) ys gp hv cs φ gs (upH cs φ H) s' := by
  obtain ⟨a, g, c, go, gp, hv, mg, N, qual, scope, f, cd, φ, rfl, hgo, hobj, hLa, hgens, hos, hba, hkeep, hown, hcel, hhv, hrun⟩ := made
  have n : ∀ c ∈ csOf scope sc.heap.objs.size, H c = none ∧ sc.heap.objs.size ≤ c ∧ c < s'.heap.objs.size := fun c m => ⟨I.hok.fresh (hcel c m).1, (hcel c m).1, (hcel c m).2.2.1.choose_spec.lt⟩
  refine ⟨a, g, go, gp, hv, csOf scope sc.heap.objs.size, φ, .fresh c, rfl, I.call' (ch := []) hos (un_new hkeep fun c m => ⟨(n c m).2.1, (n c m).1⟩) (hok_up (I.hok.kept hkeep) (fun c m => ⟨(n c m).1, (hcel c m).2.2.1⟩) fun c m => (hcel c m).2.2.2) hba (fun b z => by simp at z), inv_old I, hgo, hLa, fun p hp => ⟨(hown p hp).2.1, Heap.lt_size (hown p hp).1⟩, n,
    hobj, upH_none (I.hok.fresh hLa) fun m => Nat.lt_irrefl _ (hcel a m).2.1, fun p hp => ?_, hhv, hgens, upH_celd, mg, N, qual, scope, f, cd, rfl, fun i s2 wk => hrun A hr hfr i s2 wk⟩
  obtain ⟨a1, a2, a3, a4, a5⟩ := hown p hp
  exact ⟨a1, upH_none (I.hok.fresh a2) a4, a2, a3, a5⟩
theorem rt_untrk {K : PySem.W.Frag} {mr : Md} {F : Frm} {T : ASet} {H : Hp} {d : D} {v : V} {cs : List Addr} {φ : CFn} (n : ∀ c ∈ cs, F.H c = none) (h : RT mr K (F.trk cs φ) T H d v) : RT mr K F T H d v := by
  cases mr with
  | F =>
    obtain ⟨l, xs, ds, h1, h2, h3, h4, h5, h6⟩ := h
    refine ⟨l, xs, ds, h1, h2, ?_, h4, h5, h6⟩
    have h3 : upH cs φ F.H l = none := h3
    by_cases m : l ∈ cs
    · exact n l m
    · rw [upH_out m] at h3; exact h3
  | A => exact h
  | O => exact h
  | C => exact h
def kForG {W : Wrl} (K : PySem.W.Frag) (g : QTG) (s : QTS W) (P : PEn W) (ω1 : W.Ω) (ρ : List Sl) (ys : List D) (fin : Option Exn) : Prop :=
  (∀ x, fin = some x → PySem.W.subIn K (.ref x.C) (.type "StopIteration") = some false) ∧ ∃ I : Nat → W.Ω → List Sl → Prop, I 0 ω1 ρ ∧
    (∀ i d ω ρ, ys[i]? = some d → I i ω ρ → g d ρ fun ρ' => s { P with nx := I (i + 1), ct := I (i + 1), bk := P.nx, ex := fun _ _ _ => False } ω ρ') ∧ ∀ ω ρ, I ys.length ω ρ → match fin with | none => P.nx ω ρ | some x => P.ex ω x ρ
def sForG {W : Wrl} (K : PySem.W.Frag) (qg : QTGen W) (g : QTG) (s : QTS W) : QTS W := fun P ω ρ => qg ω ρ (fun ω1 ys fin => kForG K g s P ω1 ρ ys fin) fun ω1 x => P.ex ω1 x ρ
theorem qs_forG {X : Cx} {W : Wrl} {Wo : WX} {mr m : Md} {tg iter : Expr} {body : List Stmt} {pos : Pos} {k : Nat} {t : List Nat} {qg : QTGen W} {g : QTG} {s : QTS W} (hp : PassesOwn (model X.prog X.w) X.A X.env X.xe) (hc : X.calm = true) (tk : L2N.Takes X Wo) (hk : Room (k + 1) X.A)
    (hgen : QGen X k W Wo iter qg) (hg : QG { X with xe := fun _ _ => False } m W tg t g) (hb : QSs { X with xe := fun _ _ => False } mr W Wo0 body s) (hm : m.sta = true := by rfl)
    (hs : ∀ x, foldedSetIterable iter X.env x = pure x := by intro _; rfl) : QS X mr W Wo (.For tg iter body [] pos) (sForG X.K qg g s) := by
  refine ⟨fun pins s0 σ0 H0 D I0 ⟨F, T0, ω0, ρ0, P, R0, hq, S⟩ => ?_⟩
  have hcal := I0.ok.hd hc
  refine wpAny_For (thn (hgen.run pins s0 σ0 H0 F T0 ω0 ρ0 _ _ I0 R0 hq S.xok) fun u s1 h1 => ?_) hs
  obtain ⟨H1, sc, T1, ω1, ys, fin, I1, R1, e1, made, hns, Iv, iv0, ivs, ivd⟩ := h1
  obtain ⟨a, g', go, gp, hv, cs, φ, gs, rfl, I1', ol, hgo, hLa, hgp, hcs, rdy⟩ := made_rdy (A := X.A.in1) ⟨hk.hd, by have := hk.dp; show X.A.depth + 3 * k + 5 < _; omega, by have := hk.un; show X.A.units + 1 + 16 * k + 200 < _; omega⟩ I1.ok.frames I1 R1 made
  have nF : ∀ c ∈ cs, F.H c = none := fun c m => R1.gr.live c (hcs c m).1
  have nFS : ∀ c ∈ cs, ¬ F.S c := fun c m z => (R1.s0 c z).1 (hcs c m).1
  have nS1 : ∀ c ∈ cs, ¬ Spr F T1 ρ0 c := fun c m z => R1.spl c z (hcs c m).1
  have R1' := R1.grow (grp_upH (φ := φ) fun c m => (hcs c m).1)
  refine wpAny_pyIter_gen (hgo.is rdy.obj) ?_
  refine codeAny_forLoop_any (fun n s' => ∃ (j : Nat) (T : ASet) (ω : W.Ω) (ρ : List Sl) (σ : L2.St) (H : Hp) (gs : GenState) (gp : List (Addr × Obj)) (hv : List (LW.D × V)) (φ : CFn), j + n = ys.length ∧ Inv X pins σ H s' ∧ Rel X.K W F T ω ρ σ H ∧ (∀ c ∈ cs, ¬ Spr F T ρ c) ∧ Iv j ω ρ ∧
      Rdy X.prog X.w X.K X.base X.A.in1 X.stack sc.heap.objs.size fin a g' go (Spr F T ρ) (ys.drop j) gp hv cs φ gs H s') ?_ ys.length ⟨0, T1, ω1, ρ0, σ0, _, gs, gp, hv, φ, Nat.zero_add _, I1', R1', nS1, iv0, rdy⟩
  rintro n s3 ⟨j, T, ω, ρ, σ, H, gs, gp, hv, φ, hjn, I3, R3, nS3, iv3, r3⟩
  refine wpAny_passesOwn hp (next_gz (xp := []) (fun p hp => by cases hp) hcal (by have := hk.dp; show X.A.depth < _; omega) I3 R3 ol hgo hLa r3 nS3 hns (fun d ys' v x s4 H4 gp' hv' φ' gs' hys _ I4 g4 rv rd hsus r4 => ?_) (fun s4 H4 hys hfin _ I4 g4 => ?_) fun x e s4 hys hfin hxe => ?_)
  · have hjl : j < ys.length := by
      rcases Nat.lt_or_ge j ys.length with z | z
      · exact z
      · rw [List.drop_of_length_le z] at hys; cases hys
    have hd : ys[j]? = some d := by
      have := congrArg List.head? hys
      rw [List.head?_drop] at this
      exact this
    have hys' : ys.drop (j + 1) = ys' := by rw [← List.tail_drop, hys] <;> rfl
    have R4 := (R3.growC r3.cel g4 nF nS3).trk r4.cel nS3
    obtain ⟨gnm, gqn, gdat⟩ := hgo.data
    refine go_of r4.obj hgo.cls gdat rfl ?_
    have pinOk : ∀ p ∈ (a, go) :: gp', s4.heap.get? p.1 = some p.2 ∧ H4 p.1 = none ∧ p.1 ≠ X.env.locals ∧ p.1 ∉ X.fs ∧ ∀ v, p.2.data ≠ .cell v := fun p hp => by
      have fsub : ∀ b, sc.heap.objs.size ≤ b → b ≠ X.env.locals ∧ b ∉ X.fs := fun b hb => ⟨Nat.ne_of_gt (Nat.lt_of_lt_of_le ol.loc hb), fun z => by
        obtain ⟨_, o, ho, _⟩ := I1.ok.funs.mem z
        exact Nat.lt_irrefl _ (Nat.lt_of_lt_of_le (Nat.lt_of_lt_of_le (Heap.lt_size ho) I1.sz) hb)⟩
      rcases List.mem_cons.mp hp with z | z
      · rw [z]
        exact ⟨r4.obj, r4.ho, (fsub a hLa).1, (fsub a hLa).2, fun v z => by rw [gdat] at z; cases z⟩
      · obtain ⟨a1, a2, a3, a4, a5⟩ := r4.own p z
        exact ⟨a1, a2, (fsub _ a3).1, (fsub _ a3).2, a5⟩
    have I4p : Inv X (pins ++ (a, go) :: gp') σ H4 s4 := I4.pins_of fun p hp => by
      rcases List.mem_append.mp hp with z | z
      · exact I4.pin p (List.mem_append_right _ z)
      · exact pinOk p z
    refine wpAny_asleep ?_
    refine wpAny_mono (hg.run (pins ++ (a, go) :: gp') { s4 with gens := s4.gens.map offG } σ H4 x v (fun σ6 H6 => ∃ ρ6 T6 ω6, Rel X.K W ((F.trk cs φ').add hv') T6 ω6 ρ6 σ6 H6 ∧ s { P with nx := Iv (j + 1), ct := Iv (j + 1), bk := P.nx, ex := fun _ _ _ => False } ω6 ρ6) (inv_xe (inv_gens I4p (bare_off I4.bare))) rv
      ⟨(F.trk cs φ').add hv', T, ω, ρ, d, _, R4.put r4.hvr, rr_a hm d x rd, ivs j d ω ρ hd iv3, fun ρ6 σ6 R6 _ _ q6 => ⟨ρ6, T, ω, R6, q6⟩⟩) (fun _ s6 h6 => ?_) fun _ _ z => z.elim
    obtain ⟨σ6, H6, I6, ρ6, T6, ω6, R6, q6⟩ := h6
    intro G6 _ hG6 hB6
    have I6' : Inv { X with xe := fun _ _ => False } (pins ++ (a, go) :: gp') σ6 H6 { s6 with gens := G6 } := inv_gens I6 (hB6 I6.bare)
    refine wpAny_asleep ?_
    refine wpAny_mono (hb.run (pins ++ (a, go) :: gp') { s6 with gens := G6.map offG } σ6 H6 { nx := fun σ H => ∃ T ω ρ, Rel X.K W ((F.trk cs φ').add hv') T ω ρ σ H ∧ Iv (j + 1) ω ρ, ct := fun σ H => ∃ T ω ρ, Rel X.K W ((F.trk cs φ').add hv') T ω ρ σ H ∧ Iv (j + 1) ω ρ, bk := D.nx, rt := D.rt } (inv_gens I6 (bare_off (hB6 I6.bare)))
      ⟨(F.trk cs φ').add hv', T6, ω6, ρ6, _, R6, q6, ⟨fun T ω ρ σ H R q => ⟨T, ω, ρ, R, q⟩, fun T ω ρ σ H R q => S.nx T ω ρ σ H (R.drop.untrk nF) q, fun T ω ρ σ H R q => ⟨T, ω, ρ, R, q⟩, fun T ω ρ σ H d v R r q => S.rt T ω ρ σ H d v (R.drop.untrk nF) (rt_untrk nF r) q, fun _ _ _ _ _ _ _ _ _ _ z => z⟩⟩) (fun f s7 h7 => ?_) fun _ _ z => z.elim
    intro G7 _ hG7 hB7
    have gsg : G7[g']? = some gs' := hG7 g' gs' (hG6 g' gs' r4.gsa hsus) hsus
    have again : ∀ {σ7 : L2.St} {H7 : Hp}, Inv { X with xe := fun _ _ => False } (pins ++ (a, go) :: gp') σ7 H7 s7 → (∃ T ω ρ, Rel X.K W ((F.trk cs φ').add hv') T ω ρ σ7 H7 ∧ Iv (j + 1) ω ρ) → ∃ m, m < n ∧ ∃ (j : Nat) (T : ASet) (ω : W.Ω) (ρ : List Sl) (σ : L2.St) (H : Hp) (gs : GenState) (gp : List (Addr × Obj)) (hv : List (LW.D × V)) (φ : CFn), j + m = ys.length ∧ Inv X pins σ H { s7 with gens := G7 } ∧ Rel X.K W F T ω ρ σ H ∧ (∀ c ∈ cs, ¬ Spr F T ρ c) ∧ Iv j ω ρ ∧
      Rdy X.prog X.w X.K X.base X.A.in1 X.stack sc.heap.objs.size fin a g' go (Spr F T ρ) (ys.drop j) gp hv cs φ gs H { s7 with gens := G7 } := fun {σ7 H7} I7 ⟨T7, ω7, ρ7, R7, iv7⟩ => by
      have I7' : Inv X (pins ++ (a, go) :: gp') σ7 H7 { s7 with gens := G7 } := inv_xe (X := { X with xe := fun _ _ => False }) (f := X.xe) (inv_gens I7 (hB7 I7.bare))
      have pk : ∀ p ∈ (a, go) :: gp', s7.heap.get? p.1 = some p.2 ∧ H7 p.1 = none := fun p hp => by
        obtain ⟨a1, a2, _⟩ := I7.pin p (List.mem_append_right _ (List.mem_append_right _ hp))
        exact ⟨a1, a2⟩
      refine ⟨n - 1, by omega, j + 1, T7, ω7, ρ7, σ7, H7, gs', gp', hv', φ', by omega, I7'.unpinned, R7.drop.untrk nF, R7.drop.trk_spr nFS, iv7, ?_⟩
      rw [hys']
      exact r4.keep (pk _ List.mem_cons_self) (fun p hp => pk p (List.mem_cons_of_mem _ hp)) (fun p hp => R7.kept hp) gsg R7.drop.celd
    have back : ∀ {σ7 : L2.St} {H7 : Hp}, Inv { X with xe := fun _ _ => False } (pins ++ (a, go) :: gp') σ7 H7 s7 → Inv X pins σ7 H7 { s7 with gens := G7 } := fun I7 => (inv_xe (X := { X with xe := fun _ _ => False }) (f := X.xe) (inv_gens I7 (hB7 I7.bare))).unpinned
    cases f with
    | next => obtain ⟨σ7, H7, I7, q7⟩ := h7; exact again I7 q7
    | cont => obtain ⟨σ7, H7, I7, q7⟩ := h7; exact again I7 q7
    | brk => obtain ⟨σ7, H7, I7, q7⟩ := h7; exact ⟨σ7, H7, back I7, q7⟩
    | ret v' => obtain ⟨x7, σ7, H7, I7, r7, q7⟩ := h7; exact ⟨x7, σ7, H7, back I7, r7, q7⟩
  · have hj : j = ys.length := by
      have := congrArg List.length hys
      rw [List.length_drop] at this
      have hz : ([] : List LW.D).length = 0 := rfl
      omega
    subst hj
    have q := ivd ω ρ iv3
    rw [hfin] at q
    exact wpAny_execs_nil ⟨σ, H4, I4, S.nx T ω ρ σ H4 (R3.growC r3.cel g4 nF nS3) q⟩
  · have hj : j = ys.length := by
      have := congrArg List.length hys
      rw [List.length_drop] at this
      have hz : ([] : List LW.D).length = 0 := rfl
      omega
    subst hj
    have q := ivd ω ρ iv3
    rw [hfin] at q
    refine tk e s4 ?_
    obtain ⟨a', B, sI, pins', σ', H', cls, d, rfl, I', nb, up, sky, na, os, ag, w1, w2, w3⟩ := hxe
    subst w1
    exact ⟨a', B, sI, pins', σ', H', cls, d, rfl, I', nb, up, sky, na, os, ag, S.ex T ω ρ σ' H' x cls d (R3.growC r3.cel w2 nF nS3) w3 q⟩
end LW
namespace LW
open PySem PySem.Spec PyProof.Rows L2 GenW
section
variable {X : Cx} {pins : List (Addr × Obj)} {σ : L2.St} {H : Hp} {s : Shared} {S : Addr} {acc : Array Value} {c : Nat} {xs : List V}
end
def qListG {W : Wrl} (qg : QTGen W) : QT W := fun ω ρ Q E => qg ω ρ (fun ω1 ys fin => fin = none ∧ ys.length ≤ 1000000 ∧ Q ω1 (.lst ys)) E
end LW
namespace LW
open PySem PySem.Spec PyProof.Rows L2 GenW
theorem okG {P : Program} {w : World} {K : PySem.W.Frag} {mg : Str → Option Value} {base : Heap} {x qual : Str} {params : Arguments} {body : List Stmt} {scope : Scope} {dvs : List V} {kws : List (Str × V)} {f : Addr} {fd : FuncData} {N ps : List Str} {k : Nat} {pf : PSpG} {q : QTGn}
    (F : FunD K x qual params body scope dvs kws f fd) (S : GScope N ps scope) (len : ∀ ds ys fin, pf ds ys fin → ds.length = ps.length)
    (hb : ∀ (cdv : Value) (A : Around) (outer : List Env) (L : Nat) (fin : Option Exn), Room k (A.deeper (envOfC qual scope L f cdv)) → GSs1 (mkZ P w K mg base N qual scope f cdv A outer L fin) body q)
    (hq : ∀ ds ys fin, pf ds ys fin → q { nx := fun ys' _ => ys' = [] ∧ fin = none, rt := fun ys' => ys' = [] ∧ fin = none, ex := fun ys' x => ys' = [] ∧ fin = some x } ys (startP N ds)) : GFnZ P w K mg base (k + 1) f fd ps pf := by
  obtain ⟨oc, od, dV, kV, doc, pm, an, cdv, ct, osl, rfl, lk, hcd, _, _⟩ := F.ex
  exact gfnZ_of lk hcd S len (fun A outer L fin hr => hb cdv A outer L fin hr) hq
theorem qs_forG' {X : Cx} {W : Wrl} {Wo : WX} {mr m : Md} {tg iter : Expr} {body : List Stmt} {pos : Pos} {k : Nat} {t : List Nat} {qg : QTGen W} {g : QTG} {s : QTS W} {K : PySem.W.Frag} (hK : X.K = K) (hp : PassesOwn (model X.prog X.w) X.A X.env X.xe) (hc : X.calm = true) (tk : L2N.Takes X Wo)
    (hgen : QGen X k W Wo iter qg) (hk : Room (k + 1) X.A) (hg : QG { X with xe := fun _ _ => False } m W tg t g)
    (hb : L2N.Takes { X with xe := fun _ _ => False } Wo0 → PassesOwn (model X.prog X.w) X.A X.env (fun _ _ => False) → QSs { X with xe := fun _ _ => False } mr W Wo0 body s) (hm : m.sta = true := by rfl)
    (hs : ∀ x, foldedSetIterable iter X.env x = pure x := by intro _; rfl) : QS X mr W Wo (.For tg iter body [] pos) (sForG K qg g s) := by
  subst hK
  exact qs_forG hp hc tk hk hgen hg (hb (fun u s' ⟨_, _, _, _, _, _, _, _, _, _, _, _, _, _, _, _, z⟩ => z.elim) PassesOwn.never) hm hs
def iAny {W : Wrl} (qa : QT W) : QTI W := fun ω ρ Q E => qa ω ρ (fun ω1 d => ∃ ds, (d = .lst ds ∨ d = .tup ds) ∧ Q ω1 ds) E
section
variable {W : Wrl} {P : PEn W} {ω : W.Ω} {ρ : List Sl} {Q : W.Ω → D → Prop} {E : W.Ω → Exn → Prop} {QL : W.Ω → List D → Prop} {qa qo : QT W} {qs : QTA W} {s : QTS W} {d : D} {ds ys : List D} {g : QTG} {pf : PSpG} {C : Addr} {m : Str} {qg : QTGen W} {K : PySem.W.Frag} {fin : Option Exn} {QG : W.Ω → List D → Option Exn → Prop}
theorem v_iAny (h : qa ω ρ (fun ω1 d => ∃ ds, (d = .lst ds ∨ d = .tup ds) ∧ QL ω1 ds) E) : iAny qa ω ρ QL E := h
theorem v_forG (h : qg ω ρ (fun ω1 ys fin => kForG K g s P ω1 ρ ys fin) fun ω1 x => P.ex ω1 x ρ) : sForG K qg g s P ω ρ := h
theorem v_kForG (I : Nat → W.Ω → List Sl → Prop) (h0 : I 0 ω ρ) (hs : ∀ i d ω ρ, ys[i]? = some d → I i ω ρ → g d ρ fun ρ' => s { P with nx := I (i + 1), ct := I (i + 1), bk := P.nx, ex := fun _ _ _ => False } ω ρ') (hd : ∀ ω ρ, I ys.length ω ρ → P.nx ω ρ) : kForG K g s P ω ρ ys none :=
  ⟨(fun x hx => nomatch hx), I, h0, hs, hd⟩
theorem v_gmeth (h : qo ω ρ (fun ω1 d => kIns C m d (qs ω1 ρ (fun ω2 es => ∃ ys fin, pf (d :: es) ys fin ∧ QG ω2 ys fin) E)) E) : qGMeth C m pf qo qs ω ρ QG E := h
theorem v_gcall (h : qs ω ρ (fun ω1 es => ∃ ys fin, pf es ys fin ∧ QG ω1 ys fin) E) : qGCall pf qs ω ρ QG E := h
def kLG (fin : Option Exn) (ys : List D) (R : Prop) : Prop := fin = none ∧ ys.length ≤ 1000000 ∧ R
theorem v_listG (h : qg ω ρ (fun ω1 ys fin => kLG fin ys (Q ω1 (.lst ys))) E) : qListG qg ω ρ Q E := h
end
section
variable {P : PGn} {ρ : List Sl} {ys ds : List D} {q u : QTGn} {s : QTS W0} {qa : QT W0} {qi : QTI W0} {g : QTG} {d : D}
theorem v_gSeq (h : q { P with nx := u P } ys ρ) : gSeq q u P ys ρ := h
theorem v_gPl (h : s { nx := fun _ ρ => P.nx ys ρ, rt := fun _ d => d = .non ∧ P.rt ys, bk := fun _ ρ => P.bk ys ρ, ct := fun _ ρ => P.ct ys ρ, ex := fun _ x _ => P.ex ys x } () ρ) : gPl s P ys ρ := h
def kYd (P : PGn) (ys : List D) (ρ : List Sl) (d : D) : Prop := ∃ ys', ys = d :: ys' ∧ P.nx ys' ρ
theorem v_kYd (h : P.nx ys ρ) : kYd P (d :: ys) ρ d := ⟨ys, rfl, h⟩
theorem v_gYield (hv : allVa ρ = true) (h : qa () ρ (fun _ d => kYd P ys ρ d) fun _ x => P.ex ys x) : gYield qa P ys ρ := ⟨hv, h⟩
def kGFor (g : QTG) (q : QTGn) (P : PGn) (ys : List D) (ρ : List Sl) (ds : List D) : Prop := ∃ I : Nat → List D → List Sl → Prop, I 0 ys ρ ∧ (∀ k d ys ρ, ds[k]? = some d → I k ys ρ → g d ρ fun ρ' => q { P with nx := I (k + 1), ct := I (k + 1), bk := P.nx } ys ρ') ∧ ∀ ys ρ, I ds.length ys ρ → P.nx ys ρ
theorem v_kGFor (I : Nat → List D → List Sl → Prop) (h0 : I 0 ys ρ) (hs : ∀ k d ys ρ, ds[k]? = some d → I k ys ρ → g d ρ fun ρ' => q { P with nx := I (k + 1), ct := I (k + 1), bk := P.nx } ys ρ') (hd : ∀ ys ρ, I ds.length ys ρ → P.nx ys ρ) : kGFor g q P ys ρ ds := ⟨I, h0, hs, hd⟩
theorem v_gFor (h : qi () ρ (fun _ ds => kGFor g q P ys ρ ds) fun _ x => P.ex ys x) : gFor qi g q P ys ρ := h
end
end LW
namespace LW
open PySem PySem.Spec PyProof.Rows L2
def sDead {W : Wrl} : QTS W := fun _ _ _ => False
section
variable {X : Cx} {W : Wrl} {Wo : WX} {mr m m1 m2 : Md} {a b e o : Expr} {es : List Expr} {st : Stmt} {sts : List Stmt} {pos p apos : Pos} {qa qb qo : QT W} {qs : QTA W} {C D : Addr} {k : Bool}
theorem qs_dead : QS X mr W Wo st sDead := PS.imp ps_dead fun D σ H ⟨F, T, ω, ρ, P, R, q, S⟩ => q
def qIsO (C : Addr) (k : Bool) (qa : QT W) : QT W := fun ω ρ Q E => qa ω ρ (fun ω1 d => kObj C d (Q ω1 (.bl k))) E
theorem v_isiO' {ω : W.Ω} {ρ : List Sl} {Q : W.Ω → LW.D → Prop} {E : W.Ω → Exn → Prop} (h : qa ω ρ (fun ω1 d => kObj C d (Q ω1 (.bl k))) E) : qIsO C k qa ω ρ Q E := h
def kIsT (T : String) (d : LW.D) (R : Bool → Prop) : Prop := d.isIns = false ∧ ∃ b, kitB d.tyn T = some b ∧ R b
def qIsT (T : String) (qa : QT W) : QT W := fun ω ρ Q E => qa ω ρ (fun ω1 d => kIsT T d fun b => Q ω1 (.bl b)) E
theorem v_isT {T : String} {ω : W.Ω} {ρ : List Sl} {Q : W.Ω → LW.D → Prop} {E : W.Ω → Exn → Prop} (h : qa ω ρ (fun ω1 d => kIsT T d fun b => Q ω1 (.bl b)) E) : qIsT T qa ω ρ Q E := h
theorem v_kIsT {T : String} {d : LW.D} {R : Bool → Prop} {b : Bool} (h1 : d.isIns = false) (h2 : kitB d.tyn T = some b) (h : R b) : kIsT T d R := ⟨h1, b, h2, h⟩
def MtQ (m : Md) (K : PySem.W.Frag) (r : V → List V → Hp → VK → Prop) (f : LW.D → List LW.D → (LW.D → Prop) → Prop) : Prop := ∀ (S : ASet) (os : List Addr) (H : Hp) (d : LW.D) (ds : List LW.D) (v : V) (vs : List V) (Q : VK) (Qp : LW.D → Prop), (∀ a, S a → H a ≠ none) → RC K H S os d v → ROs .C K H S os ds vs → f d ds Qp →
  (∀ x u H', GrP nop H H' → RR m K H H' S os x u → Qp x → Q u H') → r v vs H Q
def qMtT (f : LW.D → List LW.D → (LW.D → Prop) → Prop) (qo : QT W) (qs : QTA W) : QT W := fun ω ρ Q E => qo ω ρ (fun ω1 d => ∃ ds, d = .tup ds ∧ qs ω1 ρ (fun ω2 es => f d es (Q ω2)) E) E
def qMtL (f : LW.D → List LW.D → (LW.D → Prop) → Prop) (qo : QT W) (qs : QTA W) : QT W := fun ω ρ Q E => qo ω ρ (fun ω1 d => ∃ ds, d = .lst ds ∧ qs ω1 ρ (fun ω2 es => f d es (Q ω2)) E) E
theorem qe_bmT {name : Str} {id : String} {r : V → List V → Hp → VK → Prop} {f : LW.D → List LW.D → (LW.D → Prop) → Prop} (slot : Slot "tuple" name id) (hty : typeOf (.builtin id) = pure (.type "method_descriptor")) (hm : MtR X id r) (hp : MtQ .A X.K r f) (ho : QE X m1 W Wo o qo) (ha : QA X .C W Wo (e :: es) qs) (hmo : m1.ow = true := by rfl)
    (hbase : attributeBase o name X.env (eval o X.env) = eval o X.env := by rfl)
    (hfew : ((backTo pos (starEach (e :: es) X.env)).all (fun x => !x.1) && (backToKw pos (keywordEach [] X.env)).all (fun x => x.1.isSome)
      && decide ((e :: es).length + ([] : List Keyword).length + (if ([] : List Keyword).isEmpty then 0 else 1) < 30)) = true := by rfl)
    (hline : (apos.endLine == pos.line) = true := by rfl) (hs : starEach (e :: es) X.env = (false, eval e X.env) :: starEach es X.env := by rfl) (hplain : (backTo pos (starEach es X.env)).any (·.1) = false := by rfl) :
    QE X .A W Wo (.Call (.Attribute o name apos) (e :: es) [] pos) (qMtT f qo qs) := PE.imp (pe_bmX slot hty hm ho ha hbase hfew hline hs hplain) fun σ H Q ⟨F, T, ω, ρ, Qp, Ep, R, q, hx, kk⟩ =>
  ⟨F, T, ω, ρ, _, Ep, R, q, hx, fun T1 ω1 d v H1 R1 e1 r1 ⟨ds, z, q1⟩ => by
    subst z
    obtain ⟨l, xs, rfl, ⟨ob, h1, hd⟩, hr⟩ := (r1.o hmo).tup
    exact ⟨⟨l, xs, rfl, ob, h1, hd⟩, F, T1, ω1, ρ, _, Ep, R1, q1, hx, fun T2 ω2 es' vs H2 R2 e2 r2 q2 => hp _ _ H2 _ es' _ vs Q _ R2.spl (R1.ext_RC e2 r1.c) r2 q2 fun x u H' g rr qq => kk T2 ω2 x u H' (R2.grow g) ((e1.trans e2).trans (Ext.of0 g)) rr qq⟩⟩
theorem qe_bmL {name : Str} {id : String} {r : V → List V → Hp → VK → Prop} {f : LW.D → List LW.D → (LW.D → Prop) → Prop} (slot : Slot "list" name id) (hty : typeOf (.builtin id) = pure (.type "method_descriptor")) (hm : MtR X id r) (hp : MtQ .A X.K r f) (ho : QE X m1 W Wo o qo) (ha : QA X .C W Wo (e :: es) qs)
    (hbase : attributeBase o name X.env (eval o X.env) = eval o X.env := by rfl)
    (hfew : ((backTo pos (starEach (e :: es) X.env)).all (fun x => !x.1) && (backToKw pos (keywordEach [] X.env)).all (fun x => x.1.isSome)
      && decide ((e :: es).length + ([] : List Keyword).length + (if ([] : List Keyword).isEmpty then 0 else 1) < 30)) = true := by rfl)
    (hline : (apos.endLine == pos.line) = true := by rfl) (hs : starEach (e :: es) X.env = (false, eval e X.env) :: starEach es X.env := by rfl) (hplain : (backTo pos (starEach es X.env)).any (·.1) = false := by rfl) :
    QE X .A W Wo (.Call (.Attribute o name apos) (e :: es) [] pos) (qMtL f qo qs) := PE.imp (pe_bm PySem.F.plainAttrs_list slot hty hm ho ha hbase hfew hline hs hplain) fun σ H Q ⟨F, T, ω, ρ, Qp, Ep, R, q, hx, kk⟩ =>
  ⟨F, T, ω, ρ, _, Ep, R, q, hx, fun T1 ω1 d v H1 R1 e1 r1 ⟨ds, z, q1⟩ => by
    subst z
    obtain ⟨l, xs, rfl, hl, hr, _⟩ := r1.c.lst
    exact ⟨.inl ⟨rfl, xs, hl⟩, F, T1, ω1, ρ, _, Ep, R1, q1, hx, fun T2 ω2 es' vs H2 R2 e2 r2 q2 => hp _ _ H2 _ es' _ vs Q _ R2.spl (R1.ext_RC e2 r1.c) r2 q2 fun x u H' g rr qq => kk T2 ω2 x u H' (R2.grow g) ((e1.trans e2).trans (Ext.of0 g)) rr qq⟩⟩
theorem v_mtT {f : LW.D → List LW.D → (LW.D → Prop) → Prop} {ω : W.Ω} {ρ : List Sl} {Q : W.Ω → LW.D → Prop} {E : W.Ω → Exn → Prop} (h : qo ω ρ (fun ω1 d => ∃ ds, d = .tup ds ∧ qs ω1 ρ (fun ω2 es => f d es (Q ω2)) E) E) : qMtT f qo qs ω ρ Q E := h
theorem v_mtL {f : LW.D → List LW.D → (LW.D → Prop) → Prop} {ω : W.Ω} {ρ : List Sl} {Q : W.Ω → LW.D → Prop} {E : W.Ω → Exn → Prop} (h : qo ω ρ (fun ω1 d => ∃ ds, d = .lst ds ∧ qs ω1 ρ (fun ω2 es => f d es (Q ω2)) E) E) : qMtL f qo qs ω ρ Q E := h
def fIndexT (d : LW.D) (es : List LW.D) (Q : LW.D → Prop) : Prop := ∃ (ns : List Int) (z : Int), d = .tup (dInts ns) ∧ es = [.int z] ∧ z ∈ ns ∧ Q (.int (ns.idxOf z : Nat))
def fIndexL (d : LW.D) (es : List LW.D) (Q : LW.D → Prop) : Prop := ∃ (ns : List Int) (z : Int), d = .lst (dInts ns) ∧ es = [.int z] ∧ z ∈ ns ∧ Q (.int (ns.idxOf z : Nat))
theorem tindexP {K : PySem.W.Frag} : MtQ .A K (rIndexT K) fIndexT := fun S os H d ds v vs Q Qp hS r rs ⟨ns, z, hd, he, hz, h⟩ k => by
  subst he hd
  obtain ⟨w, rfl, rw'⟩ := rs.one
  obtain ⟨l, xs, rfl, hl, hr⟩ := r.tup
  rw [hr.ints] at hl
  exact ⟨l, ns, z, rfl, by rw [rw'.c.int], hl, hz, k _ _ H (GrP.refl _ _) (RepA.int _) h⟩
theorem lindexP {K : PySem.W.Frag} : MtQ .A K (rIndex K) fIndexL := fun S os H d ds v vs Q Qp hS r rs ⟨ns, z, hd, he, hz, h⟩ k => by
  subst he hd
  obtain ⟨w, rfl, rw'⟩ := rs.one
  obtain ⟨l, xs, rfl, hl, hr, _⟩ := r.lst
  rw [hr.ints] at hl
  rw [rw'.c.int]
  exact w_indexL hl hz (k _ _ H (GrP.refl _ _) (RepA.int _) h)
theorem v_tindex {ns : List Int} {z : Int} {Q : LW.D → Prop} (hz : z ∈ ns) (h : Q (.int (ns.idxOf z : Nat))) : fIndexT (.tup (dInts ns)) [.int z] Q := ⟨ns, z, rfl, rfl, hz, h⟩
theorem v_lindex {ns : List Int} {z : Int} {Q : LW.D → Prop} (hz : z ∈ ns) (h : Q (.int (ns.idxOf z : Nat))) : fIndexL (.lst (dInts ns)) [.int z] Q := ⟨ns, z, rfl, rfl, hz, h⟩
def fSorted (ds : List LW.D) (Q : LW.D → Prop) : Prop := ∃ ns : List Int, (ds = [.lst (dInts ns)] ∨ ds = [.tup (dInts ns)]) ∧ ns.length < 64 ∧ ∀ ns' : List Int, ns'.Perm ns → ns'.Pairwise (· ≤ ·) → Q (.lst (dInts ns'))
theorem sortedP {K : PySem.W.Frag} : CaP .C .F K (rSortedA K) fSorted := fun S os H ds vs Q Qp hS r ⟨ns, hd, h64, h⟩ k => by
  rcases hd with rfl | rfl
  · obtain ⟨v, rfl, rv⟩ := r.one
    obtain ⟨l, xs, rfl, hl, hr, _⟩ := rv.c.lst
    rw [hr.ints] at hl
    exact ⟨l, ns, rfl, .inl hl, h64, fun ns' p h1 h2 hp => k _ _ _ (GrP.new hp) (rf_new hS hp (repsA_ints ns')) (h ns' h1 h2)⟩
  · obtain ⟨v, rfl, rv⟩ := r.one
    obtain ⟨l, xs, rfl, hl, hr⟩ := rv.c.tup
    rw [hr.ints] at hl
    exact ⟨l, ns, rfl, .inr hl, h64, fun ns' p h1 h2 hp => k _ _ _ (GrP.new hp) (rf_new hS hp (repsA_ints ns')) (h ns' h1 h2)⟩
end
end LW
namespace LW
open PySem PySem.Spec PyProof.Rows L2
end LW
namespace LW
open PySem PySem.Spec PyProof.Rows L2
section
variable {X : Cx} {W : Wrl} {Wo : WX} {m mr : Md} {o e : Expr} {pos pos' : Pos} {i : Nat} {qa : QT W} {P : PEn W} {ω : W.Ω} {ρ : List Sl}
def sRem (i : Nat) (qa : QT W) : QTS W := fun P ω ρ => ∃ l ns, ρ[i]? = some (.ow l (dInts ns)) ∧ qa ω ρ (fun ω1 d => ∃ k : Int, d = .int k ∧ k ∈ ns ∧ P.nx ω1 (ρ.set i (.ow l (dInts (ns.erase k))))) fun ω1 x => P.ex ω1 x ρ
theorem v_rem {l : Addr} {ns : List Int} (h1 : ρ[i]? = some (.ow l (dInts ns))) (h : qa ω ρ (fun ω1 d => ∃ k : Int, d = .int k ∧ k ∈ ns ∧ P.nx ω1 (ρ.set i (.ow l (dInts (ns.erase k))))) fun ω1 x => P.ex ω1 x ρ) : sRem i qa P ω ρ := ⟨l, ns, h1, h⟩
end
end LW
namespace LW
open PySem PySem.Spec PyProof.Rows L2
section
variable {X : Cx} {W : Wrl} {Wo : WX} {a C : Addr} {oe : Obj} {d : Option Addr} {pn : List (Addr × Obj)} {x : Exn} {i : Nat} {e b : Expr} {p pos : Pos}
theorem XDict.cs {K : PySem.W.Frag} {H : Hp} {x : Exn} {d : Option Addr} (h : XDict K H x d) : d = none ∨ ∃ dd fs, d = some dd ∧ H dd = some (.xd fs) := by
  unfold XDict at h
  split at h
  · exact .inl h
  · obtain ⟨a, v, e, hh, _⟩ := h
    exact .inr ⟨a, _, e, hh⟩
end
theorem FnH_imp {P : Program} {w : World} {K : PySem.W.Frag} {mg : Str → Option Value} {base : Heap} {CX : CXT} {k : Nat} {f : Addr} {fd : FuncData} {ps : List Str} {sp sp' : Sp} (F : L2H.FnH P w K mg base CX k f fd ps sp) (h : ∀ vs H Q E, sp' vs H Q E → sp vs H Q E) : L2H.FnH P w K mg base CX k f fd ps sp' :=
  ⟨fun vs H Q E q => F.len vs H Q E (h vs H Q E q), fun A outer s H args us vs Q E p hr hot hpin e0 hb r q => F.run A outer s H args us vs Q E p hr hot hpin e0 hb r (h vs H Q E q)⟩
theorem FnH.inW {P : Program} {w : World} {K : PySem.W.Frag} {mg : Str → Option Value} {base : Heap} {CX : CXT} {k : Nat} {f : Addr} {fd : FuncData} {ps : List Str} {mr : Md} {pf : PSp W0} (F : L2H.FnH P w K mg base CX k f fd ps (spM mr K W0 pf)) (W : Wrl) : L2H.FnH P w K mg base CX k f fd ps (spM mr K W (inW W pf)) := FnH_imp F fun _ _ _ _ h => spM_inW h
end LW
namespace LW
open PySem PySem.Spec PyProof.Rows L2
def dStrs (ys : List Str) : List D := ys.map D.str
theorem repsA_strs {K : PySem.W.Frag} {H : Hp} {S : ASet} : ∀ ys : List Str, RepsA K H S (dStrs ys) (ys.map V.str)
  | [] => .nil
  | n :: ns => .cons (.str n) (repsA_strs ns)
theorem valB_ok {v : V} {u : Value} (h : valB v u = true) : RelV v u := by
  cases v <;> cases u <;> first | (cases h; done) | skip
  · rename_i i j t
    have e : i = j := of_decide_eq_true h
    subst e
    exact ⟨t, rfl⟩
  · rename_i i j t
    have e : i = j := of_decide_eq_true h
    subst e
    exact ⟨t, rfl⟩
theorem valsB_ok : ∀ {vs : List V} {us : List Value}, valsB vs us = true → Vals vs us
  | [], [], _ => .nil
  | [], _ :: _, h => by cases h
  | _ :: _, [], h => by cases h
  | v :: vs, u :: us, h => by
    obtain ⟨h1, h2⟩ := Bool.and_eq_true_iff.mp h
    exact .cons (valB_ok h1) (valsB_ok h2)
theorem ctB_ok {K : PySem.W.Frag} {x : Str} {vs : List V} (h : ctB K x vs = true) : ∀ H : Hp, SqT K H (He.ga K x) vs := fun H => by
  unfold ctB at h
  split at h
  · rename_i its n sl e
    obtain ⟨h1, h2⟩ := Bool.and_eq_true_iff.mp h
    exact .inr ⟨_, its, n, e, rfl, rfl, of_decide_eq_true h1, valsB_ok h2⟩
  · cases h
section
variable {X : Cx} {W : Wrl} {Wo : WX} {m m1 m2 : Md} {e o : Expr} {pos apos p : Pos} {qo qe : QT W}
def SmP (m : Md) (K : PySem.W.Frag) (r : V → List V → Hp → VK → Prop) (f : D → D → (D → Prop) → Prop) : Prop := ∀ (S : ASet) (os : List Addr) (H : Hp) (a : Str) (y : D) (w : V) (Q : VK) (Qp : D → Prop), (∀ a, S a → H a ≠ none) → RC K H S os y w → f (.str a) y Qp → (∀ x u H', GrP nop H H' → RR m K H H' S os x u → Qp x → Q u H') → r (.str a) [w] H Q
def qSm (f : D → D → (D → Prop) → Prop) (qo qe : QT W) : QT W := fun ω ρ Q E => qo ω ρ (fun ω1 x => ∃ a, x = .str a ∧ qe ω1 ρ (fun ω2 y => f (.str a) y (Q ω2)) E) E
theorem qe_sm {id : String} {name : Str} {r : V → List V → Hp → VK → Prop} {f : D → D → (D → Prop) → Prop} (slot : Slot "str" name id) (ty : typeOf (.builtin id) = pure (.type "method_descriptor")) (rule : MtR X id r) (hp : SmP m X.K r f) (ho : QE X m1 W Wo o qo) (he : QE X m2 W Wo e qe)
    (hs : starEach [e] X.env = [(false, eval e X.env)] := by rfl) (hbase : attributeBase o name X.env (eval o X.env) = eval o X.env := by rfl) (hline : (apos.endLine == pos.line) = true := by rfl) :
    QE X m W Wo (.Call (.Attribute o name apos) [e] [] pos) (qSm f qo qe) := PE.imp (pe_m1 slot ty rule ho he hs hbase hline) fun σ H Q ⟨F, T, ω, ρ, Qp, Ep, R, q, hx, k⟩ =>
  ⟨F, T, ω, ρ, _, Ep, R, q, hx, fun T1 ω1 d v H1 R1 e1 r1 ⟨a, z, q1⟩ => by
    subst z
    rw [r1.c.str]
    exact ⟨⟨a, rfl⟩, F, T1, ω1, ρ, _, Ep, R1, q1, hx, fun T2 ω2 y w H2 R2 e2 r2 q2 => hp _ _ H2 a y w Q _ R2.spl r2.c q2 fun x u H' g rr qq => k T2 ω2 x u H' (R2.grow g) ((e1.trans e2).trans (Ext.of0 g)) (RR.back (fun a z => (e1.trans e2).gr.live a z) rr) qq⟩⟩
def fSplit : D → D → (D → Prop) → Prop
  | .str a, .str b, Q => b.length ≠ 0 ∧ a.length + 2 ≤ sizeLine ∧ Q (.lst (dStrs (Txt.split a b)))
  | _, _, _ => False
theorem splitP {K : PySem.W.Frag} : SmP .F K (fun x xs H Q => ∃ a b, x = .str a ∧ xs = [.str b] ∧ (b.length == 0) = false ∧ a.length + 2 ≤ sizeLine ∧ rNewStrs (Txt.split a b) H Q) fSplit := fun S os H a y w Q Qp hS ry h k => by
  unfold fSplit at h
  split at h
  · rename_i e
    cases e
    rw [ry.str]
    refine ⟨_, _, rfl, rfl, ?_, h.2.1, fun p hp => k _ _ _ (GrP.new hp) (rf_new hS hp (repsA_strs _)) h.2.2⟩
    exact beq_eq_false_iff_ne.mpr h.1
  · exact h.elim
def fEnds : D → D → (D → Prop) → Prop
  | .str a, .str b, Q => Q (.bl (Txt.endswith a b))
  | _, _, _ => False
theorem endsP {K : PySem.W.Frag} : SmP .A K (fun x xs H Q => ∃ a b, x = .str a ∧ xs = [.str b] ∧ Q (.bl (Txt.endswith a b)) H) fEnds := fun S os H a y w Q Qp hS ry h k => by
  unfold fEnds at h
  split at h
  · rename_i e
    cases e
    rw [ry.str]
    exact ⟨_, _, rfl, rfl, k _ _ H (GrP.refl _ _) (.bl _) h⟩
  · exact h.elim
def fRemS : D → D → (D → Prop) → Prop
  | .str a, .str b, Q => a.length ≤ sizeLine ∧ Q (.str (Txt.removesuffix a b))
  | _, _, _ => False
theorem remSP {K : PySem.W.Frag} : SmP .A K (fun x xs H Q => ∃ a b, x = .str a ∧ xs = [.str b] ∧ a.length ≤ sizeLine ∧ Q (.str (Txt.removesuffix a b)) H) fRemS := fun S os H a y w Q Qp hS ry h k => by
  unfold fRemS at h
  split at h
  · rename_i e
    cases e
    rw [ry.str]
    exact ⟨_, _, rfl, rfl, h.1, k _ _ H (GrP.refl _ _) (.str _) h.2⟩
  · exact h.elim
def fStrI : List D → (D → Prop) → Prop
  | [.int i], Q => i.natAbs.log2 < 1920 ∧ Q (.str (toString i))
  | _, _ => False
def rStrI : List V → Hp → VK → Prop := fun xs H Q => ∃ i, xs = [.int i] ∧ i.natAbs.log2 < 1920 ∧ Q (.str (toString i)) H
theorem cr_strI {X : Cx} : CallR X (.type "str") rStrI := call_str_int
theorem strIP {K : PySem.W.Frag} : CaP .C .A K rStrI fStrI := fun S os H ds vs Q Qp hS r h k => by
  unfold fStrI at h
  split at h
  · obtain ⟨v, rfl, rv⟩ := r.one
    rw [rv.c.int]
    exact ⟨_, rfl, h.1, k _ _ H (GrP.refl _ _) (RepA.str _) h.2⟩
  · exact h.elim
end
section
variable {W : Wrl} {f : D → D → (D → Prop) → Prop} {qo qe : QT W} {ω : W.Ω} {ρ : List Sl} {Q : W.Ω → D → Prop} {E : W.Ω → Exn → Prop} {Q1 : D → Prop} {a b : Str} {i : Int}
theorem v_sm (h : qo ω ρ (fun ω1 x => ∃ a, x = .str a ∧ qe ω1 ρ (fun ω2 y => f (.str a) y (Q ω2)) E) E) : qSm f qo qe ω ρ Q E := h
theorem v_exs {R : Str → Prop} (h : R a) : ∃ b, D.str a = .str b ∧ R b := ⟨a, rfl, h⟩
theorem v_split (h1 : b.length ≠ 0) (h2 : a.length + 2 ≤ sizeLine) (h : Q1 (.lst (dStrs (Txt.split a b)))) : fSplit (.str a) (.str b) Q1 := ⟨h1, h2, h⟩
theorem v_ends (h : Q1 (.bl (Txt.endswith a b))) : fEnds (.str a) (.str b) Q1 := h
theorem v_remS (h1 : a.length ≤ sizeLine) (h : Q1 (.str (Txt.removesuffix a b))) : fRemS (.str a) (.str b) Q1 := ⟨h1, h⟩
theorem v_strI (h1 : i.natAbs.log2 < 1920) (h : Q1 (.str (toString i))) : fStrI [.int i] Q1 := ⟨h1, h⟩
theorem any_strs {x : Str} : ∀ {ys : List Str}, ((dStrs ys).any fun y => y.same (.str x)) = decide (x ∈ ys)
  | [] => rfl
  | y :: ys => by
    show (decide (y = x) || (dStrs ys).any fun y => y.same (.str x)) = _
    rw [any_strs (ys := ys)]
    by_cases h : y = x
    · have h1 : x ∈ y :: ys := by rw [h]; exact List.mem_cons_self
      rw [decide_eq_true h, decide_eq_true h1] <;> rfl
    · rw [decide_eq_false h, Bool.false_or]
      by_cases h2 : x ∈ ys
      · have h1 : x ∈ y :: ys := List.mem_cons_of_mem _ h2
        rw [decide_eq_true h2, decide_eq_true h1]
      · have h1 : ¬ x ∈ y :: ys := fun z => (List.mem_cons.mp z).elim (fun q => h q.symm) h2
        rw [decide_eq_false h2, decide_eq_false h1]
theorem flat_strs : ∀ ys : List Str, (dStrs ys).all D.flat = true
  | [] => rfl
  | _ :: ys => flat_strs ys
theorem v_inTS {x : Str} {ys : List Str} (h : Q1 (.bl (decide (x ∈ ys)))) : fIn false (.str x) (.tup (dStrs ys)) Q1 := ⟨dStrs ys, .inr rfl, rfl, flat_strs ys, by rw [any_strs]; exact h⟩
theorem length_dStrs (ys : List Str) : (dStrs ys).length = ys.length := by unfold dStrs; rw [List.length_map]
theorem dStrs_append (a b : List Str) : dStrs a ++ dStrs b = dStrs (a ++ b) := by unfold dStrs; rw [List.map_append]
theorem dStrs_one (a : Str) : [D.str a] = dStrs [a] := rfl
theorem atI_strs {ys : List Str} {k : Nat} {y : Str} (h : ys[k]? = some y) : atI (dStrs ys) k = some (.str y) := by
  refine atI_of (by omega) ?_
  unfold dStrs
  rw [List.getElem?_map, Int.toNat_natCast, h] <;> rfl
theorem atI_lastS {ys : List Str} (h : ys ≠ []) : atI (dStrs ys) (-1) = some (.str (ys.getLastD "")) := by
  have hl : 0 < ys.length := List.length_pos_iff.mpr h
  have e : ixN (dStrs ys).length (-1) = some (ys.length - 1) := by
    unfold ixN
    rw [if_neg (by decide), if_pos (by rw [length_dStrs]; omega), length_dStrs]
    congr 1
    omega
  unfold atI
  rw [e]
  show (dStrs ys)[ys.length - 1]? = _
  unfold dStrs
  rw [List.getElem?_map, ← List.getLast?_eq_getElem?, List.getLastD_eq_getLast?]
  cases q : ys.getLast? with
  | none => exact absurd (List.getLast?_eq_none_iff.mp q) h
  | some y => rfl
end
end LW
namespace LW
open PySem PySem.Spec PyProof.Rows L2
def yes : ASet := fun _ => True
theorem putF_new {f : Str} {v : V} : ∀ {fs : List (Str × V)}, f ∉ fs.map (·.1) → putF f v fs = fs ++ [(f, v)]
  | [], _ => rfl
  | (g, x) :: r, h => by
    have h1 : g ≠ f := fun z => h (by rw [z]; exact List.mem_cons_self)
    show (if g = f then _ else (g, x) :: putF f v r) = _
    rw [if_neg h1, putF_new (fs := r) fun z => h (List.mem_cons_of_mem _ z)] <;> rfl
theorem zip_self {α β : Type} : ∀ l : List (α × β), (l.map (·.1)).zip (l.map (·.2)) = l
  | [] => rfl
  | (a, b) :: l => by
    show (a, b) :: (l.map (·.1)).zip (l.map (·.2)) = _
    rw [zip_self l]
theorem zip_fst {α β : Type} : ∀ {a : List α} {b : List β}, a.length = b.length → (a.zip b).map (·.1) = a
  | [], _, _ => by simp
  | x :: a, [], h => by cases h
  | x :: a, y :: b, h => by
    show x :: (a.zip b).map (·.1) = _
    rw [zip_fst (Nat.succ.inj h)]
theorem zip_snd {α β : Type} : ∀ {a : List α} {b : List β}, a.length = b.length → (a.zip b).map (·.2) = b
  | [], [], _ => rfl
  | [], _ :: _, h => by cases h
  | x :: a, [], h => by cases h
  | x :: a, y :: b, h => by
    show y :: (a.zip b).map (·.2) = _
    rw [zip_snd (Nat.succ.inj h)]
theorem reps_app {K : PySem.W.Frag} {H : Hp} {S : ASet} : ∀ {ds : List D} {vs : List V} {d : D} {v : V}, RepsA K H S ds vs → RepA K H S d v → RepsA K H S (ds ++ [d]) (vs ++ [v])
  | _, _, _, _, .nil, r => .cons r .nil
  | _, _, _, _, .cons h t, r => .cons h (reps_app t r)
def invM (K : PySem.W.Frag) (x C dx : Addr) (ω : List (Str × D)) (T : ASet) (H : Hp) : Prop := (∀ y, T y ↔ (y = x ∧ imm (ω.map (·.1)) = false)) ∧ ∃ fs : List (Str × V), H x = some (.ins C dx fs) ∧ fs.map (·.1) = ω.map (·.1) ∧ RepsA K H yes (ω.map (·.2)) (fs.map (·.2))
@[reducible] def WM (K : PySem.W.Frag) (x C dx : Addr) : Wrl where
  Ω := List (Str × D)
  inv := invM K x C dx
  st := by
    intro ω T U H H' ⟨h1, fs, h2, h3, h4⟩ g hU
    refine ⟨h1, fs, g.keep _ _ h2 ?_, h3, h4.ext g (fun _ _ => .inl trivial) fun _ _ => .inl trivial⟩
    cases e : imm (ω.map (·.1)) with
    | true =>
      refine .inl ?_
      show imm (fs.map (·.1)) = true
      rw [h3]; exact e
    | false => exact .inr fun u => hU x u ((h1 x).mpr ⟨rfl, e⟩)
  lv := by
    intro ω T H a ⟨h1, fs, h2, h3, h4⟩ t
    obtain ⟨rfl, e⟩ := (h1 a).mp t
    exact ⟨_, h2, by show imm (fs.map (·.1)) = false; rw [h3]; exact e⟩
section
variable {X : Cx} {x C dx : Addr} {Wo : WX} {mr : Md} {o e : Expr} {f : Str} {i : Nat} {pos p' : Pos} {K : PySem.W.Frag}
def sFset (x : Addr) (i : Nat) (f : Str) (qa : QT (WM K x C dx)) : QTS (WM K x C dx) := fun P ω ρ => qa ω ρ (fun ω1 d => ρ[i]? = some (.va (.adr x)) ∧ d.pure = true ∧ f ∉ ω1.map (·.1) ∧ imm (ω1.map (·.1)) = false ∧ ω1.length < 1000 ∧ P.nx (ω1 ++ [(f, d)]) ρ) fun ω1 y => P.ex ω1 y ρ
theorem qs_fset {qa : QT (WM K x C dx)} (hK : X.K = K) (c : Cls K C) (n : NoAttr K C f) (he : QE X .A (WM K x C dx) Wo e qa) (ho : PE X o (tVar i)) (hs : swapsWith e (some (.Attribute o f p')) pos.line X.env = pure false := by rfl) :
    QS X mr (WM K x C dx) Wo (.Assign [.Attribute o f p'] e pos) (sFset x i f qa) := by
  subst hK
  refine PS.imp (ps_fld ho he hs) fun D σ H ⟨F, T, ω, ρ, P, R, q, S⟩ => ⟨F, T, ω, ρ, _, _, R, q, S.xok, fun T1 ω1 d v H1 R1 e1 r1 ⟨hi, hp, hf, him, hl, q1⟩ => ?_⟩
  obtain ⟨h1, fs, h2, h3, h4⟩ := R1.inv
  obtain ⟨u, hu, ru⟩ := R1.sl.get_va hi
  cases ru
  have hlen : fs.length = ω1.length := by have := congrArg List.length h3; rwa [List.length_map, List.length_map] at this
  refine ⟨.ref x, hu, x, C, dx, fs, rfl, h2, c, n, by omega, ?_⟩
  rw [putF_new (by rw [h3]; exact hf)]
  have tx : T1 x := (h1 x).mpr ⟨rfl, him⟩
  have g : GrP T1 H1 (upd H1 x (.ins C dx (fs ++ [(f, v)]))) := GrP.wr tx fun u hu => by
    rw [h2] at hu
    cases hu
    show imm (fs.map (·.1)) = false
    rw [h3]; exact him
  have ex : Ext T1 H1 (fun y => y = x ∧ imm ((ω1 ++ [(f, d)]).map (·.1)) = false) (upd H1 x (.ins C dx (fs ++ [(f, v)]))) := ⟨g, fun a z => .inl (by rw [z.1]; exact tx)⟩
  refine S.nx _ (ω1 ++ [(f, d)]) ρ σ _ (R1.world ex ⟨fun y => Iff.rfl, _, upd_same, ?_, ?_⟩) q1
  · rw [List.map_append, List.map_append, h3] <;> rfl
  · rw [List.map_append, List.map_append]
    have a1 : RepsA X.K (upd H1 x (.ins C dx (fs ++ [(f, v)]))) yes (ω1.map (·.2)) (fs.map (·.2)) := h4.ext g (fun _ _ => .inl trivial) fun _ _ => .inl trivial
    have a2 : RepA X.K (upd H1 x (.ins C dx (fs ++ [(f, v)]))) yes d v := ((show RepA X.K H1 _ d v from r1).any (S' := yes) hp).ext g (fun _ _ => .inl trivial) fun _ _ => .inl trivial
    exact reps_app a1 a2
def pfM (K : PySem.W.Frag) (C : Addr) (pf : PSp W0) (x dx : Addr) : PSp (WM K x C dx) := fun ω ds Q E => ω = [] ∧ ∃ args, ds = .adr x :: args ∧ pf () args (fun _ d => ∀ ns es, d = .ins C ns es → ns.length = es.length → imm ns = true → Q (ns.zip es) .non) fun _ y => ∀ ω', E ω' y
def spMk (K : PySem.W.Frag) (C : Addr) (pf : PSp W0) : Sp := fun vs H Q E => ∃ x dx : Addr, spM .A K (WM K x C dx) (pfM K C pf x dx) vs H Q E
theorem FnOk_mk {P : Program} {w : World} {mg : Str → Option Value} {base : Heap} {CX : CXT} {k : Nat} {g : Addr} {fd : FuncData} {ps : List Str} {pf : PSp W0} (h : ∀ x dx : Addr, FnOk P w K mg base CX k g fd ps (spM .A K (WM K x C dx) (pfM K C pf x dx))) : FnOk P w K mg base CX k g fd ps (spMk K C pf) :=
  ⟨fun vs H Q E ⟨x, dx, q⟩ => (h x dx).len vs H Q E q, fun A outer s H args us vs Q E hr e0 hb r ⟨x, dx, q⟩ => (h x dx).run A outer s H args us vs Q E hr e0 hb r q⟩
def Mono (pf : PSp W0) : Prop := ∀ (ds : List D) (Q Q' : Unit → D → Prop) (E E' : Unit → Exn → Prop), pf () ds Q E → (∀ d, Q () d → Q' () d) → (∀ y, E () y → E' () y) → pf () ds Q' E'
theorem mkp_of {pf : PSp W0} (hm : Mono pf) : MkP K C (spMk K C pf) pf where
  run := by
    intro S T ds vs H Q E Qp Ep hS r q k kx x dx nx ndx ne
    have mx : mkHp H x dx C x = some (.ins C dx []) := upd_same
    have g0 : GrP nop H (mkHp H x dx C) := ((Gr.made (C := C) nx ndx).p0)
    refine ⟨x, dx, S, (fun y => y = x), [], .adr x :: ds, fun ω' d => d = .non ∧ imm (ω'.map (·.1)) = true ∧ Qp () (.ins C (ω'.map (·.1)) (ω'.map (·.2))), fun _ y => Ep () y, fun a s => ⟨fun z => hS a s (g0.live a z), fun z => hS a s (by rw [z]; exact nx)⟩, ⟨fun y => ⟨fun z => ⟨z, by decide⟩, fun z => z.1⟩, [], mx, rfl, .nil⟩, .cons (.adr x) (r.ext g0 (fun _ z => z.elim) fun a z => z.imp id fun z => by rw [z]; exact nx), ⟨rfl, ds, rfl, hm ds Qp _ Ep _ q (fun d hd ns es e hl hi => ?_) fun y hy _ => hy⟩, ?_, ?_⟩
    · subst e
      exact ⟨rfl, by rw [zip_fst hl]; exact hi, by rw [zip_fst hl, zip_snd hl]; exact hd⟩
    · intro T' ω' d v H' ex hi rt ⟨ed, him, hq⟩
      subst ed
      obtain ⟨h1, fs, h2, h3, h4⟩ := hi
      have hv : v = .non := RC.non (os := []) (.inl (.inl (show RepA K H' _ .non v from rt)))
      refine ⟨hv, k (.ins C (ω'.map (·.1)) (ω'.map (·.2))) (.ref x) H' ⟨fun a u hu _ => ex.gr.keep a u (g0.keep a u hu (.inr fun z => z)) (.inr fun z => ?_), fun a z => g0.live a (ex.gr.live a z)⟩ (.ins (dx := dx) (xs := fs.map (·.2)) ?_ him (by rw [List.length_map, List.length_map]) (h4.less fun _ _ => trivial)) hq⟩
      · rw [z] at hu
        rw [nx] at hu
        cases hu
      · rw [← h3, zip_self]; exact h2
    · intro T' ω' y cls dd H' ex hi xr hy
      refine kx y cls dd H' ⟨fun a u hu _ => ex.gr.keep a u (g0.keep a u hu (.inr fun z => z)) (.inr fun z => ?_), fun a z => g0.live a (ex.gr.live a z)⟩ xr hy
      rw [z] at hu
      rw [nx] at hu
      cases hu
end
section
variable {K : PySem.W.Frag} {x C dx : Addr} {f : Str} {i : Nat} {qa : QT (WM K x C dx)} {P : PEn (WM K x C dx)} {ω : List (Str × D)} {ρ : List Sl} {d : D}
def kFset (x : Addr) (i : Nat) (f : Str) (P : PEn (WM K x C dx)) (ρ : List Sl) (ω1 : List (Str × D)) (d : D) : Prop := ρ[i]? = some (.va (.adr x)) ∧ d.pure = true ∧ f ∉ ω1.map (·.1) ∧ imm (ω1.map (·.1)) = false ∧ ω1.length < 1000 ∧ P.nx (ω1 ++ [(f, d)]) ρ
theorem v_fset (h : qa ω ρ (fun ω1 d => kFset x i f P ρ ω1 d) fun ω1 y => P.ex ω1 y ρ) : sFset x i f qa P ω ρ := h
theorem v_kFset (h1 : ρ[i]? = some (.va (.adr x))) (h2 : d.pure = true) (h3 : f ∉ ω.map (·.1)) (h4 : imm (ω.map (·.1)) = false) (h5 : ω.length < 1000) (h : P.nx (ω ++ [(f, d)]) ρ) : kFset x i f P ρ ω d := ⟨h1, h2, h3, h4, h5, h⟩
end
end LW
namespace LW
open PySem PySem.Spec PyProof.Rows L2
def pureL {W : Wrl} (pf : PSp W) : PSp W := fun ω ds Q E => pf ω ds (fun ω' d => (∃ es, d = .lst es ∧ D.pures es = true) ∧ Q ω' d) E
section
variable {K : PySem.W.Frag} {W : Wrl} {Wo : WX} {mr m : Md} {pf : PSp W} {qs : QTA W}
end
section
variable {X : Cx} {W : Wrl} {Wo : WX} {mr m m1 m2 : Md} {pf : PSp W} {qs : QTA W} {k : Nat} {f C : Addr} {fd : FuncData} {ps : List Str} {x mn : Str} {p pos apos : Pos} {e : Expr} {es : List Expr}
theorem v_pureL {ω : W.Ω} {ds : List D} {Q : W.Ω → D → Prop} {E : W.Ω → Exn → Prop} (h : pf ω ds (fun ω' d => (∃ es, d = .lst es ∧ D.pures es = true) ∧ Q ω' d) E) : pureL pf ω ds Q E := h
end
end LW
namespace LW
open PySem PySem.Spec PyProof.Rows L2
def dBls (bs : List Bool) : List D := bs.map D.bl
def fInB (d e : D) (Q : D → Prop) : Prop := ∃ (bs : List Bool) (b : Bool), d = .bl b ∧ e = .lst (dBls bs) ∧ Q (.bl (decide (b ∈ bs)))
theorem v_inB {bs : List Bool} {b : Bool} {Q1 : D → Prop} (h : Q1 (.bl (decide (b ∈ bs)))) : fInB (.bl b) (.lst (dBls bs)) Q1 := ⟨bs, b, rfl, rfl, h⟩
def fEqLB (d e : D) (Q : D → Prop) : Prop := ∃ a b : List Bool, d = .lst (dBls a) ∧ e = .lst (dBls b) ∧ Q (.bl (decide (a = b)))
theorem v_eqLB {a b : List Bool} {Q1 : D → Prop} (h : Q1 (.bl (decide (a = b)))) : fEqLB (.lst (dBls a)) (.lst (dBls b)) Q1 := ⟨a, b, rfl, rfl, h⟩
end LW
namespace LW
open PySem PySem.Spec PyProof.Rows L2
inductive MO
  | ml (ds : List D)
  | mk (kvs : List (Key × D))
  | mn (kvs : List (NestedKey × D))
  | mi (C : Addr) (fs : List (Str × D))
abbrev Sto := Addr → Option MO
def noSto : Sto := fun _ => none
def Sto.put (st : Sto) (a : Addr) (m : MO) : Sto := fun b => if b = a then some m else st b
section
variable {st : Sto} {a b : Addr} {m m' : MO} {o : Option MO}
theorem Sto.same : (st.put a m) a = some m := by unfold Sto.put; rw [if_pos rfl]
theorem Sto.ne (h : b ≠ a) (h2 : st b = o) : (st.put a m) b = o := by unfold Sto.put; rw [if_neg h]; exact h2
end
def kD : NestedKey → D
  | .none => .non
  | .num i => .int i
  | .text x => .str x
  | .tup ks => .tup (kDs ks)
where kDs : List NestedKey → List D
  | [] => []
  | k :: ks => kD k :: kDs ks
def DN (P : Program) (w : World) (d : Addr) (es : List (NestedKey × Addr × V)) : Heap → Prop := fun h => es.length ≤ sizeLine ∧ (d == sysModules) = false ∧
  ∃ xs : List (NestedKey × Addr × Value), Paired (fun (p : NestedKey × Addr × V) (q : NestedKey × Addr × Value) => p.1 = q.1 ∧ p.2.1 = q.2.1 ∧ RelV p.2.2 q.2.2) es xs ∧
    ∃ o ents ep, h.get? d = some o ∧ o.ExactDict ∧ o.data = .dict ents ep ∧ ents.toList = xs.map (entryOfKey (nestedKind P w)) ∧ (xs.map (·.1)).Nodup
inductive AsR {κ : Type} (K : PySem.W.Frag) (H : Hp) : List (κ × D) → List (κ × V) → Prop
  | nil : AsR K H [] []
  | cons {n : κ} {d : D} {v : V} {fs : List (κ × D)} {gs : List (κ × V)} : RepA K H yes d v → AsR K H fs gs → AsR K H ((n, d) :: fs) ((n, v) :: gs)
def MOk (P : Program) (w : World) (K : PySem.W.Frag) (H : Hp) (a : Addr) : MO → Prop
  | .ml ds => ∃ xs, H a = some (.lst xs) ∧ RepsA K H yes ds xs
  | .mk kvs => ∃ vs : List (Key × V), H a = some (.dK vs) ∧ AsR K H kvs vs
  | .mn kvs => ∃ es : List (NestedKey × Addr × V), H a = some (.ext (DN P w a es)) ∧ AsR K H kvs (es.map fun e => (e.1, e.2.2)) ∧ ∀ e ∈ es, RepA K H yes (kD e.1) (.ref e.2.1) ∧ e.1.depth ≤ 8
  | .mi C fs => ∃ dx gs, H a = some (.ins C dx gs) ∧ imm (fs.map (·.1)) = false ∧ AsR K H fs gs
section
variable {P : Program} {w : World} {K : PySem.W.Frag} {H H' : Hp} {a : Addr} {m : MO} {U : ASet}
theorem RepA.extY {d : D} {v : V} (h : RepA K H yes d v) (g : GrP U H H') : RepA K H' yes d v := h.ext g (fun _ _ => .inl trivial) fun _ _ => .inl trivial
theorem RepsA.extY {ds : List D} {vs : List V} (h : RepsA K H yes ds vs) (g : GrP U H H') : RepsA K H' yes ds vs := h.ext g (fun _ _ => .inl trivial) fun _ _ => .inl trivial
theorem AsR.extY {κ : Type} {fs : List (κ × D)} {gs : List (κ × V)} (h : AsR K H fs gs) (g : GrP U H H') : AsR K H' fs gs := by
  induction h with
  | nil => exact .nil
  | cons r _ ih => exact .cons (r.extY g) ih
theorem AsR.keys {κ : Type} {fs : List (κ × D)} {gs : List (κ × V)} (h : AsR K H fs gs) : gs.map (·.1) = fs.map (·.1) := by
  induction h with
  | nil => rfl
  | cons r _ ih => rw [List.map_cons, List.map_cons, ih]
theorem AsR.len {κ : Type} {fs : List (κ × D)} {gs : List (κ × V)} (h : AsR K H fs gs) : gs.length = fs.length := by
  have := congrArg List.length h.keys
  rwa [List.length_map, List.length_map] at this
theorem AsR.lookup {fs : List (Str × D)} {gs : List (Str × V)} {f : Str} {d : D} (h : AsR K H fs gs) (e : fs.lookup f = some d) : ∃ v, gs.lookup f = some v ∧ RepA K H yes d v := by
  induction h with
  | nil => cases e
  | cons r _ ih =>
    rw [List.lookup_cons] at e ⊢
    split at e
    · cases e
      exact ⟨_, rfl, r⟩
    · exact ih e
theorem AsR.none {fs : List (Str × D)} {gs : List (Str × V)} {f : Str} (h : AsR K H fs gs) (e : fs.lookup f = none) : gs.lookup f = none := by
  induction h with
  | nil => rfl
  | cons r _ ih =>
    rw [List.lookup_cons] at e ⊢
    split at e
    · cases e
    · exact ih e
def putD (f : Str) (d : D) : List (Str × D) → List (Str × D)
  | [] => [(f, d)]
  | (g, x) :: r => if g = f then (g, d) :: r else (g, x) :: putD f d r
theorem AsR.put {fs : List (Str × D)} {gs : List (Str × V)} {f : Str} {d : D} {v : V} (h : AsR K H fs gs) (r : RepA K H yes d v) : AsR K H (putD f d fs) (putF f v gs) := by
  induction h with
  | nil => exact .cons r .nil
  | @cons n d' v' fs gs r' h ih =>
    show AsR K H (if n = f then (n, d) :: fs else (n, d') :: putD f d fs) (if n = f then (n, v) :: gs else (n, v') :: putF f v gs)
    by_cases z : n = f
    · rw [if_pos z, if_pos z]
      exact .cons r h
    · rw [if_neg z, if_neg z]
      exact .cons r' ih
theorem MOk.at (h : MOk P w K H a m) : ∃ o, H a = some o ∧ pers o = false := by
  cases m with
  | ml ds => obtain ⟨xs, h, _⟩ := h; exact ⟨_, h, rfl⟩
  | mk kvs => obtain ⟨vs, h, _⟩ := h; exact ⟨_, h, rfl⟩
  | mn kvs => obtain ⟨es, h, _⟩ := h; exact ⟨_, h, rfl⟩
  | mi C fs =>
    obtain ⟨dx, gs, h, h3, r⟩ := h
    refine ⟨_, h, ?_⟩
    show imm (gs.map (·.1)) = false
    rw [r.keys]
    exact h3
theorem MOk.ext (h : MOk P w K H a m) (g : GrP U H H') (hu : ¬ U a) : MOk P w K H' a m := by
  have k : ∀ o, H a = some o → H' a = some o := fun o e => g.keep a o e (.inr hu)
  cases m with
  | ml ds => obtain ⟨xs, h, r⟩ := h; exact ⟨xs, k _ h, r.extY g⟩
  | mk kvs => obtain ⟨vs, h, r⟩ := h; exact ⟨vs, k _ h, r.extY g⟩
  | mn kvs => obtain ⟨es, h, r, q⟩ := h; exact ⟨es, k _ h, r.extY g, fun x hx => ⟨(q x hx).1.extY g, (q x hx).2⟩⟩
  | mi C fs => obtain ⟨dx, gs, h, h3, r⟩ := h; exact ⟨dx, gs, k _ h, h3, r.extY g⟩
end
def invS (P : Program) (w : World) (K : PySem.W.Frag) (W : Wrl) (ω : W.Ω × Sto) (T : ASet) (H : Hp) : Prop := ∃ T1 : ASet, W.inv ω.1 T1 H ∧ (∀ a, T a ↔ (T1 a ∨ ∃ m, ω.2 a = some m)) ∧ (∀ a, T1 a → ω.2 a = none) ∧ ∀ a m, ω.2 a = some m → MOk P w K H a m
@[reducible] def WS (P : Program) (w : World) (K : PySem.W.Frag) (W : Wrl) : Wrl where
  Ω := W.Ω × Sto
  inv := invS P w K W
  st := by
    intro ω T U H H' ⟨T1, h1, h2, h3, h4⟩ g hU
    exact ⟨T1, W.st h1 g fun a u t => hU a u ((h2 a).mpr (.inl t)), h2, h3, fun a m e => (h4 a m e).ext g fun u => hU a u ((h2 a).mpr (.inr ⟨m, e⟩))⟩
  lv := by
    intro ω T H a ⟨T1, h1, h2, h3, h4⟩ t
    rcases (h2 a).mp t with t | ⟨m, e⟩
    · exact W.lv h1 t
    · exact (h4 a m e).at
section
variable {P : Program} {w : World} {K : PySem.W.Frag} {W : Wrl} {F : Frm} {T T0 : ASet} {ω ω0 : W.Ω × Sto} {ρ : List Sl} {σ : L2.St} {H H0 : Hp} {a l : Addr} {m m' : MO} {o : HO} {ds : List D}
theorem WS.ok (R : Rel K (WS P w K W) F T ω ρ σ H) (h : ω.2 a = some m) : MOk P w K H a m := R.inv.choose_spec.2.2.2 a m h
theorem WS.mem (R : Rel K (WS P w K W) F T ω ρ σ H) (h : ω.2 a = some m) : T a := (R.inv.choose_spec.2.1 a).mpr (.inr ⟨m, h⟩)
theorem WS.out (R : Rel K (WS P w K W) F T ω ρ σ H) (h : ¬ T a) : ω.2 a = none := by
  cases e : ω.2 a with
  | none => rfl
  | some m => exact absurd (WS.mem R e) h
theorem WS.write (R : Rel K (WS P w K W) F T ω ρ σ H) (h : ω.2 a = some m) (h' : MOk P w K (upd H a o) a m') : Rel K (WS P w K W) F T (ω.1, ω.2.put a m') ρ σ (upd H a o) ∧ Ext T H T (upd H a o) := by
  have ta := WS.mem R h
  obtain ⟨u, hu, pu⟩ := (WS.ok R h).at
  have g1 : GrP (fun b => b = a) H (upd H a o) := GrP.wr rfl fun v hv => by rw [hu] at hv; cases hv; exact pu
  have g : GrP T H (upd H a o) := g1.mono fun b z => by rw [z]; exact ta
  have e : Ext T H T (upd H a o) := ⟨g, fun b z => .inl z⟩
  obtain ⟨T1, h1, h2, h3, h4⟩ := R.inv
  refine ⟨R.world e ⟨T1, W.st h1 g1 fun b z t => ?_, fun b => ?_, fun b t => ?_, fun b n hb => ?_⟩, e⟩
  · rw [z] at t
    rw [h3 a t] at h; cases h
  · rw [h2 b]
    constructor
    · rintro (z | ⟨n, z⟩)
      · exact .inl z
      · by_cases q : b = a
        · exact .inr ⟨m', by rw [q]; exact Sto.same⟩
        · exact .inr ⟨n, Sto.ne q z⟩
    · rintro (z | ⟨n, z⟩)
      · exact .inl z
      · by_cases q : b = a
        · exact .inr ⟨m, by rw [q]; exact h⟩
        · exact .inr ⟨n, by rw [← z]; exact (Sto.ne q rfl).symm⟩
  · have q : b ≠ a := fun z => by rw [z] at t; rw [h3 a t] at h; cases h
    exact Sto.ne q (h3 b t)
  · by_cases q : b = a
    · subst q
      have := (Sto.same (st := ω.2) (a := b) (m := m')).symm.trans hb
      cases this
      exact h'
    · exact (h4 b n (by rw [← hb]; exact (Sto.ne q rfl).symm)).ext g1 q
theorem WS.inv_new (i : (WS P w K W).inv ω T H) (hl : ¬ T l) (h : MOk P w K H l m) : (WS P w K W).inv (ω.1, ω.2.put l m) (fun a => T a ∨ a = l) H := by
  obtain ⟨T1, h1, h2, h3, h4⟩ := i
  have nl : ¬ T1 l := fun t => hl ((h2 l).mpr (.inl t))
  refine ⟨T1, h1, fun b => ?_, fun b t => ?_, fun b n hb => ?_⟩
  · show (T b ∨ b = l) ↔ _
    rw [h2 b]
    constructor
    · rintro ((z | ⟨n, z⟩) | z)
      · exact .inl z
      · have q : b ≠ l := fun y => hl ((h2 l).mpr (.inr ⟨n, by rw [← y]; exact z⟩))
        exact .inr ⟨n, Sto.ne q z⟩
      · exact .inr ⟨m, by rw [z]; exact Sto.same⟩
    · rintro (z | ⟨n, z⟩)
      · exact .inl (.inl z)
      · by_cases q : b = l
        · exact .inr q
        · exact .inl (.inr ⟨n, by rw [← z]; exact (Sto.ne q rfl).symm⟩)
  · exact Sto.ne (fun z => nl (z ▸ t)) (h3 b t)
  · by_cases q : b = l
    · subst q
      have := (Sto.same (st := ω.2) (a := b) (m := m)).symm.trans hb
      cases this
      exact h
    · exact h4 b n (by rw [← hb]; exact (Sto.ne q rfl).symm)
theorem Rel.come {W : Wrl} {ω0 ω ω' : W.Ω} (R0 : Rel K W F T0 ω0 ρ σ H0) (R : Rel K W F T ω ρ σ H) (e : Ext T0 H0 T H) (h0 : H0 l = none) (hs : ¬ Spr F T ρ l) (i : W.inv ω' (fun a => T a ∨ a = l) H) : Rel K W F (fun a => T a ∨ a = l) ω' ρ σ H ∧ Ext T0 H0 (fun a => T a ∨ a = l) H := by
  have ee : ∀ a, Spr F (fun a => T a ∨ a = l) ρ a → Spr F T0 ρ a ∨ H0 a = none := fun a z => by
    rcases z with z | (z | z) | z
    · exact .inl (.inl z)
    · exact (e.tn a z).imp (fun z => .inr (.inl z)) id
    · rw [z]; exact .inr h0
    · exact .inl (.inr (.inr z))
  refine ⟨⟨R.gr, i, fun a z => ?_, fun k hk => ⟨(R.own k hk).1, fun z => ?_, (R.own k hk).2.2⟩, R.nd, fun a z => ⟨(R.s0 a z).1, fun t => ?_⟩, fun p hp => ?_, ?_⟩, ⟨e.gr, fun a z => ?_⟩⟩
  · rcases z with z | z
    · exact R.tn a z
    · rw [z]; exact .inr (R0.gr.live l h0)
  · rcases z with z | z
    · exact (R.own k hk).2.1 z
    · exact hs (.inr (.inr (z ▸ hk)))
  · rcases t with t | t
    · exact (R.s0 a z).2 t
    · exact hs (.inl (t ▸ z))
  · exact (R0.hd p hp).ext e.gr (fun a t => .inl (.inr (.inl t))) ee
  · exact R0.sl.ext e.gr (fun a t => .inl (.inr (.inl t))) ee fun l h => (R0.own l h).2.1
  · rcases z with z | z
    · exact e.tn a z
    · rw [z]; exact .inr h0
theorem WS.add (R : Rel K (WS P w K W) F T ω ρ σ H) (h0 : H l = none) (ho : MOk P w K (upd H l o) l m) : Rel K (WS P w K W) F (fun a => T a ∨ a = l) (ω.1, ω.2.put l m) ρ σ (upd H l o) ∧ Ext T H (fun a => T a ∨ a = l) (upd H l o) := by
  have g : GrP nop H (upd H l o) := GrP.new h0
  have R1 := R.grow g
  have hs := R.fresh h0
  exact Rel.come R R1 (Ext.of0 g) h0 hs (WS.inv_new R1.inv (fun t => hs (.inr (.inl t))) ho)
theorem set_self' {σ : L2.St} {i : Nat} {x : Option V} (h : σ[i]? = some x) : σ.set i x = σ := by
  refine List.ext_getElem? fun j => ?_
  rw [List.getElem?_set]
  split
  · rename_i z
    subst z
    split
    · rw [h]
    · rename_i z
      rw [List.getElem?_eq_none (by omega)] at h
      cases h
  · rfl
theorem WS.give {i : Nat} (R : Rel K (WS P w K W) F T ω ρ σ H) (e : ρ[i]? = some (.ow l ds)) (hp : D.pures ds = true) : ω.2 l = none ∧ Rel K (WS P w K W) F (fun a => T a ∨ a = l) (ω.1, ω.2.put l (.ml ds)) (ρ.set i (.va (.adr l))) σ H := by
  obtain ⟨hv, xs, h1, r⟩ := R.sl.get_ow e
  have mem := owns_mem e
  have nt := (R.own l mem).2.1
  have sub := owns_set_sub (s := .va (.adr l)) rfl (ρ := ρ) i
  have nl : l ∉ owns (ρ.set i (.va (.adr l))) := by
    have key : ∀ {ρ : List Sl} {i : Nat} {s : Sl}, s.plain = true → ρ[i]? = some (Sl.ow l ds) → (owns ρ).Nodup → l ∉ owns (ρ.set i s) := by
      intro ρ
      induction ρ with
      | nil => intro i s hs e n; simp at e
      | cons x r ih =>
        intro i s hs e n
        cases i with
        | zero =>
          simp at e
          subst e
          have n2 := List.nodup_cons.mp n
          cases s with
          | ow a b => cases hs
          | no => exact n2.1
          | va d => exact n2.1
          | ex a dd x => exact n2.1
        | succ i =>
          have e' : r[i]? = some (Sl.ow l ds) := by simpa using e
          cases x with
          | no => exact ih (i := i) hs e' n
          | va d => exact ih (i := i) hs e' n
          | ex a dd x => exact ih (i := i) hs e' n
          | ow k es =>
            have n2 := List.nodup_cons.mp n
            intro h
            rcases List.mem_cons.mp h with z | z
            · exact n2.1 (z ▸ owns_mem e')
            · exact ih (i := i) hs e' n2.2 z
    exact key rfl e R.nd
  have hσ : σ.set i (some (.ref l)) = σ := set_self' hv
  have eS : ∀ a, Spr F (fun a => T a ∨ a = l) (ρ.set i (.va (.adr l))) a → Spr F T ρ a := fun a z => by
    rcases z with z | (z | z) | z
    · exact .inl z
    · exact .inr (.inl z)
    · rw [z]; exact .inr (.inr mem)
    · exact .inr (.inr (sub.subset z))
  have s1 : SlsR K H (Spr F (fun a => T a ∨ a = l) (ρ.set i (.va (.adr l)))) ρ σ := R.sl.less eS
  have s2 := s1.set_va (d := .adr l) (v := .ref l) (.adr l) i
  rw [hσ] at s2
  refine ⟨WS.out R nt, ⟨R.gr, WS.inv_new R.inv nt ⟨xs, h1, r.any hp⟩, fun a z => ?_, fun k hk => ⟨(R.own k (sub.subset hk)).1, fun z => ?_, (R.own k (sub.subset hk)).2.2⟩, R.nd.sublist sub, fun a z => ⟨(R.s0 a z).1, fun t => ?_⟩, fun p hp => (R.hd p hp).less eS, s2⟩⟩
  · rcases z with z | z
    · exact R.tn a z
    · rw [z]; exact .inr (R.own l mem).1
  · rcases z with z | z
    · exact (R.own k (sub.subset hk)).2.1 z
    · exact nl (z ▸ hk)
  · rcases t with t | t
    · exact (R.s0 a z).2 t
    · exact (R.own l mem).2.2 (t ▸ z)
end
def locP (P : Program) (w : World) (K : PySem.W.Frag) {W : Wrl} (pf : PSp W) : PSp (WS P w K W) := fun ω ds Q E => ω.2 = noSto ∧ pf ω.1 ds (fun ω' d => ∀ st, Q (ω', st) d) fun ω' x => ∀ st, E (ω', st) x
section
variable {P : Program} {w : World} {K : PySem.W.Frag} {W : Wrl} {mr : Md}
theorem rt_less {F F' : Frm} {T T' : ASet} {H : Hp} {d : D} {v : V} (e : F'.H = F.H) (hS : ∀ a, (F'.S a ∨ T' a) → (F.S a ∨ T a)) (h : RT mr K F T H d v) : RT mr K F' T' H d v := by
  cases mr with
  | F =>
    obtain ⟨l, xs, es, h1, h2, h3, h4, h5, h6⟩ := h
    exact ⟨l, xs, es, h1, h2, by rw [e]; exact h3, fun z => h4 (hS l z), h5, h6.less fun a z => z.imp (hS a) id⟩
  | A => exact RepA.less (show RepA K H _ d v from h) hS
  | O => exact RepA.less (show RepA K H _ d v from h) hS
  | C => exact RepA.less (show RepA K H _ d v from h) hS
theorem pf_id {pf : PSp W} {ω : W.Ω} {ds : List D} {Qp : W.Ω → D → Prop} {Ep : W.Ω → Exn → Prop} (q : pf ω ds Qp Ep) : pf ω ds (fun ω' d => ∀ st : Sto, (fun ω' d => Qp ω'.1 d) ((ω', st) : W.Ω × Sto) d) fun ω' x => ∀ st : Sto, (fun ω' x => Ep ω'.1 x) ((ω', st) : W.Ω × Sto) x := by
  have e1 : (fun (ω' : W.Ω) (d : D) => ∀ st : Sto, (fun ω' d => Qp ω'.1 d) ((ω', st) : W.Ω × Sto) d) = Qp := by
    funext ω' d
    exact propext ⟨fun h => h noSto, fun h _ => h⟩
  have e2 : (fun (ω' : W.Ω) (x : Exn) => ∀ st : Sto, (fun ω' x => Ep ω'.1 x) ((ω', st) : W.Ω × Sto) x) = Ep := by
    funext ω' d
    exact propext ⟨fun h => h noSto, fun h _ => h⟩
  rw [e1, e2]
  exact q
theorem spM_loc {pf : PSp W} {vs : List V} {H : Hp} {Q : VK} {E : XK} (h : spM mr K W pf vs H Q E) : spM mr K (WS P w K W) (locP P w K pf) vs H Q E := by
  obtain ⟨S, T, ω, ds, Qp, Ep, hS, hi, r, q, k, kx⟩ := h
  have back : ∀ {T' ω' H'}, Ext T H T' H' → (WS P w K W).inv ω' T' H' → ∃ T1, Ext T H T1 H' ∧ W.inv ω'.1 T1 H' ∧ ∀ a, T1 a → T' a := fun {T' ω' H'} e ⟨T1, h1, h2, h3, h4⟩ => ⟨T1, ⟨e.gr, fun a t => e.tn a ((h2 a).mpr (.inl t))⟩, h1, fun a t => (h2 a).mpr (.inl t)⟩
  refine ⟨S, T, (ω, noSto), ds, fun ω' d => Qp ω'.1 d, fun ω' x => Ep ω'.1 x, hS, ⟨T, hi, fun a => ⟨.inl, fun z => z.elim id fun ⟨m, z⟩ => nomatch z⟩, fun _ _ => rfl, fun a m z => nomatch z⟩, r, ⟨rfl, pf_id q⟩, fun T' ω' d v H' e i' rt q' => ?_, fun T' ω' x cls dd H' e i' xr q' => ?_⟩
  · obtain ⟨T1, e1, i1, sub⟩ := back e i'
    exact k T1 ω'.1 d v H' e1 i1 (rt_less rfl (fun a z => z.imp id (sub a)) rt) q'
  · obtain ⟨T1, e1, i1, sub⟩ := back e i'
    exact kx T1 ω'.1 x cls dd H' e1 i1 xr q'
variable {mg : Str → Option Value} {base : Heap} {CX : CXT} {k : Nat} {f : Addr} {fd : FuncData} {ps : List Str}
theorem FnOk.loc {pf : PSp W} (F : FnOk P w K mg base CX k f fd ps (spM mr K (WS P w K W) (locP P w K pf))) : FnOk P w K mg base CX k f fd ps (spM mr K W pf) := F.imp fun _ _ _ _ => spM_loc
end
end LW
namespace LW
open PySem PySem.Spec PyProof.Rows L2
section
variable {X : Cx} {P : Program} {w : World} {K : PySem.W.Frag} {W : Wrl} {Wo : WX} {m m1 m2 m3 : Md} {mr : Md} {a b c e o : Expr} {es : List Expr} {i : Nat} {pos pos' p apos p' : Pos} {q qa qb qc qo qk : QT (WS P w K W)} {qs : QTA (WS P w K W)} {fn : Str} {C f : Addr} {k : Nat} {x mn : Str}
def kDer (st : Sto) (d : D) (R : D → Prop) : Prop := ∃ d', (d' = d ∨ ∃ l ds, d = .adr l ∧ st l = some (.ml ds) ∧ d' = .lst ds) ∧ R d'
theorem v_der0 {st : Sto} {d : D} {R : D → Prop} (h : R d) : kDer st d R := ⟨d, .inl rfl, h⟩
theorem v_derL {st : Sto} {l : Addr} {ds : List D} {R : D → Prop} (h1 : st l = some (.ml ds)) (h : R (.lst ds)) : kDer st (.adr l) R := ⟨_, .inr ⟨l, ds, rfl, h1, rfl⟩, h⟩
def Der (st : Sto) (d d' : D) : Prop := d' = d ∨ ∃ l ds, d = .adr l ∧ st l = some (.ml ds) ∧ d' = .lst ds
section
variable {H : Hp} {S : ASet} {os os' : List Addr} {d d' : D} {v : V} {st : Sto}
theorem RO.up (h : ∀ a, a ∈ os → a ∈ os') (r : RO K H S os d v) : RO K H S os' d v := by
  rcases r with r | ⟨l, xs, ds, e1, e2, hl, r⟩
  · exact .inl r
  · exact .inr ⟨l, xs, ds, e1, e2, h l hl, r⟩
theorem RC.up (h : ∀ a, a ∈ os → a ∈ os') (r : RC K H S os d v) : RC K H S os' d v := by
  rcases r with r | r
  · exact .inl (RO.up h r)
  · exact .inr r
inductive Ders (st : Sto) : List D → List D → Prop
  | nil : Ders st [] []
  | cons {d d' : D} {ds ds' : List D} : Der st d d' → Ders st ds ds' → Ders st (d :: ds) (d' :: ds')
def Md.co (m : Md) : Bool := match m with
  | .O => true
  | .C => true
  | _ => false
end
def kDers (st : Sto) (ds : List D) (R : List D → Prop) : Prop := ∃ ds', Ders st ds ds' ∧ R ds'
theorem v_ders0 {st : Sto} {R : List D → Prop} (h : R []) : kDers st [] R := ⟨[], .nil, h⟩
theorem v_ders {st : Sto} {d : D} {ds : List D} {R : List D → Prop} (h : kDer st d fun d' => kDers st ds fun ds' => R (d' :: ds')) : kDers st (d :: ds) R := by
  obtain ⟨d', h1, ds', h2, h3⟩ := h
  exact ⟨d' :: ds', .cons h1 h2, h3⟩
def qOpS (f : D → D → (D → Prop) → Prop) (qa qb : QT (WS P w K W)) : QT (WS P w K W) := fun ω ρ Q E => qa ω ρ (fun ω1 x => qb ω1 ρ (fun ω2 y => kDer ω2.2 x fun x' => kDer ω2.2 y fun y' => f x' y' (Q ω2)) E) E
def qCaS (f : List D → (D → Prop) → Prop) (qs : QTA (WS P w K W)) : QT (WS P w K W) := fun ω ρ Q E => qs ω ρ (fun ω1 xs => kDers ω1.2 xs fun ys => f ys (Q ω1)) E
def qNew (q : QT (WS P w K W)) : QT (WS P w K W) := fun ω ρ Q E => q ω ρ (fun ω1 d => ∃ ds, d = .lst ds ∧ D.pures ds = true ∧ ∀ l, ω1.2 l = none → Q (ω1.1, ω1.2.put l (.ml ds)) (.adr l)) E
def kFldS (C : Addr) (fn : Str) (st : Sto) (d : D) (R : D → Prop) : Prop := ∃ a fs x, d = .adr a ∧ st a = some (.mi C fs) ∧ fs.lookup fn = some x ∧ R x
def qFldS (C : Addr) (fn : Str) (qa : QT (WS P w K W)) : QT (WS P w K W) := fun ω ρ Q E => qa ω ρ (fun ω1 d => kFldS C fn ω1.2 d (Q ω1)) E
def kFstS (C : Addr) (fn : Str) (P' : PEn (WS P w K W)) (ρ : List Sl) (d : D) (ω2 : W.Ω × Sto) (x : D) : Prop := ∃ a fs, x = .adr a ∧ ω2.2 a = some (.mi C fs) ∧ d.pure = true ∧ imm ((putD fn d fs).map (·.1)) = false ∧ fs.length < 1000 ∧ P'.nx (ω2.1, ω2.2.put a (.mi C (putD fn d fs))) ρ
def sFstS (C : Addr) (fn : Str) (qo qa : QT (WS P w K W)) : QTS (WS P w K W) := fun P' ω ρ => qa ω ρ (fun ω1 d => qo ω1 ρ (fun ω2 x => kFstS C fn P' ρ d ω2 x) fun ω' y => P'.ex ω' y ρ) fun ω' y => P'.ex ω' y ρ
def kAppS (P' : PEn (WS P w K W)) (ρ : List Sl) (l : Addr) (ω2 : W.Ω × Sto) (d : D) : Prop := ∃ ds, ω2.2 l = some (.ml ds) ∧ d.pure = true ∧ ds.length < 1000000 ∧ P'.nx (ω2.1, ω2.2.put l (.ml (ds ++ [d]))) ρ
def sAppS (qo qa : QT (WS P w K W)) : QTS (WS P w K W) := fun P' ω ρ => qo ω ρ (fun ω1 x => ∃ l ds, x = .adr l ∧ ω1.2 l = some (.ml ds) ∧ qa ω1 ρ (fun ω2 d => kAppS P' ρ l ω2 d) fun ω' y => P'.ex ω' y ρ) fun ω' y => P'.ex ω' y ρ
def kPutS (P' : PEn (WS P w K W)) (ρ : List Sl) (d : D) (l : Addr) (ω3 : W.Ω × Sto) (y : D) : Prop := ∃ ds n j, ω3.2 l = some (.ml ds) ∧ y = .int n ∧ ixN ds.length n = some j ∧ d.pure = true ∧ P'.nx (ω3.1, ω3.2.put l (.ml (ds.set j d))) ρ
def sPutS (qo qk qa : QT (WS P w K W)) : QTS (WS P w K W) := fun P' ω ρ => qa ω ρ (fun ω1 d => qo ω1 ρ (fun ω2 x => ∃ l, x = .adr l ∧ qk ω2 ρ (fun ω3 y => kPutS P' ρ d l ω3 y) fun ω' y => P'.ex ω' y ρ) fun ω' y => P'.ex ω' y ρ) fun ω' y => P'.ex ω' y ρ
theorem mk_grow {H : Hp} {x dx C : Addr} (nx : H x = none) (ndx : H dx = none) : GrP nop H (mkHp H x dx C) := (Gr.made (C := C) nx ndx).p0
theorem WS.made {K : PySem.W.Frag} {F : Frm} {T : ASet} {ω : W.Ω × Sto} {ρ : List Sl} {σ : L2.St} {H : Hp} {x dx C : Addr} (R : Rel K (WS P w K W) F T ω ρ σ H) (nx : H x = none) (ndx : H dx = none) : ω.2 x = none ∧ Rel K (WS P w K W) F (fun a => T a ∨ a = x) (ω.1, ω.2.put x (.mi C [])) ρ σ (mkHp H x dx C) ∧ Ext T H (fun a => T a ∨ a = x) (mkHp H x dx C) := by
  have g := mk_grow (C := C) nx ndx
  have R1 := R.grow g
  have hs := R.fresh nx
  refine ⟨WS.out R fun t => hs (.inr (.inl t)), Rel.come R R1 (Ext.of0 g) nx hs (WS.inv_new R1.inv (fun t => hs (.inr (.inl t))) ⟨dx, [], upd_same, by decide, .nil⟩)⟩
end
section
variable {P : Program} {w : World} {K : PySem.W.Frag} {W : Wrl} {q qa qb qc qo qk : QT (WS P w K W)} {qs : QTA (WS P w K W)} {ω : W.Ω × Sto} {ρ : List Sl} {Q : W.Ω × Sto → D → Prop} {E : W.Ω × Sto → Exn → Prop} {P' : PEn (WS P w K W)} {C : Addr} {fn mn : Str} {d x : D} {a l : Addr} {fs : List (Str × D)} {ds : List D} {R : D → Prop} {st : Sto}
theorem v_opS {f : D → D → (D → Prop) → Prop} (h : qa ω ρ (fun ω1 x => qb ω1 ρ (fun ω2 y => kDer ω2.2 x fun x' => kDer ω2.2 y fun y' => f x' y' (Q ω2)) E) E) : qOpS f qa qb ω ρ Q E := h
theorem v_caS {f : List D → (D → Prop) → Prop} (h : qs ω ρ (fun ω1 xs => kDers ω1.2 xs fun ys => f ys (Q ω1)) E) : qCaS f qs ω ρ Q E := h
theorem v_new (h : q ω ρ (fun ω1 d => ∃ ds, d = .lst ds ∧ D.pures ds = true ∧ ∀ l, ω1.2 l = none → Q (ω1.1, ω1.2.put l (.ml ds)) (.adr l)) E) : qNew q ω ρ Q E := h
theorem v_fldS (h : qa ω ρ (fun ω1 d => kFldS C fn ω1.2 d (Q ω1)) E) : qFldS C fn qa ω ρ Q E := h
theorem v_kFldS (h1 : st a = some (.mi C fs)) (h2 : fs.lookup fn = some x) (h : R x) : kFldS C fn st (.adr a) R := ⟨a, fs, x, rfl, h1, h2, h⟩
theorem v_fstS (h : qa ω ρ (fun ω1 d => qo ω1 ρ (fun ω2 x => kFstS C fn P' ρ d ω2 x) fun ω' y => P'.ex ω' y ρ) fun ω' y => P'.ex ω' y ρ) : sFstS C fn qo qa P' ω ρ := h
theorem v_appS (h : qo ω ρ (fun ω1 x => ∃ l ds, x = .adr l ∧ ω1.2 l = some (.ml ds) ∧ qa ω1 ρ (fun ω2 d => kAppS P' ρ l ω2 d) fun ω' y => P'.ex ω' y ρ) fun ω' y => P'.ex ω' y ρ) : sAppS qo qa P' ω ρ := h
theorem v_putS (h : qa ω ρ (fun ω1 d => qo ω1 ρ (fun ω2 x => ∃ l, x = .adr l ∧ qk ω2 ρ (fun ω3 y => kPutS P' ρ d l ω3 y) fun ω' y => P'.ex ω' y ρ) fun ω' y => P'.ex ω' y ρ) fun ω' y => P'.ex ω' y ρ) : sPutS qo qk qa P' ω ρ := h
end
end LW
namespace LW
open PySem PySem.Spec PyProof.Rows L2
section
variable {P : Program} {w : World} {K : PySem.W.Frag} {H H' : Hp} {h : Heap} {S : ASet}
mutual
theorem nested_of : ∀ (k : NestedKey) {v : V} {u : Value}, RepA K H S (kD k) v → HOk P w H h → RelV v u → NestedIs h k u
  | .none, _, _, r, ok, ru => by cases r; cases ru; exact .none
  | .num i, _, _, r, ok, ru => by cases r; obtain ⟨t, rfl⟩ := ru; exact .int i t
  | .text x, _, _, r, ok, ru => by cases r; obtain ⟨t, rfl⟩ := ru; exact .text x t
  | .tup ks, _, _, r, ok, ru => by
    cases r with
    | @tup a xs _ ht rs =>
      cases (show _ = Value.ref a from ru)
      obtain ⟨o, ho, _⟩ := ht
      obtain ⟨h1, h2, its, rv, o', h3, h4, n, h5⟩ := ok a _ ho
      exact .tup h3 h4 h5 (by rw [List.toList_toArray]; exact nested_all ks rs ok rv)
theorem nested_all : ∀ (ks : List NestedKey) {vs : List V} {us : List Value}, RepsA K H S (kD.kDs ks) vs → HOk P w H h → Vals vs us → NestedAll h ks us
  | [], _, _, r, ok, ru => by cases r; cases ru; exact .nil
  | k :: ks, _, _, r, ok, ru => by
    cases r with
    | cons r1 r2 =>
      cases ru with
      | cons u1 u2 => exact .cons (nested_of k r1 ok u1) (nested_all ks r2 ok u2)
end
def KeyAt (K : PySem.W.Frag) (H : Hp) (k : NestedKey) (b : Addr) : Prop := RepA K H yes (kD k) (.ref b) ∧ k.depth ≤ 8
theorem KeyAt.is (P : Program) (w : World) {k : NestedKey} {b : Addr} (h' : KeyAt K H k b) (ok : HOk P w H h) : (nestedKind P w).is h k b := ⟨nested_of k h'.1 ok rfl, h'.2⟩
theorem KeyAt.ext {U : ASet} {k : NestedKey} {b : Addr} (h : KeyAt K H k b) (g : GrP U H H') : KeyAt K H' k b := ⟨h.1.extY g, h.2⟩
abbrev Ents := List (NestedKey × Addr × V)
abbrev EV : Ents → List (NestedKey × Addr × Value) → Prop := Paired fun p q => p.1 = q.1 ∧ p.2.1 = q.2.1 ∧ RelV p.2.2 q.2.2
def atE (es : Ents) (k : NestedKey) : Option V := (es.find? fun x => decide (x.1 = k)).map (·.2.2)
theorem EV.val {es : Ents} {xs : List (NestedKey × Addr × Value)} (r : EV es xs) (k : NestedKey) : RelO (atE es k) ((atKey xs k).map (·.2)) := by
  unfold EV at r
  induction r with
  | nil => exact trivial
  | @cons p q ps qs hh t ih =>
    obtain ⟨h1, h2, h3⟩ := hh
    unfold atE atKey at ih ⊢
    rw [List.find?_cons, List.find?_cons, ← h1]
    by_cases e : p.1 = k
    · simp only [e, decide_true, Option.map_some]
      exact h3
    · simp only [e, decide_false]
      exact ih
theorem EV.some {es : Ents} {xs : List (NestedKey × Addr × Value)} (r : EV es xs) (k : NestedKey) : (atE es k).isSome = (atKey xs k).isSome := by
  have := (EV.val r k).isSome_eq
  rwa [Option.isSome_map] at this
def valN {κ : Type} [DecidableEq κ] (kvs : List (κ × D)) (k : κ) : Option D := (kvs.find? fun x => decide (x.1 = k)).map (·.2)
def putN {κ : Type} [DecidableEq κ] (kvs : List (κ × D)) (k : κ) (d : D) : List (κ × D) := if (valN kvs k).isSome then kvs.map (fun x => if x.1 = k then (x.1, d) else x) else kvs ++ [(k, d)]
end
section
variable {X : Cx} {P : Program} {w : World} {K : PySem.W.Frag} {W : Wrl} {Wo : WX} {m m1 m2 m3 mr : Md} {a b c e o ke : Expr} {pos pos' spos : Pos} {qa qb qc qo qk : QT (WS P w K W)}
def kInN (neg : Bool) (st : Sto) (x y : D) (R : D → Prop) : Prop := ∃ d kvs ks, y = .adr d ∧ st d = some (.mn kvs) ∧ x = kD (.tup ks) ∧ (NestedKey.tup ks).depth ≤ 8 ∧ R (.bl (if neg then !(valN kvs (.tup ks)).isSome else (valN kvs (.tup ks)).isSome))
def qInN (neg : Bool) (qa qb : QT (WS P w K W)) : QT (WS P w K W) := fun ω ρ Q E => qa ω ρ (fun ω1 x => qb ω1 ρ (fun ω2 y => kInN neg ω2.2 x y (Q ω2)) E) E
def kGetN (st : Sto) (x y : D) (R : D → Prop) : Prop := ∃ d kvs ks z, x = .adr d ∧ st d = some (.mn kvs) ∧ y = kD (.tup ks) ∧ (NestedKey.tup ks).depth ≤ 8 ∧ valN kvs (.tup ks) = some z ∧ R z
def qGetN (qa qb : QT (WS P w K W)) : QT (WS P w K W) := fun ω ρ Q E => qa ω ρ (fun ω1 x => qb ω1 ρ (fun ω2 y => kGetN ω2.2 x y (Q ω2)) E) E
def kSetN (P' : PEn (WS P w K W)) (ρ : List Sl) (d : D) (l : Addr) (ω3 : W.Ω × Sto) (y : D) : Prop := ∃ kvs ks, ω3.2 l = some (.mn kvs) ∧ y = kD (.tup ks) ∧ (NestedKey.tup ks).depth ≤ 8 ∧ d.pure = true ∧ kvs.length < 1000000 ∧ P'.nx (ω3.1, ω3.2.put l (.mn (putN kvs (.tup ks) d))) ρ
def sSetN (qo qk qa : QT (WS P w K W)) : QTS (WS P w K W) := fun P' ω ρ => qa ω ρ (fun ω1 d => qo ω1 ρ (fun ω2 x => ∃ l, x = .adr l ∧ qk ω2 ρ (fun ω3 y => kSetN P' ρ d l ω3 y) fun ω' y => P'.ex ω' y ρ) fun ω' y => P'.ex ω' y ρ) fun ω' y => P'.ex ω' y ρ
def kDisp1 (Q : W.Ω × Sto → D → Prop) (p : Addr) (x : D) (ω2 : W.Ω × Sto) (y : D) : Prop := ∃ ks, x = kD (.tup ks) ∧ (NestedKey.tup ks).depth ≤ 8 ∧ y.pure = true ∧ ω2.2 p = some (.mn []) ∧ Q (ω2.1, ω2.2.put p (.mn [(.tup ks, y)])) (.adr p)
def qDispN (qk qv : QT (WS P w K W)) : QT (WS P w K W) := fun ω ρ Q E => ∀ p, ω.2 p = none → qk (ω.1, ω.2.put p (.mn [])) ρ (fun ω1 x => qv ω1 ρ (fun ω2 y => kDisp1 Q p x ω2 y) E) E
end
section
variable {P : Program} {w : World} {K : PySem.W.Frag} {W : Wrl} {q qa qb qc qo qk : QT (WS P w K W)} {ω : W.Ω × Sto} {ρ : List Sl} {Q : W.Ω × Sto → D → Prop} {E : W.Ω × Sto → Exn → Prop} {P' : PEn (WS P w K W)} {d x y : D} {l : Addr} {R : D → Prop} {st : Sto} {neg : Bool} {kvs : List (NestedKey × D)} {ks : List NestedKey}
theorem v_inN (h : qa ω ρ (fun ω1 x => qb ω1 ρ (fun ω2 y => kInN neg ω2.2 x y (Q ω2)) E) E) : qInN neg qa qb ω ρ Q E := h
theorem v_getN (h : qa ω ρ (fun ω1 x => qb ω1 ρ (fun ω2 y => kGetN ω2.2 x y (Q ω2)) E) E) : qGetN qa qb ω ρ Q E := h
theorem v_setN (h : qa ω ρ (fun ω1 d => qo ω1 ρ (fun ω2 x => ∃ l, x = .adr l ∧ qk ω2 ρ (fun ω3 y => kSetN P' ρ d l ω3 y) fun ω' y => P'.ex ω' y ρ) fun ω' y => P'.ex ω' y ρ) fun ω' y => P'.ex ω' y ρ) : sSetN qo qk qa P' ω ρ := h
theorem v_exa {R : Addr → Prop} (h : R l) : ∃ l', D.adr l = .adr l' ∧ R l' := ⟨l, rfl, h⟩
theorem v_dispN {qv : QT (WS P w K W)} (h : ∀ p, ω.2 p = none → qk (ω.1, ω.2.put p (.mn [])) ρ (fun ω1 x => qv ω1 ρ (fun ω2 y => kDisp1 Q p x ω2 y) E) E) : qDispN qk qv ω ρ Q E := h
end
end LW
namespace LW
open PySem PySem.Spec PyProof.Rows L2
def SqB (K : PySem.W.Frag) : Bool → Hp → Addr → List V → Prop
  | true, H, a, xs => SqT K H a xs
  | false, H, a, xs => SqL K H a xs
def IterB : Bool → Heap → Addr → Addr → Nat → Prop
  | true, h, it, a, i => h.IsTupleIter it a i
  | false, h, it, a, i => h.IsListIter it a i
def SeqB : Bool → Heap → Addr → Array Value → Prop
  | true, h, a, its => h.IsTuple a its
  | false, h, a, its => h.IsList a its
theorem IterB.ob {b : Bool} {h : Heap} {it a : Addr} {i : Nat} (x : IterB b h it a i) : ∃ o vs, h.get? it = some o ∧ o.data = .fields vs := by
  cases b with
  | true => obtain ⟨o, ho, _, hd⟩ := (x : h.IsTupleIter it a i); exact ⟨o, _, ho, hd⟩
  | false => obtain ⟨o, ho, _, hd⟩ := (x : h.IsListIter it a i); exact ⟨o, _, ho, hd⟩
theorem IterB.at {b : Bool} {h h' : Heap} {it a : Addr} {i : Nat} (x : IterB b h it a i) (k : ∀ o, h.get? it = some o → h'.get? it = some o) : IterB b h' it a i := by
  cases b with
  | true => obtain ⟨o, ho, r⟩ := (x : h.IsTupleIter it a i); exact ⟨o, k o ho, r⟩
  | false => obtain ⟨o, ho, r⟩ := (x : h.IsListIter it a i); exact ⟨o, k o ho, r⟩
theorem SeqB.ob {b : Bool} {h : Heap} {a : Addr} {its : Array Value} (x : SeqB b h a its) : ∃ o n, h.get? a = some o ∧ o.data = .seq its n := by
  cases b with
  | true => obtain ⟨o, ho, _, n, hd⟩ := (x : h.IsTuple a its); exact ⟨o, n, ho, hd⟩
  | false => obtain ⟨o, ho, _, n, hd⟩ := (x : h.IsList a its); exact ⟨o, n, ho, hd⟩
theorem SeqB.at {b : Bool} {h h' : Heap} {a : Addr} {its : Array Value} (x : SeqB b h a its) (k : ∀ o, h.get? a = some o → h'.get? a = some o) : SeqB b h' a its := by
  cases b with
  | true => obtain ⟨o, ho, r⟩ := (x : h.IsTuple a its); exact ⟨o, k o ho, r⟩
  | false => obtain ⟨o, ho, r⟩ := (x : h.IsList a its); exact ⟨o, k o ho, r⟩
theorem drawsB {prog : Program} {w : World} {A : Around} (b : Bool) (hh : A.handled = none) (it a : Addr) (hne : a ≠ it) (its : Array Value) : Draws prog w A it [it, a] its.size (fun i v => its[i]? = some v) (fun i h => IterB b h it a i ∧ SeqB b h a its) := by
  cases b with
  | true => exact Draws.tuple hh it a hne its
  | false => exact Draws.list hh it a hne its
theorem drawsE {prog : Program} {w : World} {A : Around} (b : Bool) (hh : A.handled = none) (it a : Addr) (its : Array Value) (i : Nat) (hn : its[i]? = none) : Draws prog w A it [it, a] i (fun _ _ => True) (fun j h => j = i ∧ IterB b h it a i ∧ SeqB b h a its) where
  live := fun _ _ st => let ⟨o, _, ho, _⟩ := st.2.1.ob; ⟨o, ho⟩
  frame := fun _ _ _ st hk => ⟨st.1, st.2.1.at fun o e => hk it (by simp) o e, st.2.2.at fun o e => hk a (by simp) o e⟩
  item := fun j s Q E hj st _ => absurd st.1 (by omega)
  done := fun s Q E st hE => by
    cases b with
    | true => exact wpAny_nextOf_tuple_end hh st.2.1 st.2.2 hn hE
    | false => exact wpAny_nextOf_list_end hh st.2.1 st.2.2 hn hE
section
variable {X : Cx} {pins : List (Addr × Obj)} {σ : L2.St} {H : Hp} {s : Shared} {a : Addr} {xs ys : List V} {b : Bool}
theorem seqB (I : Inv X pins σ H s) (h : SqB X.K b H a xs) : ∃ its : List Value, Vals xs its ∧ SeqB b s.heap a its.toArray := by
  cases b with
  | true => obtain ⟨its, r, p, _⟩ := I.tuple h; exact ⟨its, r, p⟩
  | false => obtain ⟨its, r, p, _⟩ := I.list h; exact ⟨its, r, p.isList⟩
theorem injB (I : Inv X pins σ H s) (h : SqB X.K b H a xs) (h' : SqB X.K b H a ys) : xs = ys := by
  cases b with
  | true => exact I.tuple_inj h h'
  | false => exact I.list_inj h h'
end
def ItB (K : PySem.W.Frag) (b : Bool) (a : Addr) (k0 : Int) : It :=
  ⟨fun i H => ∃ (xs : List V) (x : V), SqB K b H a xs ∧ xs[i]? = some x, fun i H v H' => ∃ T x, v = .ref T ∧ H T = none ∧ H' = upd H T (.tup [.int (k0 + (i : Nat)), x]) ∧ ∀ xs, SqB K b H a xs → xs[i]? = some x, fun i H => ∃ xs : List V, SqB K b H a xs ∧ xs.length ≤ i⟩
theorem enum_apart {h : Heap} {e it : Addr} {c : Int} {old : Value} {a : Addr} {its : Array Value} {b : Bool} (he : IsEnum h e it c old) (p : SeqB b h a its) : a ≠ e := fun z => by
  obtain ⟨o, n, ho, hd⟩ := p.ob
  subst z
  have he' : h.get? a = some _ := he
  rw [ho] at he'
  cases he'
  cases hd
theorem iter_apart {h : Heap} {it a : Addr} {i : Nat} {its : Array Value} {b : Bool} (x : IterB b h it a i) (p : SeqB b h a its) : a ≠ it := fun z => by
  obtain ⟨o, n, ho, hd⟩ := p.ob
  obtain ⟨o', vs, ho', hd'⟩ := x.ob
  rw [z, ho'] at ho
  cases ho
  rw [hd'] at hd
  cases hd
theorem turn_enumB {P : Program} {w : World} {K : PySem.W.Frag} {elts : List Expr} {kk : Nat} {tpos : Pos} (b : Bool) (a e it : Addr) (k0 : Int) :
    Turn P w K (.Tuple elts kk tpos) (ItB K b a k0) [e, it] e (fun i h => (∃ old, IsEnum h e it (k0 + ((i : Nat) : Int)) old) ∧ IterB b h it a i ∧ e ≠ it) where
  mem := by simp
  obj := fun i h st c hc => by
    obtain ⟨⟨old, he⟩, x, _⟩ := st
    have z : c = e ∨ c = it := by simpa using hc
    rcases z with z | z
    · subst z; exact ⟨_, he, fun v q => nomatch q⟩
    · subst z
      obtain ⟨o, vs, ho, hd⟩ := x.ob
      exact ⟨o, ho, fun v q => by rw [hd] at q; cases q⟩
  keep := fun i h h' st k => let ⟨⟨old, he⟩, hi, hne⟩ := st; ⟨⟨old, k e (by simp) _ he⟩, hi.at fun o q => k it (by simp) o q, hne⟩
  item := by
    intro X hP hw hK hc i pins s σ H E I hf st hg
    subst hP hw hK
    obtain ⟨⟨old, he⟩, hit, hne⟩ := st
    obtain ⟨xs, x, hq, hx⟩ := hg
    obtain ⟨its, rv, p⟩ := seqB I hq
    obtain ⟨u, hu, ru⟩ := rv.get hx
    have hi : i < its.toArray.size := by
      have := (List.getElem?_eq_some_iff.mp hu).1
      simpa using this
    have n1 := enum_apart he p
    have n2 := iter_apart hit p
    have hel : e < s.heap.objs.size := Heap.lt_size he
    have hil : it < s.heap.objs.size := by obtain ⟨_, _, q, _⟩ := hit.ob; exact Heap.lt_size q
    refine wpAny_pyNext_enum_itemC (drawsB (A := X.A.in1) b (show X.A.in1.handled = none from I.ok.hd hc) it a n2 its.toArray) he ⟨hit, p⟩ hi hne (by simp [hne, Ne.symm n1]) fun v h' tk hv ho st' hT hsz hk => ?_
    have hvu : v = u := by
      have hv' : its.toArray[i]? = some v := hv
      rw [List.getElem?_toArray, hu] at hv'
      exact (Option.some.inj hv').symm
    subst hvu
    refine ⟨_, rfl, wpAny_letOwnedTupleGo_enum (s := { s with heap := h', toks := tk + 1 }) ho fun h'' he' sb => ?_⟩
    have hT2 := (sb.2 _ (Nat.ne_of_gt hel)).trans hT
    have new : ObjOk X.prog X.w (upd H s.heap.objs.size (.tup [.int (k0 + (i : Nat)), x])) h'' s.heap.objs.size (.tup [.int (k0 + (i : Nat)), x]) :=
      ⟨by show 2 ≤ sizeLine; decide, [.int (k0 + (i : Nat)) tk, v], .cons ⟨_, rfl⟩ (.cons ru .nil), ⟨_, hT2, rfl, _, rfl⟩⟩
    have I1 : Inv X pins σ (upd H s.heap.objs.size (.tup [.int (k0 + (i : Nat)), x])) { s with heap := h'', toks := tk + 1 } :=
      I.turnedNew (ch := [e, it]) (fun c ob hb q => (sb.2 c (fun z => hb (by simp [z]))).trans (hk c ob (fun z => hb (by simp [z])) (fun z => hb (by simp [z])) q)) hf (Nat.le_refl _) new
    refine ⟨.ref s.heap.objs.size, _, I1, rfl, ⟨_, x, rfl, I.hok.fresh (Nat.le_refl _), rfl, fun ys hy => by rw [injB I hy hq]; exact hx⟩, ⟨⟨v, ?_⟩, st'.1.at fun o q => (sb.2 it (Ne.symm hne)).trans q, hne⟩, fun c hc => ?_⟩
    · have e1 : k0 + ((i + 1 : Nat) : Int) = k0 + (i : Int) + 1 := by omega
      rw [e1]; exact he'
    · have lt : c < s.heap.objs.size := by
        have z : c = e ∨ c = it := by simpa using hc
        rcases z with z | z
        · rw [z]; exact hel
        · rw [z]; exact hil
      rw [upd_ne (Nat.ne_of_lt lt)]
      exact (hf c hc).1
  done := by
    intro X hP hw hK hc i pins s σ H E I hf st hg
    subst hP hw hK
    obtain ⟨⟨old, he⟩, hit, hne⟩ := st
    obtain ⟨xs, hq, hx⟩ := hg
    obtain ⟨its, rv, p⟩ := seqB I hq
    obtain ⟨f0, f1, f2, f3, f4, f5⟩ := hf it (by simp)
    have hl := rv.length
    exact wpAny_pyNext_enum_endD (drawsE (A := X.A.in1) b (show X.A.in1.handled = none from I.ok.hd hc) it a its.toArray i (by simp; omega)) he ⟨rfl, hit, p⟩ fun h' eb => ⟨rfl, I.turned (t' := s.toks) (fun c o hb q => eb c o hb q) f0 f1 f3 f4 f5⟩
  self := fun A i s Q E st h => let ⟨⟨_, he⟩, _⟩ := st; wpAny_pyIter_enum he h
theorem enum_new1 {v : Value} {o : Obj} {J : Heap → Prop} (B : Begins v o J) : Meets (Builtin.«enumerate.__new__» ⟨[.type "enumerate", v], []⟩) (fun _ R s => J s.heap ∧
    R (.ok (.ret (.ref (s.heap.push o).objs.size))) { s with heap := (s.heap.push o).push { cls := .type "enumerate", data := .fields #[.none, .bool false, .ref s.heap.objs.size, rawInt 0, .none, .none] } }) :=
  .of_wp fun prog w A R s h => by
    obtain ⟨hp, g, d, tk, os⟩ := s; obtain ⟨h1, h⟩ := h
    have hsub := sub_enumerate
    have q1 : ∀ {A' : Around} {E : Value → Shared → Prop} {Q : Value → Shared → Prop}, Q (.ref hp.objs.size) ⟨hp.push o, g, d, tk, os⟩ → wpAny (model prog w) A' (pyIter v) Q E ⟨hp, g, d, tk, os⟩ :=
      fun q => B.iter prog w _ _ ⟨hp, g, d, tk, os⟩ _ h1 q
    wp_walk using q1
    refine wpAny_stack_any fun st => wpAny_pure ?_
    split
    · rename_i c _ _ _ _ _
      cases (c == Value.type "enumerate")
      · wp_walk using q1
        exact ⟨_, rfl, h⟩
      · wp_walk using q1
        exact ⟨_, rfl, h⟩
    · wp_walk using q1
      exact ⟨_, rfl, h⟩
def itOb : Bool → Addr → Obj
  | true, a => { cls := .type "tuple_iterator", data := .fields #[.ref a, .int 0 0] }
  | false, a => { cls := .type "list_iterator", data := .fields #[.ref a, .int 0 0] }
theorem beginsB (b : Bool) (a : Addr) (its : Array Value) : Begins (.ref a) (itOb b a) fun h => SeqB b h a its := by
  cases b with
  | true => exact begins_tuple a its
  | false => exact begins_list a its
theorem iterB_of {b : Bool} {h : Heap} {it a : Addr} (e : h.get? it = some (itOb b a)) : IterB b h it a 0 := by
  cases b with
  | true => exact ⟨_, e, rfl, rfl⟩
  | false => exact ⟨_, e, rfl, rfl⟩
theorem call_enumB {prog : Program} {w : World} {A : Around} {E : Value → Shared → Prop} {s : Shared} {b : Bool} {a : Addr} {its : Array Value} {Q : Value → Shared → Prop} (hs : SeqB b s.heap a its)
    (h : ∀ h', IsEnum h' (s.heap.objs.size + 1) s.heap.objs.size 0 .none → IterB b h' s.heap.objs.size a 0 → (∀ b o, s.heap.get? b = some o → h'.get? b = some o) → Q (.ref (s.heap.objs.size + 1)) { s with heap := h' }) :
    wpAny (model prog w) A (call (.type "enumerate") [.ref a]) Q E s := by
  have B := beginsB b a its
  refine callType_new F.called_enumerate (by decide) (F.typeCall_enumerate_1 _) (F.newCall_enumerate_1 _) (fun obj => F.args_object_init_2 obj _) F.entry_enumerate_new (enum_new1 B) ⟨hs, ?_⟩
  have hz : (s.heap.push (itOb b a)).objs.size = s.heap.objs.size + 1 := Heap.size_push ..
  have key := Heap.get?_push_size (s.heap.push (itOb b a)) (o := { cls := .type "enumerate", data := .fields #[.none, .bool false, .ref s.heap.objs.size, rawInt 0, .none, .none] }) rfl
  show _ ∧ _
  rw [hz] at key ⊢
  exact ⟨⟨_, key, rfl⟩, h _ key (iterB_of (Heap.get?_push_of_some _ (Heap.get?_push_size _ B.free))) fun c o x => Heap.get?_push_of_some _ (Heap.get?_push_of_some _ x)⟩
def iEnB (K : PySem.W.Frag) (k0 : Int) (ta : TA) : TI := fun σ H R => ta σ H fun vs H1 => ∃ b a xs, vs = [.ref a] ∧ SqB K b H1 a xs ∧ R (ItB K b a k0) H1
theorem pi_enumB {X : Cx} {e : Expr} {ta : TA} {p pos tpos : Pos} {elts : List Expr} {kk : Nat} (hg : Gl X "enumerate") (hm : X.mg "enumerate" = none) (ha : PA X [e] ta) (hs : starEach [e] X.env = [(false, eval e X.env)] := by rfl) :
    PI X (.Tuple elts kk tpos) (.Call (.Name "enumerate" p) [e] [] pos) (iEnB X.K 0 ta) := by
  refine ⟨fun pins s σ H R I h => ?_⟩
  refine Call_ (ld_blt I hg hm boot_enumerate (PyProof.Rows.callWith_type1 (thn (ha.run pos pins s σ H _ I h) fun us s1 ⟨vs, H1, I1, r1, b, a, xs, ex, hq, q⟩ => ?_) hs rfl))
  subst ex
  cases r1 with
  | cons r rr =>
    cases rr
    obtain rfl : _ = Value.ref a := r
    obtain ⟨its, rv, p'⟩ := seqB I1 hq
    refine call_enumB p' fun h' he hit hk => wpAny_pyIter_enum he ?_
    have I2 : Inv X pins σ H1 { s1 with heap := h' } := I1.kept (t' := s1.toks) hk
    refine ⟨s1.heap.objs.size + 1, [s1.heap.objs.size + 1, s1.heap.objs.size], _, _, H1, rfl, I2, turn_enumB b a (s1.heap.objs.size + 1) s1.heap.objs.size 0, ⟨⟨.none, he⟩, hit, Nat.succ_ne_self _⟩, fun c hc => ?_, q⟩
    have hle : s1.heap.objs.size ≤ c := by
      have z : c = s1.heap.objs.size + 1 ∨ c = s1.heap.objs.size := by simpa using hc
      rcases z with z | z
      · rw [z]; exact Nat.le_add_right _ _
      · rw [z]; exact Nat.le_refl _
    exact I1.fpOk hle (I1.hok.fresh hle)
def enumD : Int → List D → List D
  | _, [] => []
  | k, d :: r => .tup [.int k, d] :: enumD (k + 1) r
theorem enumD_length : ∀ (k : Int) (ds : List D), (enumD k ds).length = ds.length
  | _, [] => rfl
  | k, _ :: r => congrArg Nat.succ (enumD_length (k + 1) r)
theorem enumD_get : ∀ (k : Int) (ds : List D) (i : Nat), (enumD k ds)[i]? = ds[i]?.map fun d => .tup [.int (k + i), d]
  | _, [], _ => by simp [enumD]
  | k, d :: r, 0 => by simp [enumD]
  | k, d :: r, i + 1 => by
    show (enumD (k + 1) r)[i]? = r[i]?.map _
    rw [enumD_get (k + 1) r i, show k + 1 + (i : Int) = k + ((i + 1 : Nat) : Int) by omega]
section
variable {X : Cx} {W : Wrl} {Wo : WX} {m : Md} {a : Expr} {qa : QT W} {p pos tpos : Pos} {elts : List Expr} {kk : Nat}
def iEnumQ (k0 : Int) (qa : QT W) : QTI W := fun ω ρ Q E => qa ω ρ (fun ω1 d => ∃ ds, (d = .lst ds ∨ d = .tup ds) ∧ Q ω1 (enumD k0 ds)) E
theorem itB_ok {K : PySem.W.Frag} {b : Bool} {l : Addr} {d0 : D} {ds : List D} {k0 : Int} (hr : ∀ {H : Hp} {S : ASet}, RepA K H S d0 (.ref l) → ∃ xs, SqB K b H l xs ∧ RepsA K H S ds xs) : ItOk .C K W [(d0, .ref l)] (enumD k0 ds) (ItB K b l k0) := by
  intro F T ω ρ σ H hh R i
  obtain ⟨xs, hl, rr⟩ := hr (R.hd _ (hh (d0, .ref l) List.mem_cons_self))
  rw [enumD_length]
  refine ⟨fun hi => ?_, fun hi => ⟨xs, hl, by rw [rr.len]; exact hi⟩, fun d x H2 hd hy => ?_⟩
  · obtain ⟨v, hv, _⟩ := rr.get (List.getElem?_eq_getElem hi)
    exact ⟨xs, v, hl, hv⟩
  · obtain ⟨Tq, y, rfl, hT, rfl, hx⟩ := hy
    rw [enumD_get] at hd
    obtain ⟨d1, hd1, rfl⟩ := Option.map_eq_some_iff.mp hd
    obtain ⟨v, hv, rv⟩ := rr.get hd1
    have e := hx xs hl
    rw [hv] at e
    cases e
    have g : GrP nop H (upd H Tq (.tup [.int (k0 + (i : Nat)), y])) := GrP.new hT
    exact ⟨g, .inr ⟨Tq, [.int (k0 + (i : Nat)), y], _, rfl, rfl, .inl (.inl upd_same), .cons (.int _) (.cons (rv.ext g (fun _ z => z.elim) fun a z => .inl z) .nil)⟩⟩
theorem qi_enumQ (hg : Gl X "enumerate") (hm : X.mg "enumerate" = none) (ha : QE X m W Wo a qa) (hms : m.st = true := by rfl) (hs : starEach [a] X.env = (false, eval a X.env) :: starEach [] X.env := by rfl) :
    QI X .C W Wo (.Tuple elts kk tpos) (.Call (.Name "enumerate" p) [a] [] pos) (iEnumQ 0 qa) := PI.imp (pi_enumB hg hm (pa_cons ha pa_nil hs) hs) fun σ H Rj ⟨F, T, ω, ρ, Qp, Ep, R, q, hx, k⟩ =>
  ⟨F, T, ω, ρ, _, Ep, R, q, hx, fun T1 ω1 d v H1 R1 e1 r1 ⟨ds, z, q1⟩ => by
    have ra := r1.a hms
    rcases z with rfl | rfl
    · obtain ⟨l, xs, rfl, hl, _⟩ := repA_lst ra
      refine ⟨false, l, xs, rfl, hl, k T1 ω1 [(.lst ds, .ref l)] (enumD 0 ds) _ H1 (R1.put fun p hp => ?_) e1 (itB_ok fun r => ?_) q1⟩
      · have : p = (.lst ds, .ref l) := by simpa using hp
        rw [this]; exact ra
      · obtain ⟨l', xs', e', hl', rr⟩ := repA_lst r
        cases e'
        exact ⟨xs', hl', rr⟩
    · obtain ⟨l, xs, rfl, hl, _⟩ := repA_tup ra
      refine ⟨true, l, xs, rfl, hl, k T1 ω1 [(.tup ds, .ref l)] (enumD 0 ds) _ H1 (R1.put fun p hp => ?_) e1 (itB_ok fun r => ?_) q1⟩
      · have : p = (.tup ds, .ref l) := by simpa using hp
        rw [this]; exact ra
      · obtain ⟨l', xs', e', hl', rr⟩ := repA_tup r
        cases e'
        exact ⟨xs', hl', rr⟩⟩
theorem v_iEnumQ {k0 : Int} {ω : W.Ω} {ρ : List Sl} {QL : W.Ω → List D → Prop} {E : W.Ω → Exn → Prop} (h : qa ω ρ (fun ω1 d => ∃ ds, (d = .lst ds ∨ d = .tup ds) ∧ QL ω1 (enumD k0 ds)) E) : iEnumQ k0 qa ω ρ QL E := h
end
section
variable {X : Cx} {W : Wrl} {Wo : WX} {m : Md} {a : Expr} {qa : QT W} {pos : Pos} {C : Addr} {mc : Value} {f : Str} {i : Int}
def qCvI (C : Addr) (i : Int) (qa : QT W) : QT W := fun ω ρ Q E => qa ω ρ (fun ω1 d => kAdr C d (Q ω1 (.int i))) E
theorem qe_cval (ha : QE X m W Wo a qa) (r : ClX.CRead X.K C mc) (k : ∃ u, ClX.CVal X.K C mc f (.int i) u) (hb : attributeBase a f X.env (eval a X.env) = eval a X.env := by rfl) : QE X .A W Wo (.Attribute a f pos) (qCvI C i qa) := PE.imp (ClX.pe_cval ha hb) fun σ H Q ⟨F, T, ω, ρ, Qp, Ep, R, q, hx, kk⟩ =>
  ⟨F, T, ω, ρ, _, Ep, R, q, hx, fun T1 ω1 d v H1 R1 e1 r1 ⟨z, q1⟩ => by
    subst z
    obtain ⟨u, k⟩ := k
    exact ⟨C, mc, .int i, u, r1.c.adr, r, k, kk T1 ω1 (.int i) _ H1 R1 e1 (RepA.int i) q1⟩⟩
theorem v_cvI {ω : W.Ω} {ρ : List Sl} {Q : W.Ω → D → Prop} {E : W.Ω → Exn → Prop} (h : qa ω ρ (fun ω1 d => kAdr C d (Q ω1 (.int i))) E) : qCvI C i qa ω ρ Q E := h
end
section
variable {X : Cx} {W : Wrl} {Wo : WX} {mr : Md} {k : Nat} {f : Addr} {fd : FuncData} {ps : List Str} {fx : Str} {pf : PSp W} {p pos : Pos}
end
end LW
namespace LW
open PySem PySem.Spec PyProof.Rows L2
def FnRN (P : Program) (w : World) (K : PySem.W.Frag) (mg : Str → Option Value) (base : Heap) (CX : CXT) (k : Nat) (f : Addr) (sp : Nat → Sp) : Prop :=
  ∀ (A : Around) (outer : List Env) (s : Shared) (H : Hp) (us : List Value) (vs : List V) (Q : VK) (E : XK), Room k A → Env0 P w K mg base A outer s H → Vals vs us → sp s.heap.objs.size vs H Q E →
    codeAny (model P w) A (.call (.ref f) ⟨us, []⟩) (CR CX outer P w H s Q E) s
theorem fn_ofN {CX : CXT} {P : Program} {w : World} {K : PySem.W.Frag} {mg : Str → Option Value} {base : Heap} {k : Nat} {f : Addr} {name qual : Str} {params : Arguments} {body : List Stmt} {scope : Scope} {dvs : List V} {kws : List (Str × V)} {fd : FuncData} {N ps : List Str} {sp : Nat → Sp}
    (F : FunD K name qual params body scope dvs kws f fd) (S : FnScope N ps scope) (hbi : Binds K fd ps []) (len : ∀ n vs H Q E, sp n vs H Q E → vs.length = ps.length)
    (hbody : ∀ (cdv : Value) (A : Around) (outer : List Env) (s : Shared) (H : Hp) (vs : List V) (Q : VK) (E : XK), Room k (A.deeper (envOfC qual scope s.heap.objs.size f cdv)) → sp s.heap.objs.size vs H Q E →
      ∃ t, PSs (cxOf CX P w K mg base N qual scope f cdv A outer s H E) body t ∧ t { nx := fun _ H' => Q .non H', rt := Q } (start N vs) H) : FnRN P w K mg base CX (k + 1) f sp := by
  obtain ⟨oc, od, dV, kV, doc, pm, an, cdv, ct, osl, rfl, lk, hcd, _, _⟩ := F.ex
  refine fun A outer s H us vs Q E hr e0 r hsp => ?_
  have hl := len _ _ _ _ _ hsp
  have KX : K.In s.heap := e0.mod.kin.keeps fun b o e => (e0.bs b o e).1
  have lim : s.heap.NoLimit := e0.mod.nolimit.keeps fun b o e => (e0.bs b o e).1
  have hb := hbi s us KX (by rw [List.append_nil, ← r.length]; exact hl)
  rw [List.append_nil] at hb
  have hkind : ∀ y ∈ ps.zip us, scope.names.lookup y.1 = some .local ∨ (scope.names.lookup y.1 = some .cell ∧ ((cellsFrom (s.heap.objs.size + 1) scope.names []).lookup y.1).isSome = true) := fun ⟨n, v⟩ hy => by
    rcases S.par n (List.of_mem_zip hy).1 with q | q
    · exact .inl q
    · exact .inr ⟨q, PySem.W.cellsFrom_some _ _ _ (.inl q)⟩
  refine codeAny_call_function hr.depth (KX _ _ lk) rfl S.co S.gen rfl (PySem.W.codeRec_of KX hcd) (hb _ _ _ _ ?_)
  refine wpAny_newFunctionEnv_cells S.kind hkind fun env he s1 x => ?_
  subst he
  refine ⟨lim.keeps x.toInCall.keep, codeAny_func ?_⟩
  obtain ⟨t, ht, hq⟩ := hbody cdv A outer s H vs Q E (hr.deeper _) hsp
  have I : Inv (cxOf CX P w K mg base N qual scope f cdv A outer s H E) [] (start N vs) H s1 := inv_start S hr.hd e0 hl r x
  refine wpAny_mono (ht.run [] s1 (start N vs) H _ I hq) (fun fl s' hs => ?_) fun e s' hs => hs
  have fin : ∀ {σ' : L2.St} {H' : Hp} {v : V} {u : Value}, Inv (cxOf CX P w K mg base N qual scope f cdv A outer s H E) [] σ' H' s' → RelV v u → Q v H' → CE outer P w H s Q u s' :=
    fun {σ' H' v u} J rv q => ⟨v, H', J.os, J.bare, J.base, J.hok, rv, q⟩
  cases fl with
  | ret u =>
    obtain ⟨v, σ', H', J, rv, q⟩ := hs
    exact fin J rv q
  | next =>
    obtain ⟨σ', H', J, q⟩ := hs
    exact fin (v := V.non) (u := Value.none) J rfl q
  | brk =>
    obtain ⟨_, _, _, q⟩ := hs
    exact False.elim q
  | cont =>
    obtain ⟨_, _, _, q⟩ := hs
    exact False.elim q
abbrev itTup (l : Addr) (i : Nat) : Obj := { cls := .type "tuple_iterator", data := .fields #[.ref l, .int i 0] }
theorem call_iterTup {prog : Program} {w : World} {A : Around} {E : Value → Shared → Prop} {s : Shared} {l : Addr} {items : Array Value} {Q : Value → Shared → Prop} (hl : s.heap.IsTuple l items) (h : Q (.ref s.heap.objs.size) { s with heap := s.heap.push (itTup l 0) }) : wpAny (model prog w) A (call (.builtin "iter") [.ref l]) Q E s := by
  refine Calls.call_function_entry (by decide +kernel) (by decide +kernel) PySem.W.kdk_entry_iter (PySem.W.kdk_args_iter _) ?_
  unfold Builtin.«iter»
  refine wpAny_bind (m := someArgs "iter" 1 2 _) (wpAny_of_eq (a := [Value.ref l]) (by first | rfl | kernel_rfl!) ?_)
  show wpAny _ _ (pyIter (.ref l) >>= _) _ _ _
  refine wpAny_bind (wpAny_pyIter_tuple hl ?_)
  exact wpAny_pure ⟨_, rfl, h⟩
def ItT (l it : Addr) (i : Nat) : HO := .ext fun h => h.get? it = some (itTup l i)
theorem itT_ok {P : Program} {w : World} {H : Hp} {h : Heap} {l it : Addr} {i : Nat} (e : h.get? it = some (itTup l i)) : ObjOk P w H h it (ItT l it i) := ⟨e, ⟨_, e⟩, fun h1 h2 q k => k _ q⟩
def rIterT (K : PySem.W.Frag) (n : Nat) : List V → Hp → VK → Prop := fun xs H Q => ∃ (l : Addr) (zs : List V), xs = [.ref l] ∧ SqT K H l zs ∧ ∀ it, H it = none → n ≤ it → Q (.ref it) (upd H it (ItT l it 0))
theorem call_iterTN {X : Cx} : CallR X (.builtin "iter") (rIterT X.K X.s_0.heap.objs.size) := by
  intro pins s σ H xs us Q I r h
  obtain ⟨l, zs, rfl, hq, q⟩ := h
  obtain ⟨u, rfl, ru⟩ := r.one
  cases (show u = Value.ref l from ru)
  obtain ⟨its, rv, pl, hz⟩ := I.tuple hq
  refine call_iterTup pl ?_
  exact ⟨.ref s.heap.objs.size, _, I.laid (t' := s.toks) (fun b u e => Heap.get?_push_of_some _ e) (Nat.le_refl _) (itT_ok (Heap.get?_push_size _ rfl)), rfl, q _ (I.hok.fresh (Nat.le_refl _)) I.sz⟩
def spIt (K : PySem.W.Frag) (C : Addr) (f : Str) (n : Nat) : Sp := fun vs H Q _ => ∃ (a dx : Addr) (fs : List (Str × V)) (p : Addr) (xs : List V), vs = [.ref a] ∧ H a = some (.ins C dx fs) ∧ fs.lookup f = some (.ref p) ∧ SqT K H p xs ∧ ∀ it, n ≤ it → H it = none → Q (.ref it) (upd H it (ItT p it 0))
theorem body_it {X : Cx} {C : Addr} {f : Str} {o : Expr} {p p2 pos pos2 : Pos} {vs : List V} {H : Hp} {Q : VK} {E : XK} (c : Cls X.K C) (n : NoAttr X.K C f) (hg : Gl X "iter") (hm : X.mg "iter" = none) (ho : PE X o (tVar 0))
    (hb : attributeBase o f X.env (eval o X.env) = eval o X.env)
    (h1 : starEach [.Attribute o f p2] X.env = (false, eval (.Attribute o f p2) X.env) :: starEach [] X.env)
    (h : spIt X.K C f X.s_0.heap.objs.size vs H Q E) : ∃ t, PSs X [.Return (some (.Call (.Name "iter" p) [.Attribute o f p2] [] pos)) pos2] t ∧ t { nx := fun _ H' => Q .non H', rt := Q } (start ["self"] vs) H := by
  refine ⟨_, pss_one (ps_ret (pe_callB call_iterTN hg hm (by decide +kernel) (pa_cons (pe_fld ho hb) pa_nil h1) (by decide) (by decide) h1 rfl)), ?_⟩
  obtain ⟨a, dx, fs, q, xs, rfl, ha, hf, hq, k⟩ := h
  exact ⟨.ref a, rfl, a, C, dx, fs, .ref q, rfl, ha, c, n, hf, q, xs, rfl, hq, fun it h1 h2 => k it h2 h1⟩
structure ItOw (K : PySem.W.Frag) (C g : Addr) : Prop where
  it : PySem.W.findIn K (.ref C) "__iter__" = some (some (.ref g))
  itF : PySem.W.isFn K (.ref g) = true
theorem itoB_ok {K : PySem.W.Frag} {x : Str} (h : itoB K x = true) : ItOw K (He.ga K x) (He.ma K (He.ga K x) "__iter__") := ⟨(cmoB_ok h).1, (cmoB_ok h).2⟩
theorem next_tup {M : Model} {A : Around} {E : Value → Shared → Prop} {s : Shared} {Q : Value → Shared → Prop} {it l : Addr} {i : Nat} (e : s.heap.get? it = some (itTup l i)) (h : Q (.ref it) s) : PySem.W.OwitIt M A Q E (.ref it) s := by
  unfold PySem.W.OwitIt
  have hT : s.TypeIs (.ref it) "tuple_iterator" := ⟨_, e, rfl⟩
  exact wpAny_bind (wpAny_typeOf hT (wpAny_of_eq PySem.F.slot_tuple_iterator_next.lookup h))
section
variable {X : Cx} {pins : List (Addr × Obj)} {σ : L2.St} {H : Hp} {s : Shared} {C g a dx p : Addr} {fs : List (Str × V)} {xs : List V} {f : Str} {k : Nat}
theorem own_iter {A : Around} {Q : Value → Shared → Prop} (c : ItOw X.K C g) (F : FnRN X.prog X.w X.K X.mg X.base (L2N.CX X.prog X.w) k g (spIt X.K C f)) (hr : Room k A) (e0 : Env0 X.prog X.w X.K X.mg X.base A X.stack s H) (I : Inv X pins σ H s)
    (ha : H a = some (.ins C dx fs)) (hf : fs.lookup f = some (.ref p)) (hq : SqT X.K H p xs) (h : ∀ it s', Inv X pins σ H s' → s'.heap.get? it = some (itTup p 0) → FpOk X pins H it → s.heap.objs.size ≤ it → Q (.ref it) s') : wpAny (model X.prog X.w) A (pyIter (.ref a)) Q X.xe s := by
  obtain ⟨ox, od, J⟩ := ins_at I ha
  obtain ⟨m, hF⟩ := I.fr
  refine PySem.W.owit_iter hF I.ok.mod.kin J c.it c.itF ?_
  refine wpAny_call (codeAny_mono (F A X.stack s H [.ref a] [.ref a] (fun v H' => ∃ it, v = .ref it ∧ s.heap.objs.size ≤ it ∧ H it = none ∧ H' = upd H it (ItT p it 0)) (fun _ _ _ => False) hr e0 (.cons rfl .nil) ⟨a, dx, fs, p, xs, rfl, ha, hf, hq, fun it h1 h2 => ⟨it, rfl, h1, h2, rfl⟩⟩) fun r s' hq' => ?_)
  rcases r with e | fl
  · exact passAt0 (X := X) σ pins H s e s' I hq'
  · cases fl with
    | next => exact False.elim hq'
    | brk => exact False.elim hq'
    | cont => exact False.elim hq'
    | ret u =>
      obtain ⟨v, H', I', rv, it, ev, hn, hi, eH⟩ := I.after hq'
      subst ev eH
      cases (show u = Value.ref it from rv)
      have ei : s'.heap.get? it = some (itTup p 0) := (I'.hok it _ upd_same).1
      refine next_tup ei ?_
      have I2 := ItX.inv_drop I' (a := it) (φ := fun h => h.get? it = some (itTup p 0)) upd_same
      have fp := ItX.inv_fp I' (a := it) upd_same (Nat.le_trans I.sz hn)
      rw [ItX.dropH_upd hi] at I2 fp
      exact h it s' I2 ei fp hn
end
def iOwn (K : PySem.W.Frag) (C : Addr) (f : Str) (ta : TE) : TI := fun σ H R => ta σ H fun x H1 => ∃ (a dx : Addr) (fs : List (Str × V)) (p : Addr) (xs : List V), x = .ref a ∧ H1 a = some (.ins C dx fs) ∧ fs.lookup f = some (.ref p) ∧ SqT K H1 p xs ∧ R (Itt K p) H1
theorem pi_own {X : Cx} {C g : Addr} {f : Str} {k : Nat} {e tg : Expr} {ta : TE} (c : ItOw X.K C g) (F : FnRN X.prog X.w X.K X.mg X.base (L2N.CX X.prog X.w) k g (spIt X.K C f)) (hr : Room k X.A) (ha : PE X e ta) : PI X tg e (iOwn X.K C f ta) := by
  refine ⟨fun pins s σ H R I h => ?_⟩
  refine wpAny_mono (ha.run pins s σ H _ I h) (fun v s1 hq => ?_) fun _ _ z => z
  obtain ⟨x, H1, I1, rx, a, dx, fs, p, xs, ex, ea, ef, hq, q⟩ := hq
  subst ex
  cases (show v = Value.ref a from rx)
  refine own_iter c F hr I1.env0 I1 ea ef hq fun it s' I2 hit fp _ => ?_
  exact ⟨it, [it], fun i h => h.IsTupleIter it p i, Itt X.K p, H1, rfl, I2, turn_tuple p it, ⟨_, hit, rfl, rfl⟩, fun b hb => by rw [List.mem_singleton.mp hb]; exact fp, q⟩
section
variable {X : Cx} {W : Wrl} {Wo : WX} {m : Md} {a tg : Expr} {qa : QT W} {C g : Addr} {f : Str} {k : Nat}
def kOwn (C : Addr) (f : Str) (d : D) (R : List D → Prop) : Prop := ∃ ns ds xs, d = .ins C ns ds ∧ (ns.zip ds).lookup f = some (.tup xs) ∧ R xs
def iOwnQ (C : Addr) (f : Str) (qa : QT W) : QTI W := fun ω ρ Q E => qa ω ρ (fun ω1 d => kOwn C f d fun xs => Q ω1 xs) E
theorem repA_insT {K : PySem.W.Frag} {H : Hp} {S : ASet} {v : V} {C : Addr} {ns : List Str} {ds xs : List D} (h : RepA K H S (.ins C ns ds) v) (hl : (ns.zip ds).lookup f = some (.tup xs)) : ∃ (a dx : Addr) (fs : List (Str × V)) (p : Addr) (vs : List V), v = .ref a ∧ H a = some (.ins C dx fs) ∧ fs.lookup f = some (.ref p) ∧ SqT K H p vs ∧ RepA K H S (.tup xs) (.ref p) ∧ RepsA K H S xs vs := by
  cases h with
  | ins h i l r =>
    obtain ⟨u, hu, ru⟩ := lookup_rep r hl
    have ru' := ru
    obtain ⟨l', vs, rfl, hs, rr⟩ := repA_tup ru'
    exact ⟨_, _, _, l', vs, rfl, h, hu, hs, ru, rr⟩
theorem qi_own (c : ItOw X.K C g) (F : FnRN X.prog X.w X.K X.mg X.base (L2N.CX X.prog X.w) k g (spIt X.K C f)) (hr : Room k X.A) (ha : QE X m W Wo a qa) (hms : m.st = true := by rfl) : QI X .A W Wo tg a (iOwnQ C f qa) := PI.imp (pi_own c F hr ha) fun σ H Rj ⟨F, T, ω, ρ, Qp, Ep, R, q, hx, kk⟩ =>
  ⟨F, T, ω, ρ, _, Ep, R, q, hx, fun T1 ω1 d v H1 R1 e1 r1 ⟨ns, ds, xs, z, hl, q1⟩ => by
    subst z
    obtain ⟨a, dx, fs, p, vs, rfl, ea, ef, hs, rt, rr⟩ := repA_insT (r1.a hms) hl
    refine ⟨a, dx, fs, p, vs, rfl, ea, ef, hs, kk T1 ω1 [(.tup xs, .ref p)] xs _ H1 (R1.put fun q hq => ?_) e1 (fun F T ω ρ σ H hh R i => ?_) q1⟩
    · rw [List.mem_singleton.mp hq]; exact rt
    · obtain ⟨l', xs', e', hl', rr⟩ := repA_tup (R.hd _ (hh (.tup xs, .ref p) List.mem_cons_self))
      cases e'
      refine ⟨fun hi => ?_, fun hi => ⟨xs', hl', by rw [rr.len]; exact hi⟩, fun d x H2 hd hy => ?_⟩
      · obtain ⟨v, hv, _⟩ := rr.get (List.getElem?_eq_getElem hi)
        exact ⟨xs', v, hl', hv⟩
      · obtain ⟨z, hx⟩ := hy
        subst z
        obtain ⟨v, hv, rv⟩ := rr.get hd
        have := hx xs' hl'
        rw [hv] at this
        cases this
        exact ⟨GrP.refl _ _, rv⟩⟩
theorem v_iOwn {ω : W.Ω} {ρ : List Sl} {QL : W.Ω → List D → Prop} {E : W.Ω → Exn → Prop} (h : qa ω ρ (fun ω1 d => kOwn C f d fun xs => QL ω1 xs) E) : iOwnQ C f qa ω ρ QL E := h
theorem v_kOwn {ns : List Str} {ds xs : List D} {R : List D → Prop} (h1 : (ns.zip ds).lookup f = some (.tup xs)) (h : R xs) : kOwn C f (.ins C ns ds) R := ⟨ns, ds, xs, rfl, h1, h⟩
end
section
variable {X : Cx} {pins : List (Addr × Obj)} {σ : L2.St} {C g gl a dx p q : Addr} {fs : List (Str × V)} {xs : List V} {f : Str} {k kl : Nat}
end
section
variable {K : PySem.W.Frag} {W : Wrl} {F : Frm} {T : ASet} {ω : W.Ω} {ρ : List Sl} {σ : L2.St} {H : Hp} {q : Addr} {o : HO}
end
section
variable {X : Cx} {W : Wrl} {Wo : WX} {m : Md} {e : Expr} {es : List Expr} {qs : QTA W} {C g gl : Addr} {f : Str} {k : Nat} {pf : PSp W} {p pos : Pos}
def kListO (C : Addr) (f : Str) (ds : List D) (R : List D → Prop) : Prop := ∃ ns es xs, ds = [.ins C ns es] ∧ (ns.zip es).lookup f = some (.tup xs) ∧ xs.length ≤ 1000000 ∧ R xs
def kN6 (d : D) (R : Prop) : Prop := ∃ n : Int, d = .int n ∧ 0 ≤ n ∧ n ≤ 1000000 ∧ R
def qListO (C : Addr) (f : Str) (pf : PSp W) (qs : QTA W) : QT W := fun ω ρ Q E => qs ω ρ (fun ω1 ds => kListO C f ds fun xs => pf ω1 ds (fun ω' d => kN6 d (Q ω' (.lst xs))) (fun _ _ => False)) E
end
section
variable {X : Cx} {W : Wrl} {Wo : WX} {m : Md} {a : Expr} {qa : QT W} {C p g : Addr} {f : Str} {k : Nat} {pf : PSp W} {fd : FuncData} {ps : List Str} {pos : Pos}
def qProp (C : Addr) (pf : PSp W) (qa : QT W) : QT W := fun ω ρ Q E => qa ω ρ (fun ω1 d => kObj C d (pf ω1 [d] Q (fun _ _ => False))) E
theorem v_prop {ω : W.Ω} {ρ : List Sl} {Q : W.Ω → D → Prop} {E : W.Ω → Exn → Prop} (h : qa ω ρ (fun ω1 d => kObj C d (pf ω1 [d] Q (fun _ _ => False))) E) : qProp C pf qa ω ρ Q E := h
theorem v_listO {qs : QTA W} {ω : W.Ω} {ρ : List Sl} {Q : W.Ω → D → Prop} {E : W.Ω → Exn → Prop} (h : qs ω ρ (fun ω1 ds => kListO C f ds fun xs => pf ω1 ds (fun ω' d => kN6 d (Q ω' (.lst xs))) (fun _ _ => False)) E) : qListO C f pf qs ω ρ Q E := h
end
theorem v_kListO {C : Addr} {f : Str} {ns : List Str} {es xs : List D} {R : List D → Prop} (h1 : (ns.zip es).lookup f = some (.tup xs)) (h2 : xs.length ≤ 1000000) (h : R xs) : kListO C f [.ins C ns es] R := ⟨ns, es, xs, rfl, h1, h2, h⟩
theorem v_kN6 {i : Int} {R : Prop} (h0 : 0 ≤ i) (h1 : i ≤ 1000000) (h : R) : kN6 (.int i) R := ⟨i, rfl, h0, h1, h⟩
theorem qe_FA {X : Cx} {W : Wrl} {Wo : WX} {e : Expr} {q : QT W} (h : QE X .F W Wo e q) : QE X .A W Wo e q := PE.imp h fun σ H Q ⟨F, T, ω, ρ, Qp, Ep, R, q, hx, k⟩ =>
  ⟨F, T, ω, ρ, Qp, Ep, R, q, hx, fun T' ω' d v H' R' e r q' => k T' ω' d v H' R' e (RR.a (m := .F) rfl r) q'⟩
theorem v_puB {b : Bool} {R : Prop} (h : R) : (D.bl b).pure = true ∧ R := ⟨rfl, h⟩
theorem v_puI {b : Int} {R : Prop} (h : R) : (D.int b).pure = true ∧ R := ⟨rfl, h⟩
theorem v_puS {b : Str} {R : Prop} (h : R) : (D.str b).pure = true ∧ R := ⟨rfl, h⟩
theorem v_puN {R : Prop} (h : R) : D.non.pure = true ∧ R := ⟨rfl, h⟩
end LW
namespace LW
open PySem PySem.Spec PyProof.Rows L2
structure SupD (K : PySem.W.Frag) (F0 : Str) (x qual : Str) (params : Arguments) (body : List Stmt) (scope : Scope) (f D cda cc : Addr) (fd : FuncData) : Prop where
  ex : ∃ (oc : Value) (od : Option Addr) (dV kV doc pm : Value) (an : Option Addr) (ct : Value) (osl : Array (Option Value)),
    fd = PySem.W.ksFn x qual params body scope dV kV doc pm an (.ref cda) ct cc ∧ K.lookup f = some ⟨oc, od, .func fd, osl⟩ ∧ dV = .none
  code : PySem.W.codeIn K (.ref cda) qual = true
  file : ∃ (ccl : Value) (cdd : Option Addr) (vs : Array Value) (ccs : Array (Option Value)) (tf : Tok), K.lookup cda = some ⟨ccl, cdd, .fields vs, ccs⟩ ∧ vs[2]? = some (.str F0 tf)
  cell : ∃ (cl : Value) (cld : Option Addr) (csl : Array (Option Value)), K.lookup cc = some ⟨cl, cld, .cell (some (.ref D)), csl⟩
  clsD : ∃ cd, PySem.W.clsIn K D = some cd
  kp : PySem.W.keepIn K (.ref f) = true
class PG (P : Program) : Prop where
  file : (P.main.file : Str) = "/claim/cut.py"
  sup : (P.main.scope.names.lookup ("super" : Str)).isSome = false
section
variable {CX : CXT} {P : Program} {w : World} {K : PySem.W.Frag} {mg : Str → Option Value} {base : Heap} {N ps : List Str} {x qual : Str} {params : Arguments} {body : List Stmt} {scope : Scope} {f D cda cc : Addr} {fd : FuncData} {F0 : Str} {k : Nat} {sp : Sp}
end
section
variable {X : Cx} {pins : List (Addr × Obj)} {σ : L2.St} {H : Hp} {s : Shared} {f D a C : Addr} {full : List Stmt} {p0 p1 : Pos} {attr : Str} {whole : Sem Value}
end
section
variable {X : Cx} {f D a C : Addr} {full rest : List Stmt} {p0 p1 p2 p3 p4 : Pos} {e : Expr} {es : List Expr} {ta : TA} {t : TS}
end
theorem SupD.fdA_of {K : PySem.W.Frag} {F0 x qual : Str} {params : Arguments} {body : List Stmt} {scope : Scope} {f D : Addr} (h : ∃ fd cda cc, SupD K F0 x qual params body scope f D cda cc fd) : ∃ cda cc, SupD K F0 x qual params body scope f D cda cc (fdA K f) := by
  obtain ⟨fd, cda, cc, h⟩ := h
  have e : fdA K f = fd := by
    obtain ⟨oc, od, dV, kV, doc, pm, an, ct, osl, _, lk, _⟩ := h.ex
    unfold fdA
    rw [lk]
  exact ⟨cda, cc, by rw [e]; exact h⟩
theorem SupD.bindsN {K : PySem.W.Frag} {F0 x qual : Str} {params : Arguments} {body : List Stmt} {scope : Scope} {f D cda cc : Addr} {fd : FuncData} {ps : List Str} (F : SupD K F0 x qual params body scope f D cda cc fd)
    (h : ∀ (kV doc pm : Value) (an : Option Addr) (cdv ct : Value) (cc : Addr) (us : List Value), us.length = ps.length → bindArgs (PySem.W.ksFn x qual params body scope .none kV doc pm an cdv ct cc) ⟨us, []⟩ = pure (ps.zip us)) : Binds K fd ps [] := by
  obtain ⟨oc, od, dV, kV, doc, pm, an, ct, osl, rfl, lk, rfl⟩ := F.ex
  exact .all (h kV doc pm an _ ct cc)
end LW
namespace LW
open PySem PySem.Spec PyProof.Rows L2
section
variable {X : Cx} {P : Program} {w : World} {K : PySem.W.Frag} {W : Wrl} {f f2 D C : Addr} {full rest : List Stmt} {p0 p1 p2 p3 p4 : Pos} {e : Expr} {es : List Expr} {k : Nat}
end
section
variable {X : Cx} {P : Program} {w : World} {W : Wrl} {Wo : WX} {m : Md} {f C : Addr} {pos : Pos} {e fe : Expr} {es : List Expr} {k : Nat}
def mark {α : Type} (l : List α) : List α := l ++ l.take 1
def kMakeZ (C : Addr) (fs : List (Str × D)) (R : D → Prop) : Prop := fs ≠ [] ∧ fs.length < 900 ∧ imm (mark (fs.map (·.1))) = true ∧ R (.ins C (mark (fs.map (·.1))) (mark (fs.map (·.2))))
theorem AsR.snd {K : PySem.W.Frag} {H : Hp} {κ : Type} {fs : List (κ × D)} {gs : List (κ × V)} (h : AsR K H fs gs) : RepsA K H yes (fs.map (·.2)) (gs.map (·.2)) := by
  induction h with
  | nil => exact .nil
  | cons r _ ih => exact .cons r ih
end
end LW
namespace LW
open PySem PySem.Spec PyProof.Rows L2
section
variable {P : Program} {w : World} {K : PySem.W.Frag} {H : Hp} {S S' : ASet} {os : List Addr} {st : Sto}
end
section
variable {X : Cx} {P : Program} {w : World} {W : Wrl} {Wo : WX} {m : Md} {fe e : Expr} {es : List Expr} {pos : Pos} {C f : Addr} {k : Nat}
def qMakeZS (K : PySem.W.Frag) (P : Program) (w : World) (C : Addr) (pf : PSp (WS P w K W0)) (qf : QT (WS P w K W)) (qs : QTA (WS P w K W)) : QT (WS P w K W) := fun ω ρ Q E => qf ω ρ (fun ω0 d => d = .adr C ∧ qs ω0 ρ (fun ω1 ds0 => kDers ω1.2 ds0 fun ds => ∀ x, pf ((), noSto.put x (.mi C [])) (.adr x :: ds) (fun ω2 d => d = .non ∧ ∃ fs, ω2.2 x = some (.mi C fs) ∧ kMakeZ C fs (Q ω1)) fun _ _ => False) E) E
theorem v_makeZS {K : PySem.W.Frag} {pf : PSp (WS P w K W0)} {qf : QT (WS P w K W)} {qs : QTA (WS P w K W)} {ω : W.Ω × Sto} {ρ : List Sl} {Q : W.Ω × Sto → D → Prop} {E : W.Ω × Sto → Exn → Prop} (h : qf ω ρ (fun ω0 d => kAdr C d (qs ω0 ρ (fun ω1 ds0 => kDers ω1.2 ds0 fun ds => ∀ x, pf ((), noSto.put x (.mi C [])) (.adr x :: ds) (fun ω2 d => d = .non ∧ ∃ fs, ω2.2 x = some (.mi C fs) ∧ kMakeZ C fs (Q ω1)) fun _ _ => False) E)) E) : qMakeZS K P w C pf qf qs ω ρ Q E := h
end
end LW
namespace LW
open PySem PySem.Spec PyProof.Rows L2
section
variable {X : Cx} {W : Wrl} {Wo : WX} {mr m : Md} {e : Expr} {es : List Expr} {qa : QT W} {C fI : Addr} {f x : Str} {k : Nat} {fd : FuncData} {ps : List Str} {p pos pos2 : Pos}
def sRaiseX (C : Addr) (f : Str) (qa : QT W) : QTS W := fun P ω ρ => qa ω ρ (fun ω1 d => d.pure = true ∧ P.ex ω1 ⟨C, some (f, d)⟩ ρ) fun ω1 y => P.ex ω1 y ρ
theorem v_raiseX {P : PEn W} {ω : W.Ω} {ρ : List Sl} (h : qa ω ρ (fun ω1 d => d.pure = true ∧ P.ex ω1 ⟨C, some (f, d)⟩ ρ) fun ω1 y => P.ex ω1 y ρ) : sRaiseX C f qa P ω ρ := h
end
end LW
namespace LW
open PySem PySem.Spec PyProof.Rows L2
abbrev ScStep (w : World) (D : Addr) (te : TE) (N : Hp → Prop) (τ : L2.St) (G : Hp) : Prop :=
  te τ G fun y G' => ∃ (c : Int) (S : Int → Bool) (n : Nat), y = .int c ∧ G' D = some (SetO w D S n) ∧ n + 1 < scanBound ∧ N (upd G' D (SetO w D (fun j => S j || decide (j = c)) (if S c = true then n else n + 1)))
def tScI (w : World) (wi : TI) (g : TG) (te : TE) (vs : List Nat) : TE := fun τ G Q => wi τ G fun J G1 => ∀ D, G1 D = none → ∃ W : Nat → Nat → Hp → Prop, (∃ m, W 0 m (upd G1 D (SetO w D (fun _ => false) 0))) ∧ ∀ i m G, W i m G →
  (J.stop i G ∧ Q (.ref D) G) ∨ (J.go i G ∧ ∃ N : Hp → Prop, (∀ G', N G' → ∃ m', m' < m ∧ W (i + 1) m' G') ∧ ∀ x G', J.yld i G x G' → g x (L2.wipe τ vs) G' fun τ2 G2 => L2.wipe τ2 vs = L2.wipe τ vs ∧ ScStep w D te N τ2 G2)
theorem addI_ok {X : Cx} {pins : List (Addr × Obj)} {τ : L2.St} {G : Hp} {s : Shared} {E : Value → Shared → Prop} {D : Addr} {S : Int → Bool} {n : Nat} {y : Int} {tk : Tok} {Q : Value → Shared → Prop} (I : Inv X pins τ G s) (hD : G D = some (SetO X.w D S n)) (room : n + 1 < scanBound)
    (h : ∀ s', Inv X pins τ (upd G D (SetO X.w D (fun j => S j || decide (j = y)) (if S y = true then n else n + 1))) s' → Q .none s') : wpAny (model X.prog X.w) X.A (call (.builtin "set.add") [.ref D, .int y tk]) Q E s := by
  refine setR_add (setO_get I hD) room fun h' sb new => h _ (I.write (e := D) (t' := s.toks + 1) (by rw [hD]; trivial) (.inl rfl) (fun b u hb hu => (sb.2 b hb).trans hu) ?_ (setO_new new))
  have ⟨o, _, _, _, ho, _⟩ := new
  exact ⟨o, ho⟩
theorem pe_scI {X : Cx} {elt tg iter : Expr} {scope : Scope} {own : List (Str × Nat)} {pos : Pos} {wi : TI} {g : TG} {te : TE} (hc : X.calm = true) (hN : X.N.Nodup) (hi : PI X tg iter wi) (ok : BlkOk X.N X.env.scope scope own)
    (hg : ∀ (s : Shared) (H : Hp) (C : Addr) (cl : List (Str × Addr)) (fp : List Addr), L2.PG (X.blk s H scope (compEnvC scope cl C X.env) fp) tg g)
    (he : ∀ (s : Shared) (H : Hp) (C : Addr) (cl : List (Str × Addr)) (fp : List Addr), PE (X.blk s H scope (compEnvC scope cl C X.env) fp) elt te) (hs : ∀ x, foldedSetIterable iter X.env x = pure x := by intro _; rfl) :
    PE X (.SetComp elt [⟨tg, iter, [], 0⟩] scope pos) (tScI X.w wi g te (own.map (·.2))) := by
  refine ⟨fun pins s τ G Q I h => ?_⟩
  rw [PpSet.eval_SetComp]
  have fr : ∀ y ∈ scope.names, y.2 = .free → ∃ c, X.env.cells.lookup y.1 = some c := fun y hy e => (ok.free y hy e).elim (fun k => I.ok.has _ (.inl k)) fun k => I.ok.has _ (.inr k)
  refine wpAny_comprehension_free (use := none) rfl hs (closure_ok fr) ok.kind (fun y hy e => by rw [ok.uniq y hy, e]) (thn (hi.run pins s τ G _ I h) fun xv s1 hx => thn hx fun itv s2 ⟨it, fp, tn, J, G2, e, I2, T, st2, f2, q⟩ => ?_)
  subst e
  refine PpSet.newSet_ok (newEnv_comp ?_)
  obtain ⟨D, hD⟩ : ∃ D, s2.heap.objs.size = D := ⟨_, rfl⟩
  rw [hD]
  obtain ⟨W, ⟨m0, w0⟩, turn⟩ := q D (I2.hok.fresh (Nat.le_of_eq hD))
  obtain ⟨s3, hs3⟩ : ∃ s3 : Shared, ({ s2 with heap := s2.heap.push { cls := .type "set", dict := none, data := .set #[] 0 (.fresh 0 0 (!X.w.params.followText "set-order")) } } : Shared) = s3 := ⟨_, rfl⟩
  rw [hs3]
  obtain ⟨G3, hG3⟩ : ∃ G3, upd G2 D (SetO X.w D (fun _ => false) 0) = G3 := ⟨_, rfl⟩
  rw [hG3] at w0
  have kp : ∀ b o, s2.heap.get? b = some o → s3.heap.get? b = some o := fun b o e => by rw [← hs3]; exact Heap.get?_push_of_some _ e
  have I3 : Inv X pins τ G3 s3 := by
    rw [← hs3, ← hG3]
    refine I2.laid (t' := s2.toks) (fun b o e => Heap.get?_push_of_some _ e) (Nat.le_of_eq hD) ?_
    rw [← hD]
    exact setO_new (setR_fresh X.w)
  have f3 : ∀ b ∈ fp, FpOk X pins G3 b ∧ b < s3.heap.objs.size := fun b hb => by
    obtain ⟨o, ho, _⟩ := T.obj _ _ st2 b hb
    refine ⟨⟨?_, (f2 b hb).2⟩, Heap.lt_size (kp b o ho)⟩
    rw [← hG3, upd_ne (by rw [← hD]; exact Nat.ne_of_lt (Heap.lt_size ho))]
    exact (f2 b hb).1
  have I4 := block_start I3 ok hN f3
  obtain ⟨cl, hcl⟩ : ∃ cl, cellsFrom (s3.heap.objs.size + 1) scope.names (cloFrom X.env.cells scope.names []) = cl := ⟨_, rfl⟩
  rw [hcl] at I4
  have pg := hg s3 G3 s3.heap.objs.size cl fp
  have pe := he s3 G3 s3.heap.objs.size cl fp
  obtain ⟨ce, hce⟩ : ∃ ce, compEnvC scope cl s3.heap.objs.size X.env = ce := ⟨_, rfl⟩
  have cL : ce.locals = s3.heap.objs.size := by rw [← hce] <;> rfl
  rw [hce] at I4 pg pe
  obtain ⟨s4, hs4⟩ : ∃ s4 : Shared, ({ s3 with heap := pushCells (s3.heap.push { cls := .type "dict", data := .dict #[] }) scope.names } : Shared) = s4 := ⟨_, rfl⟩
  rw [hs4] at I4
  have st4 : tn 0 s4.heap := T.keep _ _ _ st2 fun b _ o e => by rw [← hs4]; exact pushCells_keeps _ _ _ _ (Heap.get?_push_of_some _ (kp b o e))
  have stat : ∀ {τ' : L2.St} {G' : Hp} {s' : Shared}, Inv (X.blk s3 G3 scope ce fp) [] τ' G' s' → (∀ b ∈ fp, G' b = none) → ∀ b ∈ fp, FpOk (X.blk s3 G3 scope ce fp) [] G' b := fun {τ' G' s'} I' hn b hb =>
    ⟨hn b hb, (I'.ok.exf b hb).1, I'.ok.exfs b hb, .inl hb, fun x c e => (I'.ok.exf b hb).2 x c e, fun p hp => absurd (show p ∈ ([] : List (Addr × Obj)) ++ [] from hp) (by simp)⟩
  have loop : codeAny (model X.prog X.w) X.A (.compLoop (.SetComp elt [⟨tg, iter, [], 0⟩] scope pos) 0 (.ref it) (.ref D) ce) (compPost (model X.prog X.w) X.A X.xe none (EP X pins τ Q) (.ref D) s3.heap.objs.size) s4 := by
    refine PpSet.compLoopS_any (fun n s' => ∃ i G', Inv (X.blk s3 G3 scope ce fp) [] (L2.wipe τ (own.map (·.2))) G' s' ∧ tn i s'.heap ∧ (∀ b ∈ fp, G' b = none) ∧ W i n G') ?_ m0 ⟨0, G3, I4, st4, fun b hb => (f3 b hb).1.1, w0⟩
    rintro n s5 ⟨i, G5, I5, st5, n5, w5⟩
    rcases turn i n G5 w5 with ⟨stop, qq⟩ | ⟨go, N, hN', step⟩
    · refine thnF (T.done (X.blk s3 G3 scope ce fp) rfl rfl rfl hc i [] s5 _ G5 (fun _ _ => False) I5 (stat I5 n5) st5 stop) fun r s6 ⟨hr, I6⟩ => ?_
      subst hr
      have I7 : Inv X pins τ G5 s6 := I3.call' (ch := fp) I6.os I6.base I6.hok I6.bare fun b hb => ⟨(f3 b hb).1.2.2.2.1, (f3 b hb).1.2.1, (f3 b hb).1.2.2.2.2.1, (f3 b hb).1.2.2.2.2.2⟩
      have nC : G5 s3.heap.objs.size = none := by
        rw [← cL]
        exact I6.free
      obtain ⟨m, hn, _⟩ := I6.loc
      have hn : s6.heap.Ns ce.locals m := hn
      rw [cL] at hn
      refine ⟨m, hn, fun h'' sb => ?_⟩
      obtain ⟨a0, a1, a2, a3, a4, a5⟩ := I3.fpOk (Nat.le_refl _) nC
      exact ⟨.ref D, G5, I7.turned (t' := s6.toks) (fun b o hb e => (sb.2 b hb).trans e) a0 a1 a3 a4 a5, rfl, qq⟩
    · refine thnF (T.item (X.blk s3 G3 scope ce fp) rfl rfl rfl hc i [] s5 _ G5 (fun _ _ => False) I5 (stat I5 n5) st5 go) fun r s6 ⟨u, hr, h6⟩ => ?_
      subst hr
      refine thnF h6 fun _ s7 ⟨x, G7, I7, r7, y7, st7, n7⟩ => ?_
      refine thnF (pg.run _ s7 _ G7 x u _ (I7.pinned (stat I7 n7) (T.obj _ _ st7)) r7 (step x G7 y7)) fun _ s8 ⟨τ8, G8, I8, hw8, q8⟩ => ?_
      refine wpAny_pure ?_
      show wpAny _ _ _ _ _ _
      refine thnF (pe.run _ s8 τ8 G8 _ I8 q8) fun z s10 ⟨yv, G10, I10, r10, cb, S0, n0, ey, hD10, hz10, nx⟩ => ?_
      subst ey
      obtain ⟨tk, rfl⟩ := (show ∃ t, z = Value.int cb t from r10)
      refine addI_ok (X := X.blk s3 G3 scope ce fp) I10 hD10 hz10 fun s' I' => ?_
      obtain ⟨m', hm, w'⟩ := hN' _ nx
      have pin' : ∀ b ∈ fp, ∀ o, s7.heap.get? b = some o → s'.heap.get? b = some o ∧ _ := fun b hb o e =>
        let z := I'.pin (b, o) (List.mem_append_right _ (List.mem_append_right _ (mem_pinsAt hb e)))
        ⟨z.1, z.2.1⟩
      have hl : (L2.wipe τ (own.map (·.2))).length = τ8.length := by rw [← hw8, wipe_length]
      refine ⟨m', hm, i + 1, _, (I'.unpinned (pins := [])).weak hl (fun j v e => ?_), T.keep _ _ _ st7 fun b hb o e => (pin' b hb o e).1, fun b hb => ?_, w'⟩
      · rw [← hw8] at e
        exact (wipe_some e).1
      · obtain ⟨o, e, _⟩ := T.obj _ _ st7 b hb
        exact (pin' b hb o e).2
  have fin := PpSet.codeAny_compStart_set (pos := pos) (scope := scope) (elt := elt) (target := tg) (iter := iter) (ifs := []) (rest := []) loop (T.self X.A 0 _ _ _ st4 loop)
  rw [← hs4, ← hce, ← hcl] at fin
  exact fin
def rLenSet (w : World) : List V → Hp → VK → Prop := fun xs H Q => ∃ (a : Addr) (S : Int → Bool) (n : Nat), xs = [.ref a] ∧ H a = some (SetO w a S n) ∧ n ≤ 1000000 ∧ Q (.int n) H
theorem cr_lenSet {X : Cx} : CallR X (.builtin "len") (rLenSet X.w) := by
  intro pins s σ H xs us Q I r h
  obtain ⟨a, S, n, rfl, ha, hz, q⟩ := h
  obtain ⟨u, rfl, ru⟩ := r.one
  cases (show u = Value.ref a from ru)
  have hS : s.heap.SetOf (intKind X.prog X.w) a S n := (setO_get I ha).setOf
  obtain ⟨o, es, ep, t, ho, hex, hd, _, _, _, hf, hn⟩ := hS
  exact call_len_set ho hex hd hf (by rw [hn] <;> omega) ⟨.int n, H, I.tok _, ⟨_, by rw [hn]⟩, q⟩
section
variable {X : Cx} {W : Wrl} {Wo : WX} {mi : Md} {qi : QTI W} {g : QTG} {qe : QT W} {vs ts : List Nat} {elt tg iter : Expr} {scope : Scope} {own : List (Str × Nat)} {pos pos2 p : Pos}
def kSc (g : QTG) (qe : QT W) (vs : List Nat) (ρ : List Sl) (ω1 : W.Ω) (ds : List D) (R : D → Prop) : Prop := still ρ vs = true ∧ ds.length ≤ 1000 ∧ ∃ f : Nat → Int, (∀ i d, ds[i]? = some d → g d (wipeP ρ vs) fun ρ2 => wipeP ρ2 vs = wipeP ρ vs ∧ qe ω1 ρ2 (fun ω2 y => ω2 = ω1 ∧ y = .int (f i)) (fun _ _ => False)) ∧
  ∀ n : Nat, (n = 1 ↔ 0 < ds.length ∧ ∀ i, i < ds.length → f i = f 0) → R (.int n)
def qLenSc (qi : QTI W) (g : QTG) (qe : QT W) (vs : List Nat) : QT W := fun ω ρ Q E => qi ω ρ (fun ω1 ds => kSc g qe vs ρ ω1 ds (Q ω1)) E
def ScInv (f : Nat → Int) (i : Nat) (S : Int → Bool) (n : Nat) : Prop := (∀ j, S j = true ↔ ∃ k, k < i ∧ f k = j) ∧ n ≤ i ∧ (n = 0 ↔ i = 0) ∧ (n = 1 ↔ 0 < i ∧ ∀ k, k < i → f k = f 0)
theorem ScInv.step {f : Nat → Int} {i n : Nat} {S : Int → Bool} (h : ScInv f i S n) : ScInv f (i + 1) (fun j => S j || decide (j = f i)) (if S (f i) = true then n else n + 1) := by
  obtain ⟨h1, h2, h3, h4⟩ := h
  refine ⟨fun j => ?_, by split <;> omega, ?_, ?_⟩
  · rw [Bool.or_eq_true, h1 j, decide_eq_true_iff]
    refine ⟨fun z => ?_, fun ⟨k, hk, e⟩ => ?_⟩
    · rcases z with ⟨k, hk, e⟩ | z
      · exact ⟨k, by omega, e⟩
      · exact ⟨i, by omega, z.symm⟩
    · by_cases z : k = i
      · exact .inr (by rw [← e, z])
      · exact .inl ⟨k, by omega, e⟩
  · split
    · rename_i hs
      obtain ⟨k, hk, _⟩ := (h1 _).mp hs
      omega
    · omega
  · split
    · rename_i hs
      obtain ⟨k, hk, e⟩ := (h1 _).mp hs
      rw [h4]
      refine ⟨fun ⟨z1, z2⟩ => ⟨by omega, fun m hm => ?_⟩, fun ⟨_, z2⟩ => ⟨by omega, fun m hm => z2 m (by omega)⟩⟩
      by_cases y : m = i
      · rw [y, ← e]; exact z2 k hk
      · exact z2 m (by omega)
    · rename_i hs
      refine ⟨fun z => ⟨by omega, fun m hm => ?_⟩, fun ⟨_, z2⟩ => ?_⟩
      · have : i = 0 := h3.mp (by omega)
        rw [show m = 0 by omega]
      · by_cases y : i = 0
        · have := h3.mpr y
          omega
        · exact absurd ((h1 _).mpr ⟨0, by omega, (z2 i (by omega)).symm⟩) hs
theorem lf_lenSc {K : PySem.W.Frag} {w : World} (hts : ∀ j, j ∈ ts → j ∈ vs) (σ : L2.St) (H : Hp) (Q : VK) (h : lfE .A K W Wo (qLenSc qi g qe vs) σ H Q) : tCB (rLenSet w) (tCons (tScI w (lfI mi K W Wo qi) (lfG mi K W ts g) (lfE .A K W Wo0 qe) vs) tNil) σ H Q := by
  obtain ⟨F, T, ω, ρ, Qp, Ep, R, q, hx, k⟩ := h
  refine ⟨F, T, ω, ρ, _, Ep, R, q, hx, fun T1 ω1 h ds J H1 R1 e1 it ⟨hst, hlen, f, hstep, hend⟩ D hD => ?_⟩
  obtain ⟨hv, Rw, back⟩ := wipeHid vs hst R1
  have F1D : F.H D = none := R1.gr.live D hD
  have Rg := Rw.guard hD (SetO w D (fun _ => false) 0)
  have eD : Ext T1 H1 T1 (upd H1 D (SetO w D (fun _ => false) 0)) := Ext.of0 (GrP.new hD)
  have hh : ∀ p, p ∈ h → p ∈ (((F.add h).add hv).grd D).hid := fun p hp => List.mem_append_right _ (List.mem_append_left _ hp)
  have hhv : ∀ p, p ∈ hv → p ∈ ((F.add h).add hv).hid := fun p hp => List.mem_append_left _ hp
  refine ⟨fun i n H => i + n = ds.length ∧ ∃ T S z, Rel K W (((F.add h).add hv).grd D) T ω1 (wipeP ρ vs) (L2.wipe σ vs) H ∧ Ext T1 H1 T H ∧ H D = some (SetO w D S z) ∧ ScInv f i S z, ⟨ds.length, by omega, T1, _, 0, Rg, eD, upd_same, ⟨fun j => ⟨fun z => (by cases z), fun ⟨k, hk, _⟩ => by omega⟩, Nat.le_refl _, by simp, by simp⟩⟩, fun i n H2 ⟨hn, T2, S, z, R2, e2, hD2, sc⟩ => ?_⟩
  obtain ⟨h1, h2, h3⟩ := it _ T2 ω1 _ _ H2 hh R2 i
  rcases Nat.lt_or_ge i ds.length with hi | hi
  · refine .inr ⟨h1 hi, fun H' => ∃ T S z, Rel K W (((F.add h).add hv).grd D) T ω1 (wipeP ρ vs) (L2.wipe σ vs) H' ∧ Ext T1 H1 T H' ∧ H' D = some (SetO w D S z) ∧ ScInv f (i + 1) S z, fun H' q => ⟨n - 1, by omega, by omega, q⟩, fun x H3 hy => ?_⟩
    obtain ⟨g3, rx⟩ := h3 ds[i] x H3 (List.getElem?_eq_getElem hi) hy
    have R3 := R2.grow g3
    have x3 : Ext T2 H2 T2 H3 := Ext.of0 g3
    refine ⟨_, T2, ω1, _, ds[i], _, R3, rx, hstep i _ (List.getElem?_eq_getElem hi), fun ρ4 σ4 R4 l4 f4 ⟨w4, q4⟩ => ⟨wipe_same l4 f4 hts, ?_⟩⟩
    have sw : L2.wipe σ4 vs = L2.wipe σ vs := wipe_same l4 f4 hts
    refine ⟨_, T2, ω1, ρ4, _, _, R4, q4, fun _ _ _ _ _ _ _ _ z => z, fun T6 ω6 y u H6 R6 e6 r6 ⟨eω, ey⟩ => ?_⟩
    subst eω ey
    have hu : u = .int (f i) := (RR.c (m := .A) r6).int
    have zz := R6.wipe vs
    rw [w4, sw] at zz
    have hD6 : H6 D = some (SetO w D S z) := (x3.trans e6).gr.keep _ _ hD2 (.inr (R2.s0 D (.inr rfl)).2)
    refine ⟨f i, S, z, hu, hD6, ?_, T6, _, _, zz.wrS (.inr rfl) F1D (fun u hu => by rw [hD6] at hu; cases hu; rfl), ?_, upd_same, sc.step⟩
    · have := sc.2.1
      have : (2000 : Nat) < scanBound := by decide
      omega
    · have gD : GrP (fun a => a = D) H6 (upd H6 D (SetO w D (fun j => S j || decide (j = f i)) (if S (f i) = true then z else z + 1))) := GrP.wr rfl fun u hu => by rw [hD6] at hu; cases hu; rfl
      exact ⟨(e2.trans (x3.trans e6)).gr.trans gD fun a z => by rw [z]; exact .inr hD, (e2.trans (x3.trans e6)).tn⟩
  · have : i = ds.length := by omega
    subst this
    refine .inl ⟨h2 hi, ?_⟩
    have Rf : Rel K W F T2 ω1 ρ σ H2 := (back _ T2 ω1 H2 hhv R2.unguard).drop.drop
    exact ⟨D, S, z, rfl, hD2, by have := sc.2.1; omega, k T2 ω1 (.int z) _ H2 Rf (e1.trans e2) (RepA.int _) (hend z sc.2.2.2)⟩
theorem qe_lenSc (hg : Gl X "len") (hm : X.mg "len" = none) (hc : X.calm = true) (hN : X.N.Nodup) (hi : QI X mi W Wo tg iter qi) (ok : BlkOk X.N X.env.scope scope own)
    (hgt : ∀ (s : Shared) (H : Hp) (C : Addr) (cl : List (Str × Addr)) (fp : List Addr), QG (X.blk s H scope (compEnvC scope cl C X.env) fp) mi W tg ts g)
    (he : ∀ (s : Shared) (H : Hp) (C : Addr) (cl : List (Str × Addr)) (fp : List Addr), QE (X.blk s H scope (compEnvC scope cl C X.env) fp) .A W Wo0 elt qe) (hts : ∀ j, j ∈ ts → j ∈ own.map (·.2) := by decide) (hs : ∀ x, foldedSetIterable iter X.env x = pure x := by intro _; rfl)
    (h1 : starEach [.SetComp elt [⟨tg, iter, [], 0⟩] scope pos] X.env = (false, eval (.SetComp elt [⟨tg, iter, [], 0⟩] scope pos) X.env) :: starEach [] X.env := by rfl) (h2 : (backTo pos2 (starEach [] X.env)).any (·.1) = false := by rfl) :
    QE X .A W Wo (.Call (.Name "len" p) [.SetComp elt [⟨tg, iter, [], 0⟩] scope pos] [] pos2) (qLenSc qi g qe (own.map (·.2))) :=
  PE.imp (pe_callB cr_lenSet hg hm (by decide +kernel) (pa_cons (pe_scI (g := lfG mi X.K W ts g) (te := lfE .A X.K W Wo0 qe) hc hN hi ok hgt he hs) pa_nil h1) (by decide) (by decide) h1 h2) (lf_lenSc hts)
theorem v_lenSc {ω : W.Ω} {ρ : List Sl} {Q : W.Ω → D → Prop} {E : W.Ω → Exn → Prop} (h : qi ω ρ (fun ω1 ds => kSc g qe vs ρ ω1 ds (Q ω1)) E) : qLenSc qi g qe vs ω ρ Q E := h
end
end LW
namespace LW
open PySem PySem.Spec PyProof.Rows L2
def fCountT (d : LW.D) (es : List LW.D) (Q : LW.D → Prop) : Prop := ∃ (ns : List Int) (z : Int), d = .tup (dInts ns) ∧ es = [.int z] ∧ Q (.int (ns.count z : Nat))
def fCountL (d : LW.D) (es : List LW.D) (Q : LW.D → Prop) : Prop := ∃ (ns : List Int) (z : Int), d = .lst (dInts ns) ∧ es = [.int z] ∧ Q (.int (ns.count z : Nat))
theorem v_tcount {ns : List Int} {z : Int} {Q : LW.D → Prop} (h : Q (.int (ns.count z : Nat))) : fCountT (.tup (dInts ns)) [.int z] Q := ⟨ns, z, rfl, rfl, h⟩
theorem v_lcount {ns : List Int} {z : Int} {Q : LW.D → Prop} (h : Q (.int (ns.count z : Nat))) : fCountL (.lst (dInts ns)) [.int z] Q := ⟨ns, z, rfl, rfl, h⟩
section
variable {X : Cx} {W : Wrl} {Wo : WX} {m : Md} {a : Expr} {qa : QT W} {p q pos apos c0 c1 : Pos} {n : Int} {j k j0 : Nat} {y z : Str}
end
theorem MkP.dfl {K : PySem.W.Frag} {C : Addr} {sp : Sp} {pf : PSp W0} {dvs : List V} {dds : List D} (h : MkP K C sp pf) (hd : ∀ H S, RepsA K H S dds dvs) : MkP K C (fun vs H Q E => sp (vs ++ dvs) H Q E) (fun ω ds Q E => pf ω (ds ++ dds) Q E) :=
  ⟨fun S T ds vs H Q E Qp Ep hS r q k kx x dx nx ndx ne => h.run S T (ds ++ dds) (vs ++ dvs) H Q E Qp Ep hS (RepsA.append (hd _ _) r) q k kx x dx nx ndx ne⟩
section
variable {X : Cx} {W : Wrl} {Wo : WX} {mr : Md} {pf : PSp W} {qs : QTA W} {k : Nat} {f : Addr} {fd : FuncData} {ps : List Str} {x : Str} {p pos : Pos} {e : Expr} {es : List Expr} {dvs : List V} {dds : List D} {ds : List Value}
end
end LW
namespace LW
open PySem PySem.Spec PyProof.Rows L2
theorem PK.imp {X : Cx} {e : List Keyword} {t t' : TA} (h : PK X e t) (k : ∀ σ H Q, t' σ H Q → t σ H Q) : PK X e t' := ⟨fun p pins s σ H Q I q => h.run p pins s σ H Q I (k σ H Q q)⟩
section
variable {X : Cx} {W : Wrl} {Wo : WX} {m m1 : Md} {e : Expr} {kws : List Keyword} {kpos : Pos} {nm : Option Str} {qa : QT W} {qs qk : QTA W}
def qCallK (n m : Nat) (g : List D → List D → List D) (pf : PSp W) (qs qk : QTA W) : QT W := fun ω ρ Q E => qs ω ρ (fun ω1 ds => qk ω1 ρ (fun ω2 es => ds.length = n ∧ es.length = m ∧ pf ω2 (g ds es) Q E) E) E
variable {k n : Nat} {f : Addr} {fd : FuncData} {ps ks : List Str} {pf : PSp W} {x : Str} {p pos : Pos} {es : List Expr} {g : List Value → List Value → List Value} {gV : List V → List V → List V} {gD : List D → List D → List D} {mr : Md}
variable {ω : W.Ω} {ρ : List Sl} {Q : W.Ω → LW.D → Prop} {E : W.Ω → Exn → Prop}
theorem v_callK {m : Nat} (h : qs ω ρ (fun ω1 ds => qk ω1 ρ (fun ω2 es => ds.length = n ∧ es.length = m ∧ pf ω2 (gD ds es) Q E) E) E) : qCallK n m gD pf qs qk ω ρ Q E := h
end
end LW
namespace LW
open PySem PySem.Spec PyProof.Rows L2
def Tape (b : Nat) (H : Hp) (t : Addr) : Prop := ∃ (a : Addr) (o : Obj) (ns : List Int) (i n k : Int), H t = some (.lst [.ref a, .int i, .int n, .int k]) ∧ H a = some (.frz o (.lst (ns.map V.int))) ∧ ns.length ≤ 63 ∧ 0 ≤ i ∧ 0 ≤ n ∧ 0 ≤ k ∧ k ≤ b
theorem Tape.mono {b b' : Nat} {H : Hp} {t : Addr} (h : Tape b H t) (l : b ≤ b') : Tape b' H t := by
  obtain ⟨a, o, ns, i, n, k, h1, h2, h4, h5, h6, h7, h8⟩ := h
  exact ⟨a, o, ns, i, n, k, h1, h2, h4, h5, h6, h7, by omega⟩
theorem Tape.gr {b : Nat} {H H' : Hp} {t : Addr} {S : List Addr} (h : Tape b H t) (g : Gr S H H') (hn : t ∉ S) : Tape b H' t := by
  obtain ⟨a, o, ns, i, n, k, h1, h2, h3⟩ := h
  exact ⟨a, o, ns, i, n, k, g.keep _ _ h1 hn, g.get h2 rfl, h3⟩
theorem Tape.gr0 {b : Nat} {H H' : Hp} {t : Addr} (h : Tape b H t) (g : Gr [] H H') : Tape b H' t := h.gr g (by simp)
theorem Tape.gr1 {b : Nat} {H H' : Hp} {t l : Addr} (h : Tape b H t) (g : Gr [l] H H') (hn : t ≠ l) : Tape b H' t := h.gr g (by simpa using hn)
theorem Tape.at {b : Nat} {H : Hp} {t : Addr} (h : Tape b H t) : ∃ xs, H t = some (.lst xs) := by
  obtain ⟨a, o, ns, i, n, k, h1, _⟩ := h
  exact ⟨_, h1⟩
theorem Tape.ne {b : Nat} {H : Hp} {t l : Addr} (h : Tape b H t) (e : H l = none) : t ≠ l := by
  obtain ⟨xs, h1⟩ := h.at
  exact ne_of_none h1 e
inductive TS
  | scr (a : Addr) (ns : List Int)
  | tape (t : Addr) (b : Nat)
def FzL (K : PySem.W.Frag) (H : Hp) (a : Addr) (xs : List V) : Prop := (∃ o, H a = some (.frz o (.lst xs))) ∨
  ∃ (o : Obj) (its : Array Value) (n : Nat), K.lookup a = some o ∧ o.cls = .type "list" ∧ o.dict = none ∧ o.data = .seq its n ∧ its.size ≤ sizeLine ∧ Vals xs its.toList
theorem FzL.sql {K : PySem.W.Frag} {H : Hp} {a : Addr} {xs : List V} (h : FzL K H a xs) : SqL K H a xs := h.imp .inr id
theorem FzL.of {K : PySem.W.Frag} {H : Hp} {a : Addr} {xs : List V} (hO : Only H) (h : SqL K H a xs) : FzL K H a xs := by
  rcases h with (h | h) | h
  · rcases hO a with z | ⟨o, ys, z⟩
    · rw [z] at h; cases h
    · rw [z] at h; cases h
  · exact .inl h
  · exact .inr h
def invT (K : PySem.W.Frag) : TS → ASet → Hp → Prop
  | .scr a ns, T, H => (∀ x, ¬ T x) ∧ FzL K H a (ns.map V.int) ∧ ns.length ≤ 63
  | .tape t b, T, H => (∀ x, T x ↔ x = t) ∧ Tape b H t
@[reducible] def WT (K : PySem.W.Frag) : Wrl where
  Ω := TS
  inv := invT K
  st := by
    intro ω T U H H' h g hU
    cases ω with
    | scr a ns =>
      obtain ⟨h1, h2, h3⟩ := h
      refine ⟨h1, ?_, h3⟩
      rcases h2 with ⟨o, h2⟩ | h2
      · exact .inl ⟨o, g.keep _ _ h2 (.inl rfl)⟩
      · exact .inr h2
    | tape t b =>
      obtain ⟨h1, a, o, ns, i, n, k, h2, h3, h4⟩ := h
      exact ⟨h1, a, o, ns, i, n, k, g.keep _ _ h2 (.inr fun z => hU t z ((h1 t).mpr rfl)), g.keep _ _ h3 (.inl rfl), h4⟩
  lv := by
    intro ω T H a h ht
    cases ω with
    | scr a ns => exact absurd ht (h.1 _)
    | tape t b =>
      obtain ⟨h1, a, o, ns, i, n, k, h2, h3, h4⟩ := h
      have := (h1 _).mp ht
      subst this
      exact ⟨_, h2, rfl⟩
variable {K : PySem.W.Frag}
def pf__law_begin (K : PySem.W.Frag) : PSp (WT K) := fun ω ds Q _ => ∃ (a : Addr) (ns : List Int), ω = TS.scr a ns ∧ ds = [.adr a] ∧ ∀ t : Addr, Q (TS.tape t 0) (.adr t)
def pf__law_draw (K : PySem.W.Frag) : PSp (WT K) := fun ω ds Q _ => ∃ (t : Addr) (b : Nat) (m : Int), ω = TS.tape t b ∧ ds = [.adr t, .int m] ∧ b < 1000000000 ∧ 0 < m ∧ m < 2 ^ 256 ∧ ∀ r : Int, 0 ≤ r → r < m → Q (TS.tape t (b + 1)) (.int r)
theorem v_begin {a : Addr} {ns : List Int} {Q : TS → D → Prop} {E : TS → Exn → Prop} (h : ∀ t : Addr, Q (.tape t 0) (.adr t)) : pf__law_begin K (TS.scr a ns) [.adr a] Q E := ⟨a, ns, rfl, rfl, h⟩
theorem v_draw {t : Addr} {b : Nat} {m : Int} {Q : TS → D → Prop} {E : TS → Exn → Prop} (hb : b < 1000000000) (hm : 0 < m) (hm2 : m < 2 ^ 256) (h : ∀ r : Int, 0 ≤ r → r < m → Q (.tape t (b + 1)) (.int r)) : pf__law_draw K (TS.tape t b) [.adr t, .int m] Q E := ⟨t, b, m, rfl, rfl, hb, hm, hm2, h⟩
def pf_law (K : PySem.W.Frag) : PSp (WT K) := fun ω ds Q _ => ∃ (a : Addr) (ns : List Int), ω = TS.scr a ns ∧ ds = [.adr a] ∧ ∀ ω', Q ω' (.bl true)
theorem sp_law_of {H : Hp} {a : Addr} {ns : List Int} (hl : ns.length ≤ 63) (hO : Only H) (hS : SqL K H a (ns.map V.int)) : spM .A K (WT K) (pf_law K) [.ref a] H (fun v _ => v = .bl true) (fun _ _ _ => False) :=
  ⟨nop, nop, TS.scr a ns, [.adr a], fun _ d => d = .bl true, fun _ _ => False, fun _ z => z.elim, ⟨fun _ z => z, FzL.of hO hS, hl⟩, .cons (.adr a) .nil, ⟨a, ns, rfl, rfl, fun _ => rfl⟩, fun T' ω' d v H' _ _ r q => by
    subst q
    exact (RR.c (m := .A) (os := []) (H := H) (show RR .A K H H' _ [] (.bl true) v from r)).bl, fun _ _ _ _ _ _ _ _ _ z => z.elim⟩
theorem from_begin {vs : List V} {H : Hp} {Q : VK} {E : XK} (h : spM .A K (WT K) (pf__law_begin K) vs H Q E) : ∃ (a : Addr) (ns : List Int), vs = [.ref a] ∧ SqL K H a (ns.map V.int) ∧ ns.length ≤ 63 ∧ ∀ t H', H t = none → Gr [] H H' → Tape 0 H' t → Q (.ref t) H' := by
  obtain ⟨S, T, ω, ds, Qp, Ep, hS, hi, r, ⟨a, ns, rfl, rfl, q⟩, k, kx⟩ := h
  obtain ⟨h1, h2, h3⟩ := hi
  cases r with
  | cons r r2 =>
    cases r2
    cases r
    refine ⟨a, ns, rfl, h2.sql, h3, fun t H' n g ht => ?_⟩
    exact k (fun x => x = t) (TS.tape t 0) (.adr t) _ H' ⟨(g.p0).mono fun _ z => z.elim, fun x z => .inr (by rw [z]; exact n)⟩ ⟨fun x => Iff.rfl, ht⟩ (RepA.adr t) (q t)
theorem from_draw {vs : List V} {H : Hp} {Q : VK} {E : XK} (h : spM .A K (WT K) (pf__law_draw K) vs H Q E) : ∃ (t : Addr) (m : Int) (b : Nat), vs = [.ref t, .int m] ∧ Tape b H t ∧ b < 1000000000 ∧ 0 < m ∧ m < 2 ^ 256 ∧ ∀ (r : Int) H', 0 ≤ r → r < m → Gr [t] H H' → Tape (b + 1) H' t → Q (.int r) H' := by
  obtain ⟨S, T, ω, ds, Qp, Ep, hS, hi, r, ⟨t, b, m, rfl, rfl, hb, hm, hm2, q⟩, k, kx⟩ := h
  obtain ⟨h1, h2⟩ := hi
  cases r with
  | cons r r2 =>
    cases r2 with
    | cons r2 r3 =>
      cases r3
      cases r
      cases r2
      refine ⟨t, m, b, rfl, h2, hb, hm, hm2, fun i H' i0 i1 g ht => ?_⟩
      obtain ⟨xs, hx⟩ := ht.at
      exact k T (TS.tape t (b + 1)) (.int i) _ H' ⟨(g.p1 ⟨_, hx⟩).mono fun x z => (h1 x).mpr z, fun x z => .inl z⟩ ⟨h1, ht⟩ (RepA.int i) (q i i0 i1)
def pf__law_shuffled (K : PySem.W.Frag) : PSp (WT K) := fun ω ds Q _ => ∃ (t : Addr) (b m : Nat), ω = TS.tape t b ∧ ds = [.adr t, .int m] ∧ b < 100000000 ∧ 1 ≤ m ∧ m ≤ 12 ∧ ∀ ps : List Int, IsNum ps → ps.length = m → Q (TS.tape t (b + 12)) (.lst (dInts ps))
theorem v_shuffled {t : Addr} {b m : Nat} {Q : TS → D → Prop} {E : TS → Exn → Prop} (hb : b < 100000000) (m1 : 1 ≤ m) (m2 : m ≤ 12) (h : ∀ ps : List Int, IsNum ps → ps.length = m → Q (.tape t (b + 12)) (.lst (dInts ps))) : pf__law_shuffled K (TS.tape t b) [.adr t, .int m] Q E := ⟨t, b, m, rfl, rfl, hb, m1, m2, h⟩
theorem from_shuffled {vs : List V} {H : Hp} {Q : VK} {E : XK} (h : spM .F K (WT K) (pf__law_shuffled K) vs H Q E) : ∃ (t : Addr) (m b : Nat), vs = [.ref t, .int m] ∧ Tape b H t ∧ b < 100000000 ∧ 1 ≤ m ∧ m ≤ 12 ∧ ∀ l ps H', H l = none → Gr [t] H H' → H' l = some (.lst (ps.map V.int)) → IsNum ps → ps.length = m → Tape (b + 12) H' t → Q (.ref l) H' := by
  obtain ⟨S, T, ω, ds, Qp, Ep, hS, hi, r, ⟨t, b, m, rfl, rfl, hb, m1, m2, q⟩, k, kx⟩ := h
  obtain ⟨h1, h2⟩ := hi
  cases r with
  | cons r r2 =>
    cases r2 with
    | cons r2 r3 =>
      cases r3
      cases r
      cases r2
      refine ⟨t, m, b, rfl, h2, hb, m1, m2, fun l ps H' n g hl hp lp ht => ?_⟩
      obtain ⟨xs, hx⟩ := ht.at
      refine k T (TS.tape t (b + 12)) (.lst (dInts ps)) _ H' ⟨(g.p1 ⟨_, hx⟩).mono fun x z => (h1 x).mpr z, fun x z => .inl z⟩ ⟨h1, ht⟩ ⟨l, _, _, rfl, rfl, n, fun z => ?_, hl, repsA_ints ps⟩ (q ps hp lp)
      rcases z with z | z
      · exact (hS l z).1 n
      · exact h2.ne n ((h1 l).mp z).symm
def pf__law_same : PSp W0 := fun _ ds Q _ => (∃ d e : D, ds = [d, e] ∧ d = e ∧ d.lev 8 = true ∧ Q () (.bl true)) ∨ ∃ x y : Str, ds = [.str x, .str y] ∧ x ≠ y ∧ Q () (.bl false)
theorem v_same {d e : D} {Q : Unit → D → Prop} {E : Unit → Exn → Prop} (h1 : d = e) (h2 : d.lev 8 = true) (h : Q () (.bl true)) : pf__law_same () [d, e] Q E := .inl ⟨d, e, rfl, h1, h2, h⟩
theorem from_same {vs : List V} {H : Hp} {Q : VK} {E : XK} (h : spM .A K W0 pf__law_same vs H Q E) : (∃ (v w : V) (d : D), vs = [v, w] ∧ Rep K H d v ∧ Rep K H d w ∧ d.lev 8 = true ∧ Q (.bl true) H) ∨ ∃ x y : Str, vs = [.str x, .str y] ∧ x ≠ y ∧ Q (.bl false) H := by
  obtain ⟨S, T, ω, ds, Qp, Ep, hS, hi, r, ⟨d, e, rfl, rfl, hl, q⟩ | ⟨x, y, rfl, hn, q⟩, k, kx⟩ := h
  · cases r with
    | cons r r2 =>
      cases r2 with
      | cons r2 r3 =>
        cases r3
        exact .inl ⟨_, _, d, rfl, r.rep, r2.rep, hl, k T () (.bl true) _ H .refl hi (RepA.bl true) q⟩
  · cases r with
    | cons r r2 =>
      cases r2 with
      | cons r2 r3 =>
        cases r3
        cases r
        cases r2
        exact .inr ⟨x, y, rfl, hn, k T () (.bl false) _ H .refl hi (RepA.bl false) q⟩
end LW
namespace LW
open PySem PySem.Spec PyProof.Rows L2
abbrev numD (K : PySem.W.Frag) (ps : List Int) : D := .ins (NC K) ["places"] [.tup (dInts ps)]
def pf_Numbering (K : PySem.W.Frag) : PSp W0 := fun _ ds Q E => ∃ ns : List Int, (ds = [.lst (dInts ns)] ∨ ds = [.tup (dInts ns)]) ∧ ((¬ IsNum ns ∧ E () ⟨He.ga K "BadNumbering", none⟩) ∨ (IsNum ns ∧ Q () (numD K ns)))
section
variable {K : PySem.W.Frag}
theorem v_num {ns : List Int} {Q : Unit → D → Prop} {E : Unit → Exn → Prop} (hn : IsNum ns) (h : Q () (numD K ns)) : pf_Numbering K () [.lst (dInts ns)] Q E := ⟨ns, .inl rfl, .inr ⟨hn, h⟩⟩
theorem pure_num (ps : List Int) : (numD K ps).pure = true := by
  show ((D.tup (dInts ps)).pure && true) = true
  rw [Bool.and_true]
  exact pure_ints ps
theorem mkp_num : MkP K (NC K) (sp_Numbering___init__ K) (pf_Numbering K) where
  run := by
    rintro S T ds vs H Q E Qp Ep hS r ⟨ns, hd, q⟩ k kx x dx nx ndx ne
    have g := Gr.made (C := NC K) nx ndx
    have key : ∃ p, vs = [.ref p] ∧ (SqL K H p (ns.map V.int) ∨ TupX H p (ns.map V.int)) := by
      rcases hd with rfl | rfl
      · cases r with
        | cons r r2 =>
          cases r2
          obtain ⟨l, xs, rfl, hl, hr⟩ := repA_lst r
          rw [hr.ints] at hl
          exact ⟨l, rfl, .inl hl⟩
      · cases r with
        | cons r r2 =>
          cases r2
          cases r with
          | tup h hr =>
            rw [hr.ints] at h
            exact ⟨_, rfl, .inr h⟩
    obtain ⟨p, rfl, hp⟩ := key
    refine ⟨x, dx, p, ns, rfl, upd_same, hp.imp g.sql0 (·.gr g), q.imp (fun ⟨h1, h2⟩ => ⟨h1, fun H' g' => ?_⟩) fun ⟨h1, h2⟩ => ⟨h1, fun t H' g' hx ht => ⟨rfl, ?_⟩⟩⟩
    · exact kx ⟨He.ga K "BadNumbering", none⟩ _ none H' (g.trans0 g').p0 ⟨rfl, rfl⟩ h2
    · have gg : Gr [] H H' := g.transN g' nx
      exact k _ _ H' gg.p0 (.ins (xs := [.ref t]) hx rfl rfl (.cons (.tup ht (repsA_ints ns)) .nil)) h2
def pf_Numbering___mul__ (K : PySem.W.Frag) : PSp W0 := fun _ ds Q E => ∃ ps qs : List Int, ds = [numD K ps, numD K qs] ∧ IsNum ps ∧ IsNum qs ∧ ((ps.length ≠ qs.length ∧ E () ⟨He.ga K "BadNumbering", none⟩) ∨ (ps.length = qs.length ∧ Q () (numD K (mulP ps qs))))
def pf_Numbering___invert__ (K : PySem.W.Frag) : PSp W0 := fun _ ds Q _ => ∃ ps : List Int, ds = [numD K ps] ∧ IsNum ps ∧ Q () (numD K (invP ps))
def pf_Numbering___len__ (K : PySem.W.Frag) : PSp W0 := fun _ ds Q _ => ∃ ps : List Int, ds = [numD K ps] ∧ Q () (.int ps.length)
variable {Q : Unit → D → Prop} {E : Unit → Exn → Prop} {ps qs : List Int} {k n b : Int}
theorem v_inve (h1 : IsNum ps) (h : Q () (numD K (invP ps))) : pf_Numbering___invert__ K () [numD K ps] Q E := ⟨ps, rfl, h1, h⟩
theorem v_numLen (h : Q () (.int ps.length)) : pf_Numbering___len__ K () [numD K ps] Q E := ⟨ps, rfl, h⟩
end
theorem atI_ints {ns : List Int} {k : Int} (h0 : 0 ≤ k) (h1 : k < ns.length) : atI (dInts ns) k = some (.int (atP ns k)) := by
  refine atI_of h0 ?_
  unfold dInts atP
  rw [List.getElem?_map, List.getD_eq_getElem?_getD, List.getElem?_eq_getElem (by omega)] <;> rfl
theorem length_dInts (ns : List Int) : (dInts ns).length = ns.length := by unfold dInts; rw [List.length_map]
theorem dInts_append (a b : List Int) : dInts a ++ dInts b = dInts (a ++ b) := by unfold dInts; rw [List.map_append]
theorem dInts_one (a : Int) : [D.int a] = dInts [a] := rfl
theorem dInts_map {α : Type} (f : α → Int) (l : List α) : l.map (fun x => D.int (f x)) = dInts (l.map f) := by unfold dInts; rw [List.map_map] <;> rfl
theorem deq_lstI {a b : List Int} : deq (.lst (dInts a)) (.lst (dInts b)) = decide (a = b) := by
  by_cases h : a = b
  · rw [decide_eq_true h, deq_t (by rw [h])]
  · rw [decide_eq_false h, deq_f fun z => h (dInts_inj (D.lst.inj z))]
end LW
namespace LW
open PySem PySem.Spec PyProof.Rows L2
def nextR (n : Nat) (b : List Int) : List (List Int) := ((rg n).filter fun p => !decide (p ∈ b)).map fun p => b ++ [p]
def rowsP (n : Nat) : Nat → List (List Int)
  | 0 => [[]]
  | k + 1 => (rowsP n k).flatMap (nextR n)
def allP (n : Nat) : List (List Int) := rowsP n n
structure RowOk (n k : Nat) (b : List Int) : Prop where
  len : b.length = k
  nd : b.Nodup
  rng : ∀ x ∈ b, 0 ≤ x ∧ x < n
theorem rowsP_ok {n : Nat} : ∀ {k : Nat} {b : List Int}, b ∈ rowsP n k → RowOk n k b
  | 0, b, h => by
    rw [List.mem_singleton.mp h]
    exact ⟨rfl, List.nodup_nil, fun x hx => by cases hx⟩
  | k + 1, b, h => by
    obtain ⟨a, ha, hb⟩ := List.mem_flatMap.mp h
    obtain ⟨p, hp, rfl⟩ := List.mem_map.mp hb
    obtain ⟨h1, h2⟩ := List.mem_filter.mp hp
    have r := rowsP_ok ha
    have hn : p ∉ a := by simpa using h2
    refine ⟨by rw [List.length_append, r.len] <;> rfl, ?_, fun x hx => ?_⟩
    · rw [List.nodup_append]
      refine ⟨r.nd, List.nodup_cons.mpr ⟨(fun z => by cases z), List.nodup_nil⟩, ?_⟩
      intro x hx y hy e
      rw [List.mem_singleton.mp hy] at e
      rw [e] at hx
      exact hn hx
    · rcases List.mem_append.mp hx with q | q
      · exact r.rng x q
      · rw [List.mem_singleton.mp q]
        have := mem_rg.mp h1
        exact ⟨by omega, by omega⟩
theorem nextR_len {n : Nat} {b : List Int} : (nextR n b).length ≤ n := by
  unfold nextR
  rw [List.length_map]
  refine Nat.le_trans (List.length_filter_le _ _) ?_
  rw [length_rg]
  exact Nat.le_refl _
theorem flatMap_len {α β : Type} {f : α → List β} {n : Nat} (h : ∀ a, (f a).length ≤ n) : ∀ l : List α, (l.flatMap f).length ≤ l.length * n
  | [] => by simp
  | a :: l => by
    rw [List.flatMap_cons, List.length_append, List.length_cons, Nat.add_mul, Nat.one_mul, Nat.add_comm]
    exact Nat.add_le_add (flatMap_len h l) (h a)
theorem rowsP_len {n : Nat} (h : n ≤ 6) : ∀ k, (rowsP n k).length ≤ 6 ^ k
  | 0 => Nat.le_refl _
  | k + 1 => by
    refine Nat.le_trans (flatMap_len (n := 6) (fun a => Nat.le_trans nextR_len h) _) ?_
    rw [Nat.pow_succ]
    exact Nat.mul_le_mul (rowsP_len h k) (Nat.le_refl _)
theorem pow6 {k : Nat} (h : k ≤ 6) : 6 ^ k ≤ 46656 := by
  have : 6 ^ k ≤ 6 ^ 6 := Nat.pow_le_pow_right (by decide) h
  exact this
theorem allP_num {n : Nat} (h1 : 1 ≤ n) (h : n ≤ 12) {b : List Int} (hb : b ∈ allP n) : IsNum b ∧ b.length = n := by
  have r := rowsP_ok hb
  exact ⟨IsNum.of h1 h r.len r.nd r.rng, r.len⟩
theorem flatMap_take {α β : Type} {f : α → List β} {l : List α} {i : Nat} {a : α} (h : l[i]? = some a) : (l.take (i + 1)).flatMap f = (l.take i).flatMap f ++ f a := by
  rw [List.take_succ, h, List.flatMap_append]
  simp
def pf_every_numbering (K : PySem.W.Frag) : PSpG := fun ds ys fin => ∃ n : Int, ds = [.int n] ∧ ((1 ≤ n ∧ n ≤ 6 ∧ ys = (allP n.toNat).map (numD K) ∧ fin = none) ∨ (¬ (1 ≤ n ∧ n ≤ 6) ∧ ys = [] ∧ fin = some ⟨He.ga K "BadSize", none⟩))
theorem v_every {K : PySem.W.Frag} {n : Nat} {R : List D → Option Exn → Prop} (h1 : 1 ≤ n) (h2 : n ≤ 6) (h : R ((allP n).map (numD K)) none) : ∃ ys fin, pf_every_numbering K [.int n] ys fin ∧ R ys fin :=
  ⟨_, _, ⟨n, rfl, .inl ⟨by omega, by omega, rfl, rfl⟩⟩, h⟩
end LW
namespace LW
open PySem PySem.Spec PyProof.Rows L2
end LW
namespace LW
open PySem PySem.Spec PyProof.Rows L2
theorem PE.or {X : Cx} {e : Expr} {t1 t2 : TE} (h1 : PE X e t1) (h2 : PE X e t2) : PE X e (fun σ H Q => t1 σ H Q ∨ t2 σ H Q) := ⟨fun pins s σ H Q I q => q.elim (h1.run pins s σ H Q I) (h2.run pins s σ H Q I)⟩
def qAlt {W : Wrl} (q1 q2 : QT W) : QT W := fun ω ρ Q E => q1 ω ρ Q E ∨ q2 ω ρ Q E
theorem qe_alt {X : Cx} {m : Md} {W : Wrl} {Wo : WX} {e : Expr} {q1 q2 : QT W} (h1 : QE X m W Wo e q1) (h2 : QE X m W Wo e q2) : QE X m W Wo e (qAlt q1 q2) := PE.imp (PE.or h1 h2) fun σ H Q ⟨F, T, ω, ρ, Qp, Ep, R, q, hx, k⟩ =>
  q.elim (fun q => .inl ⟨F, T, ω, ρ, Qp, Ep, R, q, hx, k⟩) (fun q => .inr ⟨F, T, ω, ρ, Qp, Ep, R, q, hx, k⟩)
theorem v_alt1 {W : Wrl} {q1 q2 : QT W} {ω : W.Ω} {ρ : List Sl} {Q : W.Ω → D → Prop} {E : W.Ω → Exn → Prop} (h : q1 ω ρ Q E) : qAlt q1 q2 ω ρ Q E := .inl h
theorem v_alt2 {W : Wrl} {q1 q2 : QT W} {ω : W.Ω} {ρ : List Sl} {Q : W.Ω → D → Prop} {E : W.Ω → Exn → Prop} (h : q2 ω ρ Q E) : qAlt q1 q2 ω ρ Q E := .inr h
end LW
namespace LW
open PySem PySem.Spec PyProof.Rows L2
def lineNo (w : Str) (L : Nat) : Int := match (List.range L).find? fun (i : Nat) => decide (w = ((toString (i : Int) : String) : Str)) with
  | some i => i
  | none => -1
def pf__line_number : PSp W0 := fun _ ds Q _ => ∃ (w : Str) (L : Nat), ds = [.str w, .int L] ∧ L ≤ 1000 ∧ Q () (.int (lineNo w L))
theorem v_lineNo {w : Str} {L : Nat} {Q : Unit → D → Prop} {E : Unit → Exn → Prop} (h1 : L ≤ 1000) (h : Q () (.int (lineNo w L))) : pf__line_number () [.str w, .int L] Q E := ⟨w, L, rfl, h1, h⟩
theorem lineNo_some {w : Str} {L i : Nat} (h : i < L) (e : w = ((toString (i : Int) : String) : Str)) (hn : ∀ j, j < i → w ≠ ((toString (j : Int) : String) : Str)) : lineNo w L = i := by
  have : (List.range L).find? (fun (i : Nat) => decide (w = ((toString (i : Int) : String) : Str))) = some i := by
    refine List.find?_range_eq_some.mpr ⟨decide_eq_true e, List.mem_range.mpr h, fun j hj => ?_⟩
    rw [decide_eq_false (hn j hj)] <;> rfl
  unfold lineNo
  rw [this]
theorem lineNo_none {w : Str} {L : Nat} (hn : ∀ j, j < L → w ≠ ((toString (j : Int) : String) : Str)) : lineNo w L = -1 := by
  have : (List.range L).find? (fun (i : Nat) => decide (w = ((toString (i : Int) : String) : Str))) = none := by
    refine List.find?_range_eq_none.mpr fun j hj => ?_
    rw [decide_eq_false (hn j hj)] <;> rfl
  unfold lineNo
  rw [this]
def movesW : List Str := ["take", "give", "on"]
def condsW : List Str := ["first", "empty", "mine", "other", "none", "full", "enough", "behind"]
def rowD (v : Str) (b : Bool) (c : Str) (t : Int) : D := .tup [.str v, .bl b, .str c, .int t]
def parseW (w0 : Str) (ws : List Str) (L : Nat) : D :=
  if ws = [] ∧ (w0 = "rest" ∨ w0 = "room") then rowD w0 false "" 0
  else if ws = [] ∧ Txt.removesuffix w0 "*" ∈ movesW then rowD (Txt.removesuffix w0 "*") (Txt.endswith w0 "*") "" 0
  else if ws.length = 1 ∧ w0 = "wait" ∧ ws.headD "" ∈ condsW then rowD w0 false (ws.headD "") 0
  else if ws.length = 1 ∧ w0 = "go" ∧ 0 ≤ lineNo ((w0 :: ws).getLastD "") L then rowD w0 false "" (lineNo ((w0 :: ws).getLastD "") L)
  else if ws.length = 2 ∧ (w0 = "if" ∨ w0 = "unless") ∧ ws.headD "" ∈ condsW ∧ 0 ≤ lineNo ((w0 :: ws).getLastD "") L then rowD w0 false (ws.headD "") (lineNo ((w0 :: ws).getLastD "") L)
  else .non
def pf__parsed : PSp W0 := fun _ ds Q _ => ∃ (t : Str) (L : Nat) (w0 : Str) (ws : List Str), ds = [.str t, .int L] ∧ Txt.split t " " = w0 :: ws ∧ t.length ≤ 1000 ∧ w0.length ≤ 1000 ∧ ws.length ≤ 1000 ∧ L ≤ 1000 ∧ Q () (parseW w0 ws L)
abbrev PC (K : PySem.W.Frag) : Addr := He.ga K "Program"
def OkT (L : Nat) (t : Str) (r : D) : Prop := ∃ w0 ws, Txt.split t " " = w0 :: ws ∧ t.length ≤ 1000 ∧ w0.length ≤ 1000 ∧ ws.length ≤ 1000 ∧ parseW w0 ws L = r ∧ r.isNon = false ∧ r.pure = true
def OkP (ts : List Str) (rs : List D) : Prop := 1 ≤ ts.length ∧ ts.length ≤ 24 ∧ rs.length = ts.length ∧ ts[0]? = some ("rest" : Str) ∧ ∀ (i : Nat) (t : Str) (r : D), ts[i]? = some t → rs[i]? = some r → OkT ts.length t r
abbrev progD (K : PySem.W.Frag) (ts : List Str) (rs : List D) : D := .ins (PC K) ["instructions", "rows"] [.tup (dStrs ts), .tup rs]
def pf_Program (K : PySem.W.Frag) : PSp W0 := fun _ ds Q _ => ∃ (ts : List Str) (rs : List D), (ds = [.lst (dStrs ts)] ∨ ds = [.tup (dStrs ts)]) ∧ OkP ts rs ∧ Q () (progD K ts rs)
theorem mono_Program {K : PySem.W.Frag} : Mono (pf_Program K) := fun ds Q Q' E E' ⟨ts, rs, h1, h2, h3⟩ hq _ => ⟨ts, rs, h1, h2, hq _ h3⟩
theorem v_prog {K : PySem.W.Frag} {ts : List Str} {rs : List D} {Q : Unit → D → Prop} {E : Unit → Exn → Prop} (h : OkP ts rs) (q : Q () (progD K ts rs)) : pf_Program K () [.lst (dStrs ts)] Q E := ⟨ts, rs, .inl rfl, h, q⟩
theorem v_parsed {t : Str} {L : Nat} {r : D} {Q : Unit → D → Prop} {E : Unit → Exn → Prop} (h : OkT L t r) (hL : L ≤ 1000) (q : Q () r) : pf__parsed () [.str t, .int L] Q E := by
  obtain ⟨w0, ws, h1, h2, h3, h4, h5, _⟩ := h
  exact ⟨t, L, w0, ws, rfl, h1, h2, h3, h4, hL, by rw [h5]; exact q⟩
theorem pure_strs : ∀ ys : List Str, (D.tup (dStrs ys)).pure = true
  | [] => rfl
  | _ :: ys => pure_strs ys
theorem pure_tup : ∀ {ds : List D}, (∀ d ∈ ds, d.pure = true) → (D.tup ds).pure = true
  | [], _ => rfl
  | d :: ds, h => by
    show (d.pure && (D.tup ds).pure) = true
    rw [h d List.mem_cons_self, pure_tup fun x hx => h x (List.mem_cons_of_mem _ hx)] <;> rfl
def nS (n : Nat) : Str := ((toString (n : Int) : String) : Str)
theorem nS_inj : ∀ n < 24, ∀ m < 24, nS n = nS m → n = m := by decide +kernel
theorem split_go : ∀ n < 24, Txt.split (("go " : Str) ++ nS n) " " = [("go" : Str), nS n] := by decide +kernel
theorem split_wait : ∀ c ∈ condsW, Txt.split (("wait " : Str) ++ c) " " = [("wait" : Str), c] := by decide +kernel
theorem split_if : ∀ n < 24, ∀ c ∈ condsW, Txt.split (("if " : Str) ++ c ++ " " ++ nS n) " " = [("if" : Str), c, nS n] := by decide +kernel
theorem split_unless : ∀ n < 24, ∀ c ∈ condsW, Txt.split (("unless " : Str) ++ c ++ " " ++ nS n) " " = [("unless" : Str), c, nS n] := by decide +kernel
theorem lineNo_nS {n L : Nat} (h : n < L) (hL : L ≤ 24) : lineNo (nS n) L = n := lineNo_some h rfl fun j hj e => by
  have := nS_inj n (by omega) j (by omega) e
  omega
structure Cmd where
  v : Str
  s : Bool
  c : Str
  n : Nat
deriving DecidableEq
def Cmd.ok (L : Nat) (k : Cmd) : Prop :=
  ((k.v = "rest" ∨ k.v = "room") ∧ k.s = false ∧ k.c = "" ∧ k.n = 0) ∨ (k.v ∈ movesW ∧ k.c = "" ∧ k.n = 0) ∨ (k.v = "wait" ∧ k.s = false ∧ k.c ∈ condsW ∧ k.n = 0) ∨
  (k.v = "go" ∧ k.s = false ∧ k.c = "" ∧ k.n < L) ∨ ((k.v = "if" ∨ k.v = "unless") ∧ k.s = false ∧ k.c ∈ condsW ∧ k.n < L)
def Cmd.words (k : Cmd) : List Str :=
  if k.v = "go" then [k.v, nS k.n] else if k.v = "wait" then [k.v, k.c] else if k.v = "if" ∨ k.v = "unless" then [k.v, k.c, nS k.n] else [k.v ++ (if k.s then "*" else "")]
def Cmd.text (k : Cmd) : Str :=
  if k.v = "go" then ("go " : Str) ++ nS k.n else if k.v = "wait" then ("wait " : Str) ++ k.c else if k.v = "if" ∨ k.v = "unless" then k.v ++ " " ++ k.c ++ " " ++ nS k.n else k.v ++ (if k.s then "*" else "")
def Cmd.row (k : Cmd) : D := rowD k.v k.s k.c k.n
def nosc (t : Str) : Bool := (TL.tl t).all fun c => c != 59
def Ins (L : Nat) (t : Str) : Prop := t.length ≤ 40 ∧ ∃ k : Cmd, k.ok L ∧ k.text = t ∧ Txt.split t " " = k.words ∧ OkT L t k.row ∧ nosc t = true
def plainW : List Str := ["take", "take*", "give", "give*", "on", "on*", "room", "rest"]
theorem okT_of {L : Nat} {t w0 : Str} {ws : List Str} (hs : Txt.split t " " = w0 :: ws) (h1 : t.length ≤ 1000) (h2 : w0.length ≤ 1000) (h3 : ws.length ≤ 1000) {v : Str} {b : Bool} {c : Str} {n : Int} (hr : parseW w0 ws L = rowD v b c n) : OkT L t (rowD v b c n) := ⟨w0, ws, hs, h1, h2, h3, hr, rfl, rfl⟩
def plK (t : Str) : Cmd := ⟨Txt.removesuffix t "*", Txt.endswith t "*", "", 0⟩
def okPl (t : Str) : Bool := decide (Txt.split t " " = [t] ∧ t.length ≤ 40 ∧ (((t = "rest" ∨ t = "room") ∧ Txt.removesuffix t "*" = t ∧ Txt.endswith t "*" = false) ∨ Txt.removesuffix t "*" ∈ movesW) ∧ nosc t = true ∧ (plK t).text = t ∧ (plK t).words = [t])
theorem plain_all : plainW.all okPl = true := by decide +kernel
theorem ins_plain {L : Nat} {t : Str} (h : t ∈ plainW) : Ins L t := by
  obtain ⟨h1, h2, h3, h4, h5, h6⟩ := of_decide_eq_true (List.all_eq_true.mp plain_all t h)
  have hm : t = "rest" ∨ t = "room" ∨ Txt.removesuffix t "*" ∈ movesW := by
    rcases h3 with ⟨q | q, _⟩ | q
    · exact .inl q
    · exact .inr (.inl q)
    · exact .inr (.inr q)
  refine ⟨h2, plK t, ?_, h5, h1.trans h6.symm, ?_, h4⟩
  · rcases h3 with ⟨q, q2, q3⟩ | q
    · exact .inl ⟨by show Txt.removesuffix t "*" = _ ∨ Txt.removesuffix t "*" = _; rw [q2]; exact q, q3, rfl, rfl⟩
    · exact .inr (.inl ⟨q, rfl, rfl⟩)
  by_cases z : t = "rest" ∨ t = "room"
  · have q : Txt.removesuffix t "*" = t ∧ Txt.endswith t "*" = false := by
      rcases z with rfl | rfl <;> decide +kernel
    have e : (plK t).row = rowD t false "" 0 := by show rowD (Txt.removesuffix t "*") (Txt.endswith t "*") "" 0 = _; rw [q.1, q.2]
    rw [e]
    exact okT_of (v := t) (b := false) (c := "") (n := 0) h1 (by omega) (by omega) (by decide) (by unfold parseW; rw [if_pos ⟨rfl, z⟩])
  · have m : Txt.removesuffix t "*" ∈ movesW := by
      rcases hm with q | q | q
      · exact absurd (.inl q) z
      · exact absurd (.inr q) z
      · exact q
    exact okT_of (v := Txt.removesuffix t "*") (b := Txt.endswith t "*") (c := "") (n := 0) h1 (by omega) (by omega) (by decide) (by unfold parseW; rw [if_neg fun q => z q.2, if_pos ⟨rfl, m⟩])
theorem len_go : ∀ n < 24, (("go " : Str) ++ nS n).length ≤ 40 := by decide +kernel
theorem sc_go : ∀ n < 24, nosc (("go " : Str) ++ nS n) = true := by decide +kernel
theorem len_wait : ∀ c ∈ condsW, (("wait " : Str) ++ c).length ≤ 40 := by decide +kernel
theorem sc_wait : ∀ c ∈ condsW, nosc (("wait " : Str) ++ c) = true := by decide +kernel
theorem len_if : ∀ n < 24, ∀ c ∈ condsW, (("if " : Str) ++ c ++ " " ++ nS n).length ≤ 40 := by decide +kernel
theorem sc_if : ∀ n < 24, ∀ c ∈ condsW, nosc (("if " : Str) ++ c ++ " " ++ nS n) = true := by decide +kernel
theorem len_unless : ∀ n < 24, ∀ c ∈ condsW, (("unless " : Str) ++ c ++ " " ++ nS n).length ≤ 40 := by decide +kernel
theorem sc_unless : ∀ n < 24, ∀ c ∈ condsW, nosc (("unless " : Str) ++ c ++ " " ++ nS n) = true := by decide +kernel
theorem ins_go {L n : Nat} (h : n < L) (hL : L ≤ 24) : Ins L (("go " : Str) ++ nS n) := by
  have hl := len_go n (by omega)
  have e : lineNo ((("go" : Str) :: [nS n]).getLastD "") L = n := lineNo_nS h hL
  refine ⟨hl, ⟨"go", false, "", n⟩, .inr (.inr (.inr (.inl ⟨rfl, rfl, rfl, h⟩))), rfl, split_go n (by omega), okT_of (v := "go") (b := false) (c := "") (n := n) (split_go n (by omega)) (by omega) (by decide) (show 1 ≤ 1000 by decide) ?_, sc_go n (by omega)⟩
  unfold parseW
  rw [if_neg (by simp), if_neg (by simp), if_neg fun q => absurd q.2.1 (by decide), if_pos ⟨rfl, rfl, by rw [e]; omega⟩, e]
theorem ins_wait {L : Nat} {c : Str} (hc : c ∈ condsW) : Ins L (("wait " : Str) ++ c) := by
  have hl := len_wait c hc
  refine ⟨hl, ⟨"wait", false, c, 0⟩, .inr (.inr (.inl ⟨rfl, rfl, hc, rfl⟩)), rfl, split_wait c hc, okT_of (v := "wait") (b := false) (c := c) (n := 0) (split_wait c hc) (by omega) (by decide) (show 1 ≤ 1000 by decide) ?_, sc_wait c hc⟩
  unfold parseW
  rw [if_neg (by simp), if_neg (by simp), if_pos ⟨rfl, rfl, hc⟩] <;> rfl
theorem ins_if {L n : Nat} {c : Str} (h : n < L) (hL : L ≤ 24) (hc : c ∈ condsW) : Ins L (("if " : Str) ++ c ++ " " ++ nS n) := by
  have hl := len_if n (by omega) c hc
  have e : lineNo ((("if" : Str) :: [c, nS n]).getLastD "") L = n := lineNo_nS h hL
  refine ⟨hl, ⟨"if", false, c, n⟩, .inr (.inr (.inr (.inr ⟨.inl rfl, rfl, hc, h⟩))), ?_, split_if n (by omega) c hc, okT_of (v := "if") (b := false) (c := c) (n := n) (split_if n (by omega) c hc) (by omega) (by decide) (show 2 ≤ 1000 by decide) ?_, sc_if n (by omega) c hc⟩
  · show ("if" : Str) ++ " " ++ c ++ " " ++ nS n = ("if " : Str) ++ c ++ " " ++ nS n
    rw [show ("if" : Str) ++ " " = ("if " : Str) by decide +kernel]
  unfold parseW
  rw [if_neg (by simp), if_neg (by simp), if_neg (by simp), if_neg (by simp), if_pos ⟨rfl, .inl rfl, hc, by rw [e]; omega⟩, e] <;> rfl
theorem ins_unless {L n : Nat} {c : Str} (h : n < L) (hL : L ≤ 24) (hc : c ∈ condsW) : Ins L (("unless " : Str) ++ c ++ " " ++ nS n) := by
  have hl := len_unless n (by omega) c hc
  have e : lineNo ((("unless" : Str) :: [c, nS n]).getLastD "") L = n := lineNo_nS h hL
  refine ⟨hl, ⟨"unless", false, c, n⟩, .inr (.inr (.inr (.inr ⟨.inr rfl, rfl, hc, h⟩))), ?_, split_unless n (by omega) c hc, okT_of (v := "unless") (b := false) (c := c) (n := n) (split_unless n (by omega) c hc) (by omega) (by decide) (show 2 ≤ 1000 by decide) ?_, sc_unless n (by omega) c hc⟩
  · show ("unless" : Str) ++ " " ++ c ++ " " ++ nS n = ("unless " : Str) ++ c ++ " " ++ nS n
    rw [show ("unless" : Str) ++ " " = ("unless " : Str) by decide +kernel]
  unfold parseW
  rw [if_neg (by simp), if_neg (by simp), if_neg (by simp), if_neg (by simp), if_pos ⟨rfl, .inr rfl, hc, by rw [e]; omega⟩, e] <;> rfl
theorem nosc_not {t : Str} (h : nosc t = true) : 59 ∉ TL.tl t := fun z => by
  have := List.all_eq_true.mp h 59 z
  exact absurd this (by decide)
theorem split_joinP {ts : List Str} (h0 : ts ≠ []) (h : ∀ t ∈ ts, nosc t = true) : Txt.split (Txt.join "; " ts) "; " = ts :=
  TL.split_join (s := 59) (S := [32]) (by decide +kernel) (by decide +kernel) h0 fun p hp => nosc_not (h p hp)
theorem exists_rows {L : Nat} : ∀ {ts : List Str}, (∀ t ∈ ts, Ins L t) → ∃ rs : List D, rs.length = ts.length ∧ ∀ (i : Nat) (t : Str) (r : D), ts[i]? = some t → rs[i]? = some r → OkT L t r
  | [], _ => ⟨[], rfl, fun i t r h => by simp at h⟩
  | t :: ts, h => by
    obtain ⟨rs, h1, h2⟩ := exists_rows (ts := ts) fun x hx => h x (List.mem_cons_of_mem _ hx)
    obtain ⟨_, k, _, _, _, hr, _⟩ := h t List.mem_cons_self
    refine ⟨k.row :: rs, by simp [h1], fun i t' r' e1 e2 => ?_⟩
    cases i with
    | zero =>
      simp at e1 e2
      subst e1 e2
      exact hr
    | succ i => exact h2 i t' r' (by simpa using e1) (by simpa using e2)
def WrittenP (ts : List Str) : Prop := 1 ≤ ts.length ∧ ts.length ≤ 24 ∧ ts[0]? = some ("rest" : Str) ∧ ∀ t ∈ ts, Ins ts.length t
theorem WrittenP.ok {ts : List Str} (h : WrittenP ts) : ∃ rs, OkP ts rs := by
  obtain ⟨rs, h1, h2⟩ := exists_rows h.2.2.2
  exact ⟨rs, h.1, h.2.1, h1, h.2.2.1, h2⟩
theorem WrittenP.split {ts : List Str} (h : WrittenP ts) : Txt.split (Txt.join "; " ts) "; " = ts := split_joinP (fun z => by have := h.1; rw [z] at this; exact absurd this (by decide)) fun t ht => by
  obtain ⟨_, _, _, _, _, _, z⟩ := h.2.2.2 t ht
  exact z
theorem pure_prog {K : PySem.W.Frag} {ts : List Str} {rs : List D} (h : OkP ts rs) : (progD K ts rs).pure = true := by
  show ((D.tup (dStrs ts)).pure && ((D.tup rs).pure && true)) = true
  rw [pure_strs, pure_tup fun d hd => ?_] <;> try rfl
  obtain ⟨i, hi⟩ := List.getElem?_of_mem hd
  have hil := (List.getElem?_eq_some_iff.mp hi).1
  obtain ⟨h1, h2, h3, h4, h5⟩ := h
  obtain ⟨t, ht⟩ : ∃ t, ts[i]? = some t := ⟨_, List.getElem?_eq_getElem (by omega)⟩
  obtain ⟨_, _, _, _, _, _, _, _, z⟩ := h5 i t d ht hi
  exact z
section
variable {K : PySem.W.Frag} {Q : Unit → D → Prop} {E : Unit → Exn → Prop} {ts : List Str} {rs : List D}
end
end LW
namespace LW
open PySem PySem.Spec PyProof.Rows L2
section
variable {R : Bool → Prop} {i : Int} {z : Str} {ds : List D} {b : Bool} {Q1 : D → Prop}
theorem kit_int : kitB "int" "int" = some true := by decide +kernel
theorem kit_intB : kitB "int" "bool" = some false := by decide +kernel
theorem kit_tup : kitB "tuple" "tuple" = some true := by decide +kernel
theorem kit_lst : kitB "list" "list" = some true := by decide +kernel
theorem kit_bl : kitB "bool" "bool" = some true := by decide +kernel
theorem kit_str : kitB "str" "str" = some true := by decide +kernel
theorem v_isInt (h : R true) : kIsT "int" (.int i) R := ⟨rfl, true, kit_int, h⟩
theorem v_isIntB (h : R false) : kIsT "bool" (.int i) R := ⟨rfl, false, kit_intB, h⟩
theorem v_isTup (h : R true) : kIsT "tuple" (.tup ds) R := ⟨rfl, true, kit_tup, h⟩
theorem v_isLst (h : R true) : kIsT "list" (.lst ds) R := ⟨rfl, true, kit_lst, h⟩
theorem v_isBl (h : R true) : kIsT "bool" (.bl b) R := ⟨rfl, true, kit_bl, h⟩
theorem v_isStr (h : R true) : kIsT "str" (.str z) R := ⟨rfl, true, kit_str, h⟩
end
theorem any_dInts {z : Int} : ∀ ns : List Int, ((dInts ns).any fun x => x.same (.int z)) = decide (z ∈ ns)
  | [] => by simp [dInts]
  | n :: ns => by
    show (decide (n = z) || ((dInts ns).any fun x => x.same (.int z))) = _
    rw [any_dInts ns]
    by_cases h : n = z
    · subst h; simp
    · have h' : z ≠ n := fun q => h q.symm
      simp [h, h']
theorem flat_dInts (ns : List Int) : (dInts ns).all D.flat = true := List.all_eq_true.mpr fun d hd => by
  obtain ⟨i, _, rfl⟩ := List.mem_map.mp hd
  rfl
theorem v_ninLI {z : Int} {ns : List Int} {Q1 : D → Prop} (h : Q1 (.bl (!decide (z ∈ ns)))) : fIn true (.int z) (.lst (dInts ns)) Q1 := ⟨dInts ns, .inl rfl, rfl, flat_dInts ns, by rw [any_dInts]; exact h⟩
end LW
namespace LW
open PySem PySem.Spec PyProof.Rows L2
abbrev SC (K : PySem.W.Frag) : Addr := He.ga K "System"
structure Sy where
  ks : List Cmd
  os : List (List Int)
  n : Nat
  cap : Int
def ProgC (ks : List Cmd) : Prop := 1 ≤ ks.length ∧ ks.length ≤ 24 ∧ (ks.map Cmd.text)[0]? = some ("rest" : Str) ∧ ∀ k ∈ ks, k.ok ks.length ∧ Txt.split k.text " " = k.words ∧ OkT ks.length k.text k.row ∧ k.text.length ≤ 40
def Sy.ok (y : Sy) : Prop := ProgC y.ks ∧ 1 ≤ y.os.length ∧ y.os.length ≤ 6 ∧ 1 ≤ y.n ∧ y.n ≤ 12 ∧ (∀ o ∈ y.os, IsNum o ∧ o.length = y.n) ∧ 1 ≤ y.cap ∧ y.cap ≤ 6
abbrev progK (K : PySem.W.Frag) (ks : List Cmd) : D := progD K (ks.map Cmd.text) (ks.map Cmd.row)
abbrev numsD (K : PySem.W.Frag) (os : List (List Int)) : List D := os.map (numD K)
abbrev sysD (K : PySem.W.Frag) (y : Sy) : D := .ins (SC K) ["program", "numberings", "workers", "cells", "capacity"] [progK K y.ks, .tup (numsD K y.os), .int y.os.length, .int y.n, .int y.cap]
abbrev prD (p : Int × Int) : D := .tup [.int p.1, .int p.2]
abbrev stD (cs : List Int) (ps : List (Int × Int)) : D := .tup [.tup (dInts cs), .tup (ps.map prD)]
def StOk (y : Sy) (cs : List Int) (ps : List (Int × Int)) : Prop := cs.length = y.n ∧ ps.length = y.os.length ∧ (∀ p ∈ ps, (0 ≤ p.1 ∧ p.1 < y.ks.length) ∧ 0 ≤ p.2 ∧ p.2 < y.n) ∧ ∀ c ∈ cs, 0 ≤ c ∧ c ≤ y.os.length
abbrev houseD (y : Sy) : D := .lst [.lst (dStrs (y.ks.map Cmd.text)), .lst (y.os.map fun o => .lst (dInts o)), .int y.cap]
theorem written_progC {ts : List Str} (h : WrittenP ts) : ∃ ks : List Cmd, ts = ks.map Cmd.text ∧ ProgC ks := by
  have key : ∀ L (ts : List Str), (∀ t ∈ ts, Ins L t) → ∃ ks : List Cmd, ts = ks.map Cmd.text ∧ ∀ k ∈ ks, k.ok L ∧ Txt.split k.text " " = k.words ∧ OkT L k.text k.row ∧ k.text.length ≤ 40 := by
    intro L ts
    induction ts with
    | nil => exact fun _ => ⟨[], rfl, fun _ z => by cases z⟩
    | cons t ts ih =>
      intro h
      obtain ⟨ks, e, q⟩ := ih fun x hx => h x (List.mem_cons_of_mem _ hx)
      obtain ⟨hl, k, h1, h2, h3, h4, _⟩ := h t List.mem_cons_self
      subst h2
      refine ⟨k :: ks, by rw [e] <;> rfl, fun k' hk => ?_⟩
      rcases List.mem_cons.mp hk with rfl | hk
      · exact ⟨h1, h3, h4, hl⟩
      · exact q k' hk
  obtain ⟨h1, h2, h3, h4⟩ := h
  obtain ⟨ks, e, q⟩ := key _ ts h4
  subst e
  rw [List.length_map] at h1 h2 q
  exact ⟨ks, rfl, h1, h2, h3, q⟩
theorem ProgC.okP {ks : List Cmd} (h : ProgC ks) : OkP (ks.map Cmd.text) (ks.map Cmd.row) := by
  obtain ⟨h1, h2, h3, h4⟩ := h
  refine ⟨by rw [List.length_map]; exact h1, by rw [List.length_map]; exact h2, by rw [List.length_map, List.length_map], h3, fun i t r e1 e2 => ?_⟩
  rw [List.getElem?_map] at e1 e2
  obtain ⟨k, hk, rfl⟩ := Option.map_eq_some_iff.mp e1
  rw [hk] at e2
  cases e2
  rw [List.length_map]
  exact (h4 k (List.mem_of_getElem? hk)).2.2.1
theorem pure_nums {K : PySem.W.Frag} : ∀ os : List (List Int), (D.tup (numsD K os)).pure = true := fun os => pure_tup fun d hd => by
  obtain ⟨o, _, rfl⟩ := List.mem_map.mp hd
  exact pure_num o
theorem pure_sys {K : PySem.W.Frag} {y : Sy} (h : y.ok) : (sysD K y).pure = true := by
  show ((progK K y.ks).pure && ((D.tup (numsD K y.os)).pure && true)) = true
  rw [pure_prog h.1.okP, pure_nums] <;> rfl
theorem length_rgI (a b : Int) : (rgI a b).length = (b - a).toNat := by unfold rgI; rw [List.length_map, List.length_range]
theorem mem_rgI {a b x : Int} : x ∈ rgI a b ↔ a ≤ x ∧ x < b := by
  unfold rgI
  rw [List.mem_map]
  constructor
  · rintro ⟨i, hi, rfl⟩
    rw [List.mem_range] at hi
    omega
  · intro h
    exact ⟨(x - a).toNat, by rw [List.mem_range]; omega, by omega⟩
theorem levT {ds : List D} {n : Nat} (hl : ds.length ≤ 1000000) (h : ∀ d ∈ ds, d.lev n = true) : (D.tup ds).lev (n + 1) = true := by
  show (decide (_ ≤ _) && ds.all (D.lev n)) = true
  rw [Bool.and_eq_true]
  exact ⟨decide_eq_true hl, List.all_eq_true.mpr h⟩
theorem lev_int {n : Nat} {ns : List Int} : ∀ d ∈ dInts ns, d.lev n = true := fun d hd => by
  obtain ⟨i, _, rfl⟩ := List.mem_map.mp hd
  cases n <;> rfl
def seesF (W n : Nat) (cap : Int) (cs : List Int) (w ptr con : Int) (cd : Str) : Bool :=
  if cd = "first" then decide (ptr = 0) else if cd = "empty" then decide (con = 0) else if cd = "mine" then decide (con = w)
  else if cd = "other" then !decide (con = 0) && !decide (con = w) else if cd = "none" then decide (((cs.count 0 : Nat) : Int) = n) else if cd = "full" then decide (((cs.count 0 : Nat) : Int) = 0)
  else if cd = "enough" then decide ((cap + 1) * ((cs.count w : Nat) : Int) > n) else (rgI 1 (W + 1)).any fun o => decide (((cs.count o : Nat) : Int) > ((cs.count w : Nat) : Int))
def Sy.con (y : Sy) (cs : List Int) (w ptr : Int) : Int := atP cs (atP (y.os.getD (w - 1).toNat []) ptr)
def Sy.sees (y : Sy) (cs : List Int) (w ptr : Int) (cd : Str) : Bool := seesF y.os.length y.n y.cap cs w ptr (y.con cs w ptr) cd
def touchF (cs : List Int) (pl : Int) (v : Str) (w : Int) : List Int := if v = "take" ∧ atP cs pl = 0 then cs.set pl.toNat w else if v = "give" ∧ atP cs pl = w then cs.set pl.toNat 0 else cs
def Sy.move (y : Sy) (cs : List Int) (w l p : Int) (k : Cmd) : List Int × Int × Int :=
  if k.v = "go" then (cs, k.n, p)
  else if k.v ∈ movesW then (touchF cs (atP (y.os.getD (w - 1).toNat []) p) k.v w, if k.s = true ∧ (p + 1) % y.n ≠ 0 then l else (l + 1) % y.ks.length, (p + 1) % y.n)
  else if k.v = "wait" then (cs, if y.sees cs w p k.c = true then (l + 1) % y.ks.length else l, p)
  else if k.v = "if" ∨ k.v = "unless" then (cs, if y.sees cs w p k.c = decide (k.v = "if") then k.n else (l + 1) % y.ks.length, p)
  else (cs, (l + 1) % y.ks.length, p)
def Sy.cmd (y : Sy) (l : Int) : Cmd := y.ks.getD l.toNat ⟨"", false, "", 0⟩
def Sy.stepC (y : Sy) (cs : List Int) (ps : List (Int × Int)) (w : Int) : List Int × Int × Int :=
  let p := ps.getD (w - 1).toNat (0, 0)
  y.move cs w p.1 p.2 (y.cmd p.1)
theorem length_touch {cs : List Int} {pl w : Int} {v : Str} : (touchF cs pl v w).length = cs.length := by
  unfold touchF
  split
  · rw [List.length_set]
  · split
    · rw [List.length_set]
    · rfl
theorem Cmd.ok.targ {L : Nat} {k : Cmd} (h : k.ok L) (hv : k.v = "go" ∨ k.v = "if" ∨ k.v = "unless") : k.n < L := by
  rcases h with ⟨q, _⟩ | ⟨q, _⟩ | ⟨q, _⟩ | ⟨_, _, _, q⟩ | ⟨_, _, _, q⟩
  · rcases q with q | q <;> rw [q] at hv <;> exact absurd hv (by decide)
  · have : ∀ v ∈ movesW, ¬ (v = "go" ∨ v = "if" ∨ v = "unless") := by decide
    exact absurd hv (this _ q)
  · rw [q] at hv; exact absurd hv (by decide)
  · exact q
  · exact q
theorem cutFrom {ds : List D} {p : Nat} : cutD ds (some (p : Int)) none = ds.drop p := by
  unfold cutD
  rw [HT.sIx_nat, HT.sIx_none]
  by_cases h : p ≤ ds.length
  · rw [Nat.min_eq_left h, List.take_of_length_le (by rw [List.length_drop]; omega)]
  · rw [Nat.min_eq_right (by omega), Nat.sub_self, List.take_zero, List.drop_of_length_le (by omega)]
section
variable {K : PySem.W.Frag} {y : Sy} {cs : List Int} {ps : List (Int × Int)} {w : Int}
theorem StOk.pair (h : StOk y cs ps) (w1 : 1 ≤ w) (w2 : w ≤ y.os.length) : ∃ l p : Int, ps[(w - 1).toNat]? = some (l, p) ∧ ps.getD (w - 1).toNat (0, 0) = (l, p) ∧ 0 ≤ l ∧ l < y.ks.length ∧ 0 ≤ p ∧ p < y.n ∧ atI (ps.map prD) (w - 1) = some (prD (l, p)) := by
  have hl : (w - 1).toNat < ps.length := by have := h.2.1; omega
  have e := List.getElem?_eq_getElem hl
  obtain ⟨h1, h2⟩ := h.2.2.1 _ (List.getElem_mem hl)
  refine ⟨(ps[(w - 1).toNat]).1, (ps[(w - 1).toNat]).2, e, by rw [List.getD_eq_getElem?_getD, e] <;> rfl, h1.1, h1.2, h2.1, h2.2, ?_⟩
  have ew : w - 1 = (((w - 1).toNat : Nat) : Int) := by omega
  refine atI_of (by omega) ?_
  rw [List.getElem?_map, e] <;> rfl
theorem Sy.ok.order (h : y.ok) (w1 : 1 ≤ w) (w2 : w ≤ y.os.length) : ∃ o, y.os[(w - 1).toNat]? = some o ∧ y.os.getD (w - 1).toNat [] = o ∧ IsNum o ∧ o.length = y.n ∧ atI (numsD K y.os) (w - 1) = some (numD K o) := by
  have hl : (w - 1).toNat < y.os.length := by omega
  have e := List.getElem?_eq_getElem hl
  obtain ⟨h1, h2⟩ := h.2.2.2.2.2.1 _ (List.getElem_mem hl)
  refine ⟨y.os[(w - 1).toNat], e, by rw [List.getD_eq_getElem?_getD, e] <;> rfl, h1, h2, ?_⟩
  refine atI_of (by omega) ?_
  rw [List.getElem?_map, e] <;> rfl
theorem Sy.ok.line {l : Int} (h : y.ok) (l1 : 0 ≤ l) (l2 : l < y.ks.length) : ∃ k, y.ks[l.toNat]? = some k ∧ y.cmd l = k ∧ k.ok y.ks.length ∧ atI (y.ks.map Cmd.row) l = some k.row := by
  have hl : l.toNat < y.ks.length := by omega
  have e := List.getElem?_eq_getElem hl
  have h1 := h.1.2.2.2 _ (List.getElem_mem hl)
  refine ⟨y.ks[l.toNat], e, by unfold Sy.cmd; rw [List.getD_eq_getElem?_getD, e] <;> rfl, h1.1, ?_⟩
  refine atI_of (by omega) ?_
  rw [List.getElem?_map, e] <;> rfl
end
theorem Sy.length_stepC {y : Sy} {cs : List Int} {ps : List (Int × Int)} {w : Int} : (y.stepC cs ps w).1.length = cs.length := by
  unfold Sy.stepC Sy.move
  dsimp only
  split
  · rfl
  · split
    · exact length_touch
    · split
      · rfl
      · split <;> rfl
def SysOk (os : List (List Int)) (cap : Int) : Prop := 1 ≤ os.length ∧ os.length ≤ 6 ∧ 1 ≤ cap ∧ cap ≤ 6 ∧ ∀ o ∈ os, o.length = (os.headD []).length
def pf_System (K : PySem.W.Frag) : PSp W0 := fun _ ds Q E => ∃ (ks : List Cmd) (os : List (List Int)) (cap : Int), ds = [progK K ks, .lst (numsD K os), .int cap] ∧ ProgC ks ∧ (∀ o ∈ os, IsNum o) ∧ os.length ≤ 1000 ∧
  ((SysOk os cap ∧ Q () (sysD K ⟨ks, os, (os.headD []).length, cap⟩)) ∨ (¬ SysOk os cap ∧ E () ⟨He.ga K "BadSize", none⟩))
theorem Sy.ok.made {y : Sy} (h : y.ok) : ProgC y.ks ∧ (∀ o ∈ y.os, IsNum o) ∧ y.os.length ≤ 1000 ∧ SysOk y.os y.cap ∧ (⟨y.ks, y.os, (y.os.headD []).length, y.cap⟩ : Sy) = y := by
  obtain ⟨h1, h2, h3, h4, h5, h6, h7, h8⟩ := h
  have e : (y.os.headD []).length = y.n := by
    cases e : y.os with
    | nil => rw [e] at h2; exact absurd h2 (by decide)
    | cons o os => exact (h6 o (by rw [e]; exact List.mem_cons_self)).2
  exact ⟨h1, fun o ho => (h6 o ho).1, by omega, ⟨h2, h3, h7, h8, fun o ho => by rw [e]; exact (h6 o ho).2⟩, by rw [e]⟩
theorem mono_System {K : PySem.W.Frag} : Mono (pf_System K) := fun ds Q Q' E E' ⟨ks, os, cap, h1, h2, h3, h4, h5⟩ hq he => ⟨ks, os, cap, h1, h2, h3, h4, h5.imp (fun ⟨a, b⟩ => ⟨a, hq _ b⟩) fun ⟨a, b⟩ => ⟨a, he _ b⟩⟩
section
variable {K : PySem.W.Frag} {y : Sy} {cs : List Int} {ps : List (Int × Int)} {w pl : Int} {cd v : Str} {Q : Unit → D → Prop} {E : Unit → Exn → Prop}
theorem v_sys (h1 : y.ok) (h : Q () (sysD K y)) : pf_System K () [progK K y.ks, .lst (numsD K y.os), .int y.cap] Q E := by
  obtain ⟨a, b, c, d, e⟩ := h1.made
  exact ⟨_, _, _, rfl, a, b, c, .inl ⟨d, by rw [e]; exact h⟩⟩
end
end LW
namespace LW
open PySem PySem.Spec PyProof.Rows L2
abbrev Cfg := List Int × List (Int × Int)
abbrev cfD (c : Cfg) : D := stD c.1 c.2
def Sy.next (y : Sy) (c : Cfg) (w : Int) : Cfg := ((y.stepC c.1 c.2 w).1, c.2.set (w - 1).toNat (y.stepC c.1 c.2 w).2)
def Sy.start (y : Sy) : Cfg := (List.replicate y.n 0, List.replicate y.os.length (0, 0))
def Sy.Ok (y : Sy) (c : Cfg) : Prop := StOk y c.1 c.2
def Sy.Wk (y : Sy) (w : Int) : Prop := 1 ≤ w ∧ w ≤ y.os.length
def Sy.run (y : Sy) (c : Cfg) : List Int → Cfg
  | [] => c
  | w :: ws => y.run (y.next c w) ws
theorem Sy.run_append {y : Sy} : ∀ {ws vs : List Int} {c : Cfg}, y.run c (ws ++ vs) = y.run (y.run c ws) vs
  | [], _, _ => rfl
  | _ :: ws, vs, c => Sy.run_append (ws := ws)
theorem Sy.run_snoc {y : Sy} {ws : List Int} {w : Int} {c : Cfg} : y.run c (ws ++ [w]) = y.next (y.run c ws) w := by rw [Sy.run_append] <;> rfl
theorem Sy.start_ok {y : Sy} (h : y.ok) : y.Ok y.start := by
  have hn := h.2.2.2.1
  have hl := h.1.1
  refine ⟨List.length_replicate, List.length_replicate, fun p hp => ?_, fun c hc => ?_⟩
  · rw [(List.mem_replicate.mp hp).2]
    exact ⟨⟨Int.le_refl _, by show (0 : Int) < y.ks.length; omega⟩, Int.le_refl _, by show (0 : Int) < y.n; omega⟩
  · rw [(List.mem_replicate.mp hc).2]
    exact ⟨Int.le_refl _, Int.natCast_nonneg _⟩
theorem mem_touch {cs : List Int} {pl w : Int} {v : Str} {c : Int} (h : c ∈ touchF cs pl v w) : c ∈ cs ∨ c = w ∨ c = 0 := by
  unfold touchF at h
  split at h
  · rcases List.mem_or_eq_of_mem_set h with q | q
    · exact .inl q
    · exact .inr (.inl q)
  · split at h
    · rcases List.mem_or_eq_of_mem_set h with q | q
      · exact .inl q
      · exact .inr (.inr q)
    · exact .inl h
theorem Sy.move_ok {y : Sy} {cs : List Int} {w l p : Int} {k : Cmd} (hy : y.ok) (hk : k.ok y.ks.length) (w1 : y.Wk w) (hc : ∀ c ∈ cs, 0 ≤ c ∧ c ≤ y.os.length) (l0 : 0 ≤ l) (l1 : l < y.ks.length) (p0 : 0 ≤ p) (p1 : p < y.n) :
    (∀ c ∈ (y.move cs w l p k).1, 0 ≤ c ∧ c ≤ y.os.length) ∧ (0 ≤ (y.move cs w l p k).2.1 ∧ (y.move cs w l p k).2.1 < y.ks.length) ∧ 0 ≤ (y.move cs w l p k).2.2 ∧ (y.move cs w l p k).2.2 < y.n := by
  have hn := hy.2.2.2.1
  have hl := hy.1.1
  have nx : 0 ≤ (l + 1) % (y.ks.length : Int) ∧ (l + 1) % (y.ks.length : Int) < y.ks.length := ⟨Int.emod_nonneg _ (by omega), Int.emod_lt_of_pos _ (by omega)⟩
  have px : 0 ≤ (p + 1) % (y.n : Int) ∧ (p + 1) % (y.n : Int) < y.n := ⟨Int.emod_nonneg _ (by omega), Int.emod_lt_of_pos _ (by omega)⟩
  unfold Sy.move
  split
  · rename_i e
    have := hk.targ (.inl e)
    have h0 : (0 : Int) ≤ (k.n : Int) := Int.natCast_nonneg _
    have h1 : (k.n : Int) < (y.ks.length : Int) := Int.ofNat_lt.mpr this
    exact ⟨hc, ⟨h0, h1⟩, p0, p1⟩
  · split
    · refine ⟨fun c h => ?_, ?_, px⟩
      · rcases mem_touch h with q | q | q
        · exact hc c q
        · have := w1.1; have := w1.2; omega
        · omega
      · show 0 ≤ (if k.s = true ∧ (p + 1) % (y.n : Int) ≠ 0 then l else (l + 1) % (y.ks.length : Int)) ∧ _ < _
        split
        · exact ⟨l0, l1⟩
        · exact nx
    · split
      · refine ⟨hc, ?_, p0, p1⟩
        show 0 ≤ (if y.sees cs w p k.c = true then (l + 1) % (y.ks.length : Int) else l) ∧ _ < _
        split
        · exact nx
        · exact ⟨l0, l1⟩
      · split
        · rename_i e
          have := hk.targ (.inr e)
          refine ⟨hc, ?_, p0, p1⟩
          show 0 ≤ (if y.sees cs w p k.c = decide (k.v = "if") then (k.n : Int) else (l + 1) % (y.ks.length : Int)) ∧ _ < _
          split
          · exact ⟨Int.natCast_nonneg _, Int.ofNat_lt.mpr this⟩
          · exact nx
        · exact ⟨hc, nx, p0, p1⟩
theorem Sy.next_ok {y : Sy} {c : Cfg} {w : Int} (hy : y.ok) (hc : y.Ok c) (hw : y.Wk w) : y.Ok (y.next c w) := by
  obtain ⟨l, p, hp, hp2, l1, l2, p1, p2, _⟩ := StOk.pair hc hw.1 hw.2
  obtain ⟨k, hk1, hk2, hk3, _⟩ := hy.line l1 l2
  have es : y.stepC c.1 c.2 w = y.move c.1 w l p k := by
    show y.move c.1 w (c.2.getD (w - 1).toNat (0, 0)).1 (c.2.getD (w - 1).toNat (0, 0)).2 (y.cmd (c.2.getD (w - 1).toNat (0, 0)).1) = _
    rw [hp2]
    show y.move c.1 w l p (y.cmd l) = _
    rw [hk2]
  obtain ⟨m1, m2, m3⟩ := Sy.move_ok (cs := c.1) (w := w) hy hk3 hw hc.2.2.2 l1 l2 p1 p2
  refine ⟨by show (y.stepC c.1 c.2 w).1.length = _; rw [Sy.length_stepC]; exact hc.1, by show (c.2.set _ _).length = _; rw [List.length_set]; exact hc.2.1, fun q hq => ?_, ?_⟩
  · rcases List.mem_or_eq_of_mem_set hq with z | z
    · exact hc.2.2.1 q z
    · rw [z, es]
      exact ⟨m2, m3⟩
  · show ∀ c' ∈ (y.stepC c.1 c.2 w).1, _
    rw [es]
    exact m1
theorem Sy.take_succ {y : Sy} {c : Cfg} {ws : List Int} {i : Nat} {w : Int} (h : ws[i]? = some w) : y.run c (ws.take (i + 1)) = y.next (y.run c (ws.take i)) w := by
  rw [List.take_succ, h]
  exact Sy.run_snoc
end LW
namespace LW
open PySem PySem.Spec PyProof.Rows L2
structure Iso (y z : Sy) (σ π : Int → Int) : Prop where
  ks : z.ks = y.ks
  cap : z.cap = y.cap
  n : z.n = y.n
  len : z.os.length = y.os.length
  s0 : σ 0 = 0
  sw : ∀ w : Int, y.Wk w → y.Wk (σ w)
  inj : ∀ a b : Int, 0 ≤ a → a ≤ y.os.length → 0 ≤ b → b ≤ y.os.length → σ a = σ b → a = b
  sur : ∀ v : Int, y.Wk v → ∃ w, y.Wk w ∧ σ w = v
  pm : ∀ p : Int, 0 ≤ p → p < y.n → 0 ≤ π p ∧ π p < y.n
  pinj : ∀ p q : Int, 0 ≤ p → p < y.n → 0 ≤ q → q < y.n → π p = π q → p = q
  ord : ∀ w p : Int, y.Wk w → 0 ≤ p → p < y.n → atP (z.os.getD (σ w - 1).toNat []) p = π (atP (y.os.getD (w - 1).toNat []) p)
structure SIso (y : Sy) (σ π : Int → Int) (c d : Cfg) : Prop where
  l1 : d.1.length = y.n
  con : ∀ p : Int, 0 ≤ p → p < y.n → atP d.1 (π p) = σ (atP c.1 p)
  l2 : d.2.length = y.os.length
  prs : ∀ w : Int, y.Wk w → d.2.getD (σ w - 1).toNat (0, 0) = c.2.getD (w - 1).toNat (0, 0)
theorem Iso.trans {y z u : Sy} {σ σ' π π' : Int → Int} (h : Iso y z σ π) (g : Iso z u σ' π') : Iso y u (fun w => σ' (σ w)) (fun p => π' (π p)) := by
  have wk : ∀ w, z.Wk w ↔ y.Wk w := fun w => by unfold Sy.Wk; rw [h.len]
  have bd : ∀ a : Int, 0 ≤ a → a ≤ y.os.length → 0 ≤ σ a ∧ σ a ≤ y.os.length := fun a a0 a1 => by
    by_cases z : a = 0
    · rw [z, h.s0]; omega
    · have := h.sw a ⟨by omega, a1⟩
      exact ⟨by have := this.1; omega, this.2⟩
  refine ⟨g.ks.trans h.ks, g.cap.trans h.cap, g.n.trans h.n, g.len.trans h.len, ?_, fun w hw => (wk _).mp (g.sw _ ((wk _).mpr (h.sw w hw))), ?_, ?_, ?_, ?_, ?_⟩
  · show σ' (σ 0) = 0
    rw [h.s0, g.s0]
  · intro a b a0 a1 b0 b1 e
    have ha := bd a a0 a1
    have hb := bd b b0 b1
    exact h.inj a b a0 a1 b0 b1 (g.inj _ _ ha.1 (by rw [h.len]; exact ha.2) hb.1 (by rw [h.len]; exact hb.2) e)
  · intro v hv
    obtain ⟨w, hw, e⟩ := g.sur v ((wk v).mpr hv)
    obtain ⟨x, hx, e2⟩ := h.sur w ((wk w).mp hw)
    exact ⟨x, hx, by show σ' (σ x) = v; rw [e2, e]⟩
  · intro p p0 p1
    have a := h.pm p p0 p1
    have b := g.pm (π p) a.1 (by rw [h.n]; exact a.2)
    rw [h.n] at b
    exact b
  · intro p q p0 p1 q0 q1 e
    have a := h.pm p p0 p1
    have b := h.pm q q0 q1
    exact h.pinj p q p0 p1 q0 q1 (g.pinj _ _ a.1 (by rw [h.n]; exact a.2) b.1 (by rw [h.n]; exact b.2) e)
  · intro w p hw p0 p1
    have e := g.ord (σ w) p ((wk _).mpr (h.sw w hw)) p0 (by rw [h.n]; exact p1)
    show atP (u.os.getD (σ' (σ w) - 1).toNat []) p = π' (π _)
    rw [e, h.ord w p hw p0 p1]
theorem atP_map_rg {cs : List Int} : (rg cs.length).map (atP cs) = cs := by
  refine List.ext_getElem? fun i => ?_
  unfold rg atP
  rw [List.map_map, List.getElem?_map]
  by_cases h : i < cs.length
  · rw [List.getElem?_range h, List.getElem?_eq_getElem h]
    show some (cs.getD ((i : Int).toNat) 0) = _
    rw [Int.toNat_natCast, List.getD_eq_getElem?_getD, List.getElem?_eq_getElem h] <;> rfl
  · rw [List.getElem?_eq_none (by rw [List.length_range]; omega), List.getElem?_eq_none (by omega)] <;> rfl
section
variable {y z : Sy} {σ π : Int → Int} {c d : Cfg}
theorem Iso.perm (h : Iso y z σ π) (hy : y.ok) : ((rg y.n).map π).Perm (rg y.n) := by
  have hn := hy.2.2.2.1
  have hn2 := hy.2.2.2.2.1
  have e : ((rg y.n).map π).length = y.n := by rw [List.length_map, length_rg]
  have num : IsNum ((rg y.n).map π) := by
    refine IsNum.of (n := y.n) hn hn2 e ?_ fun x hx => ?_
    · refine List.pairwise_map.mpr ((nodup_rg y.n).imp_of_mem fun {a b} ha hb hab e => hab ?_)
      have := mem_rg.mp ha
      have := mem_rg.mp hb
      exact h.pinj a b (by omega) (by omega) (by omega) (by omega) e
    · obtain ⟨p, hp, rfl⟩ := List.mem_map.mp hx
      have := mem_rg.mp hp
      exact h.pm p (by omega) (by omega)
  have := num.2.2
  rw [e] at this
  exact this
theorem SIso.perm (h : Iso y z σ π) (hy : y.ok) (hc : y.Ok c) (s : SIso y σ π c d) : d.1.Perm (c.1.map σ) := by
  have e1 : (rg y.n).map (atP d.1) = d.1 := by rw [← s.l1]; exact atP_map_rg
  have e2 : ((rg y.n).map π).map (atP d.1) = c.1.map σ := by
    have e3 : c.1.map σ = ((rg y.n).map (atP c.1)).map σ := by
      have := atP_map_rg (cs := c.1)
      rw [hc.1] at this
      rw [this]
    rw [e3, List.map_map, List.map_map]
    refine List.map_congr_left fun p hp => ?_
    have := mem_rg.mp hp
    exact s.con p (by omega) (by omega)
  rw [← e2, ← e1]
  refine ((h.perm hy).map (atP d.1)).symm.trans ?_
  rw [e1]
theorem count_inj {f : Int → Int} {x : Int} : ∀ {cs : List Int}, (∀ c ∈ cs, f c = f x → c = x) → (cs.map f).count (f x) = cs.count x
  | [], _ => rfl
  | c :: cs, h => by
    rw [List.map_cons, List.count_cons, List.count_cons, count_inj (cs := cs) fun c hc => h c (List.mem_cons_of_mem _ hc)]
    by_cases e : c = x
    · rw [e] <;> simp
    · have : f c ≠ f x := fun z => e (h c List.mem_cons_self z)
      simp [e, this]
theorem SIso.count (h : Iso y z σ π) (hy : y.ok) (hc : y.Ok c) (s : SIso y σ π c d) {x : Int} (x0 : 0 ≤ x) (x1 : x ≤ y.os.length) : d.1.count (σ x) = c.1.count x := by
  rw [(s.perm h hy hc).count_eq, count_inj fun a ha e => ?_]
  have := hc.2.2.2 a ha
  exact h.inj a x this.1 this.2 x0 x1 e
theorem Iso.eq0 (h : Iso y z σ π) {x : Int} (x0 : 0 ≤ x) (x1 : x ≤ y.os.length) : σ x = 0 ↔ x = 0 := ⟨fun e => h.inj x 0 x0 x1 (by omega) (by omega) (by rw [e, h.s0]), fun e => by rw [e, h.s0]⟩
theorem Iso.eqw (h : Iso y z σ π) {x w : Int} (x0 : 0 ≤ x) (x1 : x ≤ y.os.length) (hw : y.Wk w) : σ x = σ w ↔ x = w := ⟨fun e => h.inj x w x0 x1 (by have := hw.1; omega) hw.2 e, fun e => by rw [e]⟩
theorem atP_set_eq {cs : List Int} {p x : Int} (p0 : 0 ≤ p) (p1 : p < cs.length) : atP (cs.set p.toNat x) p = x := by
  unfold atP
  rw [List.getD_eq_getElem?_getD, List.getElem?_set_self (by omega)] <;> rfl
theorem atP_set_ne {cs : List Int} {p q x : Int} (p0 : 0 ≤ p) (q0 : 0 ≤ q) (h : p ≠ q) : atP (cs.set p.toNat x) q = atP cs q := by
  unfold atP
  rw [List.getD_eq_getElem?_getD, List.getElem?_set_ne (by omega), List.getD_eq_getElem?_getD]
theorem atP_bd (hc : y.Ok c) {p : Int} (p0 : 0 ≤ p) (p1 : p < y.n) : 0 ≤ atP c.1 p ∧ atP c.1 p ≤ y.os.length := hc.2.2.2 _ (atP_mem p0 (by rw [hc.1]; exact p1))
theorem order_bd (hy : y.ok) {w p : Int} (hw : y.Wk w) (p0 : 0 ≤ p) (p1 : p < y.n) : 0 ≤ atP (y.os.getD (w - 1).toNat []) p ∧ atP (y.os.getD (w - 1).toNat []) p < y.n := by
  have hl : (w - 1).toNat < y.os.length := by have := hw.1; have := hw.2; omega
  have e : y.os.getD (w - 1).toNat [] = y.os[(w - 1).toNat] := by rw [List.getD_eq_getElem?_getD, List.getElem?_eq_getElem hl] <;> rfl
  rw [e]
  have hm := hy.2.2.2.2.2.1 _ (List.getElem_mem hl)
  have := (hm.1.mem).mp (atP_mem p0 (by rw [hm.2]; exact p1))
  rw [hm.2] at this
  exact this
theorem SIso.touch (h : Iso y z σ π) (hc : y.Ok c) (s : SIso y σ π c d) {pl w : Int} {v : Str} (hw : y.Wk w) (p0 : 0 ≤ pl) (p1 : pl < y.n) :
    ∀ p : Int, 0 ≤ p → p < y.n → atP (touchF d.1 (π pl) v (σ w)) (π p) = σ (atP (touchF c.1 pl v w) p) := by
  intro p q0 q1
  have hb := h.pm pl p0 p1
  have hq := h.pm p q0 q1
  have hcon := s.con pl p0 p1
  have bd := atP_bd hc p0 p1
  have set : ∀ x : Int, atP (d.1.set (π pl).toNat (σ x)) (π p) = σ (atP (c.1.set pl.toNat x) p) := fun x => by
    by_cases e : pl = p
    · subst e
      rw [atP_set_eq hb.1 (by rw [s.l1]; exact hb.2), atP_set_eq p0 (by rw [hc.1]; exact p1)]
    · rw [atP_set_ne hb.1 hq.1 (fun z => e (h.pinj _ _ p0 p1 q0 q1 z)), atP_set_ne p0 q0 e, s.con p q0 q1]
  unfold touchF
  rw [hcon]
  by_cases c1 : v = "take" ∧ atP c.1 pl = 0
  · rw [if_pos c1, if_pos ⟨c1.1, (h.eq0 bd.1 bd.2).mpr c1.2⟩]
    exact set w
  · rw [if_neg c1, if_neg (fun z => c1 ⟨z.1, (h.eq0 bd.1 bd.2).mp z.2⟩)]
    by_cases c2 : v = "give" ∧ atP c.1 pl = w
    · rw [if_pos c2, if_pos ⟨c2.1, (h.eqw bd.1 bd.2 hw).mpr c2.2⟩]
      have := set 0
      rw [h.s0] at this
      exact this
    · rw [if_neg c2, if_neg (fun z => c2 ⟨z.1, (h.eqw bd.1 bd.2 hw).mp z.2⟩)]
      exact s.con p q0 q1
theorem SIso.sees (h : Iso y z σ π) (hy : y.ok) (hc : y.Ok c) (s : SIso y σ π c d) {w p : Int} {cd : Str} (hw : y.Wk w) (p0 : 0 ≤ p) (p1 : p < y.n) : z.sees d.1 (σ w) p cd = y.sees c.1 w p cd := by
  have ob := order_bd hy hw p0 p1
  have ec : z.con d.1 (σ w) p = σ (y.con c.1 w p) := by
    unfold Sy.con
    rw [h.ord w p hw p0 p1, s.con _ ob.1 ob.2]
  have cb : 0 ≤ y.con c.1 w p ∧ y.con c.1 w p ≤ y.os.length := atP_bd hc ob.1 ob.2
  have c0 : d.1.count 0 = c.1.count 0 := by
    have := s.count h hy hc (x := 0) (by omega) (by omega)
    rw [h.s0] at this
    exact this
  have cw : d.1.count (σ w) = c.1.count w := s.count h hy hc (by have := hw.1; omega) hw.2
  have an : ((rgI 1 (y.os.length + 1)).any fun o => decide (((d.1.count o : Nat) : Int) > ((c.1.count w : Nat) : Int))) = (rgI 1 (y.os.length + 1)).any fun o => decide (((c.1.count o : Nat) : Int) > ((c.1.count w : Nat) : Int)) := by
    rw [Bool.eq_iff_iff, List.any_eq_true, List.any_eq_true]
    constructor
    · rintro ⟨o, ho, e⟩
      have := mem_rgI.mp ho
      obtain ⟨x, hx, rfl⟩ := h.sur o ⟨by omega, by omega⟩
      rw [s.count h hy hc (by have := hx.1; omega) hx.2] at e
      exact ⟨x, mem_rgI.mpr ⟨hx.1, by have := hx.2; omega⟩, e⟩
    · rintro ⟨o, ho, e⟩
      have := mem_rgI.mp ho
      have hx := h.sw o ⟨by omega, by omega⟩
      refine ⟨σ o, mem_rgI.mpr ⟨hx.1, by have := hx.2; omega⟩, ?_⟩
      rw [s.count h hy hc (by omega) (by omega)]
      exact e
  unfold Sy.sees seesF
  rw [ec, h.len, h.n, h.cap, c0, cw, an]
  have d0 : decide (σ (y.con c.1 w p) = 0) = decide (y.con c.1 w p = 0) := decide_eq_decide.mpr (h.eq0 cb.1 cb.2)
  have dw : decide (σ (y.con c.1 w p) = σ w) = decide (y.con c.1 w p = w) := decide_eq_decide.mpr (h.eqw cb.1 cb.2 hw)
  rw [d0, dw]
theorem getD_set_eq {α : Type} {l : List α} {i : Nat} {x a : α} (h : i < l.length) : (l.set i x).getD i a = x := by rw [List.getD_eq_getElem?_getD, List.getElem?_set_self h] <;> rfl
theorem getD_set_ne {α : Type} {l : List α} {i j : Nat} {x a : α} (h : i ≠ j) : (l.set i x).getD j a = l.getD j a := by rw [List.getD_eq_getElem?_getD, List.getElem?_set_ne h, List.getD_eq_getElem?_getD]
theorem SIso.next (h : Iso y z σ π) (hy : y.ok) (hc : y.Ok c) (s : SIso y σ π c d) {w : Int} (hw : y.Wk w) : SIso y σ π (y.next c w) (z.next d (σ w)) := by
  obtain ⟨l, p, hp, hp2, l1, l2, p1, p2, _⟩ := StOk.pair hc hw.1 hw.2
  have wσ := h.sw w hw
  have ecmd : z.cmd l = y.cmd l := by unfold Sy.cmd; rw [h.ks]
  have st1 : y.stepC c.1 c.2 w = y.move c.1 w l p (y.cmd l) := by
    show y.move c.1 w (c.2.getD (w - 1).toNat (0, 0)).1 (c.2.getD (w - 1).toNat (0, 0)).2 (y.cmd (c.2.getD (w - 1).toNat (0, 0)).1) = _
    rw [hp2]
  have st2 : z.stepC d.1 d.2 (σ w) = z.move d.1 (σ w) l p (y.cmd l) := by
    show z.move d.1 (σ w) (d.2.getD (σ w - 1).toNat (0, 0)).1 (d.2.getD (σ w - 1).toNat (0, 0)).2 (z.cmd (d.2.getD (σ w - 1).toNat (0, 0)).1) = _
    rw [s.prs w hw, hp2]
    show z.move d.1 (σ w) l p (z.cmd l) = _
    rw [ecmd]
  have key : (z.move d.1 (σ w) l p (y.cmd l)).2 = (y.move c.1 w l p (y.cmd l)).2 ∧ (z.move d.1 (σ w) l p (y.cmd l)).1.length = y.n ∧ ∀ q : Int, 0 ≤ q → q < y.n → atP (z.move d.1 (σ w) l p (y.cmd l)).1 (π q) = σ (atP (y.move c.1 w l p (y.cmd l)).1 q) := by
    generalize y.cmd l = k
    unfold Sy.move
    rw [h.ks, h.n, s.sees h hy hc hw p1 p2, h.ord w p hw p1 p2]
    have ob := order_bd hy hw p1 p2
    split
    · exact ⟨rfl, s.l1, s.con⟩
    · split
      · exact ⟨rfl, by rw [length_touch]; exact s.l1, s.touch h hc hw ob.1 ob.2⟩
      · split
        · exact ⟨rfl, s.l1, s.con⟩
        · split
          · exact ⟨rfl, s.l1, s.con⟩
          · exact ⟨rfl, s.l1, s.con⟩
  refine ⟨?_, ?_, ?_, ?_⟩
  · show (z.stepC d.1 d.2 (σ w)).1.length = y.n
    rw [st2]; exact key.2.1
  · show ∀ q : Int, 0 ≤ q → q < y.n → atP (z.stepC d.1 d.2 (σ w)).1 (π q) = σ (atP (y.stepC c.1 c.2 w).1 q)
    rw [st1, st2]; exact key.2.2
  · show (d.2.set _ _).length = _
    rw [List.length_set]; exact s.l2
  · intro v hv
    show (d.2.set (σ w - 1).toNat (z.stepC d.1 d.2 (σ w)).2).getD (σ v - 1).toNat (0, 0) = (c.2.set (w - 1).toNat (y.stepC c.1 c.2 w).2).getD (v - 1).toNat (0, 0)
    rw [st1, st2, key.1]
    have vσ := h.sw v hv
    have w1 := hw.1
    have w2 := hw.2
    have v1 := hv.1
    have v2 := hv.2
    have a1 := wσ.1
    have a2 := wσ.2
    have b1 := vσ.1
    have b2 := vσ.2
    by_cases e : w = v
    · subst e
      rw [getD_set_eq (by rw [s.l2]; omega), getD_set_eq (by rw [hc.2.1]; omega)]
    · have e2 : σ w ≠ σ v := fun q => e (h.inj w v (by omega) w2 (by omega) v2 q)
      rw [getD_set_ne (by omega), getD_set_ne (by omega), s.prs v hv]
theorem SIso.start (h : Iso y z σ π) (hy : y.ok) : SIso y σ π y.start z.start := by
  refine ⟨?_, fun p p0 p1 => ?_, ?_, fun w hw => ?_⟩
  · show (List.replicate z.n 0).length = _
    rw [List.length_replicate, h.n]
  · have hb := h.pm p p0 p1
    have at0 : ∀ (m : Nat) (q : Int), atP (List.replicate m 0) q = 0 := fun m q => by
      unfold atP
      rw [List.getD_eq_getElem?_getD, List.getElem?_replicate]
      split <;> rfl
    show atP (List.replicate z.n 0) (π p) = σ (atP (List.replicate y.n 0) p)
    rw [at0, at0, h.s0]
  · show (List.replicate z.os.length ((0 : Int), (0 : Int))).length = _
    rw [List.length_replicate, h.len]
  · have at0 : ∀ (m q : Nat), (List.replicate m ((0 : Int), (0 : Int))).getD q (0, 0) = (0, 0) := fun m q => by
      rw [List.getD_eq_getElem?_getD, List.getElem?_replicate]
      split <;> rfl
    show (List.replicate z.os.length ((0 : Int), (0 : Int))).getD _ _ = (List.replicate y.os.length ((0 : Int), (0 : Int))).getD _ _
    rw [at0, at0]
theorem SIso.run (h : Iso y z σ π) (hy : y.ok) : ∀ {ws : List Int} {c d : Cfg}, y.Ok c → SIso y σ π c d → (∀ w ∈ ws, y.Wk w) → SIso y σ π (y.run c ws) (z.run d (ws.map σ))
  | [], _, _, _, s, _ => s
  | w :: ws, c, d, hc, s, hw => by
    have hv := hw w List.mem_cons_self
    show SIso y σ π (y.run (y.next c w) ws) (z.run (z.next d (σ w)) (ws.map σ))
    exact SIso.run h hy (Sy.next_ok hy hc hv) (s.next h hy hc hv) fun v hv => hw v (List.mem_cons_of_mem _ hv)
theorem SIso.uniq {d' : Cfg} (h : Iso y z σ π) (hy : y.ok) (s : SIso y σ π c d) (t : SIso y σ π c d') : d = d' := by
  have e1 : d.1 = d'.1 := by
    refine List.ext_getElem? fun i => ?_
    by_cases hi : i < y.n
    · have hm : (i : Int) ∈ (rg y.n).map π := (h.perm hy).mem_iff.mpr (mem_rg.mpr ⟨by omega, by omega⟩)
      obtain ⟨p, hp, e⟩ := List.mem_map.mp hm
      have hb := mem_rg.mp hp
      have a := s.con p (by omega) (by omega)
      have b := t.con p (by omega) (by omega)
      rw [← b, e] at a
      unfold atP at a
      rw [Int.toNat_natCast, List.getD_eq_getElem?_getD, List.getD_eq_getElem?_getD, List.getElem?_eq_getElem (by rw [s.l1]; exact hi), List.getElem?_eq_getElem (by rw [t.l1]; exact hi)] at a
      rw [List.getElem?_eq_getElem (by rw [s.l1]; exact hi), List.getElem?_eq_getElem (by rw [t.l1]; exact hi)]
      exact congrArg some a
    · rw [List.getElem?_eq_none (by rw [s.l1]; omega), List.getElem?_eq_none (by rw [t.l1]; omega)]
  have e2 : d.2 = d'.2 := by
    refine List.ext_getElem? fun i => ?_
    by_cases hi : i < y.os.length
    · obtain ⟨w, hw, e⟩ := h.sur ((i : Int) + 1) ⟨by omega, by omega⟩
      have a := s.prs w hw
      have b := t.prs w hw
      rw [← b, e] at a
      have ei : ((i : Int) + 1 - 1).toNat = i := by omega
      rw [ei, List.getD_eq_getElem?_getD, List.getD_eq_getElem?_getD, List.getElem?_eq_getElem (by rw [s.l2]; exact hi), List.getElem?_eq_getElem (by rw [t.l2]; exact hi)] at a
      rw [List.getElem?_eq_getElem (by rw [s.l2]; exact hi), List.getElem?_eq_getElem (by rw [t.l2]; exact hi)]
      exact congrArg some a
    · rw [List.getElem?_eq_none (by rw [s.l2]; omega), List.getElem?_eq_none (by rw [t.l2]; omega)]
  exact Prod.ext e1 e2
end
def formF (ord : List Int) (n : Nat) : List Int := (rg n).map fun i => (ord.idxOf (i + 1) : Int)
def ordF (ord : List Int) (w : Int) : Int := if w = 0 then 0 else atP ord (w - 1)
def IsOrd (ord : List Int) (n : Nat) : Prop := ord.Perm (rgI 1 (n + 1))
theorem length_rgI1 (n : Nat) : (rgI 1 (n + 1)).length = n := by rw [length_rgI]; omega
section
variable {ord : List Int} {n : Nat}
theorem IsOrd.len (h : IsOrd ord n) : ord.length = n := by rw [h.length_eq, length_rgI1]
theorem IsOrd.mem (h : IsOrd ord n) {x : Int} : x ∈ ord ↔ 1 ≤ x ∧ x ≤ n := by rw [h.mem_iff, mem_rgI]; omega
theorem nodup_rgI (a b : Int) : (rgI a b).Nodup := List.pairwise_map.mpr (List.nodup_range.imp fun h e => h (by omega))
theorem IsOrd.nodup (h : IsOrd ord n) : ord.Nodup := h.symm.nodup (nodup_rgI _ _)
theorem sorted_rgI (a b : Int) : (rgI a b).Pairwise (· ≤ ·) := List.pairwise_map.mpr (List.pairwise_lt_range.imp fun h => by omega)
theorem IsOrd.sorted {ns : List Int} (p : ns.Perm ord) (s : ns.Pairwise (· ≤ ·)) : ns = rgI 1 (n + 1) ↔ IsOrd ord n := ⟨fun e => by subst e; exact p.symm, fun h => List.Perm.eq_of_pairwise (le := (· ≤ ·)) (fun a b _ _ h1 h2 => Int.le_antisymm h1 h2) s (sorted_rgI _ _) (p.trans h)⟩
theorem IsOrd.at_ (h : IsOrd ord n) {w : Int} (w1 : 1 ≤ w) (w2 : w ≤ n) : 1 ≤ atP ord (w - 1) ∧ atP ord (w - 1) ≤ n := h.mem.mp (atP_mem (by omega) (by rw [h.len]; omega))
theorem idx_nodup (h : ord.Nodup) {k : Int} (k0 : 0 ≤ k) (k1 : k < ord.length) : (ord.idxOf (atP ord k) : Int) = k := by
  have hk : k.toNat < ord.length := by omega
  have e : atP ord k = ord[k.toNat] := by unfold atP; rw [List.getD_eq_getElem?_getD, List.getElem?_eq_getElem hk] <;> rfl
  have hm : ord[k.toNat] ∈ ord := List.getElem_mem hk
  have hl := List.idxOf_lt_length_of_mem hm
  have z := List.getElem_idxOf hl
  have := (List.getElem_inj h).mp z
  rw [e, this]
  omega
theorem atP_idx {x : Int} (hm : x ∈ ord) : atP ord (ord.idxOf x : Int) = x := by
  have hl := List.idxOf_lt_length_of_mem hm
  unfold atP
  rw [Int.toNat_natCast, List.getD_eq_getElem?_getD, List.getElem?_eq_getElem hl]
  exact List.getElem_idxOf hl
theorem length_formF : (formF ord n).length = n := by unfold formF; rw [List.length_map, length_rg]
theorem formF_get {i : Nat} (h : i < n) : (formF ord n)[i]? = some (ord.idxOf ((i : Int) + 1) : Int) := by
  unfold formF
  rw [List.getElem?_map, rg_get h] <;> rfl
theorem formF_mem (h : IsOrd ord n) {k : Int} (hk : k ∈ formF ord n) : 0 ≤ k ∧ k < n := by
  obtain ⟨i, hi, rfl⟩ := List.mem_map.mp hk
  have := mem_rg.mp hi
  have := List.idxOf_lt_length_of_mem ((h.mem (x := i + 1)).mpr ⟨by omega, by omega⟩)
  rw [h.len] at this
  omega
end
def Sy.exch (y : Sy) (ord : List Int) : Sy := ⟨y.ks, (formF ord y.os.length).map fun k => y.os.getD k.toNat [], y.n, y.cap⟩
def Sy.ren (y : Sy) (pl : List Int) : Sy := ⟨y.ks, y.os.map (mulP pl), y.n, y.cap⟩
section
variable {y : Sy} {ord pl : List Int}
theorem Sy.exch_ok (hy : y.ok) (h : IsOrd ord y.os.length) : (y.exch ord).ok := by
  have e : (y.exch ord).os.length = y.os.length := by show (List.map _ _).length = _; rw [List.length_map, length_formF]
  refine ⟨hy.1, by rw [e]; exact hy.2.1, by rw [e]; exact hy.2.2.1, hy.2.2.2.1, hy.2.2.2.2.1, fun o ho => ?_, hy.2.2.2.2.2.2⟩
  obtain ⟨k, hk, rfl⟩ := List.mem_map.mp ho
  have hb := formF_mem h hk
  have hl : k.toNat < y.os.length := by omega
  refine hy.2.2.2.2.2.1 _ ?_
  rw [List.getD_eq_getElem?_getD, List.getElem?_eq_getElem hl]
  exact List.getElem_mem hl
theorem Sy.ren_ok (hy : y.ok) (h : IsNum pl) (hl : pl.length = y.n) : (y.ren pl).ok := by
  have e : (y.ren pl).os.length = y.os.length := List.length_map _
  refine ⟨hy.1, by rw [e]; exact hy.2.1, by rw [e]; exact hy.2.2.1, hy.2.2.2.1, hy.2.2.2.2.1, fun o ho => ?_, hy.2.2.2.2.2.2⟩
  obtain ⟨k, hk, rfl⟩ := List.mem_map.mp ho
  have := hy.2.2.2.2.2.1 k hk
  refine ⟨isNum_mul h this.1 (by rw [hl, this.2]), ?_⟩
  unfold mulP
  rw [List.length_map]
  exact this.2
theorem Sy.exch_iso (hy : y.ok) (h : IsOrd ord y.os.length) : Iso y (y.exch ord) (ordF ord) (fun p => p) := by
  have nz : ∀ w : Int, y.Wk w → ordF ord w = atP ord (w - 1) := fun w hw => if_neg (by have := hw.1; omega)
  refine ⟨rfl, rfl, rfl, by show (List.map _ _).length = _; rw [List.length_map, length_formF], if_pos rfl, fun w hw => ?_, fun a b a0 a1 b0 b1 e => ?_, fun v hv => ?_, fun p p0 p1 => ⟨p0, p1⟩, fun p q _ _ _ _ e => e, fun w p hw p0 p1 => ?_⟩
  · rw [nz w hw]
    exact h.at_ hw.1 hw.2
  · by_cases za : a = 0
    · by_cases zb : b = 0
      · rw [za, zb]
      · rw [za, nz b ⟨by omega, b1⟩] at e
        have := h.at_ (w := b) (by omega) b1
        unfold ordF at e
        rw [if_pos rfl] at e
        omega
    · by_cases zb : b = 0
      · rw [zb, nz a ⟨by omega, a1⟩] at e
        have := h.at_ (w := a) (by omega) a1
        unfold ordF at e
        rw [if_pos rfl] at e
        omega
      · rw [nz a ⟨by omega, a1⟩, nz b ⟨by omega, b1⟩] at e
        have i1 := idx_nodup h.nodup (k := a - 1) (by omega) (by rw [h.len]; omega)
        have i2 := idx_nodup h.nodup (k := b - 1) (by omega) (by rw [h.len]; omega)
        rw [e] at i1
        omega
  · have hm : v ∈ ord := h.mem.mpr hv
    have hl := List.idxOf_lt_length_of_mem hm
    rw [h.len] at hl
    refine ⟨(ord.idxOf v : Int) + 1, ⟨by omega, by omega⟩, ?_⟩
    rw [nz _ ⟨by omega, by omega⟩]
    have e : ((ord.idxOf v : Int) + 1 - 1) = (ord.idxOf v : Int) := by omega
    rw [e, atP_idx hm]
  · rw [nz w hw]
    have hb := h.at_ hw.1 hw.2
    have e : (y.exch ord).os.getD (atP ord (w - 1) - 1).toNat [] = y.os.getD (w - 1).toNat [] := by
      show (List.map _ _).getD _ _ = _
      rw [List.getD_eq_getElem?_getD, List.getElem?_map, formF_get (by omega)]
      have e1 : ((((atP ord (w - 1) - 1).toNat : Nat) : Int) + 1) = atP ord (w - 1) := by omega
      have w1 := hw.1
      have w2 := hw.2
      rw [e1, idx_nodup h.nodup (by omega) (by rw [h.len]; omega)] <;> rfl
    rw [e]
theorem Sy.ren_iso (hy : y.ok) (h : IsNum pl) (hl : pl.length = y.n) : Iso y (y.ren pl) (fun w => w) (atP pl) := by
  refine ⟨rfl, rfl, rfl, List.length_map _, rfl, fun w hw => hw, fun a b _ _ _ _ e => e, fun v hv => ⟨v, hv, rfl⟩, fun p p0 p1 => ?_, fun p q p0 p1 q0 q1 e => ?_, fun w p hw p0 p1 => ?_⟩
  · have := h.mem.mp (atP_mem p0 (by rw [hl]; exact p1))
    rw [hl] at this
    exact this
  · have i1 := idx_nodup h.nodup p0 (by rw [hl]; exact p1)
    have i2 := idx_nodup h.nodup q0 (by rw [hl]; exact q1)
    rw [e] at i1
    omega
  · have w1 := hw.1
    have w2 := hw.2
    have hk : (w - 1).toNat < y.os.length := by omega
    show atP ((y.os.map (mulP pl)).getD _ _) p = atP pl (atP (y.os.getD _ _) p)
    rw [List.getD_eq_getElem?_getD, List.getD_eq_getElem?_getD, List.getElem?_map, List.getElem?_eq_getElem hk]
    show atP (mulP pl y.os[(w - 1).toNat]) p = atP pl (atP y.os[(w - 1).toNat] p)
    have := (hy.2.2.2.2.2.1 _ (List.getElem_mem hk)).2
    unfold mulP
    generalize y.os[(w - 1).toNat] = o at this
    have hp : p.toNat < o.length := by omega
    show (List.map (atP pl) o).getD p.toNat 0 = atP pl (o.getD p.toNat 0)
    rw [List.getD_eq_getElem?_getD, List.getD_eq_getElem?_getD, List.getElem?_map, List.getElem?_eq_getElem hp] <;> rfl
end
def Sy.at_ (y : Sy) (ps : List (Int × Int)) (v : Str) : List Int := ((rg ps.length).filter fun i => decide ((y.cmd (ps.getD i.toNat (0, 0)).1).v = v)).map (· + 1)
theorem Sy.mem_at {y : Sy} {ps : List (Int × Int)} {v : Str} {w : Int} : w ∈ y.at_ ps v ↔ 1 ≤ w ∧ w ≤ ps.length ∧ (y.cmd (ps.getD (w - 1).toNat (0, 0)).1).v = v := by
  unfold Sy.at_
  rw [List.mem_map]
  constructor
  · rintro ⟨i, hi, rfl⟩
    obtain ⟨a, b⟩ := List.mem_filter.mp hi
    have := mem_rg.mp a
    have e : (i + 1 - 1) = i := by omega
    exact ⟨by omega, by omega, by rw [e]; exact of_decide_eq_true b⟩
  · rintro ⟨w1, w2, e⟩
    exact ⟨w - 1, List.mem_filter.mpr ⟨mem_rg.mpr ⟨by omega, by omega⟩, decide_eq_true e⟩, by omega⟩
theorem lt_rg (n : Nat) : (rg n).Pairwise (· < ·) := List.pairwise_map.mpr (List.pairwise_lt_range.imp fun h => by omega)
theorem Sy.lt_at {y : Sy} {ps : List (Int × Int)} {v : Str} : (y.at_ ps v).Pairwise (· < ·) := List.pairwise_map.mpr (((lt_rg _).filter _).imp fun h => by omega)
theorem eq_of_lt {ns ms : List Int} (h1 : ns.Pairwise (· < ·)) (h2 : ms.Pairwise (· < ·)) (h : ∀ x, x ∈ ns ↔ x ∈ ms) : ns = ms := by
  have n1 : ns.Nodup := h1.imp fun h => by omega
  have n2 : ms.Nodup := h2.imp fun h => by omega
  exact List.Perm.eq_of_pairwise (le := (· ≤ ·)) (fun a b _ _ h1 h2 => Int.le_antisymm h1 h2) (h1.imp fun h => by omega) (h2.imp fun h => by omega) ((List.perm_ext_iff_of_nodup n1 n2).mpr h)
theorem SIso.at_ {y z : Sy} {σ π : Int → Int} {c d : Cfg} {v : Str} {ns : List Int} (h : Iso y z σ π) (hc : y.Ok c) (s : SIso y σ π c d) (p : ns.Perm ((y.at_ c.2 v).map σ)) (hs : ns.Pairwise (· ≤ ·)) : ns = z.at_ d.2 v := by
  have ecmd : ∀ l, z.cmd l = y.cmd l := fun l => by unfold Sy.cmd; rw [h.ks]
  have nd : ((y.at_ c.2 v).map σ).Nodup := by
    refine List.pairwise_map.mpr ((Sy.lt_at.imp (S := (· ≠ ·)) fun h => by omega).imp_of_mem fun {a b} ha hb hab e => hab ?_)
    have x := Sy.mem_at.mp ha
    have x2 := Sy.mem_at.mp hb
    rw [hc.2.1] at x x2
    exact h.inj a b (by omega) x.2.1 (by omega) x2.2.1 e
  refine eq_of_lt ?_ Sy.lt_at fun x => ?_
  · exact (hs.and (p.symm.nodup nd)).imp fun h => by
      have := h.1
      have := h.2
      omega
  · rw [p.mem_iff, List.mem_map]
    constructor
    · rintro ⟨w, hw, rfl⟩
      obtain ⟨w1, w2, e⟩ := Sy.mem_at.mp hw
      rw [hc.2.1] at w2
      have hwk : y.Wk w := ⟨w1, w2⟩
      have b := h.sw w hwk
      exact Sy.mem_at.mpr ⟨b.1, by rw [s.l2]; exact b.2, by rw [s.prs w hwk, ecmd]; exact e⟩
    · intro hx
      obtain ⟨x1, x2, e⟩ := Sy.mem_at.mp hx
      rw [s.l2] at x2
      obtain ⟨w, hw, rfl⟩ := h.sur x ⟨x1, x2⟩
      rw [s.prs w hw, ecmd] at e
      exact ⟨w, Sy.mem_at.mpr ⟨hw.1, by rw [hc.2.1]; exact hw.2, e⟩, rfl⟩
end LW
namespace LW
open PySem PySem.Spec PyProof.Rows L2
theorem exch_uniq {α : Type} {d : α} {xs ys : List α} {ord : List Int} {n : Nat} (ho : IsOrd ord n) (hl : ys.length = n) (h : ∀ w : Int, 1 ≤ w → w ≤ n → ys.getD (ordF ord w - 1).toNat d = xs.getD (w - 1).toNat d) : ys = (formF ord n).map fun k => xs.getD k.toNat d := by
  refine List.ext_getElem? fun j => ?_
  by_cases hj : j < n
  · rw [List.getElem?_map, formF_get hj]
    have hm : ((j : Int) + 1) ∈ ord := ho.mem.mpr ⟨by omega, by omega⟩
    have hk : ord.idxOf ((j : Int) + 1) < n := by rw [← ho.len]; exact List.idxOf_lt_length_of_mem hm
    have e := h ((ord.idxOf ((j : Int) + 1) : Nat) + 1) (by omega) (by omega)
    have e1 : ordF ord ((ord.idxOf ((j : Int) + 1) : Nat) + 1) = (j : Int) + 1 := by
      unfold ordF
      rw [if_neg (by omega), show (((ord.idxOf ((j : Int) + 1) : Nat) : Int) + 1 - 1) = ((ord.idxOf ((j : Int) + 1) : Nat) : Int) by omega]
      exact atP_idx hm
    rw [e1, show ((j : Int) + 1 - 1).toNat = j by omega, show ((((ord.idxOf ((j : Int) + 1) : Nat) : Int) + 1 - 1)).toNat = ord.idxOf ((j : Int) + 1) by omega] at e
    rw [List.getD_eq_getElem?_getD, List.getElem?_eq_getElem (by omega)] at e
    rw [List.getElem?_eq_getElem (by omega)]
    show some ys[j] = some (xs.getD (ord.idxOf ((j : Int) + 1)) d)
    rw [← e] <;> rfl
  · rw [List.getElem?_eq_none (by omega), List.getElem?_eq_none (by rw [List.length_map, length_formF]; omega)]
theorem ren_uniq {cs cs' pl : List Int} (hp : IsNum pl) (hl : cs'.length = pl.length) (h : ∀ p : Int, 0 ≤ p → p < pl.length → atP cs' (atP pl p) = atP cs p) : cs' = (invP pl).map (atP cs) := by
  refine List.ext_getElem? fun j => ?_
  by_cases hj : j < pl.length
  · have hi := idx_lt hp (k := (j : Int)) (by omega) (by omega)
    have e := h (pl.idxOf (j : Int) : Nat) (by omega) (by omega)
    rw [idx_at hp (by omega) (by omega)] at e
    have e2 : (invP pl)[j]? = some (pl.idxOf (j : Int) : Int) := by
      unfold invP
      rw [List.getElem?_map, rg_get hj] <;> rfl
    rw [List.getElem?_map, e2]
    show _ = some (atP cs (pl.idxOf (j : Int) : Nat))
    rw [← e]
    unfold atP
    rw [Int.toNat_natCast, List.getD_eq_getElem?_getD, List.getElem?_eq_getElem (by omega)] <;> rfl
  · rw [List.getElem?_eq_none (by omega), List.getElem?_eq_none (by rw [List.length_map, length_inv]; omega)]
abbrev olD (o : List Int) : D := .lst (dInts o)
def exO (os : List (List Int)) (ord : List Int) : List (List Int) := (formF ord os.length).map fun k => os.getD k.toNat []
def renO (os : List (List Int)) (pl : List Int) : List (List Int) := os.map (mulP pl)
def ExI {α : Type} (d : α) (xs : List α) (ord : List Int) (i : Nat) (ys : List α) : Prop := ys.length = xs.length ∧ ∀ w : Int, 1 ≤ w → w ≤ i → ys.getD (ordF ord w - 1).toNat d = xs.getD (w - 1).toNat d
theorem ExI.zero {α : Type} {d : α} {xs : List α} {ord : List Int} : ExI d xs ord 0 xs := ⟨rfl, fun w h1 h2 => by omega⟩
theorem ExI.step {α : Type} {d : α} {xs ys : List α} {ord : List Int} {n i : Nat} (ho : IsOrd ord n) (hn : xs.length = n) (hi : i < n) (h : ExI d xs ord i ys) : ExI d xs ord (i + 1) (ys.set (atP ord i - 1).toNat (xs.getD i d)) := by
  obtain ⟨hl, hw⟩ := h
  have e2 : (i : Int) + 1 - 1 = i := by omega
  have hb := ho.at_ (w := (i : Int) + 1) (by omega) (by omega)
  rw [e2] at hb
  refine ⟨by rw [List.length_set]; exact hl, fun w h1 h2 => ?_⟩
  have hz : ordF ord w = atP ord (w - 1) := if_neg (by omega)
  rw [hz]
  by_cases e : w = (i : Int) + 1
  · rw [e, e2, List.getD_eq_getElem?_getD, List.getElem?_set_self (by omega), Int.toNat_natCast] <;> rfl
  · have hb2 := ho.at_ (w := w) h1 (by omega)
    have i1 := idx_nodup ho.nodup (k := w - 1) (by omega) (by rw [ho.len]; omega)
    have i2 := idx_nodup ho.nodup (k := (i : Int)) (by omega) (by rw [ho.len]; omega)
    have ne : atP ord i ≠ atP ord (w - 1) := fun z => by rw [z] at i2; omega
    rw [List.getD_eq_getElem?_getD, List.getElem?_set_ne (by omega), ← List.getD_eq_getElem?_getD]
    have := hw w h1 (by omega)
    rw [hz] at this
    exact this
theorem ExI.done {α : Type} {d : α} {xs ys : List α} {ord : List Int} {n : Nat} (ho : IsOrd ord n) (hn : xs.length = n) (h : ExI d xs ord n ys) : ys = (formF ord n).map fun k => xs.getD k.toNat d := exch_uniq ho (h.1.trans hn) h.2
theorem isOrd_sh {o : List Int} {n : Nat} (h : IsNum o) (hl : o.length = n) : IsOrd (o.map (· + 1)) n := by
  have e : rgI 1 (n + 1) = (rg n).map (· + 1) := by
    unfold rg rgI
    have e : ((n : Int) + 1 - 1).toNat = n := by omega
    rw [e, List.map_map]
    exact List.map_congr_left fun i _ => Int.add_comm _ _
  show (o.map (· + 1)).Perm _
  rw [e, ← hl]
  exact h.2.2.map _
theorem dInts_inc {o : List Int} : (o.map fun x => D.int (x + 1)) = dInts (o.map (· + 1)) := by unfold dInts; rw [List.map_map] <;> rfl
end LW
namespace LW
open PySem PySem.Spec PyProof.Rows L2
theorem rgI_iff {a b y : Int} {i : Nat} : (rgI a b)[i]? = some y ↔ (i : Int) < b - a ∧ y = a + i := by
  unfold rgI
  rw [List.getElem?_map]
  rcases Nat.lt_or_ge i (b - a).toNat with h | h
  · rw [List.getElem?_range h]
    constructor
    · intro e
      exact ⟨by omega, (Option.some.inj e).symm⟩
    · rintro ⟨_, rfl⟩
      rfl
  · rw [List.getElem?_eq_none (by rw [List.length_range]; exact h)]
    constructor
    · intro e; cases e
    · intro e; omega
theorem len_rgI (a b : Int) : (rgI a b).length = (b - a).toNat := by unfold rgI; rw [List.length_map, List.length_range]
section
variable {W : Wrl} {P : PEn W} {ω : W.Ω} {ρ : List Sl} {s : QTS W} {g : QTG}
theorem v_kForRg {a b : Int} (I : Nat → W.Ω → List Sl → Prop) (h0 : I 0 ω ρ) (hs : ∀ (i : Nat) ω ρ, (i : Int) < b - a → I i ω ρ → g (.int (a + i)) ρ fun ρ' => s { P with nx := I (i + 1), ct := I (i + 1), bk := P.nx } ω ρ') (hd : ∀ ω ρ, I (b - a).toNat ω ρ → P.nx ω ρ) : kFor g s P ω ρ (dInts (rgI a b)) :=
  v_kForI I h0 (fun i y ω ρ hy hi => by obtain ⟨h1, rfl⟩ := rgI_iff.mp hy; exact hs i ω ρ h1 hi) (by rw [len_rgI]; exact hd)
end
theorem qg_up {X : Cx} {W : Wrl} {e : Expr} {t : List Nat} {g : QTG} (h : QG X .C W e t g) : QG X .A W e t g := PG.imp h fun v σ H Q ⟨F, T, ω, ρ, d, k, R, r, g, kk⟩ => ⟨F, T, ω, ρ, d, k, R, RR.c (m := .A) r, g, kk⟩
theorem blkOk_in2 {N : List Str} {sc0 scope0 : Scope} {cl : List (Str × Addr)} {C : Addr} {env : Env} {scope : Scope} {own : List (Str × Nat)} (h0 : env.scope = sc0) (h : blkC N (relS scope0 sc0) scope own = true) : BlkOk N (compEnvC scope0 cl C env).scope scope own := by
  show BlkOk N (relS scope0 env.scope) scope own
  rw [h0]
  exact blkOk_by h
end LW
namespace LW
open PySem PySem.Spec PyProof.Rows L2
def cpX (M : Model) (A : Around) (E : Value → Shared → Prop) (use : Option (Value → Sem Unit)) (Q : Value → Shared → Prop) (acc : Value) (C : Addr) (fr : Option Addr) (r : Result) (s' : Shared) : Prop :=
  match r with
  | .ok f => compPost M A E use Q acc C (.ok f) s'
  | .error x => ∃ m, s'.heap.Ns C m ∧ ∀ h2, Heap.SameBut C s'.heap h2 → ∀ ce : Env, ce.locals = C → ce.frame = fr → wpAny M A (passOn "comprehension.variables-let-go" x ce : Sem Value) (fun _ _ => False) E { s' with heap := h2 }
section
variable {M : Model} {A : Around} {E : Value → Shared → Prop} {s : Shared} {env : Env}
theorem comp_x {e : Expr} {scope : Scope} {pos : Pos} {mkA fst : Sem Value} {g : Comprehension} {gs : List Comprehension} {cl : List (Str × Addr)} {use : Option (Value → Sem Unit)} {Q : Value → Shared → Prop}
    (c1 : clausesOf e = g :: gs) (c2 : ∀ x, foldedSetIterable g.iter env x = pure x) (c3 : closureFor scope env = pure cl) (c4 : scope.kind = .function) (c5 : ∀ x ∈ scope.names, x.2 = .local → scope.names.lookup x.1 = some .local)
    (h : wpAny M A fst (fun x s1 => wpAny M A (pyIter x) (fun it s2 => wpAny M A mkA (fun acc s3 =>
        codeAny M A (.compStart e 0 it acc (compEnvC scope (cellsFrom (s3.heap.objs.size + 1) scope.names cl) s3.heap.objs.size env)) (cpX M A E use Q acc s3.heap.objs.size env.frame)
          { s3 with heap := pushCells (s3.heap.push { cls := .type "dict", data := .dict #[] }) scope.names }) E s2) E s1) E s) :
    wpAny M A (comprehension e scope env pos mkA false fst use) Q E s := by
  unfold comprehension
  rw [c3, c1]
  refine wpAny_bind (thn h fun x s1 k1 => ?_)
  refine wpAny_bind (wpAny_standAt (wpAny_bind (wpAny_of_eq (c2 x) ?_)))
  refine wpAny_bind (wpAny_holding (thn k1 fun it s2 k2 => ?_))
  refine wpAny_standIf (wpAny_bind (thn k2 fun acc s3 k3 => ?_))
  refine wpAny_bind (wpAny_pure (wpAny_bind (newEnv_comp ?_)))
  dsimp only
  generalize hce : compEnvC scope (cellsFrom (s3.heap.objs.size + 1) scope.names cl) s3.heap.objs.size env = ce at k3
  have lc : ce.locals = s3.heap.objs.size := by subst hce; rfl
  have fc : ce.frame = env.frame := by subst hce; rfl
  have kc : ce.scope.kind = .function := by subst hce; exact c4
  have hv : ∀ x ∈ (scope.names.filter fun x => (x.2 == .local || x.2 == .cell) && x.1 != (".0" : Str)).reverse, x.2 = .local → ce.kindOf x.1 = some .local := fun x hx hl => by
    subst hce
    exact lookup_relabel_local (c5 x (List.mem_filter.mp (List.mem_reverse.mp hx)).1 hl)
  have hv' : ∀ x ∈ (scope.names.filter fun x => (x.2 == .local || x.2 == .cell) && x.1 != (".0" : Str)).reverse.drop 1 ++ (scope.names.filter fun x => (x.2 == .local || x.2 == .cell) && x.1 != (".0" : Str)).reverse.take 1, x.2 = .local → ce.kindOf x.1 = some .local := fun x hx hl =>
    (List.mem_append.mp hx).elim (fun z => hv x (List.mem_of_mem_drop z) hl) fun z => hv x (List.mem_of_mem_take z) hl
  refine wpAny_holding (wpAny_bind (wpAny_attempt (wpAny_holding (wpAny_run (codeAny_mono (show codeAny _ _ _ _ _ from by rw [← hce] at k3; exact k3) fun r s5 hr => ?_)))))
  cases r with
  | ok f =>
    have hr : compPost M A E use Q acc s3.heap.objs.size (.ok f) s5 := hr
    cases use with
    | none =>
      obtain ⟨m, hn, hr⟩ := hr
      rw [← lc] at hn hr
      refine wpAny_bind (wpAny_holding ?_)
      subst hce
      exact wpAny_comp_letGo kc _ s5 m hv hn fun h6 m6 _ z => wpAny_pure (hr h6 z)
    | some u =>
      refine wpAny_bind (wpAny_rule (wpAny_bind (wpAny_holding (thn hr fun _ s6 ⟨m, hn, hr⟩ => ?_))))
      rw [← lc] at hn hr
      subst hce
      exact wpAny_bind (wpAny_comp_letGo kc _ s6 m hv' hn fun h7 m7 _ z => wpAny_pure (hr h7 z))
  | error x =>
    obtain ⟨m, hn, hr⟩ := hr
    rw [← lc] at hn hr
    refine wpAny_bind (wpAny_holding ?_)
    subst hce
    exact wpAny_comp_letGo kc _ s5 m hv hn fun h6 m6 _ z => wpAny_mono (hr h6 z _ rfl rfl) (fun _ _ q => q.elim) fun _ _ q => q
end
theorem funFrames_at {h h' B B' : Heap} : ∀ {l : List Env}, h.FunFrames B l → (∀ L ∈ frs l, h'.get? L = h.get? L) → (∀ L ∈ frs l, B'.get? L = none) → h'.FunFrames B' l
  | [], _, _, _ => trivial
  | env :: l, q, k, n => by
    obtain ⟨hk, ⟨L, o, hf, _, ho, hd⟩, hr⟩ := q
    have m : L ∈ frs (env :: l) := List.mem_filterMap.mpr ⟨env, List.mem_cons_self, hf⟩
    have sub : ∀ b, b ∈ frs l → b ∈ frs (env :: l) := fun b hb => by
      obtain ⟨e, he, q⟩ := List.mem_filterMap.mp hb
      exact List.mem_filterMap.mpr ⟨e, List.mem_cons_of_mem _ he, q⟩
    exact ⟨hk, ⟨L, o, hf, n L m, (k L m).trans ho, hd⟩, funFrames_at hr (fun b hb => k b (sub b hb)) fun b hb => n b (sub b hb)⟩
theorem note_same {x : Value} {e e' : Env} (h : e'.frame = e.frame) : noteFrame x e' = noteFrame x e := by
  unfold noteFrame PySem.frameOf
  rw [h]
section
variable {X : Cx} {W : WX} {E : XK} {pins : List (Addr × Obj)} {σ : L2.St} {H3 H : Hp} {s3 s s' : Shared} {fp : List Addr} {C : Addr}
theorem xe_blk {Qf : Value → Shared → Prop} {use : Option (Value → Sem Unit)} {acc u : Value} {ce : Env} {m : Str → Option Value} (I3 : Inv X pins σ H3 s3) (hs : X.stack = X.env :: X.outer) (hf : X.env.frame = some X.env.locals) (tk : L2N.Takes X W)
    (hfp : ∀ b ∈ fp, FpOk X pins H3 b) (os : s.os = s3.os) (un : Un (frs X.stack) fp H3 H s3.heap s.heap) (hC : s3.heap.objs.size ≤ C) (hCn : H C = none) (hn : s.heap.Ns C m) (hW : ∀ cls d H', E cls d H' → W cls d σ H')
    (c : L2N.CX X.prog X.w X.stack H s E u s') (hce : ce.frame = X.env.frame) : notedBy (model X.prog X.w) X.A ce (fun e s2 => cpX (model X.prog X.w) X.A X.xe use Qf acc C X.env.frame (.error e) s2) u s' := by
  obtain ⟨a, B, H', cls, d, rfl, fl, hok, ub, na, os', ag, hE⟩ := c
  have hfr : X.A.frames = some (X.env :: X.outer) := by rw [I3.ok.frames, hs]
  have flt : ∀ b ∈ frs X.stack, ∃ o, s3.heap.get? b = some o ∧ (∀ vs, o.data ≠ .fields vs) := fun b hb => by
    obtain ⟨_, o, ho, q⟩ := I3.stack.mem hb
    exact ⟨o, ho, q⟩
  have fC : ∀ b ∈ frs X.stack, b ≠ C := fun b hb z => by
    obtain ⟨o, ho, _⟩ := flt b hb
    have := Heap.lt_size ho
    rw [z] at this
    exact absurd (Nat.lt_of_lt_of_le this hC) (Nat.lt_irrefl _)
  have lC : ∀ b o, s3.heap.get? b = some o → b ≠ C := fun b o e z => by
    have := Heap.lt_size e
    rw [z] at this
    exact absurd (Nat.lt_of_lt_of_le this hC) (Nat.lt_irrefl _)
  obtain ⟨oC, es, ep, hoC, dC, rC⟩ := hn
  have BC : B.get? C = some oC := ub.keep C oC hoC hCn fun z => fC C z rfl
  have HC : H' C = none := ub.free C oC hoC hCn
  show wpAny _ _ (noteFrame (.ref a) ce) _ _ s'
  rw [note_same hce]
  rw [hs] at fl
  refine PXN.looks_onZ L2N.Zn.steady hfr hf fl fun h1 hh up => ?_
  obtain ⟨st1, na1, ff1, oe, vs, T, oT, ts, he, hz, hd, e1, hnT, hTe, hT, hdT, e3⟩ := hh
  have C1 : h1.get? C = some oC := st1 _ _ BC
  have aC : a ≠ C := fun z => by rw [z, C1] at he; cases he; rw [dC] at hd; cases hd
  have TC : T ≠ C := fun z => by rw [z, C1] at hT; cases hT; rw [dC] at hdT; cases hdT
  refine ⟨m, ⟨oC, es, ep, C1, dC, rC⟩, fun h2 sb ce' hl hfr' => ?_⟩
  have he2 : h2.get? a = some oe := (sb.2 a aC).trans he
  have hT2 : h2.get? T = some oT := (sb.2 T TC).trans hT
  unfold PySem.passOn
  refine wpAny_bind (wpAny_field (s := { s' with heap := h2 }) he2 hd e1 ?_)
  rw [if_neg (show ¬ ((Value.ref T == Value.none) = true) from by simp)]
  have fin : wpAny (model X.prog X.w) X.A (setFlight (.ref a) ce'.frame >>= fun _ => (throw (.ref a) : Sem Value)) (fun _ _ => False) X.xe { s' with heap := h2 } := by
    rw [hfr', hf]
    refine wpAny_bind ?_
    unfold setFlight
    refine wpAny_bind (wpAny_field (s := { s' with heap := h2 }) he2 hd e1 ?_)
    rw [if_pos (show (Value.ref T != Value.none) = true from by simp)]
    show wpAny _ _ (setField (.ref T) 3 (rawInt X.env.locals)) _ _ _
    refine wpAny_setField (s := { s' with heap := h2 }) hT2 hdT (Array.getElem?_eq_some_iff.mp e3).1 ?_
    rw [Heap.update_setField_same h2 T oT ts 3 (rawInt X.env.locals) hT2 hdT e3]
    refine wpAny_throw (tk _ _ ?_)
    obtain ⟨B', b1, b2⟩ := restrict B fun b => !decide (b = C)
    have Bn : ∀ b, b ≠ C → B'.get? b = B.get? b := fun b hb => b1 b (by simp [hb])
    have BnC : B'.get? C = none := b2 C (by simp)
    have Bs : ∀ b o, B'.get? b = some o → b ≠ C ∧ B.get? b = some o := fun b o e => by
      have hb : b ≠ C := fun z => by rw [z, BnC] at e; cases e
      exact ⟨hb, (Bn b hb).symm.trans e⟩
    have st2 : B'.StaysIn h2 := fun b o e => by
      obtain ⟨hb, e⟩ := Bs b o e
      exact (sb.2 b hb).trans (st1 b o e)
    have hok' : HOk X.prog X.w H' B' := fun b o q => (hok b o q).stay (fun c u hc r => by
      have hcC : c ≠ C := fun z => by
        rcases hc with hc | hc
        · rw [← hc, z, HC] at q; cases q
        · rw [z, HC] at hc; cases hc
      exact (Bn c hcC).trans r) (fun _ r => r) fun _ _ r => r
    obtain ⟨G, g1, g2⟩ := restrict h2 fun b => (B'.get? b).isSome || decide (b ∈ frs X.stack)
    have gB : ∀ b o, B'.get? b = some o → G.get? b = some o := fun b o e => by
      rw [g1 b (by simp [e])]
      exact st2 b o e
    have gF : ∀ b, b ∈ frs X.stack → G.get? b = h2.get? b := fun b hb => g1 b (by simp [hb])
    have og : ∀ b o, G.get? b = some o → h2.get? b = some o ∧ ((B'.get? b).isSome = true ∨ b ∈ frs X.stack) := fun b o e => by
      cases q : ((B'.get? b).isSome || decide (b ∈ frs X.stack)) with
      | false => rw [g2 b q] at e; cases e
      | true =>
        rw [g1 b q] at e
        exact ⟨e, by simpa [Bool.or_eq_true] using q⟩
    have sl : ∀ b o, b ∈ frs X.stack → s3.heap.get? b = some o → b ∉ fp → ∃ z, G.get? b = some { o with slots := z } := fun b o hb e hx => by
      obtain ⟨o1, e1, nf⟩ := flt b hb
      rw [e] at e1; cases e1
      obtain ⟨z1, q1⟩ := un.slot b o e (I3.stkFree b hb) hb hx
      obtain ⟨z2, q2⟩ := ub.slot b _ q1 hb
      obtain ⟨z3, q3⟩ := up b _ q2 nf
      exact ⟨z3, by rw [gF b hb, sb.2 b (fC b hb)]; exact q3⟩
    have uc : Un (frs X.stack) fp H3 H' s3.heap G := by
      refine ⟨fun b o e n hb hx => ?_, fun b o e n hb hx => sl b o hb e hx, fun b o e n hx => ?_, fun b o e hx => ?_, fun b xs e => ub.tups b xs (un.tups b xs e), fun b o xs e => ub.frzs b o xs (un.frzs b o xs e), fun b ps e => ?_⟩
      · have k1 := un.keep b o e n hb hx
        exact gB b o ((Bn b (lC b o e)).trans (ub.keep b o k1 (un.free b o e n hx) hb))
      · obtain ⟨o', k1⟩ := un.there b o e hx
        exact ub.free b o' k1 (un.free b o e n hx)
      · by_cases hb : b ∈ frs X.stack
        · obtain ⟨z, q⟩ := sl b o hb e hx
          exact ⟨_, q⟩
        · obtain ⟨o1, k1⟩ := un.there b o e hx
          obtain ⟨o2, k2⟩ := ub.there b o1 k1 hb
          exact ⟨o2, gB b o2 ((Bn b (lC b o e)).trans k2)⟩
      · obtain ⟨m1, k1⟩ := un.tbls b ps e
        obtain ⟨m2, k2⟩ := ub.tbls b _ k1
        exact ⟨m1 ++ m2, by rw [k2, Array.append_assoc]⟩
    have I' := I3.call (g' := s'.gens) (t' := s'.toks) (d' := s'.drawn) (ch := fp) uc (hok'.kept gB) ag fun b hb => ⟨(hfp b hb).2.2.2.1, (hfp b hb).2.1, (hfp b hb).2.2.2.2.1, (hfp b hb).2.2.2.2.2⟩
    refine ⟨a, B', _, pins, σ, H', cls, d, rfl, I', fun b o e hb => ?_, Heap.UpToSlots.of_keeps fun b o e => (og b o e).1, ?_, na, os'.trans os, ag, hW _ _ _ hE⟩
    · obtain ⟨q, r⟩ := og b o e
      rcases r with r | r
      · obtain ⟨o', z⟩ := Option.isSome_iff_exists.mp r
        have z2 := st2 b o' z
        rw [q] at z2; cases z2
        exact z
      · exact absurd r hb
    · rw [hs]
      refine .inr (.inr ⟨st2, ?_, funFrames_at ff1 (fun b hb => sb.2 b (fC b (by rw [hs]; exact hb))) (fun b hb => ?_), oe, vs, T, oT, ts, he2, hz, hd, e1, ?_, hTe, hT2, hdT, e3⟩)
      · cases q : B'.get? a with
        | none => rfl
        | some o =>
          have := (Bs a o q).2
          rw [na1] at this; cases this
      · cases q : B'.get? b with
        | none => rfl
        | some o =>
          have z := (Bs b o q).2
          rw [(ff1.mem hb).1] at z; cases z
      · cases q : B'.get? T with
        | none => rfl
        | some o =>
          have := (Bs T o q).2
          rw [hnT] at this; cases this
  first
    | exact wpAny_bind (wpAny_pure fin)
    | exact fin
end
section
variable {X : Cx}
def tLcX (wi : TI) (g : TG) (tt : TT) (te : XK → TE) (vs : List Nat) (Wo : WX) : TE := fun σ H Q => wi σ H fun J H1 => ∀ D, H1 D = none → ∃ W : Nat → Nat → Hp → Prop, (∃ m, W 0 m (upd H1 D (.lst []))) ∧ ∀ i m H, W i m H →
  (J.stop i H ∧ Q (.ref D) H) ∨ (J.go i H ∧ ∃ Nx : Hp → Prop, (∀ H', Nx H' → ∃ m', m' < m ∧ W (i + 1) m' H') ∧ ∀ x H', J.yld i H x H' → g x (wipe σ vs) H' fun σ2 H2 => wipe σ2 vs = wipe σ vs ∧ tt σ2 H2 fun b H3 =>
    if b = true then te (fun cls d H' => Wo cls d σ H') σ2 H3 fun y H4 => ∃ acc, H4 D = some (.lst acc) ∧ acc.length < sizeLine ∧ Nx (upd H4 D (.lst (acc ++ [y]))) else Nx H3)
abbrev Cx.blkx (X : Cx) (s : Shared) (H : Hp) (scope : Scope) (cl : List (Str × Addr)) (C : Addr) (fp : List Addr) (xe : Value → Shared → Prop) : Cx := (X.blk s H scope (compEnvC scope cl C X.env) fp).wish xe
theorem pe_lcX {elt tg iter : Expr} {ifs : List Expr} {scope : Scope} {own : List (Str × Nat)} {pos : Pos} {wi : TI} {g : TG} {tt : TT} {te : XK → TE} {Wo : WX} (hc : X.calm = true) (hN : X.N.Nodup) (hst : X.stack = X.env :: X.outer) (hf : X.env.frame = some X.env.locals) (tk : L2N.Takes X Wo) (hi : PI X tg iter wi) (ok : BlkOk X.N X.env.scope scope own)
    (hg : ∀ (s : Shared) (H : Hp) (C : Addr) (cl : List (Str × Addr)) (fp : List Addr), L2.PG (X.blk s H scope (compEnvC scope cl C X.env) fp) tg g) (ht : ∀ (s : Shared) (H : Hp) (C : Addr) (cl : List (Str × Addr)) (fp : List Addr), PTs (X.blk s H scope (compEnvC scope cl C X.env) fp) ifs tt)
    (he : ∀ (s : Shared) (H : Hp) (C : Addr) (cl : List (Str × Addr)) (fp : List Addr) (E : XK) (xe : Value → Shared → Prop), (∀ σ, PassesAt (L2N.CX X.prog X.w) (Cx.blkx X s H scope cl C fp xe) σ E) → PE (Cx.blkx X s H scope cl C fp xe) elt (te E))
    (hs : ∀ x, foldedSetIterable iter X.env x = pure x) : PE X (.ListComp elt [⟨tg, iter, ifs, 0⟩] scope pos) (tLcX wi g tt te (own.map (·.2)) Wo) := by
  refine ⟨fun pins s σ H Q I h => ?_⟩
  rw [eval_ListComp]
  have hfree : ∀ y ∈ scope.names, y.2 = .free → ∃ c, X.env.cells.lookup y.1 = some c := fun y hy e => I.ok.has _ ((ok.free y hy e).elim .inl .inr)
  refine comp_x (use := none) rfl hs (closure_ok hfree) ok.kind (fun y hy e => by rw [ok.uniq y hy, e]) (thn (hi.run pins s σ H _ I h) fun xv s1 hx => thn hx fun itv s2 h2 => ?_)
  obtain ⟨it, fp, tn, J, H2, e, I2, T, st2, f2, q⟩ := h2
  subst e
  refine wpAny_newObj_type ?_ (by show 0 ≤ sizeLine; decide)
  generalize hD : s2.heap.objs.size = D
  have hDn : H2 D = none := I2.hok.fresh (Nat.le_of_eq hD)
  obtain ⟨W, ⟨m0, w0⟩, turn⟩ := q D hDn
  generalize hs3 : ({ s2 with heap := s2.heap.push { cls := .type "list", data := .seq ([] : List Value).toArray } } : Shared) = s3
  have h3 : s3.heap = s2.heap.push { cls := .type "list", data := .seq ([] : List Value).toArray } := by rw [← hs3]
  have I3 : Inv X pins σ (upd H2 D (.lst [])) s3 := by
    subst hs3
    exact I2.laid (t' := s2.toks) (fun b o e => Heap.get?_push_of_some _ e) (Nat.le_of_eq hD) ⟨Nat.zero_le _, [], 0, .nil, by subst hD; exact Heap.get?_push_size _ rfl⟩
  have f3 : ∀ b ∈ fp, FpOk X pins (upd H2 D (.lst [])) b ∧ b < s3.heap.objs.size := fun b hb => by
    obtain ⟨o, e, _⟩ := T.obj _ _ st2 b hb
    have lt := Heap.lt_size e
    refine ⟨⟨?_, (f2 b hb).2⟩, by rw [h3, Heap.size_push]; exact Nat.lt_succ_of_lt lt⟩
    rw [upd_ne (by rw [← hD]; exact Nat.ne_of_lt lt)]
    exact (f2 b hb).1
  have st3 : tn 0 s3.heap := T.keep _ _ _ st2 fun b _ o e => by rw [h3]; exact Heap.get?_push_of_some _ e
  have I4 := block_start I3 ok hN f3
  generalize hcl : cellsFrom (s3.heap.objs.size + 1) scope.names (cloFrom X.env.cells scope.names []) = cl at I4
  generalize hH3 : upd H2 D (.lst []) = H3 at I3 I4 w0 f3
  generalize hC : s3.heap.objs.size = C at I4
  have pg := hg s3 H3 C cl fp
  have pt := ht s3 H3 C cl fp
  show codeAny _ _ (.compStart (.ListComp elt [⟨tg, iter, ifs, 0⟩] scope pos) 0 (.ref it) (.ref D) (compEnvC scope cl C X.env)) (cpX (model X.prog X.w) X.A X.xe none (EP X pins σ Q) (.ref D) C X.env.frame) { s3 with heap := pushCells (s3.heap.push { cls := .type "dict", data := .dict #[] }) scope.names }
  generalize hs4 : ({ s3 with heap := pushCells (s3.heap.push { cls := .type "dict", data := .dict #[] }) scope.names } : Shared) = s4 at I4 ⊢
  have st4 : tn 0 s4.heap := T.keep _ _ _ st3 fun b _ o e => by subst hs4; exact pushCells_keeps _ _ _ _ (Heap.get?_push_of_some _ e)
  have stat : ∀ {σ' : L2.St} {H' : Hp} {s' : Shared}, Inv (X.blk s3 H3 scope (compEnvC scope cl C X.env) fp) [] σ' H' s' → (∀ b ∈ fp, H' b = none) → ∀ b ∈ fp, FpOk (X.blk s3 H3 scope (compEnvC scope cl C X.env) fp) [] H' b := fun {σ' H' s'} I' hn b hb =>
    ⟨hn b hb, (I'.ok.exf b hb).1, I'.ok.exfs b hb, .inl hb, fun x c e => (I'.ok.exf b hb).2 x c e, fun p hp => absurd (show p ∈ ([] : List (Addr × Obj)) ++ [] from hp) (by simp)⟩
  have nsC : ∀ {ps : List (Addr × Obj)} {σ' : L2.St} {H' : Hp} {s' : Shared}, Inv (X.blk s3 H3 scope (compEnvC scope cl C X.env) fp) ps σ' H' s' → H' C = none ∧ ∃ m, s'.heap.Ns C m := fun I' => ⟨I'.free, let ⟨m, hn, _⟩ := I'.loc; ⟨m, hn⟩⟩
  have loop : codeAny (model X.prog X.w) X.A (.compLoop (.ListComp elt [⟨tg, iter, ifs, 0⟩] scope pos) 0 (.ref it) (.ref D) (compEnvC scope cl C X.env)) (cpX (model X.prog X.w) X.A X.xe none (EP X pins σ Q) (.ref D) C X.env.frame) s4 := by
    refine compLoop_any (fun n s' => ∃ i H', Inv (X.blk s3 H3 scope (compEnvC scope cl C X.env) fp) [] (wipe σ (own.map (·.2))) H' s' ∧ tn i s'.heap ∧ (∀ b ∈ fp, H' b = none) ∧ W i n H') ?_ m0 ⟨0, H3, I4, st4, fun b hb => (f3 b hb).1.1, w0⟩
    rintro n s5 ⟨i, H5, I5, st5, n5, w5⟩
    rcases turn i n H5 w5 with ⟨stop, qq⟩ | ⟨go, Nx, hNx, step⟩
    · refine thnF (T.done (X.blk s3 H3 scope (compEnvC scope cl C X.env) fp) rfl rfl rfl hc i [] s5 _ H5 (fun _ _ => False) I5 (stat I5 n5) st5 stop) fun r s6 ⟨hr, I6⟩ => ?_
      subst hr
      have I7 : Inv X pins σ H5 s6 := I3.call' (ch := fp) I6.os I6.base I6.hok I6.bare fun b hb => ⟨(f3 b hb).1.2.2.2.1, (f3 b hb).1.2.1, (f3 b hb).1.2.2.2.2.1, (f3 b hb).1.2.2.2.2.2⟩
      obtain ⟨nC, m, hn⟩ := nsC I6
      refine ⟨m, hn, fun h7 sb => ?_⟩
      obtain ⟨_, u1, _, u3, u4, u5⟩ := I3.fpOk (b := C) (H' := H5) (Nat.le_of_eq hC) nC
      exact ⟨.ref D, H5, I7.turned (t' := s6.toks) (fun b o hb e => (sb.2 b hb).trans e) nC u1 u3 u4 u5, rfl, qq⟩
    · refine thnF (T.item (X.blk s3 H3 scope (compEnvC scope cl C X.env) fp) rfl rfl rfl hc i [] s5 _ H5 (fun _ _ => False) I5 (stat I5 n5) st5 go) fun r s6 ⟨u, hr, h6⟩ => ?_
      subst hr
      refine thnF h6 fun _ s7 ⟨x, H7, I7, r7, y7, st7, n7⟩ => ?_
      refine thnF (pg.run _ s7 _ H7 x u _ (I7.pinned (stat I7 n7) (T.obj _ _ st7)) r7 (step x H7 y7)) fun _ s8 ⟨σ8, H8, I8, hw8, q8⟩ => ?_
      refine thnF (pt.run _ s8 σ8 H8 _ I8 q8) fun b s9 ⟨H9, I9, q9⟩ => ?_
      have fin : ∀ {s' : Shared} {H' : Hp}, Inv (X.blk s3 H3 scope (compEnvC scope cl C X.env) fp) ([] ++ pinsAt fp s7.heap) σ8 H' s' → Nx H' → ∃ m, m < n ∧ ∃ i H', Inv (X.blk s3 H3 scope (compEnvC scope cl C X.env) fp) [] (wipe σ (own.map (·.2))) H' s' ∧ tn i s'.heap ∧ (∀ b ∈ fp, H' b = none) ∧ W i m H' := fun {s' H'} I' nx => by
        obtain ⟨m', hm, w'⟩ := hNx H' nx
        have pin' : ∀ b ∈ fp, ∀ o, s7.heap.get? b = some o → s'.heap.get? b = some o ∧ H' b = none := fun b hb o e =>
          let z := I'.pin (b, o) (List.mem_append_right _ (List.mem_append_right _ (mem_pinsAt hb e)))
          ⟨z.1, z.2.1⟩
        refine ⟨m', hm, i + 1, H', (I'.unpinned (pins := [])).weak (by rw [← hw8, wipe_length]) (fun j v e => ?_), T.keep _ _ _ st7 fun b hb o e => (pin' b hb o e).1, fun b hb => ?_, w'⟩
        · rw [← hw8] at e
          exact (wipe_some e).1
        · obtain ⟨o, e, _⟩ := T.obj _ _ st7 b hb
          exact (pin' b hb o e).2
      cases b with
      | false =>
        rw [if_neg (by decide)] at q9 ⊢
        exact fin I9 q9
      | true =>
        rw [if_pos rfl] at q9 ⊢
        have pe := he s3 H3 C cl fp (fun cls d H' => Wo cls d σ H') (notedBy (model X.prog X.w) X.A (compEnvC scope cl C X.env) fun e s' => cpX (model X.prog X.w) X.A X.xe none (EP X pins σ Q) (.ref D) C X.env.frame (.error e) s') fun σ' ps H' s' e s2 I' c => by
          have J := I'.unwish
          obtain ⟨nC, m, hn⟩ := nsC J
          exact xe_blk I3 hst hf tk (fun b hb => (f3 b hb).1) J.os J.base (Nat.le_of_eq hC) nC hn (fun _ _ _ z => z) c rfl
        refine wpAny_mono (pe.run _ s9 σ8 H9 _ (I9.wish _) q9) (fun z s10 ⟨yv, H10, I10, r10, acc, hD10, hz10, nx⟩ => ?_) fun _ _ z => z
        exact app_ok (X := X.blk s3 H3 scope (compEnvC scope cl C X.env) fp) I10.unwish hD10 hz10 r10 fun s11 I11 => fin I11 nx
  exact codeAny_compStart_list loop (T.self X.A 0 _ _ _ st4 loop)
end
section
variable {X : Cx} {W : Wrl} {Wo : WX} {mi m : Md} {qi : QTI W} {g : QTG} {qt : QTT W} {qe : QT W} {vs ts : List Nat} {c : Expr} {ifs : List Expr}
def qLcX (qi : QTI W) (g : QTG) (qt : QTT W) (qe : QT W) (vs : List Nat) : QT W := fun ω ρ Q E => qi ω ρ (fun ω1 ds => still ρ vs = true ∧ ds.length ≤ 1000000 ∧ ∃ I : Nat → W.Ω → List D → Prop, I 0 ω1 [] ∧
  (∀ i d ω acc, ds[i]? = some d → I i ω acc → acc.length ≤ i → g d (wipeP ρ vs) fun ρ2 => wipeP ρ2 vs = wipeP ρ vs ∧ qt ω ρ2 (fun ω2 b => if b = true then qe ω2 ρ2 (fun ω3 y => I (i + 1) ω3 (acc ++ [y])) E else I (i + 1) ω2 acc) (fun _ _ => False)) ∧
  ∀ ω acc, I ds.length ω acc → Q ω (.lst acc)) E
theorem lf_lcX {K : PySem.W.Frag} (hts : ∀ j, j ∈ ts → j ∈ vs) (σ : L2.St) (H : Hp) (Q : VK) (h : lfE .F K W Wo (qLcX qi g qt qe vs) σ H Q) : tLcX (lfI mi K W Wo qi) (lfG mi K W ts g) (lfT K W Wo0 qt) (fun E => lfE .A K W (fun cls d _ H' => E cls d H') qe) vs Wo σ H Q := by
  obtain ⟨F, T, ω, ρ, Qp, Ep, R, q, hx, k⟩ := h
  refine ⟨F, T, ω, ρ, _, Ep, R, q, hx, fun T1 ω1 h ds J H1 R1 e1 it ⟨hst, hlen, I, i0, hstep, hend⟩ D hD => ?_⟩
  obtain ⟨hv, Rw, back⟩ := wipeHid vs hst R1
  have F1D : F.H D = none := R1.gr.live D hD
  have Rg := Rw.guard hD (.lst [])
  have eD : Ext T1 H1 T1 (upd H1 D (.lst [])) := Ext.of0 (GrP.new hD)
  have hh : ∀ p, p ∈ h → p ∈ (((F.add h).add hv).grd D).hid := fun p hp => List.mem_append_right _ (List.mem_append_left _ hp)
  have hhv : ∀ p, p ∈ hv → p ∈ ((F.add h).add hv).hid := fun p hp => List.mem_append_left _ hp
  refine ⟨fun i n H => i + n = ds.length ∧ ∃ T ω acc xs, Rel K W (((F.add h).add hv).grd D) T ω (wipeP ρ vs) (L2.wipe σ vs) H ∧ Ext T1 H1 T H ∧ H D = some (.lst xs) ∧ RepsA K H (Spr (((F.add h).add hv).grd D) T (wipeP ρ vs)) acc xs ∧ acc.length ≤ i ∧ I i ω acc, ⟨ds.length, by omega, T1, ω1, [], [], Rg, eD, upd_same, .nil, Nat.le_refl _, i0⟩, fun i n H2 ⟨hn, T2, ω2, acc, xs, R2, e2, hD2, ra, hl, q2⟩ => ?_⟩
  obtain ⟨h1, h2, h3⟩ := it _ T2 ω2 _ _ H2 hh R2 i
  rcases Nat.lt_or_ge i ds.length with hi | hi
  · refine .inr ⟨h1 hi, fun H' => ∃ T ω acc xs, Rel K W (((F.add h).add hv).grd D) T ω (wipeP ρ vs) (L2.wipe σ vs) H' ∧ Ext T1 H1 T H' ∧ H' D = some (.lst xs) ∧ RepsA K H' (Spr (((F.add h).add hv).grd D) T (wipeP ρ vs)) acc xs ∧ acc.length ≤ i + 1 ∧ I (i + 1) ω acc, fun H' q => ⟨n - 1, by omega, by omega, q⟩, fun x H3 hy => ?_⟩
    obtain ⟨g3, rx⟩ := h3 ds[i] x H3 (List.getElem?_eq_getElem hi) hy
    have R3 := R2.grow g3
    have x3 : Ext T2 H2 T2 H3 := Ext.of0 g3
    refine ⟨_, T2, ω2, _, ds[i], _, R3, rx, hstep i _ ω2 acc (List.getElem?_eq_getElem hi) q2 hl, fun ρ4 σ4 R4 l4 f4 ⟨w4, q4⟩ => ⟨wipe_same l4 f4 hts, _, T2, ω2, ρ4, _, _, R4, q4, fun _ _ _ _ _ _ _ _ z => z, fun T5 ω5 b H5 R5 e5 q5 => ?_⟩⟩
    have sw : L2.wipe σ4 vs = L2.wipe σ vs := wipe_same l4 f4 hts
    have wp : ∀ T6 ω6 H6, Rel K W (((F.add h).add hv).grd D) T6 ω6 ρ4 σ4 H6 → Rel K W (((F.add h).add hv).grd D) T6 ω6 (wipeP ρ vs) (L2.wipe σ vs) H6 := fun T6 ω6 H6 R6 => by
      have z := R6.wipe vs
      rw [w4, sw] at z
      exact z
    have done : ∀ T6 ω6 H6, Rel K W (((F.add h).add hv).grd D) T6 ω6 ρ4 σ4 H6 → Ext T2 H3 T6 H6 → Rel K W (((F.add h).add hv).grd D) T6 ω6 (wipeP ρ vs) (L2.wipe σ vs) H6 ∧ Ext T1 H1 T6 H6 ∧ H6 D = some (.lst xs) ∧ RepsA K H6 (Spr (((F.add h).add hv).grd D) T6 (wipeP ρ vs)) acc xs := fun T6 ω6 H6 R6 e6 =>
      ⟨wp T6 ω6 H6 R6, e2.trans (x3.trans e6), (x3.trans e6).gr.keep _ _ hD2 (.inr (R2.s0 D (.inr rfl)).2), R2.ext_reps (x3.trans e6) ra⟩
    cases b with
    | false =>
      obtain ⟨z1, z2, z3, z4⟩ := done T5 ω5 H5 R5 e5
      exact ⟨T5, ω5, acc, xs, z1, z2, z3, z4, by omega, q5⟩
    | true =>
      refine ⟨_, T5, ω5, ρ4, _, _, R5, q5, fun T6 ω6 x cls dd H6 R6 xr z => hx T6 ω6 x cls dd H6 ((back _ T6 ω6 H6 hhv (wp T6 ω6 H6 R6).unguard).drop.drop) xr z, fun T6 ω6 y w H6 R6 e6 r6 q6 => ?_⟩
      obtain ⟨z1, z2, z3, z4⟩ := done T6 ω6 H6 R6 (e5.trans e6)
      have gD : GrP (fun a => a = D) H6 (upd H6 D (.lst (xs ++ [w]))) := GrP.wr rfl fun u hu => by rw [z3] at hu; cases hu; rfl
      have ry : RepA K H6 (Spr (((F.add h).add hv).grd D) T6 (wipeP ρ vs)) y w := RepA.less r6 fun a z => by
        rcases z with z | z | z
        · exact .inl z
        · exact .inr (.inl z)
        · exact .inr (.inr ((owns_wipe_sub vs).subset (by rw [w4]; exact z)))
      have hxl : xs.length ≤ 1000000 := by have := z4.len; omega
      refine ⟨xs, z3, Nat.lt_of_le_of_lt hxl (by decide), T6, ω6, acc ++ [y], xs ++ [w], z1.wrS (.inr rfl) F1D (fun u hu => by rw [z3] at hu; cases hu; rfl), ⟨z2.gr.trans gD fun a z => by rw [z]; exact .inr hD, z2.tn⟩, upd_same, ?_, by rw [List.length_append]; show acc.length + 1 ≤ i + 1; omega, q6⟩
      exact (RepsA.append (.cons ry .nil) z4).ext gD (fun a z => by rw [z]; exact .inl (.inl (.inr rfl))) fun a z => .inl z
  · have : i = ds.length := by omega
    subst this
    refine .inl ⟨h2 hi, ?_⟩
    have Rf : Rel K W F T2 ω2 ρ σ H2 := (back _ T2 ω2 H2 hhv R2.unguard).drop.drop
    refine k T2 ω2 (.lst acc) (.ref D) H2 Rf (e1.trans e2) ⟨D, xs, acc, rfl, rfl, e1.gr.live D hD, fun z => ?_, hD2, ra.less fun a z => ?_⟩ (hend ω2 acc q2)
    · rcases z with z | z | z
      · exact (R1.s0 D z).1 hD
      · exact (R2.s0 D (.inr rfl)).2 z
      · exact R1.spl D (.inr (.inr z)) hD
    · rcases z with (z | z | z) | z
      · exact .inl (.inl z)
      · exact .inr (.inl z)
      · exact .inr (.inr (by rw [owns_wipe hst]; exact z))
      · exact .inl (.inr z)
variable {elt tg iter : Expr} {scope : Scope} {own : List (Str × Nat)} {pos spos py : Pos} {i : Nat} {y : Str}
theorem qe_lcX (hc : X.calm = true) (hN : X.N.Nodup) (hst : X.stack = X.env :: X.outer) (hf : X.env.frame = some X.env.locals) (tk : L2N.Takes X Wo) (hi : QI X mi W Wo tg iter qi) (ok : BlkOk X.N X.env.scope scope own)
    (hg : ∀ (s : Shared) (H : Hp) (C : Addr) (cl : List (Str × Addr)) (fp : List Addr), QG (X.blk s H scope (compEnvC scope cl C X.env) fp) mi W tg ts g) (ht : ∀ (s : Shared) (H : Hp) (C : Addr) (cl : List (Str × Addr)) (fp : List Addr), QTs (X.blk s H scope (compEnvC scope cl C X.env) fp) W Wo0 ifs qt)
    (he : ∀ (s : Shared) (H : Hp) (C : Addr) (cl : List (Str × Addr)) (fp : List Addr) (E : XK) (xe : Value → Shared → Prop), (∀ σ, PassesAt (L2N.CX X.prog X.w) (Cx.blkx X s H scope cl C fp xe) σ E) → QE (Cx.blkx X s H scope cl C fp xe) .A W (fun cls d _ H' => E cls d H') elt qe)
    (hts : ∀ j, j ∈ ts → j ∈ own.map (·.2) := by decide) (hs : ∀ x, foldedSetIterable iter X.env x = pure x := by intro _; rfl) :
    QE X .F W Wo (.ListComp elt [⟨tg, iter, ifs, 0⟩] scope pos) (qLcX qi g qt qe (own.map (·.2))) := PE.imp (pe_lcX (g := lfG mi X.K W ts g) (tt := lfT X.K W Wo0 qt) (te := fun E => lfE .A X.K W (fun cls d _ H' => E cls d H') qe) hc hN hst hf tk hi ok hg ht he hs) (lf_lcX hts)
end
section
variable {W : Wrl} {ω : W.Ω} {ρ : List Sl} {Q : W.Ω → D → Prop} {E : W.Ω → Exn → Prop} {qi : QTI W} {g : QTG} {qt : QTT W} {qe : QT W} {vs : List Nat} {d : D} {ds : List D}
def kLcX (g : QTG) (qt : QTT W) (qe : QT W) (vs : List Nat) (ρ : List Sl) (Q : W.Ω → D → Prop) (E : W.Ω → Exn → Prop) (ω1 : W.Ω) (ds : List D) : Prop := still ρ vs = true ∧ ds.length ≤ 1000000 ∧ ∃ I : Nat → W.Ω → List D → Prop, I 0 ω1 [] ∧
  (∀ i d ω acc, ds[i]? = some d → I i ω acc → acc.length ≤ i → g d (wipeP ρ vs) fun ρ2 => wipeP ρ2 vs = wipeP ρ vs ∧ qt ω ρ2 (fun ω2 b => if b = true then qe ω2 ρ2 (fun ω3 y => I (i + 1) ω3 (acc ++ [y])) E else I (i + 1) ω2 acc) (fun _ _ => False)) ∧
  ∀ ω acc, I ds.length ω acc → Q ω (.lst acc)
theorem v_lcX (h : qi ω ρ (fun ω1 ds => kLcX g qt qe vs ρ Q E ω1 ds) E) : qLcX qi g qt qe vs ω ρ Q E := h
theorem v_kLcXM (f : D → D) (hl : ds.length ≤ 1000000) (hst : still ρ vs = true)
    (hs : ∀ (i : Nat) (d : D) (Q' : W.Ω → D → Prop), ds[i]? = some d → Q' ω (f d) → g d (wipeP ρ vs) fun ρ2 => wipeP ρ2 vs = wipeP ρ vs ∧ qe ω ρ2 Q' E)
    (hd : Q ω (.lst (ds.map f))) : kLcX g qYes qe vs ρ Q E ω ds := by
  refine ⟨hst, hl, fun i ω' acc => ω' = ω ∧ acc = (ds.take i).map f, ⟨rfl, rfl⟩, fun i d ω' acc hi ⟨e1, e2⟩ _ => ?_, fun ω' acc ⟨e1, e2⟩ => by rw [e1, e2, List.take_length]; exact hd⟩
  subst e1 e2
  exact hs i d _ hi ⟨rfl, by rw [List.take_succ, hi, List.map_append] <;> rfl⟩
theorem v_kLcX0 (hl : (d :: ds).length ≤ 1000000) (hst : still ρ vs = true) (hs : ∀ Q' : W.Ω → D → Prop, g d (wipeP ρ vs) fun ρ2 => wipeP ρ2 vs = wipeP ρ vs ∧ qe ω ρ2 Q' E) : kLcX g qYes qe vs ρ Q E ω (d :: ds) := by
  refine ⟨hst, hl, fun i ω' acc => ω' = ω ∧ i = 0, ⟨rfl, rfl⟩, fun i d' ω' acc hi ⟨e1, e2⟩ _ => ?_, fun ω' acc ⟨_, e2⟩ => by simp at e2⟩
  subst e1 e2
  have : d = d' := by simpa using hi
  subst this
  exact hs _
end
end LW
namespace LW
open PySem PySem.Spec PyProof.Rows L2
abbrev pyP (p : D × V) : PyData := p.1.py
def rSortD (K : PySem.W.Frag) : List V → Hp → VK → Prop := fun vs H Q => ∃ (l : Addr) (L : List (D × V)), vs = [V.ref l] ∧ SqL K H l (L.map Prod.snd) ∧ DpAll K H (L.map Prod.snd) (L.map pyP) ∧ PySem.W.AllAlike (L.map pyP) ∧ PySem.W.Sortable (L.map pyP) ∧ (∀ p ∈ L, (pyP p).depth ≤ 60) ∧
  ∀ p, H p = none → Q (.ref p) (upd H p (.lst ((L.mergeSort (PySem.W.dataLe false pyP)).map Prod.snd)))
theorem each_vals : ∀ {L : List (D × V)} {us : List Value}, Vals (L.map Prod.snd) us → PySem.W.EachIs (fun u (p : D × V) => RelV p.2 u) us L
  | [], _, .nil => .nil
  | p :: L, _, .cons h t => .cons h (each_vals t)
theorem vals_each : ∀ {L : List (D × V)} {us : List Value}, PySem.W.EachIs (fun u (p : D × V) => RelV p.2 u) us L → Vals (L.map Prod.snd) us
  | _, _, .nil => .nil
  | _, _, .cons h t => .cons h (vals_each t)
theorem cr_sortD {X : Cx} (hu : X.A.units + 64 < cLine) : CallR X (.builtin "sorted") (rSortD X.K) := by
  intro pins s σ H vs us Q I r ⟨l, L, e1, hs, hd, hal, hk, hdp, q⟩
  subst e1
  obtain ⟨its, rv, hl, hz⟩ := I.list hs
  rw [Vals.ref1 r]
  obtain ⟨as, ra⟩ := Dp.readsAll I _ _ its hd rv
  rw [List.length_map] at hz
  refine PySem.W.sorted_data (enc := pyP) (bs := L) (R := fun u (p : D × V) => RelV p.2 u) hl.isList (each_vals rv) (PySem.W.readsAll_each pyP ra) hal hk hz (fun p hp => by have := hdp p hp; omega) fun out ho eo => ?_
  obtain ⟨ep, he'⟩ := PyProof.Rows.sortedAll_at s.heap its out.toArray
  have hlen : ((L.mergeSort (PySem.W.dataLe false pyP)).map Prod.snd).length ≤ sizeLine := by
    rw [List.length_map, List.length_mergeSort]
    exact hz
  exact ⟨.ref _, upd H (s.heap.objs.size + 1) (.lst ((L.mergeSort (PySem.W.dataLe false pyP)).map Prod.snd)), I.laid (t' := s.toks) (fun _ _ => PyProof.Rows.sortedAll_old) (Nat.le_succ _) ⟨hlen, out, ep, vals_each eo, he'⟩, rfl, q _ (I.hok.fresh (Nat.le_succ _))⟩
def leD (a b : D) : Bool := !PySem.W.dataLt b.py a.py
structure SrtOk (ds : List D) : Prop where
  dep : ∃ n, n ≤ 60 ∧ ds.all (D.dep n) = true
  al : PySem.W.AllAlike (ds.map D.py)
  so : PySem.W.Sortable (ds.map D.py)
def fSortD (es : List D) (Q : D → Prop) : Prop := ∃ ds, es = [.lst ds] ∧ SrtOk ds ∧ Q (.lst (ds.mergeSort leD))
theorem reps_pairs {K : PySem.W.Frag} {H : Hp} {S : ASet} : ∀ {L : List (D × V)}, (∀ p ∈ L, RepA K H S p.1 p.2) → RepsA K H S (L.map Prod.fst) (L.map Prod.snd)
  | [], _ => .nil
  | p :: L, h => .cons (h p List.mem_cons_self) (reps_pairs fun x hx => h x (List.mem_cons_of_mem _ hx))
theorem pairs_reps {K : PySem.W.Frag} {H : Hp} {S : ASet} : ∀ {ds : List D} {xs : List V}, RepsA K H S ds xs → ∃ L : List (D × V), L.map Prod.fst = ds ∧ L.map Prod.snd = xs ∧ ∀ p ∈ L, RepA K H S p.1 p.2
  | _, _, .nil => ⟨[], rfl, rfl, fun p h => by cases h⟩
  | _, _, .cons (d := d) (v := v) h t => by
    obtain ⟨L, h1, h2, h3⟩ := pairs_reps t
    refine ⟨(d, v) :: L, by rw [List.map_cons, h1], by rw [List.map_cons, h2], fun p hp => ?_⟩
    rcases List.mem_cons.mp hp with e | e
    · rw [e]; exact h
    · exact h3 p e
theorem pys_map : ∀ ds : List D, D.pys ds = ds.map D.py
  | [] => rfl
  | d :: ds => by
    show d.py :: D.pys ds = _
    rw [pys_map ds] <;> rfl
theorem sort_fst {L : List (D × V)} : (L.mergeSort (PySem.W.dataLe false pyP)).map Prod.fst = (L.map Prod.fst).mergeSort leD := PySem.W.sort_maps Prod.fst fun a _ b _ => rfl
theorem RepsA.reps {K : PySem.W.Frag} {H : Hp} {S : ASet} {ds : List D} {xs : List V} (h : RepsA K H S ds xs) : Reps K H ds xs := by
  induction ds generalizing xs with
  | nil => cases h; exact .nil
  | cons d ds ih =>
    cases h with
    | cons h t => exact .cons h.rep (ih t)
theorem sortDP {K : PySem.W.Frag} : CaP .C .F K (rSortD K) fSortD := fun S os H es vs Q Qp hS r ⟨ds, hd, ok, h⟩ k => by
  subst hd
  obtain ⟨v, rfl, rv⟩ := r.one
  obtain ⟨l, xs, rfl, hl, hr, _⟩ := rv.c.lst
  obtain ⟨L, e1, e2, h3⟩ := pairs_reps hr
  obtain ⟨n, hn, hdep⟩ := ok.dep
  have ep : L.map pyP = ds.map D.py := by rw [← e1, List.map_map] <;> rfl
  refine ⟨l, L, rfl, by rw [e2]; exact hl, ?_, by rw [ep]; exact ok.al, by rw [ep]; exact ok.so, fun p hp => ?_, fun p hp => ?_⟩
  · rw [ep, e2, ← pys_map]
    exact dp_pys hr.reps n hdep
  · have : p.1 ∈ ds := by rw [← e1]; exact List.mem_map.mpr ⟨p, hp, rfl⟩
    have := (canLay_py n p.1 (List.all_eq_true.mp hdep p.1 this)).2
    show p.1.py.depth ≤ 60
    omega
  · have rr : RepsA K H S (ds.mergeSort leD) ((L.mergeSort (PySem.W.dataLe false pyP)).map Prod.snd) := by
      rw [← e1, ← sort_fst]
      exact reps_pairs fun p hp => h3 p ((List.mergeSort_perm L _).mem_iff.mp hp)
    exact k _ _ _ (GrP.new hp) (rf_new hS hp rr) h
theorem v_sortD {ds : List D} {Q : D → Prop} (ok : SrtOk ds) (h : Q (.lst (ds.mergeSort leD))) : fSortD [.lst ds] Q := ⟨ds, rfl, ok, h⟩
theorem eqv_of_toks {x z : PyData} (ha : PySem.W.alike x z = true) (h : PySem.W.keyToks x = PySem.W.keyToks z) : PyData.eqv x z = true := by
  cases e : PyData.eqv x z with
  | true => rfl
  | false =>
    have q := (PySem.W.toks_eqv x z ha).2 e [] [.inl 0]
    rw [h, PySem.W.lex_pre] at q
    have q2 : PyProof.Rows.lexLt itemOrd (PySem.W.keyToks z) (PySem.W.keyToks z) = false := PyProof.Rows.lex_irrefl (O := itemOrd) _
    rw [q2] at q
    exact absurd q (by decide)
end LW
namespace LW
open PySem PySem.Spec PyProof.Rows L2
def minDs (d : D) (ds : List D) : D := ds.foldl (fun a y => if PySem.W.dataLt y.py a.py then y else a) d
theorem minDs_py : ∀ (ds : List D) (d : D), (minDs d ds).py = PySem.W.minD d.py (ds.map D.py)
  | [], _ => rfl
  | y :: ds, d => by
    show (minDs (if PySem.W.dataLt y.py d.py then y else d) ds).py = PySem.W.minD (if PySem.W.dataLt y.py d.py then y.py else d.py) (ds.map D.py)
    rw [minDs_py ds]
    split <;> rfl
theorem minDs_mem : ∀ (ds : List D) (d : D), minDs d ds ∈ d :: ds
  | [], d => List.mem_singleton.mpr rfl
  | y :: ds, d => by
    show minDs (if PySem.W.dataLt y.py d.py then y else d) ds ∈ _
    have := minDs_mem ds (if PySem.W.dataLt y.py d.py then y else d)
    rcases List.mem_cons.mp this with e | e
    · rw [e]
      split
      · exact List.mem_cons_of_mem _ List.mem_cons_self
      · exact List.mem_cons_self
    · exact List.mem_cons_of_mem _ (List.mem_cons_of_mem _ e)
theorem leD_total : PySem.W.TotalLe leD := PySem.W.sortLe_total (PyProof.Rows.listOrd itemOrd) false fun d : D => PySem.W.keyToks d.py
theorem minDs_le : ∀ (ds : List D) (d : D), ∀ x ∈ d :: ds, leD (minDs d ds) x = true
  | [], d, x, hx => by
    rw [List.mem_singleton.mp hx]
    exact (leD_total.total d d).elim id id
  | y :: ds, d, x, hx => by
    have T := leD_total
    show leD (minDs (if PySem.W.dataLt y.py d.py then y else d) ds) x = true
    have ih := minDs_le ds (if PySem.W.dataLt y.py d.py then y else d)
    have h0 := ih _ List.mem_cons_self
    rcases List.mem_cons.mp hx with e | hx
    · subst e
      by_cases c : PySem.W.dataLt y.py x.py = true
      · rw [if_pos c] at h0 ⊢
        refine T.trans _ _ _ h0 ?_
        rcases T.total y x with q | q
        · exact q
        · have q : (!PySem.W.dataLt y.py x.py) = true := q
          rw [c] at q
          exact absurd q (by decide)
      · rw [if_neg c] at h0 ⊢
        exact h0
    · rcases List.mem_cons.mp hx with e | hx
      · subst e
        by_cases c : PySem.W.dataLt x.py d.py = true
        · rw [if_pos c] at h0 ⊢
          exact h0
        · rw [if_neg c] at h0 ⊢
          refine T.trans _ _ _ h0 ?_
          show (!PySem.W.dataLt x.py d.py) = true
          simpa using c
      · exact ih x (List.mem_cons_of_mem _ hx)
theorem leD_anti {ds : List D} (ok : SrtOk ds) : ∀ a ∈ ds, ∀ b ∈ ds, leD a b = true → leD b a = true → a = b := by
  obtain ⟨n, hn, hdep⟩ := ok.dep
  intro a ha b hb h1 h2
  have hal := ok.al _ (List.mem_map.mpr ⟨a, ha, rfl⟩) _ (List.mem_map.mpr ⟨b, hb, rfl⟩)
  have ht : PySem.W.keyToks a.py = PySem.W.keyToks b.py := (PyProof.Rows.listOrd itemOrd).total _ _ (by have h2 : (!PySem.W.dataLt a.py b.py) = true := h2; exact (Bool.not_eq_true' _).mp h2) (by have h1 : (!PySem.W.dataLt b.py a.py) = true := h1; exact (Bool.not_eq_true' _).mp h1)
  exact (eqv_py n a b (List.all_eq_true.mp hdep a ha) (List.all_eq_true.mp hdep b hb)).mp (eqv_of_toks hal ht)
theorem minDs_uniq {d : D} {ds : List D} (ok : SrtOk (d :: ds)) {a : D} (ha : a ∈ d :: ds) (h : ∀ x ∈ d :: ds, leD a x = true) : minDs d ds = a :=
  leD_anti ok _ (minDs_mem ds d) _ ha (minDs_le ds d a ha) (h _ (minDs_mem ds d))
theorem minDs_sort {d : D} {ds : List D} (ok : SrtOk (d :: ds)) : ((d :: ds).mergeSort leD)[0]? = some (minDs d ds) := by
  have p := List.mergeSort_perm (d :: ds) leD
  have w := PySem.W.sort_pairwise leD_total (d :: ds)
  cases e : (d :: ds).mergeSort leD with
  | nil => rw [e] at p; exact absurd p.length_eq (by simp)
  | cons a r =>
    rw [e] at p w
    have ha : a ∈ d :: ds := p.mem_iff.mp List.mem_cons_self
    refine congrArg some (minDs_uniq ok ha fun x hx => ?_).symm
    rcases List.mem_cons.mp (p.mem_iff.mpr hx) with q | q
    · rw [q]
      exact (leD_total.total a a).elim id id
    · exact (List.pairwise_cons.mp w).1 x q
theorem minDs_set {d e : D} {ds es : List D} (ok : SrtOk (d :: ds)) (h : ∀ x, x ∈ d :: ds ↔ x ∈ e :: es) : minDs d ds = minDs e es :=
  minDs_uniq ok ((h _).mpr (minDs_mem es e)) fun x hx => minDs_le es e x ((h x).mp hx)
def rMinD (K : PySem.W.Frag) : List V → Hp → VK → Prop := fun vs H Q => ∃ (l : Addr) (p : D × V) (L : List (D × V)), vs = [V.ref l] ∧ SqL K H l ((p :: L).map Prod.snd) ∧ DpAll K H ((p :: L).map Prod.snd) ((p :: L).map pyP) ∧ SrtOk ((p :: L).map Prod.fst) ∧
  ∀ q ∈ p :: L, q.1 = minDs p.1 (L.map Prod.fst) → Q q.2 H
theorem depthAll_le {n : Nat} : ∀ ds : List D, (∀ d ∈ ds, d.dep n = true) → PyData.depthAll (ds.map D.py) ≤ n
  | [], _ => Nat.zero_le _
  | d :: ds, h => by
    rw [List.map_cons, PyData.depthAll]
    exact Nat.max_le.mpr ⟨(canLay_py n d (h d List.mem_cons_self)).2, depthAll_le ds fun x hx => h x (List.mem_cons_of_mem _ hx)⟩
theorem Vals.at {xs : List V} {us : List Value} (r : Vals xs us) : ∀ {i : Nat} {u : Value}, us[i]? = some u → ∃ x, xs[i]? = some x ∧ RelV x u := by
  induction r with
  | nil => intro i u h; cases h
  | cons h t ih =>
    intro i u e
    cases i with
    | zero => cases e; exact ⟨_, rfl, h⟩
    | succ i => exact ih e
theorem cr_minD {X : Cx} (hu : X.A.units + 64 < cLine) (hh : X.calm = true) : CallR X (.builtin "min") (rMinD X.K) := by
  intro pins s σ H vs us Q I r ⟨l, p, L, e1, hs, hd, ok, q⟩
  subst e1
  obtain ⟨its, rv, hl, hz⟩ := I.list hs
  rw [Vals.ref1 r]
  obtain ⟨as, ra⟩ := Dp.readsAll I _ _ its hd rv
  obtain ⟨n, hn, hdep⟩ := ok.dep
  have hdep := List.all_eq_true.mp hdep
  have epy : (p :: L).map pyP = ((p :: L).map Prod.fst).map D.py := by rw [List.map_map] <;> rfl
  have nn : ∀ x ∈ (p :: L).map pyP, x ≠ .none := fun x hx e => by
    rw [epy] at hx
    rcases ok.so with h | h
    · obtain ⟨a, b, e2⟩ := h x hx
      rw [e] at e2
      cases e2
    · exact (h x hx).1 e
  refine PySem.W.min_list_data (x := pyP p) (xs := L.map pyP) (as := as) (I.ok.hd hh) hl.isList ra ⟨?_, nn⟩ ?_ fun i v h' tk bs hi hr hk => ?_
  · have al := ok.al
    rw [← epy] at al
    exact al
  · have := depthAll_le ((p :: L).map Prod.fst) hdep
    rw [← epy] at this
    show _ + PyData.depthAll ((p :: L).map pyP) < _
    omega
  · have hi : its[i]? = some v := by simpa using hi
    obtain ⟨x, hx, rx⟩ := Vals.at rv hi
    rw [List.getElem?_map] at hx
    obtain ⟨q0, hq0, rfl⟩ := Option.map_eq_some_iff.mp hx
    have hm : q0 ∈ p :: L := List.mem_of_getElem? hq0
    obtain ⟨bs', r1, -⟩ := PySem.W.readsAll_at ra i v hi
    have e3 : ((p :: L).map pyP).getD i .none = pyP q0 := by rw [List.getD_eq_getElem?_getD, List.getElem?_map, hq0] <;> rfl
    rw [e3] at r1
    have e4 := (reads_det (fun b o hb _ => hk b o hb) r1 hr).1
    have e5 : q0.1 = minDs p.1 (L.map Prod.fst) := by
      have m2 : minDs p.1 (L.map Prod.fst) ∈ (p :: L).map Prod.fst := minDs_mem (L.map Prod.fst) p.1
      have m1 : q0.1 ∈ (p :: L).map Prod.fst := List.mem_map.mpr ⟨q0, hm, rfl⟩
      have e6 : (minDs p.1 (L.map Prod.fst)).py = q0.1.py := by
        rw [minDs_py]
        rw [List.map_map]
        exact e4
      have := (eqv_py n q0.1 (minDs p.1 (L.map Prod.fst)) (hdep _ m1) (hdep _ m2)).mp
      refine this ?_
      rw [e6]
      exact (eqv_py n q0.1 q0.1 (hdep _ m1) (hdep _ m1)).mpr rfl
    exact ⟨q0.2, H, I.kept (t' := tk) hk, rx, q q0 hm e5⟩
def fMinD (es : List D) (Q : D → Prop) : Prop := ∃ d ds, es = [.lst (d :: ds)] ∧ SrtOk (d :: ds) ∧ Q (minDs d ds)
theorem minDP {K : PySem.W.Frag} : CaP .C .A K (rMinD K) fMinD := fun S os H es vs Q Qp hS r ⟨d, ds, hd, ok, h⟩ k => by
  subst hd
  obtain ⟨v, rfl, rv⟩ := r.one
  obtain ⟨l, xs, rfl, hl, hr, _⟩ := rv.c.lst
  obtain ⟨L, e1, e2, h3⟩ := pairs_reps hr
  obtain ⟨n, hn, hdep⟩ := ok.dep
  cases L with
  | nil => cases e1
  | cons p L =>
    obtain ⟨rfl, rfl⟩ : p.1 = d ∧ L.map Prod.fst = ds := by injection e1 with a b; exact ⟨a, b⟩
    have ep : (p :: L).map pyP = (p.1 :: L.map Prod.fst).map D.py := by rw [← e1, List.map_map] <;> rfl
    refine ⟨l, p, L, rfl, by rw [e2]; exact hl, ?_, ok, fun q hq eq => ?_⟩
    · rw [ep, e2, ← pys_map]
      exact dp_pys hr.reps n hdep
    · rw [← eq] at h
      exact k _ _ H (GrP.refl _ _) (h3 q hq) h
theorem v_minD {d : D} {ds : List D} {Q : D → Prop} (ok : SrtOk (d :: ds)) (h : Q (minDs d ds)) : fMinD [.lst (d :: ds)] Q := ⟨d, ds, rfl, ok, h⟩
end LW
namespace LW
open PySem PySem.Spec PyProof.Rows L2
section
variable {y z u : Sy} {σ σ' π π' : Int → Int} {c c' d e : Cfg}
theorem Iso.wkI (h : Iso y z σ π) {w : Int} : z.Wk w ↔ y.Wk w := by unfold Sy.Wk; rw [h.len]
theorem Iso.bd (h : Iso y z σ π) {a : Int} (a0 : 0 ≤ a) (a1 : a ≤ y.os.length) : 0 ≤ σ a ∧ σ a ≤ y.os.length := by
  by_cases q : a = 0
  · rw [q, h.s0]; omega
  · have := h.sw a ⟨by omega, a1⟩
    exact ⟨by have := this.1; omega, this.2⟩
theorem SIso.trans (h : Iso y z σ π) (s : SIso y σ π c d) (t : SIso z σ' π' d e) : SIso y (fun w => σ' (σ w)) (fun p => π' (π p)) c e := by
  refine ⟨t.l1.trans h.n, fun p p0 p1 => ?_, t.l2.trans h.len, fun w hw => ?_⟩
  · have b := h.pm p p0 p1
    show atP e.1 (π' (π p)) = σ' (σ (atP c.1 p))
    rw [t.con _ b.1 (by rw [h.n]; exact b.2), s.con p p0 p1]
  · show e.2.getD (σ' (σ w) - 1).toNat (0, 0) = _
    rw [t.prs _ (h.wkI.mpr (h.sw w hw)), s.prs w hw]
theorem Iso.congr (h : Iso y z σ π) (e1 : ∀ a : Int, 0 ≤ a → a ≤ y.os.length → σ' a = σ a) (e2 : ∀ p : Int, 0 ≤ p → p < y.n → π' p = π p) (hy : y.ok) : Iso y z σ' π' := by
  have ew : ∀ w, y.Wk w → σ' w = σ w := fun w hw => e1 w (by have := hw.1; omega) hw.2
  refine ⟨h.ks, h.cap, h.n, h.len, by rw [e1 0 (by omega) (by omega)]; exact h.s0, fun w hw => by rw [ew w hw]; exact h.sw w hw, fun a b a0 a1 b0 b1 e => h.inj a b a0 a1 b0 b1 (by rw [e1 a a0 a1, e1 b b0 b1] at e; exact e), fun v hv => ?_, fun p p0 p1 => by rw [e2 p p0 p1]; exact h.pm p p0 p1, fun p q p0 p1 q0 q1 e => h.pinj p q p0 p1 q0 q1 (by rw [e2 p p0 p1, e2 q q0 q1] at e; exact e), fun w p hw p0 p1 => ?_⟩
  · obtain ⟨w, hw, e⟩ := h.sur v hv
    exact ⟨w, hw, by rw [ew w hw]; exact e⟩
  · have b := order_bd hy hw p0 p1
    rw [ew w hw, h.ord w p hw p0 p1, e2 _ b.1 b.2]
theorem SIso.congr (s : SIso y σ π c d) (hc : y.Ok c) (e1 : ∀ a : Int, 0 ≤ a → a ≤ y.os.length → σ' a = σ a) (e2 : ∀ p : Int, 0 ≤ p → p < y.n → π' p = π p) : SIso y σ' π' c d := by
  refine ⟨s.l1, fun p p0 p1 => ?_, s.l2, fun w hw => ?_⟩
  · have b := atP_bd hc p0 p1
    rw [e2 p p0 p1, s.con p p0 p1, e1 _ b.1 b.2]
  · rw [e1 w (by have := hw.1; omega) hw.2, s.prs w hw]
theorem Iso.psur (h : Iso y z σ π) (hy : y.ok) {q : Int} (q0 : 0 ≤ q) (q1 : q < y.n) : ∃ p, 0 ≤ p ∧ p < (y.n : Int) ∧ π p = q := by
  have hm : q ∈ (rg y.n).map π := (h.perm hy).mem_iff.mpr (mem_rg.mpr ⟨q0, q1⟩)
  obtain ⟨p, hp, e⟩ := List.mem_map.mp hm
  have := mem_rg.mp hp
  exact ⟨p, this.1, this.2, e⟩
theorem Iso.back (h : Iso y z σ π) (hy : y.ok) : ∃ σ' π' : Int → Int, Iso z y σ' π' ∧ (∀ a : Int, 0 ≤ a → a ≤ y.os.length → σ' (σ a) = a) ∧ (∀ p : Int, 0 ≤ p → p < y.n → π' (π p) = p) ∧ ∀ c d, y.Ok c → SIso y σ π c d → SIso z σ' π' d c := by
  classical
  have k1 : ∀ v : Int, 0 ≤ v → v ≤ y.os.length → ∃ a, 0 ≤ a ∧ a ≤ (y.os.length : Int) ∧ σ a = v := fun v v0 v1 => by
    by_cases q : v = 0
    · exact ⟨0, by omega, by omega, by rw [h.s0, q]⟩
    · obtain ⟨w, hw, e⟩ := h.sur v ⟨by omega, v1⟩
      exact ⟨w, by have := hw.1; omega, hw.2, e⟩
  let σ' : Int → Int := fun v => if q : ∃ a, 0 ≤ a ∧ a ≤ (y.os.length : Int) ∧ σ a = v then q.choose else 0
  let π' : Int → Int := fun v => if q : ∃ p, 0 ≤ p ∧ p < (y.n : Int) ∧ π p = v then q.choose else 0
  have l1 : ∀ a : Int, 0 ≤ a → a ≤ y.os.length → σ' (σ a) = a := fun a a0 a1 => by
    have q : ∃ b, 0 ≤ b ∧ b ≤ (y.os.length : Int) ∧ σ b = σ a := ⟨a, a0, a1, rfl⟩
    show (if q : ∃ b, 0 ≤ b ∧ b ≤ (y.os.length : Int) ∧ σ b = σ a then q.choose else 0) = a
    rw [dif_pos q]
    obtain ⟨b0, b1, e⟩ := q.choose_spec
    exact h.inj _ _ b0 b1 a0 a1 e
  have l2 : ∀ p : Int, 0 ≤ p → p < y.n → π' (π p) = p := fun a a0 a1 => by
    have q : ∃ b, 0 ≤ b ∧ b < (y.n : Int) ∧ π b = π a := ⟨a, a0, a1, rfl⟩
    show (if q : ∃ b, 0 ≤ b ∧ b < (y.n : Int) ∧ π b = π a then q.choose else 0) = a
    rw [dif_pos q]
    obtain ⟨b0, b1, e⟩ := q.choose_spec
    exact h.pinj _ _ b0 b1 a0 a1 e
  have w1 : ∀ w : Int, y.Wk w → σ' (σ w) = w := fun w hw => l1 w (by have := hw.1; omega) hw.2
  refine ⟨σ', π', ⟨h.ks.symm, h.cap.symm, h.n.symm, h.len.symm, ?_, fun v hv => ?_, fun a b a0 a1 b0 b1 e => ?_, fun v hv => ?_, fun q q0 q1 => ?_, fun p q p0 p1 q0 q1 e => ?_, fun v p hv p0 p1 => ?_⟩, l1, l2, fun c d hc s => ⟨?_, fun q q0 q1 => ?_, ?_, fun v hv => ?_⟩⟩
  · have := l1 0 (by omega) (by omega)
    rw [h.s0] at this
    exact this
  · obtain ⟨w, hw, rfl⟩ := h.sur v (h.wkI.mp hv)
    rw [w1 w hw]
    exact h.wkI.mpr hw
  · rw [h.len] at a1 b1
    obtain ⟨a', p0, p1, rfl⟩ := k1 a a0 a1
    obtain ⟨b', q0, q1, rfl⟩ := k1 b b0 b1
    rw [l1 _ p0 p1, l1 _ q0 q1] at e
    rw [e]
  · exact ⟨σ v, h.wkI.mpr (h.sw v (h.wkI.mp hv)), w1 v (h.wkI.mp hv)⟩
  · rw [h.n] at q1 ⊢
    obtain ⟨p, p0, p1, rfl⟩ := h.psur hy q0 q1
    rw [l2 p p0 p1]
    exact ⟨p0, p1⟩
  · rw [h.n] at p1 q1
    obtain ⟨a, a0, a1, rfl⟩ := h.psur hy p0 p1
    obtain ⟨b, b0, b1, rfl⟩ := h.psur hy q0 q1
    rw [l2 _ a0 a1, l2 _ b0 b1] at e
    rw [e]
  · obtain ⟨w, hw, rfl⟩ := h.sur v (h.wkI.mp hv)
    rw [h.n] at p1
    have b := order_bd hy hw p0 p1
    rw [w1 w hw, h.ord w p hw p0 p1, l2 _ b.1 b.2]
  · rw [hc.1, h.n]
  · rw [h.n] at q1
    obtain ⟨p, p0, p1, rfl⟩ := h.psur hy q0 q1
    have b := atP_bd hc p0 p1
    rw [l2 p p0 p1, s.con p p0 p1, l1 _ b.1 b.2]
  · rw [hc.2.1, h.len]
  · obtain ⟨w, hw, rfl⟩ := h.sur v (h.wkI.mp hv)
    rw [w1 w hw, s.prs w hw]
theorem Iso.wsur (h : Iso y z σ π) {i : Nat} (hi : i < z.os.length) : ∃ w, y.Wk w ∧ σ w = (i : Int) + 1 := h.sur _ (h.wkI.mp ⟨by omega, by omega⟩)
theorem row_len (hy : y.ok) {i : Nat} (hi : i < y.os.length) : (y.os.getD i []).length = y.n := by
  rw [List.getD_eq_getElem?_getD, List.getElem?_eq_getElem hi]
  exact (hy.2.2.2.2.2.1 _ (List.getElem_mem hi)).2
theorem row_num (hy : y.ok) {i : Nat} (hi : i < y.os.length) : IsNum (y.os.getD i []) := by
  rw [List.getD_eq_getElem?_getD, List.getElem?_eq_getElem hi]
  exact (hy.2.2.2.2.2.1 _ (List.getElem_mem hi)).1
theorem atP_ext {a b : List Int} (hl : a.length = b.length) (h : ∀ p : Int, 0 ≤ p → p < a.length → atP a p = atP b p) : a = b := by
  refine List.ext_getElem hl fun i h1 h2 => ?_
  have := h i (by omega) (by omega)
  unfold atP at this
  rw [Int.toNat_natCast, List.getD_eq_getElem?_getD, List.getElem?_eq_getElem h1, List.getD_eq_getElem?_getD, List.getElem?_eq_getElem h2] at this
  exact this
theorem Sy.ext' {y z : Sy} (a : y.ks = z.ks) (b : y.os = z.os) (c : y.n = z.n) (d : y.cap = z.cap) : y = z := by
  cases y; cases z; cases a; cases b; cases c; cases d; rfl
theorem Iso.head (h : Iso y z σ π) (g : Iso y u σ π') (hy : y.ok) (e : z.os.getD 0 [] = u.os.getD 0 []) {q : Int} (q0 : 0 ≤ q) (q1 : q < y.n) : π q = π' q := by
  obtain ⟨w, hw, e1⟩ := h.sur 1 ⟨by omega, by have := hy.2.1; omega⟩
  have w1 := hw.1
  have w2 := hw.2
  have hr := row_num hy (i := (w - 1).toNat) (by omega)
  have hl := row_len hy (i := (w - 1).toNat) (by omega)
  obtain ⟨p, p0, p1, e2⟩ : ∃ p : Int, 0 ≤ p ∧ p < y.n ∧ atP (y.os.getD (w - 1).toNat []) p = q := by
    have hm : q ∈ y.os.getD (w - 1).toNat [] := hr.mem.mpr ⟨q0, by rw [hl]; exact q1⟩
    have := List.idxOf_lt_length_of_mem hm
    exact ⟨((y.os.getD (w - 1).toNat []).idxOf q : Nat), by omega, by omega, atP_idx hm⟩
  have a := h.ord w p hw p0 p1
  have b := g.ord w p hw p0 p1
  rw [e1, show ((1 : Int) - 1).toNat = 0 from rfl, e2] at a b
  rw [← a, ← b, e]
theorem Iso.uniq (h : Iso y z σ π) (g : Iso y u σ π') (hy : y.ok) (hz : z.ok) (hu : u.ok) (e : z.os.getD 0 [] = u.os.getD 0 []) : z = u := by
  refine Sy.ext' (h.ks.trans g.ks.symm) ?_ (h.n.trans g.n.symm) (h.cap.trans g.cap.symm)
  refine List.ext_getElem (h.len.trans g.len.symm) fun i h1 h2 => ?_
  obtain ⟨w, hw, ew⟩ := h.wsur h1
  have a1 := row_len hz h1
  have b1 := row_len hu h2
  have eq : z.os.getD i [] = u.os.getD i [] := by
    refine atP_ext (by rw [a1, b1, h.n, g.n]) fun p p0 p1 => ?_
    rw [a1, h.n] at p1
    have a := h.ord w p hw p0 p1
    have b := g.ord w p hw p0 p1
    rw [ew, show ((i : Int) + 1 - 1).toNat = i by omega] at a b
    have o := order_bd hy hw p0 p1
    rw [a, b, h.head g hy e o.1 o.2]
  rw [List.getD_eq_getElem?_getD, List.getElem?_eq_getElem h1, List.getD_eq_getElem?_getD, List.getElem?_eq_getElem h2] at eq
  exact eq
end
section
variable {y z : Sy} {ord pl : List Int} {c : Cfg} {σ π : Int → Int}
def exC (ord : List Int) (c : Cfg) : Cfg := (c.1.map (ordF ord), (formF ord c.2.length).map fun k => c.2.getD k.toNat (0, 0))
def rnC (pl : List Int) (c : Cfg) : Cfg := ((invP pl).map (atP c.1), c.2)
theorem atP_map {f : Int → Int} {l : List Int} {p : Int} (p0 : 0 ≤ p) (p1 : p < l.length) : atP (l.map f) p = f (atP l p) := by
  unfold atP
  rw [List.getD_eq_getElem?_getD, List.getElem?_map, List.getElem?_eq_getElem (by omega), List.getD_eq_getElem?_getD, List.getElem?_eq_getElem (by omega)] <;> rfl
theorem exC_iso (hy : y.ok) (h : IsOrd ord y.os.length) (hc : y.Ok c) : SIso y (ordF ord) (fun p => p) c (exC ord c) := by
  refine ⟨by show (c.1.map _).length = _; rw [List.length_map, hc.1], fun p p0 p1 => atP_map p0 (by rw [hc.1]; exact p1), by show (List.map _ _).length = _; rw [List.length_map, length_formF, hc.2.1], fun w hw => ?_⟩
  have w1 := hw.1
  have w2 := hw.2
  have hb := h.at_ w1 w2
  have nz : ordF ord w = atP ord (w - 1) := if_neg (by omega)
  rw [nz]
  show (List.map _ _).getD _ _ = _
  rw [hc.2.1, List.getD_eq_getElem?_getD, List.getElem?_map, formF_get (by omega)]
  have e1 : ((((atP ord (w - 1) - 1).toNat : Nat) : Int) + 1) = atP ord (w - 1) := by omega
  rw [e1, idx_nodup h.nodup (by omega) (by rw [h.len]; omega)] <;> rfl
theorem rnC_iso (hy : y.ok) (h : IsNum pl) (hl : pl.length = y.n) (hc : y.Ok c) : SIso y (fun w => w) (atP pl) c (rnC pl c) := by
  refine ⟨by show (List.map _ _).length = _; rw [List.length_map, length_inv, hl], fun p p0 p1 => ?_, hc.2.1, fun w hw => rfl⟩
  have b := h.mem.mp (atP_mem (ps := pl) (k := p) p0 (by omega))
  show atP (List.map _ _) _ = _
  rw [atP_map b.1 (by rw [length_inv]; exact b.2)]
  have e : atP (invP pl) (atP pl p) = p := by
    unfold invP
    rw [atP_map b.1 (by rw [length_rg]; exact b.2)]
    have e2 : atP (rg pl.length) (atP pl p) = atP pl p := by
      show (rg pl.length).getD (atP pl p).toNat 0 = atP pl p
      rw [List.getD_eq_getElem?_getD, rg_get (by omega)]
      show (((atP pl p).toNat : Nat) : Int) = _
      omega
    rw [e2]
    exact idx_nodup h.nodup p0 (by omega)
  rw [e]
theorem SIso.ok (h : Iso y z σ π) (hy : y.ok) {d : Cfg} (hc : y.Ok c) (s : SIso y σ π c d) : z.Ok d := by
  have pm := s.perm h hy hc
  refine ⟨s.l1.trans h.n.symm, s.l2.trans h.len.symm, fun p hp => ?_, fun x hx => ?_⟩
  · obtain ⟨i, hi⟩ := List.getElem?_of_mem hp
    have hil := (List.getElem?_eq_some_iff.mp hi).1
    rw [s.l2] at hil
    obtain ⟨w, hw, e⟩ := h.wsur (i := i) (by rw [h.len]; exact hil)
    have a := s.prs w hw
    rw [e, show ((i : Int) + 1 - 1).toNat = i by omega, List.getD_eq_getElem?_getD, hi] at a
    have a : p = c.2.getD (w - 1).toNat (0, 0) := a
    have w1 := hw.1
    have w2 := hw.2
    have hm : p ∈ c.2 := by
      rw [a, List.getD_eq_getElem?_getD, List.getElem?_eq_getElem (by rw [hc.2.1]; omega)]
      exact List.getElem_mem _
    have := hc.2.2.1 p hm
    rw [h.ks, h.n]
    exact this
  · obtain ⟨a, ha, rfl⟩ := List.mem_map.mp (pm.mem_iff.mp hx)
    have b := hc.2.2.2 a ha
    have := h.bd b.1 b.2
    rw [h.len]
    exact this
end
def nfB (y : Sy) (ord : List Int) : List Int := invP ((y.exch ord).os.getD 0 [])
def nfS (y : Sy) (ord : List Int) : Sy := (y.exch ord).ren (nfB y ord)
def nfC (y : Sy) (ord : List Int) (c : Cfg) : Cfg := rnC (nfB y ord) (exC ord c)
structure Nf (y : Sy) (ord : List Int) (π : Int → Int) : Prop where
  iso : Iso y (nfS y ord) (ordF ord) π
  st : ∀ c, y.Ok c → SIso y (ordF ord) π c (nfC y ord c)
  ok : (nfS y ord).ok
  hd : (nfS y ord).os.getD 0 [] = rg y.n
  nb : IsNum (nfB y ord)
  lb : (nfB y ord).length = y.n
theorem nf_of {y : Sy} {ord : List Int} (hy : y.ok) (h : IsOrd ord y.os.length) : Nf y ord (fun p => atP (nfB y ord) p) := by
  have i1 := Sy.exch_iso hy h
  have k1 := Sy.exch_ok hy h
  have l0 : 0 < (y.exch ord).os.length := k1.2.1
  have n0 := row_num k1 l0
  have n1 := row_len k1 l0
  have nb : IsNum (nfB y ord) := isNum_inv n0
  have lb : (nfB y ord).length = (y.exch ord).n := by unfold nfB; rw [length_inv]; exact n1
  have i2 := Sy.ren_iso k1 nb lb
  refine ⟨i1.trans i2, fun c hc => ?_, Sy.ren_ok k1 nb lb, ?_, nb, lb⟩
  · have t := SIso.trans i1 (exC_iso hy h hc) (rnC_iso k1 nb lb (SIso.ok i1 hy hc (exC_iso hy h hc)))
    exact t
  · show ((y.exch ord).os.map (mulP (nfB y ord))).getD 0 [] = _
    rw [List.getD_eq_getElem?_getD, List.getElem?_map, List.getElem?_eq_getElem l0]
    have : mulP (nfB y ord) (y.exch ord).os[0] = rg y.n := by
      have e : (y.exch ord).os.getD 0 [] = (y.exch ord).os[0] := by rw [List.getD_eq_getElem?_getD, List.getElem?_eq_getElem l0] <;> rfl
      unfold nfB
      rw [e] at n0 n1 ⊢
      rw [inv_mul n0, n1] <;> rfl
    exact this
def ordOf (σ : Int → Int) (n : Nat) : List Int := (rgI 1 (n + 1)).map σ
theorem ordOf_ord {y z : Sy} {σ π : Int → Int} (h : Iso y z σ π) : IsOrd (ordOf σ y.os.length) y.os.length := by
  unfold IsOrd ordOf
  have nd : ((rgI 1 ((y.os.length : Int) + 1)).map σ).Nodup := List.pairwise_map.mpr ((nodup_rgI 1 _).imp_of_mem fun {a b} ha hb hab e => hab (by
    have a1 := mem_rgI.mp ha
    have b1 := mem_rgI.mp hb
    exact h.inj a b (by omega) (by omega) (by omega) (by omega) e))
  refine (List.perm_ext_iff_of_nodup nd (nodup_rgI _ _)).mpr fun x => ?_
  rw [List.mem_map, mem_rgI]
  constructor
  · rintro ⟨w, hw, rfl⟩
    have := mem_rgI.mp hw
    have := h.sw w ⟨by omega, by omega⟩
    exact ⟨this.1, by have := this.2; omega⟩
  · rintro ⟨x1, x2⟩
    obtain ⟨w, hw, e⟩ := h.sur x ⟨x1, by omega⟩
    exact ⟨w, mem_rgI.mpr ⟨hw.1, by have := hw.2; omega⟩, e⟩
theorem ordOf_at {y z : Sy} {σ π : Int → Int} (h : Iso y z σ π) {a : Int} (a0 : 0 ≤ a) (a1 : a ≤ y.os.length) : ordF (ordOf σ y.os.length) a = σ a := by
  unfold ordF ordOf
  by_cases q : a = 0
  · rw [if_pos q, q, h.s0]
  · rw [if_neg q, atP_map (by omega) (by rw [length_rgI]; omega)]
    congr 1
    show (rgI 1 ((y.os.length : Int) + 1)).getD (a - 1).toNat 0 = a
    unfold rgI
    rw [List.getD_eq_getElem?_getD, List.getElem?_map, List.getElem?_range (by omega)]
    show (1 : Int) + (((a - 1).toNat : Nat) : Int) = a
    omega
theorem nf_of_iso {y y' : Sy} {ρ κ : Int → Int} {c c' : Cfg} {τ : List Int} (hy : y.ok) (hy' : y'.ok) (hc : y.Ok c) (hc' : y'.Ok c') (h : Iso y y' ρ κ) (s : SIso y ρ κ c c') (ho : IsOrd τ y'.os.length) : ∃ ord, IsOrd ord y.os.length ∧ nfS y ord = nfS y' τ ∧ nfC y ord c = nfC y' τ c' := by
  have N' := nf_of hy' ho
  have I := h.trans N'.iso
  have S := s.trans h (N'.st c' hc')
  have ho2 := ordOf_ord I
  have N := nf_of hy ho2
  have ea : ∀ a : Int, 0 ≤ a → a ≤ y.os.length → (fun w => ordF τ (ρ w)) a = ordF (ordOf (fun w => ordF τ (ρ w)) y.os.length) a := fun a a0 a1 => (ordOf_at I a0 a1).symm
  have I2 := N.iso.congr ea (fun _ _ _ => rfl) hy
  have S2 := (N.st c hc).congr hc ea (fun _ _ _ => rfl)
  have ehd : (nfS y (ordOf (fun w => ordF τ (ρ w)) y.os.length)).os.getD 0 [] = (nfS y' τ).os.getD 0 [] := by rw [N.hd, N'.hd, h.n]
  have e1 := I2.uniq I hy N.ok N'.ok ehd
  refine ⟨_, ho2, e1, ?_⟩
  have S3 := S2.congr hc (fun _ _ _ => rfl) (fun p p0 p1 => (I2.head I hy ehd p0 p1).symm)
  exact SIso.uniq I hy S3 S
theorem nf_same {y : Sy} {c c' : Cfg} {σ τ : List Int} (hy : y.ok) (hc : y.Ok c) (hc' : y.Ok c') (h1 : IsOrd σ y.os.length) (h2 : IsOrd τ y.os.length) (e1 : (nfS y σ).os = (nfS y τ).os) (e2 : nfC y σ c = nfC y τ c') : ∃ ρ κ : Int → Int, Iso y y ρ κ ∧ SIso y ρ κ c c' := by
  have N1 := nf_of hy h1
  have N2 := nf_of hy h2
  have e0 : nfS y σ = nfS y τ := Sy.ext' rfl e1 rfl rfl
  obtain ⟨σ', π', B, -, -, bs⟩ := N2.iso.back hy
  have S1 := N1.st c hc
  have S2 := bs c' _ hc' (N2.st c' hc')
  have I1 := N1.iso
  rw [e0] at I1
  rw [e2] at S1
  exact ⟨_, _, I1.trans B, S1.trans I1 S2⟩
def symP (y : Sy) (ord : List Int) : List Int := mulP (y.os.getD 0 []) (invP ((y.exch ord).os.getD 0 []))
theorem mulP_assoc3 {a b c : List Int} (hc : ∀ x ∈ c, 0 ≤ x ∧ x < b.length) : mulP (mulP a b) c = mulP a (mulP b c) := by
  unfold mulP
  rw [List.map_map]
  refine List.map_congr_left fun x hx => ?_
  have := hc x hx
  exact atP_map this.1 this.2
theorem mulP_rg {a : List Int} : mulP a (rg a.length) = a := atP_map_rg
section
variable {y : Sy} {ord : List Int} {c c' : Cfg} {ρ κ : Int → Int}
theorem symP_ok (hy : y.ok) (h : IsOrd ord y.os.length) : IsNum (symP y ord) ∧ (symP y ord).length = y.n ∧ mulP (symP y ord) ((y.exch ord).os.getD 0 []) = y.os.getD 0 [] := by
  have k1 := Sy.exch_ok hy h
  have l0 : 0 < (y.exch ord).os.length := k1.2.1
  have n0 := row_num k1 l0
  have n1 : ((y.exch ord).os.getD 0 []).length = y.n := row_len k1 l0
  have m0 := row_num hy (i := 0) hy.2.1
  have m1 := row_len hy (i := 0) hy.2.1
  have li : (invP ((y.exch ord).os.getD 0 [])).length = y.n := by rw [length_inv, n1]
  unfold symP
  refine ⟨isNum_mul m0 (isNum_inv n0) (by rw [m1, li]), by unfold mulP; rw [List.length_map, li], ?_⟩
  rw [mulP_assoc3 fun x hx => by have := n0.mem.mp hx; rw [li]; rw [n1] at this; exact this, inv_mul n0, n1, ← m1, mulP_rg]
theorem sym_of (hy : y.ok) (hc : y.Ok c) (h : Iso y y ρ κ) (s : SIso y ρ κ c c') : ∃ ord, IsOrd ord y.os.length ∧ renO (exO y.os ord) (symP y ord) = y.os ∧ rnC (symP y ord) (exC ord c) = c' := by
  have ho := ordOf_ord h
  refine ⟨_, ho, ?_⟩
  generalize hord : ordOf ρ y.os.length = ord at ho ⊢
  have ea : ∀ a : Int, 0 ≤ a → a ≤ y.os.length → ordF ord a = ρ a := fun a a0 a1 => by rw [← hord]; exact ordOf_at h a0 a1
  have I := h.congr ea (fun _ _ _ => rfl) hy
  have S := s.congr hc ea (fun _ _ _ => rfl)
  obtain ⟨p1, p2, p3⟩ := symP_ok hy ho
  have i1 := Sy.exch_iso hy ho
  have k1 := Sy.exch_ok hy ho
  have l0 : 0 < (y.exch ord).os.length := k1.2.1
  have i2 := i1.trans (Sy.ren_iso k1 p1 p2)
  have k2 := Sy.ren_ok k1 p1 p2
  have ehd : ((y.exch ord).ren (symP y ord)).os.getD 0 [] = y.os.getD 0 [] := by
    show ((y.exch ord).os.map (mulP (symP y ord))).getD 0 [] = _
    rw [List.getD_eq_getElem?_getD, List.getElem?_map, List.getElem?_eq_getElem l0]
    rw [List.getD_eq_getElem?_getD (l := (y.exch ord).os), List.getElem?_eq_getElem l0] at p3
    exact p3
  have e1 := i2.uniq I hy k2 hy ehd
  have s2 := SIso.trans i1 (exC_iso hy ho hc) (rnC_iso k1 p1 p2 (SIso.ok i1 hy hc (exC_iso hy ho hc)))
  have s3 := s2.congr hc (fun _ _ _ => rfl) (fun p p0 p1 => (i2.head I hy ehd p0 p1).symm)
  exact ⟨congrArg Sy.os e1, SIso.uniq I hy s3 S⟩
theorem sym_iso (hy : y.ok) (ho : IsOrd ord y.os.length) (e : renO (exO y.os ord) (symP y ord) = y.os) : ∃ ρ κ : Int → Int, Iso y y ρ κ ∧ ∀ c, y.Ok c → SIso y ρ κ c (rnC (symP y ord) (exC ord c)) := by
  obtain ⟨p1, p2, p3⟩ := symP_ok hy ho
  have i1 := Sy.exch_iso hy ho
  have k1 := Sy.exch_ok hy ho
  have i2 := i1.trans (Sy.ren_iso k1 p1 p2)
  have e0 : (y.exch ord).ren (symP y ord) = y := Sy.ext' rfl e rfl rfl
  rw [e0] at i2
  refine ⟨_, _, i2, fun c hc => ?_⟩
  have t := SIso.trans i1 (exC_iso hy ho hc) (rnC_iso k1 p1 p2 (SIso.ok i1 hy hc (exC_iso hy ho hc)))
  exact t
end
theorem RowOk.mem {n : Nat} : ∀ {k : Nat} {b : List Int}, RowOk n k b → b ∈ rowsP n k
  | 0, b, h => by
    have := List.length_eq_zero_iff.mp h.len
    rw [this]
    exact List.mem_singleton.mpr rfl
  | k + 1, b, h => by
    rcases List.eq_nil_or_concat b with e | ⟨a, p, e⟩
    · rw [e] at h; exact absurd h.len (by simp)
    · rw [List.concat_eq_append] at e
      subst e
      have hl := h.len
      rw [List.length_append] at hl
      have hn := List.nodup_append.mp h.nd
      have ra : RowOk n k a := ⟨by simpa using hl, hn.1, fun x hx => h.rng x (List.mem_append_left _ hx)⟩
      have hp := h.rng p (List.mem_append_right _ (List.mem_singleton.mpr rfl))
      refine List.mem_flatMap.mpr ⟨a, ra.mem, List.mem_map.mpr ⟨p, List.mem_filter.mpr ⟨mem_rg.mpr ⟨hp.1, hp.2⟩, ?_⟩, rfl⟩⟩
      have : p ∉ a := fun q => hn.2.2 p q p (List.mem_singleton.mpr rfl) rfl
      simpa using this
def incL (b : List Int) : List Int := b.map (· + 1)
def ordsL (n : Nat) : List (List Int) := (allP n).map incL
theorem ordsL_ord {n : Nat} {ord : List Int} (h : ord ∈ ordsL n) : IsOrd ord n := by
  obtain ⟨b, hb, rfl⟩ := List.mem_map.mp h
  have r := rowsP_ok hb
  have nd : (incL b).Nodup := List.pairwise_map.mpr (r.nd.imp fun {a b} h e => h (by omega))
  refine (List.perm_ext_iff_of_nodup nd (nodup_rgI _ _)).mpr fun x => ?_
  have hp : b.Perm (rg n) := by
    refine perm_of r.nd (fun x hx => mem_rg.mpr (r.rng x hx)) (by rw [length_rg, r.len]; exact Nat.le_refl _)
  unfold incL
  rw [List.mem_map, mem_rgI]
  constructor
  · rintro ⟨p, hp2, rfl⟩
    have := r.rng p hp2
    omega
  · rintro ⟨x1, x2⟩
    exact ⟨x - 1, hp.mem_iff.mpr (mem_rg.mpr ⟨by omega, by omega⟩), by omega⟩
theorem ord_ordsL {n : Nat} {ord : List Int} (h : IsOrd ord n) : ord ∈ ordsL n := by
  refine List.mem_map.mpr ⟨ord.map (· - 1), RowOk.mem ⟨by rw [List.length_map, h.len], List.pairwise_map.mpr (h.nodup.imp fun {a b} q e => q (by omega)), fun x hx => ?_⟩, ?_⟩
  · obtain ⟨a, ha, rfl⟩ := List.mem_map.mp hx
    have := h.mem.mp ha
    omega
  · unfold incL
    rw [List.map_map]
    refine (List.map_congr_left fun x _ => ?_).trans (List.map_id _)
    show x - 1 + 1 = x
    omega
theorem ordsL_ne (n : Nat) : ordsL n ≠ [] := fun e => by
  have h : IsOrd (rgI 1 (n + 1)) n := List.Perm.refl _
  have := ord_ordsL h
  rw [e] at this
  cases this
abbrev olT (o : List Int) : D := .tup (dInts o)
def triD (y : Sy) (c : Cfg) (ord : List Int) : D := .tup [.tup ((nfS y ord).os.map olT), .tup (dInts (nfC y ord c).1), .tup ((nfC y ord c).2.map prD)]
def triL (y : Sy) (c : Cfg) : List D := (ordsL y.os.length).map (triD y c)
def minL : List D → D
  | [] => .non
  | d :: ds => minDs d ds
def formD (y : Sy) (c : Cfg) : D := minL (triL y c)
theorem alike_ints : ∀ xs ys : List Int, PySem.W.alikeAll (D.pys (dInts xs)) (D.pys (dInts ys)) = true
  | [], _ => by simp [dInts, D.pys, PySem.W.alikeAll]
  | _ :: _, [] => by simp [dInts, D.pys, PySem.W.alikeAll]
  | x :: xs, y :: ys => by
    show PySem.W.alikeAll (.int x :: D.pys (dInts xs)) (.int y :: D.pys (dInts ys)) = true
    rw [PySem.W.alikeAll, alike_ints xs ys]
    simp [PySem.W.alike]
theorem alike_olT : ∀ xs ys : List (List Int), PySem.W.alikeAll (D.pys (xs.map olT)) (D.pys (ys.map olT)) = true
  | [], _ => by simp [D.pys, PySem.W.alikeAll]
  | _ :: _, [] => by simp [D.pys, PySem.W.alikeAll]
  | x :: xs, y :: ys => by
    show PySem.W.alikeAll (.tuple (D.pys (dInts x)) :: D.pys (xs.map olT)) (.tuple (D.pys (dInts y)) :: D.pys (ys.map olT)) = true
    rw [PySem.W.alikeAll, alike_olT xs ys]
    simp [PySem.W.alike, alike_ints]
theorem alike_prD : ∀ ps qs : List (Int × Int), PySem.W.alikeAll (D.pys (ps.map prD)) (D.pys (qs.map prD)) = true
  | [], _ => by simp [D.pys, PySem.W.alikeAll]
  | _ :: _, [] => by simp [D.pys, PySem.W.alikeAll]
  | p :: ps, q :: qs => by
    show PySem.W.alikeAll (.tuple [.int p.1, .int p.2] :: D.pys (ps.map prD)) (.tuple [.int q.1, .int q.2] :: D.pys (qs.map prD)) = true
    rw [PySem.W.alikeAll, alike_prD ps qs]
    simp [PySem.W.alike, PySem.W.alikeAll]
theorem dep_dInts {n : Nat} (ns : List Int) : (dInts ns).all (D.dep n) = true := List.all_eq_true.mpr fun d hd => by
  obtain ⟨i, _, rfl⟩ := List.mem_map.mp hd
  cases n <;> rfl
theorem tri_dep (y : Sy) (c : Cfg) (ord : List Int) : (triD y c ord).dep 3 = true := by
  show ((((nfS y ord).os.map olT).all (D.dep 1)) && (((dInts (nfC y ord c).1).all (D.dep 1)) && ((((nfC y ord c).2.map prD).all (D.dep 1)) && true))) = true
  have e1 : ((nfS y ord).os.map olT).all (D.dep 1) = true := List.all_eq_true.mpr fun d hd => by
    obtain ⟨o, _, rfl⟩ := List.mem_map.mp hd
    exact dep_dInts (n := 0) o
  have e2 : ((nfC y ord c).2.map prD).all (D.dep 1) = true := List.all_eq_true.mpr fun d hd => by
    obtain ⟨p, _, rfl⟩ := List.mem_map.mp hd
    rfl
  rw [dep_dInts, e1, e2]
  rfl
theorem srt_tri {ds : List D} (h : ∀ d ∈ ds, ∃ y c ord, d = triD y c ord) : SrtOk ds where
  dep := ⟨3, by decide, List.all_eq_true.mpr fun d hd => by
    obtain ⟨a, r, o, rfl⟩ := h d hd
    exact tri_dep a r o⟩
  al := fun x hx z hz => by
    obtain ⟨d, hd, rfl⟩ := List.mem_map.mp hx
    obtain ⟨e, he, rfl⟩ := List.mem_map.mp hz
    obtain ⟨a, r, o, rfl⟩ := h d hd
    obtain ⟨b, s, q, rfl⟩ := h e he
    show PySem.W.alike (.tuple [.tuple (D.pys ((nfS a o).os.map olT)), .tuple (D.pys (dInts (nfC a o r).1)), .tuple (D.pys ((nfC a o r).2.map prD))]) (.tuple [.tuple (D.pys ((nfS b q).os.map olT)), .tuple (D.pys (dInts (nfC b q s).1)), .tuple (D.pys ((nfC b q s).2.map prD))]) = true
    simp [PySem.W.alike, PySem.W.alikeAll, alike_ints, alike_olT, alike_prD]
  so := .inl fun x hx => by
    obtain ⟨d, hd, rfl⟩ := List.mem_map.mp hx
    obtain ⟨a, r, o, rfl⟩ := h d hd
    exact ⟨_, _, rfl⟩
theorem srt_triL (y : Sy) (c : Cfg) : SrtOk (triL y c) := srt_tri fun d hd => by
  obtain ⟨o, _, rfl⟩ := List.mem_map.mp hd
  exact ⟨_, _, _, rfl⟩
theorem triL_cons (y : Sy) (c : Cfg) : ∃ d ds, triL y c = d :: ds := by
  cases e : triL y c with
  | nil => exact absurd (List.map_eq_nil_iff.mp e) (ordsL_ne _)
  | cons d ds => exact ⟨d, ds, rfl⟩
theorem minL_set {as bs : List D} (ok : SrtOk as) (ha : as ≠ []) (h : ∀ x, x ∈ as ↔ x ∈ bs) : minL as = minL bs := by
  cases as with
  | nil => exact absurd rfl ha
  | cons a as =>
    cases bs with
    | nil => exact absurd ((h a).mp List.mem_cons_self) (fun z => by cases z)
    | cons b bs => exact minDs_set ok h
theorem minL_mem {as : List D} (ha : as ≠ []) : minL as ∈ as := by
  cases as with
  | nil => exact absurd rfl ha
  | cons a as => exact minDs_mem as a
theorem olT_inj {a b : List (List Int)} (h : a.map olT = b.map olT) : a = b := (List.map_inj_right (f := olT) fun x y e => dInts_inj (D.tup.inj e)).mp h
theorem prD_inj {a b : List (Int × Int)} (h : a.map prD = b.map prD) : a = b := (List.map_inj_right (f := prD) fun p q e => by
  have e : D.tup [.int p.1, .int p.2] = D.tup [.int q.1, .int q.2] := e
  injection e with e
  injection e with e3 e4
  injection e4 with e4
  exact Prod.ext (D.int.inj e3) (D.int.inj e4)).mp h
theorem tri_inj {y z : Sy} {c d : Cfg} {σ τ : List Int} (h : triD y c σ = triD z d τ) : (nfS y σ).os = (nfS z τ).os ∧ nfC y σ c = nfC z τ d := by
  unfold triD at h
  injection h with h
  injection h with h1 h
  injection h with h2 h
  injection h with h3 _
  exact ⟨olT_inj (D.tup.inj h1), Prod.ext (dInts_inj (D.tup.inj h2)) (prD_inj (D.tup.inj h3))⟩
section
variable {y y' : Sy} {ρ κ : Int → Int} {c c' : Cfg}
theorem tri_sub (hy : y.ok) (hy' : y'.ok) (hc : y.Ok c) (hc' : y'.Ok c') (h : Iso y y' ρ κ) (s : SIso y ρ κ c c') {x : D} (hx : x ∈ triL y' c') : x ∈ triL y c := by
  obtain ⟨τ, hτ, rfl⟩ := List.mem_map.mp hx
  obtain ⟨ord, ho, e1, e2⟩ := nf_of_iso hy hy' hc hc' h s (ordsL_ord hτ)
  refine List.mem_map.mpr ⟨ord, ord_ordsL ho, ?_⟩
  unfold triD
  rw [e1, e2]
theorem form_iso (hy : y.ok) (hy' : y'.ok) (hc : y.Ok c) (h : Iso y y' ρ κ) (s : SIso y ρ κ c c') : formD y' c' = formD y c := by
  have hc' := SIso.ok h hy hc s
  obtain ⟨σ', π', B, -, -, bs⟩ := h.back hy
  obtain ⟨d, ds, e⟩ := triL_cons y' c'
  exact minL_set (srt_triL y' c') (by rw [e]; exact List.cons_ne_nil _ _) fun x => ⟨fun q => tri_sub hy hy' hc hc' h s q, fun q => tri_sub hy' hy hc' hc B (bs c c' hc s) q⟩
theorem form_same (hy : y.ok) (hc : y.Ok c) (hc' : y.Ok c') : formD y c = formD y c' ↔ ∃ ord, IsOrd ord y.os.length ∧ renO (exO y.os ord) (symP y ord) = y.os ∧ rnC (symP y ord) (exC ord c) = c' := by
  constructor
  · intro e
    have ne : ∀ c, triL y c ≠ [] := fun c q => by
      obtain ⟨d, ds, e⟩ := triL_cons y c
      rw [e] at q
      cases q
    have m1 : formD y c ∈ triL y c := minL_mem (ne c)
    have m2 : formD y c' ∈ triL y c' := minL_mem (ne c')
    obtain ⟨σ, hσ, e1⟩ := List.mem_map.mp m1
    obtain ⟨τ, hτ, e2⟩ := List.mem_map.mp m2
    rw [← e1, ← e2] at e
    obtain ⟨i1, i2⟩ := tri_inj e
    obtain ⟨ρ, κ, I, S⟩ := nf_same hy hc hc' (ordsL_ord hσ) (ordsL_ord hτ) i1 i2
    exact sym_of hy hc I S
  · rintro ⟨ord, ho, e1, e2⟩
    obtain ⟨ρ, κ, I, S⟩ := sym_iso hy ho e1
    have S := S c hc
    rw [e2] at S
    exact (form_iso hy hy hc I S).symm
end
def nextO (n : Nat) (b : List Int) : List (List Int) := ((rgI 1 (n + 1)).filter fun p => !decide (p ∈ b)).map fun p => b ++ [p]
def rowsO (n : Nat) : Nat → List (List Int)
  | 0 => [[]]
  | k + 1 => (rowsO n k).flatMap (nextO n)
theorem rgI1_rg (n : Nat) : rgI 1 (n + 1) = (rg n).map (· + 1) := by
  unfold rg rgI
  have e : ((n : Int) + 1 - 1).toNat = n := by omega
  rw [e, List.map_map]
  exact List.map_congr_left fun i _ => Int.add_comm _ _
theorem nextO_inc {n : Nat} {b : List Int} : nextO n (incL b) = (nextR n b).map incL := by
  unfold nextO nextR
  rw [rgI1_rg, List.filter_map, List.map_map, List.map_map]
  have e : (rg n).filter ((fun p => !decide (p ∈ incL b)) ∘ fun x => x + 1) = (rg n).filter fun p => !decide (p ∈ b) := by
    refine List.filter_congr fun x _ => ?_
    show (!decide (x + 1 ∈ incL b)) = !decide (x ∈ b)
    congr 1
    refine decide_eq_decide.mpr ?_
    unfold incL
    rw [List.mem_map]
    exact ⟨fun ⟨a, ha, e⟩ => by have : a = x := by omega
                                rw [← this]; exact ha, fun h => ⟨x, h, rfl⟩⟩
  rw [e]
  refine List.map_congr_left fun x _ => ?_
  show incL b ++ [x + 1] = incL (b ++ [x])
  unfold incL
  rw [List.map_append] <;> rfl
theorem rowsO_inc {n : Nat} : ∀ k, rowsO n k = (rowsP n k).map incL
  | 0 => rfl
  | k + 1 => by
    show (rowsO n k).flatMap (nextO n) = ((rowsP n k).flatMap (nextR n)).map incL
    rw [rowsO_inc k, List.flatMap_map, List.map_flatMap]
    congr 1
    funext b
    exact nextO_inc
theorem rowsO_all (n : Nat) : rowsO n n = ordsL n := rowsO_inc n
end LW
namespace LW
open PySem PySem.Spec PyProof.Rows L2
def rCatX (K : PySem.W.Frag) : R2 := fun x y H Q => ∃ a b xs ys, x = .ref a ∧ y = .ref b ∧ SqT K H a xs ∧ SqT K H b ys ∧ xs.length + ys.length ≤ sizeLine ∧
  (xs = [] → Q (.ref b) H) ∧ (xs ≠ [] → ys = [] → Q (.ref a) H) ∧ (xs ≠ [] → ys ≠ [] → ∀ p o, H p = none → o.dict = none → Q (.ref p) (upd H p (.frz o (.tup (xs ++ ys)))))
theorem op_catX {X : Cx} : OpR X (binaryOp .Add) (rCatX X.K) := by
  intro pins s σ H x y v u Q I rx ry h
  obtain ⟨a, b, xs, ys, rfl, rfl, ha, hb, hz, q0, q1, q2⟩ := h
  cases rx
  cases ry
  obtain ⟨its, r1, p1, _⟩ := I.tuple ha
  obtain ⟨its2, r2, p2, _⟩ := I.tuple hb
  by_cases hx : xs = []
  · subst hx
    cases r1
    exact cat_tup0 p1 p2 ⟨.ref b, H, I, rfl, q0 rfl⟩
  · refine HT.cat_tup p1 p2 (fun z => hx (r1.nil_iff.mp z)) (fun z => ⟨.ref a, H, I, rfl, q1 hx (r2.nil_iff.mp z)⟩) (fun z => ?_) (by rw [← r1.length, ← r2.length]; exact hz)
    have hg : (s.heap.push { cls := .type "tuple", data := .seq (its ++ its2).toArray }).get? s.heap.objs.size = some { cls := .type "tuple", data := .seq (its ++ its2).toArray } := Heap.get?_push_size _ rfl
    refine ⟨.ref s.heap.objs.size, upd H s.heap.objs.size (.frz { cls := .type "tuple", data := .seq (its ++ its2).toArray } (.tup (xs ++ ys))), I.laid (t' := s.toks) (fun b ob q => Heap.get?_push_of_some _ q) (Nat.le_refl _) ?_, rfl, q2 hx (fun w => z (r2.nil_iff.mpr w)) _ _ (I.hok.fresh (Nat.le_refl _)) rfl⟩
    exact ⟨hg, by rw [List.length_append]; exact hz, _, r1.append r2, ⟨_, hg, rfl, _, rfl⟩⟩
def rSlX (K : PySem.W.Frag) : V → Option Int → Option Int → Hp → VK → Prop := fun x lo hi H Q => ∃ a xs, x = .ref a ∧ SqT K H a xs ∧
  (HT.sIx xs.length 0 lo = 0 ∧ HT.sIx xs.length xs.length hi = xs.length → Q (.ref a) H) ∧ (¬ (HT.sIx xs.length 0 lo = 0 ∧ HT.sIx xs.length xs.length hi = xs.length) → ∀ p o, H p = none → o.dict = none → Q (.ref p) (upd H p (.frz o (.tup (cutV xs lo hi)))))
theorem sl_tupX {X : Cx} : SlR X (rSlX X.K) := by
  intro pins s σ H x v vl vu lo hi sl Q I rx hs pl pu h
  obtain ⟨a, xs, rfl, hx, q1, q2⟩ := h
  cases rx
  obtain ⟨its, r, ht, hz⟩ := I.tuple hx
  have hlen : its.toArray.size = xs.length := by rw [List.size_toArray]; exact r.length.symm
  refine ⟨"tuple", _, PyProof.Rows.slot_tuple_getitem.lookup, ht.typeIs, ?_⟩
  by_cases hw : HT.sIx xs.length 0 lo = 0 ∧ HT.sIx xs.length xs.length hi = xs.length
  · exact getItem_tuple_whole ht hs pl pu (by rw [hlen]; exact hw) ⟨.ref a, H, I, rfl, q1 hw⟩
  · refine HT.getItem_tuple_cut ht hs pl pu (by rw [hlen]; exact hw) ?_ (by rw [hlen]; exact hz)
    rw [hlen]
    have key : ∀ arr : Array Value, IsTup (s.heap.push { cls := .type "tuple", data := .seq arr }) s.heap.objs.size arr → arr = ((its.drop (HT.sIx xs.length 0 lo)).take (HT.sIx xs.length xs.length hi - HT.sIx xs.length 0 lo)).toArray → EP X pins σ Q (.ref s.heap.objs.size) { s with heap := s.heap.push { cls := .type "tuple", data := .seq arr } } := fun arr _ earr => by
      have hg : (s.heap.push { cls := .type "tuple", data := .seq arr }).get? s.heap.objs.size = some { cls := .type "tuple", data := .seq arr } := Heap.get?_push_size _ rfl
      refine ⟨.ref s.heap.objs.size, upd H s.heap.objs.size (.frz { cls := .type "tuple", data := .seq arr } (.tup (cutV xs lo hi))), I.laid (t' := s.toks) (fun b ob q => Heap.get?_push_of_some _ q) (Nat.le_refl _) ?_, rfl, q2 hw _ _ (I.hok.fresh (Nat.le_refl _)) rfl⟩
      subst earr
      exact ⟨hg, Nat.le_trans (cutV_length xs lo hi) hz, _, (r.drop (HT.sIx xs.length 0 lo)).take (HT.sIx xs.length xs.length hi - HT.sIx xs.length 0 lo), ⟨_, hg, rfl, _, rfl⟩⟩
    exact key _ (IsTup.new _ _) rfl
def OpPA (m : Md) (K : PySem.W.Frag) (r : R2) (f : D → D → (D → Prop) → Prop) : Prop := ∀ (S : ASet) (os : List Addr) (H : Hp) (d e : D) (v w : V) (Q : VK) (Qp : D → Prop), (∀ a, S a → H a ≠ none) → RepA K H S d v → RepA K H S e w → f d e Qp →
  (∀ x u H', GrP nop H H' → RR m K H H' S os x u → Qp x → Q u H') → r v w H Q
def SlPA (m : Md) (K : PySem.W.Frag) (r : V → Option Int → Option Int → Hp → VK → Prop) (f : D → Option Int → Option Int → (D → Prop) → Prop) : Prop := ∀ (S : ASet) (os : List Addr) (H : Hp) (d : D) (v : V) (lo hi : Option Int) (Q : VK) (Qp : D → Prop), (∀ a, S a → H a ≠ none) → RepA K H S d v → f d lo hi Qp →
  (∀ x u H', GrP nop H H' → RR m K H H' S os x u → Qp x → Q u H') → r v lo hi H Q
section
variable {X : Cx} {W : Wrl} {Wo : WX} {m : Md} {a b : Expr} {qa qb : QT W} {pos p2 : Pos}
theorem qe_opA {op : Operator} {r : R2} {f : D → D → (D → Prop) → Prop} (ho : OpR X (binaryOp op) r) (hp : OpPA m X.K r f) (ha : QE X .A W Wo a qa) (hb : QE X .A W Wo b qb) : QE X m W Wo (.BinOp a op b pos) (qOp f qa qb) := PE.imp (pe_op ho ha hb) fun σ H Q ⟨F, T, ω, ρ, Qp, Ep, R, q, hx, k⟩ => by
  refine ⟨F, T, ω, ρ, _, Ep, R, q, hx, fun T1 ω1 d v H1 R1 e1 r1 q1 => ?_⟩
  refine ⟨F, T1, ω1, ρ, _, Ep, R1, q1, hx, fun T2 ω2 e w H2 R2 e2 r2 q2 => ?_⟩
  refine hp _ (owns ρ) H2 d e v w Q _ R2.spl (R1.ext_rep e2 r1) r2 q2 fun x u H' g rr qq => ?_
  exact k T2 ω2 x u H' (R2.grow g) ((e1.trans e2).trans (Ext.of0 g)) (rr.back fun a z => e1.gr.live a (e2.gr.live a z)) qq
theorem qe_slA {r : V → Option Int → Option Int → Hp → VK → Prop} {f : D → Option Int → Option Int → (D → Prop) → Prop} {lo hi : Option Expr} {ql qh : Option (QT W)} (hr : SlR X r) (hp : SlPA m X.K r f) (ha : QE X .A W Wo a qa) (hl : QO X W Wo lo ql) (hh : QO X W Wo hi qh) :
    QE X m W Wo (.Subscript a (.Slice lo hi none p2) pos) (qSl f qa ql qh) := PE.imp (pe_slice hr ha hl hh) fun σ H Q ⟨F, T, ω, ρ, Qp, Ep, R, q, hx, k⟩ => by
  refine ⟨F, T, ω, ρ, _, Ep, R, q, hx, fun T1 ω1 d v H1 R1 e1 r1 q1 => ?_⟩
  refine ⟨F, T1, ω1, ρ, _, Ep, R1, q1, hx, fun T2 ω2 l H2 R2 e2 q2 => ?_⟩
  refine ⟨F, T2, ω2, ρ, _, Ep, R2, q2, hx, fun T3 ω3 u H3 R3 e3 q3 => ?_⟩
  refine hp _ (owns ρ) H3 d v l u Q _ R3.spl (R1.ext_rep (e2.trans e3) r1) q3 fun x w H' g rr qq => ?_
  exact k T3 ω3 x w H' (R3.grow g) ((e1.trans (e2.trans e3)).trans (Ext.of0 g)) (rr.back fun a z => e1.gr.live a (e2.gr.live a (e3.gr.live a z))) qq
end
theorem opCatXP {K : PySem.W.Frag} : OpPA .A K (rCatX K) fCatT := fun S os H d e v w Q Qp hS r1 r2 h k => by
  cases d <;> cases e <;> first | (exact h.elim) | skip
  obtain ⟨hz, h⟩ := h
  have r1' := r1
  have r2' := r2
  cases r1 with | tup hl hr => ?_
  cases r2 with | tup hl2 hr2 => ?_
  refine ⟨_, _, _, _, rfl, rfl, hl.sqt, hl2.sqt, by rw [hr.len, hr2.len]; exact small6 hz, fun z => ?_, fun z1 z2 => ?_, fun z1 z2 p o hp ho => ?_⟩
  · rw [hr.nil_of z] at h
    exact k _ _ H (GrP.refl _ _) r2' h
  · rw [hr2.nil_of z2, List.append_nil] at h
    exact k _ _ H (GrP.refl _ _) r1' h
  · exact k _ _ _ (GrP.new hp) (ra_tup hp ho (RepsA.append hr2 hr)) h
theorem slXP {K : PySem.W.Frag} : SlPA .A K (rSlX K) fSlT := fun S os H d v lo hi Q Qp hS r1 h k => by
  cases d <;> first | (exact h.elim) | skip
  have r1' := r1
  cases r1 with | tup hl hr => ?_
  refine ⟨_, _, rfl, hl.sqt, fun z => ?_, fun z p o hp ho => ?_⟩
  · rw [hr.len] at z
    have h : Qp (.tup (cutD _ lo hi)) := h
    rw [cut_wholeD z] at h
    exact k _ _ H (GrP.refl _ _) r1' h
  · exact k _ _ _ (GrP.new hp) (ra_tup hp ho hr.cut) h
end LW

namespace LW
open PySem PySem.Spec PyProof.Rows L2
local macro_rules | `(tactic| walk_at "pos") => `(tactic| first | decide | omega | assumption)
local macro_rules | `(tactic| walk_at "ne") => `(tactic| first
  | assumption
  | (refine Ne.symm ?_; assumption)
  | (refine' ne_of_none ?h1 ?h2; (case h2 => assumption); (case h1 => walk_at "at"))
  | (refine' Ne.symm (ne_of_none ?h1 ?h2); (case h2 => assumption); (case h1 => walk_at "at")))
local macro_rules | `(tactic| walk_at "nin") => `(tactic| first
  | exact nin0
  | (refine nin1 ?_; walk_at "ne")
  | (refine nin2 ?_ ?_ <;> walk_at "ne")
  | (refine nin3 ?_ ?_ ?_ <;> walk_at "ne"))
local macro_rules | `(tactic| walk_at "at") => `(tactic| first
  | assumption
  | (refine' Gr.get0 ?h1 ?h2; (case h1 => assumption); (case h2 => walk_at "at"))
  | (refine' Gr.keepB ?h1 ?h2 ?h3; (case h1 => assumption); (case h2 => walk_at "at"); (case h3 => first | exact Or.inl rfl | (refine Or.inr ?_; walk_at "nin"))))
local macro_rules | `(tactic| walk_at "sql") => `(tactic| first
  | assumption
  | (refine' sql_of ?h1; (case h1 => walk_at "at"))
  | (refine' sql_frz ?h1; (case h1 => walk_at "at"))
  | (refine' Gr.sql0 ?h1 ?h2; (case h1 => assumption); (case h2 => walk_at "sql"))
  | (refine' Gr.sqlB ?h1 ?h2 ?h3; (case h1 => assumption); (case h2 => walk_at "sql"); (case h3 => walk_at "nin")))
local macro_rules | `(tactic| walk_at "tx") => `(tactic| first
  | assumption
  | (refine' TupX.gr ?tx1 ?tx2; (case tx2 => assumption); (case tx1 => walk_at "tx")))
local macro_rules | `(tactic| walk_at "sqt") => `(tactic| first
  | assumption
  | (refine' TupX.sqt ?tx1; (case tx1 => walk_at "tx"))
  | (refine' sqt_of ?h1; (case h1 => walk_at "at"))
  | (refine' Gr.sqt ?h1 ?h2; (case h1 => assumption); (case h2 => walk_at "sqt")))
local macro_rules | `(tactic| walk_at "sq") => `(tactic| first
  | assumption
  | (refine Or.inl ?_; walk_at "sql")
  | (refine Or.inr ?_; walk_at "sqt"))
local macro_rules | `(tactic| walk_at "fre") => `(tactic| first
  | assumption
  | (refine' Gr.free0 ?h1 ?h2; (case h2 => assumption); (case h1 => assumption))
  | (refine' Gr.free1 ?h1 ?h2 ?h3; (case h2 => assumption); (case h1 => assumption); (case h3 => walk_at "ne")))
local macro_rules | `(tactic| walk_at "sub") => `(tactic| first
  | exact sub0
  | (refine sub1 ?_; first | (refine Or.inl ?_; simp; done) | (refine Or.inr ?_; walk_at "fre"))
  | (refine sub2 ?_ ?_ <;> first | (refine Or.inl ?_; simp; done) | (refine Or.inr ?_; walk_at "fre")))
local macro_rules | `(tactic| walk_at "gr") => `(tactic| first
  | assumption
  | exact Gr.refl _
  | (refine' Gr.same1 ?h1 ?h2; (case h1 => walk_at "at"); (case h2 => exact rfl))
  | (refine' Gr.step ?h1 ?h2 ?h3; (case h1 => assumption); (case h2 => walk_at "gr"); (case h3 => walk_at "sub")))
local macro_rules | `(tactic| walk_at "ix") => `(tactic| first
  | exact rfl
  | (refine' atI_nat ?h1; (case h1 => assumption)))
local macro_rules | `(tactic| walk_at "w1") => `(tactic| first
  | with_reducible refine w_seq ?_
  | ((with_reducible refine' w_var ?h1 ?h2); (case h1 => exact rfl))
  | with_reducible refine w_c ?_
  | with_reducible refine w_op ?_
  | with_reducible refine w_asg ?_
  | with_reducible refine w_cons ?_
  | with_reducible refine w_nil ?_
  | with_reducible refine w_rI0 ?_
  | with_reducible refine w_exb ?_
  | with_reducible refine w_test ?_
  | with_reducible refine w_ifS ?_
  | with_reducible refine w_ret ?_
  | with_reducible refine w_cb ?_
  | ((with_reducible refine w_gname ?_); try dsimp only [List.set])
  | ((with_reducible refine w_eq ?h1 ?h2); (case h1 => exact rfl))
  | ((with_reducible refine w_ne ?h1 ?h2); (case h1 => exact rfl))
  | with_reducible refine w_drop ?_
  | with_reducible refine w_call ?_
  | with_reducible refine w_callD ?_
  | with_reducible refine w_call1 ?_
  | with_reducible refine w_callN ?_
  | with_reducible refine w_callNS ?_
  | with_reducible refine w_and ?_
  | with_reducible refine w_or ?_
  | with_reducible refine w_not ?_
  | with_reducible refine w_T ?_
  | with_reducible refine w_F ?_
  | with_reducible refine w_nT ?_
  | with_reducible refine w_nF ?_
  | with_reducible refine w_un ?_
  | with_reducible refine w_rU ?_
  | with_reducible refine w_tLst ?_
  | with_reducible refine w_tTup ?_
  | with_reducible refine w_gsub ?_
  | with_reducible refine w_bm ?_
  | with_reducible refine w_bm0 ?_
  | with_reducible refine w_abs ?_
  | with_reducible refine w_int ?_
  | with_reducible refine w_chain ?_
  | with_reducible refine w_tB ?_
  | with_reducible refine w_exV ?_
  | with_reducible refine w_andV ?_
  | with_reducible refine w_orV ?_
  | with_reducible refine w_notV ?_
  | with_reducible refine w_ifE ?_
  | with_reducible refine w_retN ?_
  | with_reducible refine w_for ?_
  | with_reducible refine w_iRng1 ?_
  | with_reducible refine w_iRng2 ?_
  | with_reducible refine w_iRng3 ?_
  | with_reducible refine w_iList ?_
  | with_reducible refine w_iTup ?_
  | with_reducible refine w_next ?_
  | ((with_reducible refine w_ends ?_); dsimp only [List.set]))
local macro_rules | `(tactic| walk_at "h1") => `(tactic| first
  | ((with_reducible refine' w_ixL ?h1 ?h2 ?h3); (case h1 => walk_at "sql"); (case h2 => walk_at "ix"))
  | ((with_reducible refine' w_ixT ?h1 ?h2 ?h3); (case h1 => walk_at "sqt"); (case h2 => walk_at "ix"))
  | ((with_reducible refine' w_tupOfT ?h1 ?h2); (case h1 => walk_at "sqt"))
  | ((with_reducible refine' w_tupOfL ?h1 ?h2); (case h1 => walk_at "sql"); intro _ _ _ _ _)
  | ((with_reducible refine' w_len ?h1 ?h2); (case h1 => walk_at "sq"))
  | ((with_reducible refine' w_ty ?h1 ?h2); (case h1 => walk_at "sql"))
  | ((with_reducible refine' w_setL ?h1 ?h2 ?h3); (case h1 => walk_at "at"); (case h2 => exact rfl); intro _ _ _; try dsimp only [List.set])
  | ((with_reducible refine' w_lst ?h1 ?h2); (case h1 => first | exact small (by decide) | exact small (by simp)); intro _ _ _ _ _)
  | ((with_reducible refine' w_tup ?h1 ?h2); (case h1 => first | exact small (by decide) | exact small (by simp)); intro _ _ _ _ _))
local macro_rules | `(tactic| walk_at "j1") => `(tactic| first
  | ((with_reducible refine' w_rItL ?h1 ?h2); (case h1 => walk_at "sql"))
  | ((with_reducible refine' w_rItT ?h1 ?h2); (case h1 => walk_at "sqt"))
  | ((with_reducible refine' w_ixSL ?h1 ?h2 ?h3); (case h1 => walk_at "sql"); (case h2 => walk_at "ix"))
  | ((with_reducible refine' w_ixST ?h1 ?h2 ?h3); (case h1 => walk_at "sqt"); (case h2 => walk_at "ix")))
local macro_rules | `(tactic| walk_at "rep") => `(tactic| first
  | assumption
  | exact Rep.int _
  | exact Rep.bl _
  | exact Rep.str _
  | exact Rep.non
  | (refine' rep_tupI ?h1; (case h1 => walk_at "sqt"))
  | (refine' rep_lstI ?h1; (case h1 => walk_at "sql"))
  | (refine' Rep.gr0 ?h1 ?h2; (case h1 => assumption); (case h2 => walk_at "rep"))
  | (refine' Rep.grB ?h1 ?h2 ?h3; (case h1 => assumption); (case h2 => walk_at "rep"); (case h3 => first | exact rfl | assumption)))
local macro_rules | `(tactic| walk_at "i1") => `(tactic| first
  | ((with_reducible refine' w_isiTT ?is1 ?is2); (case is1 => walk_at "sqt"))
  | ((with_reducible refine' w_isiLL ?is1 ?is2); (case is1 => walk_at "sql"))
  | ((with_reducible refine' w_isE ?ie1 ?ie2 ?ie3); (case ie2 => assumption); (case ie1 => assumption))
  | ((with_reducible refine' w_isi_tuple ?h1 ?h2 ?h3); (case h1 => walk_at "rep"); (case h2 => exact rfl); dsimp only [D.isTup])
  | ((with_reducible refine' w_isi_list ?h1 ?h2 ?h3); (case h1 => walk_at "rep"); (case h2 => exact rfl); dsimp only [D.isLst])
  | ((with_reducible refine' w_isi_bool ?h1 ?h2 ?h3); (case h1 => walk_at "rep"); (case h2 => exact rfl); dsimp only [D.isBl])
  | ((with_reducible refine' w_isi_int ?h1 ?h2 ?h3); (case h1 => walk_at "rep"); (case h2 => exact rfl); dsimp only [D.isInt])
  | ((with_reducible refine' w_isi_str ?h1 ?h2 ?h3); (case h1 => walk_at "rep"); (case h2 => exact rfl); dsimp only [D.isStr]))
local macro_rules | `(tactic| walk_at "w") => `(tactic| repeat (first | walk_at "w1" | walk_at "h1" | walk_at "c1" | walk_at "n1" | walk_at "i1" | walk_at "j1"))
local macro_rules | `(tactic| walk_at "c1") => `(tactic| first
  | with_reducible refine w_fld ?_
  | with_reducible refine w_put ?_
  | with_reducible refine w_kRef ?_
  | with_reducible refine w_makeS ?_
  | with_reducible refine w_cmethS ?_
  | with_reducible refine w_binS ?_
  | with_reducible refine w_binI ?_
  | with_reducible refine w_invS ?_
  | with_reducible refine w_callOS ?_
  | with_reducible refine w_methS ?_
  | with_reducible refine w_cval ?_
  | with_reducible refine w_lstRg ?_
  | with_reducible refine w_tupRg ?_
  | with_reducible refine w_tRg1 ?_
  | with_reducible refine w_kRg1 ?_
  | with_reducible refine w_lc ?_
  | (with_reducible refine w_trn ?_; dsimp only [wipe, List.set])
  | ((with_reducible refine' w_rCVal ?rc1 ?rc2 ?rc3); (case rc2 => assumption); (case rc1 => assumption)))
local macro_rules | `(tactic| walk_at "num") => `(tactic| first
  | assumption
  | (refine' Num.gr ?h1 ?h2; (case h2 => assumption); (case h1 => walk_at "num")))
local macro_rules | `(tactic| walk_at "n1") => `(tactic| first
  | ((with_reducible refine' w_places ?nm1 ?nm2 ?nm3); (case nm2 => walk_at "num"); (case nm1 => assumption); intro _ _))
local macro_rules | `(tactic| walk_at "n1") => `(tactic| first
  | ((with_reducible refine' w_isiNum ?nm1 ?nm2 ?nm3 ?nm4); (case nm3 => walk_at "num"); (case nm1 => assumption); (case nm2 => assumption))
  | ((with_reducible refine' w_numLen ?nm1 ?nm2); (case nm1 => walk_at "num"))
  | with_reducible refine w_numCal ?_
  | with_reducible refine w_bmX ?_
  | ((with_reducible refine' w_kTupX ?nm1 ?nm2); (case nm1 => walk_at "tx")))
local macro_rules | `(tactic| walk_at "len") => `(tactic| first | decide | (simp only [List.length_cons, List.length_nil, List.length_append, List.length_map, List.length_range, List.length_set, dInts]; omega) | omega)
local macro_rules | `(tactic| walk_at "v1") => `(tactic| first
  | with_reducible refine v_seq ?_
  | ((with_reducible refine' v_Va ?h1 ?h2); (case h1 => exact rfl))
  | ((with_reducible refine' v_V ?h1 ?h2); (case h1 => exact rfl))
  | with_reducible refine v_C ?_
  | with_reducible refine v_op ?_
  | with_reducible refine v_cons ?_
  | with_reducible refine v_nil ?_
  | with_reducible refine v_ca ?_
  | with_reducible refine v_un ?_
  | with_reducible refine v_fI0 ?_
  | with_reducible refine v_te ?_
  | with_reducible refine v_exb ?_
  | with_reducible refine v_exi ?_
  | with_reducible refine v_if ?_
  | with_reducible refine v_ret ?_
  | with_reducible refine v_call ?_
  | ((with_reducible refine v_set ?_))
  | with_reducible refine v_asg ?_
  | ((with_reducible refine v_gnm ?_); try dsimp only [List.set])
  | ((with_reducible refine' v_gtp ?h1 ?h2); (case h1 => exact rfl))
  | with_reducible refine v_gsc ?_
  | with_reducible refine v_gsn ?_
  | with_reducible refine v_setO ?_
  | ((with_reducible refine v_kSetO ?_); intro _; try dsimp only [List.set])
  | ((with_reducible refine' v_app ?h1 ?h2 ?h3); (case h1 => exact rfl); (case h2 => walk_at "len"))
  | with_reducible refine v_put ?_
  | ((with_reducible refine' v_kPut ?h1 ?h2); (case h1 => exact rfl))
  | ((with_reducible refine v_frz ?_); try dsimp only [frz, List.getElem?_cons_zero, List.getElem?_cons_succ, List.set])
  | with_reducible refine v_drop ?_
  | with_reducible refine v_nx ?_
  | with_reducible refine v_inW ?_
  | with_reducible refine v_pureP ?_
  | with_reducible refine v_eqI ?_
  | with_reducible refine v_neI ?_
  | with_reducible refine v_eqS ?_
  | with_reducible refine v_neS ?_
  | with_reducible refine v_eqB ?_
  | with_reducible refine v_neB ?_
  | with_reducible refine v_isN ?_
  | with_reducible refine v_neg ?_
  | with_reducible refine v_notT ?_
  | with_reducible refine v_andT ?_
  | with_reducible refine v_orT ?_
  | with_reducible refine v_yes ?_
  | with_reducible refine v_andV ?_
  | with_reducible refine v_orV ?_
  | with_reducible refine v_notV ?_
  | with_reducible refine v_chain ?_
  | with_reducible refine v_ifE ?_
  | with_reducible refine w_T ?_
  | with_reducible refine w_F ?_
  | with_reducible refine w_nT ?_
  | with_reducible refine w_nF ?_)
local macro_rules | `(tactic| walk_at "v2") => `(tactic| first
  | with_reducible refine v_lenL ?_
  | with_reducible refine v_lenT ?_
  | with_reducible refine v_listL ?_
  | with_reducible refine v_listT ?_
  | with_reducible refine v_tupleL ?_
  | with_reducible refine v_tupleT ?_
  | with_reducible refine v_absI ?_
  | with_reducible refine v_intI ?_
  | with_reducible refine v_intB ?_
  | ((with_reducible refine' v_fLst ?h1 ?h2); (case h1 => walk_at "len"))
  | ((with_reducible refine' v_fTup ?h1 ?h2); (case h1 => walk_at "len"))
  | ((with_reducible refine' v_ixL ?h1 ?h2); (case h1 => exact rfl))
  | ((with_reducible refine' v_ixT ?h1 ?h2); (case h1 => exact rfl))
  | ((with_reducible refine' v_catL ?h1 ?h2); (case h1 => walk_at "len"))
  | ((with_reducible refine' v_catT ?h1 ?h2); (case h1 => walk_at "len"))
  | with_reducible refine v_sl ?_
  | with_reducible refine v_pn ?_
  | with_reducible refine v_ps ?_
  | with_reducible refine v_slL ?_
  | with_reducible refine v_slT ?_
  | ((with_reducible refine' v_fld ?h1 ?h2); (case h1 => exact rfl))
  | with_reducible refine v_meth ?_
  | ((with_reducible refine' v_kIns ?h1 ?h2); (case h1 => decide))
  | with_reducible refine v_obj ?_
  | with_reducible refine v_kObj ?_
  | with_reducible refine v_bin ?_
  | with_reducible refine v_kBin ?_
  | with_reducible refine v_binI ?_
  | with_reducible refine v_kBinI ?_
  | with_reducible refine v_inv ?_
  | with_reducible refine v_make ?_
  | with_reducible refine v_kAdr ?_
  | with_reducible refine v_cmeth ?_
  | with_reducible refine v_lenO ?_
  | with_reducible refine v_kLenO ?_
  | with_reducible refine v_raise ?_
  | with_reducible refine v_retN ?_
  | ((with_reducible refine' v_retO ?h1 ?h2); (case h1 => exact rfl))
  | with_reducible refine v_brk ?_
  | with_reducible refine v_cnt ?_
  | with_reducible refine v_for ?_
  | with_reducible refine v_iSeq ?_
  | with_reducible refine v_iTupl ?_
  | with_reducible refine v_exl ?_
  | with_reducible refine v_ext ?_
  | with_reducible refine v_iRg1 ?_
  | with_reducible refine v_iRg2 ?_
  | ((with_reducible refine' v_kRg ?h1 ?h2); (case h1 => refine rgB ?_ ?_ <;> omega))
  | ((with_reducible refine' v_kRg2 ?h1 ?h2 ?h3); (case h1 => refine rgB ?_ ?_ <;> omega); (case h2 => refine rgB ?_ ?_ <;> omega))
  | with_reducible refine v_lc ?_
  | with_reducible refine v_star ?_
  | with_reducible refine v_sta ?_
  | with_reducible refine v_stb ?_
  | with_reducible refine v_tru ?_
  | with_reducible refine v_truL ?_
  | with_reducible refine v_truT ?_
  | with_reducible refine v_truB ?_
  | with_reducible refine v_truN ?_
  | with_reducible refine v_listRg ?_
  | with_reducible refine v_tupRg ?_
  | with_reducible refine v_rg1 ?_
  | with_reducible refine v_rg2 ?_
  | with_reducible refine v_kTwo ?_
  | ((with_reducible refine' v_aug ?h1 ?h2); (case h1 => exact rfl))
  | ((with_reducible refine v_kAug ?_); try dsimp only [List.set])
  | with_reducible refine v_exl ?_)
local macro_rules | `(tactic| walk_at "v3") => `(tactic| first
  | with_reducible refine v_isiO' ?_
  | with_reducible refine v_lenSc ?_
  | with_reducible refine v_tcount ?_
  | with_reducible refine v_lcount ?_
  | with_reducible refine v_isT ?_
  | with_reducible refine v_try ?_
  | with_reducible refine v_sm ?_
  | with_reducible refine v_iEnumQ ?_
  | with_reducible refine v_cvI ?_
  | with_reducible refine v_fset ?_
  | with_reducible refine v_iOwn ?_
  | with_reducible refine v_raiseX ?_
  | ((with_reducible refine' v_kN63 ?h1 ?h2 ?h3); (case h1 => omega); (case h2 => omega))
  | ((with_reducible refine' v_kN6 ?h1 ?h2 ?h3); (case h1 => omega); (case h2 => omega))
  | ((with_reducible refine' v_fI ?h1 ?h2); (case h1 => first | omega | (refine ⟨?_, ?_, ?_⟩ <;> omega) | (refine .inl ⟨?_, ?_⟩ <;> omega) | (refine .inr ⟨?_, ?_⟩ <;> omega) | decide))
  | with_reducible refine v_puB ?_
  | with_reducible refine v_puI ?_
  | with_reducible refine v_puS ?_
  | with_reducible refine v_puN ?_
  | ((with_reducible refine' v_kOwn ?h1 ?h2); (case h1 => exact rfl))
  | with_reducible refine v_prop ?_
  | with_reducible refine v_listO ?_
  | ((with_reducible refine' v_kListO ?h1 ?h2 ?h3); (case h1 => exact rfl); (case h2 => simp only [length_dInts, length_dStrs]; omega))
  | with_reducible refine v_exs ?_
  | with_reducible refine v_ends ?_
  | ((with_reducible refine' v_kIsT ?h1 ?h2 ?h3); (case h1 => exact rfl); (case h2 => decide +kernel))
  | with_reducible refine v_mtT ?_
  | with_reducible refine v_mtL ?_)
local macro_rules | `(tactic| walk_at "v") => `(tactic| ((repeat (first | walk_at "v1" | walk_at "v2" | walk_at "v3")); (try dsimp only [List.set])))
local macro_rules | `(tactic| walk_at "v3") => `(tactic| with_reducible refine v_lc2 ?_)
local macro_rules | `(tactic| walk_at "v3") => `(tactic| first
  | ((with_reducible refine' v_rem ?h1 ?h2); (case h1 => exact rfl)))
local macro_rules | `(tactic| walk_at "v3") => `(tactic| first
  | with_reducible refine v_pureL ?_)
local macro_rules | `(tactic| walk_at "v3") => `(tactic| first
  | with_reducible refine v_inB ?_
  | with_reducible refine v_eqLB ?_)
local macro_rules | `(tactic| walk_at "v3") => `(tactic| first
  | with_reducible refine v_opS ?_
  | with_reducible refine v_caS ?_
  | with_reducible refine v_new ?_
  | with_reducible refine v_fldS ?_
  | with_reducible refine v_fstS ?_
  | with_reducible refine v_appS ?_
  | with_reducible refine v_putS ?_
  | with_reducible refine v_ders0 ?_
  | with_reducible refine v_ders ?_
  | ((with_reducible refine' v_derL ?ds1 ?ds2); (case ds1 => walk_at "sto"))
  | with_reducible refine v_der0 ?_
  | ((with_reducible refine' v_kFldS ?ds1 ?ds2 ?ds3); (case ds1 => walk_at "sto"); (case ds2 => exact rfl)))
local macro_rules | `(tactic| walk_at "sto") => `(tactic| first
  | assumption
  | exact Sto.same
  | (refine' Sto.ne ?so1 ?so2; (case so2 => walk_at "sto"); (case so1 => walk_at "sne")))
local macro_rules | `(tactic| walk_at "sne") => `(tactic| first
  | assumption
  | (refine Ne.symm ?_; assumption))
local macro_rules | `(tactic| walk_at "v3") => `(tactic| first
  | with_reducible refine v_inN ?_
  | with_reducible refine v_getN ?_
  | with_reducible refine v_setN ?_
  | with_reducible refine v_exa ?_
  | with_reducible refine v_dispN ?_)
local macro_rules | `(tactic| walk_at "v3") => `(tactic| first
  | with_reducible refine v_makeZS ?_)
local macro_rules | `(tactic| walk_at "v3") => `(tactic| first
  | with_reducible refine v_callK ?_)
local macro_rules | `(tactic| walk_at "v3") => `(tactic| first
  | with_reducible refine v_isInt ?_
  | with_reducible refine v_isIntB ?_
  | with_reducible refine v_isTup ?_
  | with_reducible refine v_isLst ?_
  | with_reducible refine v_isBl ?_
  | with_reducible refine v_isStr ?_
  | with_reducible refine v_gmeth ?_
  | with_reducible refine v_gcall ?_
  | with_reducible refine v_listG ?_
  | with_reducible refine v_forG ?_
  | with_reducible refine v_iAny ?_)
local macro_rules | `(tactic| walk_at "v3") => `(tactic| with_reducible refine v_lcX ?_)
theorem sc__law_begin : FnScope N__law_begin ["_law_script"] (defScope s__law_begin) := ⟨rfl, rfl, rfl, by decide +kernel, rfl, by decide +kernel, by decide +kernel⟩
theorem sc__law_draw : FnScope N__law_draw ["_law_tape", "_law_many"] (defScope s__law_draw) := ⟨rfl, rfl, rfl, by decide +kernel, rfl, by decide +kernel, by decide +kernel⟩
theorem sc__law_instruction : FnScope N__law_instruction ["_law_tape", "_law_lines"] (defScope s__law_instruction) := ⟨rfl, rfl, rfl, by decide +kernel, rfl, by decide +kernel, by decide +kernel⟩
theorem sc__law_written : FnScope N__law_written ["_law_tape", "_law_most"] (defScope s__law_written) := ⟨rfl, rfl, rfl, by decide +kernel, rfl, by decide +kernel, by decide +kernel⟩
theorem sc__law_shuffled : FnScope N__law_shuffled ["_law_tape", "_law_cells"] (defScope s__law_shuffled) := ⟨rfl, rfl, rfl, by decide +kernel, rfl, by decide +kernel, by decide +kernel⟩
theorem sc__law_home : FnScope N__law_home ["_law_tape", "_law_lines", "_law_workers", "_law_cells"] (defScope s__law_home) := ⟨rfl, rfl, rfl, by decide +kernel, rfl, by decide +kernel, by decide +kernel⟩
theorem sc_Numbering___init__ : FnScope N_Numbering___init__ ["self", "places"] (defScope s_Numbering___init__) := ⟨rfl, rfl, rfl, by decide +kernel, rfl, by decide +kernel, by decide +kernel⟩
theorem sc_Numbering___len__ : FnScope N_Numbering___len__ ["self"] (defScope s_Numbering___len__) := ⟨rfl, rfl, rfl, by decide +kernel, rfl, by decide +kernel, by decide +kernel⟩
theorem sc_System___init__ : FnScope N_System___init__ ["self", "program", "numberings", "capacity"] (defScope s_System___init__) := ⟨rfl, rfl, rfl, by decide +kernel, rfl, by decide +kernel, by decide +kernel⟩
theorem sc__line_number : FnScope N__line_number ["word", "lines"] (defScope s__line_number) := ⟨rfl, rfl, rfl, by decide +kernel, rfl, by decide +kernel, by decide +kernel⟩
theorem sc__parsed : FnScope N__parsed ["text", "lines"] (defScope s__parsed) := ⟨rfl, rfl, rfl, by decide +kernel, rfl, by decide +kernel, by decide +kernel⟩
theorem sc_Program___init__ : FnScope N_Program___init__ ["self", "instructions"] (defScope s_Program___init__) := ⟨rfl, rfl, rfl, by decide +kernel, rfl, by decide +kernel, by decide +kernel⟩
theorem sc__law_made : FnScope N__law_made ["_law_house"] (defScope s__law_made) := ⟨rfl, rfl, rfl, by decide +kernel, rfl, by decide +kernel, by decide +kernel⟩
theorem sc__law_orders : FnScope N__law_orders ["_law_workers"] (defScope s__law_orders) := ⟨rfl, rfl, rfl, by decide +kernel, rfl, by decide +kernel, by decide +kernel⟩
theorem sc__law_exchanged : FnScope N__law_exchanged ["_law_orders_here", "_law_order"] (defScope s__law_exchanged) := ⟨rfl, rfl, rfl, by decide +kernel, rfl, by decide +kernel, by decide +kernel⟩
theorem sc__law_renamed : FnScope N__law_renamed ["_law_orders_here", "_law_places"] (defScope s__law_renamed) := ⟨rfl, rfl, rfl, by decide +kernel, rfl, by decide +kernel, by decide +kernel⟩
theorem sc__law_symmetries : FnScope N__law_symmetries ["_law_orders_here"] (defScope s__law_symmetries) := ⟨rfl, rfl, rfl, by decide +kernel, rfl, by decide +kernel, by decide +kernel⟩
theorem sc__law_drawn_state : FnScope N__law_drawn_state ["_law_tape", "_law_house"] (defScope s__law_drawn_state) := ⟨rfl, rfl, rfl, by decide +kernel, rfl, by decide +kernel, by decide +kernel⟩
theorem sc__law_exchange : FnScope N__law_exchange ["_law_state", "_law_order"] (defScope s__law_exchange) := ⟨rfl, rfl, rfl, by decide +kernel, rfl, by decide +kernel, by decide +kernel⟩
theorem sc__law_rename : FnScope N__law_rename ["_law_state", "_law_places"] (defScope s__law_rename) := ⟨rfl, rfl, rfl, by decide +kernel, rfl, by decide +kernel, by decide +kernel⟩
theorem sc_every_numbering : GScope N_every_numbering ["cells"] (defScope s_every_numbering) := ⟨rfl, rfl, rfl, by decide +kernel, rfl, by decide +kernel, by decide +kernel⟩
theorem sc_Numbering___iter__ : FnScope N_Numbering___iter__ ["self"] (defScope s_Numbering___iter__) := ⟨rfl, rfl, rfl, by decide +kernel, rfl, by decide +kernel, by decide +kernel⟩
theorem sc__former : FnScope N__former ["order", "workers"] (defScope s__former) := ⟨rfl, rfl, rfl, by decide +kernel, rfl, by decide +kernel, by decide +kernel⟩
theorem sc_System_exchanged : FnScope N_System_exchanged ["self", "order"] (defScope s_System_exchanged) := ⟨rfl, rfl, rfl, by decide +kernel, rfl, by decide +kernel, by decide +kernel⟩
theorem sc_Numbering___invert__ : FnScope N_Numbering___invert__ ["self"] (defScope s_Numbering___invert__) := ⟨rfl, rfl, rfl, by decide +kernel, rfl, by decide +kernel, by decide +kernel⟩
theorem sc_Numbering___mul__ : FnScope N_Numbering___mul__ ["self", "other"] (defScope s_Numbering___mul__) := ⟨rfl, rfl, rfl, by decide +kernel, rfl, by decide +kernel, by decide +kernel⟩
theorem sc_System_renamed : FnScope N_System_renamed ["self", "numbering"] (defScope s_System_renamed) := ⟨rfl, rfl, rfl, by decide +kernel, rfl, by decide +kernel, by decide +kernel⟩
theorem sc_exchange : FnScope N_exchange ["state", "order"] (defScope s_exchange) := ⟨rfl, rfl, rfl, by decide +kernel, rfl, by decide +kernel, by decide +kernel⟩
theorem sc_rename : FnScope N_rename ["state", "numbering"] (defScope s_rename) := ⟨rfl, rfl, rfl, by decide +kernel, rfl, by decide +kernel, by decide +kernel⟩
theorem sc_System_form : FnScope N_System_form ["self", "state"] (defScope s_System_form) := ⟨rfl, rfl, rfl, by decide +kernel, rfl, by decide +kernel, by decide +kernel⟩
theorem sc__law_form : FnScope N__law_form ["_law_orders_here", "_law_state"] (defScope s__law_form) := ⟨rfl, rfl, rfl, by decide +kernel, rfl, by decide +kernel, by decide +kernel⟩
theorem sc__law_same : FnScope N__law_same ["_law_actual", "_law_expected"] (defScope s__law_same) := ⟨rfl, rfl, rfl, by decide +kernel, rfl, by decide +kernel, by decide +kernel⟩
theorem sc_law : FnScope N_law ["_law_script"] (defScope s_law) := ⟨rfl, rfl, rfl, by decide +kernel, rfl, by decide +kernel, by decide +kernel⟩
structure Ctx (K : PySem.W.Frag) (mg : Str → Option Value) : Prop where
  says : SaysW fa fn exB K
  glo : ∀ {x : Str}, (He.Fa.glo x).ok K = true → mg x = some (.ref (He.ga K x))
  free : ∀ {x : Str}, (He.Fa.free x).ok K = true → mg x = none
  int : ∀ {x : Str} {i : Int}, (He.Fa.int x i).ok K = true → ∃ t, mg x = some (.int i t)
  str : ∀ {x z : Str}, (He.Fa.str x z).ok K = true → ∃ t, mg x = some (.str z t)
section
variable {K : PySem.W.Frag} {mg : Str → Option Value}
theorem Ctx.b (c : Ctx K mg) (i : Nat) {b : Bool} (h : (exB K)[i]? = some b) : b = true := c.says.exs i h
theorem F__law_begin (c : Ctx K mg) : FunD K "_law_begin" "_law_begin" (defArgs s__law_begin) (defBody s__law_begin) (defScope s__law_begin) [] [] (A__law_begin K) (fdA K (A__law_begin K)) := fdA_of (c.says.def_ 0 (d := d__law_begin) rfl)
theorem b__law_begin (c : Ctx K mg) : Binds K (fdA K (A__law_begin K)) ["_law_script"] [] := (F__law_begin c).bindsN fun _ _ _ _ _ _ us hl => match us, hl with | [_], _ => rfl
theorem F__law_draw (c : Ctx K mg) : FunD K "_law_draw" "_law_draw" (defArgs s__law_draw) (defBody s__law_draw) (defScope s__law_draw) [] [] (A__law_draw K) (fdA K (A__law_draw K)) := fdA_of (c.says.def_ 1 (d := d__law_draw) rfl)
theorem b__law_draw (c : Ctx K mg) : Binds K (fdA K (A__law_draw K)) ["_law_tape", "_law_many"] [] := (F__law_draw c).bindsN fun _ _ _ _ _ _ us hl => match us, hl with | [_, _], _ => rfl
theorem F__law_instruction (c : Ctx K mg) : FunD K "_law_instruction" "_law_instruction" (defArgs s__law_instruction) (defBody s__law_instruction) (defScope s__law_instruction) [] [] (A__law_instruction K) (fdA K (A__law_instruction K)) := fdA_of (c.says.def_ 2 (d := d__law_instruction) rfl)
theorem b__law_instruction (c : Ctx K mg) : Binds K (fdA K (A__law_instruction K)) ["_law_tape", "_law_lines"] [] := (F__law_instruction c).bindsN fun _ _ _ _ _ _ us hl => match us, hl with | [_, _], _ => rfl
theorem F__law_written (c : Ctx K mg) : FunD K "_law_written" "_law_written" (defArgs s__law_written) (defBody s__law_written) (defScope s__law_written) [] [] (A__law_written K) (fdA K (A__law_written K)) := fdA_of (c.says.def_ 3 (d := d__law_written) rfl)
theorem b__law_written (c : Ctx K mg) : Binds K (fdA K (A__law_written K)) ["_law_tape", "_law_most"] [] := (F__law_written c).bindsN fun _ _ _ _ _ _ us hl => match us, hl with | [_, _], _ => rfl
theorem F__law_shuffled (c : Ctx K mg) : FunD K "_law_shuffled" "_law_shuffled" (defArgs s__law_shuffled) (defBody s__law_shuffled) (defScope s__law_shuffled) [] [] (A__law_shuffled K) (fdA K (A__law_shuffled K)) := fdA_of (c.says.def_ 4 (d := d__law_shuffled) rfl)
theorem b__law_shuffled (c : Ctx K mg) : Binds K (fdA K (A__law_shuffled K)) ["_law_tape", "_law_cells"] [] := (F__law_shuffled c).bindsN fun _ _ _ _ _ _ us hl => match us, hl with | [_, _], _ => rfl
theorem F__law_home (c : Ctx K mg) : FunD K "_law_home" "_law_home" (defArgs s__law_home) (defBody s__law_home) (defScope s__law_home) [] [] (A__law_home K) (fdA K (A__law_home K)) := fdA_of (c.says.def_ 5 (d := d__law_home) rfl)
theorem b__law_home (c : Ctx K mg) : Binds K (fdA K (A__law_home K)) ["_law_tape", "_law_lines", "_law_workers", "_law_cells"] [] := (F__law_home c).bindsN fun _ _ _ _ _ _ us hl => match us, hl with | [_, _, _, _], _ => rfl
theorem F_Numbering___init__ (c : Ctx K mg) : FunD K "__init__" "Numbering.__init__" (defArgs s_Numbering___init__) (defBody s_Numbering___init__) (defScope s_Numbering___init__) [] [] (A_Numbering___init__ K) (fdA K (A_Numbering___init__ K)) := fdA_of (c.says.def_ 6 (d := d_Numbering___init__) rfl)
theorem b_Numbering___init__ (c : Ctx K mg) : Binds K (fdA K (A_Numbering___init__ K)) ["self", "places"] [] := (F_Numbering___init__ c).bindsN fun _ _ _ _ _ _ us hl => match us, hl with | [_, _], _ => rfl
theorem F_Numbering___len__ (c : Ctx K mg) : FunD K "__len__" "Numbering.__len__" (defArgs s_Numbering___len__) (defBody s_Numbering___len__) (defScope s_Numbering___len__) [] [] (A_Numbering___len__ K) (fdA K (A_Numbering___len__ K)) := fdA_of (c.says.def_ 7 (d := d_Numbering___len__) rfl)
theorem b_Numbering___len__ (c : Ctx K mg) : Binds K (fdA K (A_Numbering___len__ K)) ["self"] [] := (F_Numbering___len__ c).bindsN fun _ _ _ _ _ _ us hl => match us, hl with | [_], _ => rfl
theorem F_System___init__ (c : Ctx K mg) : FunD K "__init__" "System.__init__" (defArgs s_System___init__) (defBody s_System___init__) (defScope s_System___init__) [.int 1] [] (A_System___init__ K) (fdA K (A_System___init__ K)) := fdA_of (c.says.def_ 8 (d := d_System___init__) rfl)
theorem bd_System___init___3 (c : Ctx K mg) : ∃ ds, Vals ([.int 1] : List V) ds ∧ Binds K (fdA K (A_System___init__ K)) ["self", "program", "numberings", "capacity"] ds := (F_System___init__ c).binds1 3 0 (by simp) rfl fun _ _ _ _ _ _ _ us its h1 h2 => match us, its, h1, h2 with | [_, _, _], [_], _, _ => ⟨_, rfl, rfl⟩
theorem b0_System___init__ (c : Ctx K mg) : ∃ ds, Vals ([] : List V) ds ∧ Binds K (fdA K (A_System___init__ K)) ["self", "program", "numberings", "capacity"] ds := (F_System___init__ c).binds1 4 1 (by simp) rfl fun _ _ _ _ _ _ _ us its h1 h2 => match us, its, h1, h2 with | [_, _, _, _], [_], _, _ => ⟨_, rfl, rfl⟩
theorem b_System___init__ (c : Ctx K mg) : Binds K (fdA K (A_System___init__ K)) ["self", "program", "numberings", "capacity"] [] := by
  obtain ⟨ds, h1, h2⟩ := b0_System___init__ c
  cases h1
  exact h2
theorem F__line_number (c : Ctx K mg) : FunD K "_line_number" "_line_number" (defArgs s__line_number) (defBody s__line_number) (defScope s__line_number) [] [] (A__line_number K) (fdA K (A__line_number K)) := fdA_of (c.says.def_ 9 (d := d__line_number) rfl)
theorem b__line_number (c : Ctx K mg) : Binds K (fdA K (A__line_number K)) ["word", "lines"] [] := (F__line_number c).bindsN fun _ _ _ _ _ _ us hl => match us, hl with | [_, _], _ => rfl
theorem F__parsed (c : Ctx K mg) : FunD K "_parsed" "_parsed" (defArgs s__parsed) (defBody s__parsed) (defScope s__parsed) [] [] (A__parsed K) (fdA K (A__parsed K)) := fdA_of (c.says.def_ 10 (d := d__parsed) rfl)
theorem b__parsed (c : Ctx K mg) : Binds K (fdA K (A__parsed K)) ["text", "lines"] [] := (F__parsed c).bindsN fun _ _ _ _ _ _ us hl => match us, hl with | [_, _], _ => rfl
theorem F_Program___init__ (c : Ctx K mg) : FunD K "__init__" "Program.__init__" (defArgs s_Program___init__) (defBody s_Program___init__) (defScope s_Program___init__) [] [] (A_Program___init__ K) (fdA K (A_Program___init__ K)) := fdA_of (c.says.def_ 11 (d := d_Program___init__) rfl)
theorem b_Program___init__ (c : Ctx K mg) : Binds K (fdA K (A_Program___init__ K)) ["self", "instructions"] [] := (F_Program___init__ c).bindsN fun _ _ _ _ _ _ us hl => match us, hl with | [_, _], _ => rfl
theorem F__law_made (c : Ctx K mg) : FunD K "_law_made" "_law_made" (defArgs s__law_made) (defBody s__law_made) (defScope s__law_made) [] [] (A__law_made K) (fdA K (A__law_made K)) := fdA_of (c.says.def_ 12 (d := d__law_made) rfl)
theorem b__law_made (c : Ctx K mg) : Binds K (fdA K (A__law_made K)) ["_law_house"] [] := (F__law_made c).bindsN fun _ _ _ _ _ _ us hl => match us, hl with | [_], _ => rfl
theorem F__law_orders (c : Ctx K mg) : FunD K "_law_orders" "_law_orders" (defArgs s__law_orders) (defBody s__law_orders) (defScope s__law_orders) [] [] (A__law_orders K) (fdA K (A__law_orders K)) := fdA_of (c.says.def_ 13 (d := d__law_orders) rfl)
theorem b__law_orders (c : Ctx K mg) : Binds K (fdA K (A__law_orders K)) ["_law_workers"] [] := (F__law_orders c).bindsN fun _ _ _ _ _ _ us hl => match us, hl with | [_], _ => rfl
theorem F__law_exchanged (c : Ctx K mg) : FunD K "_law_exchanged" "_law_exchanged" (defArgs s__law_exchanged) (defBody s__law_exchanged) (defScope s__law_exchanged) [] [] (A__law_exchanged K) (fdA K (A__law_exchanged K)) := fdA_of (c.says.def_ 14 (d := d__law_exchanged) rfl)
theorem b__law_exchanged (c : Ctx K mg) : Binds K (fdA K (A__law_exchanged K)) ["_law_orders_here", "_law_order"] [] := (F__law_exchanged c).bindsN fun _ _ _ _ _ _ us hl => match us, hl with | [_, _], _ => rfl
theorem F__law_renamed (c : Ctx K mg) : FunD K "_law_renamed" "_law_renamed" (defArgs s__law_renamed) (defBody s__law_renamed) (defScope s__law_renamed) [] [] (A__law_renamed K) (fdA K (A__law_renamed K)) := fdA_of (c.says.def_ 15 (d := d__law_renamed) rfl)
theorem b__law_renamed (c : Ctx K mg) : Binds K (fdA K (A__law_renamed K)) ["_law_orders_here", "_law_places"] [] := (F__law_renamed c).bindsN fun _ _ _ _ _ _ us hl => match us, hl with | [_, _], _ => rfl
theorem F__law_symmetries (c : Ctx K mg) : FunD K "_law_symmetries" "_law_symmetries" (defArgs s__law_symmetries) (defBody s__law_symmetries) (defScope s__law_symmetries) [] [] (A__law_symmetries K) (fdA K (A__law_symmetries K)) := fdA_of (c.says.def_ 16 (d := d__law_symmetries) rfl)
theorem b__law_symmetries (c : Ctx K mg) : Binds K (fdA K (A__law_symmetries K)) ["_law_orders_here"] [] := (F__law_symmetries c).bindsN fun _ _ _ _ _ _ us hl => match us, hl with | [_], _ => rfl
theorem F__law_drawn_state (c : Ctx K mg) : FunD K "_law_drawn_state" "_law_drawn_state" (defArgs s__law_drawn_state) (defBody s__law_drawn_state) (defScope s__law_drawn_state) [] [] (A__law_drawn_state K) (fdA K (A__law_drawn_state K)) := fdA_of (c.says.def_ 17 (d := d__law_drawn_state) rfl)
theorem b__law_drawn_state (c : Ctx K mg) : Binds K (fdA K (A__law_drawn_state K)) ["_law_tape", "_law_house"] [] := (F__law_drawn_state c).bindsN fun _ _ _ _ _ _ us hl => match us, hl with | [_, _], _ => rfl
theorem F__law_exchange (c : Ctx K mg) : FunD K "_law_exchange" "_law_exchange" (defArgs s__law_exchange) (defBody s__law_exchange) (defScope s__law_exchange) [] [] (A__law_exchange K) (fdA K (A__law_exchange K)) := fdA_of (c.says.def_ 18 (d := d__law_exchange) rfl)
theorem b__law_exchange (c : Ctx K mg) : Binds K (fdA K (A__law_exchange K)) ["_law_state", "_law_order"] [] := (F__law_exchange c).bindsN fun _ _ _ _ _ _ us hl => match us, hl with | [_, _], _ => rfl
theorem F__law_rename (c : Ctx K mg) : FunD K "_law_rename" "_law_rename" (defArgs s__law_rename) (defBody s__law_rename) (defScope s__law_rename) [] [] (A__law_rename K) (fdA K (A__law_rename K)) := fdA_of (c.says.def_ 19 (d := d__law_rename) rfl)
theorem b__law_rename (c : Ctx K mg) : Binds K (fdA K (A__law_rename K)) ["_law_state", "_law_places"] [] := (F__law_rename c).bindsN fun _ _ _ _ _ _ us hl => match us, hl with | [_, _], _ => rfl
theorem F_every_numbering (c : Ctx K mg) : FunD K "every_numbering" "every_numbering" (defArgs s_every_numbering) (defBody s_every_numbering) (defScope s_every_numbering) [] [] (A_every_numbering K) (fdA K (A_every_numbering K)) := fdA_of (c.says.def_ 20 (d := d_every_numbering) rfl)
theorem b_every_numbering (c : Ctx K mg) : Binds K (fdA K (A_every_numbering K)) ["cells"] [] := (F_every_numbering c).bindsN fun _ _ _ _ _ _ us hl => match us, hl with | [_], _ => rfl
theorem F_Numbering___iter__ (c : Ctx K mg) : FunD K "__iter__" "Numbering.__iter__" (defArgs s_Numbering___iter__) (defBody s_Numbering___iter__) (defScope s_Numbering___iter__) [] [] (A_Numbering___iter__ K) (fdA K (A_Numbering___iter__ K)) := fdA_of (c.says.def_ 21 (d := d_Numbering___iter__) rfl)
theorem b_Numbering___iter__ (c : Ctx K mg) : Binds K (fdA K (A_Numbering___iter__ K)) ["self"] [] := (F_Numbering___iter__ c).bindsN fun _ _ _ _ _ _ us hl => match us, hl with | [_], _ => rfl
theorem F__former (c : Ctx K mg) : FunD K "_former" "_former" (defArgs s__former) (defBody s__former) (defScope s__former) [] [] (A__former K) (fdA K (A__former K)) := fdA_of (c.says.def_ 22 (d := d__former) rfl)
theorem b__former (c : Ctx K mg) : Binds K (fdA K (A__former K)) ["order", "workers"] [] := (F__former c).bindsN fun _ _ _ _ _ _ us hl => match us, hl with | [_, _], _ => rfl
theorem F_System_exchanged (c : Ctx K mg) : FunD K "exchanged" "System.exchanged" (defArgs s_System_exchanged) (defBody s_System_exchanged) (defScope s_System_exchanged) [] [] (A_System_exchanged K) (fdA K (A_System_exchanged K)) := fdA_of (c.says.def_ 23 (d := d_System_exchanged) rfl)
theorem b_System_exchanged (c : Ctx K mg) : Binds K (fdA K (A_System_exchanged K)) ["self", "order"] [] := (F_System_exchanged c).bindsN fun _ _ _ _ _ _ us hl => match us, hl with | [_, _], _ => rfl
theorem F_Numbering___invert__ (c : Ctx K mg) : FunD K "__invert__" "Numbering.__invert__" (defArgs s_Numbering___invert__) (defBody s_Numbering___invert__) (defScope s_Numbering___invert__) [] [] (A_Numbering___invert__ K) (fdA K (A_Numbering___invert__ K)) := fdA_of (c.says.def_ 24 (d := d_Numbering___invert__) rfl)
theorem b_Numbering___invert__ (c : Ctx K mg) : Binds K (fdA K (A_Numbering___invert__ K)) ["self"] [] := (F_Numbering___invert__ c).bindsN fun _ _ _ _ _ _ us hl => match us, hl with | [_], _ => rfl
theorem F_Numbering___mul__ (c : Ctx K mg) : FunD K "__mul__" "Numbering.__mul__" (defArgs s_Numbering___mul__) (defBody s_Numbering___mul__) (defScope s_Numbering___mul__) [] [] (A_Numbering___mul__ K) (fdA K (A_Numbering___mul__ K)) := fdA_of (c.says.def_ 25 (d := d_Numbering___mul__) rfl)
theorem b_Numbering___mul__ (c : Ctx K mg) : Binds K (fdA K (A_Numbering___mul__ K)) ["self", "other"] [] := (F_Numbering___mul__ c).bindsN fun _ _ _ _ _ _ us hl => match us, hl with | [_, _], _ => rfl
theorem F_System_renamed (c : Ctx K mg) : FunD K "renamed" "System.renamed" (defArgs s_System_renamed) (defBody s_System_renamed) (defScope s_System_renamed) [] [] (A_System_renamed K) (fdA K (A_System_renamed K)) := fdA_of (c.says.def_ 26 (d := d_System_renamed) rfl)
theorem b_System_renamed (c : Ctx K mg) : Binds K (fdA K (A_System_renamed K)) ["self", "numbering"] [] := (F_System_renamed c).bindsN fun _ _ _ _ _ _ us hl => match us, hl with | [_, _], _ => rfl
theorem F_exchange (c : Ctx K mg) : FunD K "exchange" "exchange" (defArgs s_exchange) (defBody s_exchange) (defScope s_exchange) [] [] (A_exchange K) (fdA K (A_exchange K)) := fdA_of (c.says.def_ 27 (d := d_exchange) rfl)
theorem b_exchange (c : Ctx K mg) : Binds K (fdA K (A_exchange K)) ["state", "order"] [] := (F_exchange c).bindsN fun _ _ _ _ _ _ us hl => match us, hl with | [_, _], _ => rfl
theorem F_rename (c : Ctx K mg) : FunD K "rename" "rename" (defArgs s_rename) (defBody s_rename) (defScope s_rename) [] [] (A_rename K) (fdA K (A_rename K)) := fdA_of (c.says.def_ 28 (d := d_rename) rfl)
theorem b_rename (c : Ctx K mg) : Binds K (fdA K (A_rename K)) ["state", "numbering"] [] := (F_rename c).bindsN fun _ _ _ _ _ _ us hl => match us, hl with | [_, _], _ => rfl
theorem F_System_form (c : Ctx K mg) : FunD K "form" "System.form" (defArgs s_System_form) (defBody s_System_form) (defScope s_System_form) [] [] (A_System_form K) (fdA K (A_System_form K)) := fdA_of (c.says.def_ 29 (d := d_System_form) rfl)
theorem b_System_form (c : Ctx K mg) : Binds K (fdA K (A_System_form K)) ["self", "state"] [] := (F_System_form c).bindsN fun _ _ _ _ _ _ us hl => match us, hl with | [_, _], _ => rfl
theorem F__law_form (c : Ctx K mg) : FunD K "_law_form" "_law_form" (defArgs s__law_form) (defBody s__law_form) (defScope s__law_form) [] [] (A__law_form K) (fdA K (A__law_form K)) := fdA_of (c.says.def_ 30 (d := d__law_form) rfl)
theorem b__law_form (c : Ctx K mg) : Binds K (fdA K (A__law_form K)) ["_law_orders_here", "_law_state"] [] := (F__law_form c).bindsN fun _ _ _ _ _ _ us hl => match us, hl with | [_, _], _ => rfl
theorem F__law_same (c : Ctx K mg) : FunD K "_law_same" "_law_same" (defArgs s__law_same) (defBody s__law_same) (defScope s__law_same) [] [] (A__law_same K) (fdA K (A__law_same K)) := fdA_of (c.says.def_ 31 (d := d__law_same) rfl)
theorem b__law_same (c : Ctx K mg) : Binds K (fdA K (A__law_same K)) ["_law_actual", "_law_expected"] [] := (F__law_same c).bindsN fun _ _ _ _ _ _ us hl => match us, hl with | [_, _], _ => rfl
theorem F_law (c : Ctx K mg) : FunD K "law" "law" (defArgs s_law) (defBody s_law) (defScope s_law) [] [] (A_law K) (fdA K (A_law K)) := fdA_of (c.says.def_ 32 (d := d_law) rfl)
theorem b_law (c : Ctx K mg) : Binds K (fdA K (A_law K)) ["_law_script"] [] := (F_law c).bindsN fun _ _ _ _ _ _ us hl => match us, hl with | [_], _ => rfl
theorem n_abs (c : Ctx K mg) : mg "abs" = none := c.free (c.says.fact 0 rfl)
theorem n_bool (c : Ctx K mg) : mg "bool" = none := c.free (c.says.fact 1 rfl)
theorem n_enumerate (c : Ctx K mg) : mg "enumerate" = none := c.free (c.says.fact 2 rfl)
theorem n_int (c : Ctx K mg) : mg "int" = none := c.free (c.says.fact 3 rfl)
theorem n_isinstance (c : Ctx K mg) : mg "isinstance" = none := c.free (c.says.fact 4 rfl)
theorem n_iter (c : Ctx K mg) : mg "iter" = none := c.free (c.says.fact 5 rfl)
theorem n_len (c : Ctx K mg) : mg "len" = none := c.free (c.says.fact 6 rfl)
theorem n_list (c : Ctx K mg) : mg "list" = none := c.free (c.says.fact 7 rfl)
theorem n_min (c : Ctx K mg) : mg "min" = none := c.free (c.says.fact 8 rfl)
theorem n_range (c : Ctx K mg) : mg "range" = none := c.free (c.says.fact 9 rfl)
theorem n_sorted (c : Ctx K mg) : mg "sorted" = none := c.free (c.says.fact 10 rfl)
theorem n_str (c : Ctx K mg) : mg "str" = none := c.free (c.says.fact 11 rfl)
theorem n_tuple (c : Ctx K mg) : mg "tuple" = none := c.free (c.says.fact 12 rfl)
theorem g__law_begin (c : Ctx K mg) : mg "_law_begin" = some (.ref (A__law_begin K)) := c.glo (c.says.fact 13 rfl)
theorem g__law_draw (c : Ctx K mg) : mg "_law_draw" = some (.ref (A__law_draw K)) := c.glo (c.says.fact 14 rfl)
theorem g__law_instruction (c : Ctx K mg) : mg "_law_instruction" = some (.ref (A__law_instruction K)) := c.glo (c.says.fact 15 rfl)
theorem g__law_written (c : Ctx K mg) : mg "_law_written" = some (.ref (A__law_written K)) := c.glo (c.says.fact 16 rfl)
theorem g__law_shuffled (c : Ctx K mg) : mg "_law_shuffled" = some (.ref (A__law_shuffled K)) := c.glo (c.says.fact 17 rfl)
theorem g__law_home (c : Ctx K mg) : mg "_law_home" = some (.ref (A__law_home K)) := c.glo (c.says.fact 18 rfl)
theorem g__line_number (c : Ctx K mg) : mg "_line_number" = some (.ref (A__line_number K)) := c.glo (c.says.fact 19 rfl)
theorem g__parsed (c : Ctx K mg) : mg "_parsed" = some (.ref (A__parsed K)) := c.glo (c.says.fact 20 rfl)
theorem g__law_made (c : Ctx K mg) : mg "_law_made" = some (.ref (A__law_made K)) := c.glo (c.says.fact 21 rfl)
theorem g__law_orders (c : Ctx K mg) : mg "_law_orders" = some (.ref (A__law_orders K)) := c.glo (c.says.fact 22 rfl)
theorem g__law_exchanged (c : Ctx K mg) : mg "_law_exchanged" = some (.ref (A__law_exchanged K)) := c.glo (c.says.fact 23 rfl)
theorem g__law_renamed (c : Ctx K mg) : mg "_law_renamed" = some (.ref (A__law_renamed K)) := c.glo (c.says.fact 24 rfl)
theorem g__law_symmetries (c : Ctx K mg) : mg "_law_symmetries" = some (.ref (A__law_symmetries K)) := c.glo (c.says.fact 25 rfl)
theorem g__law_drawn_state (c : Ctx K mg) : mg "_law_drawn_state" = some (.ref (A__law_drawn_state K)) := c.glo (c.says.fact 26 rfl)
theorem g__law_exchange (c : Ctx K mg) : mg "_law_exchange" = some (.ref (A__law_exchange K)) := c.glo (c.says.fact 27 rfl)
theorem g__law_rename (c : Ctx K mg) : mg "_law_rename" = some (.ref (A__law_rename K)) := c.glo (c.says.fact 28 rfl)
theorem g_every_numbering (c : Ctx K mg) : mg "every_numbering" = some (.ref (A_every_numbering K)) := c.glo (c.says.fact 29 rfl)
theorem g__former (c : Ctx K mg) : mg "_former" = some (.ref (A__former K)) := c.glo (c.says.fact 30 rfl)
theorem g_exchange (c : Ctx K mg) : mg "exchange" = some (.ref (A_exchange K)) := c.glo (c.says.fact 31 rfl)
theorem g_rename (c : Ctx K mg) : mg "rename" = some (.ref (A_rename K)) := c.glo (c.says.fact 32 rfl)
theorem g__law_form (c : Ctx K mg) : mg "_law_form" = some (.ref (A__law_form K)) := c.glo (c.says.fact 33 rfl)
theorem g__law_same (c : Ctx K mg) : mg "_law_same" = some (.ref (A__law_same K)) := c.glo (c.says.fact 34 rfl)
theorem g_law (c : Ctx K mg) : mg "law" = some (.ref (A_law K)) := c.glo (c.says.fact 35 rfl)
theorem g_Numbering (c : Ctx K mg) : mg "Numbering" = some (.ref (He.ga K "Numbering")) := c.glo (c.says.fact 36 rfl)
theorem g_Program (c : Ctx K mg) : mg "Program" = some (.ref (He.ga K "Program")) := c.glo (c.says.fact 37 rfl)
theorem g_System (c : Ctx K mg) : mg "System" = some (.ref (He.ga K "System")) := c.glo (c.says.fact 38 rfl)
theorem g_BadNumbering (c : Ctx K mg) : mg "BadNumbering" = some (.ref (He.ga K "BadNumbering")) := c.glo (c.says.fact 39 rfl)
theorem g_BadSize (c : Ctx K mg) : mg "BadSize" = some (.ref (He.ga K "BadSize")) := c.glo (c.says.fact 40 rfl)
theorem g_CONDITIONS (c : Ctx K mg) : mg "CONDITIONS" = some (.ref (He.ga K "CONDITIONS")) := c.glo (c.says.fact 41 rfl)
theorem g_MOVES (c : Ctx K mg) : mg "MOVES" = some (.ref (He.ga K "MOVES")) := c.glo (c.says.fact 42 rfl)
theorem x_BadNumbering (c : Ctx K mg) : XcOk K (He.ga K "BadNumbering") := He.exc_ok (K := K) (x := "BadNumbering") (c.says.fact 43 rfl)
theorem x_BadSize (c : Ctx K mg) : XcOk K (He.ga K "BadSize") := He.exc_ok (K := K) (x := "BadSize") (c.says.fact 44 rfl)
theorem mk_Numbering (c : Ctx K mg) : Mk K (He.ga K "Numbering") (He.ma K (He.ga K "Numbering") "__init__") := He.mkr_ok (c.says.fact 45 rfl)
theorem mk_Program (c : Ctx K mg) : Mk K (He.ga K "Program") (He.ma K (He.ga K "Program") "__init__") := He.mkr_ok (c.says.fact 46 rfl)
theorem mk_System (c : Ctx K mg) : Mk K (He.ga K "System") (He.ma K (He.ga K "System") "__init__") := He.mkr_ok (c.says.fact 47 rfl)
theorem me_System_exchanged (c : Ctx K mg) : Meth K (He.ga K "System") "exchanged" (He.ma K (He.ga K "System") "exchanged") := He.meth_ok (c.says.fact 48 rfl)
theorem me_System_form (c : Ctx K mg) : Meth K (He.ga K "System") "form" (He.ma K (He.ga K "System") "form") := He.meth_ok (c.says.fact 49 rfl)
theorem me_System_renamed (c : Ctx K mg) : Meth K (He.ga K "System") "renamed" (He.ma K (He.ga K "System") "renamed") := He.meth_ok (c.says.fact 50 rfl)
theorem cl_Numbering (c : Ctx K mg) : Cls K (He.ga K "Numbering") := He.cls_ok (c.says.fact 51 rfl)
theorem cl_Program (c : Ctx K mg) : Cls K (He.ga K "Program") := He.cls_ok (c.says.fact 52 rfl)
theorem cl_System (c : Ctx K mg) : Cls K (He.ga K "System") := He.cls_ok (c.says.fact 53 rfl)
theorem na_Numbering_places (c : Ctx K mg) : NoAttr K (He.ga K "Numbering") "places" := He.noat_ok (c.says.fact 54 rfl)
theorem na_Program_instructions (c : Ctx K mg) : NoAttr K (He.ga K "Program") "instructions" := He.noat_ok (c.says.fact 55 rfl)
theorem na_Program_rows (c : Ctx K mg) : NoAttr K (He.ga K "Program") "rows" := He.noat_ok (c.says.fact 56 rfl)
theorem na_System_program (c : Ctx K mg) : NoAttr K (He.ga K "System") "program" := He.noat_ok (c.says.fact 57 rfl)
theorem na_System_numberings (c : Ctx K mg) : NoAttr K (He.ga K "System") "numberings" := He.noat_ok (c.says.fact 58 rfl)
theorem na_System_workers (c : Ctx K mg) : NoAttr K (He.ga K "System") "workers" := He.noat_ok (c.says.fact 59 rfl)
theorem na_System_cells (c : Ctx K mg) : NoAttr K (He.ga K "System") "cells" := He.noat_ok (c.says.fact 60 rfl)
theorem na_System_capacity (c : Ctx K mg) : NoAttr K (He.ga K "System") "capacity" := He.noat_ok (c.says.fact 61 rfl)
theorem cmo_Numbering___invert__ (c : Ctx K mg) : CmO K (He.ga K "Numbering") "__invert__" (He.ma K (He.ga K "Numbering") "__invert__") := cmoB_ok (c.b 0 rfl)
theorem cmo_Numbering___len__ (c : Ctx K mg) : CmO K (He.ga K "Numbering") "__len__" (He.ma K (He.ga K "Numbering") "__len__") := cmoB_ok (c.b 1 rfl)
theorem cr_Numbering (c : Ctx K mg) : ClX.CRead K (He.ga K "Numbering") (.type "type") := crdB_ok (c.b 2 rfl)
theorem cr_Program (c : Ctx K mg) : ClX.CRead K (He.ga K "Program") (.type "type") := crdB_ok (c.b 3 rfl)
theorem ct_CONDITIONS (c : Ctx K mg) : ∀ H, SqT K H (He.ga K "CONDITIONS") [.str "first", .str "empty", .str "mine", .str "other", .str "none", .str "full", .str "enough", .str "behind"] := ctB_ok (c.b 4 rfl)
theorem ct_MOVES (c : Ctx K mg) : ∀ H, SqT K H (He.ga K "MOVES") [.str "take", .str "give", .str "on"] := ctB_ok (c.b 5 rfl)
theorem cv_Numbering_MOST (c : Ctx K mg) : ∃ u, ClX.CVal K (He.ga K "Numbering") (.type "type") "MOST" (.int 12) u := cvlB_ok (c.b 6 rfl)
theorem cv_Program_LONGEST (c : Ctx K mg) : ∃ u, ClX.CVal K (He.ga K "Program") (.type "type") "LONGEST" (.int 24) u := cvlB_ok (c.b 7 rfl)
theorem ito_Numbering (c : Ctx K mg) : ItOw K (He.ga K "Numbering") (He.ma K (He.ga K "Numbering") "__iter__") := itoB_ok (c.b 8 rfl)
theorem op_Numbering___mul__ (c : Ctx K mg) : OpO K (He.ga K "Numbering") "__mul__" (He.ma K (He.ga K "Numbering") "__mul__") := opoB_ok (c.b 9 rfl)
end
local macro_rules | `(tactic| walk_at "tape") => `(tactic| first
  | assumption
  | (refine' Tape.gr0 ?h1 ?h2; (case h2 => assumption); (case h1 => walk_at "tape"))
  | (refine' Tape.gr1 ?h1 ?h2 ?h3; (case h2 => assumption); (case h1 => walk_at "tape"); (case h3 => first | assumption | (refine Ne.symm ?_; assumption) | walk_at "ne" | (refine' Tape.ne ?a1 ?a2; (case a2 => assumption); (case a1 => walk_at "tape")))))
local macro_rules | `(tactic| walk_at "ne") => `(tactic| first
  | (refine' Tape.ne ?h1 ?h2; (case h2 => assumption); (case h1 => walk_at "tape"))
  | (refine' Ne.symm (Tape.ne ?h1 ?h2); (case h2 => assumption); (case h1 => walk_at "tape")))

def sp__law_begin (K : PySem.W.Frag) : Sp := fun vs H Q _ => ∃ (a : Addr) (ns : List Int), vs = [.ref a] ∧ SqL K H a (ns.map V.int) ∧ ns.length ≤ 63 ∧ ∀ t H', H t = none → Gr [] H H' → Tape 0 H' t → Q (.ref t) H'
theorem w_begin {K : PySem.W.Frag} {H : Hp} {Q : VK} {E : XK} {a : Addr} {ns : List Int} (h : SqL K H a (ns.map V.int)) (hl : ns.length ≤ 63) (k : ∀ t H', H t = none → Gr [] H H' → Tape 0 H' t → Q (.ref t) H') : sp__law_begin K [.ref a] H Q E := ⟨a, ns, rfl, h, hl, k⟩
section
variable {P : Program} {w : World} {K : PySem.W.Frag} {mg : Str → Option Value} {base : Heap}
theorem ok0__law_begin (c : Ctx K mg) : FnOk P w K mg base (L2N.CX P w) 1 (A__law_begin K) (fdA K (A__law_begin K)) ["_law_script"]
    (fun vs H Q _ => ∃ (a : Addr) (ns : List Int), vs = [.ref a] ∧ SqL K H a (ns.map V.int) ∧ ∀ t l H1 H', H l = none → Gr [] H H1 → H1 l = some (.lst (ns.map V.int)) → H1 t = none → Gr [] H1 H' → H' t = some (.lst [.ref l, .int 0, .int 0, .int 0]) → Q (.ref t) H') := by
  refine okT (F__law_begin c) sc__law_begin (fun vs H Q E h => ?_) (fun cdv A outer s H vs Q E hr h tk pown => ?_)
  · obtain ⟨_, _, rfl, _⟩ := h; rfl
  · refine ⟨_, (pss_one (ps_ret (pe_lstN (pa_cons (pe_callTy cr_list rfl (n_list c) (by decide +kernel) (pa_cons (pv 0) pa_nil)) (pa_cons pe_int (pa_cons pe_int (pa_cons pe_int pa_nil))))))), ?_⟩
    obtain ⟨a, ns, rfl, hS, k⟩ := h
    walk_at "w"
    refine w_listOf (.inl hS) fun l H1 n1 g1 h1 => ?_
    walk_at "w"
    rename_i t H2 n2 g2 h2
    exact k t l H1 H2 n1 g1 h1 n2 g2 h2
theorem ok__law_begin (c : Ctx K mg) : FnOk P w K mg base (L2N.CX P w) 1 (A__law_begin K) (fdA K (A__law_begin K)) ["_law_script"] (sp__law_begin K) := by
  refine (fnOk_frz (ok0__law_begin c)).imp fun vs H Q E h => ?_
  obtain ⟨a, ns, rfl, hS, hl, k⟩ := h
  refine ⟨a, ns, rfl, hS, fun t l H1 H' n1 g1 h1 n2 g2 h2 => ⟨l, _, g2.get0 h1, fun o => ?_⟩⟩
  have ne : t ≠ l := (ne_of_none h1 n2).symm
  refine k t _ (g1.free0 n2) ((g1.trans0 g2).transN (Gr.frz (g2.get0 h1)) n1) ⟨l, o, ns, 0, 0, 0, ?_, upd_same, hl, by decide, by decide, by decide, by decide⟩
  rw [upd_ne ne]
  exact h2
theorem okp__law_begin (c : Ctx K mg) : FnOk P w K mg base (L2N.CX P w) 1 (A__law_begin K) (fdA K (A__law_begin K)) ["_law_script"] (spM .A K (WT K) (pf__law_begin K)) := (ok__law_begin c).imp fun _ _ _ _ h => from_begin h
end
def sp__law_draw (K : PySem.W.Frag) : Sp := fun vs H Q _ => ∃ (t : Addr) (m : Int) (b : Nat), vs = [.ref t, .int m] ∧ Tape b H t ∧ b < 1000000000 ∧ 0 < m ∧ m < 2 ^ 256 ∧ ∀ (r : Int) H', 0 ≤ r → r < m → Gr [t] H H' → Tape (b + 1) H' t → Q (.int r) H'
theorem w_draw {K : PySem.W.Frag} {H : Hp} {Q : VK} {E : XK} {t : Addr} {m : Int} {b : Nat} (h : Tape b H t) (hb : b < 1000000000) (hm : 0 < m) (hm2 : m < 2 ^ 256) (k : ∀ (r : Int) H', 0 ≤ r → r < m → Gr [t] H H' → Tape (b + 1) H' t → Q (.int r) H') : sp__law_draw K [.ref t, .int m] H Q E := ⟨t, m, b, rfl, h, hb, hm, hm2, k⟩
section
variable {P : Program} {w : World} {K : PySem.W.Frag} {mg : Str → Option Value} {base : Heap}
theorem ok__law_draw (c : Ctx K mg) : FnOk P w K mg base (L2N.CX P w) 1 (A__law_draw K) (fdA K (A__law_draw K)) ["_law_tape", "_law_many"] (sp__law_draw K) := by
  refine okT (F__law_draw c) sc__law_draw (fun vs H Q E h => ?_) (fun cdv A outer s H vs Q E hr h tk pown => ?_)
  · first | (obtain ⟨rfl, _⟩ := h; rfl) | (obtain ⟨_, rfl, _⟩ := h; rfl) | (obtain ⟨_, _, rfl, _⟩ := h; rfl) | (obtain ⟨_, _, _, rfl, _⟩ := h; rfl) | (obtain ⟨_, _, _, _, rfl, _⟩ := h; rfl) | (obtain ⟨_, _, _, _, _, rfl, _⟩ := h; rfl) | (obtain ⟨_, _, _, _, _, _, rfl, _⟩ := h; rfl) | (obtain ⟨_, _, _, _, _, _, _, rfl, _⟩ := h; rfl)
  · skip
    refine ⟨_, (pss_cut (ps_if (PW.pt (pw_and (pt_cmpR op_eq (pe_ix ix_list (pv 0) pe_int (fun _ _ => rfl)) pe_int (nomark _)) (pw_and1 (pt_cmpR op_lt (pe_ix ix_list (pv 0) pe_int (fun _ _ => rfl)) (pe_callB cr_len rfl (n_len c) (by decide +kernel) (pa_cons (pe_ix ix_list (pv 0) pe_int (fun _ _ => rfl)) pa_nil)) (nomark _)))))
    (pss_cons (ps_asg (pe_callB cr_abs rfl (n_abs c) (by decide +kernel) (pa_cons (pe_ix ix_list (pe_ix ix_list (pv 0) pe_int (fun _ _ => rfl)) (pe_ix ix_list (pv 0) pe_int (fun _ _ => rfl)) (fun _ _ => rfl)) pa_nil)) (pg_sub (pv 0) pe_int set_list))
    (pss_one (ps_asg (pe_op op_add (pe_ix ix_list (pv 0) pe_int (fun _ _ => rfl)) pe_int) (pg_sub (pv 0) pe_int set_list))))
    (pss_one (ps_if (pt_cmpR op_eq (pe_ix ix_list (pv 0) pe_int (fun _ _ => rfl)) pe_int (nomark _))
      (pss_cons (ps_asg (pe_op op_add (pe_ix ix_list (pv 0) pe_int (fun _ _ => rfl)) pe_int) (pg_sub (pv 0) pe_int set_list))
      (pss_cons (ps_if (pt_cmpR (op_eqD hr.units) (pe_ix ix_list (pv 0) pe_int (fun _ _ => rfl)) (pe_lstN pa_nil) (nomark _))
        (pss_one (ps_ret pe_int))
        pss_nil)
      (pss_cons (ps_set (i := 2) sc__law_draw.nd rfl (Or.inl rfl) (pe_ix ix_list (pe_ix ix_list (pv 0) pe_int (fun _ _ => rfl)) (pe_op op_mod (pe_callTy cr_int rfl (n_int c) (by decide +kernel) (pa_cons (pe_ix ix_list (pv 0) pe_int (fun _ _ => rfl)) pa_nil)) (pe_callB cr_len rfl (n_len c) (by decide +kernel) (pa_cons (pe_ix ix_list (pv 0) pe_int (fun _ _ => rfl)) pa_nil))) (fun _ _ => rfl)))
      (pss_one (ps_ret (pe_op op_mod (pe_callTy cr_int rfl (n_int c) (by decide +kernel) (pa_cons (pe_op op_add (pe_op op_mul (pv 2) (pe_op op_add (pe_ix ix_list (pv 0) pe_int (fun _ _ => rfl)) pe_int)) (pe_op op_mul (pe_ix ix_list (pv 0) pe_int (fun _ _ => rfl)) (pe_ix ix_list (pv 0) pe_int (fun _ _ => rfl)))) pa_nil)) (pv 1)))))))
      pss_nil)))
  (pss_cons (ps_set (i := 3) sc__law_draw.nd rfl (Or.inl rfl) (pe_op op_mod (pe_callTy cr_int rfl (n_int c) (by decide +kernel) (pa_cons (pe_ix ix_list (pv 0) pe_int (fun _ _ => rfl)) pa_nil)) (pv 1)))
  (pss_cons (ps_asg (pe_op op_fdivW (pe_ix ix_list (pv 0) pe_int (fun _ _ => rfl)) (pv 1)) (pg_sub (pv 0) pe_int set_list))
  (pss_one (ps_ret (pv 3)))))), ?_⟩
    clear tk pown hr
    have h_nc : NumC K := ⟨cl_Numbering c, na_Numbering_places c⟩
    obtain ⟨t, m, b, rfl, ⟨a, o, ns, i, n, k, h1, h2, hlen, hi, hn, hk, hkb⟩, hb, hm, hm2, Qk⟩ := h
    dsimp only [L2.start, N__law_draw, cxOf, Cx.tr, Cx.suite, List.map, List.length, Nat.reduceAdd, Nat.reduceSub, List.replicate, List.cons_append, List.nil_append, List.append_nil]
    have wd : ∀ j : Int, CDivW j m := fun j => wide_div hm (by omega : m.natAbs < 2 ^ 256) (by decide) (by decide)
    refine w_cut (fun σ' H' => ∃ i' n' : Int, σ' = [some (.ref t), some (.int m), none, none] ∧ Gr [t] H H' ∧ 0 ≤ i' ∧ 0 ≤ n' ∧ H' t = some (.lst [.ref a, .int i', .int n', .int k])) ?_ ?_
    · walk_at "w"
      refine w_iteI (fun e0 => ?_) (fun e0 => ?_)
      · walk_at "w"
        refine w_iteP (fun e1 => ?_) (fun e1 => ?_)
        · rw [List.length_map] at e1
          obtain ⟨x, hx, _⟩ := ints_at (ns := ns) hi e1
          walk_at "w"
          refine w_ixL (by walk_at "sql") hx ?_
          walk_at "w"
          refine ⟨i + 1, _, rfl, by walk_at "gr", by omega, ?_, by assumption⟩
          split <;> omega
        · walk_at "w"
          refine w_iteI (fun _ => ?_) (fun e2 => absurd e0 e2)
          walk_at "w"
          refine w_eqD (d := .lst (dInts ns)) (e := .lst (dInts [])) 1 ?_ ?_ (dep_ints ns 0) rfl (by decide) (fun e2 => ?_) (fun e2 => ?_)
          · exact rep_lstI (by walk_at "sql")
          · exact rep_lstI (by walk_at "sql")
          · walk_at "w"
            exact Qk 0 _ (by decide) hm (by walk_at "gr") ⟨a, o, ns, i, n, k + 1, by walk_at "at", by walk_at "at", hlen, hi, hn, by omega, by omega⟩
          · have hl0 : 0 < ns.length := by
              cases ns with
              | nil => exact absurd rfl e2
              | cons x xs => exact Nat.succ_pos _
            have hl1 : (0 : Int) < ((ns.map V.int).length : Nat) := by rw [List.length_map]; omega
            have m0 : 0 ≤ (k + 1) % ((ns.map V.int).length : Int) := Int.emod_nonneg _ (by omega)
            have m1 : (k + 1) % ((ns.map V.int).length : Int) < ns.length := by
              have z := Int.emod_lt_of_pos (k + 1) hl1
              rw [List.length_map] at z ⊢
              exact z
            obtain ⟨x, hx, _⟩ := ints_at (ns := ns) m0 m1
            walk_at "w"
            refine w_rI hl1 ?_
            walk_at "w"
            refine w_ixL (by walk_at "sql") hx ?_
            walk_at "w"
            refine w_rI (.inr ⟨by omega, by omega⟩) ?_
            walk_at "w"
            refine w_rI (.inr ⟨by omega, by omega⟩) ?_
            walk_at "w"
            refine w_rI hm ?_
            exact Qk _ _ (Int.emod_nonneg _ (by omega)) (Int.emod_lt_of_pos _ hm) (by walk_at "gr") ⟨a, o, ns, i, n, k + 1, by walk_at "at", by walk_at "at", hlen, hi, hn, by omega, by omega⟩
      · walk_at "w"
        refine w_iteI (fun e1 => absurd e1 e0) (fun _ => ?_)
        walk_at "w"
        exact ⟨i, n, rfl, by walk_at "gr", hi, hn, h1⟩
    · rintro σ' H' ⟨i', n', rfl, g, hi', hn', ht⟩
      walk_at "w"
      refine w_rI hm ?_
      walk_at "w"
      refine w_rI (wd _) ?_
      walk_at "w"
      exact Qk _ _ (Int.emod_nonneg _ (by omega)) (Int.emod_lt_of_pos _ hm) (by walk_at "gr") ⟨a, o, ns, i', _, k, by walk_at "at", by walk_at "at", hlen, hi', Int.ediv_nonneg hn' (by omega), hk, by omega⟩
theorem okp__law_draw (c : Ctx K mg) : FnOk P w K mg base (L2N.CX P w) 1 (A__law_draw K) (fdA K (A__law_draw K)) ["_law_tape", "_law_many"] (spM .A K (WT K) (pf__law_draw K)) := (ok__law_draw c).imp fun _ _ _ _ h => from_draw h
end
def pf__law_instruction (K : PySem.W.Frag) : PSp (WT K) := fun ω ds Q _ => ∃ (t : Addr) (b L : Nat), ω = TS.tape t b ∧ ds = [.adr t, .int L] ∧ b < 100000000 ∧ 1 ≤ L ∧ L ≤ 24 ∧ ∀ (b' : Nat) (x : Str), b' ≤ b + 3 → Ins L x → Q (TS.tape t b') (.str x)
section
variable {P : Program} {w : World} {K : PySem.W.Frag} {mg : Str → Option Value} {base : Heap}
theorem ok__law_instruction (c : Ctx K mg) : FnOk P w K mg base (L2N.CX P w) 2 (A__law_instruction K) (fdA K (A__law_instruction K)) ["_law_tape", "_law_lines"] (spM .A K (WT K) (pf__law_instruction K)) := by
  refine okQ (F__law_instruction c) sc__law_instruction (fun ω ds Q E h => ?_) (fun cdv A outer s0 H E hr tk pown => (qss_cons (qs_set (i := 2) sc__law_instruction.nd rfl (Or.inl rfl) (qe_lst (qa_cons qe_str (qa_cons qe_str (qa_cons qe_str (qa_cons qe_str (qa_cons qe_str (qa_cons qe_str (qa_cons qe_str (qa_cons qe_str qa_nil))))))))))
  (qss_cons (qs_set (i := 3) sc__law_instruction.nd rfl (Or.inl rfl) (qe_call (okp__law_draw (P := P) c) (hr.mono (by decide)) rfl (g__law_draw c) (F__law_draw c).kp (b__law_draw c) (fun σ => L2N.passAt tk σ) (qa_cons (qe_va (pv 0)) (qa_cons qe_int qa_nil))))
  (qss_cons (qs_if (qb_cmp op_lt opI0_bl (qe_va (pv 3)) qe_int (nomark _))
    (qss_one (qs_ret (qe_ix ix_list ixLP (qe_lst (qa_cons qe_str (qa_cons qe_str (qa_cons qe_str (qa_cons qe_str (qa_cons qe_str (qa_cons qe_str (qa_cons qe_str (qa_cons qe_str qa_nil))))))))) (qe_va (pv 3)) (fun _ _ => rfl))))
    qss_nil)
  (qss_cons (qs_if (qb_cmp op_eq opEqP (qe_va (pv 3)) qe_int (nomark _))
    (qss_one (qs_ret (qe_op op_add_str opAddSP qe_str (qe_cT cr_strI strIP rfl (n_str c) (by decide +kernel) (qa_cons (qe_call (okp__law_draw (P := P) c) (hr.mono (by decide)) rfl (g__law_draw c) (F__law_draw c).kp (b__law_draw c) (fun σ => L2N.passAt tk σ) (qa_cons (qe_va (pv 0)) (qa_cons (qe_va (pv 1)) qa_nil))) qa_nil)))))
    qss_nil)
  (qss_cons (qs_set (i := 4) sc__law_instruction.nd rfl (Or.inl rfl) (qe_ix ix_list ixLP (qe_va (pv 2)) (qe_call (okp__law_draw (P := P) c) (hr.mono (by decide)) rfl (g__law_draw c) (F__law_draw c).kp (b__law_draw c) (fun σ => L2N.passAt tk σ) (qa_cons (qe_va (pv 0)) (qa_cons qe_int qa_nil))) (fun _ _ => rfl)))
  (qss_cons (qs_if (qb_cmp op_eq opEqP (qe_va (pv 3)) qe_int (nomark _))
    (qss_one (qs_ret (qe_op op_add_str opAddSP qe_str (qe_va (pv 4)))))
    qss_nil)
  (qss_one (qs_ret (qe_op op_add_str opAddSP (qe_op op_add_str opAddSP (qe_op op_add_str opAddSP (qe_ix ix_list ixLP (qe_lst (qa_cons qe_str (qa_cons qe_str (qa_cons qe_str qa_nil)))) (qe_op op_sub opI0_int (qe_va (pv 3)) qe_int) (fun _ _ => rfl)) (qe_va (pv 4))) qe_str) (qe_cT cr_strI strIP rfl (n_str c) (by decide +kernel) (qa_cons (qe_call (okp__law_draw (P := P) c) (hr.mono (by decide)) rfl (g__law_draw c) (F__law_draw c).kp (b__law_draw c) (fun σ => L2N.passAt tk σ) (qa_cons (qe_va (pv 0)) (qa_cons (qe_va (pv 1)) qa_nil))) qa_nil)))))))))))) (fun ω ds Q E h => ?_)
  · first | (obtain ⟨rfl, _⟩ := h; rfl) | (obtain ⟨_, rfl, _⟩ := h; rfl) | (obtain ⟨_, _, rfl, _⟩ := h; rfl) | (obtain ⟨_, _, _, rfl, _⟩ := h; rfl) | (obtain ⟨_, _, _, _, rfl, _⟩ := h; rfl) | (obtain ⟨_, _, _, _, _, rfl, _⟩ := h; rfl) | (obtain ⟨_, _, _, _, _, _, rfl, _⟩ := h; rfl) | (obtain ⟨_, _, _, _, _, _, _, rfl, _⟩ := h; rfl)
  · skip
    obtain ⟨t, b, L, rfl, rfl, hb, l1, l2, Qk⟩ := h
    walk_at "v"
    refine v_draw (by omega) (by decide) (by decide) fun k k0 k1 => ?_
    walk_at "v"
    refine w_iteP (fun e1 => ?_) (fun e1 => ?_)
    · walk_at "v"
      obtain ⟨y, hy⟩ : ∃ y, plainW[k.toNat]? = some y := ⟨_, List.getElem?_eq_getElem (by show k.toNat < 8; omega)⟩
      have ek : ((k.toNat : Nat) : Int) = k := by omega
      have ha : atI (dStrs plainW) k = some (.str y) := by rw [← ek]; exact atI_strs hy
      refine v_ixL ha ?_
      walk_at "v"
      exact Qk _ _ (by omega) (ins_plain (List.mem_of_getElem? hy))
    · walk_at "v"
      refine w_iteP (fun e2 => ?_) (fun e2 => ?_)
      · walk_at "v"
        refine v_draw (by omega) (by omega) (by omega) fun n n0 n1 => ?_
        walk_at "v"
        obtain ⟨m, rfl⟩ : ∃ m : Nat, n = m := ⟨n.toNat, by omega⟩
        refine v_strI (by have : m.log2 ≤ m := Nat.log2_le_self m; show m.log2 < 1920; omega) ?_
        have hi := ins_go (L := L) (n := m) (by omega) l2
        refine v_addS (by have := hi.1; rw [Str.length_append] at this; rw [sizeLine_eq]; exact Nat.le_trans this (by decide)) ?_
        walk_at "v"
        exact Qk _ _ (by omega) hi
      · walk_at "v"
        refine v_draw (by omega) (by decide) (by decide) fun n n0 n1 => ?_
        walk_at "v"
        obtain ⟨cd, hc⟩ : ∃ y, condsW[n.toNat]? = some y := ⟨_, List.getElem?_eq_getElem (by show n.toNat < 8; omega)⟩
        have en : ((n.toNat : Nat) : Int) = n := by omega
        have ha : atI (dStrs condsW) n = some (.str cd) := by rw [← en]; exact atI_strs hc
        have hm := List.mem_of_getElem? hc
        refine v_ixL ha ?_
        walk_at "v"
        refine w_iteP (fun e3 => ?_) (fun e3 => ?_)
        · walk_at "v"
          have hi := ins_wait (L := L) hm
          refine v_addS (by have := hi.1; rw [Str.length_append] at this; rw [sizeLine_eq]; exact Nat.le_trans this (by decide)) ?_
          walk_at "v"
          exact Qk _ _ (by omega) hi
        · walk_at "v"
          have key : ∃ w : Str, atI (dStrs ["if ", "unless ", "if "]) (k - 10) = some (.str w) ∧ ∀ m : Nat, m < L → Ins L (w ++ cd ++ " " ++ nS m) := by
            have : k = 10 ∨ k = 11 ∨ k = 12 := by omega
            rcases this with rfl | rfl | rfl
            · exact ⟨"if ", rfl, fun m hm' => ins_if hm' l2 hm⟩
            · exact ⟨"unless ", rfl, fun m hm' => ins_unless hm' l2 hm⟩
            · exact ⟨"if ", rfl, fun m hm' => ins_if hm' l2 hm⟩
          obtain ⟨wd, hw, hin⟩ := key
          refine v_ixL hw ?_
          walk_at "v"
          have h0 := (hin 0 (by omega)).1
          simp only [Str.length_append] at h0
          refine v_addS (by rw [sizeLine_eq]; omega) ?_
          walk_at "v"
          refine v_addS (by rw [Str.length_append, sizeLine_eq]; omega) ?_
          walk_at "v"
          refine v_draw (by omega) (by omega) (by omega) fun q q0 q1 => ?_
          walk_at "v"
          obtain ⟨m, rfl⟩ : ∃ m : Nat, q = m := ⟨q.toNat, by omega⟩
          refine v_strI (by have : m.log2 ≤ m := Nat.log2_le_self m; show m.log2 < 1920; omega) ?_
          have hi := hin m (by omega)
          refine v_addS (by have := hi.1; rw [Str.length_append] at this; rw [sizeLine_eq]; exact Nat.le_trans this (by decide)) ?_
          walk_at "v"
          exact Qk _ _ (by omega) hi
end
def WrittenW (L : Nat) (ts : List Str) : Prop := ts.length = L ∧ ts[0]? = some ("rest" : Str) ∧ ∀ t ∈ ts, Ins L t
def pf__law_written (K : PySem.W.Frag) : PSp (WT K) := fun ω ds Q _ => ∃ (t : Addr) (b M : Nat), ω = TS.tape t b ∧ ds = [.adr t, .int M] ∧ b < 10000000 ∧ 1 ≤ M ∧ M ≤ 24 ∧ ∀ (b' L : Nat) (ts : List Str), b' ≤ b + 80 → 1 ≤ L → L ≤ M → WrittenW L ts → Q (TS.tape t b') (.lst (dStrs ts))
section
variable {P : Program} {w : World} {K : PySem.W.Frag} {mg : Str → Option Value} {base : Heap}
theorem ok__law_written (c : Ctx K mg) : FnOk P w K mg base (L2N.CX P w) 3 (A__law_written K) (fdA K (A__law_written K)) ["_law_tape", "_law_most"] (spM .F K (WT K) (pf__law_written K)) := by
  refine okQ (F__law_written c) sc__law_written (fun ω ds Q E h => ?_) (fun cdv A outer s0 H E hr tk pown => (qss_cons (qs_set (i := 2) sc__law_written.nd rfl (Or.inr rfl) (qe_op op_add opI0_int qe_int (qe_call (okp__law_draw (P := P) c) (hr.mono (by decide)) rfl (g__law_draw c) (F__law_draw c).kp (b__law_draw c) (fun σ => L2N.passAt tk σ) (qa_cons (qe_va (pv 0)) (qa_cons (qe_va (pv 1)) qa_nil)))))
  (qss_one (qs_retF (qe_op op_catR opCatP (qe_lst (qa_cons qe_str qa_nil)) (qe_lc (own := [("_law_k", 3)]) rfl sc__law_written.nd (qi_rg1 rfl (n_range c) (qe_op op_sub opI0_int (qe_va (pv 2)) qe_int)) (blkOk_by (N := N__law_written) (sc := defScope s__law_written) (by decide +kernel)) (fun _ _ _ _ _ => (qg_name (i := 3) sc__law_written.nd rfl (Or.inl rfl))) (fun _ _ _ _ _ => qts_nil) (fun _ _ _ _ _ => (qe_call (ok__law_instruction (P := P) c) (hr.mono (by decide)) rfl (g__law_instruction c) (F__law_instruction c).kp (b__law_instruction c) (fun _ => passAt0 _) (qa_cons (qe_va (pv 0)) (qa_cons (qe_va (pv 2)) qa_nil)))))))))) (fun ω ds Q E h => ?_)
  · first | (obtain ⟨rfl, _⟩ := h; rfl) | (obtain ⟨_, rfl, _⟩ := h; rfl) | (obtain ⟨_, _, rfl, _⟩ := h; rfl) | (obtain ⟨_, _, _, rfl, _⟩ := h; rfl) | (obtain ⟨_, _, _, _, rfl, _⟩ := h; rfl) | (obtain ⟨_, _, _, _, _, rfl, _⟩ := h; rfl) | (obtain ⟨_, _, _, _, _, _, rfl, _⟩ := h; rfl) | (obtain ⟨_, _, _, _, _, _, _, rfl, _⟩ := h; rfl)
  · skip
    obtain ⟨t, b, M, rfl, rfl, hb, l1, l2, Qk⟩ := h
    walk_at "v"
    refine v_draw (by omega) (by omega) (by omega) fun r r0 r1 => ?_
    walk_at "v"
    obtain ⟨L, eL⟩ : ∃ L : Nat, 1 + r = L := ⟨(1 + r).toNat, by omega⟩
    rw [eL]
    have e1 : (L : Int) - 1 = ((L - 1 : Nat) : Int) := by omega
    rw [e1, rgI_rg]
    refine v_kLcW (fun i ω acc => ∃ (b' : Nat) (zs : List Str), b' ≤ b + 1 + 3 * i ∧ ω = TS.tape t b' ∧ acc = dStrs zs ∧ zs.length = i ∧ ∀ z ∈ zs, Ins L z) (by rw [length_dInts, length_rg]; omega) ⟨b + 1, [], by omega, rfl, rfl, rfl, fun _ z => by cases z⟩ rfl (fun i d ω acc hd ⟨b', zs, h0, e1, e2, e3, e4⟩ _ => ?_) (fun ω acc ⟨b', zs, h0, e1, e2, e3, e4⟩ => ?_)
    · subst e1 e2
      have hi : i < L - 1 := by
        have z := (List.getElem?_eq_some_iff.mp hd).1
        rw [length_dInts, length_rg] at z
        exact z
      walk_at "v"
      refine ⟨rfl, ?_⟩
      walk_at "v"
      refine ⟨t, b', L, rfl, rfl, by omega, by omega, by omega, fun b2 x hb2 hx => ?_⟩
      exact ⟨b2, zs ++ [x], by omega, rfl, by rw [dStrs_one, dStrs_append], by rw [List.length_append, e3] <;> rfl, fun z hz => by
        rcases List.mem_append.mp hz with q | q
        · exact e4 z q
        · rw [List.mem_singleton.mp q]; exact hx⟩
    subst e1 e2
    rw [length_dInts, length_rg] at e3 h0
    walk_at "v"
    refine v_catL (by rw [length_dStrs]; show 1 + zs.length ≤ _; omega) ?_
    walk_at "v"
    rw [dStrs_one, dStrs_append]
    refine Qk b' L _ (by omega) (by omega) (by omega) ⟨?_, rfl, fun z hz => ?_⟩
    · rw [List.length_append, e3]; show 1 + (L - 1) = L; omega
    · rcases List.mem_append.mp hz with q | q
      · rw [List.mem_singleton.mp q]; exact ins_plain (by decide)
      · exact e4 z q
end
def sp__law_shuffled (K : PySem.W.Frag) : Sp := fun vs H Q _ => ∃ (t : Addr) (m b : Nat), vs = [.ref t, .int m] ∧ Tape b H t ∧ b < 100000000 ∧ 1 ≤ m ∧ m ≤ 12 ∧ ∀ l ps H', H l = none → Gr [t] H H' → H' l = some (.lst (ps.map V.int)) → IsNum ps → ps.length = m → Tape (b + 12) H' t → Q (.ref l) H'
theorem w_shuffled {K : PySem.W.Frag} {H : Hp} {Q : VK} {E : XK} {t : Addr} {m b : Nat} (h : Tape b H t) (hb : b < 100000000) (m1 : 1 ≤ m) (m2 : m ≤ 12) (k : ∀ l ps H', H l = none → Gr [t] H H' → H' l = some (.lst (ps.map V.int)) → IsNum ps → ps.length = m → Tape (b + 12) H' t → Q (.ref l) H') : sp__law_shuffled K [.ref t, .int m] H Q E := ⟨t, m, b, rfl, h, hb, m1, m2, k⟩
section
variable {P : Program} {w : World} {K : PySem.W.Frag} {mg : Str → Option Value} {base : Heap}
theorem ok__law_shuffled (c : Ctx K mg) : FnOk P w K mg base (L2N.CX P w) 2 (A__law_shuffled K) (fdA K (A__law_shuffled K)) ["_law_tape", "_law_cells"] (sp__law_shuffled K) := by
  refine okT (F__law_shuffled c) sc__law_shuffled (fun vs H Q E h => ?_) (fun cdv A outer s H vs Q E hr h tk pown => ?_)
  · first | (obtain ⟨rfl, _⟩ := h; rfl) | (obtain ⟨_, rfl, _⟩ := h; rfl) | (obtain ⟨_, _, rfl, _⟩ := h; rfl) | (obtain ⟨_, _, _, rfl, _⟩ := h; rfl) | (obtain ⟨_, _, _, _, rfl, _⟩ := h; rfl) | (obtain ⟨_, _, _, _, _, rfl, _⟩ := h; rfl) | (obtain ⟨_, _, _, _, _, _, rfl, _⟩ := h; rfl) | (obtain ⟨_, _, _, _, _, _, _, rfl, _⟩ := h; rfl)
  · skip
    refine ⟨_, (pss_cons (ps_set (i := 2) sc__law_shuffled.nd rfl (Or.inl rfl) (pe_listRg rfl rfl (n_list c) (prg_1 rfl (n_range c) (pv 1))))
  (pss_cons (ps_set (i := 3) sc__law_shuffled.nd rfl (Or.inl rfl) (pe_lstN pa_nil))
  (pss_cons (ps_for pown rfl (pi_range1 rfl (n_range c) (pa_cons (pv 1) pa_nil)) (pg_name (i := 4) sc__law_shuffled.nd rfl (Or.inl rfl))
    (pss_one (ps_expr (pe_bm PySem.F.plainAttrs_list PySem.F.slot_list_append PySem.F.type_list_append mt_append (pv 3) (pa_cons (pe_bm PySem.F.plainAttrs_list PySem.F.slot_list_pop PySem.F.type_list_pop mt_popAt (pv 2) (pa_cons (pe_callS (ok__law_draw (P := P) c) (hr.mono (by decide)) rfl (g__law_draw c) (F__law_draw c).kp (b__law_draw c) (fun σ => L2N.passAt tk σ) (pa_cons (pv 0) (pa_cons (pe_callB cr_len rfl (n_len c) (by decide +kernel) (pa_cons (pv 2) pa_nil)) pa_nil))) pa_nil)) pa_nil)))))
  (pss_one (ps_ret (pv 3)))))), ?_⟩
    clear tk pown hr
    have h_nc : NumC K := ⟨cl_Numbering c, na_Numbering_places c⟩
    obtain ⟨t, m, b, rfl, ht, hb, m1, m2, Qk⟩ := h
    dsimp only [L2.start, N__law_shuffled, cxOf, Cx.tr, Cx.suite, List.map, List.length, Nat.reduceAdd, Nat.reduceSub, List.replicate, List.cons_append, List.nil_append, List.append_nil]
    walk_at "w"
    refine w_kLstRg (by omega) fun q H1 n1 g1 h1 => ?_
    walk_at "w"
    rename_i l H2 n2 g2 h2
    refine w_rRng1N (by omega) ?_
    have nl : H l = none := g1.free0 n2
    have qt : t ≠ q := ht.ne n1
    have lt : t ≠ l := ht.ne nl
    have ql : q ≠ l := ne_of_none h1 n2
    refine f_rng (fun i σ' H' => ∃ (acc left : List Int) (o : Option V), σ' = [some (.ref t), some (.int m), some (.ref q), some (.ref l), o] ∧ Gr [t] H H' ∧ H' q = some (.lst (left.map V.int)) ∧ H' l = some (.lst (acc.map V.int)) ∧ acc.length = i ∧ (left ++ acc).Perm (rg m) ∧ Tape (b + i) H' t) ⟨[], rg m, _, rfl, (g1.trans0 g2).weak (fun a ha => ?_), g2.get0 h1, h2, rfl, by rw [List.append_nil], (ht.gr0 g1).gr0 g2⟩ ?_ ?_
    · have e : a = t := by simpa using ha
      subst e
      obtain ⟨_, h⟩ := ht.at
      exact ⟨_, h, rfl⟩
    · rintro i σ' H3 hi ⟨acc, left, o, rfl, g3, hq, hl, ha, hp, ht3⟩
      have ll : left.length = m - i := by
        have e := hp.length_eq
        rw [List.length_append, length_rg] at e
        omega
      walk_at "w"
      rw [List.length_map, ll]
      refine w_draw ht3 (by omega) (by omega) (by omega) fun r H4 r0 r1 g4 ht4 => ?_
      walk_at "w"
      obtain ⟨v, hv⟩ : ∃ v, left[r.toNat]? = some v := ⟨_, List.getElem?_eq_getElem (by omega)⟩
      refine w_popAt (p := q) (xs := left.map V.int) (v := .int v) (n := r.toNat) (by walk_at "at") r0 (by omega) rfl (by rw [List.getElem?_map, hv] <;> rfl) fun H5 g5 h5 => ?_
      walk_at "w"
      refine w_app (p := l) (xs := acc.map V.int) (by walk_at "at") (by rw [List.length_map]; exact smallLt (by omega)) fun H6 g6 h6 => ?_
      walk_at "w"
      refine ⟨acc ++ [v], left.eraseIdx r.toNat, _, rfl, ?_, ?_, by rw [h6, List.map_append] <;> rfl, by rw [List.length_append, ha] <;> rfl, ?_, ?_⟩
      · exact ((g3.trans g4 (sub1 (.inl (by simp)))).trans g5 (sub1 (.inr n1))).trans g6 (sub1 (.inr nl))
      · have z : H6 q = some (.lst ((left.map V.int).eraseIdx r.toNat)) := by walk_at "at"
        rw [z]
        congr 2
        exact eraseIdx_mapL _ _ _
      · have z := eraseIdx_permL hv
        refine .trans ?_ hp
        rw [← List.append_assoc]
        refine (List.perm_append_comm (l₁ := _ ++ acc) (l₂ := [v])).trans ?_
        rw [← List.append_assoc]
        exact z.append_right acc
      · have z : Tape (b + i + 1) H6 t := by walk_at "tape"
        exact z
    · rintro σ' H3 ⟨acc, left, o, rfl, g3, hq, hl, ha, hp, ht3⟩
      have e : left = [] := by
        have e := hp.length_eq
        rw [List.length_append, length_rg] at e
        exact List.eq_nil_of_length_eq_zero (by omega)
      subst e
      walk_at "w"
      refine Qk l acc H3 nl g3 hl ⟨by omega, by omega, by rw [ha]; exact hp⟩ ha (ht3.mono (by omega))
theorem okp__law_shuffled (c : Ctx K mg) : FnOk P w K mg base (L2N.CX P w) 2 (A__law_shuffled K) (fdA K (A__law_shuffled K)) ["_law_tape", "_law_cells"] (spM .F K (WT K) (pf__law_shuffled K)) := (ok__law_shuffled c).imp fun _ _ _ _ h => from_shuffled h
end
def pf__law_home (K : PySem.W.Frag) : PSp (WT K) := fun ω ds Q _ => ∃ (t : Addr) (b L W n : Nat), ω = TS.tape t b ∧ ds = [.adr t, .int L, .int W, .int n] ∧ b < 1000000 ∧ 1 ≤ L ∧ L ≤ 24 ∧ 1 ≤ W ∧ W ≤ 6 ∧ 1 ≤ n ∧ n ≤ 12 ∧
  ∀ (b' : Nat) (y : Sy), b' ≤ b + 200 → y.ok → y.ks.length ≤ L → y.os.length ≤ W → y.n ≤ n → Q (TS.tape t b') (houseD y)
theorem v_home {K : PySem.W.Frag} {t : Addr} {b L W n : Nat} {Q : TS → D → Prop} {E : TS → Exn → Prop} (hb : b < 1000000) (h1 : 1 ≤ L ∧ L ≤ 24) (h2 : 1 ≤ W ∧ W ≤ 6) (h3 : 1 ≤ n ∧ n ≤ 12) (h : ∀ (b' : Nat) (y : Sy), b' ≤ b + 200 → y.ok → y.ks.length ≤ L → y.os.length ≤ W → y.n ≤ n → Q (TS.tape t b') (houseD y)) : pf__law_home K (TS.tape t b) [.adr t, .int L, .int W, .int n] Q E := ⟨t, b, L, W, n, rfl, rfl, hb, h1.1, h1.2, h2.1, h2.2, h3.1, h3.2, h⟩
section
variable {P : Program} {w : World} {K : PySem.W.Frag} {mg : Str → Option Value} {base : Heap}
theorem ok__law_home (c : Ctx K mg) : FnOk P w K mg base (L2N.CX P w) 4 (A__law_home K) (fdA K (A__law_home K)) ["_law_tape", "_law_lines", "_law_workers", "_law_cells"] (spM .F K (WT K) (pf__law_home K)) := by
  refine okQ (F__law_home c) sc__law_home (fun ω ds Q E h => ?_) (fun cdv A outer s0 H E hr tk pown => (qss_cons (qs_set (i := 4) sc__law_home.nd rfl (Or.inl rfl) (qe_call (ok__law_written (P := P) c) (hr.mono (by decide)) rfl (g__law_written c) (F__law_written c).kp (b__law_written c) (fun σ => L2N.passAt tk σ) (qa_cons (qe_va (pv 0)) (qa_cons (qe_va (pv 1)) qa_nil))))
  (qss_cons (qs_set (i := 2) sc__law_home.nd rfl (Or.inl rfl) (qe_op op_add opI0_int qe_int (qe_call (okp__law_draw (P := P) c) (hr.mono (by decide)) rfl (g__law_draw c) (F__law_draw c).kp (b__law_draw c) (fun σ => L2N.passAt tk σ) (qa_cons (qe_va (pv 0)) (qa_cons (qe_va (pv 2)) qa_nil)))))
  (qss_cons (qs_set (i := 3) sc__law_home.nd rfl (Or.inr rfl) (qe_op op_add opI0_int qe_int (qe_call (okp__law_draw (P := P) c) (hr.mono (by decide)) rfl (g__law_draw c) (F__law_draw c).kp (b__law_draw c) (fun σ => L2N.passAt tk σ) (qa_cons (qe_va (pv 0)) (qa_cons (qe_va (pv 3)) qa_nil)))))
  (qss_cons (qs_setLc (i := 5) (own := [("_law_k", 6)]) rfl sc__law_home.nd rfl rfl (sw_true rfl rfl rfl (by decide +kernel)) (qi_rg1 rfl (n_range c) (qe_va (pv 2))) (blkOk_by (N := N__law_home) (sc := defScope s__law_home) (by decide +kernel)) (fun _ _ _ _ _ => (qg_name (i := 6) sc__law_home.nd rfl (Or.inl rfl))) (fun _ _ _ _ _ => qts_nil) (fun _ _ _ _ _ => (qe_FA (qe_call (okp__law_shuffled (P := P) c) (hr.mono (by decide)) rfl (g__law_shuffled c) (F__law_shuffled c).kp (b__law_shuffled c) (fun _ => passAt0 _) (qa_cons (qe_va (pv 0)) (qa_cons (qe_va (pv 3)) qa_nil))))))
  (qss_one (qs_retF (qe_lst (qa_cons (qe_va (pv 4)) (qa_cons (qe_va (pv 5)) (qa_cons (qe_op op_add opI0_int qe_int (qe_call (okp__law_draw (P := P) c) (hr.mono (by decide)) rfl (g__law_draw c) (F__law_draw c).kp (b__law_draw c) (fun σ => L2N.passAt tk σ) (qa_cons (qe_va (pv 0)) (qa_cons qe_int qa_nil)))) qa_nil))))))))))) (fun ω ds Q E h => ?_)
  · first | (obtain ⟨rfl, _⟩ := h; rfl) | (obtain ⟨_, rfl, _⟩ := h; rfl) | (obtain ⟨_, _, rfl, _⟩ := h; rfl) | (obtain ⟨_, _, _, rfl, _⟩ := h; rfl) | (obtain ⟨_, _, _, _, rfl, _⟩ := h; rfl) | (obtain ⟨_, _, _, _, _, rfl, _⟩ := h; rfl) | (obtain ⟨_, _, _, _, _, _, rfl, _⟩ := h; rfl) | (obtain ⟨_, _, _, _, _, _, _, rfl, _⟩ := h; rfl)
  · skip
    obtain ⟨t, b, Lm, Wm, nm, rfl, rfl, hb, l1, l2, w1, w2, n1, n2, Qk⟩ := h
    walk_at "v"
    refine ⟨t, b, Lm, rfl, rfl, by omega, by omega, by omega, fun b2 L ts hb2 hL1 hL2 hw => ?_⟩
    obtain ⟨hw1, hw2, hw3⟩ := hw
    subst hw1
    obtain ⟨ks, rfl, hks⟩ := written_progC ⟨hL1, by omega, hw2, hw3⟩
    rw [List.length_map] at hL1 hL2
    walk_at "v"
    refine v_draw (by omega) (by omega) (by omega) fun r r0 r1 => ?_
    walk_at "v"
    obtain ⟨W, eW⟩ : ∃ W : Nat, 1 + r = W := ⟨(1 + r).toNat, by omega⟩
    rw [eW]
    refine v_draw (by omega) (by omega) (by omega) fun r2 r20 r21 => ?_
    walk_at "v"
    obtain ⟨n, en⟩ : ∃ n : Nat, 1 + r2 = n := ⟨(1 + r2).toNat, by omega⟩
    rw [en]
    rw [rgI_rg]
    refine v_kLcW (fun i ω acc => ∃ os : List (List Int), ω = TS.tape t (b2 + 2 + 12 * i) ∧ acc = os.map (fun o => D.lst (dInts o)) ∧ os.length = i ∧ ∀ o ∈ os, IsNum o ∧ o.length = n) (by rw [length_dInts, length_rg]; omega) ⟨[], rfl, rfl, rfl, fun _ z => by cases z⟩ rfl (fun i d ω acc hd ⟨os, e1, e2, e3, e4⟩ _ => ?_) (fun ω acc ⟨os, e1, e2, e3, e4⟩ => ?_)
    · subst e1 e2
      have hi : i < W := by
        have z := (List.getElem?_eq_some_iff.mp hd).1
        rw [length_dInts, length_rg] at z
        exact z
      walk_at "v"
      refine ⟨rfl, ?_⟩
      walk_at "v"
      refine v_shuffled (by omega) (by omega) (by omega) fun o ho hl => ?_
      walk_at "v"
      refine ⟨os ++ [o], rfl, by rw [List.map_append] <;> rfl, by rw [List.length_append, e3] <;> rfl, fun z hz => ?_⟩
      rcases List.mem_append.mp hz with q | q
      · exact e4 z q
      · rw [List.mem_singleton.mp q]; exact ⟨ho, hl⟩
    subst e1 e2
    rw [length_dInts, length_rg] at e3 ⊢
    walk_at "v"
    refine v_draw (by omega) (by omega) (by omega) fun r3 r30 r31 => ?_
    walk_at "v"
    exact Qk _ ⟨ks, os, n, 1 + r3⟩ (by omega) ⟨hks, by show 1 ≤ os.length; omega, by show os.length ≤ 6; omega, by show 1 ≤ n; omega, by show n ≤ 12; omega, e4, by show 1 ≤ 1 + r3; omega, by show 1 + r3 ≤ 6; omega⟩ hL2 (by show os.length ≤ Wm; omega) (by show n ≤ nm; omega)
end
section
variable {P : Program} {w : World} {K : PySem.W.Frag} {mg : Str → Option Value} {base : Heap}
theorem ok_Numbering___init__ (c : Ctx K mg) : FnOk P w K mg base (L2N.CX P w) 1 (A_Numbering___init__ K) (fdA K (A_Numbering___init__ K)) ["self", "places"] (sp_Numbering___init__ K) := by
  refine okT (F_Numbering___init__ c) sc_Numbering___init__ (fun vs H Q E h => ?_) (fun cdv A outer s H vs Q E hr h tk pown => ?_)
  · first | (obtain ⟨rfl, _⟩ := h; rfl) | (obtain ⟨_, rfl, _⟩ := h; rfl) | (obtain ⟨_, _, rfl, _⟩ := h; rfl) | (obtain ⟨_, _, _, rfl, _⟩ := h; rfl) | (obtain ⟨_, _, _, _, rfl, _⟩ := h; rfl) | (obtain ⟨_, _, _, _, _, rfl, _⟩ := h; rfl) | (obtain ⟨_, _, _, _, _, _, rfl, _⟩ := h; rfl) | (obtain ⟨_, _, _, _, _, _, _, rfl, _⟩ := h; rfl)
  · skip
    refine ⟨_, (pss_cons (ps_set (i := 2) sc_Numbering___init__.nd rfl (Or.inl rfl) (pe_callB cr_len rfl (n_len c) (by decide +kernel) (pa_cons (pv 1) pa_nil)))
  (pss_cons (ps_if (PW.pt (pw_or (pt_not (pt_chain op_le op_le pe_int (pv 2) (ClX.pe_cval (pe_glob (v := .ref (He.ga K "Numbering")) rfl (g_Numbering c) rfl)))) (pw_or1 (pt_cmpR (op_neD hr.units) (pe_callB cr_sortedA rfl (n_sorted c) (by decide +kernel) (pa_cons (pv 1) pa_nil)) (pe_listRg rfl rfl (n_list c) (prg_1 rfl (n_range c) (pv 2))) (nomark _)))))
    (pss_one (L2N.ps_raise rfl tk (L2N.pmk_own PySem.F.excBase_ValueError (x_BadNumbering c).1 (g_BadNumbering c) (x_BadNumbering c).2.1 (raises_own (x_BadNumbering c).2.2.1 (x_BadNumbering c).2.2.2) rfl)))
    pss_nil)
  (pss_one (ps_fld (pv 0) (pe_callTy cr_tuple rfl (n_tuple c) (by decide +kernel) (pa_cons (pv 1) pa_nil)) rfl)))), ?_⟩
    clear tk pown hr
    have h_cr_Numbering := cr_Numbering c
    have h_cv_Numbering_MOST := cv_Numbering_MOST c
    have h_nc : NumC K := ⟨cl_Numbering c, na_Numbering_places c⟩
    obtain ⟨x, dx, p, ns, rfl, hx, hp, Qk⟩ := h
    dsimp only [L2.start, N_Numbering___init__, cxOf, Cx.tr, Cx.suite, List.map, List.length, Nat.reduceAdd, Nat.reduceSub, List.replicate, List.cons_append, List.nil_append, List.append_nil]
    have cr := cr_Numbering c
    have cv := cv_Numbering_MOST c
    have nc : NumC K := ⟨cl_Numbering c, na_Numbering_places c⟩
    have bad : ∀ H', Gr [] H H' → ¬ IsNum ns → E (.ref (He.ga K "BadNumbering")) none H' := fun H' g n => by
      rcases Qk with ⟨_, q⟩ | ⟨q, _⟩
      · exact q H' g
      · exact absurd q n
    have hp2 : SqL K H p (ns.map V.int) ∨ SqT K H p (ns.map V.int) := hp.imp id (·.sqt)
    walk_at "w"
    rw [List.length_map]
    refine w_iteP (fun e1 => ?_) (fun e1 => ?_)
    · walk_at "w"
      refine w_iteNP (fun e2 => ?_) (fun e2 => ?_)
      · walk_at "w"
        exact bad _ (Gr.refl _) fun z => e2 (by have := z.2.1; omega)
      · walk_at "w"
        refine w_sorted hp2 (by omega) fun ns' q H1 n1 g1 h1 hp1 hp3 => ?_
        walk_at "w"
        refine w_kLstRg (by omega) fun q2 H2 n2 g2 h2 => ?_
        refine w_neD (d := .lst (dInts ns')) (e := .lst (dInts (rg ns.length))) 1 (by walk_at "rep") (by walk_at "rep") (dep_ints _ 0) (dep_ints _ 0) (by decide) (fun e => ?_) (fun e => ?_)
        · have e3 : ns' = rg ns.length := dInts_inj (D.lst.inj e)
          have hn : IsNum ns := ⟨by omega, by omega, (sorted_iff hp1 hp3).mp e3⟩
          have Qk : ∀ t H', Gr [x] H H' → H' x = some (.ins (NC K) dx [("places", .ref t)]) → TupX H' t (ns.map V.int) → Q .non H' := by
            rcases Qk with ⟨q, _⟩ | ⟨_, q⟩
            · exact absurd hn q
            · exact q
          walk_at "w"
          rcases hp with hp | hp
          · refine w_tupOfL (by walk_at "sql") fun t H3 n3 g3 h3 => ?_
            walk_at "w"
            refine w_rPut (by walk_at "at") nc.cls nc.na (by decide) rfl fun H4 g4 h4 => ?_
            exact Qk t H4 (by walk_at "gr") h4 (by walk_at "tx")
          · refine w_tupOfT (by walk_at "sqt") ?_
            walk_at "w"
            refine w_rPut (by walk_at "at") nc.cls nc.na (by decide) rfl fun H4 g4 h4 => ?_
            exact Qk p H4 (by walk_at "gr") h4 (by walk_at "tx")
        · walk_at "w"
          exact bad _ (by walk_at "gr") fun z => e (congrArg (fun l => D.lst (dInts l)) ((sorted_iff hp1 hp3).mpr z.2.2))
    · walk_at "w"
      exact bad _ (Gr.refl _) fun z => e1 (by have := z.1; omega)
theorem mkp_Numbering (c : Ctx K mg) : MkP K (He.ga K "Numbering") (sp_Numbering___init__ K) (pf_Numbering K) := mkp_num
end
section
variable {P : Program} {w : World} {K : PySem.W.Frag} {mg : Str → Option Value} {base : Heap}
theorem ok_Numbering___len__ (c : Ctx K mg) : FnOk P w K mg base (L2N.CX P w) 1 (A_Numbering___len__ K) (fdA K (A_Numbering___len__ K)) ["self"] (spM .A K W0 (pf_Numbering___len__ K)) := by
  refine okQ (F_Numbering___len__ c) sc_Numbering___len__ (fun ω ds Q E h => ?_) (fun cdv A outer s0 H E hr tk pown => (qss_one (qs_ret (qe_cB cr_len lenP rfl (n_len c) (by decide +kernel) (qa_cons (qe_fld (qe_va (pv 0)) (cl_Numbering c) (na_Numbering_places c)) qa_nil))))) (fun ω ds Q E h => ?_)
  · first | (obtain ⟨rfl, _⟩ := h; rfl) | (obtain ⟨_, rfl, _⟩ := h; rfl) | (obtain ⟨_, _, rfl, _⟩ := h; rfl) | (obtain ⟨_, _, _, rfl, _⟩ := h; rfl) | (obtain ⟨_, _, _, _, rfl, _⟩ := h; rfl) | (obtain ⟨_, _, _, _, _, rfl, _⟩ := h; rfl) | (obtain ⟨_, _, _, _, _, _, rfl, _⟩ := h; rfl) | (obtain ⟨_, _, _, _, _, _, _, rfl, _⟩ := h; rfl)
  · skip
    obtain ⟨ps, rfl, h⟩ := h
    walk_at "v"
    rw [length_dInts]
    exact h
end
section
variable {P : Program} {w : World} {K : PySem.W.Frag} {mg : Str → Option Value} {base : Heap}
abbrev sp_System___init__ (K : PySem.W.Frag) : Sp := spMk K (He.ga K "System") (pf_System K)
theorem okx_System___init__ (c : Ctx K mg) (x dx : Addr) : FnOk P w K mg base (L2N.CX P w) 3 (A_System___init__ K) (fdA K (A_System___init__ K)) ["self", "program", "numberings", "capacity"] (spM .A K (WM K x (He.ga K "System") dx) (pfM K (He.ga K "System") (pf_System K) x dx)) := by
  refine okQ (F_System___init__ c) sc_System___init__ (fun ω ds Q E h => ?_) (fun cdv A outer s0 H E hr tk pown => (qss_cons (qs_if (QW.toB (qw_or (qb_not (qb_chain op_le op_le opI0_bl opI0_bl qe_int (qe_cB cr_len lenP rfl (n_len c) (by decide +kernel) (qa_cons (qe_va (pv 2)) qa_nil)) qe_int)) (qw_or1 (qb_not (qb_chain op_le op_le opI0_bl opI0_bl qe_int (qe_va (pv 3)) qe_int)))))
    (qss_one (qs_raise (L2N.ps_raise rfl tk (L2N.pmk_own PySem.F.excBase_ValueError (x_BadSize c).1 (g_BadSize c) (x_BadSize c).2.1 (raises_own (x_BadSize c).2.2.1 (x_BadSize c).2.2.2) rfl))))
    qss_nil)
  (qss_cons (qs_if (qb_cmp op_ne opNeP (qe_lenSc rfl (n_len c) (own := [("numbering", 4)]) rfl sc_System___init__.nd (qi_lst (qe_va (pv 2))) (blkOk_by (N := N_System___init__) (sc := defScope s_System___init__) (by decide +kernel)) (fun _ _ _ _ _ => (qg_name (i := 4) sc_System___init__.nd rfl (Or.inl rfl))) (fun _ _ _ _ _ => (qe_lenO (ma := .C) (cmo_Numbering___len__ c) (FnR.inW (rawF (ok_Numbering___len__ (P := P) c) (b_Numbering___len__ c)) (WM K x (He.ga K "System") dx)) (hr.mono (by decide)) rfl (n_len c) (qa_cons (qe_va (pv 4)) qa_nil)))) qe_int (nomark _))
    (qss_one (qs_raise (L2N.ps_raise rfl tk (L2N.pmk_own PySem.F.excBase_ValueError (x_BadSize c).1 (g_BadSize c) (x_BadSize c).2.1 (raises_own (x_BadSize c).2.2.1 (x_BadSize c).2.2.2) rfl))))
    qss_nil)
  (qss_cons (qs_fset (K := K) (i := 0) rfl (cl_System c) (na_System_program c) (qe_va (pv 1)) (pv 0))
  (qss_cons (qs_fset (K := K) (i := 0) rfl (cl_System c) (na_System_numberings c) (qe_cT cr_tuple tupleP rfl (n_tuple c) (by decide +kernel) (qa_cons (qe_va (pv 2)) qa_nil)) (pv 0))
  (qss_cons (qs_fset (K := K) (i := 0) rfl (cl_System c) (na_System_workers c) (qe_cB cr_len lenP rfl (n_len c) (by decide +kernel) (qa_cons (qe_va (pv 2)) qa_nil)) (pv 0))
  (qss_cons (qs_fset (K := K) (i := 0) rfl (cl_System c) (na_System_cells c) (qe_lenO (ma := .C) (cmo_Numbering___len__ c) (FnR.inW (rawF (ok_Numbering___len__ (P := P) c) (b_Numbering___len__ c)) (WM K x (He.ga K "System") dx)) (hr.mono (by decide)) rfl (n_len c) (qa_cons (qe_ix ix_list ixLP (qe_va (pv 2)) qe_int (fun _ _ => rfl)) qa_nil)) (pv 0))
  (qss_one (qs_fset (K := K) (i := 0) rfl (cl_System c) (na_System_capacity c) (qe_va (pv 3)) (pv 0)))))))))) (fun ω ds Q E h => ?_)
  · obtain ⟨_, args, rfl, _, _, _, rfl, _⟩ := h; rfl
  · skip
    obtain ⟨rfl, args, rfl, ks, os, cap, rfl, h1, h2, h3, Qk⟩ := h
    have bad : ¬ SysOk os cap → ∀ ω', E ω' ⟨He.ga K "BadSize", none⟩ := fun n => by
      rcases Qk with ⟨a, _⟩ | ⟨_, q⟩
      · exact absurd a n
      · exact q
    have hl : (numsD K os).length = os.length := List.length_map _
    have nok : (os.length = 0 ∨ 6 < os.length ∨ cap < 1 ∨ 6 < cap) → ¬ SysOk os cap := by
      rintro q ⟨z1, z2, z3, z4, _⟩
      rcases q with q | q | q | q <;> omega
    walk_at "v"
    rw [hl]
    refine w_iteP (fun e1 => ?_) (fun e1 => ?_)
    · walk_at "v"
      refine w_iteNP (fun e2 => ?_) (fun e2 => ?_)
      · walk_at "v"
        exact bad (nok (by omega)) _
      walk_at "v"
      refine w_iteP (fun e3 => ?_) (fun e3 => ?_)
      · walk_at "v"
        refine w_iteNP (fun e4 => ?_) (fun e4 => ?_)
        · walk_at "v"
          exact bad (nok (by omega)) _
        walk_at "v"
        refine ⟨rfl, by rw [hl]; omega, fun i => ((os.getD i []).length : Int), fun i d hd => ?_, fun n hn => ?_⟩
        · obtain ⟨o, ho, rfl⟩ := Option.map_eq_some_iff.mp ((List.getElem?_map ..).symm.trans hd)
          walk_at "v"
          refine ⟨rfl, ?_⟩
          walk_at "v"
          refine v_numLen ?_
          have hlo := (h2 o (List.mem_of_getElem? ho)).2.1
          walk_at "v"
          refine ⟨rfl, ?_⟩
          show D.int _ = D.int ((os.getD i []).length : Int)
          rw [List.getD_eq_getElem?_getD, ho] <;> rfl
        · rw [hl] at hn
          have e0 : os.getD 0 [] = os.headD [] := by cases os <;> rfl
          have key : SysOk os cap ↔ n = 1 := by
            rw [hn]
            constructor
            · rintro ⟨z1, z2, z3, z4, z5⟩
              refine ⟨by omega, fun i hi => ?_⟩
              show ((os.getD i []).length : Int) = ((os.getD 0 []).length : Int)
              rw [e0, List.getD_eq_getElem?_getD, List.getElem?_eq_getElem hi]
              exact congrArg _ (z5 _ (List.getElem_mem hi))
            · rintro ⟨z1, z2⟩
              refine ⟨by omega, by omega, by omega, by omega, fun o ho => ?_⟩
              obtain ⟨i, hi⟩ := List.getElem?_of_mem ho
              have hil := (List.getElem?_eq_some_iff.mp hi).1
              have z := z2 i hil
              have z' : ((os.getD i []).length : Int) = ((os.getD 0 []).length : Int) := z
              rw [e0, List.getD_eq_getElem?_getD, hi] at z'
              exact Int.ofNat.inj z'
          walk_at "v"
          refine w_iteNP (fun e5 => ?_) (fun e5 => ?_)
          · walk_at "v"
            refine bad (fun z => e5 ?_) _
            have := key.mp z
            rw [this] <;> rfl
          walk_at "v"
          have ok : SysOk os cap := key.mpr (by omega)
          have Qg : ∀ (ns : List Str) (es : List D), _ := (Qk.resolve_right fun z => z.1 ok).2
          obtain ⟨o, r, rfl⟩ : ∃ o r, os = o :: r := by
            cases os with
            | nil => exact absurd e1 (by decide)
            | cons o r => exact ⟨o, r, rfl⟩
          refine v_kFset rfl (pure_prog h1.okP) (by decide) (by decide) (by decide) ?_
          walk_at "v"
          refine v_kFset rfl (pure_nums _) (by show _ ∉ [("program" : Str)]; decide) (by show imm ["program"] = false; decide) (by show 1 < 1000; decide) ?_
          walk_at "v"
          rw [hl]
          refine v_kFset rfl rfl (by show _ ∉ [("program" : Str), "numberings"]; decide) (by show imm ["program", "numberings"] = false; decide) (by show 2 < 1000; decide) ?_
          walk_at "v"
          refine v_ixL (show atI (numsD K (o :: r)) 0 = some (numD K o) from atI_of (by decide) rfl) ?_
          walk_at "v"
          refine v_numLen ?_
          have hlo := (h2 o List.mem_cons_self).2.1
          walk_at "v"
          refine v_kFset rfl rfl (by show _ ∉ [("program" : Str), "numberings", "workers"]; decide) (by show imm ["program", "numberings", "workers"] = false; decide) (by show 3 < 1000; decide) ?_
          walk_at "v"
          refine v_kFset rfl rfl (by show _ ∉ [("program" : Str), "numberings", "workers", "cells"]; decide) (by show imm ["program", "numberings", "workers", "cells"] = false; decide) (by show 4 < 1000; decide) ?_
          exact Qg _ _ rfl rfl (by decide)
      · walk_at "v"
        exact bad (nok (by omega)) _
    · walk_at "v"
      exact bad (nok (by omega)) _
theorem ok_System___init__ (c : Ctx K mg) : FnOk P w K mg base (L2N.CX P w) 3 (A_System___init__ K) (fdA K (A_System___init__ K)) ["self", "program", "numberings", "capacity"] (sp_System___init__ K) := FnOk_mk fun x dx => okx_System___init__ c x dx
theorem mkp_System (c : Ctx K mg) : MkP K (He.ga K "System") (sp_System___init__ K) (pf_System K) := mkp_of mono_System
end
section
variable {P : Program} {w : World} {K : PySem.W.Frag} {mg : Str → Option Value} {base : Heap}
theorem ok__line_number (c : Ctx K mg) : FnOk P w K mg base (L2N.CX P w) 1 (A__line_number K) (fdA K (A__line_number K)) ["word", "lines"] (spM .A K W0 (pf__line_number)) := by
  refine okQ (F__line_number c) sc__line_number (fun ω ds Q E h => ?_) (fun cdv A outer s0 H E hr tk pown => (qss_cons (qs_for pown rfl (qi_rg1 rfl (n_range c) (qe_va (pv 1))) (qg_name (i := 2) sc__line_number.nd rfl (Or.inl rfl))
    (qss_one (qs_if (qb_cmp op_eq opEqP (qe_va (pv 0)) (qe_cT cr_strI strIP rfl (n_str c) (by decide +kernel) (qa_cons (qe_va (pv 2)) qa_nil)) (nomark _))
      (qss_one (qs_ret (qe_va (pv 2))))
      qss_nil)))
  (qss_one (qs_ret (qe_un un_neg un_negP qe_int))))) (fun ω ds Q E h => ?_)
  · first | (obtain ⟨rfl, _⟩ := h; rfl) | (obtain ⟨_, rfl, _⟩ := h; rfl) | (obtain ⟨_, _, rfl, _⟩ := h; rfl) | (obtain ⟨_, _, _, rfl, _⟩ := h; rfl) | (obtain ⟨_, _, _, _, rfl, _⟩ := h; rfl) | (obtain ⟨_, _, _, _, _, rfl, _⟩ := h; rfl) | (obtain ⟨_, _, _, _, _, _, rfl, _⟩ := h; rfl) | (obtain ⟨_, _, _, _, _, _, _, rfl, _⟩ := h; rfl)
  · skip
    obtain ⟨wd, L, rfl, hL, Qk⟩ := h
    walk_at "v"
    refine v_kForR (n := L) (fun i ω' ρ => (∀ j, j < i → wd ≠ ((toString (j : Int) : String) : Str)) ∧ ∃ o, ρ = [.va (.str wd), .va (.int L), o]) ⟨fun _ z => absurd z (Nat.not_lt_zero _), _, rfl⟩ ?_ ?_
    · rintro i ω' ρ hi ⟨hn, o, rfl⟩
      walk_at "v"
      refine v_strI (by have : i.log2 ≤ i := Nat.log2_le_self i; show i.log2 < 1920; omega) ?_
      walk_at "v"
      refine w_iteP (fun e1 => ?_) (fun e1 => ?_)
      · walk_at "v"
        rw [lineNo_some hi e1 hn] at Qk
        exact Qk
      · walk_at "v"
        refine ⟨fun j hj => ?_, _, rfl⟩
        rcases Nat.lt_or_eq_of_le (Nat.le_of_lt_succ hj) with z | z
        · exact hn j z
        · subst z; exact e1
    · rintro ω' ρ ⟨hn, o, rfl⟩
      walk_at "v"
      rw [lineNo_none hn] at Qk
      exact Qk
end
section
variable {P : Program} {w : World} {K : PySem.W.Frag} {mg : Str → Option Value} {base : Heap}
theorem ok__parsed (c : Ctx K mg) : FnOk P w K mg base (L2N.CX P w) 2 (A__parsed K) (fdA K (A__parsed K)) ["text", "lines"] (spM .A K W0 (pf__parsed)) := by
  refine okQ (F__parsed c) sc__parsed (fun ω ds Q E h => ?_) (fun cdv A outer s0 H E hr tk pown => (qss_cons (qs_set (i := 2) sc__parsed.nd rfl (Or.inl rfl) (qe_sm PySem.F.slot_str_split PySem.F.type_str_split mt_split splitP (qe_va (pv 0)) qe_str))
  (qss_cons (qs_set (i := 3) sc__parsed.nd rfl (Or.inl rfl) (qe_ix ix_list ixLP (qe_va (pv 2)) qe_int (fun _ _ => rfl)))
  (qss_cut (qs_if (QW.toB (qw_and (qb_cmp op_eq opEqP (qe_cB cr_len lenP rfl (n_len c) (by decide +kernel) (qa_cons (qe_va (pv 2)) qa_nil)) qe_int (nomark _)) (qw_and1 (qb_cmp op_in_seq opInP (qe_va (pv 3)) (qe_tup (qa_cons qe_str (qa_cons qe_str qa_nil))) (by rfl)))))
    (qss_one (qs_ret (qe_tup (qa_cons (qe_va (pv 3)) (qa_cons qe_bl (qa_cons qe_str (qa_cons qe_int qa_nil)))))))
    qss_nil)
  (qss_cut (qs_if (QW.toB (qw_and (qb_cmp op_eq opEqP (qe_cB cr_len lenP rfl (n_len c) (by decide +kernel) (qa_cons (qe_va (pv 2)) qa_nil)) qe_int (nomark _)) (qw_and1 (qb_cmp op_in_seq opInP (qe_sm PySem.F.slot_str_removesuffix PySem.F.type_str_removesuffix mt_removesuffix remSP (qe_va (pv 3)) qe_str) (qe_ct (d := [.str "take", .str "give", .str "on"]) (pe_glob (v := .ref (He.ga K "MOVES")) rfl (g_MOVES c) rfl) (ct_MOVES c) (fun _ _ => (.cons (.str _) (.cons (.str _) (.cons (.str _) .nil))))) (by rfl)))))
    (qss_one (qs_ret (qe_tup (qa_cons (qe_sm PySem.F.slot_str_removesuffix PySem.F.type_str_removesuffix mt_removesuffix remSP (qe_va (pv 3)) qe_str) (qa_cons (qe_sm PySem.F.slot_str_endswith PySem.F.type_str_endswith mt_endswith endsP (qe_va (pv 3)) qe_str) (qa_cons qe_str (qa_cons qe_int qa_nil)))))))
    qss_nil)
  (qss_cut (qs_if (QW.toB (qw_and (qb_cmp op_eq opEqP (qe_cB cr_len lenP rfl (n_len c) (by decide +kernel) (qa_cons (qe_va (pv 2)) qa_nil)) qe_int (nomark _)) (qw_and (qb_cmp op_eq opEqP (qe_va (pv 3)) qe_str (nomark _)) (qw_and1 (qb_cmp op_in_seq opInP (qe_ix ix_list ixLP (qe_va (pv 2)) qe_int (fun _ _ => rfl)) (qe_ct (d := [.str "first", .str "empty", .str "mine", .str "other", .str "none", .str "full", .str "enough", .str "behind"]) (pe_glob (v := .ref (He.ga K "CONDITIONS")) rfl (g_CONDITIONS c) rfl) (ct_CONDITIONS c) (fun _ _ => (.cons (.str _) (.cons (.str _) (.cons (.str _) (.cons (.str _) (.cons (.str _) (.cons (.str _) (.cons (.str _) (.cons (.str _) .nil)))))))))) (by rfl))))))
    (qss_one (qs_ret (qe_tup (qa_cons (qe_va (pv 3)) (qa_cons qe_bl (qa_cons (qe_ix ix_list ixLP (qe_va (pv 2)) qe_int (fun _ _ => rfl)) (qa_cons qe_int qa_nil)))))))
    qss_nil)
  (qss_cons (qs_set (i := 4) sc__parsed.nd rfl (Or.inl rfl) (qe_call (ok__line_number (P := P) c) (hr.mono (by decide)) rfl (g__line_number c) (F__line_number c).kp (b__line_number c) (fun σ => L2N.passAt tk σ) (qa_cons (qe_ix ix_list ixLP (qe_va (pv 2)) (qe_un un_neg un_negP qe_int) (fun _ _ => rfl)) (qa_cons (qe_va (pv 1)) qa_nil))))
  (qss_cut (qs_if (QW.toB (qw_and (qb_cmp op_eq opEqP (qe_cB cr_len lenP rfl (n_len c) (by decide +kernel) (qa_cons (qe_va (pv 2)) qa_nil)) qe_int (nomark _)) (qw_and (qb_cmp op_eq opEqP (qe_va (pv 3)) qe_str (nomark _)) (qw_and1 (qb_cmp op_ge opI0_bl (qe_va (pv 4)) qe_int (nomark _))))))
    (qss_one (qs_ret (qe_tup (qa_cons (qe_va (pv 3)) (qa_cons qe_bl (qa_cons qe_str (qa_cons (qe_va (pv 4)) qa_nil)))))))
    qss_nil)
  (qss_cons (qs_if (QW.toB (qw_and (qb_cmp op_eq opEqP (qe_cB cr_len lenP rfl (n_len c) (by decide +kernel) (qa_cons (qe_va (pv 2)) qa_nil)) qe_int (nomark _)) (qw_and (qb_cmp op_in_seq opInP (qe_va (pv 3)) (qe_tup (qa_cons qe_str (qa_cons qe_str qa_nil))) (by rfl)) (qw_and (qb_cmp op_in_seq opInP (qe_ix ix_list ixLP (qe_va (pv 2)) qe_int (fun _ _ => rfl)) (qe_ct (d := [.str "first", .str "empty", .str "mine", .str "other", .str "none", .str "full", .str "enough", .str "behind"]) (pe_glob (v := .ref (He.ga K "CONDITIONS")) rfl (g_CONDITIONS c) rfl) (ct_CONDITIONS c) (fun _ _ => (.cons (.str _) (.cons (.str _) (.cons (.str _) (.cons (.str _) (.cons (.str _) (.cons (.str _) (.cons (.str _) (.cons (.str _) .nil)))))))))) (by rfl)) (qw_and1 (qb_cmp op_ge opI0_bl (qe_va (pv 4)) qe_int (nomark _)))))))
    (qss_one (qs_ret (qe_tup (qa_cons (qe_va (pv 3)) (qa_cons qe_bl (qa_cons (qe_ix ix_list ixLP (qe_va (pv 2)) qe_int (fun _ _ => rfl)) (qa_cons (qe_va (pv 4)) qa_nil)))))))
    qss_nil)
  (qss_one (qs_ret qe_non))))))))))) (fun ω ds Q E h => ?_)
  · first | (obtain ⟨rfl, _⟩ := h; rfl) | (obtain ⟨_, rfl, _⟩ := h; rfl) | (obtain ⟨_, _, rfl, _⟩ := h; rfl) | (obtain ⟨_, _, _, rfl, _⟩ := h; rfl) | (obtain ⟨_, _, _, _, rfl, _⟩ := h; rfl) | (obtain ⟨_, _, _, _, _, rfl, _⟩ := h; rfl) | (obtain ⟨_, _, _, _, _, _, rfl, _⟩ := h; rfl) | (obtain ⟨_, _, _, _, _, _, _, rfl, _⟩ := h; rfl)
  · skip
    obtain ⟨t, L, w0, ws, rfl, hs, ht, hw, hl, hL, Qk⟩ := h
    walk_at "v"
    refine v_split (by decide) (by rw [sizeLine_eq]; omega) ?_
    rw [hs]
    walk_at "v"
    have hlen : (dStrs (w0 :: ws)).length = ws.length + 1 := by rw [length_dStrs] <;> rfl
    have z0 : ws.length = 0 → ws = [] := List.length_eq_zero_iff.mp
    refine v_ixL (d := .str w0) (atI_strs (ys := w0 :: ws) (k := 0) rfl) ?_
    walk_at "v"
    unfold parseW at Qk
    refine ⟨fun ω' ρ => ¬ (ws = [] ∧ (w0 = "rest" ∨ w0 = "room")) ∧ ρ = [.va (.str t), .va (.int L), .va (.lst (dStrs (w0 :: ws))), .va (.str w0), .no], ?_, ?_⟩
    · walk_at "v"
      rw [hlen]
      refine w_iteP (fun e1 => ?_) (fun e1 => ?_)
      · walk_at "v"
        refine v_inTS (ys := ["rest", "room"]) ?_
        walk_at "v"
        refine w_iteP (fun e2 => ?_) (fun e2 => ?_)
        · walk_at "v"
          rw [if_pos ⟨z0 (by omega), by simpa using e2⟩] at Qk
          exact Qk
        · walk_at "v"
          exact ⟨fun z => e2 (by simpa using z.2), rfl⟩
      · walk_at "v"
        exact ⟨fun z => e1 (by rw [z.1] <;> rfl), rfl⟩
    rintro ω' ρ ⟨n1, rfl⟩
    rw [if_neg n1] at Qk
    refine ⟨fun ω' ρ => ¬ (ws = [] ∧ Txt.removesuffix w0 "*" ∈ movesW) ∧ ρ = [.va (.str t), .va (.int L), .va (.lst (dStrs (w0 :: ws))), .va (.str w0), .no], ?_, ?_⟩
    · walk_at "v"
      rw [hlen]
      refine w_iteP (fun e1 => ?_) (fun e1 => ?_)
      · walk_at "v"
        refine v_remS (by rw [sizeLine_eq]; omega) ?_
        walk_at "v"
        refine v_inTS (ys := movesW) ?_
        walk_at "v"
        refine w_iteP (fun e2 => ?_) (fun e2 => ?_)
        · walk_at "v"
          refine v_remS (by rw [sizeLine_eq]; omega) ?_
          walk_at "v"
          rw [if_pos ⟨z0 (by omega), e2⟩] at Qk
          exact Qk
        · walk_at "v"
          exact ⟨fun z => e2 z.2, rfl⟩
      · walk_at "v"
        exact ⟨fun z => e1 (by rw [z.1] <;> rfl), rfl⟩
    rintro ω' ρ ⟨n2, rfl⟩
    rw [if_neg n2] at Qk
    refine ⟨fun ω' ρ => ¬ (ws.length = 1 ∧ w0 = "wait" ∧ ws.headD "" ∈ condsW) ∧ ρ = [.va (.str t), .va (.int L), .va (.lst (dStrs (w0 :: ws))), .va (.str w0), .no], ?_, ?_⟩
    · walk_at "v"
      rw [hlen]
      refine w_iteP (fun e1 => ?_) (fun e1 => ?_)
      · walk_at "v"
        have i1 : atI (dStrs (w0 :: ws)) 1 = some (.str (ws.headD "")) := atI_strs (ys := w0 :: ws) (k := 1) (by
          cases ws with
          | nil => exact absurd e1 (by decide)
          | cons w1 ws => rfl)
        refine w_iteP (fun e2 => ?_) (fun e2 => ?_)
        · walk_at "v"
          refine v_ixL i1 ?_
          walk_at "v"
          refine v_inTS (ys := condsW) ?_
          walk_at "v"
          refine w_iteP (fun e3 => ?_) (fun e3 => ?_)
          · walk_at "v"
            refine v_ixL i1 ?_
            walk_at "v"
            rw [if_pos ⟨by omega, e2, e3⟩] at Qk
            exact Qk
          · walk_at "v"
            exact ⟨fun z => e3 z.2.2, rfl⟩
        · walk_at "v"
          exact ⟨fun z => e2 z.2.1, rfl⟩
      · walk_at "v"
        exact ⟨fun z => e1 (by rw [z.1] <;> rfl), rfl⟩
    rintro ω' ρ ⟨n3, rfl⟩
    rw [if_neg n3] at Qk
    walk_at "v"
    refine v_ixL (atI_lastS (ys := w0 :: ws) (by simp)) ?_
    walk_at "v"
    refine v_lineNo hL ?_
    walk_at "v"
    generalize lineNo ((w0 :: ws).getLastD "") L = n at Qk ⊢
    refine ⟨fun ω' ρ => ¬ (ws.length = 1 ∧ w0 = "go" ∧ 0 ≤ n) ∧ ρ = [.va (.str t), .va (.int L), .va (.lst (dStrs (w0 :: ws))), .va (.str w0), .va (.int n)], ?_, ?_⟩
    · walk_at "v"
      rw [hlen]
      refine w_iteP (fun e1 => ?_) (fun e1 => ?_)
      · walk_at "v"
        refine w_iteP (fun e2 => ?_) (fun e2 => ?_)
        · walk_at "v"
          refine w_iteP (fun e3 => ?_) (fun e3 => ?_)
          · walk_at "v"
            rw [if_pos ⟨by omega, e2, e3⟩] at Qk
            exact Qk
          · walk_at "v"
            exact ⟨fun z => e3 z.2.2, rfl⟩
        · walk_at "v"
          exact ⟨fun z => e2 z.2.1, rfl⟩
      · walk_at "v"
        exact ⟨fun z => e1 (by rw [z.1] <;> rfl), rfl⟩
    rintro ω' ρ ⟨n4, rfl⟩
    rw [if_neg n4] at Qk
    have i1 : ws.length = 2 → atI (dStrs (w0 :: ws)) 1 = some (.str (ws.headD "")) := fun e1 => atI_strs (ys := w0 :: ws) (k := 1) (by
      cases ws with
      | nil => exact absurd e1 (by decide)
      | cons w1 ws => rfl)
    walk_at "v"
    rw [hlen]
    refine w_iteP (fun e1 => ?_) (fun e1 => ?_)
    · walk_at "v"
      refine v_inTS (ys := ["if", "unless"]) ?_
      walk_at "v"
      refine w_iteP (fun e2 => ?_) (fun e2 => ?_)
      · walk_at "v"
        refine v_ixL (i1 (by omega)) ?_
        walk_at "v"
        refine v_inTS (ys := condsW) ?_
        walk_at "v"
        refine w_iteP (fun e3 => ?_) (fun e3 => ?_)
        · walk_at "v"
          refine w_iteP (fun e4 => ?_) (fun e4 => ?_)
          · walk_at "v"
            refine v_ixL (i1 (by omega)) ?_
            walk_at "v"
            rw [if_pos ⟨by omega, by simpa using e2, e3, e4⟩] at Qk
            exact Qk
          · walk_at "v"
            rw [if_neg fun z => e4 z.2.2.2] at Qk
            exact Qk
        · walk_at "v"
          rw [if_neg fun z => e3 z.2.2.1] at Qk
          exact Qk
      · walk_at "v"
        rw [if_neg fun z => e2 (by simpa using z.2.1)] at Qk
        exact Qk
    · walk_at "v"
      rw [if_neg fun z => e1 (by rw [z.1] <;> rfl)] at Qk
      exact Qk
end
section
variable {P : Program} {w : World} {K : PySem.W.Frag} {mg : Str → Option Value} {base : Heap}
abbrev sp_Program___init__ (K : PySem.W.Frag) : Sp := spMk K (He.ga K "Program") (pf_Program K)
theorem okx_Program___init__ (c : Ctx K mg) (x dx : Addr) : FnOk P w K mg base (L2N.CX P w) 3 (A_Program___init__ K) (fdA K (A_Program___init__ K)) ["self", "instructions"] (spM .A K (WM K x (He.ga K "Program") dx) (pfM K (He.ga K "Program") (pf_Program K) x dx)) := by
  refine okQ (F_Program___init__ c) sc_Program___init__ (fun ω ds Q E h => ?_) (fun cdv A outer s0 H E hr tk pown => (qss_cons (qs_if (qb_not (qb_chain op_le op_le opI0_bl opI0_bl qe_int (qe_cB cr_len lenP rfl (n_len c) (by decide +kernel) (qa_cons (qe_va (pv 1)) qa_nil)) (qe_cval (qe_adr (pe_glob (v := .ref (He.ga K "Program")) rfl (g_Program c) rfl)) (cr_Program c) (cv_Program_LONGEST c))))
    (qss_one qs_dead)
    qss_nil)
  (qss_cons (qs_setO (i := 2) sc_Program___init__.nd rfl (Or.inl rfl) (qe_lst qa_nil))
  (qss_cons (qs_for pown rfl (qi_enumQ rfl (n_enumerate c) (qe_va (pv 1))) (qg_tup (n := 2) rfl (qgs_cons (qg_name (i := 3) sc_Program___init__.nd rfl (Or.inl rfl)) (qgs_cons (qg_name (i := 4) sc_Program___init__.nd rfl (Or.inl rfl)) qgs_nil)))
    (qss_cons (qs_set (i := 5) sc_Program___init__.nd rfl (Or.inl rfl) (qe_call (FnOk.inW (ok__parsed (P := P) c) (WM K x (He.ga K "Program") dx)) (hr.mono (by decide)) rfl (g__parsed c) (F__parsed c).kp (b__parsed c) (fun σ => L2N.passAt tk σ) (qa_cons (qe_va (pv 4)) (qa_cons (qe_cB cr_len lenP rfl (n_len c) (by decide +kernel) (qa_cons (qe_va (pv 1)) qa_nil)) qa_nil))))
    (qss_cons (qs_if (QW.toB (qw_or (qb_cmp op_isN opIsP (qe_va (pv 5)) qe_non (nomark _)) (qw_or1 (QW.toB (qw_and (qb_cmp op_eq opEqP (qe_va (pv 3)) qe_int (nomark _)) (qw_and1 (qb_cmp op_ne opNeP (qe_va (pv 4)) qe_str (nomark _))))))))
      (qss_one qs_dead)
      qss_nil)
    (qss_one (qs_app (i := 2) rfl (pv 2) (qe_va (pv 5)))))))
  (qss_cons (qs_fset (K := K) (i := 0) rfl (cl_Program c) (na_Program_instructions c) (qe_cT cr_tuple tupleP rfl (n_tuple c) (by decide +kernel) (qa_cons (qe_va (pv 1)) qa_nil)) (pv 0))
  (qss_one (qs_fset (K := K) (i := 0) rfl (cl_Program c) (na_Program_rows c) (qe_cT cr_tuple tupleP rfl (n_tuple c) (by decide +kernel) (qa_cons (qe_v (pv 2)) qa_nil)) (pv 0)))))))) (fun ω ds Q E h => ?_)
  · obtain ⟨_, args, rfl, _, _, h, _⟩ := h; rcases h with rfl | rfl <;> rfl
  · skip
    obtain ⟨rfl, args, rfl, ts, rs, hd, ⟨h1, h2, h3, h4, h5⟩, Qk⟩ := h
    have hpu : ∀ d ∈ rs, d.pure = true := fun d hd => by
      obtain ⟨i, hi⟩ := List.getElem?_of_mem hd
      have hil := (List.getElem?_eq_some_iff.mp hi).1
      obtain ⟨t, ht⟩ : ∃ t, ts[i]? = some t := ⟨_, List.getElem?_eq_getElem (by omega)⟩
      obtain ⟨_, _, _, _, _, _, _, _, z⟩ := h5 i t d ht hi
      exact z
    rcases hd with rfl | rfl
    · skip
      walk_at "v"
      rw [length_dStrs]
      refine w_iteP (fun _ => ?_) (fun e => absurd (by omega) e)
      walk_at "v"
      refine w_iteNP (fun e => absurd (by omega) e) (fun _ => ?_)
      walk_at "v"
      refine v_kFor (fun i ω' ρ => ω' = [] ∧ ∃ (l : Addr) (o3 o4 o5 : Sl), ρ = [.va (.adr x), .va (.lst (dStrs ts)), .ow l (rs.take i), o3, o4, o5]) ⟨rfl, _, _, _, _, rfl⟩ ?_ ?_
      · rintro i d ω' ρ hi ⟨rfl, l, o3, o4, o5, rfl⟩
        rw [enumD_get] at hi
        obtain ⟨d1, hd1, rfl⟩ := Option.map_eq_some_iff.mp hi
        obtain ⟨t, ht, rfl⟩ : ∃ t, ts[i]? = some t ∧ .str t = d1 := by
          unfold dStrs at hd1
          rw [List.getElem?_map] at hd1
          exact Option.map_eq_some_iff.mp hd1
        have hil := (List.getElem?_eq_some_iff.mp ht).1
        obtain ⟨r, hr⟩ : ∃ r, rs[i]? = some r := ⟨_, List.getElem?_eq_getElem (by omega)⟩
        have ok := h5 i t r ht hr
        have rn : r.isNon = false := by obtain ⟨_, _, _, _, _, _, _, z, _⟩ := ok; exact z
        have tk : rs.take (i + 1) = rs.take i ++ [r] := by rw [List.take_succ, hr] <;> rfl
        walk_at "v"
        rw [length_dStrs]
        refine v_parsed ok (by omega) ?_
        walk_at "v"
        rw [rn, if_neg (by decide)]
        walk_at "v"
        refine w_iteP (fun e => ?_) (fun e => ?_)
        · walk_at "v"
          refine w_iteNP (fun e2 => absurd ?_ e2) (fun _ => ?_)
          · have z : i = 0 := by omega
            rw [z, h4] at ht
            exact (Option.some.inj ht).symm
          · walk_at "v"
            refine v_app rfl (by rw [List.length_take]; omega) ?_
            walk_at "v"
            rw [tk]
            exact ⟨rfl, _, _, _, _, rfl⟩
        · walk_at "v"
          refine v_app rfl (by rw [List.length_take]; omega) ?_
          walk_at "v"
          rw [tk]
          exact ⟨rfl, _, _, _, _, rfl⟩
      · rintro ω' ρ ⟨rfl, l, o3, o4, o5, rfl⟩
        rw [enumD_length, length_dStrs, List.take_of_length_le (by omega)]
        walk_at "v"
        refine v_kFset rfl (pure_strs ts) (by decide) (by decide) (by decide) ?_
        walk_at "v"
        refine v_kFset rfl (pure_tup hpu) (by show _ ∉ [("instructions" : Str)]; decide) (by show imm ["instructions"] = false; decide) (by show 1 < 1000; decide) ?_
        exact Qk _ _ rfl rfl (by decide)
    · skip
      walk_at "v"
      rw [length_dStrs]
      refine w_iteP (fun _ => ?_) (fun e => absurd (by omega) e)
      walk_at "v"
      refine w_iteNP (fun e => absurd (by omega) e) (fun _ => ?_)
      walk_at "v"
      refine v_kFor (fun i ω' ρ => ω' = [] ∧ ∃ (l : Addr) (o3 o4 o5 : Sl), ρ = [.va (.adr x), .va (.tup (dStrs ts)), .ow l (rs.take i), o3, o4, o5]) ⟨rfl, _, _, _, _, rfl⟩ ?_ ?_
      · rintro i d ω' ρ hi ⟨rfl, l, o3, o4, o5, rfl⟩
        rw [enumD_get] at hi
        obtain ⟨d1, hd1, rfl⟩ := Option.map_eq_some_iff.mp hi
        obtain ⟨t, ht, rfl⟩ : ∃ t, ts[i]? = some t ∧ .str t = d1 := by
          unfold dStrs at hd1
          rw [List.getElem?_map] at hd1
          exact Option.map_eq_some_iff.mp hd1
        have hil := (List.getElem?_eq_some_iff.mp ht).1
        obtain ⟨r, hr⟩ : ∃ r, rs[i]? = some r := ⟨_, List.getElem?_eq_getElem (by omega)⟩
        have ok := h5 i t r ht hr
        have rn : r.isNon = false := by obtain ⟨_, _, _, _, _, _, _, z, _⟩ := ok; exact z
        have tk : rs.take (i + 1) = rs.take i ++ [r] := by rw [List.take_succ, hr] <;> rfl
        walk_at "v"
        rw [length_dStrs]
        refine v_parsed ok (by omega) ?_
        walk_at "v"
        rw [rn, if_neg (by decide)]
        walk_at "v"
        refine w_iteP (fun e => ?_) (fun e => ?_)
        · walk_at "v"
          refine w_iteNP (fun e2 => absurd ?_ e2) (fun _ => ?_)
          · have z : i = 0 := by omega
            rw [z, h4] at ht
            exact (Option.some.inj ht).symm
          · walk_at "v"
            refine v_app rfl (by rw [List.length_take]; omega) ?_
            walk_at "v"
            rw [tk]
            exact ⟨rfl, _, _, _, _, rfl⟩
        · walk_at "v"
          refine v_app rfl (by rw [List.length_take]; omega) ?_
          walk_at "v"
          rw [tk]
          exact ⟨rfl, _, _, _, _, rfl⟩
      · rintro ω' ρ ⟨rfl, l, o3, o4, o5, rfl⟩
        rw [enumD_length, length_dStrs, List.take_of_length_le (by omega)]
        walk_at "v"
        refine v_kFset rfl (pure_strs ts) (by decide) (by decide) (by decide) ?_
        walk_at "v"
        refine v_kFset rfl (pure_tup hpu) (by show _ ∉ [("instructions" : Str)]; decide) (by show imm ["instructions"] = false; decide) (by show 1 < 1000; decide) ?_
        exact Qk _ _ rfl rfl (by decide)
theorem ok_Program___init__ (c : Ctx K mg) : FnOk P w K mg base (L2N.CX P w) 3 (A_Program___init__ K) (fdA K (A_Program___init__ K)) ["self", "instructions"] (sp_Program___init__ K) := FnOk_mk fun x dx => okx_Program___init__ c x dx
theorem mkp_Program (c : Ctx K mg) : MkP K (He.ga K "Program") (sp_Program___init__ K) (pf_Program K) := mkp_of mono_Program
end
def pf__law_made (K : PySem.W.Frag) : PSp W0 := fun _ ds Q _ => ∃ y : Sy, ds = [houseD y] ∧ y.ok ∧ Q () (sysD K y)
theorem v_made {K : PySem.W.Frag} {y : Sy} {Q : Unit → D → Prop} {E : Unit → Exn → Prop} (h1 : y.ok) (h : Q () (sysD K y)) : pf__law_made K () [houseD y] Q E := ⟨y, rfl, h1, h⟩
section
variable {P : Program} {w : World} {K : PySem.W.Frag} {mg : Str → Option Value} {base : Heap}
theorem ok__law_made (c : Ctx K mg) : FnOk P w K mg base (L2N.CX P w) 5 (A__law_made K) (fdA K (A__law_made K)) ["_law_house"] (spM .A K W0 (pf__law_made K)) := by
  refine okQ (F__law_made c) sc__law_made (fun ω ds Q E h => ?_) (fun cdv A outer s0 H E hr tk pown => (qss_cons (qs_setLc (i := 1) (own := [("_law_places", 2)]) rfl sc__law_made.nd rfl rfl (sw_true rfl rfl rfl (by decide +kernel)) (qi_lst (qe_ix ix_list ixLP (qe_va (pv 0)) qe_int (fun _ _ => rfl))) (blkOk_by (N := N__law_made) (sc := defScope s__law_made) (by decide +kernel)) (fun _ _ _ _ _ => (qg_name (i := 2) sc__law_made.nd rfl (Or.inl rfl))) (fun _ _ _ _ _ => qts_nil) (fun _ _ _ _ _ => (qe_make (qe_adr (pe_glob (v := .ref (He.ga K "Numbering")) rfl (g_Numbering c) rfl)) (mk_Numbering c) (rawF (ok_Numbering___init__ (P := P) c) (b_Numbering___init__ c)) (mkp_Numbering c) (hr.mono (by decide)) (fun _ => passAt0 _) (qa_cons (qe_cT cr_list listP rfl (n_list c) (by decide +kernel) (qa_cons (qe_va (pv 2)) qa_nil)) qa_nil))))
  (qss_one (qs_ret (qe_make (qe_adr (pe_glob (v := .ref (He.ga K "System")) rfl (g_System c) rfl)) (mk_System c) (rawF (ok_System___init__ (P := P) c) (b_System___init__ c)) (mkp_System c) (hr.mono (by decide)) (fun σ => L2N.passAt tk σ) (qa_cons (qe_make (qe_adr (pe_glob (v := .ref (He.ga K "Program")) rfl (g_Program c) rfl)) (mk_Program c) (rawF (ok_Program___init__ (P := P) c) (b_Program___init__ c)) (mkp_Program c) (hr.mono (by decide)) (fun σ => L2N.passAt tk σ) (qa_cons (qe_cT cr_list listP rfl (n_list c) (by decide +kernel) (qa_cons (qe_ix ix_list ixLP (qe_va (pv 0)) qe_int (fun _ _ => rfl)) qa_nil)) qa_nil)) (qa_cons (qe_va (pv 1)) (qa_cons (qe_ix ix_list ixLP (qe_va (pv 0)) qe_int (fun _ _ => rfl)) qa_nil)))))))) (fun ω ds Q E h => ?_)
  · first | (obtain ⟨rfl, _⟩ := h; rfl) | (obtain ⟨_, rfl, _⟩ := h; rfl) | (obtain ⟨_, _, rfl, _⟩ := h; rfl) | (obtain ⟨_, _, _, rfl, _⟩ := h; rfl) | (obtain ⟨_, _, _, _, rfl, _⟩ := h; rfl) | (obtain ⟨_, _, _, _, _, rfl, _⟩ := h; rfl) | (obtain ⟨_, _, _, _, _, _, rfl, _⟩ := h; rfl) | (obtain ⟨_, _, _, _, _, _, _, rfl, _⟩ := h; rfl)
  · skip
    obtain ⟨y, rfl, hy, Qk⟩ := h
    have w6 := hy.2.2.1
    walk_at "v"
    refine v_kLcM (fun d => match d with | .lst ds => .ins (NC K) ["places"] [.tup ds] | _ => .non) (by rw [List.length_map]; omega) rfl (fun i d Q' hd hq => ?_) ?_
    · rw [List.getElem?_map] at hd
      obtain ⟨o, ho, rfl⟩ := Option.map_eq_some_iff.mp hd
      walk_at "v"
      refine ⟨rfl, ?_⟩
      walk_at "v"
      refine v_num (hy.2.2.2.2.2.1 o (List.mem_of_getElem? ho)).1 ?_
      refine ⟨pure_num _, ?_⟩
      exact hq
    have e : ((y.os.map fun o => D.lst (dInts o)).map fun d => match d with | .lst ds => D.ins (NC K) ["places"] [.tup ds] | _ => .non) = numsD K y.os := by
      rw [List.map_map] <;> rfl
    rw [e]
    walk_at "v"
    refine v_prog hy.1.okP ?_
    refine ⟨pure_prog hy.1.okP, ?_⟩
    walk_at "v"
    refine v_sys hy ?_
    refine ⟨pure_sys hy, ?_⟩
    exact Qk
end
def pf__law_orders : PSp W0 := fun _ ds Q _ => ∃ n : Nat, ds = [.int n] ∧ n ≤ 6 ∧ Q () (.lst ((ordsL n).map olD))
theorem v_orders {n : Nat} {Q : Unit → D → Prop} {E : Unit → Exn → Prop} (h1 : n ≤ 6) (q : Q () (.lst ((ordsL n).map olD))) : pf__law_orders () [.int n] Q E := ⟨n, rfl, h1, q⟩
section
variable {P : Program} {w : World} {K : PySem.W.Frag} {mg : Str → Option Value} {base : Heap}
theorem ok__law_orders (c : Ctx K mg) : FnOk P w K mg base (L2N.CX P w) 1 (A__law_orders K) (fdA K (A__law_orders K)) ["_law_workers"] (spM .A K W0 (pf__law_orders)) := by
  refine okQ (F__law_orders c) sc__law_orders (fun ω ds Q E h => ?_) (fun cdv A outer s0 H E hr tk pown => (qss_cons (qs_set (i := 1) sc__law_orders.nd rfl (Or.inl rfl) (qe_lst (qa_cons (qe_lst qa_nil) qa_nil)))
  (qss_cons (qs_for pown rfl (qi_rg1 rfl (n_range c) (qe_va (pv 0))) (qg_name (i := 2) sc__law_orders.nd rfl (Or.inl rfl))
    (qss_cons (qs_setO (i := 3) sc__law_orders.nd rfl (Or.inl rfl) (qe_lst qa_nil))
    (qss_cons (qs_for pown rfl (qi_lst (qe_va (pv 1))) (qg_name (i := 4) sc__law_orders.nd rfl (Or.inl rfl))
      (qss_one (qs_for pown rfl (qi_rg2 rfl (n_range c) qe_int (qe_op op_add opI0_int (qe_va (pv 0)) qe_int)) (qg_name (i := 5) sc__law_orders.nd rfl (Or.inl rfl))
        (qss_one (qs_if (qb_cmp op_notIn_seq opInP (qe_va (pv 5)) (qe_va (pv 4)) (by rfl))
          (qss_one (qs_app (i := 3) rfl (pv 3) (qe_op op_catR opCatP (qe_va (pv 4)) (qe_lst (qa_cons (qe_va (pv 5)) qa_nil)))))
          qss_nil)))))
    (qss_one (qs_set (i := 1) sc__law_orders.nd rfl (Or.inl rfl) (qe_cT cr_list listP rfl (n_list c) (by decide +kernel) (qa_cons (qe_v (pv 3)) qa_nil)))))))
  (qss_one (qs_ret (qe_va (pv 1))))))) (fun ω ds Q E h => ?_)
  · first | (obtain ⟨rfl, _⟩ := h; rfl) | (obtain ⟨_, rfl, _⟩ := h; rfl) | (obtain ⟨_, _, rfl, _⟩ := h; rfl) | (obtain ⟨_, _, _, rfl, _⟩ := h; rfl) | (obtain ⟨_, _, _, _, rfl, _⟩ := h; rfl) | (obtain ⟨_, _, _, _, _, rfl, _⟩ := h; rfl) | (obtain ⟨_, _, _, _, _, _, rfl, _⟩ := h; rfl) | (obtain ⟨_, _, _, _, _, _, _, rfl, _⟩ := h; rfl)
  · skip
    obtain ⟨n, rfl, n6, Qk⟩ := h
    walk_at "v"
    refine v_kForR (fun i ω' ρ => ω' = () ∧ ∃ o2 o3 o4 o5, ρ = [.va (.int n), .va (.lst ((rowsO n i).map olD)), o2, o3, o4, o5]) ⟨rfl, .no, .no, .no, .no, rfl⟩ ?_ ?_
    · rintro i ω' ρ hi ⟨rfl, o2, o3, o4, o5, rfl⟩
      have hlen : (rowsO n i).length ≤ 46656 := by
        rw [rowsO_inc, List.length_map]
        exact Nat.le_trans (rowsP_len n6 i) (pow6 (by omega))
      walk_at "v"
      rename_i l
      refine v_kFor (fun a ω' ρ => ω' = () ∧ ∃ o4 o5, ρ = [.va (.int n), .va (.lst ((rowsO n i).map olD)), .va (.int i), .ow l ((((rowsO n i).take a).flatMap (nextO n)).map olD), o4, o5]) ⟨rfl, o4, o5, rfl⟩ ?_ ?_
      · rintro a d ω' ρ hd ⟨rfl, o4, o5, rfl⟩
        rw [List.getElem?_map] at hd
        obtain ⟨b, hb, rfl⟩ := Option.map_eq_some_iff.mp hd
        have hbl : b.length = i := by
          have hm := List.mem_of_getElem? hb
          rw [rowsO_inc] at hm
          obtain ⟨b0, h0, rfl⟩ := List.mem_map.mp hm
          unfold incL
          rw [List.length_map, (rowsP_ok h0).len]
        have hfl : (((rowsO n i).take a).flatMap (nextO n)).length ≤ 46656 * 6 := by
          refine Nat.le_trans (flatMap_len (n := 6) (fun a => ?_) _) (Nat.mul_le_mul (by rw [List.length_take]; omega) (Nat.le_refl _))
          unfold nextO
          rw [List.length_map]
          refine Nat.le_trans (List.length_filter_le _ _) ?_
          rw [length_rgI]
          omega
        walk_at "v"
        refine v_kForRg (fun j ω' ρ => ω' = () ∧ ∃ o5, ρ = [.va (.int n), .va (.lst ((rowsO n i).map olD)), .va (.int i), .ow l (((((rowsO n i).take a).flatMap (nextO n)) ++ (((rgI 1 (1 + j)).filter fun p => !decide (p ∈ b)).map fun p => b ++ [p])).map olD), .va (olD b), o5]) ⟨rfl, o5, ?_⟩ ?_ ?_
        · have : rgI 1 (1 + ((0 : Nat) : Int)) = [] := rfl
          rw [this]
          simp
        · rintro j ω' ρ hj ⟨rfl, o5, rfl⟩
          have et : rgI 1 (1 + ((j + 1 : Nat) : Int)) = rgI 1 (1 + (j : Int)) ++ [1 + (j : Int)] := by
            unfold rgI
            rw [show (1 + ((j + 1 : Nat) : Int) - 1).toNat = j + 1 by omega, show (1 + (j : Int) - 1).toNat = j by omega, List.range_succ, List.map_append] <;> rfl
          have hfj : (((rgI 1 (1 + (j : Int))).filter fun p => !decide (p ∈ b)).map fun p => b ++ [p]).length ≤ 6 := by
            rw [List.length_map]
            refine Nat.le_trans (List.length_filter_le _ _) ?_
            rw [length_rgI]
            omega
          walk_at "v"
          refine v_ninLI ?_
          refine ⟨_, rfl, ?_⟩
          by_cases hp : (1 + (j : Int)) ∈ b
          · rw [if_neg (by simpa using hp)]
            walk_at "v"
            refine ⟨rfl, .va (.int (1 + (j : Int))), ?_⟩
            rw [et, List.filter_append, List.filter_cons_of_neg (by simpa using hp)]
            simp
          · rw [if_pos (by simpa using hp)]
            walk_at "v"
            refine v_app rfl (by rw [List.length_map, List.length_append]; omega) ?_
            walk_at "v"
            refine ⟨rfl, .va (.int (1 + (j : Int))), ?_⟩
            rw [et, List.filter_append, List.filter_cons_of_pos (by simpa using hp)]
            simp [dInts]
        · rintro ω' ρ ⟨rfl, o5, rfl⟩
          have e : (1 : Int) + (((n : Int) + 1 - 1).toNat : Nat) = (n : Int) + 1 := by omega
          simp only [flatMap_take hb, e]
          exact ⟨trivial, _, o5, rfl⟩
      · rintro ω' ρ ⟨rfl, o4, o5, rfl⟩
        rw [List.length_map, List.take_of_length_le (Nat.le_refl _)]
        walk_at "v"
        exact ⟨rfl, _, _, _, _, rfl⟩
    · rintro ω' ρ ⟨rfl, o2, o3, o4, o5, rfl⟩
      walk_at "v"
      rw [rowsO_all]
      exact Qk
end
def pf__law_exchanged : PSp W0 := fun _ ds Q _ => ∃ (os : List (List Int)) (ord : List Int), ds = [.lst (os.map olD), .lst (dInts ord)] ∧ os.length ≤ 12 ∧ IsOrd ord os.length ∧ Q () (.lst ((exO os ord).map olD))
theorem v_exchangedL {os : List (List Int)} {ord : List Int} {Q : Unit → D → Prop} {E : Unit → Exn → Prop} (hl : os.length ≤ 12) (ho : IsOrd ord os.length) (h : Q () (.lst ((exO os ord).map olD))) : pf__law_exchanged () [.lst (os.map olD), .lst (dInts ord)] Q E := ⟨os, ord, rfl, hl, ho, h⟩
section
variable {P : Program} {w : World} {K : PySem.W.Frag} {mg : Str → Option Value} {base : Heap}
theorem ok__law_exchanged (c : Ctx K mg) : FnOk P w K mg base (L2N.CX P w) 1 (A__law_exchanged K) (fdA K (A__law_exchanged K)) ["_law_orders_here", "_law_order"] (spM .F K W0 (pf__law_exchanged)) := by
  refine okQ (F__law_exchanged c) sc__law_exchanged (fun ω ds Q E h => ?_) (fun cdv A outer s0 H E hr tk pown => (qss_cons (qs_setO (i := 2) sc__law_exchanged.nd rfl (Or.inl rfl) (qe_cT cr_list listP rfl (n_list c) (by decide +kernel) (qa_cons (qe_va (pv 0)) qa_nil)))
  (qss_cons (qs_for pown rfl (qi_rg1 rfl (n_range c) (qe_cB cr_len lenP rfl (n_len c) (by decide +kernel) (qa_cons (qe_va (pv 1)) qa_nil))) (qg_name (i := 3) sc__law_exchanged.nd rfl (Or.inl rfl))
    (qss_one (qs_put (i := 2) rfl (qe_ix ix_list ixLP (qe_va (pv 0)) (qe_va (pv 3)) (fun _ _ => rfl)) (pv 2) (qe_op op_sub opI0_int (qe_ix ix_list ixLP (qe_va (pv 1)) (qe_va (pv 3)) (fun _ _ => rfl)) qe_int))))
  (qss_one (qs_retO (i := 2) (pv 2)))))) (fun ω ds Q E h => ?_)
  · first | (obtain ⟨rfl, _⟩ := h; rfl) | (obtain ⟨_, rfl, _⟩ := h; rfl) | (obtain ⟨_, _, rfl, _⟩ := h; rfl) | (obtain ⟨_, _, _, rfl, _⟩ := h; rfl) | (obtain ⟨_, _, _, _, rfl, _⟩ := h; rfl) | (obtain ⟨_, _, _, _, _, rfl, _⟩ := h; rfl) | (obtain ⟨_, _, _, _, _, _, rfl, _⟩ := h; rfl) | (obtain ⟨_, _, _, _, _, _, _, rfl, _⟩ := h; rfl)
  · skip
    obtain ⟨os, ord, rfl, hl, ho, Qk⟩ := h
    walk_at "v"
    rename_i l
    rw [length_dInts, ho.len]
    walk_at "v"
    refine v_kForR (fun i ω' ρ => ω' = () ∧ ∃ (ys : List (List Int)) (o3 : Sl), ExI [] os ord i ys ∧ ρ = [.va (.lst (os.map olD)), .va (.lst (dInts ord)), .ow l (ys.map olD), o3]) ⟨rfl, os, _, ExI.zero, rfl⟩ ?_ ?_
    · rintro i ω' ρ hi ⟨rfl, ys, o3, hx, rfl⟩
      have hb := ho.at_ (w := (i : Int) + 1) (by omega) (by omega)
      rw [show (i : Int) + 1 - 1 = i by omega] at hb
      have e1 : atI (os.map olD) (i : Int) = some (olD (os.getD i [])) := by
        refine atI_of (by omega) ?_
        rw [List.getElem?_map, Int.toNat_natCast, List.getD_eq_getElem?_getD, List.getElem?_eq_getElem (by omega)] <;> rfl
      have hyl := hx.1
      walk_at "v"
      refine v_ixL e1 ?_
      walk_at "v"
      refine v_ixL (atI_ints (ns := ord) (k := (i : Int)) (by omega) (by rw [ho.len]; omega)) ?_
      walk_at "v"
      refine v_kPut2 (ixN_nat (by omega) (by rw [List.length_map]; omega)) ?_
      walk_at "v"
      exact ⟨rfl, _, _, hx.step ho rfl hi, by rw [List.map_set] <;> rfl⟩
    rintro ω' ρ ⟨rfl, ys, o3, hx, rfl⟩
    have e := hx.done ho rfl
    walk_at "v"
    rw [e]
    exact Qk
end
def pf__law_renamed : PSp W0 := fun _ ds Q _ => ∃ (os : List (List Int)) (pl : List Int), ds = [.lst (os.map olD), .lst (dInts pl)] ∧ os.length ≤ 12 ∧ IsNum pl ∧ (∀ o ∈ os, IsNum o ∧ o.length = pl.length) ∧ Q () (.lst ((renO os pl).map olD))
theorem v_renamedL {os : List (List Int)} {pl : List Int} {Q : Unit → D → Prop} {E : Unit → Exn → Prop} (hl : os.length ≤ 12) (hp : IsNum pl) (ho : ∀ o ∈ os, IsNum o ∧ o.length = pl.length) (h : Q () (.lst ((renO os pl).map olD))) : pf__law_renamed () [.lst (os.map olD), .lst (dInts pl)] Q E := ⟨os, pl, rfl, hl, hp, ho, h⟩
section
variable {P : Program} {w : World} {K : PySem.W.Frag} {mg : Str → Option Value} {base : Heap}
theorem ok__law_renamed (c : Ctx K mg) : FnOk P w K mg base (L2N.CX P w) 1 (A__law_renamed K) (fdA K (A__law_renamed K)) ["_law_orders_here", "_law_places"] (spM .F K W0 (pf__law_renamed)) := by
  refine okQ (F__law_renamed c) sc__law_renamed (fun ω ds Q E h => ?_) (fun cdv A outer s0 H E hr tk pown => (qss_one (qs_retF (qe_lc (own := [("_law_row", 2)]) rfl sc__law_renamed.nd (qi_lst (qe_va (pv 0))) (blkOk_by (N := N__law_renamed) (sc := defScope s__law_renamed) (by decide +kernel)) (fun _ _ _ _ _ => (qg_name (i := 2) sc__law_renamed.nd rfl (Or.inl rfl))) (fun _ _ _ _ _ => qts_nil) (fun _ _ _ _ _ => (qe_FA (qe_lc (own := [("_law_place", 3)]) rfl sc__law_renamed.nd (qi_lst (qe_va (pv 2))) (blkOk_in2 (N := N__law_renamed) (sc0 := defScope s__law_renamed) rfl (by decide +kernel)) (fun _ _ _ _ _ => (qg_name (i := 3) sc__law_renamed.nd rfl (Or.inl rfl))) (fun _ _ _ _ _ => qts_nil) (fun _ _ _ _ _ => (qe_ix ix_list ixLP (qe_va (pv 1)) (qe_va (pv 3)) (fun _ _ => rfl)))))))))) (fun ω ds Q E h => ?_)
  · first | (obtain ⟨rfl, _⟩ := h; rfl) | (obtain ⟨_, rfl, _⟩ := h; rfl) | (obtain ⟨_, _, rfl, _⟩ := h; rfl) | (obtain ⟨_, _, _, rfl, _⟩ := h; rfl) | (obtain ⟨_, _, _, _, rfl, _⟩ := h; rfl) | (obtain ⟨_, _, _, _, _, rfl, _⟩ := h; rfl) | (obtain ⟨_, _, _, _, _, _, rfl, _⟩ := h; rfl) | (obtain ⟨_, _, _, _, _, _, _, rfl, _⟩ := h; rfl)
  · skip
    obtain ⟨os, pl, rfl, hl, hp, ho, Qk⟩ := h
    have l12 := hp.2.1
    walk_at "v"
    refine v_kLcM (fun d => match d with | .lst ds => .lst (ds.map fun d => match d with | .int i => .int (atP pl i) | _ => .non) | _ => .non) (by rw [List.length_map]; omega) rfl (fun i d Q' hd hq => ?_) ?_
    · rw [List.getElem?_map] at hd
      obtain ⟨o, hm, rfl⟩ := Option.map_eq_some_iff.mp hd
      obtain ⟨n1, n2⟩ := ho o (List.mem_of_getElem? hm)
      walk_at "v"
      refine ⟨rfl, ?_⟩
      walk_at "v"
      refine v_kLcM (fun d => match d with | .int i => .int (atP pl i) | _ => .non) (by rw [length_dInts]; omega) rfl (fun j d Q'' hd hq => ?_) ?_
      · unfold dInts at hd
        rw [List.getElem?_map] at hd
        obtain ⟨z, hz, rfl⟩ := Option.map_eq_some_iff.mp hd
        have hb := n1.get hz
        walk_at "v"
        refine ⟨rfl, ?_⟩
        walk_at "v"
        exact v_ixL (atI_ints hb.1 (by omega)) hq
      · exact hq
    walk_at "v"
    have e : (os.map olD).map (fun d => match d with | .lst ds => D.lst (ds.map fun d => match d with | .int i => .int (atP pl i) | _ => .non) | _ => .non) = (renO os pl).map olD := by
      unfold renO
      rw [List.map_map, List.map_map]
      refine List.map_congr_left fun o _ => ?_
      show D.lst ((dInts o).map _) = D.lst (dInts (mulP pl o))
      unfold dInts mulP
      rw [List.map_map, List.map_map] <;> rfl
    rw [e]
    exact Qk
end
def symT (y : Sy) (ord : List Int) : D := .tup [olD ord, olD (symP y ord)]
def symsL (y : Sy) : List (List Int) := (ordsL y.os.length).filter fun ord => decide (renO (exO y.os ord) (symP y ord) = y.os)
def pf__law_symmetries : PSp W0 := fun _ ds Q _ => ∃ (y : Sy), ds = [.lst (y.os.map olD)] ∧ y.ok ∧ Q () (.lst ((symsL y).map (symT y)))
theorem v_syms {y : Sy} {Q : Unit → D → Prop} {E : Unit → Exn → Prop} (h1 : y.ok) (q : Q () (.lst ((symsL y).map (symT y)))) : pf__law_symmetries () [.lst (y.os.map olD)] Q E := ⟨y, rfl, h1, q⟩
theorem olD_inj {a b : List (List Int)} (h : a.map olD = b.map olD) : a = b := (List.map_inj_right (f := olD) fun x y e => dInts_inj (D.lst.inj e)).mp h
theorem dep_olD (os : List (List Int)) : (D.lst (os.map olD)).dep 2 = true := List.all_eq_true.mpr fun d hd => by
  obtain ⟨o, _, rfl⟩ := List.mem_map.mp hd
  exact dep_dInts (n := 0) o
section
variable {P : Program} {w : World} {K : PySem.W.Frag} {mg : Str → Option Value} {base : Heap}
theorem ok__law_symmetries (c : Ctx K mg) : FnOk P w K mg base (L2N.CX P w) 2 (A__law_symmetries K) (fdA K (A__law_symmetries K)) ["_law_orders_here"] (spM .F K W0 (pf__law_symmetries)) := by
  refine okQ (F__law_symmetries c) sc__law_symmetries (fun ω ds Q E h => ?_) (fun cdv A outer s0 H E hr tk pown => (qss_cons (qs_setO (i := 1) sc__law_symmetries.nd rfl (Or.inl rfl) (qe_lst qa_nil))
  (qss_cons (qs_for pown rfl (qi_lst (qe_call (ok__law_orders (P := P) c) (hr.mono (by decide)) rfl (g__law_orders c) (F__law_orders c).kp (b__law_orders c) (fun σ => L2N.passAt tk σ) (qa_cons (qe_cB cr_len lenP rfl (n_len c) (by decide +kernel) (qa_cons (qe_va (pv 0)) qa_nil)) qa_nil))) (qg_name (i := 2) sc__law_symmetries.nd rfl (Or.inl rfl))
    (qss_cons (qs_set (i := 3) sc__law_symmetries.nd rfl (Or.inr rfl) (qe_call (ok__law_exchanged (P := P) c) (hr.mono (by decide)) rfl (g__law_exchanged c) (F__law_exchanged c).kp (b__law_exchanged c) (fun σ => L2N.passAt tk σ) (qa_cons (qe_va (pv 0)) (qa_cons (qe_va (pv 2)) qa_nil))))
    (qss_cons (qs_setLc (i := 4) (own := [("_law_place", 5)]) rfl sc__law_symmetries.nd rfl rfl (sw_true rfl rfl rfl (by decide +kernel)) (qi_rg1 rfl (n_range c) (qe_cB cr_len lenP rfl (n_len c) (by decide +kernel) (qa_cons (qe_ix ix_list ixLP (qe_va (pv 3)) qe_int (fun _ _ => rfl)) qa_nil))) (blkOk_by (N := N__law_symmetries) (sc := defScope s__law_symmetries) (by decide +kernel)) (fun _ _ _ _ _ => (qg_name (i := 5) sc__law_symmetries.nd rfl (Or.inl rfl))) (fun _ _ _ _ _ => qts_nil) (fun _ _ _ _ _ => (qe_ix ix_list ixLP (qe_ix ix_list ixLP (qe_va (pv 0)) qe_int (fun _ _ => rfl)) (qe_bmL PySem.F.slot_list_index PySem.F.type_list_index mt_index lindexP (qe_ix ix_list ixLP (qe_va (pv 3)) qe_int (fun _ _ => rfl)) (qa_cons (qe_va (pv 5)) qa_nil)) (fun _ _ => rfl))))
    (qss_one (qs_if (qb_cmp (op_eqD hr.units) opEqDP (qe_call (ok__law_renamed (P := P) c) (hr.mono (by decide)) rfl (g__law_renamed c) (F__law_renamed c).kp (b__law_renamed c) (fun σ => L2N.passAt tk σ) (qa_cons (qe_va (pv 3)) (qa_cons (qe_va (pv 4)) qa_nil))) (qe_va (pv 0)) (nomark _))
      (qss_one (qs_app (i := 1) rfl (pv 1) (qe_tup (qa_cons (qe_va (pv 2)) (qa_cons (qe_va (pv 4)) qa_nil)))))
      qss_nil)))))
  (qss_one (qs_retO (i := 1) (pv 1)))))) (fun ω ds Q E h => ?_)
  · first | (obtain ⟨rfl, _⟩ := h; rfl) | (obtain ⟨_, rfl, _⟩ := h; rfl) | (obtain ⟨_, _, rfl, _⟩ := h; rfl) | (obtain ⟨_, _, _, rfl, _⟩ := h; rfl) | (obtain ⟨_, _, _, _, rfl, _⟩ := h; rfl) | (obtain ⟨_, _, _, _, _, rfl, _⟩ := h; rfl) | (obtain ⟨_, _, _, _, _, _, rfl, _⟩ := h; rfl) | (obtain ⟨_, _, _, _, _, _, _, rfl, _⟩ := h; rfl)
  · skip
    obtain ⟨y, rfl, hy, Qk⟩ := h
    have W1 := hy.2.1
    have W6 := hy.2.2.1
    have n12 := hy.2.2.2.2.1
    walk_at "v"
    rename_i l
    rw [List.length_map]
    refine v_orders W6 ?_
    walk_at "v"
    have lo : (ordsL y.os.length).length ≤ 46656 := by
      unfold ordsL
      rw [List.length_map]
      exact Nat.le_trans (rowsP_len W6 _) (pow6 W6)
    have e00 : atI (y.os.map olD) 0 = some (olD (y.os.getD 0 [])) := atI_of (by omega) (by rw [List.getElem?_map, List.getD_eq_getElem?_getD, show ((0 : Int)).toNat = 0 from rfl, List.getElem?_eq_getElem W1] <;> rfl)
    refine v_kFor (fun i ω' ρ => ω' = () ∧ ∃ o2 o3 o4, allVa [o2, o3, o4] = true ∧ ρ = [.va (.lst (y.os.map olD)), .ow l ((((ordsL y.os.length).take i).filter fun ord => decide (renO (exO y.os ord) (symP y ord) = y.os)).map (symT y)), o2, o3, o4, .no]) ⟨rfl, .no, .no, .no, rfl, rfl⟩ ?_ ?_
    · rintro i d ω' ρ hi ⟨rfl, o2, o3, o4, ho, rfl⟩
      rw [List.getElem?_map] at hi
      obtain ⟨ord, hb, rfl⟩ := Option.map_eq_some_iff.mp hi
      have hord : IsOrd ord y.os.length := ordsL_ord (List.mem_of_getElem? hb)
      have dok := Sy.exch_ok hy hord
      have l0 : 0 < (y.exch ord).os.length := dok.2.1
      have e0 : atI ((exO y.os ord).map olD) 0 = some (olD ((y.exch ord).os.getD 0 [])) := atI_of (by omega) (by rw [List.getElem?_map, List.getD_eq_getElem?_getD, show ((0 : Int)).toNat = 0 from rfl, show (exO y.os ord)[0]? = some (y.exch ord).os[0] from List.getElem?_eq_getElem l0, List.getElem?_eq_getElem l0] <;> rfl)
      have n0 := row_num dok l0
      have n1 : ((y.exch ord).os.getD 0 []).length = y.n := row_len dok l0
      have m0 := row_num hy (i := 0) W1
      have m1 := row_len hy (i := 0) W1
      obtain ⟨p1, p2, p3⟩ := symP_ok hy hord
      walk_at "v"
      refine v_exchangedL (by omega) hord ?_
      walk_at "v"
      refine v_ixL e0 ?_
      walk_at "v"
      rw [length_dInts]
      walk_at "v"
      rw [rgI_rg]
      refine v_kLcMI (ns := rg ((y.exch ord).os.getD 0 []).length) (fun x => .int (atP (y.os.getD 0 []) (((y.exch ord).os.getD 0 []).idxOf x : Nat))) (by rw [length_rg, n1]; omega) (by cases o4 <;> first | rfl | exact ho) (fun j x Q' hx hq => ?_) ?_
      · have hx2 := mem_rg.mp (List.mem_of_getElem? hx)
        have hl := List.idxOf_lt_length_of_mem (n0.mem.mpr hx2)
        walk_at "v"
        refine ⟨rfl, ?_⟩
        walk_at "v"
        refine v_ixL e00 ?_
        walk_at "v"
        refine v_ixL e0 ?_
        walk_at "v"
        refine v_lindex (n0.mem.mpr hx2) ?_
        exact v_ixL (atI_ints (by omega) (by rw [m1]; omega)) hq
      have e1 : (rg ((y.exch ord).os.getD 0 []).length).map (fun x => D.int (atP (y.os.getD 0 []) (((y.exch ord).os.getD 0 []).idxOf x : Nat))) = dInts (symP y ord) := by
        unfold symP mulP invP dInts
        rw [List.map_map, List.map_map] <;> rfl
      rw [e1]
      walk_at "v"
      refine v_renamedL (by show (List.map _ _).length ≤ _; rw [List.length_map, length_formF]; omega) p1 (fun o hm => by have := dok.2.2.2.2.2.1 o hm; exact ⟨this.1, by rw [p2]; exact this.2⟩) ?_
      walk_at "v"
      have e9 : (ordsL y.os.length).take (i + 1) = (ordsL y.os.length).take i ++ [ord] := by rw [List.take_add_one, hb] <;> rfl
      refine v_eqD 2 (by decide) (dep_olD _) (dep_olD _) ?_
      refine ⟨_, rfl, ?_⟩
      by_cases q : renO (exO y.os ord) (symP y ord) = y.os
      · rw [if_pos (deq_t (by rw [q]))]
        have e8 : ((ordsL y.os.length).take (i + 1)).filter (fun ord => decide (renO (exO y.os ord) (symP y ord) = y.os)) = ((ordsL y.os.length).take i).filter (fun ord => decide (renO (exO y.os ord) (symP y ord) = y.os)) ++ [ord] := by
          rw [e9, List.filter_append]
          simp [q]
        refine v_app (l := l) (ds := (((ordsL y.os.length).take i).filter fun ord => decide (renO (exO y.os ord) (symP y ord) = y.os)).map (symT y)) rfl (by rw [List.length_map]; refine Nat.lt_of_le_of_lt (List.length_filter_le _ _) ?_; rw [List.length_take]; omega) ?_
        walk_at "v"
        simp only [e8, List.map_append]
        exact ⟨trivial, _, _, _, rfl, rfl⟩
      · rw [if_neg (by rw [deq_f fun z => q (olD_inj (D.lst.inj z))]; decide)]
        have e8 : ((ordsL y.os.length).take (i + 1)).filter (fun ord => decide (renO (exO y.os ord) (symP y ord) = y.os)) = ((ordsL y.os.length).take i).filter (fun ord => decide (renO (exO y.os ord) (symP y ord) = y.os)) := by
          rw [e9, List.filter_append]
          simp [q]
        walk_at "v"
        simp only [e8]
        exact ⟨trivial, _, _, _, rfl, rfl⟩
    · rintro ω' ρ ⟨rfl, o2, o3, o4, ho, rfl⟩
      rw [List.length_map, List.take_of_length_le (Nat.le_refl _)]
      walk_at "v"
      exact Qk
end
def pf__law_drawn_state (K : PySem.W.Frag) : PSp (WT K) := fun ω ds Q _ => ∃ (t : Addr) (b : Nat) (y : Sy), ω = TS.tape t b ∧ ds = [.adr t, houseD y] ∧ b < 10000000 ∧ y.ok ∧ ∀ (b' : Nat) (cs : List Int) (ps : List (Int × Int)), b' ≤ b + 40 → StOk y cs ps → Q (TS.tape t b') (stD cs ps)
theorem v_drawnState {K : PySem.W.Frag} {t : Addr} {b : Nat} {y : Sy} {Q : TS → D → Prop} {E : TS → Exn → Prop} (hb : b < 10000000) (hy : y.ok) (h : ∀ (b' : Nat) (cs : List Int) (ps : List (Int × Int)), b' ≤ b + 40 → StOk y cs ps → Q (TS.tape t b') (stD cs ps)) : pf__law_drawn_state K (TS.tape t b) [.adr t, houseD y] Q E := ⟨t, b, y, rfl, rfl, hb, hy, h⟩
section
variable {P : Program} {w : World} {K : PySem.W.Frag} {mg : Str → Option Value} {base : Heap}
theorem ok__law_drawn_state (c : Ctx K mg) : FnOk P w K mg base (L2N.CX P w) 2 (A__law_drawn_state K) (fdA K (A__law_drawn_state K)) ["_law_tape", "_law_house"] (spM .A K (WT K) (pf__law_drawn_state K)) := by
  refine okQ (F__law_drawn_state c) sc__law_drawn_state (fun ω ds Q E h => ?_) (fun cdv A outer s0 H E hr tk pown => (qss_cons (qs_set (i := 2) sc__law_drawn_state.nd rfl (Or.inr rfl) (qe_cB cr_len lenP rfl (n_len c) (by decide +kernel) (qa_cons (qe_ix ix_list ixLP (qe_ix ix_list ixLP (qe_va (pv 1)) qe_int (fun _ _ => rfl)) qe_int (fun _ _ => rfl)) qa_nil)))
  (qss_cons (qs_setLc (i := 3) (own := [("_law_k", 5)]) rfl sc__law_drawn_state.nd rfl rfl (sw_true rfl rfl rfl (by decide +kernel)) (qi_rg1 rfl (n_range c) (qe_va (pv 2))) (blkOk_by (N := N__law_drawn_state) (sc := defScope s__law_drawn_state) (by decide +kernel)) (fun _ _ _ _ _ => (qg_name (i := 5) sc__law_drawn_state.nd rfl (Or.inl rfl))) (fun _ _ _ _ _ => qts_nil) (fun _ _ _ _ _ => (qe_call (okp__law_draw (P := P) c) (hr.mono (by decide)) rfl (g__law_draw c) (F__law_draw c).kp (b__law_draw c) (fun _ => passAt0 _) (qa_cons (qe_va (pv 0)) (qa_cons (qe_op op_add opI0_int (qe_cB cr_len lenP rfl (n_len c) (by decide +kernel) (qa_cons (qe_ix ix_list ixLP (qe_va (pv 1)) qe_int (fun _ _ => rfl)) qa_nil)) qe_int) qa_nil)))))
  (qss_cons (qs_setLc (i := 4) (own := [("_law_k", 5)]) rfl sc__law_drawn_state.nd rfl rfl (sw_true rfl rfl rfl (by decide +kernel)) (qi_rg1 rfl (n_range c) (qe_cB cr_len lenP rfl (n_len c) (by decide +kernel) (qa_cons (qe_ix ix_list ixLP (qe_va (pv 1)) qe_int (fun _ _ => rfl)) qa_nil))) (blkOk_by (N := N__law_drawn_state) (sc := defScope s__law_drawn_state) (by decide +kernel)) (fun _ _ _ _ _ => (qg_name (i := 5) sc__law_drawn_state.nd rfl (Or.inl rfl))) (fun _ _ _ _ _ => qts_nil) (fun _ _ _ _ _ => (qe_tup (qa_cons (qe_call (okp__law_draw (P := P) c) (hr.mono (by decide)) rfl (g__law_draw c) (F__law_draw c).kp (b__law_draw c) (fun _ => passAt0 _) (qa_cons (qe_va (pv 0)) (qa_cons (qe_cB cr_len lenP rfl (n_len c) (by decide +kernel) (qa_cons (qe_ix ix_list ixLP (qe_va (pv 1)) qe_int (fun _ _ => rfl)) qa_nil)) qa_nil))) (qa_cons (qe_call (okp__law_draw (P := P) c) (hr.mono (by decide)) rfl (g__law_draw c) (F__law_draw c).kp (b__law_draw c) (fun _ => passAt0 _) (qa_cons (qe_va (pv 0)) (qa_cons (qe_va (pv 2)) qa_nil))) qa_nil)))))
  (qss_one (qs_ret (qe_tup (qa_cons (qe_cT cr_tuple tupleP rfl (n_tuple c) (by decide +kernel) (qa_cons (qe_va (pv 3)) qa_nil)) (qa_cons (qe_cT cr_tuple tupleP rfl (n_tuple c) (by decide +kernel) (qa_cons (qe_va (pv 4)) qa_nil)) qa_nil))))))))) (fun ω ds Q E h => ?_)
  · first | (obtain ⟨rfl, _⟩ := h; rfl) | (obtain ⟨_, rfl, _⟩ := h; rfl) | (obtain ⟨_, _, rfl, _⟩ := h; rfl) | (obtain ⟨_, _, _, rfl, _⟩ := h; rfl) | (obtain ⟨_, _, _, _, rfl, _⟩ := h; rfl) | (obtain ⟨_, _, _, _, _, rfl, _⟩ := h; rfl) | (obtain ⟨_, _, _, _, _, _, rfl, _⟩ := h; rfl) | (obtain ⟨_, _, _, _, _, _, _, rfl, _⟩ := h; rfl)
  · skip
    obtain ⟨t, b, y, rfl, rfl, hb, hy, Qk⟩ := h
    obtain ⟨hks, o1, o6, n1, n12, hos, c1, c6⟩ := id hy
    have l1 := hks.1
    have l24 := hks.2.1
    obtain ⟨o, r, hor⟩ : ∃ o r, y.os = o :: r := by
      cases e : y.os with
      | nil => rw [e] at o1; exact absurd o1 (by decide)
      | cons o r => exact ⟨o, r, rfl⟩
    have ho := (hos o (by rw [hor]; exact List.mem_cons_self)).2
    walk_at "v"
    refine v_ixL (show atI (y.os.map fun o => D.lst (dInts o)) 0 = some (.lst (dInts o)) from atI_of (by decide) (by rw [hor] <;> rfl)) ?_
    walk_at "v"
    rw [length_dInts, ho]
    walk_at "v"
    rw [rgI_rg]
    refine v_kLcW (fun i ω acc => ∃ cs : List Int, ω = TS.tape t (b + i) ∧ acc = dInts cs ∧ cs.length = i ∧ ∀ c ∈ cs, 0 ≤ c ∧ c ≤ y.os.length) (by rw [length_dInts, length_rg]; omega) ⟨[], rfl, rfl, rfl, fun _ z => by cases z⟩ rfl (fun i d ω acc hd ⟨cs, e1, e2, e3, e4⟩ _ => ?_) (fun ω acc ⟨cs, e1, e2, e3, e4⟩ => ?_)
    · subst e1 e2
      have hi : i < y.n := by
        have z := (List.getElem?_eq_some_iff.mp hd).1
        rw [length_dInts, length_rg] at z
        exact z
      walk_at "v"
      refine ⟨rfl, ?_⟩
      walk_at "v"
      rw [List.length_map]
      refine v_draw (by omega) (by omega) (by omega) fun r r0 r1 => ?_
      walk_at "v"
      refine ⟨cs ++ [r], rfl, by rw [dInts_one, dInts_append], by rw [List.length_append, e3] <;> rfl, fun z hz => ?_⟩
      rcases List.mem_append.mp hz with q | q
      · exact e4 z q
      · rw [List.mem_singleton.mp q]; omega
    subst e1 e2
    rw [length_dInts, length_rg] at e3 ⊢
    walk_at "v"
    rw [List.length_map]
    walk_at "v"
    rw [rgI_rg]
    refine v_kLcW (fun i ω acc => ∃ ps : List (Int × Int), ω = TS.tape t (b + y.n + 2 * i) ∧ acc = ps.map prD ∧ ps.length = i ∧ ∀ p ∈ ps, (0 ≤ p.1 ∧ p.1 < y.ks.length) ∧ 0 ≤ p.2 ∧ p.2 < y.n) (by rw [length_dInts, length_rg]; omega) ⟨[], rfl, rfl, rfl, fun _ z => by cases z⟩ rfl (fun i d ω acc hd ⟨ps, e1, e2, e5, e6⟩ _ => ?_) (fun ω acc ⟨ps, e1, e2, e5, e6⟩ => ?_)
    · subst e1 e2
      have hi : i < y.os.length := by
        have z := (List.getElem?_eq_some_iff.mp hd).1
        rw [length_dInts, length_rg] at z
        exact z
      walk_at "v"
      refine ⟨rfl, ?_⟩
      walk_at "v"
      rw [length_dStrs, List.length_map]
      refine v_draw (by omega) (by omega) (by omega) fun l l0 l1 => ?_
      walk_at "v"
      refine v_draw (by omega) (by omega) (by omega) fun p p0 p1 => ?_
      walk_at "v"
      refine ⟨ps ++ [(l, p)], rfl, by rw [List.map_append] <;> rfl, by rw [List.length_append, e5] <;> rfl, fun z hz => ?_⟩
      rcases List.mem_append.mp hz with q | q
      · exact e6 z q
      · rw [List.mem_singleton.mp q]; exact ⟨⟨l0, l1⟩, p0, p1⟩
    subst e1 e2
    rw [length_dInts, length_rg] at e5 ⊢
    walk_at "v"
    exact Qk _ cs ps (by omega) ⟨e3, e5, e6, e4⟩
end
def pf__law_exchange : PSp W0 := fun _ ds Q _ => ∃ (cs : List Int) (ps : List (Int × Int)) (ord : List Int) (n : Nat), ds = [stD cs ps, .lst (dInts ord)] ∧ IsOrd ord n ∧ n ≤ 12 ∧ ps.length = n ∧ cs.length ≤ 12 ∧ (∀ c ∈ cs, 0 ≤ c ∧ c ≤ n) ∧
  ∀ ps' : List (Int × Int), ps'.length = n → (∀ w : Int, 1 ≤ w → w ≤ n → ps'.getD (ordF ord w - 1).toNat (0, 0) = ps.getD (w - 1).toNat (0, 0)) → Q () (stD (cs.map (ordF ord)) ps')
section
variable {P : Program} {w : World} {K : PySem.W.Frag} {mg : Str → Option Value} {base : Heap}
theorem ok__law_exchange (c : Ctx K mg) : FnOk P w K mg base (L2N.CX P w) 1 (A__law_exchange K) (fdA K (A__law_exchange K)) ["_law_state", "_law_order"] (spM .A K W0 (pf__law_exchange)) := by
  refine okQ (F__law_exchange c) sc__law_exchange (fun ω ds Q E h => ?_) (fun cdv A outer s0 H E hr tk pown => (qss_cons (qs_setLc (i := 2) (own := [("_law_content", 5)]) rfl sc__law_exchange.nd rfl rfl (sw_true rfl rfl rfl (by decide +kernel)) (qi_tup (qe_ix ix_tup ixTP (qe_va (pv 0)) qe_int (fun _ _ => rfl))) (blkOk_by (N := N__law_exchange) (sc := defScope s__law_exchange) (by decide +kernel)) (fun _ _ _ _ _ => (qg_name (i := 5) sc__law_exchange.nd rfl (Or.inl rfl))) (fun _ _ _ _ _ => qts_nil) (fun _ _ _ _ _ => (qe_ifE (m := .A) (qb_cmp op_eq opEqP (qe_va (pv 5)) qe_int (nomark _)) qe_int (qe_ix ix_list ixLP (qe_va (pv 1)) (qe_op op_sub opI0_int (qe_va (pv 5)) qe_int) (fun _ _ => rfl)))))
  (qss_cons (qs_setO (i := 3) sc__law_exchange.nd rfl (Or.inl rfl) (qe_cT cr_list listP rfl (n_list c) (by decide +kernel) (qa_cons (qe_ix ix_tup ixTP (qe_va (pv 0)) qe_int (fun _ _ => rfl)) qa_nil)))
  (qss_cons (qs_for pown rfl (qi_rg1 rfl (n_range c) (qe_cB cr_len lenP rfl (n_len c) (by decide +kernel) (qa_cons (qe_va (pv 1)) qa_nil))) (qg_name (i := 4) sc__law_exchange.nd rfl (Or.inl rfl))
    (qss_one (qs_put (i := 3) rfl (qe_ix ix_tup ixTP (qe_ix ix_tup ixTP (qe_va (pv 0)) qe_int (fun _ _ => rfl)) (qe_va (pv 4)) (fun _ _ => rfl)) (pv 3) (qe_op op_sub opI0_int (qe_ix ix_list ixLP (qe_va (pv 1)) (qe_va (pv 4)) (fun _ _ => rfl)) qe_int))))
  (qss_one (qs_ret (qe_tup (qa_cons (qe_cT cr_tuple tupleP rfl (n_tuple c) (by decide +kernel) (qa_cons (qe_va (pv 2)) qa_nil)) (qa_cons (qe_cT cr_tuple tupleP rfl (n_tuple c) (by decide +kernel) (qa_cons (qe_v (pv 3)) qa_nil)) qa_nil))))))))) (fun ω ds Q E h => ?_)
  · first | (obtain ⟨rfl, _⟩ := h; rfl) | (obtain ⟨_, rfl, _⟩ := h; rfl) | (obtain ⟨_, _, rfl, _⟩ := h; rfl) | (obtain ⟨_, _, _, rfl, _⟩ := h; rfl) | (obtain ⟨_, _, _, _, rfl, _⟩ := h; rfl) | (obtain ⟨_, _, _, _, _, rfl, _⟩ := h; rfl) | (obtain ⟨_, _, _, _, _, _, rfl, _⟩ := h; rfl) | (obtain ⟨_, _, _, _, _, _, _, rfl, _⟩ := h; rfl)
  · skip
    obtain ⟨cs, ps, ord, n, rfl, ho, n12, hps, hcs, hc, Qk⟩ := h
    walk_at "v"
    refine v_kLcMI (ns := cs) (fun x => .int (ordF ord x)) (by omega) rfl (fun i x Q' hx hq => ?_) ?_
    · have hb := hc x (List.mem_of_getElem? hx)
      walk_at "v"
      refine ⟨rfl, ?_⟩
      walk_at "v"
      refine w_iteP (fun e => ?_) (fun e => ?_)
      · walk_at "v"
        rw [e] at hq
        exact hq
      · walk_at "v"
        refine v_ixL (atI_ints (ns := ord) (k := x - 1) (by omega) (by rw [ho.len]; omega)) ?_
        unfold ordF at hq
        rw [if_neg e] at hq
        exact hq
    walk_at "v"
    rename_i l
    rw [length_dInts, ho.len]
    walk_at "v"
    refine v_kForR (fun i ω' ρ => ω' = () ∧ ∃ (ps' : List (Int × Int)) (o4 : Sl), (o4 = .no ∨ ∃ d, o4 = .va d) ∧ ps'.length = n ∧ (∀ w : Int, 1 ≤ w → w ≤ i → ps'.getD (ordF ord w - 1).toNat (0, 0) = ps.getD (w - 1).toNat (0, 0)) ∧ ρ = [.va (stD cs ps), .va (.lst (dInts ord)), .va (.lst (dInts (cs.map (ordF ord)))), .ow l (ps'.map prD), o4, .no]) ⟨rfl, ps, .no, .inl rfl, hps, fun w h1 h2 => by omega, by rw [← dInts_map] <;> rfl⟩ ?_ ?_
    · rintro i ω' ρ hi ⟨rfl, ps', o4, _, hl, hw, rfl⟩
      have e1 : atI (ps.map prD) (i : Int) = some (prD (ps.getD i (0, 0))) := by
        refine atI_of (by omega) ?_
        rw [List.getElem?_map, Int.toNat_natCast, List.getD_eq_getElem?_getD, List.getElem?_eq_getElem (by omega)] <;> rfl
      have hb := ho.at_ (w := (i : Int) + 1) (by omega) (by omega)
      have e2 : (i : Int) + 1 - 1 = i := by omega
      rw [e2] at hb
      walk_at "v"
      refine v_ixT e1 ?_
      walk_at "v"
      refine v_ixL (atI_ints (ns := ord) (k := (i : Int)) (by omega) (by rw [ho.len]; omega)) ?_
      walk_at "v"
      refine v_kPut2 (ixN_nat (by omega) (by rw [List.length_map]; omega)) ?_
      walk_at "v"
      refine ⟨rfl, ps'.set (atP ord i - 1).toNat (ps.getD i (0, 0)), _, .inr ⟨_, rfl⟩, by rw [List.length_set]; exact hl, fun w h1 h2 => ?_, by rw [← List.map_set] <;> rfl⟩
      have hz : ordF ord w = atP ord (w - 1) := if_neg (by omega)
      rw [hz]
      by_cases e : w = (i : Int) + 1
      · rw [e, e2, getD_set_eq (by omega), Int.toNat_natCast]
      · have hb2 := ho.at_ (w := w) h1 (by omega)
        have i1 := idx_nodup ho.nodup (k := w - 1) (by omega) (by rw [ho.len]; omega)
        have i2 := idx_nodup ho.nodup (k := (i : Int)) (by omega) (by rw [ho.len]; omega)
        have ne : atP ord i ≠ atP ord (w - 1) := fun z => by rw [z] at i2; omega
        rw [getD_set_ne (by omega)]
        have := hw w h1 (by omega)
        rw [hz] at this
        exact this
    rintro ω' ρ ⟨rfl, ps', o4, _, hl, hw, rfl⟩
    walk_at "v"
    exact Qk ps' hl hw
end
def pf__law_rename : PSp W0 := fun _ ds Q _ => ∃ (cs : List Int) (ps : List (Int × Int)) (pl : List Int), ds = [stD cs ps, .lst (dInts pl)] ∧ IsNum pl ∧ cs.length = pl.length ∧ ps.length ≤ 12 ∧
  ∀ cs' : List Int, cs'.length = pl.length → (∀ p : Int, 0 ≤ p → p < pl.length → atP cs' (atP pl p) = atP cs p) → Q () (stD cs' ps)
section
variable {P : Program} {w : World} {K : PySem.W.Frag} {mg : Str → Option Value} {base : Heap}
theorem ok__law_rename (c : Ctx K mg) : FnOk P w K mg base (L2N.CX P w) 1 (A__law_rename K) (fdA K (A__law_rename K)) ["_law_state", "_law_places"] (spM .A K W0 (pf__law_rename)) := by
  refine okQ (F__law_rename c) sc__law_rename (fun ω ds Q E h => ?_) (fun cdv A outer s0 H E hr tk pown => (qss_cons (qs_setO (i := 2) sc__law_rename.nd rfl (Or.inl rfl) (qe_cT cr_list listP rfl (n_list c) (by decide +kernel) (qa_cons (qe_ix ix_tup ixTP (qe_va (pv 0)) qe_int (fun _ _ => rfl)) qa_nil)))
  (qss_cons (qs_for pown rfl (qi_rg1 rfl (n_range c) (qe_cB cr_len lenP rfl (n_len c) (by decide +kernel) (qa_cons (qe_va (pv 1)) qa_nil))) (qg_name (i := 3) sc__law_rename.nd rfl (Or.inl rfl))
    (qss_one (qs_put (i := 2) rfl (qe_ix ix_tup ixTP (qe_ix ix_tup ixTP (qe_va (pv 0)) qe_int (fun _ _ => rfl)) (qe_va (pv 3)) (fun _ _ => rfl)) (pv 2) (qe_ix ix_list ixLP (qe_va (pv 1)) (qe_va (pv 3)) (fun _ _ => rfl)))))
  (qss_one (qs_ret (qe_tup (qa_cons (qe_cT cr_tuple tupleP rfl (n_tuple c) (by decide +kernel) (qa_cons (qe_v (pv 2)) qa_nil)) (qa_cons (qe_cT cr_tuple tupleP rfl (n_tuple c) (by decide +kernel) (qa_cons (qe_ix ix_tup ixTP (qe_va (pv 0)) qe_int (fun _ _ => rfl)) qa_nil)) qa_nil)))))))) (fun ω ds Q E h => ?_)
  · first | (obtain ⟨rfl, _⟩ := h; rfl) | (obtain ⟨_, rfl, _⟩ := h; rfl) | (obtain ⟨_, _, rfl, _⟩ := h; rfl) | (obtain ⟨_, _, _, rfl, _⟩ := h; rfl) | (obtain ⟨_, _, _, _, rfl, _⟩ := h; rfl) | (obtain ⟨_, _, _, _, _, rfl, _⟩ := h; rfl) | (obtain ⟨_, _, _, _, _, _, rfl, _⟩ := h; rfl) | (obtain ⟨_, _, _, _, _, _, _, rfl, _⟩ := h; rfl)
  · skip
    obtain ⟨cs, ps, pl, rfl, hp, hcs, hps, Qk⟩ := h
    have l12 := hp.2.1
    walk_at "v"
    rename_i l
    rw [length_dInts]
    walk_at "v"
    refine v_kForR (fun i ω' ρ => ω' = () ∧ ∃ (cs' : List Int) (o3 : Sl), cs'.length = pl.length ∧ (∀ p : Int, 0 ≤ p → p < i → atP cs' (atP pl p) = atP cs p) ∧ ρ = [.va (stD cs ps), .va (.lst (dInts pl)), .ow l (dInts cs'), o3]) ⟨rfl, cs, .no, hcs, fun p h1 h2 => by omega, rfl⟩ ?_ ?_
    · rintro i ω' ρ hi ⟨rfl, cs', o3, hl, hw, rfl⟩
      have hb := hp.mem.mp (atP_mem (ps := pl) (k := (i : Int)) (by omega) (by omega))
      walk_at "v"
      refine v_ixT (atI_ints (ns := cs) (k := (i : Int)) (by omega) (by omega)) ?_
      walk_at "v"
      refine v_ixL (atI_ints (ns := pl) (k := (i : Int)) (by omega) (by omega)) ?_
      walk_at "v"
      refine v_kPut2 (ixN_nat (by omega) (by rw [length_dInts]; omega)) ?_
      walk_at "v"
      refine ⟨rfl, cs'.set (atP pl i).toNat (atP cs i), _, by rw [List.length_set]; exact hl, fun p h1 h2 => ?_, by unfold dInts; rw [← List.map_set] <;> rfl⟩
      have hb2 := hp.mem.mp (atP_mem (ps := pl) (k := p) h1 (by omega))
      by_cases e : p = (i : Int)
      · rw [e, atP_set_eq hb.1 (by omega)]
      · have i1 := idx_nodup hp.nodup (k := p) (by omega) (by omega)
        have i2 := idx_nodup hp.nodup (k := (i : Int)) (by omega) (by omega)
        rw [atP_set_ne hb.1 hb2.1 (fun z => by rw [z] at i2; omega), hw p h1 (by omega)]
    rintro ω' ρ ⟨rfl, cs', o3, hl, hw, rfl⟩
    walk_at "v"
    exact Qk cs' hl hw
end
section
variable {P : Program} {w : World} {K : PySem.W.Frag} {mg : Str → Option Value} {base : Heap}
theorem ok_every_numbering (c : Ctx K mg) : GFnZ P w K mg base 3 (A_every_numbering K) (fdA K (A_every_numbering K)) ["cells"] (pf_every_numbering K) := by
  refine okG (F_every_numbering c) sc_every_numbering (fun ds ys fin h => ?_) (fun cdv A outer L fin hr => (gss_cons (gs_plain fun ys i tk pown => (qs_if (qb_not (qb_chain op_le op_le opI0_bl opI0_bl qe_int (qe_va (pv 0)) qe_int))
    (qss_one (qs_raise (L2N.ps_raise rfl tk (L2N.pmk_own PySem.F.excBase_ValueError (x_BadSize c).1 (g_BadSize c) (x_BadSize c).2.1 (raises_own (x_BadSize c).2.2.1 (x_BadSize c).2.2.2) rfl))))
    qss_nil))
  (gss_cons (gs_plain fun ys i tk pown => (qs_set (i := 1) sc_every_numbering.nd rfl (Or.inl rfl) (qe_lst (qa_cons (qe_lst qa_nil) qa_nil))))
  (gss_cons (gs_plain fun ys i tk pown => (qs_for pown rfl (qi_rg1 rfl (n_range c) (qe_va (pv 0))) (qg_name (i := 2) sc_every_numbering.nd rfl (Or.inl rfl))
    (qss_one (qs_setLc2 (i := 1) (own := [("begun", 4), ("place", 5)]) (vs1 := [5]) rfl sc_every_numbering.nd rfl rfl (sw_true rfl rfl rfl (by decide +kernel)) (qi_lst (qe_va (pv 1))) (blkOk_by (N := N_every_numbering) (sc := defScope s_every_numbering) (by decide +kernel)) (fun _ _ _ _ _ => (qg_name (i := 4) sc_every_numbering.nd rfl (Or.inl rfl))) (fun _ _ _ _ _ => (qi_rg1 rfl (n_range c) (qe_va (pv 0)))) (fun _ _ _ _ _ => (qg_name (i := 5) sc_every_numbering.nd rfl (Or.inl rfl))) (fun _ _ _ _ _ => (qts_one (qb_cmp op_notIn_seq opInP (qe_va (pv 5)) (qe_va (pv 4)) (by rfl)))) (fun _ _ _ _ _ => (qe_FA (qe_op op_catR opCatP (qe_va (pv 4)) (qe_lst (qa_cons (qe_va (pv 5)) qa_nil)))))))))
  (gss_one (gs_for (fun ys i tk pown => (qi_lst (qe_va (pv 1)))) (fun ys i => (qg_name (i := 3) sc_every_numbering.nd rfl (Or.inl rfl)))
    (gss_one (gs_yield fun ys i tk pown => (qe_make (qe_adr (pe_glob (v := .ref (He.ga K "Numbering")) rfl (g_Numbering c) rfl)) (mk_Numbering c) (rawF (ok_Numbering___init__ (P := P) c) (b_Numbering___init__ c)) (mkp_Numbering c) (hr.mono (by decide)) (fun σ => L2N.passAt tk σ) (qa_cons (qe_va (pv 3)) qa_nil)))))))))) (fun ds ys fin h => ?_)
  · (obtain ⟨n, rfl, _⟩ := h; rfl)
  · skip
    obtain ⟨n, rfl, hq⟩ := h
    refine v_gSeq ?_
    refine v_gPl ?_
    rcases hq with ⟨h1, h2, rfl, rfl⟩ | ⟨hn, rfl, rfl⟩
    · walk_at "v"
      rw [if_pos (decide_eq_true h1)]
      walk_at "v"
      rw [if_neg (by simpa using h2)]
      walk_at "v"
      refine v_gSeq ?_
      refine v_gPl ?_
      walk_at "v"
      refine v_gSeq ?_
      refine v_gPl ?_
      walk_at "v"
      refine v_kFor (fun i _ ρ => ∃ o2, allVa [o2] = true ∧ ρ = [.va (.int n), .va (.lst ((rowsP n.toNat i).map fun r => .lst (dInts r))), o2, .no, .no, .no]) ⟨_, rfl, rfl⟩ (fun i d ω ρ hd ⟨o2, ho2, hρ⟩ => ?_) (fun ω ρ ⟨o2, ho2, hρ⟩ => ?_)
      · subst hρ
        have en : rgI 0 n = rg n.toNat := by rw [← rgI_rg, show ((n.toNat : Nat) : Int) = n by omega]
        have hi : i < n.toNat := by
          have z := (List.getElem?_eq_some_iff.mp hd).1
          rw [length_dInts, en, length_rg] at z
          omega
        walk_at "v"
        refine v_kLc2 (fun a _ acc => acc = (((rowsP n.toNat i).take a).flatMap (nextR n.toNat)).map fun r => .lst (dInts r)) rfl rfl (fun a d ω acc hd hacc => ?_) (fun ω acc hacc => ?_)
        · subst hacc
          rw [List.getElem?_map] at hd
          obtain ⟨b, hb, rfl⟩ := Option.map_eq_some_iff.mp hd
          walk_at "v"
          refine ⟨rfl, ?_⟩
          walk_at "v"
          have hlen : ((rowsP n.toNat i).take a).length ≤ 46656 := by
            rw [List.length_take]
            exact Nat.le_trans (Nat.min_le_right _ _) (Nat.le_trans (rowsP_len (by omega) i) (pow6 (by omega)))
          refine v_kLc2i (fun j _ acc => acc = ((((rowsP n.toNat i).take a).flatMap (nextR n.toNat)) ++ ((((rg n.toNat).take j).filter fun p => !decide (p ∈ b)).map fun p => b ++ [p])).map fun r => .lst (dInts r)) (by simp) (fun j e ω acc he hacc => ?_) (fun ω acc hacc => ?_)
          · subst hacc
            rw [en] at he
            unfold dInts at he
            rw [List.getElem?_map] at he
            obtain ⟨p, hp, rfl⟩ := Option.map_eq_some_iff.mp he
            refine ⟨?_, ?_⟩
            · have z1 := flatMap_len (n := 6) (f := nextR n.toNat) (fun a => Nat.le_trans nextR_len (by omega)) ((rowsP n.toNat i).take a)
              have z2 := List.length_filter_le (fun p => !decide (p ∈ b)) ((rg n.toNat).take j)
              rw [List.length_take, length_rg] at z2
              rw [List.length_map, List.length_append, List.length_map]
              omega
            · walk_at "v"
              refine ⟨rfl, ?_⟩
              walk_at "v"
              refine v_ninLI ?_
              refine ⟨_, rfl, ?_⟩
              have et : (rg n.toNat).take (j + 1) = (rg n.toNat).take j ++ [p] := by rw [List.take_add_one, hp] <;> rfl
              by_cases hpb : p ∈ b
              · rw [if_neg (by simpa using hpb), et, List.filter_append, List.filter_cons_of_neg (by simpa using hpb)]
                simp
              · rw [if_pos (by simpa using hpb)]
                walk_at "v"
                have rb := rowsP_ok (List.mem_of_getElem? hb)
                refine v_catL (by rw [length_dInts, rb.len]; simp; omega) ?_
                rw [et, List.filter_append, List.filter_cons_of_pos (by simpa using hpb)]
                simp [dInts]
          · subst hacc
            rw [length_dInts, en, length_rg, List.take_of_length_le (l := rg n.toNat) (by rw [length_rg]; exact Nat.le_refl _), flatMap_take hb]
            rfl
        · subst hacc
          walk_at "v"
          refine ⟨.va d, rfl, ?_⟩
          rw [List.length_map, List.take_of_length_le (Nat.le_refl _)]
          rfl
      · subst hρ
        rw [length_dInts, show rgI 0 n = rg n.toNat by rw [← rgI_rg, show ((n.toNat : Nat) : Int) = n by omega], length_rg]
        dsimp only
        refine v_gFor ?_
        walk_at "v"
        refine v_kGFor (fun k ys ρ => ys = ((allP n.toNat).drop k).map (numD K) ∧ ∃ o2 o3, allVa [o2, o3] = true ∧ ρ = [.va (.int n), .va (.lst ((allP n.toNat).map fun r => .lst (dInts r))), o2, o3, .no, .no]) ?_ (fun k d ys ρ hd hI => ?_) (fun ys ρ hI => ?_)
        · exact ⟨by rw [List.drop_zero], o2, .no, by cases o2 <;> first | rfl | exact ho2, rfl⟩
        · obtain ⟨hys, o2, o3, ho, rfl⟩ := hI
          rw [List.getElem?_map] at hd
          obtain ⟨b, hb, rfl⟩ := Option.map_eq_some_iff.mp hd
          have hb : (allP n.toNat)[k]? = some b := hb
          have ho2 : allVa [o2] = true := by cases o2 <;> first | rfl | exact ho
          obtain ⟨hnum, _⟩ := allP_num (n := n.toNat) (by omega) (by omega) (List.mem_of_getElem? hb)
          walk_at "v"
          refine v_gYield (by cases o2 <;> first | rfl | exact ho2) ?_
          walk_at "v"
          refine v_num hnum ?_
          refine ⟨pure_num _, ?_⟩
          have hk := (List.getElem?_eq_some_iff.mp hb).1
          have ed : (allP n.toNat).drop k = b :: (allP n.toNat).drop (k + 1) := by
            rw [List.drop_eq_getElem_cons hk, (List.getElem?_eq_some_iff.mp hb).2]
          rw [hys, ed]
          refine v_kYd ?_
          exact ⟨rfl, o2, .va (.lst (dInts b)), by cases o2 <;> first | rfl | exact ho2, rfl⟩
        · obtain ⟨hys, o2, o3, ho, rfl⟩ := hI
          rw [hys, List.length_map, show (rowsP n.toNat n.toNat) = allP n.toNat from rfl, List.drop_length]
          exact ⟨rfl, rfl⟩
    · walk_at "v"
      by_cases h1 : 1 ≤ n
      · rw [if_pos (decide_eq_true h1)]
        walk_at "v"
        rw [if_pos (by simpa using fun h => hn ⟨h1, h⟩)]
        walk_at "v"
        exact ⟨rfl, rfl⟩
      · rw [if_neg (by simpa using h1)]
        walk_at "v"
        exact ⟨rfl, rfl⟩
end
section
variable {P : Program} {w : World} {K : PySem.W.Frag} {mg : Str → Option Value} {base : Heap}
theorem okN_Numbering___iter__ (c : Ctx K mg) : FnRN P w K mg base (L2N.CX P w) 1 (A_Numbering___iter__ K) (spIt K (He.ga K "Numbering") "places") :=
  fn_ofN (F_Numbering___iter__ c) sc_Numbering___iter__ (b_Numbering___iter__ c) (fun n vs H Q E ⟨_, _, _, _, _, e, _⟩ => by rw [e] <;> rfl) fun cdv A outer s H vs Q E hr h => body_it (cl_Numbering c) (na_Numbering_places c) rfl (n_iter c) (pv 0) rfl rfl h
end
def pf__former (K : PySem.W.Frag) : PSp W0 := fun _ ds Q E => ∃ (ord : List Int) (n : Nat), (ds = [.lst (dInts ord), .int n] ∨ ds = [.tup (dInts ord), .int n]) ∧ ord.length < 64 ∧ n ≤ 12 ∧ ((IsOrd ord n ∧ Q () (.lst (dInts (formF ord n)))) ∨ (¬ IsOrd ord n ∧ E () ⟨He.ga K "BadNumbering", none⟩))
theorem v_formL {K : PySem.W.Frag} {ord : List Int} {n : Nat} {Q : Unit → D → Prop} {E : Unit → Exn → Prop} (h12 : n ≤ 12) (h : IsOrd ord n) (q : Q () (.lst (dInts (formF ord n)))) : pf__former K () [.lst (dInts ord), .int n] Q E := ⟨ord, n, .inl rfl, by rw [h.len]; omega, h12, .inl ⟨h, q⟩⟩
theorem v_formT {K : PySem.W.Frag} {ord : List Int} {n : Nat} {Q : Unit → D → Prop} {E : Unit → Exn → Prop} (h12 : n ≤ 12) (h : IsOrd ord n) (q : Q () (.lst (dInts (formF ord n)))) : pf__former K () [.tup (dInts ord), .int n] Q E := ⟨ord, n, .inr rfl, by rw [h.len]; omega, h12, .inl ⟨h, q⟩⟩
theorem formF_rgI {ord : List Int} {n : Nat} : dInts (formF ord n) = (rgI 1 (n + 1)).map fun x => D.int (ord.idxOf x : Nat) := by
  unfold dInts formF rg rgI
  have e : ((n : Int) + 1 - 1).toNat = n := by omega
  rw [e, List.map_map, List.map_map, List.map_map]
  refine List.map_congr_left fun i _ => ?_
  show D.int (ord.idxOf ((i : Int) + 1) : Nat) = D.int (ord.idxOf (1 + (i : Int)) : Nat)
  rw [Int.add_comm]
section
variable {P : Program} {w : World} {K : PySem.W.Frag} {mg : Str → Option Value} {base : Heap}
theorem ok__former (c : Ctx K mg) : FnOk P w K mg base (L2N.CX P w) 1 (A__former K) (fdA K (A__former K)) ["order", "workers"] (spM .F K W0 (pf__former K)) := by
  refine okQ (F__former c) sc__former (fun ω ds Q E h => ?_) (fun cdv A outer s0 H E hr tk pown => (qss_cons (qs_if (qb_cmp (op_neD hr.units) opNeDP (qe_cB cr_sortedA sortedP rfl (n_sorted c) (by decide +kernel) (qa_cons (qe_va (pv 0)) qa_nil)) (qe_listRg rfl rfl (n_list c) (qr_2 rfl (n_range c) qe_int (qe_op op_add opI0_int (qe_va (pv 1)) qe_int))) (nomark _))
    (qss_one (qs_raise (L2N.ps_raise rfl tk (L2N.pmk_own PySem.F.excBase_ValueError (x_BadNumbering c).1 (g_BadNumbering c) (x_BadNumbering c).2.1 (raises_own (x_BadNumbering c).2.2.1 (x_BadNumbering c).2.2.2) rfl))))
    qss_nil)
  (qss_one (qs_retF (qe_lc (own := [("number", 2)]) rfl sc__former.nd (qi_rg2 rfl (n_range c) qe_int (qe_op op_add opI0_int (qe_va (pv 1)) qe_int)) (blkOk_by (N := N__former) (sc := defScope s__former) (by decide +kernel)) (fun _ _ _ _ _ => (qg_name (i := 2) sc__former.nd rfl (Or.inl rfl))) (fun _ _ _ _ _ => qts_nil) (fun _ _ _ _ _ => (qe_alt (qe_bmL PySem.F.slot_list_index PySem.F.type_list_index mt_index lindexP (qe_va (pv 0)) (qa_cons (qe_va (pv 2)) qa_nil)) (qe_bmT PySem.F.slot_tuple_index PySem.F.type_tuple_index mt_tindex tindexP (qe_va (pv 0)) (qa_cons (qe_va (pv 2)) qa_nil))))))))) (fun ω ds Q E h => ?_)
  · obtain ⟨_, _, z, _⟩ := h; rcases z with rfl | rfl <;> rfl
  · skip
    obtain ⟨ord, n, hds, h64, n12, Qk⟩ := h
    rcases hds with rfl | rfl
    · walk_at "v"
      refine ⟨ord, .inl rfl, h64, fun ns' hp hs => ?_⟩
      walk_at "v"
      refine ⟨RgOk.of_le (by omega) (by omega) (by omega) (by omega), ?_⟩
      refine v_neD 1 (by decide) (dep_ints _ 0) (dep_ints _ 0) ?_
      rw [deq_lstI]
      rcases Qk with ⟨ho, q⟩ | ⟨ho, q⟩
      · rw [decide_eq_true ((IsOrd.sorted hp hs).mpr ho)]
        walk_at "v"
        refine v_kLcMI (ns := rgI 1 (n + 1)) (fun x => .int (ord.idxOf x : Nat)) (by rw [length_rgI]; omega) rfl (fun i x Q' hx hq => ?_) ?_
        · have hb := mem_rgI.mp (List.mem_of_getElem? hx)
          walk_at "v"
          refine ⟨rfl, ?_⟩
          walk_at "v"
          refine v_alt1 ?_
          walk_at "v"
          exact v_lindex (ho.mem.mpr ⟨by omega, by omega⟩) hq
        · walk_at "v"
          rw [← formF_rgI]
          exact q
      · rw [decide_eq_false (fun z => ho ((IsOrd.sorted hp hs).mp z))]
        walk_at "v"
        exact q
    · walk_at "v"
      refine ⟨ord, .inr rfl, h64, fun ns' hp hs => ?_⟩
      walk_at "v"
      refine ⟨RgOk.of_le (by omega) (by omega) (by omega) (by omega), ?_⟩
      refine v_neD 1 (by decide) (dep_ints _ 0) (dep_ints _ 0) ?_
      rw [deq_lstI]
      rcases Qk with ⟨ho, q⟩ | ⟨ho, q⟩
      · rw [decide_eq_true ((IsOrd.sorted hp hs).mpr ho)]
        walk_at "v"
        refine v_kLcMI (ns := rgI 1 (n + 1)) (fun x => .int (ord.idxOf x : Nat)) (by rw [length_rgI]; omega) rfl (fun i x Q' hx hq => ?_) ?_
        · have hb := mem_rgI.mp (List.mem_of_getElem? hx)
          walk_at "v"
          refine ⟨rfl, ?_⟩
          walk_at "v"
          refine v_alt2 ?_
          walk_at "v"
          exact v_tindex (ho.mem.mpr ⟨by omega, by omega⟩) hq
        · walk_at "v"
          rw [← formF_rgI]
          exact q
      · rw [decide_eq_false (fun z => ho ((IsOrd.sorted hp hs).mp z))]
        walk_at "v"
        exact q
end
def pf_System_exchanged (K : PySem.W.Frag) : PSp W0 := fun _ ds Q E => ∃ (y : Sy) (ord : List Int), (ds = [sysD K y, .lst (dInts ord)] ∨ ds = [sysD K y, .tup (dInts ord)]) ∧ y.ok ∧ ord.length < 64 ∧ ((IsOrd ord y.os.length ∧ Q () (sysD K (y.exch ord))) ∨ (¬ IsOrd ord y.os.length ∧ E () ⟨He.ga K "BadNumbering", none⟩))
theorem v_exchL {K : PySem.W.Frag} {y : Sy} {ord : List Int} {Q : Unit → D → Prop} {E : Unit → Exn → Prop} (h1 : y.ok) (h : IsOrd ord y.os.length) (q : Q () (sysD K (y.exch ord))) : pf_System_exchanged K () [sysD K y, .lst (dInts ord)] Q E := ⟨y, ord, .inl rfl, h1, by have := h.len; have := h1.2.2.1; omega, .inl ⟨h, q⟩⟩
theorem v_exchT {K : PySem.W.Frag} {y : Sy} {ord : List Int} {Q : Unit → D → Prop} {E : Unit → Exn → Prop} (h1 : y.ok) (h : IsOrd ord y.os.length) (q : Q () (sysD K (y.exch ord))) : pf_System_exchanged K () [sysD K y, .tup (dInts ord)] Q E := ⟨y, ord, .inr rfl, h1, by have := h.len; have := h1.2.2.1; omega, .inl ⟨h, q⟩⟩
section
variable {P : Program} {w : World} {K : PySem.W.Frag} {mg : Str → Option Value} {base : Heap}
theorem ok_System_exchanged (c : Ctx K mg) : FnOk P w K mg base (L2N.CX P w) 5 (A_System_exchanged K) (fdA K (A_System_exchanged K)) ["self", "order"] (spM .A K W0 (pf_System_exchanged K)) := by
  refine okQ (F_System_exchanged c) sc_System_exchanged (fun ω ds Q E h => ?_) (fun cdv A outer s0 H E hr tk pown => (qss_cons (qs_setLc (i := 2) (own := [("k", 3)]) rfl sc_System_exchanged.nd rfl rfl (sw_true rfl rfl rfl (by decide +kernel)) (qi_lst (qe_call (ok__former (P := P) c) (hr.mono (by decide)) rfl (g__former c) (F__former c).kp (b__former c) (fun σ => L2N.passAt tk σ) (qa_cons (qe_va (pv 1)) (qa_cons (qe_fld (qe_va (pv 0)) (cl_System c) (na_System_workers c)) qa_nil)))) (blkOk_by (N := N_System_exchanged) (sc := defScope s_System_exchanged) (by decide +kernel)) (fun _ _ _ _ _ => (qg_name (i := 3) sc_System_exchanged.nd rfl (Or.inl rfl))) (fun _ _ _ _ _ => qts_nil) (fun _ _ _ _ _ => (qe_ix ix_tup ixTP (qe_fld (qe_va (pv 0)) (cl_System c) (na_System_numberings c)) (qe_va (pv 3)) (fun _ _ => rfl))))
  (qss_one (qs_ret (qe_make (qe_adr (pe_glob (v := .ref (He.ga K "System")) rfl (g_System c) rfl)) (mk_System c) (rawF (ok_System___init__ (P := P) c) (b_System___init__ c)) (mkp_System c) (hr.mono (by decide)) (fun σ => L2N.passAt tk σ) (qa_cons (qe_fld (qe_va (pv 0)) (cl_System c) (na_System_program c)) (qa_cons (qe_va (pv 2)) (qa_cons (qe_fld (qe_va (pv 0)) (cl_System c) (na_System_capacity c)) qa_nil)))))))) (fun ω ds Q E h => ?_)
  · obtain ⟨_, _, z, _⟩ := h; rcases z with rfl | rfl <;> rfl
  · skip
    obtain ⟨y, ord, hds, hy, h64, Qk⟩ := h
    have w6 := hy.2.2.1
    rcases hds with rfl | rfl
    · walk_at "v"
      refine ⟨ord, y.os.length, .inl rfl, h64, by omega, Qk.imp (fun ⟨ho, q⟩ => ⟨ho, ?_⟩) (fun ⟨ho, q⟩ => ⟨ho, ?_⟩)⟩
      · refine ⟨_, rfl, ?_⟩
        refine v_kLcMI (ns := formF ord y.os.length) (fun k => numD K (y.os.getD k.toNat [])) (by rw [length_formF]; omega) rfl (fun i x Q' hx hq => ?_) ?_
        · have hb := formF_mem ho (List.mem_of_getElem? hx)
          have ha : atI (numsD K y.os) x = some (numD K (y.os.getD x.toNat [])) := atI_of hb.1 (by rw [List.getElem?_map, List.getD_eq_getElem?_getD, List.getElem?_eq_getElem (by omega)] <;> rfl)
          walk_at "v"
          refine ⟨rfl, ?_⟩
          walk_at "v"
          exact v_ixT ha hq
        · have e : (formF ord y.os.length).map (fun k => numD K (y.os.getD k.toNat [])) = numsD K (y.exch ord).os := by
            show _ = List.map _ (List.map _ _)
            rw [List.map_map] <;> rfl
          rw [e]
          walk_at "v"
          refine v_sys (Sy.exch_ok hy ho) ?_
          walk_at "v"
          exact ⟨pure_sys (Sy.exch_ok hy ho), q⟩
      · walk_at "v"
        exact q
    · walk_at "v"
      refine ⟨ord, y.os.length, .inr rfl, h64, by omega, Qk.imp (fun ⟨ho, q⟩ => ⟨ho, ?_⟩) (fun ⟨ho, q⟩ => ⟨ho, ?_⟩)⟩
      · refine ⟨_, rfl, ?_⟩
        refine v_kLcMI (ns := formF ord y.os.length) (fun k => numD K (y.os.getD k.toNat [])) (by rw [length_formF]; omega) rfl (fun i x Q' hx hq => ?_) ?_
        · have hb := formF_mem ho (List.mem_of_getElem? hx)
          have ha : atI (numsD K y.os) x = some (numD K (y.os.getD x.toNat [])) := atI_of hb.1 (by rw [List.getElem?_map, List.getD_eq_getElem?_getD, List.getElem?_eq_getElem (by omega)] <;> rfl)
          walk_at "v"
          refine ⟨rfl, ?_⟩
          walk_at "v"
          exact v_ixT ha hq
        · have e : (formF ord y.os.length).map (fun k => numD K (y.os.getD k.toNat [])) = numsD K (y.exch ord).os := by
            show _ = List.map _ (List.map _ _)
            rw [List.map_map] <;> rfl
          rw [e]
          walk_at "v"
          refine v_sys (Sy.exch_ok hy ho) ?_
          walk_at "v"
          exact ⟨pure_sys (Sy.exch_ok hy ho), q⟩
      · walk_at "v"
        exact q
end
section
variable {P : Program} {w : World} {K : PySem.W.Frag} {mg : Str → Option Value} {base : Heap}
theorem ok_Numbering___invert__ (c : Ctx K mg) : FnOk P w K mg base (L2N.CX P w) 3 (A_Numbering___invert__ K) (fdA K (A_Numbering___invert__ K)) ["self"] (spM .A K W0 (pf_Numbering___invert__ K)) := by
  refine okQ (F_Numbering___invert__ c) sc_Numbering___invert__ (fun ω ds Q E h => ?_) (fun cdv A outer s0 H E hr tk pown => (qss_one (qs_ret (qe_make (qe_adr (pe_glob (v := .ref (He.ga K "Numbering")) rfl (g_Numbering c) rfl)) (mk_Numbering c) (rawF (ok_Numbering___init__ (P := P) c) (b_Numbering___init__ c)) (mkp_Numbering c) (hr.mono (by decide)) (fun σ => L2N.passAt tk σ) (qa_cons (qe_lc (own := [("place", 1)]) rfl sc_Numbering___invert__.nd (qi_rg1 rfl (n_range c) (qe_cB cr_len lenP rfl (n_len c) (by decide +kernel) (qa_cons (qe_fld (qe_va (pv 0)) (cl_Numbering c) (na_Numbering_places c)) qa_nil))) (blkOk_by (N := N_Numbering___invert__) (sc := defScope s_Numbering___invert__) (by decide +kernel)) (fun _ _ _ _ _ => (qg_name (i := 1) sc_Numbering___invert__.nd rfl (Or.inl rfl))) (fun _ _ _ _ _ => qts_nil) (fun _ _ _ _ _ => (qe_bmT PySem.F.slot_tuple_index PySem.F.type_tuple_index mt_tindex tindexP (qe_fld (qe_va (pv 0)) (cl_Numbering c) (na_Numbering_places c)) (qa_cons (qe_va (pv 1)) qa_nil)))) qa_nil))))) (fun ω ds Q E h => ?_)
  · first | (obtain ⟨rfl, _⟩ := h; rfl) | (obtain ⟨_, rfl, _⟩ := h; rfl) | (obtain ⟨_, _, rfl, _⟩ := h; rfl) | (obtain ⟨_, _, _, rfl, _⟩ := h; rfl) | (obtain ⟨_, _, _, _, rfl, _⟩ := h; rfl) | (obtain ⟨_, _, _, _, _, rfl, _⟩ := h; rfl) | (obtain ⟨_, _, _, _, _, _, rfl, _⟩ := h; rfl) | (obtain ⟨_, _, _, _, _, _, _, rfl, _⟩ := h; rfl)
  · skip
    obtain ⟨ps, rfl, h1, h⟩ := h
    have l12 := h1.2.1
    walk_at "v"
    rw [length_dInts]
    walk_at "v"
    rw [rgI_rg]
    refine v_kLcMI (ns := rg ps.length) (fun y => .int (ps.idxOf y : Nat)) (by rw [length_rg]; omega) rfl (fun i y Q' hy hq => ?_) ?_
    · have hb := mem_rg.mp (List.mem_of_getElem? hy)
      walk_at "v"
      refine ⟨rfl, ?_⟩
      walk_at "v"
      exact v_tindex (h1.mem.mpr hb) hq
    · walk_at "v"
      rw [dInts_map]
      exact v_num (isNum_inv h1) ⟨pure_num _, h⟩
end
section
variable {P : Program} {w : World} {K : PySem.W.Frag} {mg : Str → Option Value} {base : Heap}
theorem ok_Numbering___mul__ (c : Ctx K mg) : FnOk P w K mg base (L2N.CX P w) 3 (A_Numbering___mul__ K) (fdA K (A_Numbering___mul__ K)) ["self", "other"] (spM .A K W0 (pf_Numbering___mul__ K)) := by
  refine okQ (F_Numbering___mul__ c) sc_Numbering___mul__ (fun ω ds Q E h => ?_) (fun cdv A outer s0 H E hr tk pown => (qss_cons (qs_if (qb_cmp op_ne opNeP (qe_cB cr_len lenP rfl (n_len c) (by decide +kernel) (qa_cons (qe_fld (qe_va (pv 0)) (cl_Numbering c) (na_Numbering_places c)) qa_nil)) (qe_cB cr_len lenP rfl (n_len c) (by decide +kernel) (qa_cons (qe_fld (qe_va (pv 1)) (cl_Numbering c) (na_Numbering_places c)) qa_nil)) (nomark _))
    (qss_one (qs_raise (L2N.ps_raise rfl tk (L2N.pmk_own PySem.F.excBase_ValueError (x_BadNumbering c).1 (g_BadNumbering c) (x_BadNumbering c).2.1 (raises_own (x_BadNumbering c).2.2.1 (x_BadNumbering c).2.2.2) rfl))))
    qss_nil)
  (qss_one (qs_ret (qe_make (qe_adr (pe_glob (v := .ref (He.ga K "Numbering")) rfl (g_Numbering c) rfl)) (mk_Numbering c) (rawF (ok_Numbering___init__ (P := P) c) (b_Numbering___init__ c)) (mkp_Numbering c) (hr.mono (by decide)) (fun σ => L2N.passAt tk σ) (qa_cons (qe_lc (own := [("place", 2)]) rfl sc_Numbering___mul__.nd (qi_tup (qe_fld (qe_va (pv 1)) (cl_Numbering c) (na_Numbering_places c))) (blkOk_by (N := N_Numbering___mul__) (sc := defScope s_Numbering___mul__) (by decide +kernel)) (fun _ _ _ _ _ => (qg_name (i := 2) sc_Numbering___mul__.nd rfl (Or.inl rfl))) (fun _ _ _ _ _ => qts_nil) (fun _ _ _ _ _ => (qe_ix ix_tup ixTP (qe_fld (qe_va (pv 0)) (cl_Numbering c) (na_Numbering_places c)) (qe_va (pv 2)) (fun _ _ => rfl)))) qa_nil)))))) (fun ω ds Q E h => ?_)
  · first | (obtain ⟨rfl, _⟩ := h; rfl) | (obtain ⟨_, rfl, _⟩ := h; rfl) | (obtain ⟨_, _, rfl, _⟩ := h; rfl) | (obtain ⟨_, _, _, rfl, _⟩ := h; rfl) | (obtain ⟨_, _, _, _, rfl, _⟩ := h; rfl) | (obtain ⟨_, _, _, _, _, rfl, _⟩ := h; rfl) | (obtain ⟨_, _, _, _, _, _, rfl, _⟩ := h; rfl) | (obtain ⟨_, _, _, _, _, _, _, rfl, _⟩ := h; rfl)
  · skip
    obtain ⟨ps, qs, rfl, h1, h2, h3⟩ := h
    walk_at "v"
    rw [length_dInts, length_dInts]
    have l12 := h2.2.1
    refine w_iteNP (fun e1 => ?_) (fun e1 => ?_)
    · walk_at "v"
      rcases h3 with ⟨_, q⟩ | ⟨q, _⟩
      · exact q
      · exact absurd (congrArg Int.ofNat q) e1
    · have el : ps.length = qs.length := by omega
      have h3 : Q () (numD K (mulP ps qs)) := by
        rcases h3 with ⟨q, _⟩ | ⟨_, q⟩
        · exact absurd el q
        · exact q
      walk_at "v"
      refine v_kLcMI (ns := qs) (fun y => .int (atP ps y)) (by omega) rfl (fun i y Q' hy hq => ?_) ?_
      · have hb := h2.get hy
        walk_at "v"
        refine ⟨rfl, ?_⟩
        walk_at "v"
        exact v_ixT (atI_ints hb.1 (by omega)) hq
      · walk_at "v"
        rw [dInts_map]
        exact v_num (isNum_mul h1 h2 el) ⟨pure_num _, h3⟩
end
def pf_System_renamed (K : PySem.W.Frag) : PSp W0 := fun _ ds Q E => ∃ (y : Sy) (pl : List Int), ds = [sysD K y, numD K pl] ∧ y.ok ∧ IsNum pl ∧ ((pl.length = y.n ∧ Q () (sysD K (y.ren pl))) ∨ (pl.length ≠ y.n ∧ E () ⟨He.ga K "BadNumbering", none⟩))
theorem v_ren {K : PySem.W.Frag} {y : Sy} {pl : List Int} {Q : Unit → D → Prop} {E : Unit → Exn → Prop} (h1 : y.ok) (h : IsNum pl) (hl : pl.length = y.n) (q : Q () (sysD K (y.ren pl))) : pf_System_renamed K () [sysD K y, numD K pl] Q E := ⟨y, pl, rfl, h1, h, .inl ⟨hl, q⟩⟩
theorem v_renX {K : PySem.W.Frag} {y : Sy} {pl : List Int} {Q : Unit → D → Prop} {E : Unit → Exn → Prop} (h1 : y.ok) (h : IsNum pl) (hl : pl.length ≠ y.n) (q : E () ⟨He.ga K "BadNumbering", none⟩) : pf_System_renamed K () [sysD K y, numD K pl] Q E := ⟨y, pl, rfl, h1, h, .inr ⟨hl, q⟩⟩
def dInt (d : D) : Int := match d with | .int i => i | _ => 0
def renD (K : PySem.W.Frag) (pl : List Int) (d : D) : D := match d with | .ins _ _ [.tup x] => numD K (x.map fun d => atP pl (dInt d)) | _ => .non
theorem renD_num {K : PySem.W.Frag} {pl o : List Int} : renD K pl (numD K o) = numD K (mulP pl o) := by
  show numD K ((dInts o).map _) = _
  unfold mulP dInts
  rw [List.map_map] <;> rfl
section
variable {P : Program} {w : World} {K : PySem.W.Frag} {mg : Str → Option Value} {base : Heap}
theorem ok_System_renamed (c : Ctx K mg) : FnOk P w K mg base (L2N.CX P w) 5 (A_System_renamed K) (fdA K (A_System_renamed K)) ["self", "numbering"] (spM .A K W0 (pf_System_renamed K)) := by
  refine okQ (F_System_renamed c) sc_System_renamed (fun ω ds Q E h => ?_) (fun cdv A outer s0 H E hr tk pown => (qss_one (qs_ret (qe_make (qe_adr (pe_glob (v := .ref (He.ga K "System")) rfl (g_System c) rfl)) (mk_System c) (rawF (ok_System___init__ (P := P) c) (b_System___init__ c)) (mkp_System c) (hr.mono (by decide)) (fun σ => L2N.passAt tk σ) (qa_cons (qe_fld (qe_va (pv 0)) (cl_System c) (na_System_program c)) (qa_cons (qe_lcX (own := [("own", 2)]) rfl sc_System_renamed.nd rfl rfl tk (qi_tup (qe_fld (qe_va (pv 0)) (cl_System c) (na_System_numberings c))) (blkOk_by (N := N_System_renamed) (sc := defScope s_System_renamed) (by decide +kernel)) (fun _ _ _ _ _ => (qg_name (i := 2) sc_System_renamed.nd rfl (Or.inl rfl))) (fun _ _ _ _ _ => qts_nil) (fun _ _ _ _ _ _ _ hpx => (qe_bin (op := .Mult) (op_Numbering___mul__ c) (rawF (ok_Numbering___mul__ (P := P) c) (b_Numbering___mul__ c)) (hr.mono (by decide)) (fun σ => hpx σ) (qe_va (pv 1)) (qe_va (pv 2))))) (qa_cons (qe_fld (qe_va (pv 0)) (cl_System c) (na_System_capacity c)) qa_nil))))))) (fun ω ds Q E h => ?_)
  · first | (obtain ⟨rfl, _⟩ := h; rfl) | (obtain ⟨_, rfl, _⟩ := h; rfl) | (obtain ⟨_, _, rfl, _⟩ := h; rfl) | (obtain ⟨_, _, _, rfl, _⟩ := h; rfl) | (obtain ⟨_, _, _, _, rfl, _⟩ := h; rfl) | (obtain ⟨_, _, _, _, _, rfl, _⟩ := h; rfl) | (obtain ⟨_, _, _, _, _, _, rfl, _⟩ := h; rfl) | (obtain ⟨_, _, _, _, _, _, _, rfl, _⟩ := h; rfl)
  · skip
    obtain ⟨y, pl, rfl, hy, hp, hq⟩ := h
    have w6 := hy.2.2.1
    rcases hq with ⟨hl, Qk⟩ | ⟨hl, Ek⟩
    · walk_at "v"
      refine v_kLcXM (renD K pl) (by show (List.map (numD K) y.os).length ≤ _; rw [List.length_map]; omega) rfl (fun i d Q' hd hq => ?_) ?_
      · rw [List.getElem?_map] at hd
        obtain ⟨o, ho, rfl⟩ := Option.map_eq_some_iff.mp hd
        obtain ⟨n1, n2⟩ := hy.2.2.2.2.2.1 o (List.mem_of_getElem? ho)
        rw [renD_num] at hq
        walk_at "v"
        refine ⟨rfl, ?_⟩
        walk_at "v"
        exact ⟨pl, o, rfl, hp, n1, .inr ⟨by rw [hl, n2], hq⟩⟩
      · have e : (numsD K y.os).map (renD K pl) = numsD K (y.ren pl).os := by
          show _ = List.map _ (List.map _ _)
          rw [List.map_map, List.map_map]
          exact List.map_congr_left fun o _ => renD_num
        rw [e]
        walk_at "v"
        refine v_sys (Sy.ren_ok hy hp hl) ?_
        walk_at "v"
        exact ⟨pure_sys (Sy.ren_ok hy hp hl), Qk⟩
    · have o1 := hy.2.1
      obtain ⟨o, r, hor⟩ : ∃ o r, y.os = o :: r := by
        cases e : y.os with
        | nil => rw [e] at o1; exact absurd o1 (by decide)
        | cons o r => exact ⟨o, r, rfl⟩
      obtain ⟨n1, n2⟩ := hy.2.2.2.2.2.1 o (by rw [hor]; exact List.mem_cons_self)
      have e0 : numsD K y.os = numD K o :: numsD K r := by rw [hor] <;> rfl
      have hlen : (numsD K y.os).length ≤ 1000000 := by show (List.map (numD K) y.os).length ≤ _; rw [List.length_map]; omega
      walk_at "v"
      rw [e0] at hlen ⊢
      refine v_kLcX0 hlen rfl fun Q' => ?_
      walk_at "v"
      refine ⟨rfl, ?_⟩
      walk_at "v"
      exact ⟨pl, o, rfl, hp, n1, .inl ⟨by rw [n2]; exact hl, Ek⟩⟩
end
def exchS (ps : List (Int × Int)) (ord : List Int) : List (Int × Int) := (formF ord ps.length).map fun k => ps.getD k.toNat (0, 0)
def pf_exchange (K : PySem.W.Frag) : PSp W0 := fun _ ds Q E => ∃ (cs : List Int) (ps : List (Int × Int)) (ord : List Int), (ds = [stD cs ps, .lst (dInts ord)] ∨ ds = [stD cs ps, .tup (dInts ord)]) ∧ cs.length ≤ 12 ∧ ps.length ≤ 12 ∧ (∀ c ∈ cs, 0 ≤ c ∧ c ≤ ps.length) ∧ ord.length < 64 ∧
  ((IsOrd ord ps.length ∧ Q () (stD (cs.map (ordF ord)) (exchS ps ord))) ∨ (¬ IsOrd ord ps.length ∧ E () ⟨He.ga K "BadNumbering", none⟩))
theorem ordF_at {ord : List Int} {n : Nat} {x : Int} (ho : IsOrd ord n) (x0 : 0 ≤ x) (x1 : x ≤ n) : atI (.int 0 :: dInts ord) x = some (.int (ordF ord x)) := by
  refine atI_of x0 ?_
  by_cases e : x = 0
  · subst e; rfl
  · obtain ⟨k, rfl⟩ : ∃ k : Nat, x = (k : Int) + 1 := ⟨(x - 1).toNat, by omega⟩
    have h1 : ((k : Int) + 1).toNat = k + 1 := by omega
    have hk : k < ord.length := by rw [ho.len]; omega
    rw [h1, List.getElem?_cons_succ]
    unfold dInts ordF atP
    have h2 : ((k : Int) + 1 - 1).toNat = k := by omega
    rw [if_neg e, h2, List.getElem?_map, List.getD_eq_getElem?_getD, List.getElem?_eq_getElem hk] <;> rfl
theorem exch_map {ps : List (Int × Int)} {ord : List Int} : (formF ord ps.length).map (fun k => prD (ps.getD k.toNat (0, 0))) = (exchS ps ord).map prD := by
  unfold exchS
  rw [List.map_map] <;> rfl
section
variable {P : Program} {w : World} {K : PySem.W.Frag} {mg : Str → Option Value} {base : Heap}
theorem ok_exchange (c : Ctx K mg) : FnOk P w K mg base (L2N.CX P w) 2 (A_exchange K) (fdA K (A_exchange K)) ["state", "order"] (spM .A K W0 (pf_exchange K)) := by
  refine okQ (F_exchange c) sc_exchange (fun ω ds Q E h => ?_) (fun cdv A outer s0 H E hr tk pown => (qss_cons (qs_asg (qe_va (pv 0)) (qg_tup (n := 2) rfl (qgs_cons (qg_name (i := 2) sc_exchange.nd rfl (Or.inl rfl)) (qgs_cons (qg_name (i := 3) sc_exchange.nd rfl (Or.inr rfl)) qgs_nil))))
  (qss_cons (qs_set (i := 4) sc_exchange.nd rfl (Or.inl rfl) (qe_call (ok__former (P := P) c) (hr.mono (by decide)) rfl (g__former c) (F__former c).kp (b__former c) (fun σ => L2N.passAt tk σ) (qa_cons (qe_va (pv 1)) (qa_cons (qe_cB cr_len lenP rfl (n_len c) (by decide +kernel) (qa_cons (qe_va (pv 3)) qa_nil)) qa_nil))))
  (qss_cons (qs_set (i := 5) sc_exchange.nd rfl (Or.inr rfl) (qe_lst (qa_cons qe_int (qa_star (qe_va (pv 1)) qa_nil))))
  (qss_one (qs_ret (qe_tup (qa_cons (qe_cT cr_tuple tupleP rfl (n_tuple c) (by decide +kernel) (qa_cons (qe_lc (own := [("content", 6)]) rfl sc_exchange.nd (qi_tup (qe_va (pv 2))) (blkOk_by (N := N_exchange) (sc := defScope s_exchange) (by decide +kernel)) (fun _ _ _ _ _ => (qg_name (i := 6) sc_exchange.nd rfl (Or.inl rfl))) (fun _ _ _ _ _ => qts_nil) (fun _ _ _ _ _ => (qe_ix ix_list ixLP (qe_va (pv 5)) (qe_va (pv 6)) (fun _ _ => rfl)))) qa_nil)) (qa_cons (qe_cT cr_tuple tupleP rfl (n_tuple c) (by decide +kernel) (qa_cons (qe_lc (own := [("k", 7)]) rfl sc_exchange.nd (qi_lst (qe_va (pv 4))) (blkOk_by (N := N_exchange) (sc := defScope s_exchange) (by decide +kernel)) (fun _ _ _ _ _ => (qg_name (i := 7) sc_exchange.nd rfl (Or.inl rfl))) (fun _ _ _ _ _ => qts_nil) (fun _ _ _ _ _ => (qe_ix ix_tup ixTP (qe_va (pv 3)) (qe_va (pv 7)) (fun _ _ => rfl)))) qa_nil)) qa_nil))))))))) (fun ω ds Q E h => ?_)
  · obtain ⟨_, _, _, z, _⟩ := h; rcases z with rfl | rfl <;> rfl
  · skip
    obtain ⟨cs, ps, ord, hds, hcs, hps, hc, h64, Qk⟩ := h
    rcases hds with rfl | rfl
    · walk_at "v"
      rw [List.length_map]
      refine ⟨ord, ps.length, .inl rfl, h64, hps, Qk.imp (fun ⟨ho, q⟩ => ⟨ho, ?_⟩) (fun ⟨ho, q⟩ => ⟨ho, ?_⟩)⟩
      · walk_at "v"
        rw [List.append_nil]
        refine v_kLcMI (ns := cs) (fun x => .int (ordF ord x)) (by omega) rfl (fun i x Q' hx hq => ?_) ?_
        · have hb := hc x (List.mem_of_getElem? hx)
          walk_at "v"
          refine ⟨rfl, ?_⟩
          walk_at "v"
          exact v_ixL (ordF_at ho hb.1 hb.2) hq
        walk_at "v"
        refine v_kLcMI (ns := formF ord ps.length) (fun k => prD (ps.getD k.toNat (0, 0))) (by rw [length_formF]; omega) rfl (fun i x Q' hx hq => ?_) ?_
        · have hb := formF_mem ho (List.mem_of_getElem? hx)
          have ha : atI (ps.map prD) x = some (prD (ps.getD x.toNat (0, 0))) := atI_of hb.1 (by rw [List.getElem?_map, List.getD_eq_getElem?_getD, List.getElem?_eq_getElem (by omega)] <;> rfl)
          walk_at "v"
          refine ⟨rfl, ?_⟩
          walk_at "v"
          exact v_ixT ha hq
        walk_at "v"
        rw [dInts_map, exch_map]
        exact q
      · walk_at "v"
        exact q
    · walk_at "v"
      rw [List.length_map]
      refine ⟨ord, ps.length, .inr rfl, h64, hps, Qk.imp (fun ⟨ho, q⟩ => ⟨ho, ?_⟩) (fun ⟨ho, q⟩ => ⟨ho, ?_⟩)⟩
      · walk_at "v"
        rw [List.append_nil]
        refine v_kLcMI (ns := cs) (fun x => .int (ordF ord x)) (by omega) rfl (fun i x Q' hx hq => ?_) ?_
        · have hb := hc x (List.mem_of_getElem? hx)
          walk_at "v"
          refine ⟨rfl, ?_⟩
          walk_at "v"
          exact v_ixL (ordF_at ho hb.1 hb.2) hq
        walk_at "v"
        refine v_kLcMI (ns := formF ord ps.length) (fun k => prD (ps.getD k.toNat (0, 0))) (by rw [length_formF]; omega) rfl (fun i x Q' hx hq => ?_) ?_
        · have hb := formF_mem ho (List.mem_of_getElem? hx)
          have ha : atI (ps.map prD) x = some (prD (ps.getD x.toNat (0, 0))) := atI_of hb.1 (by rw [List.getElem?_map, List.getD_eq_getElem?_getD, List.getElem?_eq_getElem (by omega)] <;> rfl)
          walk_at "v"
          refine ⟨rfl, ?_⟩
          walk_at "v"
          exact v_ixT ha hq
        walk_at "v"
        rw [dInts_map, exch_map]
        exact q
      · walk_at "v"
        exact q
end
def renS (cs pl : List Int) : List Int := (invP pl).map (atP cs)
def pf_rename (K : PySem.W.Frag) : PSp W0 := fun _ ds Q E => ∃ (cs : List Int) (ps : List (Int × Int)) (pl : List Int), ds = [stD cs ps, numD K pl] ∧ cs.length ≤ 12 ∧ IsNum pl ∧
  ((pl.length = cs.length ∧ Q () (stD (renS cs pl) ps)) ∨ (pl.length ≠ cs.length ∧ E () ⟨He.ga K "BadNumbering", none⟩))
section
variable {P : Program} {w : World} {K : PySem.W.Frag} {mg : Str → Option Value} {base : Heap}
theorem ok_rename (c : Ctx K mg) : FnOk P w K mg base (L2N.CX P w) 5 (A_rename K) (fdA K (A_rename K)) ["state", "numbering"] (spM .A K W0 (pf_rename K)) := by
  refine okQ (F_rename c) sc_rename (fun ω ds Q E h => ?_) (fun cdv A outer s0 H E hr tk pown => (qss_cons (qs_asg (qe_va (pv 0)) (qg_tup (n := 2) rfl (qgs_cons (qg_name (i := 2) sc_rename.nd rfl (Or.inr rfl)) (qgs_cons (qg_name (i := 3) sc_rename.nd rfl (Or.inl rfl)) qgs_nil))))
  (qss_cons (qs_if (qb_cmp op_ne opNeP (qe_lenO (ma := .C) (cmo_Numbering___len__ c) (rawF (ok_Numbering___len__ (P := P) c) (b_Numbering___len__ c)) (hr.mono (by decide)) rfl (n_len c) (qa_cons (qe_va (pv 1)) qa_nil)) (qe_cB cr_len lenP rfl (n_len c) (by decide +kernel) (qa_cons (qe_va (pv 2)) qa_nil)) (nomark _))
    (qss_one (qs_raise (L2N.ps_raise rfl tk (L2N.pmk_own PySem.F.excBase_ValueError (x_BadNumbering c).1 (g_BadNumbering c) (x_BadNumbering c).2.1 (raises_own (x_BadNumbering c).2.2.1 (x_BadNumbering c).2.2.2) rfl))))
    qss_nil)
  (qss_cons (qs_set (i := 4) sc_rename.nd rfl (Or.inl rfl) (qe_inv (cmo_Numbering___invert__ c) (rawF (ok_Numbering___invert__ (P := P) c) (b_Numbering___invert__ c)) (hr.mono (by decide)) (fun σ => L2N.passAt tk σ) (qe_va (pv 1))))
  (qss_one (qs_ret (qe_tup (qa_cons (qe_cT cr_tuple tupleP rfl (n_tuple c) (by decide +kernel) (qa_cons (qe_lc (own := [("place", 5)]) rfl sc_rename.nd (qi_own (C := He.ga K "Numbering") (f := "places") (ito_Numbering c) (okN_Numbering___iter__ (P := P) c) (hr.mono (by decide)) (qe_va (pv 4))) (blkOk_by (N := N_rename) (sc := defScope s_rename) (by decide +kernel)) (fun _ _ _ _ _ => (qg_name (i := 5) sc_rename.nd rfl (Or.inl rfl))) (fun _ _ _ _ _ => qts_nil) (fun _ _ _ _ _ => (qe_ix ix_tup ixTP (qe_va (pv 2)) (qe_va (pv 5)) (fun _ _ => rfl)))) qa_nil)) (qa_cons (qe_cT cr_tuple tupleP rfl (n_tuple c) (by decide +kernel) (qa_cons (qe_va (pv 3)) qa_nil)) qa_nil))))))))) (fun ω ds Q E h => ?_)
  · first | (obtain ⟨rfl, _⟩ := h; rfl) | (obtain ⟨_, rfl, _⟩ := h; rfl) | (obtain ⟨_, _, rfl, _⟩ := h; rfl) | (obtain ⟨_, _, _, rfl, _⟩ := h; rfl) | (obtain ⟨_, _, _, _, rfl, _⟩ := h; rfl) | (obtain ⟨_, _, _, _, _, rfl, _⟩ := h; rfl) | (obtain ⟨_, _, _, _, _, _, rfl, _⟩ := h; rfl) | (obtain ⟨_, _, _, _, _, _, _, rfl, _⟩ := h; rfl)
  · skip
    obtain ⟨cs, ps, pl, rfl, hcs, hp, Qk⟩ := h
    have l12 := hp.2.1
    walk_at "v"
    refine v_numLen ?_
    walk_at "v"
    rw [length_dInts]
    refine w_iteNP (fun e => ?_) (fun e => ?_)
    · walk_at "v"
      rcases Qk with ⟨q, _⟩ | ⟨_, q⟩
      · exact absurd (congrArg Int.ofNat q) e
      · exact q
    · have el : pl.length = cs.length := by omega
      have Qk : Q () (stD (renS cs pl) ps) := by
        rcases Qk with ⟨_, q⟩ | ⟨q, _⟩
        · exact q
        · exact absurd el q
      walk_at "v"
      refine v_inve hp ?_
      walk_at "v"
      refine v_kLcMI (ns := invP pl) (fun x => .int (atP cs x)) (by rw [length_inv]; omega) rfl (fun i x Q' hx hq => ?_) ?_
      · walk_at "v"
        refine ⟨rfl, ?_⟩
        walk_at "v"
        have hb := (isNum_inv hp).get hx
        rw [length_inv] at hb
        exact v_ixT (atI_ints hb.1 (by omega)) hq
      walk_at "v"
      rw [dInts_map]
      exact Qk
end
def pf_System_form (K : PySem.W.Frag) : PSp W0 := fun _ ds Q _ => ∃ (y : Sy) (c : Cfg), ds = [sysD K y, cfD c] ∧ y.ok ∧ y.Ok c ∧ Q () (formD y c)
theorem v_form {K : PySem.W.Frag} {y : Sy} {c : Cfg} {Q : Unit → D → Prop} {E : Unit → Exn → Prop} (h1 : y.ok) (h2 : y.Ok c) (q : Q () (formD y c)) : pf_System_form K () [sysD K y, cfD c] Q E := ⟨y, c, rfl, h1, h2, q⟩
def plcD (d : D) : D := match d with | .ins _ _ [x] => x | _ => .non
theorem plc_map {K : PySem.W.Frag} {os : List (List Int)} : List.map plcD (List.map (numD K) os) = os.map olT := by
  rw [List.map_map] <;> rfl
section
variable {P : Program} {w : World} {K : PySem.W.Frag} {mg : Str → Option Value} {base : Heap}
theorem ok_System_form (c : Ctx K mg) : FnOk P w K mg base (L2N.CX P w) 7 (A_System_form K) (fdA K (A_System_form K)) ["self", "state"] (spM .A K W0 (pf_System_form K)) := by
  refine okQ (F_System_form c) sc_System_form (fun ω ds Q E h => ?_) (fun cdv A outer s0 H E hr tk pown => (qss_cons (qs_setO (i := 2) sc_System_form.nd rfl (Or.inl rfl) (qe_lst qa_nil))
  (qss_cons (qs_forG' (K := K) rfl pown rfl tk (qg_call (ok_every_numbering (P := P) c) (hr.mono (by decide)) rfl (g_every_numbering c) (F_every_numbering c).kp (b_every_numbering c) (qa_cons (qe_fld (qe_va (pv 0)) (cl_System c) (na_System_workers c)) qa_nil)) (hr.mono (by decide)) (qg_name (i := 3) sc_System_form.nd rfl (Or.inl rfl)) fun tk pown =>
    (qss_cons (qs_setLc (i := 4) (own := [("place", 10)]) rfl sc_System_form.nd rfl rfl (sw_true rfl rfl rfl (by decide +kernel)) (qi_own (C := He.ga K "Numbering") (f := "places") (ito_Numbering c) (okN_Numbering___iter__ (P := P) c) (hr.mono (by decide)) (qe_va (pv 3))) (blkOk_by (N := N_System_form) (sc := defScope s_System_form) (by decide +kernel)) (fun _ _ _ _ _ => (qg_name (i := 10) sc_System_form.nd rfl (Or.inl rfl))) (fun _ _ _ _ _ => qts_nil) (fun _ _ _ _ _ => (qe_op op_add opI0_int (qe_va (pv 10)) qe_int)))
    (qss_cons (qs_set (i := 5) sc_System_form.nd rfl (Or.inl rfl) (qe_meth (qe_va (pv 0)) (cl_System c) (me_System_exchanged c) (rawF (ok_System_exchanged (P := P) c) (b_System_exchanged c)) (hr.mono (by decide)) (fun σ => L2N.passAt tk σ) (qa_cons (qe_va (pv 4)) qa_nil)))
    (qss_cons (qs_set (i := 6) sc_System_form.nd rfl (Or.inl rfl) (qe_inv (cmo_Numbering___invert__ c) (rawF (ok_Numbering___invert__ (P := P) c) (b_Numbering___invert__ c)) (hr.mono (by decide)) (fun σ => L2N.passAt tk σ) (qe_ix ix_tup ixTP (qe_fld (qe_va (pv 5)) (cl_System c) (na_System_numberings c)) qe_int (fun _ _ => rfl))))
    (qss_cons (qs_set (i := 7) sc_System_form.nd rfl (Or.inl rfl) (qe_meth (qe_va (pv 5)) (cl_System c) (me_System_renamed c) (rawF (ok_System_renamed (P := P) c) (b_System_renamed c)) (hr.mono (by decide)) (fun σ => L2N.passAt tk σ) (qa_cons (qe_va (pv 6)) qa_nil)))
    (qss_cons (qs_asg (qe_call (ok_rename (P := P) c) (hr.mono (by decide)) rfl (g_rename c) (F_rename c).kp (b_rename c) (fun σ => L2N.passAt tk σ) (qa_cons (qe_call (ok_exchange (P := P) c) (hr.mono (by decide)) rfl (g_exchange c) (F_exchange c).kp (b_exchange c) (fun σ => L2N.passAt tk σ) (qa_cons (qe_va (pv 1)) (qa_cons (qe_va (pv 4)) qa_nil))) (qa_cons (qe_va (pv 6)) qa_nil))) (qg_tup (n := 2) rfl (qgs_cons (qg_name (i := 8) sc_System_form.nd rfl (Or.inl rfl)) (qgs_cons (qg_name (i := 9) sc_System_form.nd rfl (Or.inl rfl)) qgs_nil))))
    (qss_one (qs_app (i := 2) rfl (pv 2) (qe_tup (qa_cons (qe_cT cr_tuple tupleP rfl (n_tuple c) (by decide +kernel) (qa_cons (qe_lc (own := [("own", 11)]) rfl sc_System_form.nd (qi_tup (qe_fld (qe_va (pv 7)) (cl_System c) (na_System_numberings c))) (blkOk_by (N := N_System_form) (sc := defScope s_System_form) (by decide +kernel)) (fun _ _ _ _ _ => (qg_name (i := 11) sc_System_form.nd rfl (Or.inl rfl))) (fun _ _ _ _ _ => qts_nil) (fun _ _ _ _ _ => (qe_fld (qe_va (pv 11)) (cl_Numbering c) (na_Numbering_places c)))) qa_nil)) (qa_cons (qe_va (pv 8)) (qa_cons (qe_va (pv 9)) qa_nil))))))))))))
  (qss_one (qs_ret (qe_cB (cr_minD hr.units rfl) minDP rfl (n_min c) (by decide +kernel) (qa_cons (qe_v (pv 2)) qa_nil))))))) (fun ω ds Q E h => ?_)
  · first | (obtain ⟨rfl, _⟩ := h; rfl) | (obtain ⟨_, rfl, _⟩ := h; rfl) | (obtain ⟨_, _, rfl, _⟩ := h; rfl) | (obtain ⟨_, _, _, rfl, _⟩ := h; rfl) | (obtain ⟨_, _, _, _, rfl, _⟩ := h; rfl) | (obtain ⟨_, _, _, _, _, rfl, _⟩ := h; rfl) | (obtain ⟨_, _, _, _, _, _, rfl, _⟩ := h; rfl) | (obtain ⟨_, _, _, _, _, _, _, rfl, _⟩ := h; rfl)
  · skip
    obtain ⟨y, c, rfl, hy, hc, Qk⟩ := h
    have W1 := hy.2.1
    have W6 := hy.2.2.1
    have n12 := hy.2.2.2.2.1
    walk_at "v"
    rename_i l
    walk_at "v"
    refine v_every (n := y.os.length) W1 W6 ?_
    refine v_kForG (fun i ω' ρ => ω' = () ∧ ∃ o3 o4 o5 o6 o7 o8 o9, allVa [o3, o4, o5, o6, o7, o8, o9] = true ∧ ρ = [.va (sysD K y), .va (cfD c), .ow l (((ordsL y.os.length).take i).map (triD y c)), o3, o4, o5, o6, o7, o8, o9, .no, .no]) ?_ ?_ ?_
    · exact ⟨rfl, .no, .no, .no, .no, .no, .no, .no, rfl, rfl⟩
    · rintro i d ω' ρ hi ⟨rfl, o3, o4, o5, o6, o7, o8, o9, ho, rfl⟩
      rw [List.getElem?_map] at hi
      obtain ⟨b, hb, rfl⟩ := Option.map_eq_some_iff.mp hi
      obtain ⟨bn, bl⟩ := allP_num (n := y.os.length) W1 (by omega) (List.mem_of_getElem? hb)
      have hord : IsOrd (incL b) y.os.length := ordsL_ord (List.mem_map.mpr ⟨b, List.mem_of_getElem? hb, rfl⟩)
      have dok := Sy.exch_ok hy hord
      have l0 : 0 < (y.exch (incL b)).os.length := dok.2.1
      have N := nf_of hy hord
      have sC := exC_iso hy hord hc
      have okC := SIso.ok (Sy.exch_iso hy hord) hy hc sC
      walk_at "v"
      refine v_kLcMI (ns := b) (fun x => .int (x + 1)) (by omega) rfl (fun j x Q' hx hq => ?_) ?_
      · walk_at "v"
        refine ⟨rfl, ?_⟩
        walk_at "v"
        exact hq
      rw [dInts_inc]
      walk_at "v"
      refine v_exchL hy hord ?_
      walk_at "v"
      refine v_ixT (d := numD K ((y.exch (incL b)).os.getD 0 [])) (atI_of (by omega) (by rw [List.getElem?_map, List.getD_eq_getElem?_getD, show ((0 : Int)).toNat = 0 from rfl, show (y.exch (List.map (fun x => x + 1) b)).os[0]? = some (y.exch (incL b)).os[0] from List.getElem?_eq_getElem l0, List.getElem?_eq_getElem l0] <;> rfl)) ?_
      walk_at "v"
      refine v_inve (row_num dok l0) ?_
      walk_at "v"
      refine v_ren dok N.nb N.lb ?_
      walk_at "v"
      refine ⟨c.1, c.2, incL b, .inl rfl, by rw [hc.1]; exact n12, by rw [hc.2.1]; omega, fun x hx => by rw [hc.2.1]; exact hc.2.2.2 x hx, by unfold incL; rw [List.length_map]; omega, .inl ⟨by rw [hc.2.1]; exact hord, ?_⟩⟩
      walk_at "v"
      refine ⟨(exC (incL b) c).1, (exC (incL b) c).2, nfB y (incL b), rfl, by rw [okC.1]; exact n12, N.nb, .inl ⟨by rw [N.lb, okC.1] <;> rfl, ?_⟩⟩
      walk_at "v"
      have lo : (ordsL y.os.length).length ≤ 46656 := by
        unfold ordsL
        rw [List.length_map]
        exact Nat.le_trans (rowsP_len W6 _) (pow6 W6)
      refine v_app (l := l) (ds := ((ordsL y.os.length).take i).map (triD y c)) ?_ ?_ ?_
      · rfl
      · rw [List.length_map, List.length_take]; omega
      walk_at "v"
      refine v_kLcM plcD (by rw [List.length_map]; have e : (nfS y (incL b)).os.length ≤ 1000000 := (by have := N.iso.len; omega); exact e) rfl (fun j d Q' hd hq => ?_) ?_
      · rw [List.getElem?_map] at hd
        obtain ⟨o, ho, rfl⟩ := Option.map_eq_some_iff.mp hd
        walk_at "v"
        refine ⟨rfl, ?_⟩
        walk_at "v"
        exact hq
      rw [plc_map]
      walk_at "v"
      have e9 : (ordsL y.os.length).take (i + 1) = (ordsL y.os.length).take i ++ [incL b] := by
        rw [List.take_add_one]
        unfold ordsL
        rw [List.getElem?_map, hb] <;> rfl
      simp only [e9, List.map_append]
      exact ⟨trivial, _, _, _, _, _, _, _, rfl, rfl⟩
    · rintro ω' ρ ⟨rfl, o3, o4, o5, o6, o7, o8, o9, ho, rfl⟩
      rw [List.length_map, List.take_of_length_le (by unfold ordsL; rw [List.length_map]; exact Nat.le_refl _)]
      obtain ⟨d0, ds0, e0⟩ := triL_cons y c
      have ok := srt_triL y c
      have e1 : formD y c = minDs d0 ds0 := by unfold formD; rw [e0] <;> rfl
      rw [e0] at ok
      rw [e1] at Qk
      walk_at "v"
      show fMinD [D.lst (triL y c)] _
      rw [e0]
      exact v_minD ok Qk
end
def pf__law_form : PSp W0 := fun _ ds Q _ => ∃ (y : Sy) (c : Cfg), ds = [.lst (y.os.map olD), cfD c] ∧ y.ok ∧ y.Ok c ∧ Q () (formD y c)
theorem v_lform {y : Sy} {c : Cfg} {Q : Unit → D → Prop} {E : Unit → Exn → Prop} (h1 : y.ok) (h2 : y.Ok c) (q : Q () (formD y c)) : pf__law_form () [.lst (y.os.map olD), cfD c] Q E := ⟨y, c, rfl, h1, h2, q⟩
def ltD (d : D) : D := match d with | .lst x => .tup x | _ => .non
theorem lt_map {os : List (List Int)} : List.map ltD (List.map olD os) = os.map olT := by
  rw [List.map_map] <;> rfl
section
variable {P : Program} {w : World} {K : PySem.W.Frag} {mg : Str → Option Value} {base : Heap}
theorem ok__law_form (c : Ctx K mg) : FnOk P w K mg base (L2N.CX P w) 2 (A__law_form K) (fdA K (A__law_form K)) ["_law_orders_here", "_law_state"] (spM .A K W0 (pf__law_form)) := by
  refine okQ (F__law_form c) sc__law_form (fun ω ds Q E h => ?_) (fun cdv A outer s0 H E hr tk pown => (qss_cons (qs_setO (i := 2) sc__law_form.nd rfl (Or.inl rfl) (qe_lst qa_nil))
  (qss_cons (qs_for pown rfl (qi_lst (qe_call (ok__law_orders (P := P) c) (hr.mono (by decide)) rfl (g__law_orders c) (F__law_orders c).kp (b__law_orders c) (fun σ => L2N.passAt tk σ) (qa_cons (qe_cB cr_len lenP rfl (n_len c) (by decide +kernel) (qa_cons (qe_va (pv 0)) qa_nil)) qa_nil))) (qg_name (i := 3) sc__law_form.nd rfl (Or.inl rfl))
    (qss_cons (qs_set (i := 4) sc__law_form.nd rfl (Or.inr rfl) (qe_call (ok__law_exchanged (P := P) c) (hr.mono (by decide)) rfl (g__law_exchanged c) (F__law_exchanged c).kp (b__law_exchanged c) (fun σ => L2N.passAt tk σ) (qa_cons (qe_va (pv 0)) (qa_cons (qe_va (pv 3)) qa_nil))))
    (qss_cons (qs_setLc (i := 5) (own := [("_law_place", 8)]) rfl sc__law_form.nd rfl rfl (sw_true rfl rfl rfl (by decide +kernel)) (qi_rg1 rfl (n_range c) (qe_cB cr_len lenP rfl (n_len c) (by decide +kernel) (qa_cons (qe_ix ix_list ixLP (qe_va (pv 4)) qe_int (fun _ _ => rfl)) qa_nil))) (blkOk_by (N := N__law_form) (sc := defScope s__law_form) (by decide +kernel)) (fun _ _ _ _ _ => (qg_name (i := 8) sc__law_form.nd rfl (Or.inl rfl))) (fun _ _ _ _ _ => qts_nil) (fun _ _ _ _ _ => (qe_bmL PySem.F.slot_list_index PySem.F.type_list_index mt_index lindexP (qe_ix ix_list ixLP (qe_va (pv 4)) qe_int (fun _ _ => rfl)) (qa_cons (qe_va (pv 8)) qa_nil))))
    (qss_cons (qs_asg (qe_call (ok__law_rename (P := P) c) (hr.mono (by decide)) rfl (g__law_rename c) (F__law_rename c).kp (b__law_rename c) (fun σ => L2N.passAt tk σ) (qa_cons (qe_call (ok__law_exchange (P := P) c) (hr.mono (by decide)) rfl (g__law_exchange c) (F__law_exchange c).kp (b__law_exchange c) (fun σ => L2N.passAt tk σ) (qa_cons (qe_va (pv 1)) (qa_cons (qe_va (pv 3)) qa_nil))) (qa_cons (qe_va (pv 5)) qa_nil))) (qg_tup (n := 2) rfl (qgs_cons (qg_name (i := 6) sc__law_form.nd rfl (Or.inl rfl)) (qgs_cons (qg_name (i := 7) sc__law_form.nd rfl (Or.inl rfl)) qgs_nil))))
    (qss_one (qs_app (i := 2) rfl (pv 2) (qe_tup (qa_cons (qe_cT cr_tuple tupleP rfl (n_tuple c) (by decide +kernel) (qa_cons (qe_lc (own := [("_law_row", 9)]) rfl sc__law_form.nd (qi_lst (qe_call (ok__law_renamed (P := P) c) (hr.mono (by decide)) rfl (g__law_renamed c) (F__law_renamed c).kp (b__law_renamed c) (fun σ => L2N.passAt tk σ) (qa_cons (qe_va (pv 4)) (qa_cons (qe_va (pv 5)) qa_nil)))) (blkOk_by (N := N__law_form) (sc := defScope s__law_form) (by decide +kernel)) (fun _ _ _ _ _ => (qg_name (i := 9) sc__law_form.nd rfl (Or.inl rfl))) (fun _ _ _ _ _ => qts_nil) (fun _ _ _ _ _ => (qe_cT cr_tuple tupleP rfl (n_tuple c) (by decide +kernel) (qa_cons (qe_va (pv 9)) qa_nil)))) qa_nil)) (qa_cons (qe_va (pv 6)) (qa_cons (qe_va (pv 7)) qa_nil))))))))))
  (qss_one (qs_ret (qe_ix ix_list ixLP (qe_cB (cr_sortD hr.units) sortDP rfl (n_sorted c) (by decide +kernel) (qa_cons (qe_v (pv 2)) qa_nil)) qe_int (fun _ _ => rfl))))))) (fun ω ds Q E h => ?_)
  · first | (obtain ⟨rfl, _⟩ := h; rfl) | (obtain ⟨_, rfl, _⟩ := h; rfl) | (obtain ⟨_, _, rfl, _⟩ := h; rfl) | (obtain ⟨_, _, _, rfl, _⟩ := h; rfl) | (obtain ⟨_, _, _, _, rfl, _⟩ := h; rfl) | (obtain ⟨_, _, _, _, _, rfl, _⟩ := h; rfl) | (obtain ⟨_, _, _, _, _, _, rfl, _⟩ := h; rfl) | (obtain ⟨_, _, _, _, _, _, _, rfl, _⟩ := h; rfl)
  · skip
    obtain ⟨y, c, rfl, hy, hc, Qk⟩ := h
    have W1 := hy.2.1
    have W6 := hy.2.2.1
    have n12 := hy.2.2.2.2.1
    walk_at "v"
    rename_i l
    rw [List.length_map]
    refine v_orders W6 ?_
    walk_at "v"
    have lo : (ordsL y.os.length).length ≤ 46656 := by
      unfold ordsL
      rw [List.length_map]
      exact Nat.le_trans (rowsP_len W6 _) (pow6 W6)
    refine v_kFor (fun i ω' ρ => ω' = () ∧ ∃ o3 o4 o5 o6 o7, allVa [o3, o4, o5, o6, o7] = true ∧ ρ = [.va (.lst (y.os.map olD)), .va (cfD c), .ow l (((ordsL y.os.length).take i).map (triD y c)), o3, o4, o5, o6, o7, .no, .no]) ⟨rfl, .no, .no, .no, .no, .no, rfl, rfl⟩ ?_ ?_
    · rintro i d ω' ρ hi ⟨rfl, o3, o4, o5, o6, o7, ho, rfl⟩
      rw [List.getElem?_map] at hi
      obtain ⟨ord, hb, rfl⟩ := Option.map_eq_some_iff.mp hi
      have hord : IsOrd ord y.os.length := ordsL_ord (List.mem_of_getElem? hb)
      have dok := Sy.exch_ok hy hord
      have l0 : 0 < (y.exch ord).os.length := dok.2.1
      have N := nf_of hy hord
      have sC := exC_iso hy hord hc
      have okC := SIso.ok (Sy.exch_iso hy hord) hy hc sC
      have e0 : atI ((exO y.os ord).map olD) 0 = some (olD ((y.exch ord).os.getD 0 [])) := atI_of (by omega) (by rw [List.getElem?_map, List.getD_eq_getElem?_getD, show ((0 : Int)).toNat = 0 from rfl, show (exO y.os ord)[0]? = some (y.exch ord).os[0] from List.getElem?_eq_getElem l0, List.getElem?_eq_getElem l0] <;> rfl)
      have n0 := row_num dok l0
      have n1 : ((y.exch ord).os.getD 0 []).length = y.n := row_len dok l0
      walk_at "v"
      refine v_exchangedL (by omega) hord ?_
      walk_at "v"
      refine v_ixL e0 ?_
      walk_at "v"
      rw [length_dInts]
      walk_at "v"
      rw [rgI_rg]
      refine v_kLcMI (ns := rg ((y.exch ord).os.getD 0 []).length) (fun x => .int (((y.exch ord).os.getD 0 []).idxOf x : Nat)) (by rw [length_rg, n1]; omega) (by cases o5 <;> first | rfl | exact ho) (fun j x Q' hx hq => ?_) ?_
      · have hx2 := mem_rg.mp (List.mem_of_getElem? hx)
        walk_at "v"
        refine ⟨rfl, ?_⟩
        walk_at "v"
        refine v_ixL e0 ?_
        walk_at "v"
        exact v_lindex (n0.mem.mpr hx2) hq
      have e1 : (rg ((y.exch ord).os.getD 0 []).length).map (fun x => D.int (((y.exch ord).os.getD 0 []).idxOf x : Nat)) = dInts (nfB y ord) := by
        unfold nfB invP dInts
        rw [List.map_map] <;> rfl
      rw [e1]
      walk_at "v"
      refine ⟨c.1, c.2, ord, y.os.length, rfl, hord, by omega, hc.2.1, by rw [hc.1]; exact n12, hc.2.2.2, fun ps' hpl hps => ?_⟩
      have ep : ps' = (exC ord c).2 := by
        have := exch_uniq hord hpl hps
        rw [this]
        show _ = (formF ord c.2.length).map _
        rw [hc.2.1]
      subst ep
      walk_at "v"
      refine ⟨c.1.map (ordF ord), (exC ord c).2, nfB y ord, rfl, N.nb, by rw [List.length_map, hc.1, N.lb], by rw [hpl]; omega, fun cs' hcl hcs => ?_⟩
      have ec : cs' = (nfC y ord c).1 := ren_uniq N.nb hcl hcs
      subst ec
      walk_at "v"
      refine v_app (l := l) (ds := ((ordsL y.os.length).take i).map (triD y c)) rfl (by rw [List.length_map, List.length_take]; omega) ?_
      walk_at "v"
      refine v_renamedL (by show (List.map _ _).length ≤ _; rw [List.length_map, length_formF]; omega) N.nb (fun o hm => by have := dok.2.2.2.2.2.1 o hm; exact ⟨this.1, by rw [N.lb]; exact this.2⟩) ?_
      walk_at "v"
      refine v_kLcM ltD (by rw [List.length_map]; show (List.map _ (List.map _ _)).length ≤ _; rw [List.length_map, List.length_map, length_formF]; omega) rfl (fun j d Q' hd hq => ?_) ?_
      · rw [List.getElem?_map] at hd
        obtain ⟨o, ho, rfl⟩ := Option.map_eq_some_iff.mp hd
        walk_at "v"
        refine ⟨rfl, ?_⟩
        walk_at "v"
        exact hq
      rw [lt_map]
      walk_at "v"
      have e9 : (ordsL y.os.length).take (i + 1) = (ordsL y.os.length).take i ++ [ord] := by rw [List.take_add_one, hb] <;> rfl
      simp only [e9, List.map_append]
      exact ⟨trivial, _, _, _, _, _, rfl, rfl⟩
    · rintro ω' ρ ⟨rfl, o3, o4, o5, o6, o7, ho, rfl⟩
      rw [List.length_map, List.take_of_length_le (Nat.le_refl _)]
      obtain ⟨d0, ds0, e0⟩ := triL_cons y c
      have ok := srt_triL y c
      have e1 : formD y c = minDs d0 ds0 := by unfold formD; rw [e0] <;> rfl
      rw [e0] at ok
      rw [e1] at Qk
      walk_at "v"
      show fSortD [D.lst (triL y c)] _
      rw [e0]
      refine v_sortD ok ?_
      walk_at "v"
      exact v_ixL (atI_of (by omega) (minDs_sort ok)) Qk
end
def spS : Nat → PySem.W.Frag → Sp
  | 0, _ => fun _ _ _ _ => False
  | n + 1, K => fun vs H Q _ => (∃ (v w : V) (d : D), vs = [v, w] ∧ Rep K H d v ∧ Rep K H d w ∧ d.lev n = true ∧ Q (.bl true) H) ∨ ∃ x y : Str, vs = [.str x, .str y] ∧ x ≠ y ∧ Q (.bl false) H
abbrev sp__law_same (K : PySem.W.Frag) : Sp := spS 9 K
theorem w_same {K : PySem.W.Frag} {H : Hp} {Q : VK} {E : XK} {v w : V} (d : D) (hv : Rep K H d v) (hw : Rep K H d w) (hd : d.lev 8 = true) (k : Q (.bl true) H) : sp__law_same K [v, w] H Q E := .inl ⟨v, w, d, rfl, hv, hw, hd, k⟩
theorem w_sameI {K : PySem.W.Frag} {H : Hp} {Q : VK} {E : XK} {i j : Int} (e : i = j) (k : Q (.bl true) H) : sp__law_same K [.int i, .int j] H Q E := w_same (.int j) (by rw [e]; exact .int j) (.int j) rfl k
theorem w_sameT {K : PySem.W.Frag} {H : Hp} {Q : VK} {E : XK} {a b : Addr} {ns : List Int} (ha : SqT K H a (ns.map V.int)) (hb : SqT K H b (ns.map V.int)) (hl : ns.length ≤ 1000000) (k : Q (.bl true) H) : sp__law_same K [.ref a, .ref b] H Q E := w_same (.tup (dInts ns)) (rep_tupI ha) (rep_tupI hb) (lev_tupI hl) k
theorem w_sameL {K : PySem.W.Frag} {H : Hp} {Q : VK} {E : XK} {a b : Addr} {ns : List Int} (ha : SqL K H a (ns.map V.int)) (hb : SqL K H b (ns.map V.int)) (hl : ns.length ≤ 1000000) (k : Q (.bl true) H) : sp__law_same K [.ref a, .ref b] H Q E := w_same (.lst (dInts ns)) (rep_lstI ha) (rep_lstI hb) (lev_lstI hl) k
theorem w_sameB {K : PySem.W.Frag} {H : Hp} {Q : VK} {E : XK} {b c : Bool} (e : b = c) (k : Q (.bl true) H) : sp__law_same K [.bl b, .bl c] H Q E := w_same (.bl c) (by rw [e]; exact .bl c) (.bl c) rfl k
section
variable {P : Program} {w : World} {K : PySem.W.Frag} {mg : Str → Option Value} {base : Heap}
theorem okS (c : Ctx K mg) : ∀ n : Nat, FnOk P w K mg base (L2N.CX P w) n (A__law_same K) (fdA K (A__law_same K)) ["_law_actual", "_law_expected"] (spS n K) := by
  intro n
  induction n with
  | zero => exact ⟨fun _ _ _ _ h => h.elim, fun _ _ _ _ _ _ _ _ _ _ _ _ _ h => h.elim⟩
  | succ n ih =>
    refine okT (F__law_same c) sc__law_same (fun vs H Q E h => ?_) (fun cdv A outer s H vs Q E hr h tk pown => ?_)
    · rcases h with ⟨_, _, _, rfl, _⟩ | ⟨_, _, rfl, _⟩ <;> rfl
    · refine ⟨_, (pss_cons (ps_if (PW.pt (pw_and (pt_val (pe_callB call_isi rfl (n_isinstance c) (by decide +kernel) (pa_cons (pv 1) (pa_cons (pe_bltn (v := .ty "tuple") (u := .type "tuple") rfl (n_tuple c) (by decide +kernel) rfl) pa_nil)))) (pw_and1 (pt_not (pt_val (pe_callB call_isi rfl (n_isinstance c) (by decide +kernel) (pa_cons (pv 0) (pa_cons (pe_bltn (v := .ty "tuple") (u := .type "tuple") rfl (n_tuple c) (by decide +kernel) rfl) pa_nil))))))))
    (pss_one (ps_ret pe_bl))
    pss_nil)
  (pss_cons (ps_if (PW.pt (pw_and (pt_val (pe_callB call_isi rfl (n_isinstance c) (by decide +kernel) (pa_cons (pv 1) (pa_cons (pe_bltn (v := .ty "list") (u := .type "list") rfl (n_list c) (by decide +kernel) rfl) pa_nil)))) (pw_and1 (pt_not (pt_val (pe_callB call_isi rfl (n_isinstance c) (by decide +kernel) (pa_cons (pv 0) (pa_cons (pe_bltn (v := .ty "list") (u := .type "list") rfl (n_list c) (by decide +kernel) rfl) pa_nil))))))))
    (pss_one (ps_ret pe_bl))
    pss_nil)
  (pss_cons (ps_if (PW.pt (pw_or (pt_val (pe_callB call_isi rfl (n_isinstance c) (by decide +kernel) (pa_cons (pv 1) (pa_cons (pe_bltn (v := .ty "tuple") (u := .type "tuple") rfl (n_tuple c) (by decide +kernel) rfl) pa_nil)))) (pw_or1 (pt_val (pe_callB call_isi rfl (n_isinstance c) (by decide +kernel) (pa_cons (pv 1) (pa_cons (pe_bltn (v := .ty "list") (u := .type "list") rfl (n_list c) (by decide +kernel) rfl) pa_nil)))))))
    (pss_cons (ps_if (pt_cmpR op_ne (pe_callB cr_len rfl (n_len c) (by decide +kernel) (pa_cons (pv 0) pa_nil)) (pe_callB cr_len rfl (n_len c) (by decide +kernel) (pa_cons (pv 1) pa_nil)) (nomark _))
      (pss_one (ps_ret pe_bl))
      pss_nil)
    (pss_cons (ps_for pown rfl (pi_range1 rfl (n_range c) (pa_cons (pe_callB cr_len rfl (n_len c) (by decide +kernel) (pa_cons (pv 1) pa_nil)) pa_nil)) (pg_name (i := 2) sc__law_same.nd rfl (Or.inl rfl))
      (pss_one (ps_if (pt_not (pt_val (pe_callS ih hr rfl (g__law_same c) (F__law_same c).kp (b__law_same c) (fun σ => L2N.passAt tk σ) (pa_cons (pe_ix ix_seq (pv 0) (pv 2) (fun _ _ => rfl)) (pa_cons (pe_ix ix_seq (pv 1) (pv 2) (fun _ _ => rfl)) pa_nil)))))
        (pss_one (ps_ret pe_bl))
        pss_nil)))
    (pss_one (ps_ret pe_bl))))
    pss_nil)
  (pss_cons (ps_if (pt_val (pe_callB call_isi rfl (n_isinstance c) (by decide +kernel) (pa_cons (pv 1) (pa_cons (pe_bltn (v := .ty "bool") (u := .type "bool") rfl (n_bool c) (by decide +kernel) rfl) pa_nil))))
    (pss_one (ps_ret (pe_and (pe_callB call_isi rfl (n_isinstance c) (by decide +kernel) (pa_cons (pv 0) (pa_cons (pe_bltn (v := .ty "bool") (u := .type "bool") rfl (n_bool c) (by decide +kernel) rfl) pa_nil))) (pe_one (pe_cmpR op_eq (pv 0) (pv 1) (nomark _))))))
    pss_nil)
  (pss_cons (ps_if (pt_val (pe_callB call_isi rfl (n_isinstance c) (by decide +kernel) (pa_cons (pv 1) (pa_cons (pe_bltn (v := .ty "int") (u := .type "int") rfl (n_int c) (by decide +kernel) rfl) pa_nil))))
    (pss_one (ps_ret (pe_and (pe_callB call_isi rfl (n_isinstance c) (by decide +kernel) (pa_cons (pv 0) (pa_cons (pe_bltn (v := .ty "int") (u := .type "int") rfl (n_int c) (by decide +kernel) rfl) pa_nil))) (pe_and (pe_not (pe_callB call_isi rfl (n_isinstance c) (by decide +kernel) (pa_cons (pv 0) (pa_cons (pe_bltn (v := .ty "bool") (u := .type "bool") rfl (n_bool c) (by decide +kernel) rfl) pa_nil)))) (pe_one (pe_cmpR op_eq (pv 0) (pv 1) (nomark _)))))))
    pss_nil)
  (pss_cons (ps_if (pt_val (pe_callB call_isi rfl (n_isinstance c) (by decide +kernel) (pa_cons (pv 1) (pa_cons (pe_bltn (v := .ty "str") (u := .type "str") rfl (n_str c) (by decide +kernel) rfl) pa_nil))))
    (pss_one (ps_ret (pe_and (pe_callB call_isi rfl (n_isinstance c) (by decide +kernel) (pa_cons (pv 0) (pa_cons (pe_bltn (v := .ty "str") (u := .type "str") rfl (n_str c) (by decide +kernel) rfl) pa_nil))) (pe_one (pe_cmpR op_eq (pv 0) (pv 1) (nomark _))))))
    pss_nil)
  (pss_one (ps_ret (pe_cmpR op_isN (pv 0) pe_non (nomark _)))))))))), ?_⟩
      clear tk pown hr
      obtain ⟨v, w, d, rfl, hv, hw, hd, k⟩ | ⟨x, y, rfl, hne, k⟩ := h
      case inr =>
        dsimp only [L2.start, N__law_same, cxOf, List.map, List.length, Nat.reduceAdd, Nat.reduceSub, List.replicate, List.cons_append, List.nil_append, List.append_nil]
        walk_at "w"
        exact w_bF (Q := Q) (decide_eq_false fun e => hne (V.str.inj e)) k
      dsimp only [L2.start, N__law_same, cxOf, List.map, List.length, Nat.reduceAdd, Nat.reduceSub, List.replicate, List.cons_append, List.nil_append, List.append_nil]
      cases d with
      | ins C ns ds => cases n <;> cases hd
      | adr a => cases n <;> cases hd
      | int i =>
        cases hv
        cases hw
        walk_at "w"
        exact w_bT (Q := Q) (decide_eq_true rfl) k
      | bl i =>
        cases hv
        cases hw
        walk_at "w"
        exact w_bT (Q := Q) (decide_eq_true rfl) k
      | str i =>
        cases hv
        cases hw
        walk_at "w"
        exact w_bT (Q := Q) (decide_eq_true rfl) k
      | non =>
        cases hv
        cases hw
        walk_at "w"
        exact ⟨rfl, k⟩
      | tup ds =>
        cases n with
        | zero => cases hd
        | succ n =>
        have hd0 : (decide (ds.length ≤ 1000000) && ds.all (D.lev n)) = true := hd
        obtain ⟨hdl, hd'⟩ := Bool.and_eq_true_iff.mp hd0
        have hdl := of_decide_eq_true hdl
        have hv0 := hv
        have hw0 := hw
        cases hv with
        | tup q1 r1 =>
        cases hw with
        | tup q2 r2 =>
        rename_i a xs a2 xs2
        have l1 := Reps.len r1
        have l2 := Reps.len r2
        walk_at "w"
        refine w_iteIN (fun e => absurd (by rw [l1, l2]) e) (fun _ => ?_)
        walk_at "w"
        refine w_rRng1N (by omega) ?_
        refine f_rng (fun i σ' H' => ∃ o, σ' = [some (.ref a), some (.ref a2), o] ∧ H' = H) ⟨none, rfl, rfl⟩ ?_ ?_
        · rintro i σ' H' hi ⟨o, rfl, rfl⟩
          rw [Int.zero_add]
          obtain ⟨d, hdi⟩ : ∃ d, ds[i]? = some d := ⟨_, List.getElem?_eq_getElem (by omega)⟩
          obtain ⟨v, hv1, hv2⟩ := reps_get r1 hdi
          obtain ⟨w, hw1, hw2⟩ := reps_get r2 hdi
          walk_at "w"
          refine .inl ⟨v, w, d, rfl, hv2, hw2, List.all_eq_true.mp hd' d (List.mem_of_getElem? hdi), ?_⟩
          walk_at "w"
          exact ⟨_, rfl, rfl⟩
        · rintro σ' H' ⟨o, rfl, rfl⟩
          walk_at "w"
          exact k
      | lst ds =>
        cases n with
        | zero => cases hd
        | succ n =>
        have hd0 : (decide (ds.length ≤ 1000000) && ds.all (D.lev n)) = true := hd
        obtain ⟨hdl, hd'⟩ := Bool.and_eq_true_iff.mp hd0
        have hdl := of_decide_eq_true hdl
        have hv0 := hv
        have hw0 := hw
        cases hv with
        | lst q1 r1 =>
        cases hw with
        | lst q2 r2 =>
        rename_i a xs a2 xs2
        have l1 := Reps.len r1
        have l2 := Reps.len r2
        walk_at "w"
        refine w_iteIN (fun e => absurd (by rw [l1, l2]) e) (fun _ => ?_)
        walk_at "w"
        refine w_rRng1N (by omega) ?_
        refine f_rng (fun i σ' H' => ∃ o, σ' = [some (.ref a), some (.ref a2), o] ∧ H' = H) ⟨none, rfl, rfl⟩ ?_ ?_
        · rintro i σ' H' hi ⟨o, rfl, rfl⟩
          rw [Int.zero_add]
          obtain ⟨d, hdi⟩ : ∃ d, ds[i]? = some d := ⟨_, List.getElem?_eq_getElem (by omega)⟩
          obtain ⟨v, hv1, hv2⟩ := reps_get r1 hdi
          obtain ⟨w, hw1, hw2⟩ := reps_get r2 hdi
          walk_at "w"
          refine .inl ⟨v, w, d, rfl, hv2, hw2, List.all_eq_true.mp hd' d (List.mem_of_getElem? hdi), ?_⟩
          walk_at "w"
          exact ⟨_, rfl, rfl⟩
        · rintro σ' H' ⟨o, rfl, rfl⟩
          walk_at "w"
          exact k
theorem ok__law_same (c : Ctx K mg) : FnOk P w K mg base (L2N.CX P w) 9 (A__law_same K) (fdA K (A__law_same K)) ["_law_actual", "_law_expected"] (sp__law_same K) := okS c 9
theorem okp__law_same (c : Ctx K mg) : FnOk P w K mg base (L2N.CX P w) 9 (A__law_same K) (fdA K (A__law_same K)) ["_law_actual", "_law_expected"] (spM .A K W0 pf__law_same) := (ok__law_same c).imp fun _ _ _ _ h => from_same h
end
theorem iso_refl (y : Sy) : Iso y y (fun w => w) (fun p => p) := ⟨rfl, rfl, rfl, rfl, rfl, fun w h => h, fun a b _ _ _ _ e => e, fun v h => ⟨v, h, rfl⟩, fun p a b => ⟨a, b⟩, fun p q _ _ _ _ e => e, fun w p _ _ _ => rfl⟩
theorem siso_refl {y : Sy} {c : Cfg} (hc : y.Ok c) : SIso y (fun w => w) (fun p => p) c c := ⟨hc.1, fun p _ _ => rfl, hc.2.1, fun w _ => rfl⟩
theorem mem_syms {y : Sy} {ord : List Int} : ord ∈ symsL y ↔ IsOrd ord y.os.length ∧ renO (exO y.os ord) (symP y ord) = y.os := by
  unfold symsL
  rw [List.mem_filter]
  exact ⟨fun h => ⟨ordsL_ord h.1, of_decide_eq_true h.2⟩, fun h => ⟨ord_ordsL h.1, decide_eq_true h.2⟩⟩
theorem syms_pos {y : Sy} (hy : y.ok) : 0 < (symsL y).length := by
  obtain ⟨ord, h1, h2, _⟩ := sym_of hy (Sy.start_ok hy) (iso_refl y) (siso_refl (Sy.start_ok hy))
  exact List.length_pos_of_mem (mem_syms.mpr ⟨h1, h2⟩)
theorem lev_form {y : Sy} {c : Cfg} (hy : y.ok) (hc : y.Ok c) : (formD y c).lev 8 = true := by
  obtain ⟨d, ds, e⟩ := triL_cons y c
  have m : formD y c ∈ triL y c := minL_mem (by rw [e]; exact List.cons_ne_nil _ _)
  obtain ⟨ord, ho, e2⟩ := List.mem_map.mp m
  rw [← e2]
  have hord := ordsL_ord ho
  have N := nf_of hy hord
  have W6 := hy.2.2.1
  have n12 := hy.2.2.2.2.1
  have s := N.st c hc
  refine levT (n := 7) (by show 3 ≤ 1000000; decide) fun d hd => ?_
  rcases List.mem_cons.mp hd with rfl | hd
  · refine levT (n := 6) (by rw [List.length_map, N.iso.len]; omega) fun d hd => ?_
    obtain ⟨o, hm, rfl⟩ := List.mem_map.mp hd
    refine levT (n := 5) ?_ lev_int
    rw [length_dInts, (N.ok.2.2.2.2.2.1 o hm).2]
    show y.n ≤ _
    omega
  · rcases List.mem_cons.mp hd with rfl | hd
    · exact levT (n := 6) (by rw [length_dInts, s.l1]; omega) lev_int
    · rw [List.mem_singleton.mp hd]
      refine levT (n := 6) (by rw [List.length_map, s.l2]; omega) fun d hd => ?_
      obtain ⟨p, _, rfl⟩ := List.mem_map.mp hd
      rfl
theorem isNum_shift {o : List Int} {n : Nat} {b : Int} (h : IsNum o) (hl : o.length = n) : IsNum (o.map fun p => (p + b) % (n : Int)) ∧ (o.map fun p => (p + b) % (n : Int)).length = n := by
  have e : (o.map fun p => (p + b) % (n : Int)) = mulP (turnP n b) o := by
    refine List.map_congr_left fun p hp => ?_
    have := h.mem.mp hp
    exact (turn_at this.1 (by omega)).symm
  have h1 := h.1
  have h2 := h.2.1
  have lt : (turnP n b).length = n := by unfold turnP; rw [List.length_map, List.length_range]
  rw [e]
  refine ⟨isNum_mul (isNum_turn (by omega) (by omega)) h (by rw [lt, hl]), ?_⟩
  unfold mulP
  rw [List.length_map, hl]
theorem dep_cf (c : Cfg) : (cfD c).dep 3 = true := by
  show ((dInts c.1).all (D.dep 1) && ((c.2.map prD).all (D.dep 1) && true)) = true
  rw [dep_dInts, List.all_eq_true.mpr fun d hd => ?_]
  · rfl
  · obtain ⟨p, _, rfl⟩ := List.mem_map.mp hd
    rfl
theorem pure_cf (c : Cfg) : (cfD c).pure = true := by
  show ((D.tup (dInts c.1)).pure && ((D.tup (c.2.map prD)).pure && true)) = true
  rw [pure_tup (ds := dInts c.1) fun d hd => ?_, pure_tup (ds := c.2.map prD) fun d hd => ?_]
  · rfl
  · obtain ⟨p, _, rfl⟩ := List.mem_map.mp hd
    rfl
  · obtain ⟨p, _, rfl⟩ := List.mem_map.mp hd
    rfl
theorem cf_inj {a b : Cfg} (h : cfD a = cfD b) : a = b := by
  have h : D.tup [.tup (dInts a.1), .tup (a.2.map prD)] = D.tup [.tup (dInts b.1), .tup (b.2.map prD)] := h
  injection h with h
  injection h with h1 h
  injection h with h2 _
  exact Prod.ext (dInts_inj (D.tup.inj h1)) (prD_inj (D.tup.inj h2))
theorem dep_form (y : Sy) (c : Cfg) : (formD y c).dep 3 = true := by
  obtain ⟨d, ds, e⟩ := triL_cons y c
  have m : formD y c ∈ triL y c := minL_mem (by rw [e]; exact List.cons_ne_nil _ _)
  obtain ⟨ord, ho, e2⟩ := List.mem_map.mp m
  rw [← e2]
  exact tri_dep _ _ _
def symI (y : Sy) (c : Cfg) (ord : List Int) : Cfg := rnC (symP y ord) (exC ord c)
theorem alike_form {y : Sy} {c c2 : Cfg} (hy : y.ok) (hc : y.Ok c) (hc2 : y.Ok c2) : deq (formD y c2) (formD y c) = (symsL y).any fun ord => decide (symI y c ord = c2) := by
  rw [Bool.eq_iff_iff, deq_iff, List.any_eq_true]
  constructor
  · intro e
    obtain ⟨ord, h1, h2, h3⟩ := (form_same hy hc hc2).mp e.symm
    exact ⟨ord, mem_syms.mpr ⟨h1, h2⟩, decide_eq_true h3⟩
  · rintro ⟨ord, hm, h3⟩
    obtain ⟨h1, h2⟩ := mem_syms.mp hm
    exact ((form_same hy hc hc2).mpr ⟨ord, h1, h2, of_decide_eq_true h3⟩).symm
theorem symI_ok {y : Sy} {c : Cfg} {ord : List Int} (hy : y.ok) (hc : y.Ok c) (hm : ord ∈ symsL y) : y.Ok (symI y c ord) := by
  obtain ⟨h1, h2⟩ := mem_syms.mp hm
  obtain ⟨ρ, κ, I, S⟩ := sym_iso hy h1 h2
  exact SIso.ok I hy hc (S c hc)
section
variable {P : Program} {w : World} {K : PySem.W.Frag} {mg : Str → Option Value} {base : Heap}
theorem ok_law (c : Ctx K mg) : FnOk P w K mg base (L2N.CX P w) 10 (A_law K) (fdA K (A_law K)) ["_law_script"] (spM .A K (WT K) (pf_law K)) := by
  refine okQ (F_law c) sc_law (fun ω ds Q E h => ?_) (fun cdv A outer s0 H E hr tk pown => (qss_cons (qs_set (i := 1) sc_law.nd rfl (Or.inl rfl) (qe_call (okp__law_begin (P := P) c) (hr.mono (by decide)) rfl (g__law_begin c) (F__law_begin c).kp (b__law_begin c) (fun σ => L2N.passAt tk σ) (qa_cons (qe_va (pv 0)) qa_nil)))
  (qss_cons (qs_set (i := 2) sc_law.nd rfl (Or.inl rfl) (qe_ix ix_list ixLP (qe_lst (qa_cons qe_int (qa_cons qe_int qa_nil))) (qe_call (okp__law_draw (P := P) c) (hr.mono (by decide)) rfl (g__law_draw c) (F__law_draw c).kp (b__law_draw c) (fun σ => L2N.passAt tk σ) (qa_cons (qe_va (pv 1)) (qa_cons qe_int qa_nil))) (fun _ _ => rfl)))
  (qss_cons (qs_setO (i := 3) sc_law.nd rfl (Or.inr rfl) (qe_call (ok__law_home (P := P) c) (hr.mono (by decide)) rfl (g__law_home c) (F__law_home c).kp (b__law_home c) (fun σ => L2N.passAt tk σ) (qa_cons (qe_va (pv 1)) (qa_cons (qe_va (pv 2)) (qa_cons (qe_ix ix_list ixLP (qe_lst (qa_cons qe_int (qa_cons qe_int (qa_cons qe_int (qa_cons qe_int qa_nil))))) (qe_call (okp__law_draw (P := P) c) (hr.mono (by decide)) rfl (g__law_draw c) (F__law_draw c).kp (b__law_draw c) (fun σ => L2N.passAt tk σ) (qa_cons (qe_va (pv 1)) (qa_cons qe_int qa_nil))) (fun _ _ => rfl)) (qa_cons (qe_ix ix_list ixLP (qe_lst (qa_cons qe_int (qa_cons qe_int qa_nil))) (qe_call (okp__law_draw (P := P) c) (hr.mono (by decide)) rfl (g__law_draw c) (F__law_draw c).kp (b__law_draw c) (fun σ => L2N.passAt tk σ) (qa_cons (qe_va (pv 1)) (qa_cons qe_int qa_nil))) (fun _ _ => rfl)) qa_nil))))))
  (qss_cons (qs_set (i := 4) sc_law.nd rfl (Or.inl rfl) (qe_cB cr_len lenP rfl (n_len c) (by decide +kernel) (qa_cons (qe_ix ix_list ixLP (qe_v (pv 3)) qe_int (fun _ _ => rfl)) qa_nil)))
  (qss_cons (qs_set (i := 5) sc_law.nd rfl (Or.inr rfl) (qe_cB cr_len lenP rfl (n_len c) (by decide +kernel) (qa_cons (qe_ix ix_list ixLP (qe_ix ix_list ixLP (qe_v (pv 3)) qe_int (fun _ _ => rfl)) qe_int (fun _ _ => rfl)) qa_nil)))
  (qss_cons (qs_set (i := 6) sc_law.nd rfl (Or.inl rfl) (qe_call (okp__law_draw (P := P) c) (hr.mono (by decide)) rfl (g__law_draw c) (F__law_draw c).kp (b__law_draw c) (fun σ => L2N.passAt tk σ) (qa_cons (qe_va (pv 1)) (qa_cons qe_int qa_nil))))
  (qss_cut (qs_if (qb_cmp op_lt opI0_bl (qe_va (pv 6)) qe_int (nomark _))
    (qss_cons (qs_set (i := 7) sc_law.nd rfl (Or.inr rfl) (qe_op op_mul opI_int (qe_va (pv 6)) (qe_call (okp__law_draw (P := P) c) (hr.mono (by decide)) rfl (g__law_draw c) (F__law_draw c).kp (b__law_draw c) (fun σ => L2N.passAt tk σ) (qa_cons (qe_va (pv 1)) (qa_cons qe_int qa_nil)))))
    (qss_one (qs_put (i := 3) rfl (qe_lc (own := [("_law_k", 20)]) rfl sc_law.nd (qi_rg1 rfl (n_range c) (qe_va (pv 4))) (blkOk_by (N := N_law) (sc := defScope s_law) (by decide +kernel)) (fun _ _ _ _ _ => (qg_name (i := 20) sc_law.nd rfl (Or.inr rfl))) (fun _ _ _ _ _ => qts_nil) (fun _ _ _ _ _ => (qe_FA (qe_lc (own := [("_law_place", 19)]) rfl sc_law.nd (qi_lst (qe_ix ix_list ixLP (qe_ix ix_list ixLP (qe_v (pv 3)) qe_int (fun _ _ => rfl)) qe_int (fun _ _ => rfl))) (blkOk_in2 (N := N_law) (sc0 := defScope s_law) rfl (by decide +kernel)) (fun _ _ _ _ _ => (qg_name (i := 19) sc_law.nd rfl (Or.inl rfl))) (fun _ _ _ _ _ => qts_nil) (fun _ _ _ _ _ => (qe_op op_mod opI_int (qe_cT cr_int intP rfl (n_int c) (by decide +kernel) (qa_cons (qe_op op_add opI0_int (qe_va (pv 19)) (qe_op op_mul opI_int (qe_va (pv 20)) (qe_va (pv 7)))) qa_nil)) (qe_va (pv 5)))))))) (pv 3) qe_int)))
    qss_nil)
  (qss_cons (qs_set (i := 8) sc_law.nd rfl (Or.inl rfl) (qe_callO (FnOk.inW (ok__law_made (P := P) c) (WT K)) (hr.mono (by decide)) rfl (g__law_made c) (F__law_made c).kp (b__law_made c) (fun σ => L2N.passAt tk σ) (qa_cons (qe_v (pv 3)) qa_nil)))
  (qss_cons (qs_set (i := 9) sc_law.nd rfl (Or.inl rfl) (qe_call (FnOk.inW (ok__law_symmetries (P := P) c) (WT K)) (hr.mono (by decide)) rfl (g__law_symmetries c) (F__law_symmetries c).kp (b__law_symmetries c) (fun σ => L2N.passAt tk σ) (qa_cons (qe_ix ix_list ixLP (qe_v (pv 3)) qe_int (fun _ _ => rfl)) qa_nil)))
  (qss_cons (qs_set (i := 10) sc_law.nd rfl (Or.inl rfl) (qe_callO (ok__law_drawn_state (P := P) c) (hr.mono (by decide)) rfl (g__law_drawn_state c) (F__law_drawn_state c).kp (b__law_drawn_state c) (fun σ => L2N.passAt tk σ) (qa_cons (qe_va (pv 1)) (qa_cons (qe_v (pv 3)) qa_nil))))
  (qss_cons (qs_set (i := 11) sc_law.nd rfl (Or.inl rfl) (qe_callO (ok__law_drawn_state (P := P) c) (hr.mono (by decide)) rfl (g__law_drawn_state c) (F__law_drawn_state c).kp (b__law_drawn_state c) (fun σ => L2N.passAt tk σ) (qa_cons (qe_va (pv 1)) (qa_cons (qe_v (pv 3)) qa_nil))))
  (qss_cons (qs_asg (qe_ix ix_list ixLP (qe_va (pv 9)) (qe_call (okp__law_draw (P := P) c) (hr.mono (by decide)) rfl (g__law_draw c) (F__law_draw c).kp (b__law_draw c) (fun σ => L2N.passAt tk σ) (qa_cons (qe_va (pv 1)) (qa_cons (qe_cB cr_len lenP rfl (n_len c) (by decide +kernel) (qa_cons (qe_va (pv 9)) qa_nil)) qa_nil))) (fun _ _ => rfl)) (qg_tup (n := 2) rfl (qgs_cons (qg_name (i := 12) sc_law.nd rfl (Or.inl rfl)) (qgs_cons (qg_name (i := 13) sc_law.nd rfl (Or.inl rfl)) qgs_nil))))
  (qss_cut (qs_if (qb_cmp op_eq opEqP (qe_call (okp__law_draw (P := P) c) (hr.mono (by decide)) rfl (g__law_draw c) (F__law_draw c).kp (b__law_draw c) (fun σ => L2N.passAt tk σ) (qa_cons (qe_va (pv 1)) (qa_cons qe_int qa_nil))) qe_int (nomark _))
    (qss_one (qs_set (i := 11) sc_law.nd rfl (Or.inl rfl) (qe_call (FnOk.inW (ok__law_rename (P := P) c) (WT K)) (hr.mono (by decide)) rfl (g__law_rename c) (F__law_rename c).kp (b__law_rename c) (fun σ => L2N.passAt tk σ) (qa_cons (qe_call (FnOk.inW (ok__law_exchange (P := P) c) (WT K)) (hr.mono (by decide)) rfl (g__law_exchange c) (F__law_exchange c).kp (b__law_exchange c) (fun σ => L2N.passAt tk σ) (qa_cons (qe_va (pv 10)) (qa_cons (qe_va (pv 12)) qa_nil))) (qa_cons (qe_va (pv 13)) qa_nil)))))
    qss_nil)
  (qss_cut (qs_if (qb_cmp op_eq opEqP (qe_call (okp__law_draw (P := P) c) (hr.mono (by decide)) rfl (g__law_draw c) (F__law_draw c).kp (b__law_draw c) (fun σ => L2N.passAt tk σ) (qa_cons (qe_va (pv 1)) (qa_cons qe_int qa_nil))) qe_int (nomark _))
    (qss_one (qs_set (i := 11) sc_law.nd rfl (Or.inl rfl) (qe_tup (qa_cons (qe_ix ix_tup ixTP (qe_va (pv 11)) qe_int (fun _ _ => rfl)) (qa_cons (qe_opA op_catX opCatXP (qe_tup (qa_cons (qe_tup (qa_cons qe_int (qa_cons qe_int qa_nil))) qa_nil)) (qe_slA sl_tupX slXP (qe_ix ix_tup ixTP (qe_va (pv 11)) qe_int (fun _ _ => rfl)) (qo_some qe_int) qo_none)) qa_nil)))))
    qss_nil)
  (qss_cons (qs_set (i := 14) sc_law.nd rfl (Or.inl rfl) qe_bl)
  (qss_cons (qs_for pown rfl (qi_lst (qe_va (pv 9))) (qg_up (qg_tup (n := 2) rfl (qgs_cons (qg_name (i := 12) sc_law.nd rfl (Or.inl rfl)) (qgs_cons (qg_name (i := 13) sc_law.nd rfl (Or.inl rfl)) qgs_nil))))
    (qss_one (qs_if (qb_cmp (op_eqD hr.units) opEqDP (qe_call (FnOk.inW (ok__law_rename (P := P) c) (WT K)) (hr.mono (by decide)) rfl (g__law_rename c) (F__law_rename c).kp (b__law_rename c) (fun σ => L2N.passAt tk σ) (qa_cons (qe_call (FnOk.inW (ok__law_exchange (P := P) c) (WT K)) (hr.mono (by decide)) rfl (g__law_exchange c) (F__law_exchange c).kp (b__law_exchange c) (fun σ => L2N.passAt tk σ) (qa_cons (qe_va (pv 10)) (qa_cons (qe_va (pv 12)) qa_nil))) (qa_cons (qe_va (pv 13)) qa_nil))) (qe_va (pv 11)) (nomark _))
      (qss_one (qs_set (i := 14) sc_law.nd rfl (Or.inl rfl) qe_bl))
      qss_nil)))
  (qss_cons (qs_set (i := 15) sc_law.nd rfl (Or.inl rfl) (qe_meth (qe_va (pv 8)) (cl_System c) (me_System_form c) (FnR.inW (rawF (ok_System_form (P := P) c) (b_System_form c)) (WT K)) (hr.mono (by decide)) (fun σ => L2N.passAt tk σ) (qa_cons (qe_va (pv 10)) qa_nil)))
  (qss_cons (qs_if (qb_not (qb_val (qe_call (FnOk.inW (okp__law_same (P := P) c) (WT K)) (hr.mono (by decide)) rfl (g__law_same c) (F__law_same c).kp (b__law_same c) (fun σ => L2N.passAt tk σ) (qa_cons (qe_va (pv 15)) (qa_cons (qe_call (FnOk.inW (ok__law_form (P := P) c) (WT K)) (hr.mono (by decide)) rfl (g__law_form c) (F__law_form c).kp (b__law_form c) (fun σ => L2N.passAt tk σ) (qa_cons (qe_ix ix_list ixLP (qe_v (pv 3)) qe_int (fun _ _ => rfl)) (qa_cons (qe_va (pv 10)) qa_nil))) qa_nil)))))
    (qss_one (qs_ret qe_bl))
    qss_nil)
  (qss_cons (qs_if (qb_cmp op_ne opNeP (qe_cmp (op_eqD hr.units) opEqDP (qe_meth (qe_va (pv 8)) (cl_System c) (me_System_form c) (FnR.inW (rawF (ok_System_form (P := P) c) (b_System_form c)) (WT K)) (hr.mono (by decide)) (fun σ => L2N.passAt tk σ) (qa_cons (qe_va (pv 11)) qa_nil)) (qe_va (pv 15)) (nomark _)) (qe_va (pv 14)) (nomark _))
    (qss_one (qs_ret qe_bl))
    qss_nil)
  (qss_cons (qs_setLc (i := 16) (own := [("_law_place", 19)]) rfl sc_law.nd rfl rfl (sw_true rfl rfl rfl (by decide +kernel)) (qi_lst (qe_call (okp__law_shuffled (P := P) c) (hr.mono (by decide)) rfl (g__law_shuffled c) (F__law_shuffled c).kp (b__law_shuffled c) (fun σ => L2N.passAt tk σ) (qa_cons (qe_va (pv 1)) (qa_cons (qe_va (pv 4)) qa_nil)))) (blkOk_by (N := N_law) (sc := defScope s_law) (by decide +kernel)) (fun _ _ _ _ _ => (qg_name (i := 19) sc_law.nd rfl (Or.inl rfl))) (fun _ _ _ _ _ => qts_nil) (fun _ _ _ _ _ => (qe_op op_add opI0_int (qe_va (pv 19)) qe_int)))
  (qss_cons (qs_set (i := 17) sc_law.nd rfl (Or.inl rfl) (qe_call (okp__law_shuffled (P := P) c) (hr.mono (by decide)) rfl (g__law_shuffled c) (F__law_shuffled c).kp (b__law_shuffled c) (fun σ => L2N.passAt tk σ) (qa_cons (qe_va (pv 1)) (qa_cons (qe_va (pv 5)) qa_nil))))
  (qss_cons (qs_set (i := 18) sc_law.nd rfl (Or.inl rfl) (qe_meth (qe_meth (qe_va (pv 8)) (cl_System c) (me_System_exchanged c) (FnR.inW (rawF (ok_System_exchanged (P := P) c) (b_System_exchanged c)) (WT K)) (hr.mono (by decide)) (fun σ => L2N.passAt tk σ) (qa_cons (qe_cT cr_list listP rfl (n_list c) (by decide +kernel) (qa_cons (qe_va (pv 16)) qa_nil)) qa_nil)) (cl_System c) (me_System_renamed c) (FnR.inW (rawF (ok_System_renamed (P := P) c) (b_System_renamed c)) (WT K)) (hr.mono (by decide)) (fun σ => L2N.passAt tk σ) (qa_cons (qe_make (qe_adr (pe_glob (v := .ref (He.ga K "Numbering")) rfl (g_Numbering c) rfl)) (mk_Numbering c) (rawF (ok_Numbering___init__ (P := P) c) (b_Numbering___init__ c)) (mkp_Numbering c) (hr.mono (by decide)) (fun σ => L2N.passAt tk σ) (qa_cons (qe_cT cr_list listP rfl (n_list c) (by decide +kernel) (qa_cons (qe_va (pv 17)) qa_nil)) qa_nil)) qa_nil)))
  (qss_cons (qs_if (qb_not (qb_val (qe_call (FnOk.inW (okp__law_same (P := P) c) (WT K)) (hr.mono (by decide)) rfl (g__law_same c) (F__law_same c).kp (b__law_same c) (fun σ => L2N.passAt tk σ) (qa_cons (qe_meth (qe_va (pv 18)) (cl_System c) (me_System_form c) (FnR.inW (rawF (ok_System_form (P := P) c) (b_System_form c)) (WT K)) (hr.mono (by decide)) (fun σ => L2N.passAt tk σ) (qa_cons (qe_call (FnOk.inW (ok__law_rename (P := P) c) (WT K)) (hr.mono (by decide)) rfl (g__law_rename c) (F__law_rename c).kp (b__law_rename c) (fun σ => L2N.passAt tk σ) (qa_cons (qe_call (FnOk.inW (ok__law_exchange (P := P) c) (WT K)) (hr.mono (by decide)) rfl (g__law_exchange c) (F__law_exchange c).kp (b__law_exchange c) (fun σ => L2N.passAt tk σ) (qa_cons (qe_va (pv 10)) (qa_cons (qe_va (pv 16)) qa_nil))) (qa_cons (qe_va (pv 17)) qa_nil))) qa_nil)) (qa_cons (qe_va (pv 15)) qa_nil)))))
    (qss_one (qs_ret qe_bl))
    qss_nil)
  (qss_one (qs_ret (qe_call (FnOk.inW (okp__law_same (P := P) c) (WT K)) (hr.mono (by decide)) rfl (g__law_same c) (F__law_same c).kp (b__law_same c) (fun σ => L2N.passAt tk σ) (qa_cons (qe_meth (qe_va (pv 8)) (cl_System c) (me_System_form c) (FnR.inW (rawF (ok_System_form (P := P) c) (b_System_form c)) (WT K)) (hr.mono (by decide)) (fun σ => L2N.passAt tk σ) (qa_cons (qe_va (pv 10)) qa_nil)) (qa_cons (qe_va (pv 15)) qa_nil))))))))))))))))))))))))))))) (fun ω ds Q E h => ?_)
  · first | (obtain ⟨rfl, _⟩ := h; rfl) | (obtain ⟨_, rfl, _⟩ := h; rfl) | (obtain ⟨_, _, rfl, _⟩ := h; rfl) | (obtain ⟨_, _, _, rfl, _⟩ := h; rfl) | (obtain ⟨_, _, _, _, rfl, _⟩ := h; rfl) | (obtain ⟨_, _, _, _, _, rfl, _⟩ := h; rfl) | (obtain ⟨_, _, _, _, _, _, rfl, _⟩ := h; rfl) | (obtain ⟨_, _, _, _, _, _, _, rfl, _⟩ := h; rfl)
  · skip
    have cc := c
    obtain ⟨a, ns, rfl, rfl, Qk⟩ := h
    walk_at "v"
    refine v_begin fun t => ?_
    walk_at "v"
    refine v_draw (by omega) (by decide) (by decide) fun z0 z00 z01 => ?_
    walk_at "v"
    obtain ⟨L, hL, L1, L24⟩ : ∃ L : Nat, atI [D.int 6, .int 24] z0 = some (.int L) ∧ 1 ≤ L ∧ L ≤ 24 := by
      rcases (by omega : z0 = 0 ∨ z0 = 1) with rfl | rfl
      · exact ⟨6, rfl, by decide, by decide⟩
      · exact ⟨24, rfl, by decide, by decide⟩
    refine v_ixL hL ?_
    walk_at "v"
    refine v_draw (by omega) (by decide) (by decide) fun z1 z10 z11 => ?_
    walk_at "v"
    obtain ⟨Wm, hWm, Wm1, Wm6⟩ : ∃ M : Nat, atI [D.int 4, .int 4, .int 4, .int 6] z1 = some (.int M) ∧ 1 ≤ M ∧ M ≤ 6 := by
      rcases (by omega : z1 = 0 ∨ z1 = 1 ∨ z1 = 2 ∨ z1 = 3) with rfl | rfl | rfl | rfl
      · exact ⟨4, rfl, by decide, by decide⟩
      · exact ⟨4, rfl, by decide, by decide⟩
      · exact ⟨4, rfl, by decide, by decide⟩
      · exact ⟨6, rfl, by decide, by decide⟩
    refine v_ixL hWm ?_
    walk_at "v"
    refine v_draw (by omega) (by decide) (by decide) fun z2 z20 z21 => ?_
    walk_at "v"
    obtain ⟨nm, hnm, nm1, nm12⟩ : ∃ M : Nat, atI [D.int 6, .int 12] z2 = some (.int M) ∧ 1 ≤ M ∧ M ≤ 12 := by
      rcases (by omega : z2 = 0 ∨ z2 = 1) with rfl | rfl
      · exact ⟨6, rfl, by decide, by decide⟩
      · exact ⟨12, rfl, by decide, by decide⟩
    refine v_ixL hnm ?_
    walk_at "v"
    refine v_home (by omega) ⟨L1, L24⟩ ⟨Wm1, Wm6⟩ ⟨nm1, nm12⟩ fun b1 y hb1 hy hyL hyW hyn => ?_
    walk_at "v"
    rename_i l
    have W1 := hy.2.1
    have W6 := hy.2.2.1
    have n1 := hy.2.2.2.1
    have n12 := hy.2.2.2.2.1
    have e00 : atI (y.os.map olD) 0 = some (olD (y.os.getD 0 [])) := atI_of (by omega) (by rw [List.getElem?_map, List.getD_eq_getElem?_getD, show ((0 : Int)).toNat = 0 from rfl, List.getElem?_eq_getElem W1] <;> rfl)
    refine v_ixL e00 ?_
    walk_at "v"
    rw [length_dInts, row_len hy W1]
    refine v_draw (by omega) (by decide) (by decide) fun kd kd0 kd1 => ?_
    walk_at "v"
    refine ⟨fun ω' ρ => ∃ (b : Nat) (os : List (List Int)) (o7 : Sl), b ≤ b1 + 2 ∧ (o7 = .no ∨ ∃ d, o7 = .va d) ∧ (⟨y.ks, os, y.n, y.cap⟩ : Sy).ok ∧ ω' = TS.tape t b ∧ ρ = [.va (.adr a), .va (.adr t), .va (.int L), .ow l [.lst (dStrs (y.ks.map Cmd.text)), .lst (os.map olD), .int y.cap], .va (.int os.length), .va (.int y.n), .va (.int kd), o7, .no, .no, .no, .no, .no, .no, .no, .no, .no, .no, .no, .no, .no], ?_, ?_⟩
    · walk_at "v"
      refine w_iteP (fun e => ?_) (fun e => ?_)
      · walk_at "v"
        refine v_draw (by omega) (by decide) (by decide) fun zb zb0 zb1 => ?_
        walk_at "v"
        rw [List.length_map]
        walk_at "v"
        have nr := row_num hy W1
        have nl := row_len hy W1
        have sh : ∀ k : Int, IsNum ((y.os.getD 0 []).map fun p => (p + k * (kd * zb)) % (y.n : Int)) ∧ ((y.os.getD 0 []).map fun p => (p + k * (kd * zb)) % (y.n : Int)).length = y.n := fun k => isNum_shift nr nl
        refine v_kLcMI (ns := rgI 0 y.os.length) (fun k => olD ((y.os.getD 0 []).map fun p => (p + k * (kd * zb)) % (y.n : Int))) (by rw [length_rgI]; omega) rfl (fun j k Q' hk hq => ?_) ?_
        · have hk2 := mem_rgI.mp (List.mem_of_getElem? hk)
          walk_at "v"
          refine ⟨rfl, ?_⟩
          walk_at "v"
          refine v_ixL e00 ?_
          walk_at "v"
          refine v_kLcMI (ns := y.os.getD 0 []) (fun p => .int ((p + k * (kd * zb)) % (y.n : Int))) (by omega) rfl (fun j2 p Q2 hp hq2 => ?_) ?_
          · walk_at "v"
            refine ⟨rfl, ?_⟩
            walk_at "v"
            exact hq2
          · rw [dInts_map]
            exact hq
        walk_at "v"
        have eo : (rgI 0 y.os.length).map (fun k => olD ((y.os.getD 0 []).map fun p => (p + k * (kd * zb)) % (y.n : Int))) = ((rgI 0 y.os.length).map fun k => (y.os.getD 0 []).map fun p => (p + k * (kd * zb)) % (y.n : Int)).map olD := by rw [List.map_map] <;> rfl
        rw [eo]
        refine v_kPut2 (ixN_nat (by omega) (by show (1 : Int) < 3; decide)) ?_
        have hlr : ((rgI 0 y.os.length).map fun k => (y.os.getD 0 []).map fun p => (p + k * (kd * zb)) % (y.n : Int)).length = y.os.length := by rw [List.length_map, length_rgI]; omega
        refine ⟨b1 + 1 + 1, (rgI 0 y.os.length).map fun k => (y.os.getD 0 []).map fun p => (p + k * (kd * zb)) % (y.n : Int), .va (.int (kd * zb)), by omega, .inr ⟨_, rfl⟩, ⟨hy.1, by rw [hlr]; exact W1, by rw [hlr]; exact W6, n1, n12, fun o ho => ?_, hy.2.2.2.2.2.2⟩, rfl, ?_⟩
        · obtain ⟨k, _, rfl⟩ := List.mem_map.mp ho
          exact sh k
        · rw [hlr]
          rfl
      · walk_at "v"
        exact ⟨b1 + 1, y.os, .no, by omega, .inl rfl, hy, rfl, by rw [List.length_map] <;> rfl⟩
    rintro ω' ρ ⟨b2, os, o7, hb2, ho7, hy2, rfl, rfl⟩
    obtain ⟨z, ez⟩ : ∃ z : Sy, z = ⟨y.ks, os, y.n, y.cap⟩ := ⟨_, rfl⟩
    rw [← ez] at hy2
    have ek : y.ks = z.ks := by rw [ez]
    have eo : os = z.os := by rw [ez]
    have en : y.n = z.n := by rw [ez]
    have ec : y.cap = z.cap := by rw [ez]
    rw [ek, eo, en, ec]
    clear ez ek eo en ec
    walk_at "v"
    refine v_made hy2 ?_
    have V1 := hy2.2.1
    have V6 := hy2.2.2.1
    have m1 := hy2.2.2.2.1
    have m12 := hy2.2.2.2.2.1
    have sp := syms_pos hy2
    have sl : (symsL z).length ≤ 46656 := by
      unfold symsL
      refine Nat.le_trans (List.length_filter_le _ _) ?_
      unfold ordsL
      rw [List.length_map]
      exact Nat.le_trans (rowsP_len V6 _) (pow6 V6)
    refine ⟨pure_sys hy2, ?_⟩
    walk_at "v"
    refine v_syms hy2 ?_
    walk_at "v"
    refine v_drawnState (by omega) hy2 fun b3 cs ps hb3 hs => ?_
    obtain ⟨c1, ec1⟩ : ∃ c : Cfg, c = (cs, ps) := ⟨_, rfl⟩
    have hc : z.Ok c1 := by rw [ec1]; exact hs
    rw [show stD cs ps = cfD c1 by rw [ec1]]
    clear ec1 hs
    refine ⟨pure_cf _, ?_⟩
    walk_at "v"
    refine v_drawnState (by omega) hy2 fun b4 cs2 ps2 hb4 hs2 => ?_
    obtain ⟨c2, ec2⟩ : ∃ c : Cfg, c = (cs2, ps2) := ⟨_, rfl⟩
    have hc2 : z.Ok c2 := by rw [ec2]; exact hs2
    rw [show stD cs2 ps2 = cfD c2 by rw [ec2]]
    clear ec2 hs2
    refine ⟨pure_cf _, ?_⟩
    walk_at "v"
    rw [List.length_map]
    refine v_draw (by omega) (by omega) (by omega) fun zs zs0 zs1 => ?_
    walk_at "v"
    obtain ⟨cho, hcho⟩ : ∃ o, (symsL z)[zs.toNat]? = some o := ⟨_, List.getElem?_eq_getElem (by omega)⟩
    have hcm := List.mem_of_getElem? hcho
    refine v_ixL (d := symT z cho) (atI_of zs0 (by rw [List.getElem?_map, hcho] <;> rfl)) ?_
    show gtp 2 _ (.tup [olD cho, olD (symP z cho)]) _ _
    obtain ⟨hco, hce⟩ := mem_syms.mp hcm
    obtain ⟨pn, pl, _⟩ := symP_ok hy2 hco
    walk_at "v"
    refine ⟨fun ω' ρ => ∃ (b : Nat) (c2 : Cfg), b ≤ b4 + 2 ∧ z.Ok c2 ∧ ω' = TS.tape t b ∧ ρ = [.va (.adr a), .va (.adr t), .va (.int L), .ow l [.lst (dStrs (z.ks.map Cmd.text)), .lst (z.os.map olD), .int z.cap], .va (.int z.os.length), .va (.int z.n), .va (.int kd), o7, .va (sysD K z), .va (.lst ((symsL z).map (symT z))), .va (cfD c1), .va (cfD c2), .va (olD cho), .va (olD (symP z cho)), .no, .no, .no, .no, .no, .no, .no], ?_, ?_⟩
    · walk_at "v"
      refine v_draw (by omega) (by decide) (by decide) fun u0 u00 u01 => ?_
      walk_at "v"
      refine w_iteP (fun e => ?_) (fun e => ?_)
      · walk_at "v"
        refine ⟨c1.1, c1.2, cho, z.os.length, rfl, hco, by omega, hc.2.1, by rw [hc.1]; exact m12, hc.2.2.2, fun ps' hpl hps => ?_⟩
        have ep : ps' = (exC cho c1).2 := by
          have := exch_uniq hco hpl hps
          rw [this]
          show _ = (formF cho c1.2.length).map _
          rw [hc.2.1]
        subst ep
        walk_at "v"
        refine ⟨c1.1.map (ordF cho), (exC cho c1).2, symP z cho, rfl, pn, by rw [List.length_map, hc.1, pl], by rw [hpl]; omega, fun cs' hcl hcs => ?_⟩
        have ec : cs' = (symI z c1 cho).1 := ren_uniq pn hcl hcs
        subst ec
        walk_at "v"
        exact ⟨_, symI z c1 cho, by omega, symI_ok hy2 hc hcm, rfl, rfl⟩
      · walk_at "v"
        exact ⟨_, c2, by omega, hc2, rfl, rfl⟩
    rintro ω' ρ ⟨b5, c3, hb5, hc3, rfl, rfl⟩
    clear hc2
    refine ⟨fun ω' ρ => ∃ (b : Nat) (c2 : Cfg), b ≤ b5 + 2 ∧ z.Ok c2 ∧ ω' = TS.tape t b ∧ ρ = [.va (.adr a), .va (.adr t), .va (.int L), .ow l [.lst (dStrs (z.ks.map Cmd.text)), .lst (z.os.map olD), .int z.cap], .va (.int z.os.length), .va (.int z.n), .va (.int kd), o7, .va (sysD K z), .va (.lst ((symsL z).map (symT z))), .va (cfD c1), .va (cfD c2), .va (olD cho), .va (olD (symP z cho)), .no, .no, .no, .no, .no, .no, .no], ?_, ?_⟩
    · walk_at "v"
      refine v_draw (by omega) (by decide) (by decide) fun u0 u00 u01 => ?_
      walk_at "v"
      refine w_iteP (fun e => ?_) (fun e => ?_)
      · walk_at "v"
        obtain ⟨p0, ps0, ep0⟩ : ∃ p0 ps0, c3.2 = p0 :: ps0 := by
          have := hc3.2.1
          cases e : c3.2 with
          | nil => rw [e] at this; simp at this; omega
          | cons p q => exact ⟨p, q, rfl⟩
        rw [show cutD (c3.2.map prD) (some 1) none = ps0.map prD by rw [show (1 : Int) = ((1 : Nat) : Int) from rfl, cutFrom, ep0] <;> rfl]
        walk_at "v"
        have l2 := hc3.2.1
        rw [ep0, List.length_cons] at l2
        refine ⟨by rw [List.length_map]; show 1 + ps0.length ≤ _; omega, ?_⟩
        walk_at "v"
        have ok2 : z.Ok (c3.1, (0, 0) :: ps0) := ⟨hc3.1, l2, fun p hp => by
          rcases List.mem_cons.mp hp with e | hp
          · have := hy2.1.1
            rw [e]
            exact ⟨⟨by show (0 : Int) ≤ 0; omega, by show (0 : Int) < _; omega⟩, by show (0 : Int) ≤ 0; omega, by show (0 : Int) < _; omega⟩
          · exact hc3.2.2.1 p (by rw [ep0]; exact List.mem_cons_of_mem _ hp), hc3.2.2.2⟩
        exact ⟨_, _, by omega, ok2, rfl, rfl⟩
      · walk_at "v"
        exact ⟨_, c3, by omega, hc3, rfl, rfl⟩
    rintro ω' ρ ⟨b6, c4, hb6, hc4, rfl, rfl⟩
    walk_at "v"
    refine v_kFor (fun i ω' ρ => ω' = TS.tape t b6 ∧ ∃ o12 o13, ρ = [.va (.adr a), .va (.adr t), .va (.int L), .ow l [.lst (dStrs (z.ks.map Cmd.text)), .lst (z.os.map olD), .int z.cap], .va (.int z.os.length), .va (.int z.n), .va (.int kd), o7, .va (sysD K z), .va (.lst ((symsL z).map (symT z))), .va (cfD c1), .va (cfD c4), .va o12, .va o13, .va (.bl (((symsL z).take i).any fun ord => decide (symI z c1 ord = c4))), .no, .no, .no, .no, .no, .no]) ⟨rfl, _, _, rfl⟩ ?_ ?_
    · rintro i d ω' ρ hi ⟨rfl, o12, o13, rfl⟩
      rw [List.getElem?_map] at hi
      obtain ⟨ord, hord, rfl⟩ := Option.map_eq_some_iff.mp hi
      have hcm := List.mem_of_getElem? hord
      obtain ⟨hco, hce⟩ := mem_syms.mp hcm
      obtain ⟨pn, pl, _⟩ := symP_ok hy2 hco
      have e9 : (symsL z).take (i + 1) = (symsL z).take i ++ [ord] := by rw [List.take_add_one, hord] <;> rfl
      show gtp 2 _ (.tup [olD ord, olD (symP z ord)]) _ _
      walk_at "v"
      refine ⟨c1.1, c1.2, ord, z.os.length, rfl, hco, by omega, hc.2.1, by rw [hc.1]; exact m12, hc.2.2.2, fun ps' hpl hps => ?_⟩
      have ep : ps' = (exC ord c1).2 := by
        have := exch_uniq hco hpl hps
        rw [this]
        show _ = (formF ord c1.2.length).map _
        rw [hc.2.1]
      subst ep
      walk_at "v"
      refine ⟨c1.1.map (ordF ord), (exC ord c1).2, symP z ord, rfl, pn, by rw [List.length_map, hc.1, pl], by rw [hpl]; omega, fun cs' hcl hcs => ?_⟩
      have ec : cs' = (symI z c1 ord).1 := ren_uniq pn hcl hcs
      subst ec
      walk_at "v"
      refine v_eqD (d := cfD (symI z c1 ord)) (e := cfD c4) 3 (by decide) (dep_cf _) (dep_cf _) ?_
      refine ⟨_, rfl, ?_⟩
      by_cases q : symI z c1 ord = c4
      · rw [if_pos (deq_t (by rw [q]))]
        walk_at "v"
        have e8 : (((symsL z).take (i + 1)).any fun ord => decide (symI z c1 ord = c4)) = true := by
          rw [e9, List.any_append]
          simp [q]
        simp only [e8]
        exact ⟨trivial, _, _, rfl⟩
      · rw [if_neg (by rw [deq_f fun w => q (cf_inj w)]; decide)]
        walk_at "v"
        have e8 : (((symsL z).take (i + 1)).any fun ord => decide (symI z c1 ord = c4)) = ((symsL z).take i).any fun ord => decide (symI z c1 ord = c4) := by
          rw [e9, List.any_append]
          simp [q]
        simp only [e8]
        exact ⟨trivial, _, _, rfl⟩
    rintro ω' ρ ⟨rfl, o12, o13, rfl⟩
    rw [List.length_map, List.take_of_length_le (Nat.le_refl _), ← alike_form hy2 hc hc4]
    walk_at "v"
    refine v_form hy2 hc ?_
    walk_at "v"
    refine v_lform hy2 hc ?_
    walk_at "v"
    refine v_same rfl (lev_form hy2 hc) ?_
    walk_at "v"
    refine v_form hy2 hc4 ?_
    walk_at "v"
    refine v_eqD 3 (by decide) (dep_form _ _) (dep_form _ _) ?_
    walk_at "v"
    rw [if_neg (by simp)]
    walk_at "v"
    refine v_shuffled (by omega) V1 (by omega) fun os_ hos hol => ?_
    walk_at "v"
    refine v_kLcMI (ns := os_) (fun x => .int (x + 1)) (by omega) rfl (fun j x Q' hx hq => ?_) ?_
    · walk_at "v"
      refine ⟨rfl, ?_⟩
      walk_at "v"
      exact hq
    rw [dInts_inc]
    have hord := isOrd_sh hos hol
    generalize os_.map (· + 1) = ord at hord
    walk_at "v"
    refine v_shuffled (by omega) m1 m12 fun pls hpn hpl => ?_
    walk_at "v"
    have N1 := Sy.exch_ok hy2 hord
    have N2 := Sy.ren_ok N1 hpn hpl
    have i1 := Sy.exch_iso hy2 hord
    have I := i1.trans (Sy.ren_iso N1 hpn hpl)
    have hxc := exC_iso hy2 hord hc
    have S := SIso.trans i1 hxc (rnC_iso N1 hpn hpl (SIso.ok i1 hy2 hc hxc))
    have ef : formD ((z.exch ord).ren pls) (rnC pls (exC ord c1)) = formD z c1 := form_iso hy2 N2 hc I S
    have okI := SIso.ok I hy2 hc S
    refine v_exchL hy2 hord ?_
    walk_at "v"
    refine v_num hpn ?_
    refine ⟨pure_num _, ?_⟩
    walk_at "v"
    refine v_ren N1 hpn hpl ?_
    walk_at "v"
    refine ⟨c1.1, c1.2, ord, z.os.length, rfl, hord, by omega, hc.2.1, by rw [hc.1]; exact m12, hc.2.2.2, fun ps' hpl2 hps => ?_⟩
    have ep : ps' = (exC ord c1).2 := by
      have := exch_uniq hord hpl2 hps
      rw [this]
      show _ = (formF ord c1.2.length).map _
      rw [hc.2.1]
    subst ep
    walk_at "v"
    refine ⟨c1.1.map (ordF ord), (exC ord c1).2, pls, rfl, hpn, by rw [List.length_map, hc.1, hpl], by rw [hpl2]; omega, fun cs' hcl hcs => ?_⟩
    have ec : cs' = (rnC pls (exC ord c1)).1 := ren_uniq hpn hcl hcs
    subst ec
    walk_at "v"
    refine v_form (c := rnC pls (exC ord c1)) N2 okI ?_
    rw [ef]
    walk_at "v"
    refine v_same rfl (lev_form hy2 hc) ?_
    walk_at "v"
    refine v_form hy2 hc ?_
    walk_at "v"
    refine v_same rfl (lev_form hy2 hc) ?_
    walk_at "v"
    exact Qk _
end
end LW
set_option maxHeartbeats 0
namespace LW
open PySem PySem.Spec PyProof.Rows L2
theorem ctx_of {K : PySem.W.Frag} {h : Heap} {mg : Str → Option Value} (X : K.In h) (G : h.Ns mainGlobals mg) (q : SaysW fa fn exB K) : Ctx K mg :=
  ⟨q, He.glo_ok X G, He.free_ok X G, He.int_ok X G, He.str_ok X G⟩
end LW
open PySem PySem.W PySem.Calls PyProof.Rows
theorem PySem.Challenge.cw_ownlabels_k25_whole_forms_of_states_holds : PySem.Challenge.rw_ownlabels_k25_whole_forms_of_states.Holds := by
  w_on; o_law
  refine HandSHeadRun.head_any (r := OpenLaw.row PySem.Challenge.rw_ownlabels_k25_whole_forms_of_states) (q := view (OpenLaw.row PySem.Challenge.rw_ownlabels_k25_whole_forms_of_states).prog [40]) (H := LW.hkW) (ob := LW.obT LW.fa LW.fn LW.exB) (M := 8000) (loose := LW.looseN) (d := HandSHeadRun.topDef (OpenLaw.row PySem.Challenge.rw_ownlabels_k25_whole_forms_of_states).prog 40) (kwd := []) LW.obT_eq
    (by kernel_rfl) (fun s => by kernel_rfl) LW.runW (by kernel_rfl) (by kernel_rfl) (by kernel_rfl) (by rfl) (by first | assumption | decide +kernel) (by decide +kernel) ⟨rfl, rfl, rfl, rfl, rfl, by decide +kernel⟩ ?hw ?hc
  case hw => w_witness2
  case hc =>
    refine LW.walkW (l := PySem.Challenge.rw_ownlabels_k25_whole_forms_of_states) (n := 63) (k := 10) (x := "_law_script") rfl (by decide) (by kernel_rfl) ⟨rfl, by decide, by decide⟩ ?F
    case F =>
      intro w mg fa h Y G hmg0
      obtain ⟨K, KX, q⟩ := Y
      have c := LW.ctx_of KX G q
      have hmg : mg ("law" : PySem.Str) = some (.ref fa) := by
        have e : (HandSHeadRun.topDef (OpenLaw.row PySem.Challenge.rw_ownlabels_k25_whole_forms_of_states).prog 40).name = ("law" : PySem.Str) := by kernel_rfl
        rw [← e]
        exact hmg0
      have ef : fa = LW.A_law K := Value.ref.inj (Option.some.inj (hmg.symm.trans (LW.g_law c)))
      subst ef
      exact ⟨K, _, LW.spM .A K (LW.WT K) (LW.pf_law K), KX, fun s v => (LW.F_law c).bindsA (ps := ["_law_script"]) (fun _ _ _ _ _ _ us hl => match us, hl with | [_], _ => rfl) s [v] rfl, fun H a ns hl hO hS => LW.sp_law_of hl hO hS, fun base _ _ => LW.ok_law c⟩
#print axioms PySem.Challenge.cw_ownlabels_k25_whole_forms_of_states_holds
