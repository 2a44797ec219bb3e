import PyProof.Rows.All
import Wide.All
import OpenK.AllK
import Wide.FinOn
import KE.KStateDown
import HandS.ForMost
import HandS.Exc
import HandS.TryOnly
import HandS.TryMany
import HandS.ExcOwn
import HandS.WordsExc
import HandS.CallSlots
import HandS.ExcIs
import HandS.ExcField
import HandS.HotCalls
import HandS.IsInst
import HandS.Wide
import HandS.Defaults
import HandS.Head0
import HandS.Head1
import HandS.Head2
import HandS.HeadEnd
import HandS.HeadHook1
import HandS.HeadHook2
import HandS.ClsMeth
import HandS.SlotsOwn
import HandS.Star
import HandS.SortInts
import HandS.Conv
import HandS.CallLocal
import KE.KOpsOwn
import PyProof.TupleOfSeq
import HandS.Strs
import HandS.TupAny
import HandS.GenList
import HandS.ExcValue
import HandS.SetFor
import KE.KExcIs
import HandS.StrMore
import HandS.FStr
import KE.KDictKeyed
import KE.KDictDisplayH
import KE.GoesEnum
import KE.GoesEnumKw
import HandS.OwnIter
import HandS.IterVal
import HandS.Property
import KE.KExcSuper
import HandS.ExcInit
import KE.KSuper
import HandS.SetBool
import HandS.ReplaceLit
import HandS.Codes
import HandS.NoneIn
import HandS.Zip
import PyProof.InstNe
import PySem.Challenge.RW_ownlabels_k07_all_numberings_in_order
set_option Elab.async false
set_option linter.all false
set_option maxRecDepth 100000
set_option maxHeartbeats 4000000
namespace LW
open PySem PySem.Spec PyProof.Rows L2
inductive D where
  | non | bl (b : Bool) | int (i : Int) | str (s : Str)
  | tup (ds : List D) | lst (ds : List D) | ins (C : Addr) (ns : List Str) (ds : List D) | adr (a : Addr)
mutual
def D.py : D → PyData
  | .non => .none
  | .bl b => .bool b
  | .int i => .int i
  | .str s => .str s
  | .tup ds => .tuple (D.pys ds)
  | .lst ds => .list (D.pys ds)
  | .ins _ _ _ => .none
  | .adr _ => .none
def D.pys : List D → List PyData
  | [] => []
  | d :: ds => d.py :: D.pys ds
end
def excCB (K : PySem.W.Frag) (D : Addr) : Bool := decide (PySem.W.findIn K (.ref D) "__getattribute__" = some (some (.builtin "BaseException.__getattribute__"))) && (decide (PySem.W.findIn K (.ref D) "__getattr__" = some none) && (decide (PySem.W.subIn K (.ref D) (.type "BaseException") = some true) &&
  (PySem.W.hasDictIn K D && (decide (PySem.W.findIn K (.ref D) "__class__" = some (some (.builtin "object.__class__"))) && (decide (PySem.W.specialIn K (.builtin "object.__class__") "__get__" = some (some (.builtin "getset_descriptor.__get__"))) &&
  (decide (PySem.W.takesIn K (.builtin "object.__class__") = some true) && decide (PySem.W.mroIn K D (.type "object") = some true)))))))
structure DefW where
  at_ : PySem.W.Frag → Addr
  name : Str
  qual : Str
  params : Arguments
  body : List Stmt
  scope : Scope
  dfl : List He.Dv
  /-- it says super(); its class -/
  sup : Option Str := none
def fnWA (K : PySem.W.Frag) (sup : Option Str) (a : Addr) : He.FnW := match K.lookup a with
  | some ⟨_, _, .func fd, _⟩ => some (fd.name, fd.qualname, fd.params, fd.body, fd.scope, fd.globals, (match sup with | some _ => fd.closure.map fun p => (p.1, 0) | none => fd.closure), fd.builtins)
  | _ => none
def DefW.val (d : DefW) : He.FnW := some (d.name, d.qual, d.params, .stmts d.body, d.scope, mainGlobals, (match d.sup with | some _ => [("__class__", 0)] | none => []), builtinsNs)
def supB (K : PySem.W.Frag) (D : Addr) (fd : FuncData) : Bool := (match fd.closure with
  | [(_, cc)] => (match K.lookup cc with
    | some ⟨_, _, .cell (some (.ref D')), _⟩ => decide (D' = D)
    | _ => false)
  | _ => false) && ((match fd.code with
  | .ref cda => (match K.lookup cda with
    | some ⟨_, _, .fields vs, _⟩ => (match vs[2]? with
      | some (Value.str file _) => decide (file = "/claim/cut.py")
      | _ => false)
    | _ => false)
  | _ => false) && (PySem.W.clsIn K D).isSome)
def DefW.dvs (K : PySem.W.Frag) (d : DefW) : List V := d.dfl.map (He.Dv.v K)
def DefW.ok (K : PySem.W.Frag) (d : DefW) : Bool := PySem.W.keepIn K (.ref (d.at_ K)) && (match K.lookup (d.at_ K) with
  | some ⟨_, _, .func fd, _⟩ => PySem.W.codeIn K fd.code d.qual && He.dflB K fd.defaults (d.dvs K) && (match d.sup with
    | some C => supB K (He.ga K C) fd
    | none => true)
  | _ => false)
abbrev AlW : Type := Bool × List He.FnW
def obsW (fa : List He.Fa) (fn : List DefW) (ex : PySem.W.Frag → List Bool) (K : PySem.W.Frag) : AlW := ((fa.all fun f => f.ok K) && ((fn.all fun d => d.ok K) && (ex K).all id), fn.map fun d => fnWA K d.sup (d.at_ K))
def valW (fn : List DefW) : AlW := (true, fn.map DefW.val)
def SaysW (fa : List He.Fa) (fn : List DefW) (ex : PySem.W.Frag → List Bool) (K : PySem.W.Frag) : Prop := obsW fa fn ex K = valW fn
def levM (k : Nat → List Addr → List Addr) : List Addr → Nat → List Addr → List Addr
  | [], m, new => k m new
  | a :: r, m, new => bif Nat.beq (Nat.mod (Nat.shiftRight m a) 2) 1 then levM k r m new else levM k r (Nat.add m (Nat.pow 2 a)) (a :: new)
def asM (g : Addr → Option Obj) : Nat → Nat → List Addr → List Addr
  | 0, _, fr => fr
  | n + 1, m, fr => fr ++ levM (asM g n) (fr.flatMap fun a => match g a with
    | some o => He.refsD o
    | none => []) m []
def asW (g : Addr → Option Obj) : List Addr := asM g 5 (2 ^ mainGlobals) [mainGlobals] ++ [cStatics]
def hookW (fa : List He.Fa) (fn : List DefW) (ex : PySem.W.Frag → List Bool) : PySem.W.Hook where
  α := AlW
  obs := fun s => obsW fa fn ex (He.frG s.heap.get? (asW s.heap.get?))
  val := fun _ => valW fn
  says := fun _ h => ∃ K : PySem.W.Frag, K.In h ∧ SaysW fa fn ex K
  of := fun _ _ e => ⟨_, He.frG_in, e⟩
  keeps := fun _ _ _ ⟨K, hK, q⟩ k => ⟨K, PySem.W.Frag.In.keeps hK k, q⟩
def obT (fa : List He.Fa) (fn : List DefW) (ex : PySem.W.Frag → List Bool) (s : PySem.W.SharedT) : AlW := obsW fa fn ex (He.frG (HandSHeadRun.getT s) (asW (HandSHeadRun.getT s)))
section
variable {fa : List He.Fa} {fn : List DefW} {ex : PySem.W.Frag → List Bool} {K : PySem.W.Frag}
theorem SaysW.all (c : SaysW fa fn ex K) : (fa.all fun f => f.ok K) = true ∧ (fn.all fun d => d.ok K) = true ∧ (ex K).all id = true := by
  have z := Bool.and_eq_true_iff.mp (show ((fa.all fun f => f.ok K) && ((fn.all fun d => d.ok K) && (ex K).all id)) = true from congrArg (fun z : AlW => z.1) c)
  exact ⟨z.1, Bool.and_eq_true_iff.mp z.2⟩
end
end LW
namespace LW
open PySem PySem.Spec PyProof.Rows L2
section
variable {K : PySem.W.Frag} {x m : Str}
def cmoB (K : PySem.W.Frag) (x m : Str) : Bool := decide (PySem.W.findIn K (.ref (He.ga K x)) m = some (some (.ref (He.ma K (He.ga K x) m)))) && PySem.W.isFn K (.ref (He.ma K (He.ga K x) m))
def calB (K : PySem.W.Frag) (x : Str) : Bool := cmoB K x "__call__" && PySem.W.fnIn K (He.ma K (He.ga K x) "__call__")
def crdB (K : PySem.W.Frag) (x : Str) : Bool := PySem.W.readsIn K (He.ga K x) (.type "type") && decide (PySem.W.specialIn K (.ref (He.ga K x)) "__getattribute__" = some (some (.builtin "type.__getattribute__")))
def cvlB (K : PySem.W.Frag) (x m : Str) (i : Int) : Bool := match PySem.W.findCls K (.ref (He.ga K x)) (.type "type") m with
  | some (.val (.int j _)) => decide (j = i)
  | _ => false
def isiB (K : PySem.W.Frag) (x : Str) : Bool := (He.Fa.cls x).ok K && (decide (PySem.W.findIn K (.ref (He.ga K x)) "__class__" = some (some (.builtin "object.__class__"))) && (decide (PySem.W.specialIn K (.builtin "object.__class__") "__get__" = some (some (.builtin "getset_descriptor.__get__"))) &&
  (decide (PySem.W.takesIn K (.builtin "object.__class__") = some true) && decide (PySem.W.mroIn K (He.ga K x) (.type "object") = some true))))
end
end LW
namespace LW
open PySem PySem.Spec PyProof.Rows L2
def oexB (K : PySem.W.Frag) (C : Addr) : Bool := (match K.lookup C with
  | some ⟨.type "type", _, .cls cd, sl⟩ => (match cd.mro, sl.toList with
    | .ref C' :: bm, [_, _, _, _, some (Value.builtin n), _] => decide (C' = C) && (decide (n = "ValueError.__new__") && (!cd.hasDel && (cd.hasDict && PySem.HandSPX.refsVE bm)))
    | _, _ => false)
  | _ => false) && (decide (PySem.W.findIn K (.ref C) "__setattr__" = some (some (.builtin "object.__setattr__"))) && (decide (PySem.W.subIn K (.ref C) (.type "BaseException") = some true) && (decide (PySem.W.typeIn K (.ref C) = some (.type "type")) && PySem.W.keepIn K (.ref C))))
def supxB (K : PySem.W.Frag) (x f : Str) : Bool := oexB K (He.ga K x) && (decide (PySem.W.ks_superIn K (He.ga K x) (He.ga K x) "__init__" = some (some (.builtin "ValueError.__init__"))) && (decide (PySem.W.nsIn K cStatics "thirdparty.any" = some none) && (decide (PySem.W.mroIn K (He.ga K x) (.ref (He.ga K x)) = some true) && (decide (PySem.W.subIn K (.ref (He.ga K x)) (.type "ValueError") = some true) &&
  (decide (PySem.W.findIn K (.ref (He.ga K x)) f = some none) && (decide (PySem.W.findIn K (.ref (He.ga K x)) "__init__" = some (some (.ref (He.ma K (He.ga K x) "__init__")))) && decide (PySem.W.typeIn K (.ref (He.ma K (He.ga K x) "__init__")) = some (.type "function"))))))))
end LW
namespace LW
open PySem PySem.Spec PyProof.Rows L2
def neoB (K : PySem.W.Frag) (x : Str) : Bool := decide (PySem.W.findIn K (.ref (He.ga K x)) "__ne__" = some (some (.builtin "object.__ne__"))) && decide (PySem.W.subIn K (.ref (He.ga K x)) (.type "object") = some true)
end LW

namespace LW
open PySem PySem.Spec PyProof.Rows L2
end LW
namespace LW
open PySem PySem.Spec PyProof.Rows L2
def top (i : Nat) : Stmt := PySem.Challenge.pw_ownlabels_k07_all_numberings_in_order.main.body.getD i (.Pass ⟨0, 0, 0, 0⟩)
abbrev s__law_begin : Stmt := top 10
abbrev N__law_begin : List Str := ["_law_script"]
def d__law_begin : DefW := ⟨fun K => He.ga K "_law_begin", "_law_begin", "_law_begin", defArgs s__law_begin, defBody s__law_begin, defScope s__law_begin, [], none⟩
abbrev A__law_begin (K : PySem.W.Frag) : Addr := He.ga K "_law_begin"
abbrev s__law_draw : Stmt := top 11
abbrev N__law_draw : List Str := ["_law_tape", "_law_many", "_law_cell", "_law_number"]
def d__law_draw : DefW := ⟨fun K => He.ga K "_law_draw", "_law_draw", "_law_draw", defArgs s__law_draw, defBody s__law_draw, defScope s__law_draw, [], none⟩
abbrev A__law_draw (K : PySem.W.Frag) : Addr := He.ga K "_law_draw"
abbrev s__law_all : Stmt := top 16
abbrev N__law_all : List Str := ["_law_cells", "_law_rows", "_law_k", "_law_longer", "_law_row", "_law_place"]
def d__law_all : DefW := ⟨fun K => He.ga K "_law_all", "_law_all", "_law_all", defArgs s__law_all, defBody s__law_all, defScope s__law_all, [], none⟩
abbrev A__law_all (K : PySem.W.Frag) : Addr := He.ga K "_law_all"
abbrev s_Numbering___init__ : Stmt := inClass (top 7) 1
abbrev N_Numbering___init__ : List Str := ["self", "places", "many"]
def d_Numbering___init__ : DefW := ⟨fun K => He.ma K (He.ga K "Numbering") "__init__", "__init__", "Numbering.__init__", defArgs s_Numbering___init__, defBody s_Numbering___init__, defScope s_Numbering___init__, [], none⟩
abbrev A_Numbering___init__ (K : PySem.W.Frag) : Addr := He.ma K (He.ga K "Numbering") "__init__"
abbrev s_every_numbering : Stmt := top 8
abbrev N_every_numbering : List Str := ["cells", "rows", "_", "row", "begun", "place"]
def d_every_numbering : DefW := ⟨fun K => He.ga K "every_numbering", "every_numbering", "every_numbering", defArgs s_every_numbering, defBody s_every_numbering, defScope s_every_numbering, [], none⟩
abbrev A_every_numbering (K : PySem.W.Frag) : Addr := He.ga K "every_numbering"
abbrev s__law_same : Stmt := top 12
abbrev N__law_same : List Str := ["_law_actual", "_law_expected", "_law_k"]
def d__law_same : DefW := ⟨fun K => He.ga K "_law_same", "_law_same", "_law_same", defArgs s__law_same, defBody s__law_same, defScope s__law_same, [], none⟩
abbrev A__law_same (K : PySem.W.Frag) : Addr := He.ga K "_law_same"
abbrev s_NoCell___init__ : Stmt := inClass (top 5) 0
abbrev N_NoCell___init__ : List Str := ["self", "cell"]
def d_NoCell___init__ : DefW := ⟨fun K => He.ma K (He.ga K "NoCell") "__init__", "__init__", "NoCell.__init__", defArgs s_NoCell___init__, defBody s_NoCell___init__, defScope s_NoCell___init__, [], some "NoCell"⟩
abbrev A_NoCell___init__ (K : PySem.W.Frag) : Addr := He.ma K (He.ga K "NoCell") "__init__"
abbrev s_Numbering___call__ : Stmt := inClass (top 7) 4
abbrev N_Numbering___call__ : List Str := ["self", "k"]
def d_Numbering___call__ : DefW := ⟨fun K => He.ma K (He.ga K "Numbering") "__call__", "__call__", "Numbering.__call__", defArgs s_Numbering___call__, defBody s_Numbering___call__, defScope s_Numbering___call__, [], none⟩
abbrev A_Numbering___call__ (K : PySem.W.Frag) : Addr := He.ma K (He.ga K "Numbering") "__call__"
abbrev s__law_shuffled : Stmt := top 13
abbrev N__law_shuffled : List Str := ["_law_tape", "_law_cells", "_law_left", "_law_places", "_law_k"]
def d__law_shuffled : DefW := ⟨fun K => He.ga K "_law_shuffled", "_law_shuffled", "_law_shuffled", defArgs s__law_shuffled, defBody s__law_shuffled, defScope s__law_shuffled, [], none⟩
abbrev A__law_shuffled (K : PySem.W.Frag) : Addr := He.ga K "_law_shuffled"
abbrev s_Numbering___lt__ : Stmt := inClass (top 7) 10
abbrev N_Numbering___lt__ : List Str := ["self", "other"]
def d_Numbering___lt__ : DefW := ⟨fun K => He.ma K (He.ga K "Numbering") "__lt__", "__lt__", "Numbering.__lt__", defArgs s_Numbering___lt__, defBody s_Numbering___lt__, defScope s_Numbering___lt__, [], none⟩
abbrev A_Numbering___lt__ (K : PySem.W.Frag) : Addr := He.ma K (He.ga K "Numbering") "__lt__"
abbrev s_Numbering___eq__ : Stmt := inClass (top 7) 9
abbrev N_Numbering___eq__ : List Str := ["self", "other"]
def d_Numbering___eq__ : DefW := ⟨fun K => He.ma K (He.ga K "Numbering") "__eq__", "__eq__", "Numbering.__eq__", defArgs s_Numbering___eq__, defBody s_Numbering___eq__, defScope s_Numbering___eq__, [], none⟩
abbrev A_Numbering___eq__ (K : PySem.W.Frag) : Addr := He.ma K (He.ga K "Numbering") "__eq__"
abbrev s__law_refused : Stmt := top 14
abbrev N__law_refused : List Str := ["_law_cells", "_law_found", "e"]
def d__law_refused : DefW := ⟨fun K => He.ga K "_law_refused", "_law_refused", "_law_refused", defArgs s__law_refused, defBody s__law_refused, defScope s__law_refused, [], none⟩
abbrev A__law_refused (K : PySem.W.Frag) : Addr := He.ga K "_law_refused"
abbrev s__law_waits : Stmt := top 15
abbrev N__law_waits : List Str := ["_law_cells", "_law_pair"]
def d__law_waits : DefW := ⟨fun K => He.ga K "_law_waits", "_law_waits", "_law_waits", defArgs s__law_waits, defBody s__law_waits, defScope s__law_waits, [], none⟩
abbrev A__law_waits (K : PySem.W.Frag) : Addr := He.ga K "_law_waits"
abbrev s_law : Stmt := top 17
abbrev N_law : List Str := ["_law_script", "_law_tape", "_law_cells", "_law_rows", "_law_turn", "_law_found", "_law_k", "_law_first", "_law_second", "_law_kind", "_law_at", "_law_a", "_law_b", "_law_odd", "_law_numbering", "_law_place"]
def d_law : DefW := ⟨fun K => He.ga K "law", "law", "law", defArgs s_law, defBody s_law, defScope s_law, [], none⟩
abbrev A_law (K : PySem.W.Frag) : Addr := He.ga K "law"
def fn : List DefW := [d__law_begin, d__law_draw, d__law_all, d_Numbering___init__, d_every_numbering, d__law_same, d_NoCell___init__, d_Numbering___call__, d__law_shuffled, d_Numbering___lt__, d_Numbering___eq__, d__law_refused, d__law_waits, d_law]
def fa : List He.Fa := [.free "abs", .free "bool", .free "int", .free "isinstance", .free "len", .free "list", .free "range", .free "sorted", .free "str", .free "super", .free "tuple", .free "zip", .glo "_law_begin", .glo "_law_draw", .glo "_law_all", .glo "every_numbering", .glo "_law_same", .glo "_law_shuffled", .glo "_law_refused", .glo "_law_waits", .glo "law", .glo "BadNumbering", .glo "BadSize", .glo "HallError", .glo "NoCell", .glo "Numbering", .exc "BadNumbering", .exc "BadSize", .mkr "Numbering", .cls "Numbering", .exm "BadNumbering" "BadSize" false, .exm "BadNumbering" "HallError" true, .exm "BadSize" "BadSize" true, .exm "BadSize" "HallError" true, .exm "NoCell" "BadSize" false, .exm "NoCell" "HallError" true, .noat "Numbering" "places"]
def exB (K : PySem.W.Frag) : List Bool := [(PySem.W.subIn K (.ref (He.ga K "BadSize")) (.type "StopIteration") == some false), (cmoB K "Numbering" "__eq__"), (cmoB K "Numbering" "__lt__"), (calB K "Numbering"), (crdB K "Numbering"), (cvlB K "Numbering" "MOST" 12), (excCB K (He.ga K "BadSize")), (isiB K "Numbering"), (decide (PySem.W.kitOne K (.ref (He.ga K "BadSize")) (.ref (He.ga K "BadNumbering")) = some false)), (decide (PySem.W.kitOne K (.ref (He.ga K "BadSize")) (.ref (He.ga K "HallError")) = some true)), (decide (PySem.W.kitOne K (.ref (He.ga K "Numbering")) (.ref (He.ga K "Numbering")) = some true)), (neoB K "Numbering"), (supxB K "NoCell" "cell")]
abbrev RRow : PySem.W.OpenRow := PySem.W.OpenLaw.row PySem.Challenge.rw_ownlabels_k07_all_numberings_in_order
abbrev hkW : PySem.W.Hook := hookW fa fn exB
def looseN : List PySem.Str := (["_wall", "HallError", "BadNumbering", "BadSize", "NoCell", "Numbering", "every_numbering", "_law_begin", "_law_draw", "_law_same", "_law_shuffled", "_law_refused", "_law_waits", "_law_all"] : List PySem.Str)
set_option maxHeartbeats 0 in
theorem runW (w : World) : HandSHeadRun.RunEq RRow (PySem.W.view RRow.prog [17]) hkW (obT fa fn exB) 8000 looseN w := by
  intro os
  kernel_rfl

end LW
namespace LW
open PySem PySem.Spec PyProof.Rows L2
def immNames : List (List Str) := [["places"], ["instructions", "rows"], ["program", "numberings", "workers", "cells", "capacity"], ["system", "system"], ["system", "schedule", "system"], ["system", "schedule", "cycle", "system"], ["system", "states", "ranks", "levels", "helpers", "system"]]
def imm (ns : List Str) : Bool := decide (ns ∈ immNames)
def pers : HO → Bool
  | .lst _ => false
  | .dK _ => false
  | .dT _ => false
  | .set _ _ => false
  | .ext _ => false
  | .ins _ _ fs => imm (fs.map (·.1))
  | _ => true
mutual
inductive Rep (K : PySem.W.Frag) (H : Hp) : D → V → Prop
  | non : Rep K H .non .non
  | bl (b : Bool) : Rep K H (.bl b) (.bl b)
  | int (i : Int) : Rep K H (.int i) (.int i)
  | str (s : Str) : Rep K H (.str s) (.str s)
  | adr (a : Addr) : Rep K H (.adr a) (.ref a)
  | tup {a : Addr} {xs : List V} {ds : List D} : SqT K H a xs → Reps K H ds xs → Rep K H (.tup ds) (.ref a)
  | lst {a : Addr} {xs : List V} {ds : List D} : SqL K H a xs → Reps K H ds xs → Rep K H (.lst ds) (.ref a)
  | ins {a C dx : Addr} {ns : List Str} {xs : List V} {ds : List D} : H a = some (.ins C dx (ns.zip xs)) → imm ns = true → ns.length = ds.length → Reps K H ds xs → Rep K H (.ins C ns ds) (.ref a)
inductive Reps (K : PySem.W.Frag) (H : Hp) : List D → List V → Prop
  | nil : Reps K H [] []
  | cons {d : D} {ds : List D} {v : V} {vs : List V} : Rep K H d v → Reps K H ds vs → Reps K H (d :: ds) (v :: vs)
end
mutual
def D.pure : D → Bool
  | .tup ds => D.pures ds
  | .lst _ => false
  | .ins _ _ ds => D.pures ds
  | _ => true
def D.pures : List D → Bool
  | [] => true
  | d :: ds => d.pure && D.pures ds
end
structure Gr (S : List Addr) (H H' : Hp) : Prop where
  keep : ∀ a o, H a = some o → a ∉ S → H' a = some o
  mu : ∀ a, a ∈ S → ∃ o, H a = some o ∧ pers o = false
section
variable {K : PySem.W.Frag} {H H' H1 H2 : Hp} {S S' : List Addr} {a l p : Addr} {o : HO} {xs ys : List V}
theorem Gr.refl (H : Hp) : Gr [] H H := ⟨fun _ _ h _ => h, fun _ h => by cases h⟩
theorem Gr.get (g : Gr S H H') (h : H a = some o) (hp : pers o = true) : H' a = some o := g.keep a o h fun m => by
  obtain ⟨u, h1, h2⟩ := g.mu a m
  rw [h] at h1
  cases h1
  rw [hp] at h2
  cases h2
theorem Gr.get0 (g : Gr [] H H') (h : H a = some o) : H' a = some o := g.keep a o h (by simp)
theorem Gr.trans (g : Gr S H H1) (g' : Gr S' H1 H2) (hs : ∀ a, a ∈ S' → a ∈ S ∨ H a = none) : Gr S H H2 :=
  ⟨fun a o h m => g'.keep a o (g.keep a o h m) fun m' => by
    rcases hs a m' with q | q
    · exact m q
    · exact absurd (h.symm.trans q) (by simp), g.mu⟩
theorem Gr.trans0 (g : Gr S H H1) (g' : Gr [] H1 H2) : Gr S H H2 := g.trans g' fun _ h => by cases h
theorem Gr.transN (g : Gr S H H1) (g' : Gr [l] H1 H2) (h : H l = none) : Gr S H H2 := g.trans g' fun a m => by
  have e : a = l := by simpa using m
  subst e
  exact .inr h
theorem Gr.weak (g : Gr [] H H') (h : ∀ a, a ∈ S → ∃ o, H a = some o ∧ pers o = false) : Gr S H H' := ⟨fun a o e _ => g.keep a o e (by simp), h⟩
theorem Gr.new (h : H p = none) : Gr [] H (upd H p o) := ⟨fun a u e _ => by rw [upd_ne (ne_of_none e h)]; exact e, fun _ m => by cases m⟩
theorem Gr.wr (h : H l = some (.lst xs)) : Gr [l] H (upd H l o) := ⟨fun a u e m => by
    rw [upd_ne (by simpa using m)]
    exact e, fun a m => by
    have e : a = l := by simpa using m
    subst e
    exact ⟨_, h, rfl⟩⟩
theorem Gr.free (g : Gr S H H') (h : H' p = none) (hp : p ∉ S) : H p = none := by
  cases q : H p with
  | none => rfl
  | some u =>
    rw [g.keep p u q hp] at h
    cases h
theorem Gr.free0 (g : Gr [] H H') (h : H' p = none) : H p = none := g.free h (by simp)
theorem Gr.free1 (g : Gr [l] H H') (h : H' p = none) (ne : p ≠ l) : H p = none := g.free h (by simpa using ne)
theorem Gr.sqt (g : Gr S H H') (h : SqT K H a xs) : SqT K H' a xs := by
  rcases h with (h | ⟨u, h⟩) | h
  · exact .inl (.inl (g.get h rfl))
  · exact .inl (.inr ⟨u, g.get h rfl⟩)
  · exact .inr h
theorem Gr.sql0 (g : Gr [] H H') (h : SqL K H a xs) : SqL K H' a xs := by
  rcases h with (h | ⟨u, h⟩) | h
  · exact .inl (.inl (g.get0 h))
  · exact .inl (.inr ⟨u, g.get0 h⟩)
  · exact .inr h
theorem Gr.sql (g : Gr S H H') (h : SqL K H a xs) (hn : a ∉ S) : SqL K H' a xs := by
  rcases h with (h | ⟨u, h⟩) | h
  · exact .inl (.inl (g.keep _ _ h hn))
  · exact .inl (.inr ⟨u, g.keep _ _ h hn⟩)
  · exact .inr h
end
mutual
theorem Rep.gr {K : PySem.W.Frag} {H H' : Hp} {S : List Addr} (g : Gr S H H') : ∀ {d : D} {v : V}, Rep K H d v → d.pure = true → Rep K H' d v
  | _, _, .non, _ => .non
  | _, _, .bl b, _ => .bl b
  | _, _, .int b, _ => .int b
  | _, _, .str b, _ => .str b
  | _, _, .adr b, _ => .adr b
  | _, _, .tup h r, q => .tup (g.sqt h) (Reps.gr g r q)
  | _, _, .lst h r, q => nomatch (show false = true from q)
  | _, _, .ins (ns := ns) (xs := xs) (ds := ds) h i l r, q => .ins (g.get h (by
      have e : xs.length = ds.length := Reps.len r
      show imm ((ns.zip xs).map (·.1)) = true
      rw [List.map_fst_zip (by omega)]
      exact i)) i l (Reps.gr g r q)
theorem Reps.gr {K : PySem.W.Frag} {H H' : Hp} {S : List Addr} (g : Gr S H H') : ∀ {ds : List D} {vs : List V}, Reps K H ds vs → D.pures ds = true → Reps K H' ds vs
  | _, _, .nil, _ => .nil
  | _, _, .cons h r, q => by
    have q2 := Bool.and_eq_true_iff.mp q
    exact .cons (Rep.gr g h q2.1) (Reps.gr g r q2.2)
theorem Reps.len {K : PySem.W.Frag} {H : Hp} : ∀ {ds : List D} {vs : List V}, Reps K H ds vs → vs.length = ds.length
  | _, _, .nil => rfl
  | _, _, .cons _ r => congrArg Nat.succ (Reps.len r)
end
mutual
theorem Rep.gr0 {K : PySem.W.Frag} {H H' : Hp} (g : Gr [] H H') : ∀ {d : D} {v : V}, Rep K H d v → Rep K H' d v
  | _, _, .non => .non
  | _, _, .bl b => .bl b
  | _, _, .int b => .int b
  | _, _, .str b => .str b
  | _, _, .adr b => .adr b
  | _, _, .tup h r => .tup (g.sqt h) (Reps.gr0 g r)
  | _, _, .lst h r => .lst (g.sql0 h) (Reps.gr0 g r)
  | _, _, .ins h i l r => .ins (g.get0 h) i l (Reps.gr0 g r)
theorem Reps.gr0 {K : PySem.W.Frag} {H H' : Hp} (g : Gr [] H H') : ∀ {ds : List D} {vs : List V}, Reps K H ds vs → Reps K H' ds vs
  | _, _, .nil => .nil
  | _, _, .cons h r => .cons (Rep.gr0 g h) (Reps.gr0 g r)
end
def noFd : FuncData := PySem.W.fnOf Str.empty Str.empty ⟨[], [], none, [], [], none, []⟩ [] ⟨.function, [], false, false, []⟩ .none .none .none .none none .none .none
def fdA (K : PySem.W.Frag) (a : Addr) : FuncData := match K.lookup a with
  | some ⟨_, _, .func fd, _⟩ => fd
  | _ => noFd
theorem fdA_of {K : PySem.W.Frag} {x qual : Str} {params : Arguments} {body : List Stmt} {scope : Scope} {dvs : List V} {kws : List (Str × V)} {f : Addr} (h : ∃ fd, FunD K x qual params body scope dvs kws f fd) : FunD K x qual params body scope dvs kws f (fdA K f) := by
  obtain ⟨fd, h⟩ := h
  have e : fdA K f = fd := by
    obtain ⟨oc, od, dV, kV, doc, pm, an, cdv, ct, osl, _, lk, _⟩ := h.ex
    unfold fdA
    rw [lk]
  rw [e]
  exact h
theorem okT {P : Program} {w : World} {K : PySem.W.Frag} {mg : Str → Option Value} {base : Heap} {x qual : Str} {params : Arguments} {body : List Stmt} {scope : Scope} {dvs : List V} {kws : List (Str × V)} {f : Addr} {fd : FuncData} {N ps : List Str} {k : Nat} {sp : Sp}
    (F : FunD K x qual params body scope dvs kws f fd) (S : FnScope N ps scope) (len : ∀ vs H Q E, sp vs H Q E → vs.length = ps.length)
    (hbody : ∀ (cdv : Value) (A : Around) (outer : List Env) (s : Shared) (H : Hp) (vs : List V) (Q : VK) (E : XK), Room k (A.deeper (envOfC qual scope s.heap.objs.size f cdv)) → sp vs H Q E →
      L2N.Takes (cxOf (L2N.CX P w) P w K mg base N qual scope f cdv A outer s H E) (fun cls d _ H' => E cls d H') →
      PassesOwn (model P w) (cxOf (L2N.CX P w) P w K mg base N qual scope f cdv A outer s H E).A (cxOf (L2N.CX P w) P w K mg base N qual scope f cdv A outer s H E).env (cxOf (L2N.CX P w) P w K mg base N qual scope f cdv A outer s H E).xe →
      ∃ t, PSs (cxOf (L2N.CX P w) P w K mg base N qual scope f cdv A outer s H E) body t ∧ t { nx := fun _ H' => Q .non H', rt := Q } (start N vs) H) : FnOk P w K mg base (L2N.CX P w) (k + 1) f fd ps sp :=
  F.ok S len fun cdv A outer s H vs Q E hr h => hbody cdv A outer s H vs Q E hr h (L2N.takes_of rfl rfl rfl rfl) (passes_of rfl)
abbrev TSu := Addr → Value → Option Addr → TS
abbrev TSv := Addr → Value → Option Addr → Obj → List (Addr × Obj) → TS
def oeZ : Obj := ⟨.none, none, .plain, #[]⟩
abbrev xeZ : Value → Shared → Prop := fun _ _ => True
def endsNo (i : Nat) (D : Ends) : Ends := { nx := fun σ H => D.nx (σ.set i none) H, rt := D.rt, bk := fun σ H => D.bk (σ.set i none) H, ct := fun σ H => D.ct (σ.set i none) H }
def wHds (K : PySem.W.Frag) (Wo : WX) (D : Ends) : List (Value × Option Nat × TSu) → WX
  | [] => Wo
  | (c, o, ts) :: r => fun cls d σ H => ∃ b, PySem.W.exmOne K cls c = some b ∧
      (b = true → ∀ a, H a = none → match o with
        | some i => ts a cls d (endsNo i D) (σ.set i (some (.ref a))) H
        | none => ts a cls d D σ H) ∧ (b = false → wHds K Wo D r cls d σ H)
inductive HdsE (X : Cx) : List ExceptHandler → List (Value × Option Nat × TSu) → Prop
  | nil : HdsE X [] []
  | only {x : Str} {c : Value} {ts : TSv} {b0 : Stmt} {su : List Stmt} {np p : Pos} {hds : List ExceptHandler} {l : List (Value × Option Nat × TSu)} (hc : Names X x c)
      (hsu : ∀ (a : Addr) (oe : Obj) (cls : Value) (d : Option Addr) (pn : List (Addr × Obj)), L2N.Zn cls d oe → (∃ vs, oe.data = .fields vs) → PSs (X.suite a ((a, oe) :: pn)) (b0 :: su) (ts a cls d oe pn)) (r : HdsE X hds l)
      (he : ∀ a oe cls d pn, ts a cls d oe pn = ts a cls d oeZ [] := by intros; rfl) :
      HdsE X (.ExceptHandler (some (.Name x np)) none (b0 :: su) p :: hds) ((c, none, fun a cls d => ts a cls d oeZ []) :: l)
  | as_ {x n : Str} {i : Nat} {c : Value} {ts : TSv} {b0 : Stmt} {su : List Stmt} {np p : Pos} {hds : List ExceptHandler} {l : List (Value × Option Nat × TSu)} (hN : X.N.Nodup) (hi : X.N[i]? = some n) (hln : X.env.kindOf n = some .local) (hc : Names X x c)
      (hsu : ∀ (a : Addr) (oe : Obj) (cls : Value) (d : Option Addr) (pn : List (Addr × Obj)), L2N.Zn cls d oe → (∃ vs, oe.data = .fields vs) → PSs (X.suite a ((a, oe) :: pn)) (b0 :: su) (ts a cls d oe pn)) (r : HdsE X hds l)
      (he : ∀ a oe cls d pn, ts a cls d oe pn = ts a cls d oeZ [] := by intros; rfl) :
      HdsE X (.ExceptHandler (some (.Name x np)) (some n) (b0 :: su) p :: hds) ((c, some i, fun a cls d => ts a cls d oeZ []) :: l)
section
variable {X : Cx} {body : List Stmt} {h0 : ExceptHandler} {hds : List ExceptHandler} {l : List (Value × Option Nat × TSu)} {pos : Pos} {tb : WX → List (Addr × Obj) → (Value → Shared → Prop) → TS} {Wo : WX}
theorem hds_run (hs : X.stack = X.env :: X.outer) (hf : X.env.frame = some X.env.locals) (tk : L2N.Takes X Wo) {pins : List (Addr × Obj)} {D : Ends} {a : Addr} {B : Heap} {sI s' : Shared} {σ : L2.St} {H : Hp} {cls : Value} {d : Option Addr} {h3 : Heap}
    (J : Inv X pins σ H sI) (nb : ∀ b o, sI.heap.get? b = some o → b ∉ frs X.stack → B.get? b = some o) (up : sI.heap.UpToSlots s'.heap) (na : H a = none) (os : s'.os = sI.os) (ag : AllBare s'.gens)
    (fl3 : HandSPX.FlyingZ B (X.env :: X.outer) a (L2N.Zn cls d) h3) (up3 : s'.heap.UpToSlots h3) : ∀ {hds : List ExceptHandler} {l : List (Value × Option Nat × TSu)}, HdsE X hds l → wHds X.K Wo D l cls d σ H →
    wpAny (model X.prog X.w) X.A (handleBy (.ref a) X.env hds) (SP X pins D) X.xe { s' with heap := h3 } := by
  have ok := J.ok
  have nfr : a ∉ frs (X.env :: X.outer) := fun hm => by
    obtain ⟨oe, vs, he, _, hd⟩ := fl3.there
    obtain ⟨_, o', e', hnf⟩ := fl3.2.2.1.mem hm
    rw [he] at e'
    cases e'
    exact hnf _ hd
  have nL : a ≠ X.env.locals := fun z => nfr (List.mem_filterMap.mpr ⟨X.env, List.mem_cons_self, by rw [hf, z]⟩)
  have nF : a ∉ X.fs := fun hm => by
    obtain ⟨e, he, q⟩ := List.mem_filterMap.mp hm
    exact nfr (List.mem_filterMap.mpr ⟨e, List.mem_cons_of_mem _ he, q⟩)
  have lands : ∀ {h4 : Heap}, HandSPX.FlyingZ B (X.env :: X.outer) a (L2N.Zn cls d) h4 → sI.heap.UpToSlots h4 → Inv X pins σ H { s' with heap := h4 } ∧ ∃ oe vs, h4.get? a = some oe ∧ L2N.Zn cls d oe ∧ oe.data = .fields vs ∧ Inv (X.suite a ((a, oe) :: (X.pn ++ pins))) [] σ H { s' with heap := h4 } := fun {h4} fl4 u4 => by
    have J4 : Inv X pins σ H { s' with heap := h4 } := J.landed nb fl4.1 u4 os ag
    obtain ⟨oe4, vs4, he4, hz4, hd4⟩ := fl4.there
    exact ⟨J4, oe4, vs4, he4, hz4, hd4, J4.suite he4 hd4 na nL nF⟩
  have ask : ∀ {x : Str} {c : Value} {np : Pos} {b : Bool} {R : Bool → Shared → Prop} {E1 E2 : Value → Shared → Prop}, Names X x c → PySem.W.exmOne X.K cls c = some b → R b { s' with heap := h3 } →
      wpAny (model X.prog X.w) (X.A.mark (some (.ref a))) (eval (.Name x np) X.env) (fun v s1 => wpAny (model X.prog X.w) (X.A.mark (some (.ref a))) (excMatches (.ref a) v) R E2 s1) E1 { s' with heap := h3 } := fun {x c np b R E1 E2} hc hb q => by
    obtain ⟨J3, oe3, vs3, he3, hz3, hd3, S3⟩ := lands fl3 (up.trans up3)
    have LT : PySem.W.Looks (model X.prog X.w) h3 (typeOf (.ref a)) cls := fun A Q E s k q => wpAny_typeOf_ref (k _ _ he3) (by rw [hz3.1]; exact q)
    have LM := PySem.W.exm_one (M := model X.prog X.w) J3.kIn LT hb
    have fin : wpAny (model X.prog X.w) (X.A.mark (some (.ref a))) (excMatches (.ref a) c) R E2 { s' with heap := h3 } := LM.here q
    obtain ⟨hg, hdbg, hm | ⟨hm, hv, hnn⟩⟩ := hc
    · exact ld_glob (X := X.suite a ((a, oe3) :: (X.pn ++ pins))) S3 hg hm fin hdbg
    · exact ld_blt (X := X.suite a ((a, oe3) :: (X.pn ++ pins))) S3 hg hm hv fin hnn hdbg
  intro hds l hk
  induction hk with
  | nil =>
    intro w
    refine wpAny_handleBy_nil ?_
    obtain ⟨k1, k2, k3, oe, vs, T, oT, ts', he, hz, hd, h1, hr⟩ := id fl3
    unfold PySem.passOn
    refine wpAny_bind (wpAny_field he hd h1 ?_)
    rw [if_neg (by simp)]
    have fin : wpAny (model X.prog X.w) X.A (setFlight (.ref a) X.env.frame) (fun _ s4 => wpAny (model X.prog X.w) X.A (throw (.ref a) : Sem Flow) (SP X pins D) X.xe s4) X.xe { s' with heap := h3 } := by
      rw [hf]
      exact HandSPX.setFlight_upZ fl3 fun h4 hh4 up4 => wpAny_throw (tk _ _ ⟨a, B, sI, pins, σ, H, cls, d, rfl, J, nb, (up.trans up3).trans up4, .inr (.inr (by rw [hs]; exact hh4)), na, os, ag, w⟩)
    first
      | exact wpAny_bind (wpAny_pure (wpAny_bind fin))
      | exact wpAny_bind fin
  | only hc hsu r he ih =>
    intro w
    obtain ⟨b, hb, hy, hn⟩ := w
    refine wpAny_handleBy_cons (codeAny_handlers_test (ask hc hb ?_)) (by intro q; cases q)
    cases b with
    | false => exact ih (hn rfl)
    | true =>
      refine codeAny_handlers_suite (HandSPX.lands_againZ fl3 fun h4 fl4 up4 => ?_)
      obtain ⟨J4, oe4, vs4, he4, hz4, hd4, S4⟩ := lands fl4 ((up.trans up3).trans up4)
      have hh := hsu a oe4 cls d (X.pn ++ pins) hz4 ⟨_, hd4⟩
      rw [he] at hh
      refine wpAny_mono (hh.run [] _ _ H _ S4 (hy rfl a na)) (fun f s6 hsp => ?_) fun _ _ z => False.elim z
      cases f with
      | ret u =>
        obtain ⟨v6, σ6, H6, S6, r6, q6⟩ := hsp
        exact ⟨_, _, _, S6.unsuite ok, r6, q6⟩
      | _ =>
        obtain ⟨σ6, H6, S6, q6⟩ := hsp
        exact ⟨_, _, S6.unsuite ok, q6⟩
  | as_ hN hi hln hc hsu r he ih =>
    rename_i x n i c ts b0 su np p hds l
    intro w
    obtain ⟨b, hb, hy, hn⟩ := w
    refine wpAny_handleBy_cons (codeAny_handlers_test (ask hc hb ?_)) (by intro q; cases q)
    cases b with
    | false => exact ih (hn rfl)
    | true =>
      refine codeAny_handlers_suite_as (HandSPX.lands_againZ fl3 fun h4 fl4 up4 => ?_)
      obtain ⟨J4, oe4, vs4, he4, hz4, hd4, S4⟩ := lands fl4 ((up.trans up3).trans up4)
      refine store_ok (X := X.suite a ((a, oe4) :: (X.pn ++ pins))) (v := .ref a) S4 hN hi (.inl hln) rfl (fun s5 S5 => ?_) (.inr hln)
      have hh := hsu a oe4 cls d (X.pn ++ pins) hz4 ⟨_, hd4⟩
      rw [he] at hh
      refine wpAny_mono (hh.run [] s5 _ H _ S5 (hy rfl a na)) (fun f s6 hsp => ?_) fun _ _ z => False.elim z
      have gone : ∀ {σ6 : L2.St} {H6 : Hp} {Q : Shared → Prop}, Inv (X.suite a ((a, oe4) :: (X.pn ++ pins))) [] σ6 H6 s6 → (∀ s7, Inv X pins (σ6.set i none) H6 s7 → Q s7) →
          wpAny (model X.prog X.w) X.A (do bindName X.env n .none; unbindBehindTheSuite X.env n p) (fun _ s7 => Q s7) X.xe s6 := fun {σ6 H6 Q} S6 hq => gone_ok (S6.unsuite ok) hN hi hln hq
      cases f with
      | ret u =>
        obtain ⟨v6, σ6, H6, S6, r6, q6⟩ := hsp
        exact gone S6 fun s7 J7 => ⟨_, _, _, J7, r6, q6⟩
      | _ =>
        obtain ⟨σ6, H6, S6, q6⟩ := hsp
        exact gone S6 fun s7 J7 => ⟨_, _, J7, q6⟩
theorem ps_tryE (hs : X.stack = X.env :: X.outer) (hf : X.env.frame = some X.env.locals) (tk : L2N.Takes X Wo)
    (hb : ∀ (W : WX) (pn : List (Addr × Obj)) (xe : Value → Shared → Prop), L2N.Takes (X.tr pn xe) W → PassesOwn (model X.prog X.w) X.A X.env xe → PSs (X.tr pn xe) body (tb W pn xe))
    (hh : HdsE X (h0 :: hds) l) (he : ∀ W pn xe, tb W pn xe = tb W [] xeZ := by intros; rfl) : PS X (.Try body (h0 :: hds) [] [] pos) (fun D σ H => tb (wHds X.K Wo D l) [] xeZ D σ H) := by
  refine ⟨fun pins s σ H D I h => ?_⟩
  have ok := I.ok
  have hfr : X.A.frames = some (X.env :: X.outer) := by rw [ok.frames, hs]
  rw [← he (wHds X.K Wo D l) (X.pn ++ pins) (fun e s₁ => wpAny (model X.prog X.w) X.A (noteFrame e X.env) (fun _ s₂ => wpAny (model X.prog X.w) X.A (setFlight e none) (fun _ s₃ =>
    wpAny (model X.prog X.w) X.A (handleBy e X.env (h0 :: hds)) (SP X pins D) X.xe s₃) X.xe s₂) X.xe s₁)] at h
  refine wpAny_Try_except (wpAny_mono ((hb (wHds X.K Wo D l) (X.pn ++ pins) (fun e s₁ => wpAny (model X.prog X.w) X.A (noteFrame e X.env) (fun _ s₂ => wpAny (model X.prog X.w) X.A (setFlight e none) (fun _ s₃ =>
    wpAny (model X.prog X.w) X.A (handleBy e X.env (h0 :: hds)) (SP X pins D) X.xe s₃) X.xe s₂) X.xe s₁) (fun u s' xx => ?_) PassesOwn.looking).run [] s σ H D (I.toTry _) h) (fun f s1 hsp => ?_) fun e s1 he => he)
  · obtain ⟨a, B, sI, pins', σ', H', cls, d, rfl, J', nb, up, sky, na, os, ag, w⟩ := xx
    have J : Inv X pins σ' H' sI := J'.ofTry ok
    refine L2N.Sky.land L2N.Zn.steady hfr hf (by rw [← hs]; exact sky) fun h3 fl3 up3 => ?_
    exact hds_run hs hf tk J nb up na os ag fl3 up3 hh w
  · cases f with
    | ret u =>
      obtain ⟨v, σ', H', J', r, q⟩ := hsp
      exact ⟨v, σ', H', J'.ofTry ok, r, q⟩
    | next =>
      obtain ⟨σ', H', J', q⟩ := hsp
      exact wpAny_execs_nil ⟨σ', H', J'.ofTry ok, q⟩
    | _ =>
      obtain ⟨σ', H', J', q⟩ := hsp
      exact ⟨σ', H', J'.ofTry ok, q⟩
end
def rLenA (K : PySem.W.Frag) : List V → Hp → VK → Prop := fun xs H Q => ∃ p ys, xs = [.ref p] ∧ (SqL K H p ys ∨ SqT K H p ys) ∧ Q (.int ys.length) H
theorem cr_len {X : Cx} : CallR X (.builtin "len") (rLenA X.K) := call_len_seq
def rListOf (K : PySem.W.Frag) : List V → Hp → VK → Prop := fun xs H Q => ∃ p ys, xs = [.ref p] ∧ (SqL K H p ys ∨ SqT K H p ys) ∧ ∀ l, H l = none → Q (.ref l) (upd H l (.lst ys))
theorem cr_list {X : Cx} : CallR X (.type "list") (rListOf X.K) := call_list_of
def TupX (H : Hp) (a : Addr) (xs : List V) : Prop := ∃ o : Obj, H a = some (.frz o (.tup xs)) ∧ o.dict = none
theorem TupX.sqt {K : PySem.W.Frag} {H : Hp} {a : Addr} {xs : List V} (h : TupX H a xs) : SqT K H a xs := by
  obtain ⟨o, h, _⟩ := h
  exact .inl (.inr ⟨o, h⟩)
theorem TupX.gr {H H' : Hp} {S : List Addr} {a : Addr} {xs : List V} (h : TupX H a xs) (g : Gr S H H') : TupX H' a xs := by
  obtain ⟨o, h, d⟩ := h
  exact ⟨o, g.get h rfl, d⟩
def rTupleOf (K : PySem.W.Frag) : List V → Hp → VK → Prop := fun xs H Q => ∃ p ys, xs = [.ref p] ∧ ((SqL K H p ys ∧ ∀ (l : Addr) (o : Obj), H l = none → o.dict = none → Q (.ref l) (upd H l (.frz o (.tup ys)))) ∨ (SqT K H p ys ∧ Q (.ref p) H))
theorem cr_tuple {X : Cx} : CallR X (.type "tuple") (rTupleOf X.K) := by
  intro pins s σ H xs us Q I r h
  obtain ⟨p, ys, rfl, h⟩ := h
  obtain ⟨u, rfl, ru⟩ := r.one
  cases (show u = Value.ref p from ru)
  rcases h with ⟨hs, q⟩ | ⟨hs, q⟩
  · obtain ⟨its, rv, pl, hz⟩ := I.list hs
    refine call_tuple_list pl.isList (fun h' hk => ?_) (by rw [List.size_toArray, ← rv.length]; exact hz)
    have I1 : Inv X pins σ H { s with heap := h' } := I.kept (t' := s.toks) hk
    refine ⟨.ref h'.objs.size, _, I1.laid (t' := s.toks) (o := .frz { cls := .type "tuple", data := .seq its.toArray } (.tup ys)) (fun b o e => Heap.get?_push_of_some _ e) (Nat.le_refl _) ⟨Heap.get?_push_size _ rfl, hz, its, rv, IsTup.new _ _⟩, rfl, q _ _ (I1.hok.fresh (Nat.le_refl _)) rfl⟩
  · obtain ⟨its, rv, pl, hz⟩ := I.tuple hs
    exact call_tuple_tup pl ⟨.ref p, H, I, rfl, q⟩
def rAbs : List V → Hp → VK → Prop := fun xs H Q => ∃ i, xs = [.int i] ∧ Q (.int (if i < 0 then -i else i)) H
theorem cr_abs {X : Cx} : CallR X (.builtin "abs") rAbs := call_abs
def rInt1 : List V → Hp → VK → Prop := fun xs H Q => (∃ i, xs = [.int i] ∧ Q (.int i) H) ∨ ∃ k, xs = [.bl k] ∧ Q (.int (if k then 1 else 0)) H
theorem cr_int {X : Cx} : CallR X (.type "int") rInt1 := call_int1
def rNewL : List V → Hp → VK → Prop := fun xs H Q => xs.length ≤ sizeLine ∧ ∀ p, H p = none → Q (.ref p) (upd H p (.lst xs))
def rNewT : List V → Hp → VK → Prop := fun xs H Q => xs.length ≤ sizeLine ∧ ∀ p, H p = none → Q (.ref p) (upd H p (.tup xs))
def tLstN (t : TA) : TE := fun σ H Q => t σ H fun xs H1 => rNewL xs H1 Q
def tTupN (t : TA) : TE := fun σ H Q => t σ H fun xs H1 => rNewT xs H1 Q
theorem pe_lstN {X : Cx} {es : List Expr} {t : TA} {pos : Pos} (h : PA X es t) : PE X (.List es pos) (tLstN t) := pe_lst h
section
variable {K : PySem.W.Frag} {σ : L2.St} {H : Hp} {Q : VK} {D : Ends} {ta tb tc te : TE} {tA tr : TA} {c t u' : TT} {ts us : TS} {i j : Int} {v x y : V} {QA : List V → Hp → Prop} {QB : Bool → Hp → Prop}
theorem w_seq (h : ts { D with nx := us D } σ H) : tSeq ts us D σ H := h
theorem w_asg {g : TG} (h : te σ H fun x H1 => g x σ H1 D.nx) : tAsg te g D σ H := h
theorem w_gname {n : Nat} {QS : L2.St → Hp → Prop} (h : QS (σ.set n (some v)) H) : gName n v σ H QS := h
theorem w_drop (h : te σ H fun _ H1 => D.nx σ H1) : tDrop te D σ H := h
theorem w_ret (h : te σ H D.rt) : tRet te D σ H := h
theorem w_retN (h : D.rt .non H) : tRetN D σ H := h
theorem w_next (h : D.nx σ H) : tNext D σ H := h
theorem w_ifS (h : c σ H fun b H1 => if b = true then ts D σ H1 else us D σ H1) : tIfS c ts us D σ H := h
theorem w_var {n : Nat} (h1 : σ[n]? = some (some v)) (h : Q v H) : tVar n σ H Q := ⟨v, h1, h⟩
theorem w_c (h : Q v H) : tC v σ H Q := h
theorem w_op {r : R2} (h : ta σ H fun x H1 => tb σ H1 fun y H2 => r x y H2 Q) : tOp r ta tb σ H Q := h
theorem w_un {r : V → Hp → VK → Prop} (h : ta σ H fun x H1 => r x H1 Q) : tUn r ta σ H Q := h
theorem w_rU {g : Int → V} (h : Q (g i) H) : rU g (.int i) H Q := ⟨i, rfl, h⟩
theorem w_cons (h : te σ H fun x H1 => tr σ H1 fun xs H2 => QA (x :: xs) H2) : tCons te tr σ H QA := h
theorem w_nil (h : QA [] H) : tNil σ H QA := h
theorem w_cb {r : List V → Hp → VK → Prop} (h : tA σ H fun vs H1 => r vs H1 Q) : tCB r tA σ H Q := h
theorem w_rI0 {g : Int → Int → V} (h : Q (g i j) H) : rI0 g (.int i) (.int j) H Q := ⟨i, j, rfl, rfl, h⟩
theorem w_rI {C : Int → Int → Prop} {g : Int → Int → V} (hc : C i j) (h : Q (g i j) H) : rI C g (.int i) (.int j) H Q := ⟨i, j, rfl, rfl, hc, h⟩
theorem w_eq (h0 : scal x y = true) (h : Q (.bl (decide (x = y))) H) : rEq x y H Q := ⟨h0, h⟩
theorem w_ne (h0 : scal x y = true) (h : Q (.bl (!decide (x = y))) H) : rNe x y H Q := ⟨h0, h⟩
theorem w_test (h : te σ H fun x H1 => ∃ k, x = .bl k ∧ QB k H1) : tTest te σ H QB := h
theorem w_tB (h : te σ H fun x H1 => ∃ k, x = .bl k ∧ QB k H1) : tB te σ H QB := h
theorem w_exb {k : Bool} (h : QB k H) : ∃ k', V.bl k = .bl k' ∧ QB k' H := ⟨k, rfl, h⟩
theorem w_and (h : c σ H fun b H1 => if b = true then t σ H1 QB else QB false H1) : tAnd c t σ H QB := h
theorem w_or (h : c σ H fun b H1 => if b = true then QB true H1 else t σ H1 QB) : tOr c t σ H QB := h
theorem w_not (h : c σ H fun b H1 => QB (!b) H1) : tNot c σ H QB := h
theorem w_andV (h : ta σ H fun x H1 => ∃ k, x = .bl k ∧ if k = true then tb σ H1 Q else Q (.bl false) H1) : tAndV ta tb σ H Q := h
theorem w_orV (h : ta σ H fun x H1 => ∃ k, x = .bl k ∧ if k = true then Q (.bl true) H1 else tb σ H1 Q) : tOrV ta tb σ H Q := h
theorem w_notV (h : ta σ H fun x H1 => ∃ k, x = .bl k ∧ Q (.bl (!k)) H1) : tNotV ta σ H Q := h
theorem w_exV {k : Bool} {R : Bool → Prop} (h : R k) : ∃ k', V.bl k = .bl k' ∧ R k' := ⟨k, rfl, h⟩
theorem w_chain {r r' : R2} (h : ta σ H fun x H1 => tb σ H1 fun y H2 => r x y H2 fun z H3 => ∃ k, z = .bl k ∧ if k = true then tc σ H3 (fun w' H4 => r' y w' H4 Q) else Q (.bl false) H3) : tChain r r' ta tb tc σ H Q := h
theorem w_ifE (h : c σ H fun b H1 => if b = true then ta σ H1 Q else tb σ H1 Q) : tIf c ta tb σ H Q := h
theorem w_tLst (h : tA σ H fun xs H1 => rNewL xs H1 Q) : tLstN tA σ H Q := h
theorem w_tTup (h : tA σ H fun xs H1 => rNewT xs H1 Q) : tTupN tA σ H Q := h
theorem w_lst {xs : List V} (h0 : xs.length ≤ sizeLine) (h : ∀ p H', H p = none → Gr [] H H' → H' p = some (.lst xs) → Q (.ref p) H') : rNewL xs H Q := ⟨h0, fun p hp => h p _ hp (Gr.new hp) upd_same⟩
theorem w_tup {xs : List V} (h0 : xs.length ≤ sizeLine) (h : ∀ p H', H p = none → Gr [] H H' → H' p = some (.tup xs) → Q (.ref p) H') : rNewT xs H Q := ⟨h0, fun p hp => h p _ hp (Gr.new hp) upd_same⟩
theorem w_ixL {p : Addr} {xs : List V} {k : Int} (h0 : SqL K H p xs) (h1 : atI xs k = some v) (h : Q v H) : rIxL K (.ref p) (.int k) H Q := ⟨p, xs, k, v, rfl, rfl, h0, h1, h⟩
theorem w_ixT {p : Addr} {xs : List V} {k : Int} (h0 : SqT K H p xs) (h1 : atI xs k = some v) (h : Q v H) : rIxT K (.ref p) (.int k) H Q := ⟨p, xs, k, v, rfl, rfl, h0, h1, h⟩
theorem w_setL {p : Addr} {xs : List V} {k : Int} {n : Nat} {w : V} {R : Hp → Prop} (h0 : H p = some (.lst xs)) (h1 : ixN xs.length k = some n) (h : ∀ H', Gr [p] H H' → H' p = some (.lst (xs.set n w)) → R H') : rSetL (.ref p) (.int k) w H R :=
  ⟨p, xs, k, n, rfl, rfl, h0, h1, h _ (Gr.wr h0) upd_same⟩
theorem w_gsub {to ti : TE} {t : TSet} {QS : L2.St → Hp → Prop} (h : to σ H fun o H1 => ti σ H1 fun i H2 => t o i v H2 fun H3 => QS σ H3) : gSub to ti t v σ H QS := h
theorem w_bm {T : String} {r : V → List V → Hp → VK → Prop} {to : TE} (h : to σ H fun x H1 => tyV K T x H1 ∧ tA σ H1 fun xs H2 => r x xs H2 Q) : tBM K T r to tA σ H Q := h
theorem w_bm0 {T : String} {r : V → List V → Hp → VK → Prop} {to : TE} (h : to σ H fun x H1 => tyV K T x H1 ∧ r x [] H1 Q) : tBM0 K T r to σ H Q := h
theorem w_ty {p : Addr} {xs : List V} {P : Prop} (h0 : SqL K H p xs) (h : P) : tyV K "list" (.ref p) H ∧ P := ⟨.inl ⟨rfl, _, h0⟩, h⟩
theorem w_app {p : Addr} {xs : List V} (h0 : H p = some (.lst xs)) (h1 : xs.length < sizeLine) (h : ∀ H', Gr [p] H H' → H' p = some (.lst (xs ++ [v])) → Q .non H') : rAppend (.ref p) [v] H Q :=
  ⟨p, xs, v, rfl, rfl, h0, h1, h _ (Gr.wr h0) upd_same⟩
theorem w_popAt {p : Addr} {xs : List V} {k : Int} {n : Nat} (h0 : H p = some (.lst xs)) (h1 : 0 ≤ k) (h2 : k < 2 ^ 63) (hn : k.toNat = n) (h3 : xs[n]? = some v) (h : ∀ H', Gr [p] H H' → H' p = some (.lst (xs.eraseIdx n)) → Q v H') : rPopAt (.ref p) [.int k] H Q := by
  have hl : n < xs.length := (List.getElem?_eq_some_iff.mp h3).1
  refine ⟨p, xs, k, n, v, rfl, rfl, h0, by omega, h2, ?_, h3, h _ (Gr.wr h0) upd_same⟩
  exact (ixN_seq (show ixN xs.length k = some n by unfold ixN; rw [if_pos h1, if_pos (by omega), hn])).1
theorem w_len {p : Addr} {xs : List V} (h0 : SqL K H p xs ∨ SqT K H p xs) (h : Q (.int xs.length) H) : rLenA K [.ref p] H Q := ⟨p, xs, rfl, h0, h⟩
theorem w_listOf {p : Addr} {xs : List V} (h0 : SqL K H p xs ∨ SqT K H p xs) (h : ∀ l H', H l = none → Gr [] H H' → H' l = some (.lst xs) → Q (.ref l) H') : rListOf K [.ref p] H Q :=
  ⟨p, xs, rfl, h0, fun l hl => h l _ hl (Gr.new hl) upd_same⟩
theorem w_tupOfL {p : Addr} {xs : List V} (h0 : SqL K H p xs) (h : ∀ l H', H l = none → Gr [] H H' → TupX H' l xs → Q (.ref l) H') : rTupleOf K [.ref p] H Q :=
  ⟨p, xs, rfl, .inl ⟨h0, fun l o hl ho => h l _ hl (Gr.new hl) ⟨o, upd_same, ho⟩⟩⟩
theorem w_tupOfT {p : Addr} {xs : List V} (h0 : SqT K H p xs) (h : Q (.ref p) H) : rTupleOf K [.ref p] H Q := ⟨p, xs, rfl, .inr ⟨h0, h⟩⟩
theorem w_abs (h : Q (.int (if i < 0 then -i else i)) H) : rAbs [.int i] H Q := ⟨i, rfl, h⟩
theorem w_int (h : Q (.int i) H) : rInt1 [.int i] H Q := .inl ⟨i, rfl, h⟩
theorem w_call {sp : Sp} {E : L2.St → XK} (h : tA σ H fun vs H1 => sp vs H1 Q (E σ)) : tCallS sp E tA σ H Q := h
theorem w_callD {sp : Sp} {dvs : List V} {E : L2.St → XK} (h : tA σ H fun vs H1 => sp (vs ++ dvs) H1 Q (E σ)) : tCallSD sp dvs E tA σ H Q := h
theorem w_call1 {sp : Sp} {dvs : List V} {E : XK} (h : tA σ H fun vs H1 => sp (vs ++ dvs) H1 Q E) : tCall sp dvs E tA σ H Q := h
theorem w_iteI {a b : Int} {A B : Prop} (h1 : a = b → A) (h2 : a ≠ b → B) : if decide (V.int a = V.int b) = true then A else B := by
  by_cases e : a = b
  · rw [if_pos (decide_eq_true (by rw [e]))]; exact h1 e
  · rw [if_neg (by simpa using e)]; exact h2 e
theorem w_iteIN {a b : Int} {A B : Prop} (h1 : a ≠ b → A) (h2 : a = b → B) : if (!decide (V.int a = V.int b)) = true then A else B := by
  by_cases e : a = b
  · rw [if_neg (by simpa using e)]; exact h2 e
  · rw [if_pos (by simpa using e)]; exact h1 e
theorem w_iteP {p : Prop} [Decidable p] {A B : Prop} (h1 : p → A) (h2 : ¬ p → B) : if decide p = true then A else B := by
  by_cases e : p
  · rw [if_pos (decide_eq_true e)]; exact h1 e
  · rw [if_neg (by simpa using e)]; exact h2 e
theorem w_iteNP {p : Prop} [Decidable p] {A B : Prop} (h1 : ¬ p → A) (h2 : p → B) : if (!decide p) = true then A else B := by
  by_cases e : p
  · rw [if_neg (by simpa using e)]; exact h2 e
  · rw [if_pos (by simpa using e)]; exact h1 e
theorem w_T {A B : Prop} (h : A) : if true = true then A else B := by rw [if_pos rfl]; exact h
theorem w_F {A B : Prop} (h : B) : if false = true then A else B := by rw [if_neg Bool.false_ne_true]; exact h
theorem w_nT {A B : Prop} (h : B) : if (!true) = true then A else B := by rw [if_neg (by decide)]; exact h
theorem w_nF {A B : Prop} (h : A) : if (!false) = true then A else B := by rw [if_pos (by decide)]; exact h
end
theorem sql_of {K : PySem.W.Frag} {H : Hp} {a : Addr} {xs : List V} (h : H a = some (.lst xs)) : SqL K H a xs := SqL.of h
theorem small {n : Nat} (h : n ≤ 100000) : n ≤ sizeLine := Nat.le_trans h (by decide)
theorem smallLt {n : Nat} (h : n < 100000) : n < sizeLine := Nat.lt_of_lt_of_le h (by decide)
theorem HOk.frzL {P : Program} {w : World} {H : Hp} {h : Heap} {a : Addr} {xs : List V} {o : Obj} (ok : HOk P w H h) (e : H a = some (.lst xs)) (ho : h.get? a = some o) : HOk P w (upd H a (.frz o (.lst xs))) h := fun b u q => by
  have ne : ∀ {b : Addr} {v : HO}, H b = some v → v ≠ .lst xs → b ≠ a := fun {b v} h1 h2 z => by
    subst z
    rw [e] at h1
    exact h2 (Option.some.inj h1).symm
  by_cases hb : b = a
  · subst hb
    rw [upd_same] at q
    cases q
    exact ⟨ho, ok b _ e⟩
  · rw [upd_ne hb] at q
    exact (ok b u q).stay (fun _ _ _ r => r) (fun c r => by rw [upd_ne (ne r (by intro z; cases z))]; exact r) fun c ys r => by rw [upd_ne (ne r (by intro z; cases z))]; exact r
theorem Un.frzL {fs ex : List Addr} {H H' : Hp} {h h' : Heap} {a : Addr} {xs : List V} {o : Obj} (u : Un fs ex H H' h h') (e : H' a = some (.lst xs)) : Un fs ex H (upd H' a (.frz o (.lst xs))) h h' := by
  have ne : ∀ {b : Addr} {v : HO}, H' b = some v → v ≠ .lst xs → b ≠ a := fun {b v} h1 h2 z => by
    subst z
    rw [e] at h1
    exact h2 (Option.some.inj h1).symm
  refine ⟨u.keep, u.slot, fun b ob q n hx => ?_, u.there, fun b ys q => ?_, fun b ob v q => ?_, fun b ps q => ?_⟩
  · have z := u.free b ob q n hx
    rw [upd_ne (ne_of_none e z).symm]
    exact z
  · have z := u.tups b ys q
    rw [upd_ne (ne z (by intro z; cases z))]
    exact z
  · have z := u.frzs b ob v q
    rw [upd_ne (ne z (by intro z; cases z))]
    exact z
  · obtain ⟨more, z⟩ := u.tbls b ps q
    exact ⟨more, by rw [upd_ne (ne z (by intro z; cases z))]; exact z⟩
theorem fnOk_frz {P : Program} {w : World} {K : PySem.W.Frag} {mg : Str → Option Value} {base : Heap} {CX : CXT} {k : Nat} {f : Addr} {fd : FuncData} {ps : List Str} {sp : Sp} (F : FnOk P w K mg base CX k f fd ps sp) :
    FnOk P w K mg base CX k f fd ps (fun vs H Q E => sp vs H (fun v H1 => ∃ a xs, H1 a = some (.lst xs) ∧ ∀ o, Q v (upd H1 a (.frz o (.lst xs)))) E) := by
  refine ⟨fun vs H Q E q => F.len vs H _ E q, fun A outer s H args us vs Q E hr he hb hv hs => codeAny_mono (F.run A outer s H args us vs _ E hr he hb hv hs) fun r s' hq => ?_⟩
  cases r with
  | error e => exact hq
  | ok fl =>
    cases fl with
    | ret u =>
      obtain ⟨v, H', os, bare, un, hok, rv, a, xs, ea, q⟩ := hq
      obtain ⟨_, its, n, _, ho⟩ := hok a _ ea
      exact ⟨v, _, os, bare, Un.frzL un ea, HOk.frzL hok ea ho, rv, q _⟩
    | next => exact False.elim hq
    | brk => exact False.elim hq
    | cont => exact False.elim hq
theorem Gr.frz {H : Hp} {a : Addr} {xs : List V} {o : Obj} (h : H a = some (.lst xs)) : Gr [a] H (upd H a (.frz o (.lst xs))) := Gr.wr h
section
variable {K : PySem.W.Frag} {H H' : Hp} {S : List Addr} {a l l2 l3 : Addr} {o : HO} {ob : Obj} {xs : List V}
theorem Gr.keepB (g : Gr (l :: S) H H') (h : H a = some o) (hn : pers o = true ∨ a ∉ l :: S) : H' a = some o := by
  rcases hn with hn | hn
  · exact g.get h hn
  · exact g.keep _ _ h hn
theorem nin0 : a ∉ ([] : List Addr) := by simp
theorem nin1 (h : a ≠ l) : a ∉ [l] := by simpa using h
theorem nin2 (h : a ≠ l) (h2 : a ≠ l2) : a ∉ [l, l2] := by simp [h, h2]
theorem nin3 (h : a ≠ l) (h2 : a ≠ l2) (h3 : a ≠ l3) : a ∉ [l, l2, l3] := by simp [h, h2, h3]
theorem sql_frz (h : H a = some (.frz ob (.lst xs))) : SqL K H a xs := .inl (.inr ⟨ob, h⟩)
theorem sqt_of (h : H a = some (.tup xs)) : SqT K H a xs := .inl (.inl h)
theorem Gr.sqlB (g : Gr (l :: S) H H') (h : SqL K H a xs) (hn : a ∉ l :: S) : SqL K H' a xs := g.sql h hn
end
def tCut (t u : TS) : TS := fun D σ H => ∃ R : L2.St → Hp → Prop, t { D with nx := R } σ H ∧ ∀ σ' H', R σ' H' → u D σ' H'
theorem pss_cut {X : Cx} {st : Stmt} {rest : List Stmt} {t u : TS} (h1 : PS X st t) (h2 : PSs X rest u) : PSs X (st :: rest) (tCut t u) := by
  refine ⟨fun pins s σ H D I h => ?_⟩
  obtain ⟨R, h, hk⟩ := h
  refine wpAny_execs_cons (thn (h1.run pins s σ H { D with nx := R } I h) fun f s1 q => ?_)
  cases f with
  | next =>
    obtain ⟨σ', H', I', q⟩ := q
    exact h2.run pins s1 σ' H' D I' (hk σ' H' q)
  | _ => exact q
theorem w_cut {ts us : TS} {D : Ends} {σ : L2.St} {H : Hp} (R : L2.St → Hp → Prop) (h : ts { D with nx := R } σ H) (k : ∀ σ' H', R σ' H' → us D σ' H') : tCut ts us D σ H := ⟨R, h, k⟩
section
variable {H H1 H2 : Hp} {S S' : List Addr} {l l2 : Addr} {xs : List V} {o : HO}
theorem Gr.step (g2 : Gr S' H1 H2) (g1 : Gr S H H1) (hs : ∀ a, a ∈ S' → a ∈ S ∨ H a = none) : Gr S H H2 := g1.trans g2 hs
theorem sub0 : ∀ a, a ∈ ([] : List Addr) → a ∈ S ∨ H a = none := fun _ h => by cases h
theorem sub1 (h : l ∈ S ∨ H l = none) : ∀ a, a ∈ [l] → a ∈ S ∨ H a = none := fun a m => by
  have e : a = l := by simpa using m
  subst e
  exact h
theorem sub2 (h : l ∈ S ∨ H l = none) (h2 : l2 ∈ S ∨ H l2 = none) : ∀ a, a ∈ [l, l2] → a ∈ S ∨ H a = none := fun a m => by
  rcases List.mem_cons.mp m with e | m
  · subst e; exact h
  · exact sub1 h2 a m
theorem Gr.same1 (h : H l = some o) (hp : pers o = false) : Gr [l] H H := (Gr.refl H).weak fun a m => by
  have e : a = l := by simpa using m
  subst e
  exact ⟨_, h, hp⟩
end
theorem atI_of {α : Type} {xs : List α} {i : Int} {v : α} (h0 : 0 ≤ i) (h : xs[i.toNat]? = some v) : atI xs i = some v := by
  have e := atI_nat h
  rw [Int.toNat_of_nonneg h0] at e
  exact e
theorem ints_at {ns : List Int} {i : Int} (h0 : 0 ≤ i) (h : i < ns.length) : ∃ x, atI (ns.map V.int) i = some (V.int x) ∧ ns[i.toNat]? = some x := by
  have hl : i.toNat < ns.length := by omega
  exact ⟨ns[i.toNat], atI_of h0 (by simp [hl]), by simp [hl]⟩
def D.dep : Nat → D → Bool
  | _, .int _ => true
  | _, .str s => (PyData.str s).canLay0
  | _, .non => true
  | _, .bl _ => false
  | _, .ins _ _ _ => false
  | _, .adr _ => false
  | 0, .tup _ => false
  | 0, .lst _ => false
  | n + 1, .tup ds => ds.all (D.dep n)
  | n + 1, .lst ds => ds.all (D.dep n)
theorem canLay_pys {n : Nat} (ih : ∀ d : D, d.dep n = true → d.py.canLay0 = true ∧ d.py.depth ≤ n) : ∀ ds : List D, ds.all (D.dep n) = true → PyData.canLayAll0 (D.pys ds) = true ∧ PyData.depthAll (D.pys ds) ≤ n
  | [], _ => ⟨rfl, Nat.zero_le _⟩
  | d :: ds, h => by
    rw [List.all_cons, Bool.and_eq_true] at h
    obtain ⟨a1, a2⟩ := ih d h.1
    obtain ⟨b1, b2⟩ := canLay_pys ih ds h.2
    simp only [D.pys, PyData.canLayAll0, PyData.depthAll, a1, b1, Bool.and_self, true_and]
    omega
theorem canLay_py : ∀ (n : Nat) (d : D), d.dep n = true → d.py.canLay0 = true ∧ d.py.depth ≤ n := by
  intro n
  induction n with
  | zero =>
    intro d h
    cases d with
    | tup ds => cases h
    | lst ds => cases h
    | ins C ns ds => cases h
    | adr a => cases h
    | bl b => cases h
    | str s => exact ⟨h, Nat.zero_le _⟩
    | _ => exact ⟨rfl, Nat.zero_le _⟩
  | succ n ih =>
    intro d h
    cases d with
    | tup ds =>
      obtain ⟨a, b⟩ := canLay_pys ih ds h
      exact ⟨a, Nat.succ_le_succ b⟩
    | lst ds =>
      obtain ⟨a, b⟩ := canLay_pys ih ds h
      exact ⟨a, Nat.succ_le_succ b⟩
    | ins C ns ds => cases h
    | adr a => cases h
    | bl b => cases h
    | str s => exact ⟨h, Nat.zero_le _⟩
    | _ => exact ⟨rfl, Nat.zero_le _⟩
theorem shaped_py {n : Nat} {d : D} (h : d.dep n = true) (hn : n ≤ 64) : SeqAt.shaped d.py = true := by
  obtain ⟨a, b⟩ := canLay_py n d h
  unfold SeqAt.shaped
  rw [a, Bool.true_and]
  exact decide_eq_true (by omega)
theorem eqv_pys {n : Nat} (ih : ∀ d e : D, d.dep n = true → e.dep n = true → (PyData.eqv d.py e.py = true ↔ d = e)) : ∀ ds es : List D, ds.all (D.dep n) = true → es.all (D.dep n) = true → (PyData.eqvAll (D.pys ds) (D.pys es) = true ↔ ds = es)
  | [], [], _, _ => by simp [D.pys, PyData.eqvAll]
  | [], e :: es, _, _ => by simp [D.pys, PyData.eqvAll]
  | d :: ds, [], _, _ => by simp [D.pys, PyData.eqvAll]
  | d :: ds, e :: es, h, h' => by
    rw [List.all_cons, Bool.and_eq_true] at h h'
    simp only [D.pys, PyData.eqvAll, Bool.and_eq_true, ih d e h.1 h'.1, eqv_pys ih ds es h.2 h'.2, List.cons.injEq]
theorem eqv_py : ∀ (n : Nat) (d e : D), d.dep n = true → e.dep n = true → (PyData.eqv d.py e.py = true ↔ d = e) := by
  intro n
  induction n with
  | zero =>
    intro d e h h'
    cases d <;> first | (cases h; done) | (cases e <;> first | (cases h'; done) | simp [D.py, PyData.eqv])
  | succ n ih =>
    intro d e h h'
    cases d <;> first | (cases h; done) | (cases e <;> first | (cases h'; done) | (simp only [D.py, PyData.eqv, D.tup.injEq, D.lst.injEq]; exact eqv_pys ih _ _ h h') | simp [D.py, PyData.eqv])
mutual
theorem dp_py {K : PySem.W.Frag} {H : Hp} : ∀ {d : D} {v : V}, Rep K H d v → ∀ n, d.dep n = true → Dp K H v d.py
  | _, _, .non, _, _ => .non
  | _, _, .bl b, _, _ => .bl b
  | _, _, .int i, _, _ => .int i
  | _, _, .str s, _, _ => .str s
  | _, _, .adr b, n, q => by cases n <;> cases q
  | _, _, .tup h r, n, q => by
    cases n with
    | zero => cases q
    | succ n => exact .tup h (dp_pys r n q)
  | _, _, .lst h r, n, q => by
    cases n with
    | zero => cases q
    | succ n => exact .lst h (dp_pys r n q)
  | _, _, .ins h i l r, n, q => by
    cases n <;> cases q
theorem dp_pys {K : PySem.W.Frag} {H : Hp} : ∀ {ds : List D} {vs : List V}, Reps K H ds vs → ∀ n, ds.all (D.dep n) = true → DpAll K H vs (D.pys ds)
  | _, _, .nil, _, _ => .nil
  | _, _, .cons h r, n, q => by
    rw [List.all_cons, Bool.and_eq_true] at q
    exact .cons (dp_py h n q.1) (dp_pys r n q.2)
end
section
variable {K : PySem.W.Frag} {H : Hp} {Q : VK} {d e : D} {v w : V}
theorem w_eqD (n : Nat) (hv : Rep K H d v) (hw : Rep K H e w) (hd : d.dep n = true) (he : e.dep n = true) (hn : n ≤ 64) (h1 : d = e → Q (.bl true) H) (h2 : d ≠ e → Q (.bl false) H) : rEqD K v w H Q := by
  refine ⟨d.py, e.py, dp_py hv n hd, dp_py hw n he, shaped_py hd hn, shaped_py he hn, ?_⟩
  by_cases c : d = e
  · rw [(eqv_py n d e hd he).mpr c]
    exact h1 c
  · have z : PyData.eqv d.py e.py = false := by
      cases q : PyData.eqv d.py e.py with
      | false => rfl
      | true => exact absurd ((eqv_py n d e hd he).mp q) c
    rw [z]
    exact h2 c
theorem w_neD (n : Nat) (hv : Rep K H d v) (hw : Rep K H e w) (hd : d.dep n = true) (he : e.dep n = true) (hn : n ≤ 64) (h1 : d = e → Q (.bl false) H) (h2 : d ≠ e → Q (.bl true) H) : rNeD K v w H Q := by
  refine ⟨d.py, e.py, dp_py hv n hd, dp_py hw n he, shaped_py hd hn, shaped_py he hn, ?_⟩
  by_cases c : d = e
  · rw [(eqv_py n d e hd he).mpr c]
    exact h1 c
  · have z : PyData.eqv d.py e.py = false := by
      cases q : PyData.eqv d.py e.py with
      | false => rfl
      | true => exact absurd ((eqv_py n d e hd he).mp q) c
    rw [z]
    exact h2 c
end
theorem Rep.grB {K : PySem.W.Frag} {H H' : Hp} {l : Addr} {S : List Addr} {d : D} {v : V} (g : Gr (l :: S) H H') (h : Rep K H d v) (q : d.pure = true) : Rep K H' d v := Rep.gr g h q
def dInts (ns : List Int) : List D := ns.map D.int
theorem reps_ints {K : PySem.W.Frag} {H : Hp} : ∀ ns : List Int, Reps K H (dInts ns) (ns.map V.int)
  | [] => .nil
  | n :: ns => .cons (.int n) (reps_ints ns)
theorem dep_ints (ns : List Int) (n : Nat) : (dInts ns).all (D.dep n) = true := by
  rw [List.all_eq_true]
  intro d hd
  obtain ⟨i, _, rfl⟩ := List.mem_map.mp hd
  cases n <;> rfl
theorem dInts_inj {ns ms : List Int} (h : dInts ns = dInts ms) : ns = ms := by
  unfold dInts at h
  exact List.map_inj_right (fun _ _ e => by injection e) |>.mp h
theorem pure_ints (ns : List Int) : D.pures (dInts ns) = true := by
  induction ns with
  | nil => rfl
  | cons n ns ih => exact ih
theorem rep_lstI {K : PySem.W.Frag} {H : Hp} {a : Addr} {ns : List Int} (h : SqL K H a (ns.map V.int)) : Rep K H (.lst (dInts ns)) (.ref a) := .lst h (reps_ints ns)
theorem rep_tupI {K : PySem.W.Frag} {H : Hp} {a : Addr} {ns : List Int} (h : SqT K H a (ns.map V.int)) : Rep K H (.tup (dInts ns)) (.ref a) := .tup h (reps_ints ns)
theorem w_callN {n m : Nat} {sp : Sp} {gV : List V → List V → List V} {E : XK} {t tk : TA} {σ : L2.St} {H : Hp} {Q : VK} (h : t σ H fun vs H1 => tk σ H1 fun zs H2 => vs.length = n ∧ zs.length = m ∧ sp (gV vs zs) H2 Q E) : tCallN n m sp gV E t tk σ H Q := h
def tCallNS (n m : Nat) (sp : Sp) (gV : List V → List V → List V) (E : L2.St → XK) (t tk : TA) : TE := fun σ H Q => t σ H fun vs H1 => tk σ H1 fun zs H2 => vs.length = n ∧ zs.length = m ∧ sp (gV vs zs) H2 Q (E σ)
section
variable {X : Cx} {CX : CXT} {k n : Nat} {f : Addr} {fd : FuncData} {ps ks : List Str} {sp : Sp} {E : L2.St → XK} {x : Str} {p pos : Pos} {e : Expr} {es : List Expr} {kws : List Keyword} {t tk : TA} {g : List Value → List Value → List Value} {gV : List V → List V → List V}
end
theorem w_callNS {n m : Nat} {sp : Sp} {gV : List V → List V → List V} {E : L2.St → XK} {t tk : TA} {σ : L2.St} {H : Hp} {Q : VK} (h : t σ H fun vs H1 => tk σ H1 fun zs H2 => vs.length = n ∧ zs.length = m ∧ sp (gV vs zs) H2 Q (E σ)) : tCallNS n m sp gV E t tk σ H Q := h
def D.tyn : D → String
  | .non => "NoneType"
  | .bl _ => "bool"
  | .int _ => "int"
  | .str _ => "str"
  | .tup _ => "tuple"
  | .lst _ => "list"
  | .ins _ _ _ => ""
  | .adr _ => ""
def D.isIns : D → Bool
  | .ins _ _ _ => true
  | .adr _ => true
  | _ => false
theorem tyx_of {K : PySem.W.Frag} {H : Hp} {d : D} {v : V} (h : Rep K H d v) (n : d.isIns = false) : TyX K H v (.type d.tyn) := by
  cases h with
  | non => exact .base .non
  | bl b => exact .base (.bl b)
  | int i => exact .base (.int i)
  | str s => exact .base (.str s)
  | tup h r =>
    rcases h with (h | ⟨o, h⟩) | ⟨o, its, k, h1, h2, _⟩
    · exact .base (.tup h)
    · exact .fTuple h
    · exact .kTuple h1 h2
  | lst h r =>
    rcases h with (h | ⟨o, h⟩) | ⟨o, its, k, h1, h2, _⟩
    · exact .base (.lst h)
    · exact .base (.frz h)
    · exact .kList h1 h2
  | ins h i l r => cases n
  | adr a => cases n
section
variable {K : PySem.W.Frag} {H : Hp} {Q : VK} {d : D} {v : V} {b : Bool} {T : String}
theorem w_isi (h : Rep K H d v) (n : d.isIns = false) (hk : kitB d.tyn T = some b) (q : Q (.bl b) H) : rIsi K [v, .ty T] H Q := ⟨v, .ty T, _, _, b, rfl, .ty T, tyx_of h n, kit_ty hk, q⟩
end
def XcOk (K : PySem.W.Frag) (C : Addr) : Prop := PySem.W.excIn K C He.veBase "ValueError.__new__" = true ∧ PySem.W.keepIn K (.ref C) = true ∧ PySem.W.subIn K (.ref C) (.type "BaseException") = some true ∧ PySem.W.typeIn K (.ref C) = some (.type "type")
def rIsEx (K : PySem.W.Frag) (a : Addr) (cls : Value) (d : Option Addr) : List V → Hp → VK → Prop := fun xs H Q => ∃ (D C : Addr) (b : Bool), cls = .ref D ∧ d = none ∧ ExcC K D ∧ xs = [.ref a, .ref C] ∧ PySem.W.kitOne K (.ref D) (.ref C) = some b ∧ Q (.bl b) H
theorem excCB_ok {K : PySem.W.Frag} {D : Addr} (h : excCB K D = true) : ExcC K D := by
  unfold excCB at h
  simp only [Bool.and_eq_true, decide_eq_true_eq] at h
  obtain ⟨h1, h2, h3, h4, h5, h6, h7, h8⟩ := h
  exact ⟨h1, h2, h3, h4, h5, h6, h7, h8⟩
theorem w_isE {K : PySem.W.Frag} {a D C : Addr} {b : Bool} {H : Hp} {Q : VK} (hC : ExcC K D) (hk : PySem.W.kitOne K (.ref D) (.ref C) = some b) (q : Q (.bl b) H) : rIsEx K a (.ref D) none [.ref a, .ref C] H Q := ⟨D, C, b, rfl, rfl, hC, rfl, hk, q⟩
theorem w_ends {i : Nat} {D : Ends} {σ : L2.St} {H : Hp} (h : D.nx (σ.set i none) H) : (endsNo i D).nx σ H := h
def D.lev : Nat → D → Bool
  | _, .int _ => true
  | _, .str _ => true
  | _, .non => true
  | _, .bl _ => true
  | _, .ins _ _ _ => false
  | _, .adr _ => false
  | 0, .tup _ => false
  | 0, .lst _ => false
  | n + 1, .tup ds => decide (ds.length ≤ 1000000) && ds.all (D.lev n)
  | n + 1, .lst ds => decide (ds.length ≤ 1000000) && ds.all (D.lev n)
theorem lev_ints (ns : List Int) (n : Nat) : (dInts ns).all (D.lev n) = true := by
  rw [List.all_eq_true]
  intro d hd
  obtain ⟨i, _, rfl⟩ := List.mem_map.mp hd
  cases n <;> rfl
theorem lev_tupI {ns : List Int} {n : Nat} (h : ns.length ≤ 1000000) : (D.tup (dInts ns)).lev (n + 1) = true := Bool.and_eq_true_iff.mpr ⟨decide_eq_true (by unfold dInts; rw [List.length_map]; exact h), lev_ints ns n⟩
theorem lev_lstI {ns : List Int} {n : Nat} (h : ns.length ≤ 1000000) : (D.lst (dInts ns)).lev (n + 1) = true := Bool.and_eq_true_iff.mpr ⟨decide_eq_true (by unfold dInts; rw [List.length_map]; exact h), lev_ints ns n⟩
theorem reps_get {K : PySem.W.Frag} {H : Hp} : ∀ {ds : List D} {vs : List V} {i : Nat} {d : D}, Reps K H ds vs → ds[i]? = some d → ∃ v, vs[i]? = some v ∧ Rep K H d v
  | _, _, _, _, .nil, e => by simp at e
  | _, _, 0, _, .cons h _, e => by
    simp at e
    subst e
    exact ⟨_, rfl, h⟩
  | _, _, i + 1, _, .cons _ r, e => by
    obtain ⟨v, h1, h2⟩ := reps_get (i := i) r (by simpa using e)
    exact ⟨v, by simpa using h1, h2⟩
@[reducible] def D.isTup : D → Bool
  | .tup _ => true
  | _ => false
theorem w_isi_tuple {K : PySem.W.Frag} {H : Hp} {Q : VK} {d : D} {v : V} (h : Rep K H d v) (n : d.isIns = false) (q : Q (.bl d.isTup) H) : rIsi K [v, .ty "tuple"] H Q :=
  w_isi h n (by cases d <;> first | (cases n; done) | (dsimp only [D.tyn, D.isTup]; decide +kernel)) q
@[reducible] def D.isLst : D → Bool
  | .lst _ => true
  | _ => false
theorem w_isi_list {K : PySem.W.Frag} {H : Hp} {Q : VK} {d : D} {v : V} (h : Rep K H d v) (n : d.isIns = false) (q : Q (.bl d.isLst) H) : rIsi K [v, .ty "list"] H Q :=
  w_isi h n (by cases d <;> first | (cases n; done) | (dsimp only [D.tyn, D.isLst]; decide +kernel)) q
@[reducible] def D.isBl : D → Bool
  | .bl _ => true
  | _ => false
theorem w_isi_bool {K : PySem.W.Frag} {H : Hp} {Q : VK} {d : D} {v : V} (h : Rep K H d v) (n : d.isIns = false) (q : Q (.bl d.isBl) H) : rIsi K [v, .ty "bool"] H Q :=
  w_isi h n (by cases d <;> first | (cases n; done) | (dsimp only [D.tyn, D.isBl]; decide +kernel)) q
@[reducible] def D.isInt : D → Bool
  | .int _ => true
  | .bl _ => true
  | _ => false
theorem w_isi_int {K : PySem.W.Frag} {H : Hp} {Q : VK} {d : D} {v : V} (h : Rep K H d v) (n : d.isIns = false) (q : Q (.bl d.isInt) H) : rIsi K [v, .ty "int"] H Q :=
  w_isi h n (by cases d <;> first | (cases n; done) | (dsimp only [D.tyn, D.isInt]; decide +kernel)) q
@[reducible] def D.isStr : D → Bool
  | .str _ => true
  | _ => false
theorem w_isi_str {K : PySem.W.Frag} {H : Hp} {Q : VK} {d : D} {v : V} (h : Rep K H d v) (n : d.isIns = false) (q : Q (.bl d.isStr) H) : rIsi K [v, .ty "str"] H Q :=
  w_isi h n (by cases d <;> first | (cases n; done) | (dsimp only [D.tyn, D.isStr]; decide +kernel)) q
theorem tyx_tup {K : PySem.W.Frag} {H : Hp} {a : Addr} {xs : List V} (h : SqT K H a xs) : TyX K H (.ref a) (.type "tuple") := by
  rcases h with (h | ⟨o, h⟩) | ⟨o, its, k, h1, h2, _⟩
  · exact .base (.tup h)
  · exact .fTuple h
  · exact .kTuple h1 h2
theorem tyx_lst {K : PySem.W.Frag} {H : Hp} {a : Addr} {xs : List V} (h : SqL K H a xs) : TyX K H (.ref a) (.type "list") := by
  rcases h with (h | ⟨o, h⟩) | ⟨o, its, k, h1, h2, _⟩
  · exact .base (.lst h)
  · exact .base (.frz h)
  · exact .kList h1 h2
theorem w_isiTT {K : PySem.W.Frag} {H : Hp} {Q : VK} {a : Addr} {xs : List V} (h : SqT K H a xs) (q : Q (.bl true) H) : rIsi K [.ref a, .ty "tuple"] H Q := ⟨.ref a, .ty "tuple", _, _, true, rfl, .ty _, tyx_tup h, kit_ty (by decide +kernel), q⟩
theorem w_isiLL {K : PySem.W.Frag} {H : Hp} {Q : VK} {a : Addr} {xs : List V} (h : SqL K H a xs) (q : Q (.bl true) H) : rIsi K [.ref a, .ty "list"] H Q := ⟨.ref a, .ty "list", _, _, true, rfl, .ty _, tyx_lst h, kit_ty (by decide +kernel), q⟩
def rRng1 : List V → Hp → (It → Hp → Prop) → Prop := fun vs H R => ∃ j : Int, vs = [.int j] ∧ -(2 ^ 62) ≤ j ∧ j < 2 ^ 62 ∧ R (Itr 0 j.toNat) H
def rRng2 : List V → Hp → (It → Hp → Prop) → Prop := fun vs H R => ∃ i j : Int, vs = [.int i, .int j] ∧ (-(2 ^ 62) ≤ i ∧ i < 2 ^ 62 ∧ -(2 ^ 62) ≤ j ∧ j < 2 ^ 62) ∧ R (Itr i (j - i).toNat) H
def rRng3 : List V → Hp → (It → Hp → Prop) → Prop := fun vs H R => ∃ (i j c : Int) (n : Nat), vs = [.int i, .int j, .int c] ∧ RgC i j c n ∧ R (Itc i c n) H
def rItL (K : PySem.W.Frag) : V → Hp → (It → Hp → Prop) → Prop := fun x H R => ∃ a, x = .ref a ∧ (∃ xs, SqL K H a xs) ∧ R (Itl K a) H
def rItT (K : PySem.W.Frag) : V → Hp → (It → Hp → Prop) → Prop := fun x H R => ∃ a, x = .ref a ∧ (∃ xs, SqT K H a xs) ∧ R (Itt K a) H
section
variable {K : PySem.W.Frag} {σ : L2.St} {H : Hp} {D : Ends} {ta : TA} {te : TE} {R : It → Hp → Prop} {g : TG} {tb : TS} {i j : Int} {n : Nat} {a : Addr} {xs : List V}
theorem w_iRng1 (h : ta σ H fun vs H1 => rRng1 vs H1 R) : iRng1 ta σ H R := h
theorem w_iRng2 (h : ta σ H fun vs H1 => rRng2 vs H1 R) : iRng2 ta σ H R := h
theorem w_iRng3 (h : ta σ H fun vs H1 => rRng3 vs H1 R) : iRng3 ta σ H R := h
theorem w_iList (h : te σ H fun x H1 => rItL K x H1 R) : iList K te σ H R := h
theorem w_iTup (h : te σ H fun x H1 => rItT K x H1 R) : iTup K te σ H R := h
theorem w_rRng1N (h0 : n ≤ 1000000000) (h : R (Itr 0 n) H) : rRng1 [.int n] H R := ⟨n, rfl, by omega, by omega, h⟩
theorem w_rItL (h0 : SqL K H a xs) (h : R (Itl K a) H) : rItL K (.ref a) H R := ⟨a, rfl, ⟨xs, h0⟩, h⟩
theorem w_rItT (h0 : SqT K H a xs) (h : R (Itt K a) H) : rItT K (.ref a) H R := ⟨a, rfl, ⟨xs, h0⟩, h⟩
def forK (g : TG) (tb : TS) (D : Ends) (σ : L2.St) : It → Hp → Prop := fun J H1 => ∃ W : Nat → Nat → L2.St → Hp → Prop, (∃ m, W 0 m σ H1) ∧ ∀ i m σ H, W i m σ H →
  (J.stop i H ∧ D.nx σ H) ∨ (J.go i H ∧ ∃ N : L2.St → Hp → Prop, (∀ σ' H', N σ' H' → ∃ m', m' < m ∧ W (i + 1) m' σ' H') ∧ ∀ x H', J.yld i H x H' → g x σ H' fun σ2 H2 => tb { D with nx := N, ct := N, bk := D.nx } σ2 H2)
theorem w_for {wi : TI} (h : wi σ H (forK g tb D σ)) : tFor wi g tb D σ H := h
theorem f_rng {lo : Int} (Pv : Nat → L2.St → Hp → Prop) (h0 : Pv 0 σ H)
    (hs : ∀ i σ H, i < n → Pv i σ H → g (.int (lo + i)) σ H fun σ2 H2 => tb { D with nx := Pv (i + 1), ct := Pv (i + 1), bk := D.nx } σ2 H2) (hd : ∀ σ H, Pv n σ H → D.nx σ H) : forK g tb D σ (Itr lo n) H := for_range Pv h0 hs hd
theorem w_bT {b : Bool} {Q : VK} (e : b = true) (h : Q (.bl true) H) : Q (.bl b) H := by rw [e]; exact h
theorem w_bF {b : Bool} {Q : VK} (e : b = false) (h : Q (.bl false) H) : Q (.bl b) H := by rw [e]; exact h
theorem w_ixSL {p : Addr} {k : Int} {v : V} {Q : VK} (h0 : SqL K H p xs) (h1 : atI xs k = some v) (h : Q v H) : rIx K (.ref p) (.int k) H Q := .inl ⟨p, xs, k, v, rfl, rfl, h0, h1, h⟩
theorem w_ixST {p : Addr} {k : Int} {v : V} {Q : VK} (h0 : SqT K H p xs) (h1 : atI xs k = some v) (h : Q v H) : rIx K (.ref p) (.int k) H Q := .inr (.inl ⟨p, xs, k, v, rfl, rfl, h0, h1, h⟩)
end
theorem DefW.funD {K : PySem.W.Frag} {d : DefW} (hs : d.sup = none) (e : fnWA K d.sup (d.at_ K) = d.val) (c : d.ok K = true) : ∃ fd, FunD K d.name d.qual d.params d.body d.scope (d.dvs K) [] (d.at_ K) fd := by
  obtain ⟨kp, c2⟩ := Bool.and_eq_true_iff.mp c
  unfold fnWA at e
  rcases q : K.lookup (d.at_ K) with _ | ⟨oc, od, dt, osl⟩
  · rw [q] at c2
    cases c2
  · rw [q] at c2 e
    cases dt with
    | func fd =>
      obtain ⟨n1, n2, n3, n4, n5, n6, n7, n8, n9, n10, n11, n12, n13, n14, n15⟩ := fd
      unfold DefW.val at e
      rw [hs] at e c2
      have e2 : (some (n1, n2, n3, n4, n5, n6, n7, n15) : He.FnW) = some (d.name, d.qual, d.params, .stmts d.body, d.scope, mainGlobals, [], builtinsNs) := e
      simp only [Option.some.injEq, Prod.mk.injEq] at e2
      obtain ⟨h1, h2, h3, h4, h5, h6, h7, h8⟩ := e2
      subst h1 h2 h3 h4 h5 h6 h7 h8
      obtain ⟨k1, k3⟩ := Bool.and_eq_true_iff.mp (Bool.and_eq_true_iff.mp (show (PySem.W.codeIn K n13 d.qual && He.dflB K n8 (d.dvs K) && true) = true from c2)).1
      exact ⟨_, ⟨oc, od, n8, n9, n10, n11, n12, n13, n14, osl, rfl, q, k1, He.dflB_ok k3, He.kwdB_ok rfl⟩, kp⟩
    | _ => cases c2
theorem obT_eq {fa : List He.Fa} {fn : List DefW} {ex : PySem.W.Frag → List Bool} (s : PySem.W.SharedT) : obT fa fn ex s = (hookW fa fn ex).obs s.abs := by
  have e : HandSHeadRun.getT s = s.abs.heap.get? := funext (HandSHeadRun.getT_eq s)
  show obsW fa fn ex (He.frG (HandSHeadRun.getT s) (asW (HandSHeadRun.getT s))) = obsW fa fn ex (He.frG s.abs.heap.get? (asW s.abs.heap.get?))
  rw [e]
section
variable {fa : List He.Fa} {fn : List DefW} {ex : PySem.W.Frag → List Bool} {K : PySem.W.Frag}
theorem SaysW.fact (c : SaysW fa fn ex K) (i : Nat) {f : He.Fa} (h : fa[i]? = some f) : f.ok K = true := List.all_eq_true.mp c.all.1 f (List.mem_of_getElem? h)
theorem SaysW.exs (c : SaysW fa fn ex K) (i : Nat) {b : Bool} (h : (ex K)[i]? = some b) : b = true := List.all_eq_true.mp c.all.2.2 b (List.mem_of_getElem? h)
theorem SaysW.defS (c : SaysW fa fn ex K) (i : Nat) {d : DefW} (h : fn[i]? = some d) : fnWA K d.sup (d.at_ K) = d.val ∧ d.ok K = true := by
  have e : fn.map (fun d => fnWA K d.sup (d.at_ K)) = fn.map DefW.val := congrArg (fun z : AlW => z.2) c
  have e2 : (fn.map fun d => fnWA K d.sup (d.at_ K))[i]? = (fn.map DefW.val)[i]? := by rw [e]
  rw [List.getElem?_map, List.getElem?_map, h] at e2
  exact ⟨Option.some.inj e2, List.all_eq_true.mp c.all.2.1 d (List.mem_of_getElem? h)⟩
theorem SaysW.def_ (c : SaysW fa fn ex K) (i : Nat) {d : DefW} (h : fn[i]? = some d) (hs : d.sup = none := by rfl) : ∃ fd, FunD K d.name d.qual d.params d.body d.scope (d.dvs K) [] (d.at_ K) fd := by
  obtain ⟨h1, h2⟩ := c.defS i h
  exact DefW.funD hs h1 h2
end
def rFld (K : PySem.W.Frag) (f : Str) : V → Hp → VK → Prop := fun x H Q => ∃ a C dx fs v, x = .ref a ∧ H a = some (.ins C dx fs) ∧ Cls K C ∧ NoAttr K C f ∧ fs.lookup f = some v ∧ Q v H
theorem w_fld {K : PySem.W.Frag} {ta : TE} {f : Str} {σ : L2.St} {H : Hp} {Q : VK} (h : ta σ H fun x H1 => rFld K f x H1 Q) : tFld K ta f σ H Q := h
theorem w_rFld {K : PySem.W.Frag} {f : Str} {a C dx : Addr} {fs : List (Str × V)} {v : V} {H : Hp} {Q : VK} (h : H a = some (.ins C dx fs)) (c : Cls K C) (n : NoAttr K C f) (l : fs.lookup f = some v) (q : Q v H) : rFld K f (.ref a) H Q := ⟨a, C, dx, fs, v, rfl, h, c, n, l, q⟩
def rPut (K : PySem.W.Frag) (f : Str) (y : V) : V → Hp → (Hp → Prop) → Prop := fun x H R => ∃ a C dx fs, x = .ref a ∧ H a = some (.ins C dx fs) ∧ Cls K C ∧ NoAttr K C f ∧ fs.length < 1000 ∧ R (upd H a (.ins C dx (putF f y fs)))
theorem w_put {K : PySem.W.Frag} {ta tv : TE} {f : Str} {σ : L2.St} {H : Hp} {D : Ends} (h : tv σ H fun y H1 => ta σ H1 fun x H2 => rPut K f y x H2 fun H3 => D.nx σ H3) : sFld K ta tv f D σ H := h
theorem Gr.put {H : Hp} {a C dx : Addr} {fs : List (Str × V)} {o : HO} (h : H a = some (.ins C dx fs)) (hi : imm (fs.map (·.1)) = false) : Gr [a] H (upd H a o) := ⟨fun b u e m => by
    rw [upd_ne (by simpa using m)]
    exact e, fun b m => by
    have e : b = a := by simpa using m
    subst e
    exact ⟨_, h, hi⟩⟩
theorem w_rPut {K : PySem.W.Frag} {f : Str} {y : V} {a C dx : Addr} {fs : List (Str × V)} {H : Hp} {R : Hp → Prop} (h : H a = some (.ins C dx fs)) (c : Cls K C) (n : NoAttr K C f) (l : fs.length < 1000) (hi : imm (fs.map (·.1)) = false)
    (q : ∀ H', Gr [a] H H' → H' a = some (.ins C dx (putF f y fs)) → R H') : rPut K f y (.ref a) H R := ⟨a, C, dx, fs, rfl, h, c, n, l, q _ (Gr.put h hi) upd_same⟩
theorem walkW {l : PySem.W.OpenLaw} {n k : Nat} {q : Program} {loose : List Str} {XP : (Str → Option Value) → Heap → Prop} {YP : World → Heap → Prop} {d : DefRec} {x : Str}
    (hn : l.most = some n) (hn2 : n ≤ sizeLine) (hdf : d.params.defaults = []) (hr : Room k callerA)
    (F : ∀ (w : World) (mg : Str → Option Value) (fa : Addr) (h : Heap), YP w h → h.Ns mainGlobals mg → mg d.name = some (.ref fa) →
      ∃ (K : PySem.W.Frag) (fd : FuncData) (sp : Sp), K.In h ∧ (∀ (s : Shared) (u : Value), BindsTo s fd ⟨[u], []⟩ [(x, u)]) ∧
        (∀ (H : Hp) (a : Addr) (ns : List Int), ns.length ≤ n → Only H → SqL K H a (ns.map V.int) → sp [.ref a] H (fun v _ => v = .bl true) fun _ _ _ => False) ∧
        ∀ base : Heap, K.In base → base.Ns mainGlobals mg → FnOk l.prog w K mg base (L2N.CX l.prog w) k fa fd [x] sp) :
    PySem.W.WalkO q loose XP YP l.row.toRowW d [] (fun f vs => PySem.call f vs) := by
  refine Att.attach_call hn hdf fun w s₀ s₁ mg mb fa o pm cd doc a vs ns G Y ho hd hcd hmg hobj hints hlen hg => ?_
  obtain ⟨K, fd, sp, KX, hb, hsp, hF⟩ := F w mg fa _ Y G.T.g hmg
  refine law_call KX G.T.g G.T.b G.T.builtins G.T.nolimit hg hobj hints (Nat.le_trans hlen hn2) hr hF hb (fun H hO hS => hsp H a ns hlen hO hS) fun H e s' h => ?_
  obtain ⟨_, _, _, _, _, _, _, _, _, _, _, _, z⟩ := h
  exact z
end LW
namespace LW
open PySem PySem.Spec PyProof.Rows L2
def tDead : TS := fun _ _ _ => False
theorem ps_dead {X : Cx} {st : Stmt} : PS X st tDead := ⟨fun _ _ _ _ _ _ h => h.elim⟩
theorem rawF {P : Program} {w : World} {K : PySem.W.Frag} {mg : Str → Option Value} {base : Heap} {CX : CXT} {k : Nat} {f : Addr} {fd : FuncData} {ps : List Str} {sp : Sp} (F : FnOk P w K mg base CX k f fd ps sp) (hb : Binds K fd ps []) :
    FnR P w K mg base CX k f sp := (F.raw hb .nil).imp fun vs H Q E h => by rw [List.append_nil]; exact h
section
variable {X : Cx} {CX : CXT} {k : Nat} {C f g p : Addr} {mc : Value} {sp : Sp} {E : L2.St → XK} {pins : List (Addr × Obj)} {σ : L2.St} {H : Hp} {s : Shared} {Q : VK} {us : List Value} {vs : List V}
theorem run_S {A : Around} (F : FnR X.prog X.w X.K X.mg X.base CX k g sp) (hr : Room k A) (e0 : Env0 X.prog X.w X.K X.mg X.base A X.stack s H) (hx : PassesAt CX X σ (E σ)) (I : Inv X pins σ H s) (r : Vals vs us) (h : sp vs H Q (E σ)) :
    codeAny (model X.prog X.w) A (.call (.ref g) ⟨us, []⟩) (fun r s' => match r with | .ok (.ret v) => EP X pins σ Q v s' | .ok _ => False | .error e => X.xe e s') s := by
  refine codeAny_mono (F A X.stack s H us vs Q (E σ) hr e0 r h) fun r s' hq => ?_
  rcases r with e | fl
  · exact hx pins H s e s' I hq
  · cases fl <;> first | exact I.after hq | exact False.elim hq
def mkHp (H : Hp) (x dx C : Addr) : Hp := upd (upd H dx (.own x)) x (.ins C dx [])
def tMakeS (C : Addr) (sp : Sp) (E : L2.St → XK) (tf : TE) (t : TA) : TE := fun σ H Q => tf σ H fun y H0 => y = .ref C ∧ t σ H0 fun vs H1 => ∀ x dx, H1 x = Option.none → H1 dx = Option.none → dx ≠ x →
  sp (V.ref x :: vs) (mkHp H1 x dx C) (fun v H2 => v = .non ∧ Q (.ref x) H2) (E σ)
variable {o e fe : Expr} {es : List Expr} {m : Str} {pos apos : Pos} {ta tb tf : TE} {t : TA} {pl : Sem Bool}
theorem pe_makeS (hf : PE X fe tf) (M : Mk X.K C f) (F : FnR X.prog X.w X.K X.mg X.base CX k f sp) (hr : Room (k + 1) X.A) (hx : ∀ σ, PassesAt CX X σ (E σ)) (ha : PA X (e :: es) t)
    (ht : eval (.Call fe (e :: es) [] pos) X.env = (do callWith pos (← eval fe X.env) [] (backTo pos (starEach (e :: es) X.env)) (backToKw pos (keywordEach [] X.env))) := by rfl)
    (he : starEach (e :: es) X.env = (false, eval e X.env) :: starEach es X.env := by rfl) (hpl : (backTo pos (starEach es X.env)).any (·.1) = false := by rfl) : PE X (.Call fe (e :: es) [] pos) (tMakeS C sp E tf t) := by
  refine ⟨fun pins s σ H Q I h => ?_⟩
  refine Call_ (thn (hf.run pins s σ H _ I h) fun u s1 ⟨y, H0, I0, ry, ey, q0⟩ => ?_) ht
  subst ey
  obtain rfl : u = Value.ref C := ry
  refine PySem.W.callWith_K (h₀ := X.base) I0.ok.mod.kin M.kp (thn (ha.run pos pins s1 σ H0 _ I0 q0) fun us s2 ⟨vs, H1, I1, r, q⟩ => ⟨I1.kIn, ?_⟩) he hpl
  have hq := q (s2.heap.objs.size + 1) s2.heap.objs.size (I1.hok.fresh (Nat.le_succ _)) (I1.hok.fresh (Nat.le_refl _)) (Nat.ne_of_lt (Nat.lt_succ_self _))
  have I2 := Inv.made (C := C) I1
  refine wpAny_call (make_map (f := f) I1.kIn M.makes M.init (beq_iff_eq.mp M.fn) (codeAny_mono (run_S (us := Value.ref (s2.heap.objs.size + 1) :: us) (vs := V.ref (s2.heap.objs.size + 1) :: vs) F (hr.make C us []) (I2.env0.make C us []) (hx σ) I2 (.cons rfl r) hq) fun r s' hq' => ?_))
  rcases r with e | fl
  · exact hq'
  · cases fl with
    | ret u =>
      obtain ⟨v, H', I3, rv, ev, q3⟩ := hq'
      subst ev
      exact ⟨rv, ⟨V.ref (s2.heap.objs.size + 1), H', I3, rfl, q3⟩⟩
    | _ => exact False.elim hq'
def tCMethS (C : Addr) (sp : Sp) (E : L2.St → XK) (ta : TE) (t : TA) : TE := fun σ H Q => ta σ H fun x H1 => x = .ref C ∧ t σ H1 fun vs H2 => sp (.ref C :: vs) H2 Q (E σ)
def tMethSS (C : Addr) (m : Str) (sp : Sp) (E : L2.St → XK) (ta : TE) (t : TA) : TE := fun σ H Q => ta σ H fun x H1 => ∃ a dx fs, x = .ref a ∧ H1 a = some (.ins C dx fs) ∧ fs.lookup m = none ∧ t σ H1 fun vs H2 => sp (x :: vs) H2 Q (E σ)
def tCallOS (C : Addr) (sp : Sp) (E : L2.St → XK) (tf : TE) (t : TA) : TE := fun σ H Q => tf σ H fun y H1 => ∃ a, y = V.ref a ∧ t σ H1 fun vs H2 => (∃ dx fs, H2 a = some (.ins C dx fs)) ∧ sp (V.ref a :: vs) H2 Q (E σ)
theorem pe_callOS (hf : PE X fe tf) (c : StX.CallO X.K C g) (F : FnR X.prog X.w X.K X.mg X.base CX k g sp) (hr : Room k X.A) (hx : ∀ σ, PassesAt CX X σ (E σ)) (ha : PA X (e :: es) t)
    (ht : eval (.Call fe (e :: es) [] pos) X.env = (do callWith pos (← eval fe X.env) [] (backTo pos (starEach (e :: es) X.env)) (backToKw pos (keywordEach [] X.env))) := by rfl)
    (he : starEach (e :: es) X.env = (false, eval e X.env) :: starEach es X.env := by rfl) (hpl : (backTo pos (starEach es X.env)).any (·.1) = false := by rfl) : PE X (.Call fe (e :: es) [] pos) (tCallOS C sp E tf t) := by
  refine ⟨fun pins s σ H Q I h => ?_⟩
  refine Call_ (thn (hf.run pins s σ H _ I h) fun u s1 ⟨y, H1, I1, ry, a, ey, q⟩ => ?_) ht
  subst ey
  obtain rfl : u = Value.ref a := ry
  refine StX.callO_with (thn (ha.run pos pins s1 σ H1 _ I1 q) fun us s2 ⟨vs, H2, I2, r, hi, q2⟩ => ?_) he hpl
  obtain ⟨ox, od, J, hd⟩ := StX.insC_at I2 (.inr hi)
  exact ⟨⟨C, ox, od, J, hd⟩, wpAny_call (PySem.W.kco_code I2.kIn J hd c.at_ c.fn c.fi (run_S (us := .ref a :: us) (vs := .ref a :: vs) F hr I2.env0 (hx σ) I2 (.cons rfl r) q2))⟩
def tBinS (C : Addr) (sp : Sp) (E : L2.St → XK) (ta tb : TE) : TE := fun σ H Q => ta σ H fun x H1 => tb σ H1 fun y H2 => ∃ a dx fs b dy gs, x = .ref a ∧ y = .ref b ∧ H2 a = some (.ins C dx fs) ∧ H2 b = some (.ins C dy gs) ∧ sp [x, y] H2 Q (E σ)
theorem ins_at (I : Inv X pins σ H s) {a dx : Addr} {fs : List (Str × V)} (h : H a = some (.ins C dx fs)) : ∃ ox od, PySem.W.InstAt s.heap a ox C od := by
  obtain ⟨ox, od, J, _⟩ := StX.insC_at I (.inr ⟨dx, fs, h⟩)
  exact ⟨ox, od, J⟩
structure CmO (K : PySem.W.Frag) (C : Addr) (m : Str) (g : Addr) : Prop where
  at_ : PySem.W.findIn K (.ref C) m = some (some (.ref g))
  fn : PySem.W.isFn K (.ref g) = true
theorem pe_cmpS {a b : Expr} {op : CmpOp} (c : CmO X.K C (cmpInfo op).2.1 g) (hop : ∀ a b, compareOp op a b = richCompare op a b) (F : FnR X.prog X.w X.K X.mg X.base CX k g sp) (hr : Room k X.A) (hx : ∀ σ, PassesAt CX X σ (E σ)) (ha : PE X a ta) (hb : PE X b tb) (hm : behindInMarks op b = false) : PE X (.Compare a [op] [b] pos) (tBinS C sp E ta tb) := by
  refine ⟨fun pins s σ H Q I h => ?_⟩
  refine wpAny_Compare1 (binT ha hb I h fun v u s2 x y H2 I2 rx ry q => ?_) hm
  obtain ⟨a, dx, fs, b, dy, gs, rfl, rfl, ea, eb, q⟩ := q
  cases (show v = Value.ref a from rx)
  cases (show u = Value.ref b from ry)
  obtain ⟨ox, od, J⟩ := ins_at I2 ea
  obtain ⟨ox', od', J'⟩ := ins_at I2 eb
  obtain ⟨m, hF⟩ := I2.fr
  rw [hop]
  refine PySem.W.cmp_K (op := op) (tb := .ref C) hr.units0 hF I2.ok.mod.kin J J'.type (by unfold PySem.W.notFirst; simp) c.at_ c.fn ?_
  refine wpAny_mono (wpAny_call (run_S (us := [.ref a, .ref b]) (vs := [.ref a, .ref b]) F hr I2.env0 (hx σ) I2 (.cons rfl (.cons rfl .nil)) q)) (fun w s' z => ?_) fun _ _ x => x
  obtain ⟨z', H', I', rz, qz⟩ := z
  exact SlX.cmpback rz ⟨z', H', I', rz, qz⟩
def tBinI (C : Addr) (sp : Sp) (E : L2.St → XK) (ta tb : TE) : TE := fun σ H Q => ta σ H fun x H1 => tb σ H1 fun y H2 => ∃ a dx fs i, x = .ref a ∧ y = .int i ∧ H2 a = some (.ins C dx fs) ∧ sp [x, y] H2 Q (E σ)
def tInvS (C : Addr) (sp : Sp) (E : L2.St → XK) (ta : TE) : TE := fun σ H Q => ta σ H fun x H1 => ∃ a dx fs, x = .ref a ∧ H1 a = some (.ins C dx fs) ∧ sp [x] H1 Q (E σ)
def rLenO (C : Addr) (sp : Sp) : List V → Hp → VK → Prop := fun xs H Q => ∃ a dx fs, xs = [.ref a] ∧ H a = some (.ins C dx fs) ∧ sp [.ref a] H (fun v H' => ∃ n : Int, v = .int n ∧ 0 ≤ n ∧ n < 2 ^ 63 ∧ Q (.int n) H') (fun _ _ _ => False)
end
section
variable {K : PySem.W.Frag} {x m : Str}
theorem and2 {a b : Bool} (h : (a && b) = true) : a = true ∧ b = true := Bool.and_eq_true_iff.mp h
theorem cmoB_ok (h : cmoB K x m = true) : CmO K (He.ga K x) m (He.ma K (He.ga K x) m) := ⟨of_decide_eq_true (and2 h).1, (and2 h).2⟩
theorem calB_ok (h : calB K x = true) : StX.CallO K (He.ga K x) (He.ma K (He.ga K x) "__call__") := ⟨(cmoB_ok (and2 h).1).1, (cmoB_ok (and2 h).1).2, (and2 h).2⟩
theorem crdB_ok (h : crdB K x = true) : ClX.CRead K (He.ga K x) (.type "type") := ⟨(and2 h).1, of_decide_eq_true (and2 h).2⟩
theorem cvlB_ok {i : Int} (h : cvlB K x m i = true) : ∃ u, ClX.CVal K (He.ga K x) (.type "type") m (.int i) u := by
  unfold cvlB at h
  split at h
  · rename_i j t e
    exact ⟨_, e, t, by rw [of_decide_eq_true h]⟩
  · cases h
structure IsiC (K : PySem.W.Frag) (C : Addr) : Prop where
  cls : Cls K C
  ca : PySem.W.findIn K (.ref C) "__class__" = some (some (.builtin "object.__class__"))
  cn : PySem.W.specialIn K (.builtin "object.__class__") "__get__" = some (some (.builtin "getset_descriptor.__get__"))
  ct : PySem.W.takesIn K (.builtin "object.__class__") = some true
  cm : PySem.W.mroIn K C (.type "object") = some true
theorem isiB_ok (h : isiB K x = true) : IsiC K (He.ga K x) := by
  obtain ⟨h1, h⟩ := and2 h
  obtain ⟨h2, h⟩ := and2 h
  obtain ⟨h3, h⟩ := and2 h
  obtain ⟨h4, h5⟩ := and2 h
  exact ⟨He.cls_ok h1, of_decide_eq_true h2, of_decide_eq_true h3, of_decide_eq_true h4, of_decide_eq_true h5⟩
theorem w_isiO {H : Hp} {Q : VK} {a C D dx : Addr} {fs : List (Str × V)} {b : Bool} (I : IsiC K C) (h : H a = some (.ins C dx fs)) (hk : PySem.W.kitOne K (.ref C) (.ref D) = some b) (q : Q (.bl b) H) : rIsi K [.ref a, .ref D] H Q :=
  ⟨.ref a, .ref D, .ref C, .ref D, b, rfl, .own D, .base (.ins h I.cls I.ca I.cn I.ct I.cm), hk, q⟩
end
section
variable {K : PySem.W.Frag} {C : Addr} {sp : Sp} {E : L2.St → XK} {ta tb tf : TE} {t : TA} {σ : L2.St} {H : Hp} {Q : VK} {m : Str}
def kMake (C : Addr) (sp : Sp) (E : XK) (vs : List V) (H1 : Hp) (Q : VK) : Prop := ∀ x dx, H1 x = Option.none → H1 dx = Option.none → dx ≠ x → sp (V.ref x :: vs) (mkHp H1 x dx C) (fun v H2 => v = .non ∧ Q (.ref x) H2) E
def kRef (C : Addr) (y : V) (P : Prop) : Prop := y = .ref C ∧ P
theorem w_kRef {P : Prop} (h : P) : kRef C (.ref C) P := ⟨rfl, h⟩
theorem w_makeS (h : tf σ H fun y H0 => kRef C y (t σ H0 fun vs H1 => kMake C sp (E σ) vs H1 Q)) : tMakeS C sp E tf t σ H Q := h
theorem w_cmethS (h : ta σ H fun y H0 => kRef C y (t σ H0 fun vs H1 => sp (.ref C :: vs) H1 Q (E σ))) : tCMethS C sp E ta t σ H Q := h
def rBinO (C : Addr) (sp : Sp) (E : XK) (x y : V) (H2 : Hp) (Q : VK) : Prop := ∃ a dx fs b dy gs, x = .ref a ∧ y = .ref b ∧ H2 a = some (.ins C dx fs) ∧ H2 b = some (.ins C dy gs) ∧ sp [x, y] H2 Q E
theorem w_binS (h : ta σ H fun x H1 => tb σ H1 fun y H2 => rBinO C sp (E σ) x y H2 Q) : tBinS C sp E ta tb σ H Q := h
def rBinI (C : Addr) (sp : Sp) (E : XK) (x y : V) (H2 : Hp) (Q : VK) : Prop := ∃ a dx fs i, x = .ref a ∧ y = .int i ∧ H2 a = some (.ins C dx fs) ∧ sp [x, y] H2 Q E
theorem w_binI (h : ta σ H fun x H1 => tb σ H1 fun y H2 => rBinI C sp (E σ) x y H2 Q) : tBinI C sp E ta tb σ H Q := h
def rInvO (C : Addr) (sp : Sp) (E : XK) (x : V) (H2 : Hp) (Q : VK) : Prop := ∃ a dx fs, x = .ref a ∧ H2 a = some (.ins C dx fs) ∧ sp [x] H2 Q E
theorem w_invS (h : ta σ H fun x H1 => rInvO C sp (E σ) x H1 Q) : tInvS C sp E ta σ H Q := h
def rCalO (C : Addr) (sp : Sp) (E : XK) (t : TA) (σ : L2.St) (y : V) (H1 : Hp) (Q : VK) : Prop := ∃ a, y = V.ref a ∧ t σ H1 fun vs H2 => (∃ dx fs, H2 a = some (.ins C dx fs)) ∧ sp (V.ref a :: vs) H2 Q E
theorem w_callOS (h : tf σ H fun y H1 => rCalO C sp (E σ) t σ y H1 Q) : tCallOS C sp E tf t σ H Q := h
def rMetO (C : Addr) (m : Str) (sp : Sp) (E : XK) (t : TA) (σ : L2.St) (y : V) (H1 : Hp) (Q : VK) : Prop := ∃ a dx fs, y = .ref a ∧ H1 a = some (.ins C dx fs) ∧ fs.lookup m = none ∧ t σ H1 fun vs H2 => sp (y :: vs) H2 Q E
theorem w_methS (h : ta σ H fun y H1 => rMetO C m sp (E σ) t σ y H1 Q) : tMethSS C m sp E ta t σ H Q := h
def rCVal (K : PySem.W.Frag) (f : Str) (x : V) (H : Hp) (Q : VK) : Prop := ∃ C mc v u, x = .ref C ∧ ClX.CRead K C mc ∧ ClX.CVal K C mc f v u ∧ Q v H
theorem w_cval {f : Str} (h : ta σ H fun x H1 => rCVal K f x H1 Q) : ClX.tCVal K ta f σ H Q := h
theorem w_rCVal {f : Str} {v : V} {mc : Value} (r : ClX.CRead K C mc) (k : ∃ u, ClX.CVal K C mc f v u) (q : Q v H) : rCVal K f (.ref C) H Q := by
  obtain ⟨u, k⟩ := k
  exact ⟨C, mc, v, u, rfl, r, k, q⟩
def kLstRg (a b : Int) (H1 : Hp) (Q : VK) : Prop := RgOk a b ∧ ∀ q, H1 q = none → Q (.ref q) (upd H1 q (.lst (rgV a b)))
def kTupRg (a b : Int) (H1 : Hp) (Q : VK) : Prop := RgOk a b ∧ ∀ q, H1 q = none → Q (.ref q) (upd H1 q (.tup (rgV a b)))
def kRg1 (x : V) (R : Int → Int → Hp → Prop) (H : Hp) : Prop := ∃ n, x = .int n ∧ R 0 n H
theorem w_lstRg {te : L2.St → Hp → (Int → Int → Hp → Prop) → Prop} (h : te σ H fun a b H1 => kLstRg a b H1 Q) : tLstRg te σ H Q := h
theorem w_tupRg {te : L2.St → Hp → (Int → Int → Hp → Prop) → Prop} (h : te σ H fun a b H1 => kTupRg a b H1 Q) : tTupRg te σ H Q := h
theorem w_tRg1 {R : Int → Int → Hp → Prop} (h : ta σ H fun x H1 => kRg1 x R H1) : tRg1 ta σ H R := h
theorem w_kRg1 {n : Int} {R : Int → Int → Hp → Prop} (h : R 0 n H) : kRg1 (.int n) R H := ⟨n, rfl, h⟩
def rg (n : Nat) : List Int := (List.range n).map fun (i : Nat) => (i : Int)
theorem rgV_eq (n : Nat) : rgV 0 n = (rg n).map V.int := by
  unfold rgV rg
  rw [List.map_map, show ((n : Int) - 0).toNat = n by omega]
  exact List.map_congr_left fun i _ => by show V.int (0 + (i : Nat)) = V.int (i : Int); rw [Int.zero_add]
theorem w_kLstRg {n : Nat} (hn : n ≤ 1000000) (h : ∀ q H', H q = none → Gr [] H H' → H' q = some (.lst ((rg n).map V.int)) → Q (.ref q) H') : kLstRg 0 n H Q :=
  ⟨.of_le (by omega) (by omega) (by omega) (by omega), fun q hq => h q _ hq (Gr.new hq) (by rw [rgV_eq]; exact upd_same)⟩
end
abbrev Blk (α : Type) : Type := Shared → Hp → Addr → List (Str × Addr) → List Addr → α
section
variable {X : Cx} {elt tg iter : Expr} {ifs : List Expr} {scope : Scope} {own : List (Str × Nat)} {pos spos : Pos} {wi : TI} {g : TG} {tt : Blk TT} {te : Blk TE} {i : Nat} {y : Str} {py : Pos}
end
def kLc (g : TG) (tt : TT) (te : TE) (vs : List Nat) (σ : L2.St) : It → Hp → VK → Prop := fun J H1 Q => ∀ D, H1 D = none → ∃ W : Nat → Nat → Hp → Prop, (∃ m, W 0 m (upd H1 D (.lst []))) ∧ ∀ i m H, W i m H →
  (J.stop i H ∧ Q (.ref D) H) ∨ (J.go i H ∧ ∃ Nx : Hp → Prop, (∀ H', Nx H' → ∃ m', m' < m ∧ W (i + 1) m' H') ∧ ∀ x H', J.yld i H x H' → g x (wipe σ vs) H' fun σ2 H2 => wipe σ2 vs = wipe σ vs ∧ tt σ2 H2 fun b H3 =>
    if b = true then te σ2 H3 fun y H4 => ∃ acc, H4 D = some (.lst acc) ∧ acc.length < sizeLine ∧ Nx (upd H4 D (.lst (acc ++ [y]))) else Nx H3)
section
variable {K : PySem.W.Frag} {σ : L2.St} {H H1 : Hp} {Q : VK} {wi : TI} {g : TG} {tt : TT} {te : TE} {vs : List Nat} {n : Nat} {lo : Int} {a : Addr} {xs : List V}
theorem w_lc (h : wi σ H fun J H1 => kLc g tt te vs σ J H1 Q) : tLc wi g tt te vs σ H Q := h
def rApp (D : Addr) (Nx : Hp → Prop) (y : V) (H4 : Hp) : Prop := ∃ acc, H4 D = some (.lst acc) ∧ acc.length < sizeLine ∧ Nx (upd H4 D (.lst (acc ++ [y])))
def kIf (b : Bool) (A B : Prop) : Prop := if b = true then A else B
def kTrn (g : TG) (tt : TT) (te : TE) (vs : List Nat) (σ : L2.St) (D : Addr) (Nx : Hp → Prop) (x : V) (H : Hp) : Prop := g x (wipe σ vs) H fun σ2 H2 => wipe σ2 vs = wipe σ vs ∧ tt σ2 H2 fun b H3 => kIf b (te σ2 H3 (rApp D Nx)) (Nx H3)
theorem w_trn {D : Addr} {Nx : Hp → Prop} {x : V} (h : g x (wipe σ vs) H fun σ2 H2 => wipe σ2 vs = wipe σ vs ∧ te σ2 H2 (rApp D Nx)) : kTrn g tYes te vs σ D Nx x H := h
end
end LW
namespace LW
open PySem PySem.Spec PyProof.Rows L2
theorem eraseIdx_mapL {α β : Type} (f : α → β) : ∀ (l : List α) (i : Nat), (l.map f).eraseIdx i = (l.eraseIdx i).map f
  | [], _ => rfl
  | _ :: _, 0 => rfl
  | a :: l, i + 1 => congrArg (f a :: ·) (eraseIdx_mapL f l i)
theorem eraseIdx_permL {α : Type} : ∀ {l : List α} {i : Nat} {v : α}, l[i]? = some v → (v :: l.eraseIdx i).Perm l
  | [], _, _, h => by simp at h
  | a :: l, 0, v, h => by
    have e : a = v := by simpa using h
    subst e
    exact .refl _
  | a :: l, i + 1, v, h => by
    have h : l[i]? = some v := by simpa using h
    exact (List.Perm.swap a v _).trans ((eraseIdx_permL h).cons a)
theorem nodup_part {α : Type} [BEq α] [LawfulBEq α] : ∀ {l m : List α}, l.Nodup → (∀ x ∈ l, x ∈ m) → ∃ r, m.Perm (l ++ r)
  | [], m, _, _ => ⟨m, .refl _⟩
  | a :: l, m, hn, hs => by
    obtain ⟨ha, hn⟩ := List.nodup_cons.mp hn
    have h1 : m.Perm (a :: m.erase a) := List.perm_cons_erase (hs a List.mem_cons_self)
    obtain ⟨r, hr⟩ := nodup_part (m := m.erase a) hn fun x hx => by
      have hm := hs x (List.mem_cons_of_mem _ hx)
      have hne : x ≠ a := fun e => ha (e ▸ hx)
      exact (List.mem_erase_of_ne hne).mpr hm
    exact ⟨r, h1.trans (hr.cons a)⟩
theorem perm_of {α : Type} [BEq α] [LawfulBEq α] {l m : List α} (hn : l.Nodup) (hs : ∀ x ∈ l, x ∈ m) (hl : m.length ≤ l.length) : l.Perm m := by
  obtain ⟨r, hr⟩ := nodup_part hn hs
  have e := hr.length_eq
  rw [List.length_append] at e
  have : r = [] := List.eq_nil_of_length_eq_zero (by omega)
  rw [this, List.append_nil] at hr
  exact hr.symm
theorem mem_rg {n : Nat} {x : Int} : x ∈ rg n ↔ 0 ≤ x ∧ x < n := by
  unfold rg
  rw [List.mem_map]
  refine ⟨fun ⟨i, hi, e⟩ => ?_, fun ⟨h0, h1⟩ => ⟨x.toNat, List.mem_range.mpr (by omega), by omega⟩⟩
  have := List.mem_range.mp hi
  omega
theorem length_rg (n : Nat) : (rg n).length = n := by unfold rg; rw [List.length_map, List.length_range]
theorem nodup_rg (n : Nat) : (rg n).Nodup := by
  unfold rg
  exact List.Pairwise.map _ (fun a b h e => h (by omega)) List.nodup_range
theorem sorted_rg (n : Nat) : (rg n).Pairwise (· ≤ ·) := by
  unfold rg
  refine List.Pairwise.map _ (fun a b h => ?_) (List.pairwise_lt_range (n := n))
  exact Int.ofNat_le.mpr (Nat.le_of_lt h)
theorem rg_get {n i : Nat} (h : i < n) : (rg n)[i]? = some (i : Int) := by
  unfold rg
  simp [h]
def IsNum (ps : List Int) : Prop := 1 ≤ ps.length ∧ ps.length ≤ 12 ∧ ps.Perm (rg ps.length)
section
variable {ps qs : List Int} {n : Nat}
theorem IsNum.of (h1 : 1 ≤ n) (h2 : n ≤ 12) (hl : ps.length = n) (hn : ps.Nodup) (hb : ∀ x ∈ ps, 0 ≤ x ∧ x < n) : IsNum ps := by
  subst hl
  exact ⟨h1, h2, perm_of hn (fun x hx => mem_rg.mpr (hb x hx)) (by rw [length_rg]; omega)⟩
theorem IsNum.nodup (h : IsNum ps) : ps.Nodup := h.2.2.symm.nodup (nodup_rg _)
theorem IsNum.mem (h : IsNum ps) {x : Int} : x ∈ ps ↔ 0 ≤ x ∧ x < ps.length := by rw [h.2.2.mem_iff]; exact mem_rg
theorem IsNum.get (h : IsNum ps) {i : Nat} {x : Int} (e : ps[i]? = some x) : 0 ≤ x ∧ x < ps.length := h.mem.mp (List.mem_of_getElem? e)
theorem sorted_iff {ns : List Int} (h : ns.Perm ps) (hs : ns.Pairwise (· ≤ ·)) : ns = rg ps.length ↔ ps.Perm (rg ps.length) := by
  refine ⟨fun e => e ▸ h.symm, fun p => ?_⟩
  exact List.Perm.eq_of_pairwise (le := (· ≤ ·)) (fun a b _ _ h1 h2 => Int.le_antisymm h1 h2) hs (sorted_rg _) (h.trans p)
end
def rSortedA (K : PySem.W.Frag) : List V → Hp → VK → Prop := fun vs H Q => ∃ (a : Addr) (ns : List Int), vs = [V.ref a] ∧ (SqL K H a (ns.map V.int) ∨ SqT K H a (ns.map V.int)) ∧ ns.length < 64 ∧
  ∀ (ns' : List Int) (p : Addr), ns'.Perm ns → ns'.Pairwise (· ≤ ·) → H p = none → Q (.ref p) (upd H p (.lst (ns'.map V.int)))
section
variable {prog : Program} {w : World} {A : Around} {s : Shared} {E : Value → Shared → Prop}
theorem sorted_any {a : Addr} {T : String} {o : Obj} {n : Nat} {vs : List Value} {ns : List Int} {Q : Value → Shared → Prop} (hT : T = "list" ∨ T = "tuple") (ho : s.heap.get? a = some o) (hc : o.cls = .type T) (hd : o.data = .seq vs.toArray n) (hI : IntsAre vs ns) (h64 : vs.length < 64)
    (h : ∀ (h' h2 : Heap) (out : Array Value) (e : Nat) (ns' : List Int), (∀ b o', s.heap.get? b = some o' → h'.get? b = some o') → (∀ b o', h'.get? b = some o' → h2.get? b = some o') → h2.get? h'.objs.size = some (seqObj "list" out e) → IntsAre out.toList ns' → ns'.Perm ns → ns'.Pairwise (· ≤ ·) → Q (.ref h'.objs.size) { s with heap := h2 }) :
    wpAny (model prog w) A (call (.builtin "sorted") [.ref a]) Q E s := by
  refine Calls.call_function_entry kind_sorted plain_sorted entry_sorted (args_sorted1 _) ?_
  unfold Builtin.«sorted»
  refine wpAny_bind (m := checkCount "sorted" 1 1 _) (wpAny_pure ?_)
  refine wpAny_bind (wpAny_collect_seq a hT ho hc hd (fun h' hk => ?_) (by show vs.length ≤ sizeLine; rw [sizeLine_eq]; omega))
  refine wpAny_bind (wpAny_newList ?_)
  have e1 : vs.toArray.toList = vs := by simp
  rw [e1]
  have hoL : (h'.push (seqObj "list" vs.toArray 0)).get? h'.objs.size = some (seqObj "list" vs.toArray 0) := Heap.get?_push_size _ rfl
  refine wpAny_bind (wpAny_holding (wpAny_call_entry slot_list_sort ⟨_, hoL, rfl⟩ entry_list_sort (list_sort_tree hoL hI h64 fun out ns' a1 a2 a3 => ⟨_, rfl, ?_⟩) (args_list_sort _)))
  obtain ⟨e, he⟩ := sortedHeap_at (vs := vs) (out := out) (n := 0) hoL
  refine wpAny_pure ⟨_, rfl, h h' _ out e ns' hk (fun b o' q => ?_) he a1 a2 a3⟩
  have lt := Heap.lt_size q
  rw [sortedHeap_old (Nat.ne_of_lt lt) (by show b < (h'.push _).objs.size; rw [size_push']; exact Nat.lt_succ_of_lt lt)]
  exact Heap.get?_push_of_some _ q
end
theorem cr_sortedA {X : Cx} : CallR X (.builtin "sorted") (rSortedA X.K) := by
  intro pins s σ H vs us Q I r h
  obtain ⟨a, ns, rfl, hs, h64, q⟩ := h
  obtain ⟨u, rfl, ru⟩ := r.one
  cases (show u = Value.ref a from ru)
  have fin : ∀ {T : String} {o : Obj} {n : Nat} {its : List Value}, (T = "list" ∨ T = "tuple") → s.heap.get? a = some o → o.cls = .type T → o.data = .seq its.toArray n → Vals (ns.map V.int) its → wpAny (model X.prog X.w) X.A (call (.builtin "sorted") [.ref a]) (EP X pins σ Q) X.xe s := fun {T o n its} hT ho hc hd rv => by
    have hi := rv.ints
    refine sorted_any hT ho hc hd hi (by rw [hi.length]; exact h64) fun h' h2 out e ns' hk hk2 he h1 h2' h3 => ?_
    have I1 : Inv X pins σ H { s with heap := h' } := I.kept (t' := s.toks) hk
    have hlen : (ns'.map V.int).length ≤ sizeLine := by rw [List.length_map, h2'.length_eq]; exact small (by omega)
    exact ⟨.ref _, upd H h'.objs.size (.lst (ns'.map V.int)), I1.laid (t' := s.toks) hk2 (Nat.le_refl _) ⟨hlen, out.toList, e, vals_of_ints h1, he⟩, rfl, q ns' _ h2' h3 (I1.hok.fresh (Nat.le_refl _))⟩
  rcases hs with hs | hs
  · obtain ⟨its, rv, hl, _⟩ := I.list hs
    obtain ⟨o, ho, hc, n, hd⟩ := hl.isList
    exact fin (.inl rfl) ho hc hd rv
  · obtain ⟨its, rv, ⟨o, ho, hc, n, hd⟩, _⟩ := I.tuple hs
    exact fin (.inr rfl) ho hc hd rv
theorem w_sorted {K : PySem.W.Frag} {H : Hp} {Q : VK} {a : Addr} {ns : List Int} (h : SqL K H a (ns.map V.int) ∨ SqT K H a (ns.map V.int)) (hl : ns.length < 64)
    (k : ∀ (ns' : List Int) p H', H p = none → Gr [] H H' → H' p = some (.lst (ns'.map V.int)) → ns'.Perm ns → ns'.Pairwise (· ≤ ·) → Q (.ref p) H') : rSortedA K [.ref a] H Q :=
  ⟨a, ns, rfl, h, hl, fun ns' p hp hs h0 => k ns' p _ h0 (Gr.new h0) upd_same hp hs⟩
def kTupX (x : V) (H : Hp) (P : Prop) : Prop := (∃ p ys, x = .ref p ∧ TupX H p ys) ∧ P
def tBMX (r : V → List V → Hp → VK → Prop) (to : TE) (t : TA) : TE := fun σ H Q => to σ H fun x H1 => kTupX x H1 (t σ H1 fun xs H2 => r x xs H2 Q)
theorem w_bmX {r : V → List V → Hp → VK → Prop} {to : TE} {t : TA} {σ : L2.St} {H : Hp} {Q : VK} (h : to σ H fun x H1 => kTupX x H1 (t σ H1 fun xs H2 => r x xs H2 Q)) : tBMX r to t σ H Q := h
theorem w_kTupX {p : Addr} {ys : List V} {H : Hp} {P : Prop} (h0 : TupX H p ys) (h : P) : kTupX (.ref p) H P := ⟨⟨p, ys, rfl, h0⟩, h⟩
abbrev NC (K : PySem.W.Frag) : Addr := He.ga K "Numbering"
structure NumC (K : PySem.W.Frag) : Prop where
  cls : Cls K (NC K)
  na : NoAttr K (NC K) "places"
def Num (K : PySem.W.Frag) (H : Hp) (a : Addr) (ps : List Int) : Prop := IsNum ps ∧ ∃ dx t, H a = some (.ins (NC K) dx [("places", .ref t)]) ∧ TupX H t (ps.map V.int)
section
variable {K : PySem.W.Frag} {H H' H1 : Hp} {Q : VK} {E : XK} {a x p : Addr} {ps ns : List Int} {S : List Addr}
theorem Num.gr (h : Num K H a ps) (g : Gr S H H') : Num K H' a ps := by
  obtain ⟨h0, dx, t, h1, h2⟩ := h
  exact ⟨h0, dx, t, g.get h1 rfl, h2.gr g⟩
theorem Num.ins (h : Num K H a ps) : ∃ dx fs, H a = some (.ins (NC K) dx fs) := by
  obtain ⟨_, dx, t, h1, _⟩ := h
  exact ⟨_, _, h1⟩
theorem w_places (c : NumC K) (h : Num K H a ps) (q : ∀ t, TupX H t (ps.map V.int) → Q (.ref t) H) : rFld K "places" (.ref a) H Q := by
  obtain ⟨_, dx, t, h1, h2⟩ := h
  exact w_rFld h1 c.cls c.na rfl (q t h2)
theorem Gr.made {dx C : Addr} (hx : H x = none) (hd : H dx = none) : Gr [] H (mkHp H x dx C) := ⟨fun b u e _ => by
    unfold mkHp
    rw [upd_ne (ne_of_none e hx), upd_ne (ne_of_none e hd)]
    exact e, fun _ m => by cases m⟩
def sp_Numbering___init__ (K : PySem.W.Frag) : Sp := fun vs H Q E => ∃ (x dx p : Addr) (ns : List Int), vs = [.ref x, .ref p] ∧ H x = some (.ins (NC K) dx []) ∧ (SqL K H p (ns.map V.int) ∨ TupX H p (ns.map V.int)) ∧
  ((¬ IsNum ns ∧ ∀ H', Gr [] H H' → E (.ref (He.ga K "BadNumbering")) none H') ∨ (IsNum ns ∧ ∀ t H', Gr [x] H H' → H' x = some (.ins (NC K) dx [("places", .ref t)]) → TupX H' t (ns.map V.int) → Q .non H'))
def atP (ps : List Int) (k : Int) : Int := ps.getD k.toNat 0
def sp_Numbering___len__ (K : PySem.W.Frag) : Sp := fun vs H Q _ => ∃ (a : Addr) (ps : List Int), vs = [.ref a] ∧ Num K H a ps ∧ Q (.int ps.length) H
theorem w_isiNum {b : Bool} {D : Addr} (hk : PySem.W.kitOne K (.ref (NC K)) (.ref D) = some b) (I : IsiC K (NC K)) (h : Num K H a ps) (q : Q (.bl b) H) : rIsi K [.ref a, .ref D] H Q := by
  obtain ⟨dx, fs, h1⟩ := h.ins
  exact w_isiO I h1 hk q
theorem w_numCal {sp : Sp} {t : TA} {σ : L2.St} {E : XK} (h : t σ H fun vs H2 => (∃ dx fs, H2 a = some (.ins (NC K) dx fs)) ∧ sp (V.ref a :: vs) H2 Q E) : rCalO (NC K) sp E t σ (.ref a) H Q := ⟨a, rfl, h⟩
theorem w_numLen {ps : List Int} (h : Num K H a ps) (q : Q (.int ps.length) H) : rLenO (NC K) (sp_Numbering___len__ K) [.ref a] H Q := by
  obtain ⟨dx, fs, h1⟩ := h.ins
  have := h.1.2.1
  exact ⟨a, dx, fs, rfl, h1, a, ps, rfl, h, ps.length, rfl, by omega, by omega, q⟩
end
end LW
namespace LW
open PySem PySem.Spec PyProof.Rows L2
section
variable {ps qs : List Int} {n m : Nat} {k : Int}
end
section
variable {K : PySem.W.Frag} {H : Hp} {Q : VK} {E : XK} {a : Addr} {ps : List Int}
end
end LW
namespace LW
open PySem PySem.Spec PyProof.Rows L2
abbrev ASet := Addr → Prop
def nop : ASet := fun _ => False
structure GrP (T : ASet) (H H' : Hp) : Prop where
  keep : ∀ a o, H a = some o → (pers o = true ∨ ¬ T a) → H' a = some o
  live : ∀ a, H' a = none → H a = none
section
variable {T T' U : ASet} {H H' H1 H2 : Hp} {a l p : Addr} {o : HO}
theorem GrP.refl (T : ASet) (H : Hp) : GrP T H H := ⟨fun _ _ h _ => h, fun _ h => h⟩
theorem GrP.mono (g : GrP U H H') (h : ∀ a, U a → T a) : GrP T H H' := ⟨fun a o e q => g.keep a o e (q.imp id fun n u => n (h a u)), g.live⟩
theorem GrP.trans (g : GrP T H H1) (g' : GrP T' H1 H2) (h : ∀ a, T' a → T a ∨ H a = none) : GrP T H H2 :=
  ⟨fun a o e q => g'.keep a o (g.keep a o e q) (q.imp id fun n t => (h a t).elim n fun z => by rw [e] at z; cases z), fun a e => g.live a (g'.live a e)⟩
theorem GrP.trans0 (g : GrP T H H1) (g' : GrP nop H1 H2) : GrP T H H2 := g.trans g' fun _ h => h.elim
theorem GrP.new (h : H p = none) : GrP nop H (upd H p o) := ⟨fun a u e _ => by rw [upd_ne (ne_of_none e h)]; exact e, fun a e => by
  by_cases z : a = p
  · rw [z, upd_same] at e; cases e
  · rw [upd_ne z] at e; exact e⟩
theorem GrP.wr (h : T p) (h2 : ∀ u, H p = some u → pers u = false) : GrP T H (upd H p o) := ⟨fun a u e q => by
  by_cases z : a = p
  · subst z
    rcases q with q | q
    · rw [h2 u e] at q; cases q
    · exact absurd h q
  · rw [upd_ne z]; exact e, fun a e => by
  by_cases z : a = p
  · rw [z, upd_same] at e; cases e
  · rw [upd_ne z] at e; exact e⟩
theorem Gr.p0 (g : Gr [] H H') : GrP nop H H' := ⟨fun a o e _ => g.get0 e, fun a e => by
  cases q : H a with
  | none => rfl
  | some u => rw [g.get0 q] at e; cases e⟩
theorem GrP.g0 (g : GrP nop H H') : Gr [] H H' := ⟨fun a o e _ => g.keep a o e (.inr fun h => h), fun a h => by cases h⟩
theorem Gr.p1 (g : Gr [l] H H') (e : ∃ o, H' l = some o) : GrP (fun a => a = l) H H' := ⟨fun a o e q => by
  rcases q with q | q
  · exact g.get e q
  · exact g.keep a o e (by simpa using q), fun a e' => by
  obtain ⟨o, e⟩ := e
  cases q : H a with
  | none => rfl
  | some u =>
    by_cases z : a = l
    · rw [z, e] at e'; cases e'
    · rw [g.keep a u q (by simpa using z)] at e'; cases e'⟩
end
def TupN (K : PySem.W.Frag) (H : Hp) (a : Addr) (xs : List V) : Prop := TupX H a xs
theorem TupN.sqt {K : PySem.W.Frag} {H : Hp} {a : Addr} {xs : List V} (h : TupN K H a xs) : SqT K H a xs := TupX.sqt h
theorem TupN.ext {K : PySem.W.Frag} {T : ASet} {H H' : Hp} {a : Addr} {xs : List V} (h : TupN K H a xs) (g : GrP T H H') : TupN K H' a xs := by
  obtain ⟨o, h, d⟩ := h
  exact ⟨o, g.keep _ _ h (.inl rfl), d⟩
mutual
inductive RepA (K : PySem.W.Frag) (H : Hp) (S : ASet) : D → V → Prop
  | non : RepA K H S .non .non
  | bl (b : Bool) : RepA K H S (.bl b) (.bl b)
  | int (i : Int) : RepA K H S (.int i) (.int i)
  | str (s : Str) : RepA K H S (.str s) (.str s)
  | adr (a : Addr) : RepA K H S (.adr a) (.ref a)
  | tup {a : Addr} {xs : List V} {ds : List D} : TupN K H a xs → RepsA K H S ds xs → RepA K H S (.tup ds) (.ref a)
  | lst {a : Addr} {xs : List V} {ds : List D} : H a = some (.lst xs) → ¬ S a → RepsA K H S ds xs → RepA K H S (.lst ds) (.ref a)
  | lsf {a : Addr} {o : Obj} {xs : List V} {ds : List D} : H a = some (.frz o (.lst xs)) → RepsA K H S ds xs → RepA K H S (.lst ds) (.ref a)
  | ins {a C dx : Addr} {ns : List Str} {xs : List V} {ds : List D} : H a = some (.ins C dx (ns.zip xs)) → imm ns = true → ns.length = ds.length → RepsA K H S ds xs → RepA K H S (.ins C ns ds) (.ref a)
inductive RepsA (K : PySem.W.Frag) (H : Hp) (S : ASet) : List D → List V → Prop
  | nil : RepsA K H S [] []
  | cons {d : D} {ds : List D} {v : V} {vs : List V} : RepA K H S d v → RepsA K H S ds vs → RepsA K H S (d :: ds) (v :: vs)
end
theorem RepsA.len {K : PySem.W.Frag} {H : Hp} {S : ASet} : ∀ {ds : List D} {vs : List V}, RepsA K H S ds vs → vs.length = ds.length
  | _, _, .nil => rfl
  | _, _, .cons _ r => congrArg Nat.succ (RepsA.len r)
theorem pers_ins {C dx : Addr} {ns : List Str} {xs : List V} (i : imm ns = true) (l : ns.length = xs.length) : pers (.ins C dx (ns.zip xs)) = true := by
  show imm ((ns.zip xs).map (·.1)) = true
  rw [List.map_fst_zip (by omega)]
  exact i
mutual
theorem RepA.ext {K : PySem.W.Frag} {T S S' : ASet} {H H' : Hp} (g : GrP T H H') (hT : ∀ a, T a → S a ∨ H a = none) (hS : ∀ a, S' a → S a ∨ H a = none) : ∀ {d : D} {v : V}, RepA K H S d v → RepA K H' S' d v
  | _, _, .non => .non
  | _, _, .bl b => .bl b
  | _, _, .int b => .int b
  | _, _, .str b => .str b
  | _, _, .adr b => .adr b
  | _, _, .tup h r => .tup (h.ext g) (RepsA.ext g hT hS r)
  | _, _, .lst h n r => .lst (g.keep _ _ h (.inr fun t => (hT _ t).elim n fun z => by rw [h] at z; cases z)) (fun s => (hS _ s).elim n fun z => by rw [h] at z; cases z) (RepsA.ext g hT hS r)
  | _, _, .lsf h r => .lsf (g.keep _ _ h (.inl rfl)) (RepsA.ext g hT hS r)
  | _, _, .ins h i l r => .ins (g.keep _ _ h (.inl (pers_ins i (by have := RepsA.len r; omega)))) i l (RepsA.ext g hT hS r)
theorem RepsA.ext {K : PySem.W.Frag} {T S S' : ASet} {H H' : Hp} (g : GrP T H H') (hT : ∀ a, T a → S a ∨ H a = none) (hS : ∀ a, S' a → S a ∨ H a = none) : ∀ {ds : List D} {vs : List V}, RepsA K H S ds vs → RepsA K H' S' ds vs
  | _, _, .nil => .nil
  | _, _, .cons h r => .cons (RepA.ext g hT hS h) (RepsA.ext g hT hS r)
end
theorem RepA.less {K : PySem.W.Frag} {S S' : ASet} {H : Hp} {d : D} {v : V} (h : RepA K H S d v) (hS : ∀ a, S' a → S a) : RepA K H S' d v := h.ext (GrP.refl nop H) (fun _ z => z.elim) fun a s => .inl (hS a s)
theorem RepsA.less {K : PySem.W.Frag} {S S' : ASet} {H : Hp} {ds : List D} {vs : List V} (h : RepsA K H S ds vs) (hS : ∀ a, S' a → S a) : RepsA K H S' ds vs := h.ext (GrP.refl nop H) (fun _ z => z.elim) fun a s => .inl (hS a s)
mutual
theorem RepA.any {K : PySem.W.Frag} {S S' : ASet} {H : Hp} : ∀ {d : D} {v : V}, RepA K H S d v → d.pure = true → RepA K H S' d v
  | _, _, .non, _ => .non
  | _, _, .bl b, _ => .bl b
  | _, _, .int b, _ => .int b
  | _, _, .str b, _ => .str b
  | _, _, .adr b, _ => .adr b
  | _, _, .tup h r, q => .tup h (RepsA.any r q)
  | _, _, .lst h n r, q => nomatch (show false = true from q)
  | _, _, .lsf h r, q => nomatch (show false = true from q)
  | _, _, .ins h i l r, q => .ins h i l (RepsA.any r q)
theorem RepsA.any {K : PySem.W.Frag} {S S' : ASet} {H : Hp} : ∀ {ds : List D} {vs : List V}, RepsA K H S ds vs → D.pures ds = true → RepsA K H S' ds vs
  | _, _, .nil, _ => .nil
  | _, _, .cons h r, q => by
    have q2 := Bool.and_eq_true_iff.mp q
    exact .cons (RepA.any h q2.1) (RepsA.any r q2.2)
end
mutual
theorem RepA.rep {K : PySem.W.Frag} {S : ASet} {H : Hp} : ∀ {d : D} {v : V}, RepA K H S d v → Rep K H d v
  | _, _, .non => .non
  | _, _, .bl b => .bl b
  | _, _, .int b => .int b
  | _, _, .str b => .str b
  | _, _, .adr b => .adr b
  | _, _, .tup h r => .tup h.sqt (RepsA.rep r)
  | _, _, .lst h _ r => .lst (sql_of h) (RepsA.rep r)
  | _, _, .lsf h r => .lst (sql_frz h) (RepsA.rep r)
  | _, _, .ins h i l r => .ins h i l (RepsA.rep r)
theorem RepsA.rep {K : PySem.W.Frag} {S : ASet} {H : Hp} : ∀ {ds : List D} {vs : List V}, RepsA K H S ds vs → Reps K H ds vs
  | _, _, .nil => .nil
  | _, _, .cons h r => .cons (RepA.rep h) (RepsA.rep r)
end
theorem RepsA.get {K : PySem.W.Frag} {S : ASet} {H : Hp} : ∀ {ds : List D} {vs : List V} {i : Nat} {d : D}, RepsA K H S ds vs → ds[i]? = some d → ∃ v, vs[i]? = some v ∧ RepA K H S d v
  | _, _, _, _, .nil, e => by simp at e
  | _, _, 0, _, .cons h _, e => by
    simp at e
    subst e
    exact ⟨_, rfl, h⟩
  | _, _, i + 1, _, .cons _ r, e => by
    obtain ⟨v, h1, h2⟩ := RepsA.get (i := i) r (by simpa using e)
    exact ⟨v, by simpa using h1, h2⟩
theorem RepsA.append {K : PySem.W.Frag} {S : ASet} {H : Hp} {es : List D} {ws : List V} (h' : RepsA K H S es ws) : ∀ {ds : List D} {vs : List V}, RepsA K H S ds vs → RepsA K H S (ds ++ es) (vs ++ ws)
  | _, _, .nil => h'
  | _, _, .cons h r => .cons h (RepsA.append h' r)
theorem RepsA.set {K : PySem.W.Frag} {S : ASet} {H : Hp} {d : D} {v : V} (h' : RepA K H S d v) : ∀ {ds : List D} {vs : List V} (i : Nat), RepsA K H S ds vs → RepsA K H S (ds.set i d) (vs.set i v)
  | _, _, _, .nil => .nil
  | _, _, 0, .cons _ r => .cons h' r
  | _, _, i + 1, .cons h r => .cons h (RepsA.set h' i r)
theorem RepsA.take {K : PySem.W.Frag} {S : ASet} {H : Hp} : ∀ {ds : List D} {vs : List V} (i : Nat), RepsA K H S ds vs → RepsA K H S (ds.take i) (vs.take i)
  | _, _, 0, _ => .nil
  | _, _, _ + 1, .nil => .nil
  | _, _, i + 1, .cons h r => .cons h (RepsA.take i r)
theorem RepsA.drop {K : PySem.W.Frag} {S : ASet} {H : Hp} : ∀ {ds : List D} {vs : List V} (i : Nat), RepsA K H S ds vs → RepsA K H S (ds.drop i) (vs.drop i)
  | _, _, 0, h => h
  | _, _, _ + 1, .nil => .nil
  | _, _, i + 1, .cons _ r => RepsA.drop i r
theorem RepsA.eraseIdx {K : PySem.W.Frag} {S : ASet} {H : Hp} : ∀ {ds : List D} {vs : List V} (i : Nat), RepsA K H S ds vs → RepsA K H S (ds.eraseIdx i) (vs.eraseIdx i)
  | _, _, _, .nil => .nil
  | _, _, 0, .cons _ r => r
  | _, _, i + 1, .cons h r => .cons h (RepsA.eraseIdx i r)
theorem RepsA.reverse {K : PySem.W.Frag} {S : ASet} {H : Hp} : ∀ {ds : List D} {vs : List V}, RepsA K H S ds vs → RepsA K H S ds.reverse vs.reverse
  | _, _, .nil => .nil
  | _, _, .cons h r => by
    rw [List.reverse_cons, List.reverse_cons]
    exact RepsA.append (.cons h .nil) (RepsA.reverse r)
theorem repsA_ints {K : PySem.W.Frag} {H : Hp} {S : ASet} : ∀ ns : List Int, RepsA K H S (dInts ns) (ns.map V.int)
  | [] => .nil
  | n :: ns => .cons (.int n) (repsA_ints ns)
theorem RepsA.ints {K : PySem.W.Frag} {H : Hp} {S : ASet} : ∀ {ns : List Int} {vs : List V}, RepsA K H S (dInts ns) vs → vs = ns.map V.int
  | [], _, .nil => rfl
  | _ :: _, _, .cons (.int _) r => congrArg _ (RepsA.ints r)
structure Exn where
  C : Addr
  f : Option (Str × D)
def XDict (K : PySem.W.Frag) (H : Hp) (x : Exn) (dd : Option Addr) : Prop := match x.f with
  | none => dd = none
  | some (f, d) => ∃ a v, dd = some a ∧ H a = some (.xd [(f, v)]) ∧ RepA K H (fun _ => True) d v
def XRep (K : PySem.W.Frag) (H : Hp) (x : Exn) (cls : Value) (dd : Option Addr) : Prop := cls = .ref x.C ∧ XDict K H x dd
theorem XDict.ext {K : PySem.W.Frag} {T : ASet} {H H' : Hp} {x : Exn} {dd : Option Addr} (h : XDict K H x dd) (g : GrP T H H') : XDict K H' x dd := by
  unfold XDict at h ⊢
  split at h
  · exact h
  · obtain ⟨a, v, e, h1, h2⟩ := h
    exact ⟨a, v, e, g.keep _ _ h1 (.inl rfl), h2.ext g (fun _ _ => .inl trivial) fun _ _ => .inl trivial⟩
inductive Sl
  | no | va (d : D) | ow (l : Addr) (ds : List D) | ex (a : Addr) (dd : Option Addr) (x : Exn)
def owns : List Sl → List Addr
  | [] => []
  | .ow l _ :: r => l :: owns r
  | .no :: r => owns r
  | .va _ :: r => owns r
  | .ex _ _ _ :: r => owns r
inductive SlsR (K : PySem.W.Frag) (H : Hp) (S : ASet) : List Sl → L2.St → Prop
  | nil : SlsR K H S [] []
  | no {ρ : List Sl} {σ : L2.St} {o : Option V} : SlsR K H S ρ σ → SlsR K H S (.no :: ρ) (o :: σ)
  | va {ρ : List Sl} {σ : L2.St} {d : D} {v : V} : RepA K H S d v → SlsR K H S ρ σ → SlsR K H S (.va d :: ρ) (some v :: σ)
  | ex {ρ : List Sl} {σ : L2.St} {a : Addr} {dd : Option Addr} {x : Exn} : XDict K H x dd → SlsR K H S ρ σ → SlsR K H S (.ex a dd x :: ρ) (some (.ref a) :: σ)
  | ow {ρ : List Sl} {σ : L2.St} {l : Addr} {ds : List D} {xs : List V} : H l = some (.lst xs) → RepsA K H S ds xs → SlsR K H S ρ σ → SlsR K H S (.ow l ds :: ρ) (some (.ref l) :: σ)
section
variable {K : PySem.W.Frag} {H H' : Hp} {S S' T : ASet} {ρ : List Sl} {σ : L2.St} {d : D} {v : V} {l : Addr} {ds : List D} {xs : List V}
theorem SlsR.len : ∀ {ρ : List Sl} {σ : L2.St}, SlsR K H S ρ σ → ρ.length = σ.length
  | _, _, .nil => rfl
  | _, _, .no r => congrArg Nat.succ r.len
  | _, _, .va _ r => congrArg Nat.succ r.len
  | _, _, .ex _ r => congrArg Nat.succ r.len
  | _, _, .ow _ _ r => congrArg Nat.succ r.len
theorem SlsR.get_va : ∀ {ρ : List Sl} {σ : L2.St} {i : Nat}, SlsR K H S ρ σ → ρ[i]? = some (.va d) → ∃ v, σ[i]? = some (some v) ∧ RepA K H S d v
  | _, _, _, .nil, e => by simp at e
  | _, _, 0, .no r, e => by simp at e
  | _, _, 0, .va h r, e => by
    simp at e
    subst e
    exact ⟨_, rfl, h⟩
  | _, _, 0, .ow h _ r, e => by simp at e
  | _, _, i + 1, .no r, e => SlsR.get_va (i := i) r (by simpa using e)
  | _, _, i + 1, .va _ r, e => SlsR.get_va (i := i) r (by simpa using e)
  | _, _, 0, .ex _ r, e => by simp at e
  | _, _, i + 1, .ex _ r, e => SlsR.get_va (i := i) r (by simpa using e)
  | _, _, i + 1, .ow _ _ r, e => SlsR.get_va (i := i) r (by simpa using e)
theorem SlsR.get_ow : ∀ {ρ : List Sl} {σ : L2.St} {i : Nat}, SlsR K H S ρ σ → ρ[i]? = some (.ow l ds) → σ[i]? = some (some (.ref l)) ∧ ∃ xs, H l = some (.lst xs) ∧ RepsA K H S ds xs
  | _, _, _, .nil, e => by simp at e
  | _, _, 0, .no r, e => by simp at e
  | _, _, 0, .va h r, e => by simp at e
  | _, _, 0, .ow h h2 r, e => by
    simp at e
    obtain ⟨e1, e2⟩ := e
    subst e1 e2
    exact ⟨rfl, _, h, h2⟩
  | _, _, i + 1, .no r, e => SlsR.get_ow (i := i) r (by simpa using e)
  | _, _, i + 1, .va _ r, e => SlsR.get_ow (i := i) r (by simpa using e)
  | _, _, 0, .ex _ r, e => by simp at e
  | _, _, i + 1, .ex _ r, e => SlsR.get_ow (i := i) r (by simpa using e)
  | _, _, i + 1, .ow _ _ r, e => SlsR.get_ow (i := i) r (by simpa using e)
theorem SlsR.set_va (h : RepA K H S d v) : ∀ {ρ : List Sl} {σ : L2.St} (i : Nat), SlsR K H S ρ σ → SlsR K H S (ρ.set i (.va d)) (σ.set i (some v))
  | _, _, _, .nil => .nil
  | _, _, 0, .no r => .va h r
  | _, _, 0, .va _ r => .va h r
  | _, _, 0, .ow _ _ r => .va h r
  | _, _, i + 1, .no r => .no (r.set_va h i)
  | _, _, i + 1, .va q r => .va q (r.set_va h i)
  | _, _, 0, .ex _ r => .va h r
  | _, _, i + 1, .ex q r => .ex q (r.set_va h i)
  | _, _, i + 1, .ow q q2 r => .ow q q2 (r.set_va h i)
theorem SlsR.set_no (o : Option V) : ∀ {ρ : List Sl} {σ : L2.St} (i : Nat), SlsR K H S ρ σ → SlsR K H S (ρ.set i .no) (σ.set i o)
  | _, _, _, .nil => .nil
  | _, _, 0, .no r => .no r
  | _, _, 0, .va _ r => .no r
  | _, _, 0, .ow _ _ r => .no r
  | _, _, i + 1, .no r => .no (r.set_no o i)
  | _, _, i + 1, .va q r => .va q (r.set_no o i)
  | _, _, 0, .ex _ r => .no r
  | _, _, i + 1, .ex q r => .ex q (r.set_no o i)
  | _, _, i + 1, .ow q q2 r => .ow q q2 (r.set_no o i)
theorem SlsR.set_ex {x : Exn} {dd : Option Addr} {a : Addr} (h : XDict K H x dd) : ∀ {ρ : List Sl} {σ : L2.St} (i : Nat), SlsR K H S ρ σ → SlsR K H S (ρ.set i (.ex a dd x)) (σ.set i (some (.ref a)))
  | _, _, _, .nil => .nil
  | _, _, 0, .no r => .ex h r
  | _, _, 0, .va _ r => .ex h r
  | _, _, 0, .ex _ r => .ex h r
  | _, _, 0, .ow _ _ r => .ex h r
  | _, _, i + 1, .no r => .no (r.set_ex h i)
  | _, _, i + 1, .va q r => .va q (r.set_ex h i)
  | _, _, i + 1, .ex q r => .ex q (r.set_ex h i)
  | _, _, i + 1, .ow q q2 r => .ow q q2 (r.set_ex h i)
theorem SlsR.get_ex {x : Exn} {dd : Option Addr} {a : Addr} : ∀ {ρ : List Sl} {σ : L2.St} {i : Nat}, SlsR K H S ρ σ → ρ[i]? = some (.ex a dd x) → σ[i]? = some (some (.ref a)) ∧ XDict K H x dd
  | _, _, _, .nil, e => by simp at e
  | _, _, 0, .no r, e => by simp at e
  | _, _, 0, .va h r, e => by simp at e
  | _, _, 0, .ow h _ r, e => by simp at e
  | _, _, 0, .ex h r, e => by
    simp at e
    obtain ⟨e1, e2, e3⟩ := e
    subst e1 e2 e3
    exact ⟨rfl, h⟩
  | _, _, i + 1, .no r, e => SlsR.get_ex (i := i) r (by simpa using e)
  | _, _, i + 1, .va _ r, e => SlsR.get_ex (i := i) r (by simpa using e)
  | _, _, i + 1, .ow _ _ r, e => SlsR.get_ex (i := i) r (by simpa using e)
  | _, _, i + 1, .ex _ r, e => SlsR.get_ex (i := i) r (by simpa using e)
theorem SlsR.set_ow (h : H l = some (.lst xs)) (h2 : RepsA K H S ds xs) : ∀ {ρ : List Sl} {σ : L2.St} (i : Nat), SlsR K H S ρ σ → SlsR K H S (ρ.set i (.ow l ds)) (σ.set i (some (.ref l)))
  | _, _, _, .nil => .nil
  | _, _, 0, .no r => .ow h h2 r
  | _, _, 0, .va _ r => .ow h h2 r
  | _, _, 0, .ow _ _ r => .ow h h2 r
  | _, _, i + 1, .no r => .no (r.set_ow h h2 i)
  | _, _, i + 1, .va q r => .va q (r.set_ow h h2 i)
  | _, _, 0, .ex _ r => .ow h h2 r
  | _, _, i + 1, .ex q r => .ex q (r.set_ow h h2 i)
  | _, _, i + 1, .ow q q2 r => .ow q q2 (r.set_ow h h2 i)
theorem SlsR.ext (g : GrP T H H') (hT : ∀ a, T a → S a ∨ H a = none) (hS : ∀ a, S' a → S a ∨ H a = none) : ∀ {ρ : List Sl} {σ : L2.St}, (∀ l, l ∈ owns ρ → ¬ T l) → SlsR K H S ρ σ → SlsR K H' S' ρ σ
  | _, _, _, .nil => .nil
  | _, _, ho, .no r => .no (r.ext g hT hS ho)
  | _, _, ho, .va q r => .va (q.ext g hT hS) (r.ext g hT hS ho)
  | _, _, ho, .ex q r => .ex (q.ext g) (r.ext g hT hS ho)
  | _, _, ho, .ow q q2 r => .ow (g.keep _ _ q (.inr (ho _ List.mem_cons_self))) (q2.ext g hT hS) (r.ext g hT hS fun l hl => ho l (List.mem_cons_of_mem _ hl))
theorem owns_mem : ∀ {ρ : List Sl} {i : Nat} {ds : List D}, ρ[i]? = some (Sl.ow l ds) → l ∈ owns ρ
  | [], _, _, e => by simp at e
  | .ow _ _ :: _, 0, _, e => by
    simp at e
    rw [← e.1]
    exact List.mem_cons_self
  | .no :: _, 0, _, e => by simp at e
  | .va _ :: _, 0, _, e => by simp at e
  | .ow _ _ :: r, i + 1, _, e => List.mem_cons_of_mem _ (owns_mem (ρ := r) (i := i) (by simpa using e))
  | .no :: r, i + 1, _, e => owns_mem (ρ := r) (i := i) (by simpa using e)
  | .va _ :: r, i + 1, _, e => owns_mem (ρ := r) (i := i) (by simpa using e)
  | .ex _ _ _ :: _, 0, _, e => by simp at e
  | .ex _ _ _ :: r, i + 1, _, e => owns_mem (ρ := r) (i := i) (by simpa using e)
theorem SlsR.wr (h2 : RepsA K H S ds xs) (hS : S l) {i : Nat} {ds0 : List D} (r : SlsR K H S ρ σ) (e : ρ[i]? = some (.ow l ds0)) (n : (owns ρ).Nodup) : SlsR K (upd H l (.lst xs)) S (ρ.set i (.ow l ds)) σ := by
  obtain ⟨-, xs0, e0, -⟩ := r.get_ow e
  have g : GrP (fun a => a = l) H (upd H l (.lst xs)) := GrP.wr rfl fun u hu => by rw [e0] at hu; cases hu; rfl
  have hT : ∀ a, a = l → S a ∨ H a = none := fun a z => by rw [z]; exact .inl hS
  have hS' : ∀ a, S a → S a ∨ H a = none := fun a z => .inl z
  clear e0
  induction r generalizing i with
  | nil => simp at e
  | no r ih =>
    cases i with
    | zero => simp at e
    | succ i => exact .no (ih (by simpa using e) n)
  | va q r ih =>
    cases i with
    | zero => simp at e
    | succ i => exact .va (q.ext g hT hS') (ih (by simpa using e) n)
  | ex q r ih =>
    cases i with
    | zero => simp at e
    | succ i => exact .ex (q.ext g) (ih (by simpa using e) n)
  | ow q q2 r ih =>
    obtain ⟨n1, n2⟩ := List.nodup_cons.mp n
    cases i with
    | zero =>
      simp at e
      obtain ⟨e1, e2⟩ := e
      subst e1
      exact .ow upd_same (h2.ext g hT hS') (r.ext g hT hS' fun b hb z => n1 (z ▸ hb))
    | succ i =>
      have m : l ∈ owns _ := owns_mem (ds := ds0) (i := i) (by simpa using e)
      refine .ow ?_ (q2.ext g hT hS') (ih (by simpa using e) n2)
      rw [upd_ne (fun z => n1 (by rw [z]; exact m))]
      exact q
theorem owns_at : ∀ {ρ : List Sl} {l : Addr}, l ∈ owns ρ → ∃ (i : Nat) (ds : List D), ρ[i]? = some (Sl.ow l ds)
  | [], _, h => by cases h
  | .ow k ds :: r, l, h => by
    rcases List.mem_cons.mp h with z | z
    · exact ⟨0, ds, by rw [z]; rfl⟩
    · obtain ⟨i, ds, e⟩ := owns_at (ρ := r) z
      exact ⟨i + 1, ds, by simpa using e⟩
  | .no :: r, l, h => by
    obtain ⟨i, ds, e⟩ := owns_at (ρ := r) h
    exact ⟨i + 1, ds, by simpa using e⟩
  | .va _ :: r, l, h => by
    obtain ⟨i, ds, e⟩ := owns_at (ρ := r) h
    exact ⟨i + 1, ds, by simpa using e⟩
  | .ex _ _ _ :: r, l, h => by
    obtain ⟨i, ds, e⟩ := owns_at (ρ := r) h
    exact ⟨i + 1, ds, by simpa using e⟩
def Sl.plain : Sl → Bool
  | .ow _ _ => false
  | _ => true
theorem owns_set_sub {s : Sl} (hs : s.plain = true) : ∀ {ρ : List Sl} (i : Nat), (owns (ρ.set i s)).Sublist (owns ρ)
  | [], _ => List.Sublist.refl _
  | .ow k ds :: r, 0 => by
    cases s with
    | ow a b => cases hs
    | no => show (owns r).Sublist (k :: owns r); exact List.sublist_cons_self _ _
    | va d => show (owns r).Sublist (k :: owns r); exact List.sublist_cons_self _ _
    | ex a dd x => show (owns r).Sublist (k :: owns r); exact List.sublist_cons_self _ _
  | .no :: r, 0 => by
    cases s with
    | ow a b => cases hs
    | no => show (owns r).Sublist (owns r); exact List.Sublist.refl _
    | va d => show (owns r).Sublist (owns r); exact List.Sublist.refl _
    | ex a dd x => show (owns r).Sublist (owns r); exact List.Sublist.refl _
  | .va _ :: r, 0 => by
    cases s with
    | ow a b => cases hs
    | no => show (owns r).Sublist (owns r); exact List.Sublist.refl _
    | va d => show (owns r).Sublist (owns r); exact List.Sublist.refl _
    | ex a dd x => show (owns r).Sublist (owns r); exact List.Sublist.refl _
  | .ex _ _ _ :: r, 0 => by
    cases s with
    | ow a b => cases hs
    | no => show (owns r).Sublist (owns r); exact List.Sublist.refl _
    | va d => show (owns r).Sublist (owns r); exact List.Sublist.refl _
    | ex a dd x => show (owns r).Sublist (owns r); exact List.Sublist.refl _
  | .ow k ds :: r, i + 1 => (owns_set_sub hs (ρ := r) i).cons₂ k
  | .no :: r, i + 1 => owns_set_sub hs (ρ := r) i
  | .va _ :: r, i + 1 => owns_set_sub hs (ρ := r) i
  | .ex _ _ _ :: r, i + 1 => owns_set_sub hs (ρ := r) i
theorem owns_set_same {ds' : List D} : ∀ {ρ : List Sl} {i : Nat} {ds : List D}, ρ[i]? = some (Sl.ow l ds) → owns (ρ.set i (.ow l ds')) = owns ρ
  | [], _, _, e => by simp at e
  | .ow k ds :: r, 0, _, e => by
    simp at e
    rw [e.1] <;> rfl
  | .no :: r, 0, _, e => by simp at e
  | .va _ :: r, 0, _, e => by simp at e
  | .ow k ds :: r, i + 1, _, e => congrArg (k :: ·) (owns_set_same (ρ := r) (i := i) (by simpa using e))
  | .no :: r, i + 1, _, e => owns_set_same (ρ := r) (i := i) (by simpa using e)
  | .va _ :: r, i + 1, _, e => owns_set_same (ρ := r) (i := i) (by simpa using e)
  | .ex _ _ _ :: r, 0, _, e => by simp at e
  | .ex _ _ _ :: r, i + 1, _, e => owns_set_same (ρ := r) (i := i) (by simpa using e)
theorem owns_set_mem {ds : List D} : ∀ {ρ : List Sl} {i : Nat} {k : Addr}, k ∈ owns (ρ.set i (.ow l ds)) → k = l ∨ k ∈ owns ρ
  | [], _, _, h => by cases h
  | .ow a _ :: r, 0, k, h => (List.mem_cons.mp h).imp id fun z => List.mem_cons_of_mem _ z
  | .no :: r, 0, k, h => List.mem_cons.mp h
  | .va _ :: r, 0, k, h => List.mem_cons.mp h
  | .ex _ _ _ :: r, 0, k, h => List.mem_cons.mp h
  | .ow a _ :: r, i + 1, k, h => by
    rcases List.mem_cons.mp h with z | z
    · exact .inr (z ▸ List.mem_cons_self)
    · exact (owns_set_mem (ρ := r) (i := i) z).imp id fun z => List.mem_cons_of_mem _ z
  | .no :: r, i + 1, k, h => owns_set_mem (ρ := r) (i := i) h
  | .va _ :: r, i + 1, k, h => owns_set_mem (ρ := r) (i := i) h
  | .ex _ _ _ :: r, i + 1, k, h => owns_set_mem (ρ := r) (i := i) h
theorem owns_set_nodup {ds : List D} : ∀ {ρ : List Sl} {i : Nat}, (owns ρ).Nodup → l ∉ owns ρ → (owns (ρ.set i (.ow l ds))).Nodup
  | [], _, n, _ => n
  | .ow a _ :: r, 0, n, m => List.nodup_cons.mpr ⟨fun h => m (List.mem_cons_of_mem _ h), (List.nodup_cons.mp n).2⟩
  | .no :: r, 0, n, m => List.nodup_cons.mpr ⟨m, n⟩
  | .va _ :: r, 0, n, m => List.nodup_cons.mpr ⟨m, n⟩
  | .ex _ _ _ :: r, 0, n, m => List.nodup_cons.mpr ⟨m, n⟩
  | .ow a _ :: r, i + 1, n, m => by
    refine List.nodup_cons.mpr ⟨fun h => ?_, owns_set_nodup (ρ := r) (i := i) (List.nodup_cons.mp n).2 fun h => m (List.mem_cons_of_mem _ h)⟩
    rcases owns_set_mem (ρ := r) (i := i) h with z | z
    · exact m (z ▸ List.mem_cons_self)
    · exact (List.nodup_cons.mp n).1 z
  | .no :: r, i + 1, n, m => owns_set_nodup (ρ := r) (i := i) n m
  | .va _ :: r, i + 1, n, m => owns_set_nodup (ρ := r) (i := i) n m
  | .ex _ _ _ :: r, i + 1, n, m => owns_set_nodup (ρ := r) (i := i) n m
end
structure Wrl where
  Ω : Type
  inv : Ω → ASet → Hp → Prop
  st : ∀ {ω : Ω} {T U : ASet} {H H' : Hp}, inv ω T H → GrP U H H' → (∀ a, U a → ¬ T a) → inv ω T H'
  lv : ∀ {ω : Ω} {T : ASet} {H : Hp} {a : Addr}, inv ω T H → T a → ∃ o, H a = some o ∧ pers o = false
@[reducible] def W0 : Wrl where
  Ω := Unit
  inv _ T _ := ∀ a, ¬ T a
  st h _ _ := h
  lv h t := absurd t (h _)
structure Frm where
  H : Hp
  S : ASet
  T : ASet
  hid : List (D × V)
def Frm.add (F : Frm) (h : List (D × V)) : Frm := { F with hid := h ++ F.hid }
def Spr (F : Frm) (T : ASet) (ρ : List Sl) : ASet := fun a => F.S a ∨ T a ∨ a ∈ owns ρ
structure Rel (K : PySem.W.Frag) (W : Wrl) (F : Frm) (T : ASet) (ω : W.Ω) (ρ : List Sl) (σ : L2.St) (H : Hp) : Prop where
  gr : GrP F.T F.H H
  inv : W.inv ω T H
  tn : ∀ a, T a → F.T a ∨ F.H a = none
  own : ∀ l, l ∈ owns ρ → F.H l = none ∧ ¬ T l ∧ ¬ F.S l
  nd : (owns ρ).Nodup
  s0 : ∀ a, F.S a → H a ≠ none ∧ ¬ T a
  hd : ∀ p, p ∈ F.hid → RepA K H (Spr F T ρ) p.1 p.2
  sl : SlsR K H (Spr F T ρ) ρ σ
structure Ext (T : ASet) (H : Hp) (T' : ASet) (H' : Hp) : Prop where
  gr : GrP T H H'
  tn : ∀ a, T' a → T a ∨ H a = none
section
variable {K : PySem.W.Frag} {W : Wrl} {F : Frm} {T T' T2 U : ASet} {ω ω' : W.Ω} {ρ ρ' : List Sl} {σ σ' : L2.St} {H H' H2 : Hp} {d : D} {v : V} {l : Addr} {ds : List D} {xs : List V} {i : Nat}
theorem Ext.refl : Ext T H T H := ⟨GrP.refl T H, fun _ h => .inl h⟩
theorem Ext.trans (e : Ext T H T' H') (e2 : Ext T' H' T2 H2) : Ext T H T2 H2 := ⟨e.gr.trans e2.gr e.tn, fun a h => (e2.tn a h).elim (e.tn a) fun z => .inr (e.gr.live a z)⟩
theorem Ext.of0 (g : GrP nop H H') : Ext T H T H' := ⟨g.mono fun _ h => h.elim, fun _ h => .inl h⟩
theorem Rel.spl (R : Rel K W F T ω ρ σ H) : ∀ a, Spr F T ρ a → H a ≠ none := fun a h e => by
  rcases h with h | h | h
  · exact (R.s0 a h).1 e
  · obtain ⟨o, q, _⟩ := W.lv R.inv h
    rw [q] at e; cases e
  · obtain ⟨i, ds, q⟩ := owns_at h
    obtain ⟨_, xs, q, _⟩ := R.sl.get_ow q
    rw [q] at e; cases e
theorem Rel.fresh (R : Rel K W F T ω ρ σ H) (h : H l = none) : ¬ Spr F T ρ l := fun s => R.spl l s h
theorem Spr.ext (e : Ext T H T' H') : ∀ a, Spr F T' ρ a → Spr F T ρ a ∨ H a = none := fun a s => by
  rcases s with s | s | s
  · exact .inl (.inl s)
  · exact (e.tn a s).imp (fun z => .inr (.inl z)) id
  · exact .inl (.inr (.inr s))
theorem Rel.ext_rep (R : Rel K W F T ω ρ σ H) (e : Ext T H T' H') (h : RepA K H (Spr F T ρ) d v) : RepA K H' (Spr F T' ρ) d v := h.ext e.gr (fun a t => .inl (.inr (.inl t))) (Spr.ext e)
theorem Rel.ext_reps (R : Rel K W F T ω ρ σ H) (e : Ext T H T' H') (h : RepsA K H (Spr F T ρ) ds xs) : RepsA K H' (Spr F T' ρ) ds xs := h.ext e.gr (fun a t => .inl (.inr (.inl t))) (Spr.ext e)
theorem Rel.world (R : Rel K W F T ω ρ σ H) (e : Ext T H T' H') (i : W.inv ω' T' H') : Rel K W F T' ω' ρ σ H' where
  gr := R.gr.trans e.gr R.tn
  inv := i
  tn := fun a h => (e.tn a h).elim (R.tn a) fun z => .inr (R.gr.live a z)
  own := fun l h => ⟨(R.own l h).1, fun t => (e.tn l t).elim (R.own l h).2.1 fun z => R.spl l (.inr (.inr h)) z, (R.own l h).2.2⟩
  nd := R.nd
  s0 := fun a s => ⟨fun z => (R.s0 a s).1 (e.gr.live a z), fun t => (e.tn a t).elim (R.s0 a s).2 (R.s0 a s).1⟩
  hd := fun p hp => R.ext_rep e (R.hd p hp)
  sl := R.sl.ext e.gr (fun a t => .inl (.inr (.inl t))) (Spr.ext e) fun l h => (R.own l h).2.1
theorem Rel.grow (R : Rel K W F T ω ρ σ H) (g : GrP nop H H') : Rel K W F T ω ρ σ H' := R.world (Ext.of0 g) (W.st R.inv g fun _ h => h.elim)
theorem Spr.less (hs : (owns ρ').Sublist (owns ρ)) : ∀ a, Spr F T ρ' a → Spr F T ρ a := fun a s => by
  rcases s with s | s | s
  · exact .inl s
  · exact .inr (.inl s)
  · exact .inr (.inr (hs.subset s))
theorem Rel.less (R : Rel K W F T ω ρ σ H) (hs : (owns ρ').Sublist (owns ρ)) (s : SlsR K H (Spr F T ρ') ρ' σ') : Rel K W F T ω ρ' σ' H :=
  ⟨R.gr, R.inv, R.tn, fun l h => R.own l (hs.subset h), R.nd.sublist hs, R.s0, fun p hp => (R.hd p hp).less (Spr.less hs), s⟩
theorem SlsR.less {S S' : ASet} (h : SlsR K H S ρ σ) (hS : ∀ a, S' a → S a) : SlsR K H S' ρ σ := h.ext (GrP.refl nop H) (fun _ z => z.elim) (fun a s => .inl (hS a s)) fun _ _ z => z
theorem Rel.set_va (R : Rel K W F T ω ρ σ H) (h : RepA K H (Spr F T ρ) d v) (i : Nat) : Rel K W F T ω (ρ.set i (.va d)) (σ.set i (some v)) H :=
  R.less (owns_set_sub rfl i) ((R.sl.set_va h i).less (Spr.less (owns_set_sub rfl i)))
theorem Rel.set_no (R : Rel K W F T ω ρ σ H) (o : Option V) (i : Nat) : Rel K W F T ω (ρ.set i .no) (σ.set i o) H :=
  R.less (owns_set_sub rfl i) ((R.sl.set_no o i).less (Spr.less (owns_set_sub rfl i)))
theorem Rel.set_ex (R : Rel K W F T ω ρ σ H) {x : Exn} {dd : Option Addr} {a : Addr} (h : XDict K H x dd) (i : Nat) : Rel K W F T ω (ρ.set i (.ex a dd x)) (σ.set i (some (.ref a))) H :=
  R.less (owns_set_sub rfl i) ((R.sl.set_ex h i).less (Spr.less (owns_set_sub rfl i)))
theorem Rel.drop {h : List (D × V)} (R : Rel K W (F.add h) T ω ρ σ H) : Rel K W F T ω ρ σ H :=
  ⟨R.gr, R.inv, R.tn, R.own, R.nd, R.s0, fun p hp => R.hd p (List.mem_append_right _ hp), R.sl⟩
theorem Rel.put {h : List (D × V)} (R : Rel K W F T ω ρ σ H) (hh : ∀ p, p ∈ h → RepA K H (Spr F T ρ) p.1 p.2) : Rel K W (F.add h) T ω ρ σ H :=
  ⟨R.gr, R.inv, R.tn, R.own, R.nd, R.s0, fun p hp => (List.mem_append.mp hp).elim (hh p) (R.hd p), R.sl⟩
theorem Rel.kept {h : List (D × V)} (R : Rel K W (F.add h) T ω ρ σ H) {p : D × V} (hp : p ∈ h) : RepA K H (Spr F T ρ) p.1 p.2 := R.hd p (List.mem_append_left _ hp)
theorem Rel.set_ow {T0 : ASet} {ω0 : W.Ω} {H0 : Hp} (R0 : Rel K W F T0 ω0 ρ σ H0) (R : Rel K W F T ω ρ σ H) (e : Ext T0 H0 T H) (h0 : H0 l = none) (hs : ¬ Spr F T ρ l) (h : H l = some (.lst xs)) (hr : RepsA K H (fun a => Spr F T ρ a ∨ a = l) ds xs) (i : Nat) : Rel K W F T ω (ρ.set i (.ow l ds)) (σ.set i (some (.ref l))) H := by
  have sub : ∀ a, Spr F T (ρ.set i (.ow l ds)) a → Spr F T ρ a ∨ a = l := fun a s => by
    rcases s with s | s | s
    · exact .inl (.inl s)
    · exact .inl (.inr (.inl s))
    · exact (owns_set_mem s).elim .inr fun z => .inl (.inr (.inr z))
  have ee : ∀ a, (Spr F T ρ a ∨ a = l) → Spr F T0 ρ a ∨ H0 a = none := fun a z => z.elim (Spr.ext e a) fun z => by rw [z]; exact .inr h0
  have sl' : SlsR K H (fun a => Spr F T ρ a ∨ a = l) ρ σ := R0.sl.ext e.gr (fun a t => .inl (.inr (.inl t))) ee fun l h => (R0.own l h).2.1
  refine ⟨R.gr, R.inv, R.tn, fun k hk => ?_, owns_set_nodup R.nd fun z => hs (.inr (.inr z)), R.s0, fun p hp => ?_, (sl'.set_ow h hr i).less sub⟩
  · rcases owns_set_mem hk with z | z
    · rw [z]
      exact ⟨R0.gr.live l h0, fun t => hs (.inr (.inl t)), fun t => hs (.inl t)⟩
    · exact R.own k z
  · exact ((R0.hd p hp).ext e.gr (fun a t => .inl (.inr (.inl t))) ee).less sub
theorem Rel.wr (R : Rel K W F T ω ρ σ H) {ds0 : List D} (e : ρ[i]? = some (.ow l ds0)) (hr : RepsA K H (Spr F T ρ) ds xs) : Rel K W F T ω (ρ.set i (.ow l ds)) σ (upd H l (.lst xs)) := by
  obtain ⟨-, xs0, e0, -⟩ := R.sl.get_ow e
  have m := owns_mem e
  have g : GrP (fun a => a = l) H (upd H l (.lst xs)) := GrP.wr rfl fun u hu => by rw [e0] at hu; cases hu; rfl
  have es : owns (ρ.set i (.ow l ds)) = owns ρ := owns_set_same e
  have eS : Spr F T (ρ.set i (.ow l ds)) = Spr F T ρ := by unfold Spr; rw [es]
  refine ⟨R.gr.trans g fun a z => ?_, W.st R.inv g fun a z => ?_, R.tn, fun k hk => R.own k (es ▸ hk), by rw [es]; exact R.nd, fun a s => ⟨fun z => (R.s0 a s).1 (g.live a z), (R.s0 a s).2⟩, fun p hp => ?_, ?_⟩
  · rw [z]; exact .inr (R.own l m).1
  · rw [z]; exact (R.own l m).2.1
  · rw [eS]
    exact (R.hd p hp).ext g (fun a z => by rw [z]; exact .inl (.inr (.inr m))) fun a z => .inl z
  · rw [eS]
    exact R.sl.wr hr (.inr (.inr m)) e R.nd
theorem Rel.wrS (R : Rel K W F T ω ρ σ H) {o : HO} (hl : F.S l) (h0 : F.H l = none) (hm : ∀ u, H l = some u → pers u = false) : Rel K W F T ω ρ σ (upd H l o) := by
  have g : GrP (fun a => a = l) H (upd H l o) := GrP.wr rfl hm
  refine ⟨R.gr.trans g fun a z => ?_, W.st R.inv g fun a z => ?_, R.tn, R.own, R.nd, fun a s => ⟨fun z => (R.s0 a s).1 (g.live a z), (R.s0 a s).2⟩, fun p hp => ?_, ?_⟩
  · rw [z]; exact .inr h0
  · rw [z]; exact (R.s0 l hl).2
  · exact (R.hd p hp).ext g (fun a z => by rw [z]; exact .inl (.inl hl)) fun a z => .inl z
  · exact R.sl.ext g (fun a z => by rw [z]; exact .inl (.inl hl)) (fun a z => .inl z) fun k hk z => (R.own k hk).2.2 (z ▸ hl)
def frz (ρ : List Sl) (i : Nat) : List Sl := match ρ[i]? with
  | some (.ow _ ds) => ρ.set i (.va (.lst ds))
  | _ => ρ
theorem Rel.frz (R : Rel K W F T ω ρ σ H) (i : Nat) : Rel K W F T ω (frz ρ i) σ H := by
  unfold LW.frz
  split
  · rename_i l ds e
    obtain ⟨hv, xs, h1, r⟩ := R.sl.get_ow e
    have m := owns_mem e
    have key : ∀ {ρ : List Sl} {σ : L2.St} {i : Nat} {S : ASet}, SlsR K H S ρ σ → ρ[i]? = some (.ow l ds) → ¬ Spr F T (ρ.set i (.va (.lst ds))) l → True := fun _ _ _ => trivial
    have hσ : σ.set i (some (.ref l)) = σ := by
      refine List.ext_getElem? fun j => ?_
      rw [List.getElem?_set]
      split
      · rename_i z
        subst z
        rw [hv]
        split
        · rfl
        · rename_i z
          rw [List.getElem?_eq_none (by omega)] at hv
          cases hv
      · rfl
    have sub := owns_set_sub (s := .va (.lst ds)) rfl (ρ := ρ) i
    have nl : l ∉ owns (ρ.set i (.va (.lst ds))) := own_out e R.nd
    have nS : ¬ Spr F T (ρ.set i (.va (.lst ds))) l := fun z => by
      rcases z with z | z | z
      · exact (R.own l m).2.2 z
      · exact (R.own l m).2.1 z
      · exact nl z
    have s1 : SlsR K H (Spr F T (ρ.set i (.va (.lst ds)))) ρ σ := R.sl.less (Spr.less sub)
    have s2 := s1.set_va (d := .lst ds) (v := .ref l) (.lst h1 nS (r.less (Spr.less sub))) i
    rw [hσ] at s2
    exact R.less sub s2
  · exact R
where
  own_out : ∀ {ρ : List Sl} {i : Nat} {l : Addr} {ds : List D}, ρ[i]? = some (Sl.ow l ds) → (owns ρ).Nodup → l ∉ owns (ρ.set i (.va (.lst ds)))
  | [], _, _, _, e, _ => by simp at e
  | .ow k es :: r, 0, _, _, e, n => by
    simp at e
    rw [← e.1]
    exact (List.nodup_cons.mp n).1
  | .no :: r, 0, _, _, e, n => by simp at e
  | .va _ :: r, 0, _, _, e, n => by simp at e
  | .ex _ _ _ :: r, 0, _, _, e, n => by simp at e
  | .ow k es :: r, i + 1, l, ds, e, n => fun h => by
    have e' : r[i]? = some (Sl.ow l ds) := by simpa using e
    rcases List.mem_cons.mp h with z | z
    · exact (List.nodup_cons.mp n).1 (z ▸ owns_mem e')
    · exact own_out e' (List.nodup_cons.mp n).2 z
  | .no :: r, i + 1, l, ds, e, n => own_out (ρ := r) (i := i) (by simpa using e) n
  | .va _ :: r, i + 1, l, ds, e, n => own_out (ρ := r) (i := i) (by simpa using e) n
  | .ex _ _ _ :: r, i + 1, l, ds, e, n => own_out (ρ := r) (i := i) (by simpa using e) n
end
inductive Md
  | A | O | C | F
def RO (K : PySem.W.Frag) (H : Hp) (S : ASet) (os : List Addr) (d : D) (v : V) : Prop := RepA K H S d v ∨ ∃ l xs ds, v = .ref l ∧ d = .lst ds ∧ l ∈ os ∧ H l = some (.lst xs) ∧ RepsA K H S ds xs
def RC (K : PySem.W.Frag) (H : Hp) (S : ASet) (os : List Addr) (d : D) (v : V) : Prop := RO K H S os d v ∨ ∃ a xs ds, v = .ref a ∧ d = .tup ds ∧ SqT K H a xs ∧ RepsA K H S ds xs
def RF (K : PySem.W.Frag) (H H' : Hp) (S : ASet) (d : D) (v : V) : Prop := ∃ l xs ds, v = .ref l ∧ d = .lst ds ∧ H l = none ∧ ¬ S l ∧ H' l = some (.lst xs) ∧ RepsA K H' (fun a => S a ∨ a = l) ds xs
def RR (m : Md) (K : PySem.W.Frag) (H H' : Hp) (S : ASet) (os : List Addr) (d : D) (v : V) : Prop := match m with
  | .A => RepA K H' S d v
  | .O => RO K H' S os d v
  | .C => RC K H' S os d v
  | .F => RF K H H' S d v
section
variable {K : PySem.W.Frag} {W : Wrl} {F : Frm} {T T' T2 U S S' : ASet} {ω ω' : W.Ω} {ρ ρ' : List Sl} {σ σ' : L2.St} {H H' H2 : Hp} {d : D} {v : V} {l : Addr} {ds : List D} {xs : List V} {i : Nat} {os : List Addr}
theorem Rel.ext_RO (R : Rel K W F T ω ρ σ H) (e : Ext T H T' H') (h : RO K H (Spr F T ρ) (owns ρ) d v) : RO K H' (Spr F T' ρ) (owns ρ) d v := by
  rcases h with h | ⟨l, xs, ds, rfl, rfl, m, h, hr⟩
  · exact .inl (R.ext_rep e h)
  · exact .inr ⟨l, xs, ds, rfl, rfl, m, e.gr.keep _ _ h (.inr (R.own l m).2.1), R.ext_reps e hr⟩
theorem sqt_ext {a : Addr} (h : SqT K H a xs) (g : GrP T H H') : SqT K H' a xs := by
  rcases h with (h | ⟨o, h⟩) | h
  · exact .inl (.inl (g.keep _ _ h (.inl rfl)))
  · exact .inl (.inr ⟨o, g.keep _ _ h (.inl rfl)⟩)
  · exact .inr h
theorem Rel.ext_RC (R : Rel K W F T ω ρ σ H) (e : Ext T H T' H') (h : RC K H (Spr F T ρ) (owns ρ) d v) : RC K H' (Spr F T' ρ) (owns ρ) d v := by
  rcases h with h | ⟨a, xs, ds, rfl, rfl, h, hr⟩
  · exact .inl (R.ext_RO e h)
  · exact .inr ⟨a, xs, ds, rfl, rfl, sqt_ext h e.gr, R.ext_reps e hr⟩
theorem RF.a (h : RF K H H' S d v) : RepA K H' S d v := by
  obtain ⟨l, xs, ds, rfl, rfl, _, n, h, r⟩ := h
  exact .lst h n (r.less fun _ z => .inl z)
theorem RO.lst (h : RO K H S os (.lst ds) v) : ∃ l xs, v = .ref l ∧ SqL K H l xs ∧ RepsA K H S ds xs ∧ (H l = some (.lst xs) ∨ ∃ o, H l = some (.frz o (.lst xs))) := by
  rcases h with h | ⟨l, xs, ds', rfl, e, m, h, r⟩
  · cases h with
    | lst h n r => exact ⟨_, _, rfl, sql_of h, r, .inl h⟩
    | lsf h r => exact ⟨_, _, rfl, sql_frz h, r, .inr ⟨_, h⟩⟩
  · cases e
    exact ⟨l, xs, rfl, sql_of h, r, .inl h⟩
theorem RO.tup (h : RO K H S os (.tup ds) v) : ∃ l xs, v = .ref l ∧ TupN K H l xs ∧ RepsA K H S ds xs := by
  rcases h with h | ⟨l, xs, ds', rfl, e, m, h, r⟩
  · cases h with
    | tup h r => exact ⟨_, _, rfl, h, r⟩
  · cases e
theorem RC.tup (h : RC K H S os (.tup ds) v) : ∃ l xs, v = .ref l ∧ SqT K H l xs ∧ RepsA K H S ds xs := by
  rcases h with h | ⟨a, xs, ds', rfl, e, h, r⟩
  · obtain ⟨l, xs, e, h, r⟩ := h.tup
    exact ⟨l, xs, e, h.sqt, r⟩
  · cases e
    exact ⟨a, xs, rfl, h, r⟩
theorem RC.lst (h : RC K H S os (.lst ds) v) : ∃ l xs, v = .ref l ∧ SqL K H l xs ∧ RepsA K H S ds xs ∧ (H l = some (.lst xs) ∨ ∃ o, H l = some (.frz o (.lst xs))) := by
  rcases h with h | ⟨a, xs, ds', rfl, e, h, r⟩
  · exact h.lst
  · cases e
theorem RC.int {n : Int} (h : RC K H S os (.int n) v) : v = .int n := by
  rcases h with (h | ⟨l, xs, ds', rfl, e, m, h, r⟩) | ⟨a, xs, ds', rfl, e, h, r⟩
  · cases h; rfl
  · cases e
  · cases e
theorem RC.bl {n : Bool} (h : RC K H S os (.bl n) v) : v = .bl n := by
  rcases h with (h | ⟨l, xs, ds', rfl, e, m, h, r⟩) | ⟨a, xs, ds', rfl, e, h, r⟩
  · cases h; rfl
  · cases e
  · cases e
theorem RC.str {n : Str} (h : RC K H S os (.str n) v) : v = .str n := by
  rcases h with (h | ⟨l, xs, ds', rfl, e, m, h, r⟩) | ⟨a, xs, ds', rfl, e, h, r⟩
  · cases h; rfl
  · cases e
  · cases e
theorem RC.non (h : RC K H S os .non v) : v = .non := by
  rcases h with (h | ⟨l, xs, ds', rfl, e, m, h, r⟩) | ⟨a, xs, ds', rfl, e, h, r⟩
  · cases h; rfl
  · cases e
  · cases e
theorem RC.rep (h : RC K H S os d v) : Rep K H d v := by
  rcases h with (h | ⟨l, xs, ds', rfl, rfl, m, h, r⟩) | ⟨a, xs, ds', rfl, rfl, h, r⟩
  · exact h.rep
  · exact .lst (sql_of h) r.rep
  · exact .tup h r.rep
theorem RC.isNon (h : RC K H S os d v) : v = .non ↔ d = .non := by
  rcases h with (h | ⟨l, xs, ds', rfl, rfl, m, h, r⟩) | ⟨a, xs, ds', rfl, rfl, h, r⟩
  · cases h <;> simp
  · simp
  · simp
theorem RC.ins {C : Addr} {ns : List Str} (h : RC K H S os (.ins C ns ds) v) : ∃ a dx xs, v = .ref a ∧ H a = some (.ins C dx (ns.zip xs)) ∧ ns.length = ds.length ∧ RepsA K H S ds xs := by
  rcases h with (h | ⟨l, xs, ds', rfl, e, m, h, r⟩) | ⟨a, xs, ds', rfl, e, h, r⟩
  · cases h with
    | ins h i l r => exact ⟨_, _, _, rfl, h, l, r⟩
  · cases e
  · cases e
end
abbrev QT (W : Wrl) := W.Ω → List Sl → (W.Ω → D → Prop) → (W.Ω → Exn → Prop) → Prop
abbrev QTT (W : Wrl) := W.Ω → List Sl → (W.Ω → Bool → Prop) → (W.Ω → Exn → Prop) → Prop
abbrev QTA (W : Wrl) := W.Ω → List Sl → (W.Ω → List D → Prop) → (W.Ω → Exn → Prop) → Prop
def XOk (K : PySem.W.Frag) (W : Wrl) (Wo : WX) (F : Frm) (ρ : List Sl) (σ : L2.St) (Ep : W.Ω → Exn → Prop) : Prop :=
  ∀ T ω x cls dd H, Rel K W F T ω ρ σ H → XRep K H x cls dd → Ep ω x → Wo cls dd σ H
def lfE (m : Md) (K : PySem.W.Frag) (W : Wrl) (Wo : WX) (q : QT W) : TE := fun σ H Q => ∃ (F : Frm) (T : ASet) (ω : W.Ω) (ρ : List Sl) (Qp : W.Ω → D → Prop) (Ep : W.Ω → Exn → Prop), Rel K W F T ω ρ σ H ∧ q ω ρ Qp Ep ∧ XOk K W Wo F ρ σ Ep ∧
  ∀ T' ω' d v H', Rel K W F T' ω' ρ σ H' → Ext T H T' H' → RR m K H H' (Spr F T' ρ) (owns ρ) d v → Qp ω' d → Q v H'
def lfT (K : PySem.W.Frag) (W : Wrl) (Wo : WX) (q : QTT W) : TT := fun σ H Q => ∃ (F : Frm) (T : ASet) (ω : W.Ω) (ρ : List Sl) (Qp : W.Ω → Bool → Prop) (Ep : W.Ω → Exn → Prop), Rel K W F T ω ρ σ H ∧ q ω ρ Qp Ep ∧ XOk K W Wo F ρ σ Ep ∧
  ∀ T' ω' b H', Rel K W F T' ω' ρ σ H' → Ext T H T' H' → Qp ω' b → Q b H'
inductive ROs (m : Md) (K : PySem.W.Frag) (H : Hp) (S : ASet) (os : List Addr) : List D → List V → Prop
  | nil : ROs m K H S os [] []
  | cons {d : D} {ds : List D} {v : V} {vs : List V} : RR m K H H S os d v → ROs m K H S os ds vs → ROs m K H S os (d :: ds) (v :: vs)
def lfA (m : Md) (K : PySem.W.Frag) (W : Wrl) (Wo : WX) (q : QTA W) : TA := fun σ H Q => ∃ (F : Frm) (T : ASet) (ω : W.Ω) (ρ : List Sl) (Qp : W.Ω → List D → Prop) (Ep : W.Ω → Exn → Prop), Rel K W F T ω ρ σ H ∧ q ω ρ Qp Ep ∧ XOk K W Wo F ρ σ Ep ∧
  ∀ T' ω' ds vs H', Rel K W F T' ω' ρ σ H' → Ext T H T' H' → ROs m K H' (Spr F T' ρ) (owns ρ) ds vs → Qp ω' ds → Q vs H'
def QE (X : Cx) (m : Md) (W : Wrl) (Wo : WX) (e : Expr) (q : QT W) : Prop := PE X e (lfE m X.K W Wo q)
def QB (X : Cx) (W : Wrl) (Wo : WX) (e : Expr) (q : QTT W) : Prop := PT X e (lfT X.K W Wo q)
def QA (X : Cx) (m : Md) (W : Wrl) (Wo : WX) (es : List Expr) (q : QTA W) : Prop := PA X es (lfA m X.K W Wo q)
structure PEn (W : Wrl) where
  nx : W.Ω → List Sl → Prop
  rt : W.Ω → D → Prop
  bk : W.Ω → List Sl → Prop := fun _ _ => False
  ct : W.Ω → List Sl → Prop := fun _ _ => False
  ex : W.Ω → Exn → List Sl → Prop := fun _ _ _ => False
abbrev QTS (W : Wrl) := PEn W → W.Ω → List Sl → Prop
def RT (mr : Md) (K : PySem.W.Frag) (F : Frm) (T : ASet) (H : Hp) (d : D) (v : V) : Prop := match mr with
  | .F => RF K F.H H (fun a => F.S a ∨ T a) d v
  | _ => RepA K H (fun a => F.S a ∨ T a) d v
structure Sim (mr : Md) (K : PySem.W.Frag) (W : Wrl) (Wo : WX) (F : Frm) (P : PEn W) (D : Ends) : Prop where
  nx : ∀ T ω ρ σ H, Rel K W F T ω ρ σ H → P.nx ω ρ → D.nx σ H
  bk : ∀ T ω ρ σ H, Rel K W F T ω ρ σ H → P.bk ω ρ → D.bk σ H
  ct : ∀ T ω ρ σ H, Rel K W F T ω ρ σ H → P.ct ω ρ → D.ct σ H
  rt : ∀ T ω ρ σ H d v, Rel K W F T ω ρ σ H → RT mr K F T H d v → P.rt ω d → D.rt v H
  ex : ∀ T ω ρ σ H x cls dd, Rel K W F T ω ρ σ H → XRep K H x cls dd → P.ex ω x ρ → Wo cls dd σ H
def lfS (mr : Md) (K : PySem.W.Frag) (W : Wrl) (Wo : WX) (q : QTS W) : TS := fun D σ H => ∃ (F : Frm) (T : ASet) (ω : W.Ω) (ρ : List Sl) (P : PEn W), Rel K W F T ω ρ σ H ∧ q P ω ρ ∧ Sim mr K W Wo F P D
def QS (X : Cx) (mr : Md) (W : Wrl) (Wo : WX) (st : Stmt) (q : QTS W) : Prop := PS X st (lfS mr X.K W Wo q)
def QSs (X : Cx) (mr : Md) (W : Wrl) (Wo : WX) (st : List Stmt) (q : QTS W) : Prop := PSs X st (lfS mr X.K W Wo q)
theorem PE.imp {X : Cx} {e : Expr} {t t' : TE} (h : PE X e t) (k : ∀ σ H Q, t' σ H Q → t σ H Q) : PE X e t' := ⟨fun pins s σ H Q I q => h.run pins s σ H Q I (k σ H Q q)⟩
theorem PT.imp {X : Cx} {e : Expr} {t t' : TT} (h : PT X e t) (k : ∀ σ H Q, t' σ H Q → t σ H Q) : PT X e t' := ⟨fun pins s σ H Q I q => h.run pins s σ H Q I (k σ H Q q)⟩
theorem PW.imp {X : Cx} {e : Expr} {t t' : TT} (h : PW X e t) (k : ∀ σ H Q, t' σ H Q → t σ H Q) : PW X e t' := ⟨fun wh pins s σ H Q I q => h.run wh pins s σ H Q I (k σ H Q q)⟩
theorem PA.imp {X : Cx} {e : List Expr} {t t' : TA} (h : PA X e t) (k : ∀ σ H Q, t' σ H Q → t σ H Q) : PA X e t' := ⟨fun p pins s σ H Q I q => h.run p pins s σ H Q I (k σ H Q q)⟩
theorem PS.imp {X : Cx} {e : Stmt} {t t' : TS} (h : PS X e t) (k : ∀ D σ H, t' D σ H → t D σ H) : PS X e t' := ⟨fun pins s σ H D I q => h.run pins s σ H D I (k D σ H q)⟩
theorem PSs.imp {X : Cx} {e : List Stmt} {t t' : TS} (h : PSs X e t) (k : ∀ D σ H, t' D σ H → t D σ H) : PSs X e t' := ⟨fun pins s σ H D I q => h.run pins s σ H D I (k D σ H q)⟩
end LW
namespace LW
open PySem PySem.Spec PyProof.Rows L2
section
variable {K : PySem.W.Frag} {W : Wrl} {Wo : WX} {F : Frm} {T T' T2 U S S' : ASet} {ω ω' : W.Ω} {ρ ρ' : List Sl} {σ σ' : L2.St} {H H' H2 : Hp} {d : D} {v : V} {l : Addr} {ds : List D} {xs : List V} {i : Nat} {os : List Addr} {m m1 m2 m3 : Md}
theorem RR.c : ∀ {m : Md}, RR m K H H' S os d v → RC K H' S os d v
  | .A, h => .inl (.inl h)
  | .O, h => .inl h
  | .C, h => h
  | .F, h => .inl (.inl (RF.a h))
def Md.st : Md → Bool
  | .A => true
  | .F => true
  | _ => false
theorem RR.a : ∀ {m : Md}, m.st = true → RR m K H H' S os d v → RepA K H' S d v
  | .A, _, h => h
  | .F, _, h => RF.a h
def Md.ow : Md → Bool
  | .C => false
  | _ => true
theorem RR.o : ∀ {m : Md}, m.ow = true → RR m K H H' S os d v → RO K H' S os d v
  | .A, _, h => .inl h
  | .O, _, h => h
  | .F, _, h => .inl (RF.a h)
def Md.le (m m' : Md) : Bool := match m' with
  | .A => m.st
  | .O => m.ow
  | .C => true
  | .F => match m with
    | .F => true
    | _ => false
theorem RR.up : ∀ {m m' : Md}, m.le m' = true → RR m K H H' S os d v → RR m' K H H' S os d v
  | _, .A, q, h => h.a q
  | _, .O, q, h => h.o q
  | _, .C, _, h => h.c
  | .F, .F, _, h => h
  | .A, .F, q, h => nomatch q
  | .O, .F, q, h => nomatch q
  | .C, .F, q, h => nomatch q
theorem RR.at : ∀ {m : Md}, m ≠ .F → RR m K H H' S os d v → RR m K H' H' S os d v
  | .A, _, h => h
  | .O, _, h => h
  | .C, _, h => h
  | .F, n, h => absurd rfl n
theorem RR.back (g : ∀ a, H' a = none → H a = none) : ∀ {m : Md}, RR m K H' H2 S os d v → RR m K H H2 S os d v
  | .A, h => h
  | .O, h => h
  | .C, h => h
  | .F, ⟨l, xs, ds, h1, h2, h3, h4, h5, h6⟩ => ⟨l, xs, ds, h1, h2, g l h3, h4, h5, h6⟩
def Md.sta : Md → Bool
  | .F => false
  | _ => true
theorem Rel.ext_RR (R : Rel K W F T ω ρ σ H) (e : Ext T H T' H') : ∀ {m : Md}, m.sta = true → RR m K H H (Spr F T ρ) (owns ρ) d v → RR m K H' H' (Spr F T' ρ) (owns ρ) d v
  | .A, _, h => R.ext_rep e h
  | .O, _, h => R.ext_RO e h
  | .C, _, h => R.ext_RC e h
theorem ROs.reps : ∀ {ds : List D} {vs : List V}, ROs .A K H S os ds vs → RepsA K H S ds vs
  | _, _, .nil => .nil
  | _, _, .cons h r => .cons h r.reps
theorem ROs.one (h : ROs m K H S os [d] xs) : ∃ v, xs = [v] ∧ RR m K H H S os d v := by
  cases h with
  | cons h r => cases r; exact ⟨_, rfl, h⟩
theorem ROs.off (hS : ∀ a, S' a → S a) (ho : ∀ l, l ∈ os → ¬ S' l) : ∀ {ds : List D} {vs : List V}, ROs .O K H S os ds vs → RepsA K H S' ds vs
  | _, _, .nil => .nil
  | _, _, .cons h r => .cons (by
    rcases h with h | ⟨l, xs, ds, rfl, rfl, m, h, q⟩
    · exact h.less hS
    · exact .lst h (ho l m) (q.less hS)) (r.off hS ho)
end
section
variable {X : Cx} {W : Wrl} {Wo : WX} {m m1 m2 m3 : Md} {e a b c : Expr} {es : List Expr} {i : Nat} {pos : Pos} {q qa qb qc : QT W} {qs : QTA W} {qt : QTT W}
def slD : Option Sl → Option D
  | some (.va d) => some d
  | some (.ow _ ds) => some (.lst ds)
  | _ => none
def qV (i : Nat) : QT W := fun ω ρ Q _ => ∃ d, slD ρ[i]? = some d ∧ Q ω d
def qVa (i : Nat) : QT W := fun ω ρ Q _ => ∃ d, ρ[i]? = some (.va d) ∧ Q ω d
theorem qe_v (h : PE X e (tVar i)) : QE X .O W Wo e (qV i) := PE.imp h fun σ H Q ⟨F, T, ω, ρ, Qp, Ep, R, ⟨d, hd, q⟩, hx, k⟩ => by
  cases e : ρ[i]? with
  | none => rw [e] at hd; cases hd
  | some s =>
    rw [e] at hd
    cases s with
    | no => cases hd
    | ex a dd x => cases hd
    | va d' =>
      cases hd
      obtain ⟨v, hv, r⟩ := R.sl.get_va e
      exact ⟨v, hv, k T ω _ v H R .refl (.inl r) q⟩
    | ow l ds =>
      cases hd
      obtain ⟨hv, xs, h1, r⟩ := R.sl.get_ow e
      exact ⟨_, hv, k T ω _ _ H R .refl (.inr ⟨l, xs, ds, rfl, rfl, owns_mem e, h1, r⟩) q⟩
theorem qe_va (h : PE X e (tVar i)) : QE X .A W Wo e (qVa i) := PE.imp h fun σ H Q ⟨F, T, ω, ρ, Qp, Ep, R, ⟨d, hd, q⟩, hx, k⟩ => by
  obtain ⟨v, hv, r⟩ := R.sl.get_va hd
  exact ⟨v, hv, k T ω _ v H R .refl r q⟩
def qC (d : D) : QT W := fun ω _ Q _ => Q ω d
theorem qe_c {d : D} {v : V} (h : PE X e (tC v)) (r : ∀ H S, RepA X.K H S d v) : QE X .A W Wo e (qC d) := PE.imp h fun σ H Q ⟨F, T, ω, ρ, Qp, Ep, R, q, hx, k⟩ => k T ω d v H R .refl (r _ _) q
theorem qe_int {n : Int} {j} : QE X .A W Wo (.Constant (.int n) j pos) (qC (.int n)) := qe_c pe_int fun _ _ => .int n
theorem qe_bl {n : Bool} {j} : QE X .A W Wo (.Constant (.bool n) j pos) (qC (.bl n)) := qe_c pe_bl fun _ _ => .bl n
theorem qe_non {j} : QE X .A W Wo (.Constant .none j pos) (qC .non) := qe_c pe_non fun _ _ => .non
def OpP (m : Md) (K : PySem.W.Frag) (r : R2) (f : D → D → (D → Prop) → Prop) : Prop := ∀ (S : ASet) (os : List Addr) (H : Hp) (d e : D) (v w : V) (Q : VK) (Qp : D → Prop), (∀ a, S a → H a ≠ none) → RC K H S os d v → RC K H S os e w → f d e Qp →
  (∀ x u H', GrP nop H H' → RR m K H H' S os x u → Qp x → Q u H') → r v w H Q
def UnP (m : Md) (K : PySem.W.Frag) (r : V → Hp → VK → Prop) (f : D → (D → Prop) → Prop) : Prop := ∀ (S : ASet) (os : List Addr) (H : Hp) (d : D) (v : V) (Q : VK) (Qp : D → Prop), (∀ a, S a → H a ≠ none) → RC K H S os d v → f d Qp →
  (∀ x u H', GrP nop H H' → RR m K H H' S os x u → Qp x → Q u H') → r v H Q
def CaP (ma m : Md) (K : PySem.W.Frag) (r : List V → Hp → VK → Prop) (f : List D → (D → Prop) → Prop) : Prop := ∀ (S : ASet) (os : List Addr) (H : Hp) (ds : List D) (vs : List V) (Q : VK) (Qp : D → Prop), (∀ a, S a → H a ≠ none) → ROs ma K H S os ds vs → f ds Qp →
  (∀ x u H', GrP nop H H' → RR m K H H' S os x u → Qp x → Q u H') → r vs H Q
def qOp (f : D → D → (D → Prop) → Prop) (qa qb : QT W) : QT W := fun ω ρ Q E => qa ω ρ (fun ω1 x => qb ω1 ρ (fun ω2 y => f x y (Q ω2)) E) E
def qUn (f : D → (D → Prop) → Prop) (qa : QT W) : QT W := fun ω ρ Q E => qa ω ρ (fun ω1 x => f x (Q ω1)) E
def qCa (f : List D → (D → Prop) → Prop) (qs : QTA W) : QT W := fun ω ρ Q E => qs ω ρ (fun ω1 xs => f xs (Q ω1)) E
theorem lf_op {K : PySem.W.Frag} {r : R2} {f : D → D → (D → Prop) → Prop} (hp : OpP m K r f) (σ : L2.St) (H : Hp) (Q : VK) (h : lfE m K W Wo (qOp f qa qb) σ H Q) : tOp r (lfE m1 K W Wo qa) (lfE m2 K W Wo qb) σ H Q := by
  obtain ⟨F, T, ω, ρ, Qp, Ep, R, q, hx, k⟩ := h
  refine ⟨F, T, ω, ρ, _, Ep, R, q, hx, fun T1 ω1 d v H1 R1 e1 r1 q1 => ?_⟩
  refine ⟨F, T1, ω1, ρ, _, Ep, R1, q1, hx, fun T2 ω2 e w H2 R2 e2 r2 q2 => ?_⟩
  refine hp _ _ H2 d e v w Q _ R2.spl (R1.ext_RC e2 r1.c) r2.c q2 fun x u H' g rr qq => ?_
  exact k T2 ω2 x u H' (R2.grow g) ((e1.trans e2).trans (Ext.of0 g)) (rr.back fun a z => e1.gr.live a (e2.gr.live a z)) qq
theorem lf_un {K : PySem.W.Frag} {r : V → Hp → VK → Prop} {f : D → (D → Prop) → Prop} (hp : UnP m K r f) (σ : L2.St) (H : Hp) (Q : VK) (h : lfE m K W Wo (qUn f qa) σ H Q) : tUn r (lfE m1 K W Wo qa) σ H Q := by
  obtain ⟨F, T, ω, ρ, Qp, Ep, R, q, hx, k⟩ := h
  refine ⟨F, T, ω, ρ, _, Ep, R, q, hx, fun T1 ω1 d v H1 R1 e1 r1 q1 => ?_⟩
  refine hp _ _ H1 d v Q _ R1.spl r1.c q1 fun x u H' g rr qq => ?_
  exact k T1 ω1 x u H' (R1.grow g) (e1.trans (Ext.of0 g)) (rr.back fun a z => e1.gr.live a z) qq
theorem lf_ca {K : PySem.W.Frag} {ma : Md} {r : List V → Hp → VK → Prop} {f : List D → (D → Prop) → Prop} (hp : CaP ma m K r f) (σ : L2.St) (H : Hp) (Q : VK) (h : lfE m K W Wo (qCa f qs) σ H Q) : tCB r (lfA ma K W Wo qs) σ H Q := by
  obtain ⟨F, T, ω, ρ, Qp, Ep, R, q, hx, k⟩ := h
  refine ⟨F, T, ω, ρ, _, Ep, R, q, hx, fun T1 ω1 ds vs H1 R1 e1 r1 q1 => ?_⟩
  refine hp _ _ H1 ds vs Q _ R1.spl r1 q1 fun x u H' g rr qq => ?_
  exact k T1 ω1 x u H' (R1.grow g) (e1.trans (Ext.of0 g)) (rr.back fun a z => e1.gr.live a z) qq
theorem qe_op {op : Operator} {r : R2} {f : D → D → (D → Prop) → Prop} (ho : OpR X (binaryOp op) r) (hp : OpP m X.K r f) (ha : QE X m1 W Wo a qa) (hb : QE X m2 W Wo b qb) : QE X m W Wo (.BinOp a op b pos) (qOp f qa qb) := PE.imp (pe_op ho ha hb) (lf_op hp)
theorem qe_un {op : UnaryOp} {r : V → Hp → VK → Prop} {f : D → (D → Prop) → Prop} (ho : UnR X (unaryOp op) r) (hp : UnP m X.K r f) (ha : QE X m1 W Wo a qa) : QE X m W Wo (.UnaryOp op a pos) (qUn f qa) := PE.imp (pe_un ho ha) (lf_un hp)
theorem qe_cmp {op : CmpOp} {r : R2} {f : D → D → (D → Prop) → Prop} (ho : OpR X (compareOp op) r) (hp : OpP m X.K r f) (ha : QE X m1 W Wo a qa) (hb : QE X m2 W Wo b qb) (hm : behindInMarks op b = false) : QE X m W Wo (.Compare a [op] [b] pos) (qOp f qa qb) := PE.imp (pe_cmpR ho ha hb hm) (lf_op hp)
theorem qe_ix {r : R2} {f : D → D → (D → Prop) → Prop} (hr : IxR X r) (hp : OpP m X.K r f) (ha : QE X m1 W Wo a qa) (hb : QE X m2 W Wo b qb) (hs : PlainIx b) : QE X m W Wo (.Subscript a b pos) (qOp f qa qb) := PE.imp (pe_ix hr ha hb hs) (lf_op hp)
def fI0 (g : Int → Int → D) : D → D → (D → Prop) → Prop
  | .int i, .int j, Q => Q (g i j)
  | _, _, _ => False
def fI (C : Int → Int → Prop) (g : Int → Int → D) : D → D → (D → Prop) → Prop
  | .int i, .int j, Q => C i j ∧ Q (g i j)
  | _, _, _ => False
theorem fI0_inv {g : Int → Int → D} {d e : D} {Q : D → Prop} (h : fI0 g d e Q) : ∃ i j, d = .int i ∧ e = .int j ∧ Q (g i j) := by
  cases d <;> cases e <;> first | exact ⟨_, _, rfl, rfl, h⟩ | exact h.elim
theorem fI_inv {C : Int → Int → Prop} {g : Int → Int → D} {d e : D} {Q : D → Prop} (h : fI C g d e Q) : ∃ i j, d = .int i ∧ e = .int j ∧ C i j ∧ Q (g i j) := by
  cases d <;> cases e <;> first | exact ⟨_, _, rfl, rfl, h⟩ | exact h.elim
theorem opI0_int {K : PySem.W.Frag} {g : Int → Int → Int} : OpP .A K (rI0 fun i j => .int (g i j)) (fI0 fun i j => .int (g i j)) := fun S os H d e v w Q Qp hS r1 r2 h k => by
  obtain ⟨i, j, rfl, rfl, h⟩ := fI0_inv h
  exact ⟨i, j, r1.int, r2.int, k _ _ H (GrP.refl _ _) (.int _) h⟩
theorem opI0_bl {K : PySem.W.Frag} {g : Int → Int → Bool} : OpP .A K (rI0 fun i j => .bl (g i j)) (fI0 fun i j => .bl (g i j)) := fun S os H d e v w Q Qp hS r1 r2 h k => by
  obtain ⟨i, j, rfl, rfl, h⟩ := fI0_inv h
  exact ⟨i, j, r1.int, r2.int, k _ _ H (GrP.refl _ _) (.bl _) h⟩
theorem opI_int {K : PySem.W.Frag} {C : Int → Int → Prop} {g : Int → Int → Int} : OpP .A K (rI C fun i j => .int (g i j)) (fI C fun i j => .int (g i j)) := fun S os H d e v w Q Qp hS r1 r2 h k => by
  obtain ⟨i, j, rfl, rfl, hc, h⟩ := fI_inv h
  exact ⟨i, j, r1.int, r2.int, hc, k _ _ H (GrP.refl _ _) (.int _) h⟩
def fNeg : D → (D → Prop) → Prop
  | .int i, Q => Q (.int (-i))
  | _, _ => False
theorem un_negP {K : PySem.W.Frag} : UnP .A K (rU fun i => .int (-i)) fNeg := fun S os H d v Q Qp hS r1 h k => by
  cases d <;> first | exact ⟨_, r1.int, k _ _ H (GrP.refl _ _) (.int _) h⟩ | exact h.elim
def fEq : D → D → (D → Prop) → Prop
  | .int i, .int j, Q => Q (.bl (decide (i = j)))
  | .str i, .str j, Q => Q (.bl (decide (i = j)))
  | .bl i, .bl j, Q => Q (.bl (decide (i = j)))
  | .non, .non, Q => Q (.bl true)
  | _, _, _ => False
def fNe : D → D → (D → Prop) → Prop
  | .int i, .int j, Q => Q (.bl (!decide (i = j)))
  | .str i, .str j, Q => Q (.bl (!decide (i = j)))
  | .bl i, .bl j, Q => Q (.bl (!decide (i = j)))
  | .non, .non, Q => Q (.bl false)
  | _, _, _ => False
theorem opEqP {K : PySem.W.Frag} : OpP .A K rEq fEq := fun S os H d e v w Q Qp hS r1 r2 h k => by
  cases d <;> cases e <;> first
    | exact h.elim
    | (rw [r1.non, r2.non]; exact ⟨rfl, k _ _ H (GrP.refl _ _) (.bl _) h⟩)
    | (rw [r1.bl, r2.bl]; exact ⟨rfl, k _ _ H (GrP.refl _ _) (.bl _) (by simpa [fEq] using h)⟩)
    | (rw [r1.int, r2.int]; exact ⟨rfl, k _ _ H (GrP.refl _ _) (.bl _) (by simpa [fEq] using h)⟩)
    | (rw [r1.str, r2.str]; exact ⟨rfl, k _ _ H (GrP.refl _ _) (.bl _) (by simpa [fEq] using h)⟩)
noncomputable def deq (d e : D) : Bool := @decide (d = e) (Classical.propDecidable (d = e))
theorem deq_t {d e : D} (h : d = e) : deq d e = true := @decide_eq_true _ (Classical.propDecidable (d = e)) h
theorem deq_f {d e : D} (h : d ≠ e) : deq d e = false := @decide_eq_false _ (Classical.propDecidable (d = e)) h
def fEqD (d e : D) (Q : D → Prop) : Prop := ∃ n, n ≤ 64 ∧ d.dep n = true ∧ e.dep n = true ∧ Q (.bl (deq d e))
def fNeD (d e : D) (Q : D → Prop) : Prop := ∃ n, n ≤ 64 ∧ d.dep n = true ∧ e.dep n = true ∧ Q (.bl (!deq d e))
theorem opEqDP {K : PySem.W.Frag} : OpP .A K (rEqD K) fEqD := fun S os H d e v w Q Qp hS r1 r2 ⟨n, hn, h1, h2, h⟩ k => by
  refine w_eqD n r1.rep r2.rep h1 h2 hn (fun z => ?_) (fun z => ?_)
  · exact k _ _ H (GrP.refl _ _) (.bl _) (by rw [deq_t z] at h; exact h)
  · exact k _ _ H (GrP.refl _ _) (.bl _) (by rw [deq_f z] at h; exact h)
theorem opNeDP {K : PySem.W.Frag} : OpP .A K (rNeD K) fNeD := fun S os H d e v w Q Qp hS r1 r2 ⟨n, hn, h1, h2, h⟩ k => by
  refine w_neD n r1.rep r2.rep h1 h2 hn (fun z => ?_) (fun z => ?_)
  · exact k _ _ H (GrP.refl _ _) (.bl _) (by rw [deq_t z] at h; exact h)
  · exact k _ _ H (GrP.refl _ _) (.bl _) (by rw [deq_f z] at h; exact h)
def D.isNon : D → Bool
  | .non => true
  | _ => false
theorem isNon_iff {d : D} : d.isNon = true ↔ d = .non := by cases d <;> simp [D.isNon]
def fIsN (neg : Bool) (d e : D) (Q : D → Prop) : Prop := e = .non ∧ Q (.bl (if neg then !d.isNon else d.isNon))
theorem dec_isNon {K : PySem.W.Frag} {H : Hp} {S : ASet} {os : List Addr} {d : D} {v : V} (r : RC K H S os d v) : decide (v = .non) = d.isNon := by
  by_cases h : v = .non
  · rw [decide_eq_true h, (isNon_iff.mpr (r.isNon.mp h))]
  · rw [decide_eq_false h]
    cases q : d.isNon with
    | false => rfl
    | true => exact absurd (r.isNon.mpr (isNon_iff.mp q)) h
theorem opIsP {K : PySem.W.Frag} : OpP .A K (fun x y H Q => y = .non ∧ Q (.bl (decide (x = .non))) H) (fIsN false) := fun S os H d e v w Q Qp hS r1 r2 ⟨z, h⟩ k => by
  subst z
  rw [dec_isNon r1]
  exact ⟨r2.non, k _ _ H (GrP.refl _ _) (.bl _) h⟩
theorem RepsA.atI {K : PySem.W.Frag} {H : Hp} {S : ASet} {ds : List D} {vs : List V} {i : Int} {d : D} (r : RepsA K H S ds vs) (h : L2.atI ds i = some d) : ∃ v, L2.atI vs i = some v ∧ RepA K H S d v := by
  unfold L2.atI at h ⊢
  rw [r.len]
  cases e : ixN ds.length i with
  | none => rw [e] at h; cases h
  | some j =>
    rw [e] at h
    exact r.get (show ds[j]? = some d from h)
def fIxL : D → D → (D → Prop) → Prop
  | .lst ds, .int i, Q => ∃ d, atI ds i = some d ∧ Q d
  | _, _, _ => False
def fIxT : D → D → (D → Prop) → Prop
  | .tup ds, .int i, Q => ∃ d, atI ds i = some d ∧ Q d
  | _, _, _ => False
theorem ixLP {K : PySem.W.Frag} : OpP .A K (rIxL K) fIxL := fun S os H d e v w Q Qp hS r1 r2 h k => by
  cases d <;> cases e <;> first | (exact h.elim) | skip
  obtain ⟨d, ha, h⟩ := h
  obtain ⟨l, xs, rfl, hl, hr, _⟩ := r1.lst
  obtain ⟨u, hu, ru⟩ := hr.atI ha
  exact ⟨l, xs, _, u, rfl, r2.int, hl, hu, k _ _ H (GrP.refl _ _) ru h⟩
theorem ixTP {K : PySem.W.Frag} : OpP .A K (rIxT K) fIxT := fun S os H d e v w Q Qp hS r1 r2 h k => by
  cases d <;> cases e <;> first | (exact h.elim) | skip
  obtain ⟨d, ha, h⟩ := h
  obtain ⟨l, xs, rfl, hl, hr⟩ := r1.tup
  obtain ⟨u, hu, ru⟩ := hr.atI ha
  exact ⟨l, xs, _, u, rfl, r2.int, hl, hu, k _ _ H (GrP.refl _ _) ru h⟩
def D.flat : D → Bool
  | .int _ => true
  | .str _ => true
  | _ => false
def D.same : D → D → Bool
  | .int i, .int j => decide (i = j)
  | .str i, .str j => decide (i = j)
  | _, _ => false
def fIn (neg : Bool) (d e : D) (Q : D → Prop) : Prop := ∃ ds, (e = .lst ds ∨ e = .tup ds) ∧ d.flat = true ∧ ds.all D.flat = true ∧ Q (.bl (if neg then !(ds.any fun x => x.same d) else ds.any fun x => x.same d))
theorem flat_V {K : PySem.W.Frag} {H : Hp} {S : ASet} {d : D} {v : V} (h : d.flat = true) (r : RepA K H S d v) : flatV v = true := by
  cases r <;> first | rfl | (cases h; done)
theorem same_V {K : PySem.W.Frag} {H : Hp} {S : ASet} {d e : D} {v w : V} (h : d.flat = true) (h2 : e.flat = true) (r : RepA K H S d v) (r2 : RepA K H S e w) : eqV v w = d.same e := by
  cases r <;> first | (cases h; done) | (cases r2 <;> first | (cases h2; done) | rfl)
theorem flats_V {K : PySem.W.Frag} {H : Hp} {S : ASet} : ∀ {ds : List D} {vs : List V}, ds.all D.flat = true → RepsA K H S ds vs → vs.all flatV = true
  | _, _, _, .nil => rfl
  | _, _, q, .cons h r => by
    rw [List.all_cons, Bool.and_eq_true] at q ⊢
    exact ⟨flat_V q.1 h, flats_V q.2 r⟩
theorem any_V {K : PySem.W.Frag} {H : Hp} {S : ASet} {e : D} {w : V} (h2 : e.flat = true) (r2 : RepA K H S e w) : ∀ {ds : List D} {vs : List V}, ds.all D.flat = true → RepsA K H S ds vs → inV w vs = ds.any fun x => x.same e
  | _, _, _, .nil => rfl
  | _, _, q, .cons h r => by
    rw [List.all_cons, Bool.and_eq_true] at q
    rw [List.any_cons, ← any_V h2 r2 q.2 r, ← same_V q.1 h2 h r2]
    rfl
theorem RC.flat {K : PySem.W.Frag} {H : Hp} {S : ASet} {os : List Addr} {d : D} {v : V} (h : d.flat = true) (r : RC K H S os d v) : RepA K H S d v := by
  rcases r with (r | ⟨l, xs, ds', rfl, rfl, m, h', r⟩) | ⟨a, xs, ds', rfl, rfl, h', r⟩
  · exact r
  · exact nomatch (show false = true from h)
  · exact nomatch (show false = true from h)
theorem opInP {K : PySem.W.Frag} {neg : Bool} : OpP .A K (rIn K neg) (fIn neg) := fun S os H d e v w Q Qp hS r1 r2 ⟨ds, he, h1, h2, h⟩ k => by
  have ra := r1.flat h1
  have fin : ∀ {p : Addr} {xs : List V}, RepsA K H S ds xs → (SqL K H p xs ∨ SqT K H p xs) → rIn K neg v (.ref p) H Q := fun {p xs} hr hq => by
    refine ⟨p, xs, rfl, hq, flat_V h1 ra, flats_V h2 hr, ?_⟩
    rw [any_V h1 ra h2 hr]
    exact k _ _ H (GrP.refl _ _) (.bl _) h
  rcases he with rfl | rfl
  · obtain ⟨l, xs, rfl, hl, hr, _⟩ := r2.lst
    exact fin hr (.inl hl)
  · obtain ⟨l, xs, rfl, hl, hr⟩ := r2.tup
    exact fin hr (.inr hl)
def fCat : D → D → (D → Prop) → Prop
  | .lst ds, .lst es, Q => ds.length + es.length ≤ 1000000 ∧ Q (.lst (ds ++ es))
  | _, _, _ => False
theorem small6 {n : Nat} (h : n ≤ 1000000) : n ≤ sizeLine := Nat.le_trans h (by decide)
theorem rf_new {K : PySem.W.Frag} {H : Hp} {S : ASet} {l : Addr} {ds : List D} {xs : List V} (hS : ∀ a, S a → H a ≠ none) (hl : H l = none) (r : RepsA K H S ds xs) : RF K H (upd H l (.lst xs)) S (.lst ds) (.ref l) :=
  ⟨l, xs, ds, rfl, rfl, hl, fun s => hS l s hl, upd_same, r.ext (GrP.new hl) (fun _ z => z.elim) fun a z => z.imp id fun z => by rw [z]; exact hl⟩
def rCatR : R2 := fun x y H Q => ∃ l b xs zs, x = .ref l ∧ y = .ref b ∧ Rd H l (.lst xs) ∧ Rd H b (.lst zs) ∧ xs.length + zs.length ≤ sizeLine ∧ ∀ p, H p = none → Q (.ref p) (upd H p (.lst (xs ++ zs)))
theorem lst_rd {X : Cx} {pins : List (Addr × Obj)} {σ : L2.St} {H : Hp} {s : Shared} {l : Addr} {xs : List V} (I : Inv X pins σ H s) (h : Rd H l (.lst xs)) : xs.length ≤ sizeLine ∧ ∃ (its : List Value) (n : Nat), Vals xs its ∧ s.heap.get? l = some { cls := .type "list", data := .seq its.toArray n } := by
  rcases h with h | ⟨o, h⟩
  · exact I.hok l _ h
  · exact (I.hok l _ h).2
theorem op_catR {X : Cx} : OpR X (binaryOp .Add) rCatR := by
  intro pins s σ H x y v u Q I rx ry h
  obtain ⟨l, b, xs, zs, rfl, rfl, hH, hB, hz, q⟩ := h
  cases rx
  cases ry
  obtain ⟨z, its, n, r, e⟩ := lst_rd I hH
  obtain ⟨z2, its2, n2, r2, e2⟩ := lst_rd I hB
  have hl := r.length
  have hl2 := r2.length
  refine PySem.P.add_list e e2 ?_ (by rw [List.size_toArray, List.size_toArray]; omega)
  have ea : its.toArray ++ its2.toArray = (its ++ its2).toArray := by simp
  rw [ea]
  exact ⟨.ref _, _, I.lnew (t' := s.toks) (r.append r2) (by rw [List.length_append]; omega), rfl, q _ I.fresh⟩
theorem opCatP {K : PySem.W.Frag} : OpP .F K rCatR fCat := fun S os H d e v w Q Qp hS r1 r2 h k => by
  cases d <;> cases e <;> first | (exact h.elim) | skip
  obtain ⟨hz, h⟩ := h
  obtain ⟨l, xs, rfl, hl, hr, z1⟩ := r1.lst
  obtain ⟨l2, ys, rfl, hl2, hr2, z2⟩ := r2.lst
  exact ⟨l, l2, xs, ys, rfl, rfl, z1, z2, by rw [hr.len, hr2.len]; exact small6 hz, fun p hp => k _ _ _ (GrP.new hp) (rf_new hS hp (RepsA.append hr2 hr)) h⟩
def qPart : Option (QT W) → W.Ω → List Sl → (W.Ω → Option Int → Prop) → (W.Ω → Exn → Prop) → Prop
  | none => fun ω _ k _ => k ω none
  | some q => fun ω ρ k E => q ω ρ (fun ω' y => ∃ i, y = .int i ∧ k ω' (some i)) E
def qSl (f : D → Option Int → Option Int → (D → Prop) → Prop) (qa : QT W) (lo hi : Option (QT W)) : QT W := fun ω ρ Q E => qa ω ρ (fun ω1 x => qPart lo ω1 ρ (fun ω2 l => qPart hi ω2 ρ (fun ω3 u => f x l u (Q ω3)) E) E) E
def SlP (m : Md) (K : PySem.W.Frag) (r : V → Option Int → Option Int → Hp → VK → Prop) (f : D → Option Int → Option Int → (D → Prop) → Prop) : Prop := ∀ (S : ASet) (os : List Addr) (H : Hp) (d : D) (v : V) (lo hi : Option Int) (Q : VK) (Qp : D → Prop), (∀ a, S a → H a ≠ none) → RC K H S os d v → f d lo hi Qp →
  (∀ x u H', GrP nop H H' → RR m K H H' S os x u → Qp x → Q u H') → r v lo hi H Q
def lfO (K : PySem.W.Frag) (W : Wrl) (Wo : WX) (q : Option (QT W)) : TO := fun σ H Q => ∃ (F : Frm) (T : ASet) (ω : W.Ω) (ρ : List Sl) (Qp : W.Ω → Option Int → Prop) (Ep : W.Ω → Exn → Prop), Rel K W F T ω ρ σ H ∧ qPart q ω ρ Qp Ep ∧ XOk K W Wo F ρ σ Ep ∧
  ∀ T' ω' o H', Rel K W F T' ω' ρ σ H' → Ext T H T' H' → Qp ω' o → Q o H'
def QO (X : Cx) (W : Wrl) (Wo : WX) (e : Option Expr) (q : Option (QT W)) : Prop := PO X e (lfO X.K W Wo q)
theorem PO.imp {X : Cx} {e : Option Expr} {t t' : TO} (h : PO X e t) (k : ∀ σ H Q, t' σ H Q → t σ H Q) : PO X e t' := ⟨fun pins s σ H Q I q => h.run pins s σ H Q I (k σ H Q q)⟩
theorem qo_none : QO X W Wo none none := PO.imp po_none fun σ H Q ⟨F, T, ω, ρ, Qp, Ep, R, q, hx, k⟩ => k T ω none H R .refl q
theorem qo_some (h : QE X m W Wo e q) : QO X W Wo (some e) (some q) := PO.imp (po_some h) fun σ H Q ⟨F, T, ω, ρ, Qp, Ep, R, q, hx, k⟩ =>
  ⟨F, T, ω, ρ, _, Ep, R, q, hx, fun T' ω' d v H' R' e r ⟨i, z, q'⟩ => by subst z; exact ⟨i, r.c.int, k T' ω' _ H' R' e q'⟩⟩
theorem qe_sl {r : V → Option Int → Option Int → Hp → VK → Prop} {f : D → Option Int → Option Int → (D → Prop) → Prop} {lo hi : Option Expr} {ql qh : Option (QT W)} {p2 : Pos} (hr : SlR X r) (hp : SlP m X.K r f) (ha : QE X m1 W Wo a qa) (hl : QO X W Wo lo ql) (hh : QO X W Wo hi qh) :
    QE X m W Wo (.Subscript a (.Slice lo hi none p2) pos) (qSl f qa ql qh) := PE.imp (pe_slice hr ha hl hh) fun σ H Q ⟨F, T, ω, ρ, Qp, Ep, R, q, hx, k⟩ => by
  refine ⟨F, T, ω, ρ, _, Ep, R, q, hx, fun T1 ω1 d v H1 R1 e1 r1 q1 => ?_⟩
  refine ⟨F, T1, ω1, ρ, _, Ep, R1, q1, hx, fun T2 ω2 l H2 R2 e2 q2 => ?_⟩
  refine ⟨F, T2, ω2, ρ, _, Ep, R2, q2, hx, fun T3 ω3 u H3 R3 e3 q3 => ?_⟩
  refine hp _ _ H3 d v l u Q _ R3.spl (R1.ext_RC (e2.trans e3) r1.c) q3 fun x w H' g rr qq => ?_
  exact k T3 ω3 x w H' (R3.grow g) ((e1.trans (e2.trans e3)).trans (Ext.of0 g)) (rr.back fun a z => e1.gr.live a (e2.gr.live a (e3.gr.live a z))) qq
def cutD (xs : List D) (lo hi : Option Int) : List D := (xs.drop (HT.sIx xs.length 0 lo)).take (HT.sIx xs.length xs.length hi - HT.sIx xs.length 0 lo)
theorem RepsA.cut {K : PySem.W.Frag} {H : Hp} {S : ASet} {ds : List D} {vs : List V} {lo hi : Option Int} (r : RepsA K H S ds vs) : RepsA K H S (cutD ds lo hi) (cutV vs lo hi) := by
  unfold cutD cutV
  rw [r.len]
  exact (r.drop _).take _
def fSlL : D → Option Int → Option Int → (D → Prop) → Prop
  | .lst ds, lo, hi, Q => Q (.lst (cutD ds lo hi))
  | _, _, _, _ => False
def fSlT : D → Option Int → Option Int → (D → Prop) → Prop
  | .tup ds, lo, hi, Q => Q (.tup (cutD ds lo hi))
  | _, _, _, _ => False
theorem slLP {K : PySem.W.Frag} : SlP .F K (rSlL K) fSlL := fun S os H d v lo hi Q Qp hS r1 h k => by
  cases d <;> first | (exact h.elim) | skip
  obtain ⟨l, xs, rfl, hl, hr, z1⟩ := r1.lst
  exact ⟨l, xs, rfl, hl, fun p hp => k _ _ _ (GrP.new hp) (rf_new hS hp hr.cut) h⟩
def fCatT : D → D → (D → Prop) → Prop
  | .tup ds, .tup es, Q => ds.length + es.length ≤ 1000000 ∧ Q (.tup (ds ++ es))
  | _, _, _ => False
def qTe (qa : QT W) : QTT W := fun ω ρ Q E => qa ω ρ (fun ω1 d => ∃ b, d = .bl b ∧ Q ω1 b) E
theorem qb_val (ha : QE X m W Wo a qa) (he : ∀ whole, isTrue a X.env whole = (do let v ← whole; standAt a.pos; holding [v] (truthy v)) := by intro _; rfl) : QB X W Wo a (qTe qa) := PT.imp (pt_val ha he) fun σ H Q ⟨F, T, ω, ρ, Qp, Ep, R, q, hx, k⟩ =>
  ⟨F, T, ω, ρ, _, Ep, R, q, hx, fun T' ω' d v H' R' e r ⟨b, z, q'⟩ => by subst z; exact ⟨b, r.c.bl, k T' ω' b H' R' e q'⟩⟩
theorem qb_cmp {op : CmpOp} {r : R2} {f : D → D → (D → Prop) → Prop} (ho : OpR X (compareOp op) r) (hp : OpP .A X.K r f) (ha : QE X m1 W Wo a qa) (hb : QE X m2 W Wo b qb) (hm : behindInMarks op b = false) : QB X W Wo (.Compare a [op] [b] pos) (qTe (qOp f qa qb)) := PT.imp (pt_cmpR ho ha hb hm) fun σ H Q ⟨F, T, ω, ρ, Qp, Ep, R, q, hx, k⟩ =>
  lf_op hp σ H _ ⟨F, T, ω, ρ, _, Ep, R, q, hx, fun T' ω' d v H' R' e r ⟨b, z, q'⟩ => by subst z; exact ⟨b, (RR.c r).bl, k T' ω' b H' R' e q'⟩⟩
def D.tru : D → (Bool → Prop) → Prop
  | .non, Q => Q false
  | .bl b, Q => Q b
  | .int i, Q => Q (i != 0)
  | .lst ds, Q => Q (!ds.isEmpty)
  | .tup ds, Q => Q (!ds.isEmpty)
  | _, _ => False
def qTru (qa : QT W) : QTT W := fun ω ρ Q E => qa ω ρ (fun ω1 d => d.tru (Q ω1)) E
def qNotT (qt : QTT W) : QTT W := fun ω ρ Q E => qt ω ρ (fun ω1 b => Q ω1 (!b)) E
theorem qb_not (ha : QB X W Wo a qt) : QB X W Wo (.UnaryOp .Not a pos) (qNotT qt) := PT.imp (pt_not ha) fun σ H Q ⟨F, T, ω, ρ, Qp, Ep, R, q, hx, k⟩ =>
  ⟨F, T, ω, ρ, _, Ep, R, q, hx, fun T' ω' b H' R' e q' => k T' ω' (!b) H' R' e q'⟩
def QW (X : Cx) (W : Wrl) (Wo : WX) (e : Expr) (q : QTT W) : Prop := PW X e (lfT X.K W Wo q)
theorem QW.toB (h : QW X W Wo e qt) : QB X W Wo e qt := PW.pt h
def qAndT (qt qu : QTT W) : QTT W := fun ω ρ Q E => qt ω ρ (fun ω1 b => if b = true then qu ω1 ρ Q E else Q ω1 false) E
def qOrT (qt qu : QTT W) : QTT W := fun ω ρ Q E => qt ω ρ (fun ω1 b => if b = true then Q ω1 true else qu ω1 ρ Q E) E
variable {qu : QTT W} {rest : List Expr}
theorem qw_or1 (ha : QB X W Wo a qt) : QW X W Wo (.BoolOp .Or [a] pos) qt := pw_or1 ha
theorem qw_or (ha : QB X W Wo a qt) (hb : QW X W Wo (.BoolOp .Or (b :: rest) pos) qu) : QW X W Wo (.BoolOp .Or (a :: b :: rest) pos) (qOrT qt qu) := PW.imp (pw_or ha hb) fun σ H Q ⟨F, T, ω, ρ, Qp, Ep, R, q, hx, k⟩ =>
  ⟨F, T, ω, ρ, _, Ep, R, q, hx, fun T' ω' b H' R' e q' => by
    cases b with
    | false => exact ⟨F, T', ω', ρ, _, Ep, R', q', hx, fun T2 ω2 b2 H2 R2 e2 q2 => k T2 ω2 b2 H2 R2 (e.trans e2) q2⟩
    | true => exact k T' ω' true H' R' e q'⟩
def qAndV (qa qb : QT W) : QT W := fun ω ρ Q E => qa ω ρ (fun ω1 d => ∃ b, d = .bl b ∧ if b = true then qb ω1 ρ Q E else Q ω1 (.bl false)) E
def qOrV (qa qb : QT W) : QT W := fun ω ρ Q E => qa ω ρ (fun ω1 d => ∃ b, d = .bl b ∧ if b = true then Q ω1 (.bl true) else qb ω1 ρ Q E) E
def qNotV (qa : QT W) : QT W := fun ω ρ Q E => qa ω ρ (fun ω1 d => ∃ b, d = .bl b ∧ Q ω1 (.bl (!b))) E
theorem qe_one {op : BoolOp} (h : QE X m W Wo a qa) : QE X m W Wo (.BoolOp op [a] pos) qa := pe_one h
theorem qe_and (ha : QE X m1 W Wo a qa) (hb : QE X .A W Wo (.BoolOp .And (b :: rest) pos) qb) : QE X .A W Wo (.BoolOp .And (a :: b :: rest) pos) (qAndV qa qb) := PE.imp (pe_and ha hb) fun σ H Q ⟨F, T, ω, ρ, Qp, Ep, R, q, hx, k⟩ =>
  ⟨F, T, ω, ρ, _, Ep, R, q, hx, fun T' ω' d v H' R' e r ⟨b, z, q'⟩ => by
    subst z
    refine ⟨b, r.c.bl, ?_⟩
    cases b with
    | true => exact ⟨F, T', ω', ρ, _, Ep, R', q', hx, fun T2 ω2 b2 v2 H2 R2 e2 r2 q2 => k T2 ω2 b2 v2 H2 R2 (e.trans e2) r2 q2⟩
    | false => exact k T' ω' _ _ H' R' e (.bl false) q'⟩
theorem qe_not (ha : QE X m1 W Wo a qa) : QE X .A W Wo (.UnaryOp .Not a pos) (qNotV qa) := PE.imp (pe_not ha) fun σ H Q ⟨F, T, ω, ρ, Qp, Ep, R, q, hx, k⟩ =>
  ⟨F, T, ω, ρ, _, Ep, R, q, hx, fun T' ω' d v H' R' e r ⟨b, z, q'⟩ => by
    subst z
    exact ⟨b, r.c.bl, k T' ω' _ _ H' R' e (.bl _) q'⟩⟩
def qChain (f g : D → D → (D → Prop) → Prop) (qa qb qc : QT W) : QT W := fun ω ρ Q E => qa ω ρ (fun ω1 x => qb ω1 ρ (fun ω2 y => f x y fun z => ∃ b, z = .bl b ∧ if b = true then qc ω2 ρ (fun ω3 w => g y w (Q ω3)) E else Q ω2 (.bl false)) E) E
theorem lf_chain {K : PySem.W.Frag} {r r' : R2} {f g : D → D → (D → Prop) → Prop} (hp : OpP .A K r f) (hp' : OpP .A K r' g) (σ : L2.St) (H : Hp) (Q : VK) (h : lfE .A K W Wo (qChain f g qa qb qc) σ H Q) : tChain r r' (lfE m1 K W Wo qa) (lfE m2 K W Wo qb) (lfE m3 K W Wo qc) σ H Q := by
  obtain ⟨F, T, ω, ρ, Qp, Ep, R, q, hx, k⟩ := h
  refine ⟨F, T, ω, ρ, _, Ep, R, q, hx, fun T1 ω1 d v H1 R1 e1 r1 q1 => ?_⟩
  refine ⟨F, T1, ω1, ρ, _, Ep, R1, q1, hx, fun T2 ω2 e w H2 R2 e2 r2 q2 => ?_⟩
  refine hp _ _ H2 d e v w _ _ R2.spl (R1.ext_RC e2 r1.c) r2.c q2 fun x u H3 g3 rr ⟨b, z, qq⟩ => ?_
  subst z
  refine ⟨b, (RR.c (m := .A) rr).bl, ?_⟩
  have R3 := R2.grow g3
  have e3 := (e1.trans e2).trans (Ext.of0 (T := T2) g3)
  cases b with
  | false => exact k T2 ω2 _ _ H3 R3 e3 (.bl false) qq
  | true =>
    refine ⟨F, T2, ω2, ρ, _, Ep, R3, qq, hx, fun T4 ω4 e' w' H4 R4 e4 r4 q4 => ?_⟩
    refine hp' _ _ H4 _ e' _ w' _ _ R4.spl (R3.ext_RC e4 (R2.ext_RC (Ext.of0 g3) r2.c)) r4.c q4 fun x' u' H5 g5 rr' qq' => ?_
    exact k T4 ω4 x' u' H5 (R4.grow g5) ((e3.trans e4).trans (Ext.of0 g5)) rr' qq'
theorem qb_chain {op op' : CmpOp} {r r' : R2} {f g : D → D → (D → Prop) → Prop} (ho : OpR X (compareOp op) r) (ho' : OpR X (compareOp op') r') (hp : OpP .A X.K r f) (hp' : OpP .A X.K r' g) (ha : QE X m1 W Wo a qa) (hb : QE X m2 W Wo b qb) (hc : QE X m3 W Wo c qc) (hm : lastMarks [op, op'] [b, c] = false := by with_unfolding_all rfl) :
    QB X W Wo (.Compare a [op, op'] [b, c] pos) (qTe (qChain f g qa qb qc)) := PT.imp (pt_chain ho ho' ha hb hc hm) fun σ H Q ⟨F, T, ω, ρ, Qp, Ep, R, q, hx, k⟩ =>
  lf_chain hp hp' σ H _ ⟨F, T, ω, ρ, _, Ep, R, q, hx, fun T' ω' d v H' R' e r ⟨b, z, q'⟩ => by subst z; exact ⟨b, (RR.c r).bl, k T' ω' b H' R' e q'⟩⟩
def qIfE (qt : QTT W) (qa qb : QT W) : QT W := fun ω ρ Q E => qt ω ρ (fun ω1 b => if b = true then qa ω1 ρ Q E else qb ω1 ρ Q E) E
def qNil : QTA W := fun ω _ Q _ => Q ω []
def qCons (qa : QT W) (qs : QTA W) : QTA W := fun ω ρ Q E => qa ω ρ (fun ω1 d => qs ω1 ρ (fun ω2 ds => Q ω2 (d :: ds)) E) E
theorem qa_nil : QA X m W Wo [] qNil := PA.imp pa_nil fun σ H Q ⟨F, T, ω, ρ, Qp, Ep, R, q, hx, k⟩ => k T ω [] [] H R .refl .nil q
theorem qa_cons (ha : QE X m1 W Wo e qa) (hr : QA X m W Wo es qs) (hm : m.sta = true := by rfl) (l : m1.le m = true := by rfl) (hs : starEach (e :: es) X.env = (false, eval e X.env) :: starEach es X.env := by rfl) : QA X m W Wo (e :: es) (qCons qa qs) := PA.imp (pa_cons ha hr hs) fun σ H Q ⟨F, T, ω, ρ, Qp, Ep, R, q, hx, k⟩ =>
  ⟨F, T, ω, ρ, _, Ep, R, q, hx, fun T1 ω1 d v H1 R1 e1 r1 q1 => ⟨F, T1, ω1, ρ, _, Ep, R1, q1, hx, fun T2 ω2 ds vs H2 R2 e2 r2 q2 =>
    k T2 ω2 (d :: ds) (v :: vs) H2 R2 (e1.trans e2) (.cons (R1.ext_RR e2 hm ((r1.up l).at (by intro z; subst z; cases hm))) r2) q2⟩⟩
def qStar (qa : QT W) (qs : QTA W) : QTA W := fun ω ρ Q E => qa ω ρ (fun ω1 d => ∃ ds, (d = .lst ds ∨ d = .tup ds) ∧ qs ω1 ρ (fun ω2 es => Q ω2 (ds ++ es)) E) E
theorem ROs.of {K : PySem.W.Frag} {H : Hp} {S : ASet} {os : List Addr} {m : Md} (h : ∀ d v, RepA K H S d v → RR m K H H S os d v) : ∀ {ds : List D} {vs : List V}, RepsA K H S ds vs → ROs m K H S os ds vs
  | _, _, .nil => .nil
  | _, _, .cons q r => .cons (h _ _ q) (ROs.of h r)
theorem ROs.append {K : PySem.W.Frag} {H : Hp} {S : ASet} {os : List Addr} {m : Md} {es : List D} {ws : List V} (h' : ROs m K H S os es ws) : ∀ {ds : List D} {vs : List V}, ROs m K H S os ds vs → ROs m K H S os (ds ++ es) (vs ++ ws)
  | _, _, .nil => h'
  | _, _, .cons h r => .cons h (ROs.append h' r)
def fLst (ds : List D) (Q : D → Prop) : Prop := ds.length ≤ 1000000 ∧ Q (.lst ds)
def fTup (ds : List D) (Q : D → Prop) : Prop := ds.length ≤ 1000000 ∧ Q (.tup ds)
theorem lstP {K : PySem.W.Frag} : CaP .A .F K rNewL fLst := fun S os H ds vs Q Qp hS r ⟨hl, h⟩ k => by
  have r := r.reps
  exact ⟨by rw [r.len]; exact small6 hl, fun p hp => k _ _ _ (GrP.new hp) (rf_new hS hp r) h⟩
theorem qe_lst (h : QA X .A W Wo es qs) : QE X .F W Wo (.List es pos) (qCa fLst qs) := PE.imp (pe_lstN h) (lf_ca lstP)
end
end LW
namespace LW
open PySem PySem.Spec PyProof.Rows L2
section
variable {X : Cx} {W : Wrl} {Wo : WX} {m m1 m2 m3 : Md} {e a b c : Expr} {es : List Expr} {i : Nat} {pos : Pos} {q qa qb qc : QT W} {qs : QTA W} {qt : QTT W}
theorem qe_cB {ma : Md} {r : List V → Hp → VK → Prop} {f : List D → (D → Prop) → Prop} {x : Str} {id : String} {p : Pos} (hc : CallR X (.builtin id) r) (hp : CaP ma m X.K r f) (hg : Gl X x) (hm : X.mg x = none) (hv : bootBuiltins x = some (.builtin id)) (ha : QA X ma W Wo (e :: es) qs)
    (hn : x ≠ "__name__" := by decide) (hdb : (x == ("__debug__" : Str)) = false := by decide) (h1 : starEach (e :: es) X.env = (false, eval e X.env) :: starEach es X.env := by rfl) (h2 : (backTo pos (starEach es X.env)).any (·.1) = false := by rfl) :
    QE X m W Wo (.Call (.Name x p) (e :: es) [] pos) (qCa f qs) := PE.imp (pe_callB hc hg hm hv ha hn hdb h1 h2) (lf_ca hp)
theorem qe_cT {ma : Md} {r : List V → Hp → VK → Prop} {f : List D → (D → Prop) → Prop} {x : Str} {T : String} {p : Pos} (hc : CallR X (.type T) r) (hp : CaP ma m X.K r f) (hg : Gl X x) (hm : X.mg x = none) (hv : bootBuiltins x = some (.type T)) (ha : QA X ma W Wo (e :: es) qs)
    (hn : x ≠ "__name__" := by decide) (hdb : (x == ("__debug__" : Str)) = false := by decide) (h1 : starEach (e :: es) X.env = (false, eval e X.env) :: starEach es X.env := by rfl) (h2 : (backTo pos (starEach es X.env)).any (·.1) = false := by rfl) :
    QE X m W Wo (.Call (.Name x p) (e :: es) [] pos) (qCa f qs) := PE.imp (pe_callTy hc hg hm hv ha hn hdb h1 h2) (lf_ca hp)
def fLen : List D → (D → Prop) → Prop
  | [.lst ds], Q => Q (.int ds.length)
  | [.tup ds], Q => Q (.int ds.length)
  | _, _ => False
theorem lenP {K : PySem.W.Frag} : CaP .C .A K (rLenA K) fLen := fun S os H ds vs Q Qp hS r h k => by
  unfold fLen at h
  split at h
  · obtain ⟨v, rfl, rv⟩ := r.one
    obtain ⟨l, xs, rfl, hl, hr, _⟩ := rv.c.lst
    rw [← hr.len] at h
    exact ⟨l, xs, rfl, .inl hl, k _ _ H (GrP.refl _ _) (.int _) h⟩
  · obtain ⟨v, rfl, rv⟩ := r.one
    obtain ⟨l, xs, rfl, hl, hr⟩ := rv.c.tup
    rw [← hr.len] at h
    exact ⟨l, xs, rfl, .inr hl, k _ _ H (GrP.refl _ _) (.int _) h⟩
  · exact h.elim
def fList : List D → (D → Prop) → Prop
  | [.lst ds], Q => Q (.lst ds)
  | [.tup ds], Q => Q (.lst ds)
  | _, _ => False
theorem listP {K : PySem.W.Frag} : CaP .C .F K (rListOf K) fList := fun S os H ds vs Q Qp hS r h k => by
  unfold fList at h
  split at h
  · obtain ⟨v, rfl, rv⟩ := r.one
    obtain ⟨l, xs, rfl, hl, hr, _⟩ := rv.c.lst
    exact ⟨l, xs, rfl, .inl hl, fun p hp => k _ _ _ (GrP.new hp) (rf_new hS hp hr) h⟩
  · obtain ⟨v, rfl, rv⟩ := r.one
    obtain ⟨l, xs, rfl, hl, hr⟩ := rv.c.tup
    exact ⟨l, xs, rfl, .inr hl, fun p hp => k _ _ _ (GrP.new hp) (rf_new hS hp hr) h⟩
  · exact h.elim
def fTuple : List D → (D → Prop) → Prop
  | [.lst ds], Q => Q (.tup ds)
  | [.tup ds], Q => Q (.tup ds)
  | _, _ => False
theorem ra_tup {K : PySem.W.Frag} {H : Hp} {S : ASet} {p : Addr} {o : Obj} {xs : List V} {ds : List D} (hp : H p = none) (ho : o.dict = none) (r : RepsA K H S ds xs) : RepA K (upd H p (.frz o (.tup xs))) S (.tup ds) (.ref p) :=
  .tup ⟨o, upd_same, ho⟩ (r.ext (GrP.new hp) (fun _ z => z.elim) fun a z => .inl z)
theorem tupleP {K : PySem.W.Frag} : CaP .O .A K (rTupleOf K) fTuple := fun S os H ds vs Q Qp hS r h k => by
  unfold fTuple at h
  split at h
  · obtain ⟨v, rfl, rv⟩ := r.one
    obtain ⟨l, xs, rfl, hl, hr, _⟩ := RO.lst rv
    exact ⟨l, xs, rfl, .inl ⟨hl, fun p o hp ho => k _ _ _ (GrP.new hp) (ra_tup hp ho hr) h⟩⟩
  · obtain ⟨v, rfl, rv⟩ := r.one
    obtain ⟨l, xs, rfl, hl, hr⟩ := RO.tup rv
    exact ⟨l, xs, rfl, .inr ⟨hl.sqt, k _ _ H (GrP.refl _ _) (.tup hl hr) h⟩⟩
  · exact h.elim
def fAbs : List D → (D → Prop) → Prop
  | [.int i], Q => Q (.int (if i < 0 then -i else i))
  | _, _ => False
def fInt : List D → (D → Prop) → Prop
  | [.int i], Q => Q (.int i)
  | [.bl b], Q => Q (.int (if b then 1 else 0))
  | _, _ => False
def rgI (a b : Int) : List Int := (List.range (b - a).toNat).map fun (i : Nat) => a + (i : Int)
theorem rgI_rg (n : Nat) : rgI 0 n = rg n := by
  unfold rgI rg
  rw [show ((n : Int) - 0).toNat = n by omega]
  exact List.map_congr_left fun i _ => Int.zero_add _
def qRg1 (qa : QT W) : W.Ω → List Sl → (W.Ω → Int → Int → Prop) → (W.Ω → Exn → Prop) → Prop := fun ω ρ k E => qa ω ρ (fun ω1 x => ∃ n, x = .int n ∧ k ω1 0 n) E
def qRg2 (qa qb : QT W) : W.Ω → List Sl → (W.Ω → Int → Int → Prop) → (W.Ω → Exn → Prop) → Prop := fun ω ρ k E => qa ω ρ (fun ω1 x => qb ω1 ρ (fun ω2 y => ∃ n k', x = .int n ∧ y = .int k' ∧ k ω2 n k') E) E
abbrev QTR (W : Wrl) := W.Ω → List Sl → (W.Ω → Int → Int → Prop) → (W.Ω → Exn → Prop) → Prop
def qListRg (qr : QTR W) : QT W := fun ω ρ Q E => qr ω ρ (fun ω1 i j => RgOk i j ∧ Q ω1 (.lst (dInts (rgI i j)))) E
def qTupRg (qr : QTR W) : QT W := fun ω ρ Q E => qr ω ρ (fun ω1 i j => RgOk i j ∧ Q ω1 (.tup (dInts (rgI i j)))) E
theorem PRg.imp {X : Cx} {e : Expr} {t t' : L2.St → Hp → (Int → Int → Hp → Prop) → Prop} (h : PRg X e t) (k : ∀ σ H Q, t' σ H Q → t σ H Q) : PRg X e t' := fun pins s σ H Q I q => h pins s σ H Q I (k σ H Q q)
end
abbrev PSp (W : Wrl) := W.Ω → List D → (W.Ω → D → Prop) → (W.Ω → Exn → Prop) → Prop
def spM (mr : Md) (K : PySem.W.Frag) (W : Wrl) (pf : PSp W) : Sp := fun vs H Q E => ∃ (S T : ASet) (ω : W.Ω) (ds : List D) (Qp : W.Ω → D → Prop) (Ep : W.Ω → Exn → Prop), (∀ a, S a → H a ≠ none ∧ ¬ T a) ∧ W.inv ω T H ∧ RepsA K H (fun a => S a ∨ T a) ds vs ∧ pf ω ds Qp Ep ∧
  (∀ T' ω' d v H', Ext T H T' H' → W.inv ω' T' H' → RT mr K ⟨H, S, T, []⟩ T' H' d v → Qp ω' d → Q v H') ∧ ∀ T' ω' x cls dd H', Ext T H T' H' → W.inv ω' T' H' → XRep K H' x cls dd → Ep ω' x → E cls dd H'
def inW (W : Wrl) (pf : PSp W0) : PSp W := fun ω ds Q E => pf () ds (fun _ d => Q ω d) fun _ x => E ω x
def pureP {W : Wrl} (pf : PSp W) : PSp W := fun ω ds Q E => pf ω ds (fun ω' d => d.pure = true ∧ Q ω' d) E
section
variable {K : PySem.W.Frag} {W : Wrl} {Wo : WX} {mr m : Md} {pf : PSp W} {qs : QTA W}
theorem spM_inW {pf : PSp W0} {vs : List V} {H : Hp} {Q : VK} {E : XK} (h : spM mr K W (inW W pf) vs H Q E) : spM mr K W0 pf vs H Q E := by
  obtain ⟨S, T, ω, ds, Qp, Ep, hS, hi, r, q, k, kx⟩ := h
  refine ⟨fun a => S a ∨ T a, nop, (), ds, _, _, fun a z => ⟨fun e => ?_, fun z => z⟩, fun a z => z, r.less fun a z => z.elim id fun z => z.elim, q, fun T' ω' d v H' e i' rt q' => ?_, fun T' ω' x cls dd H' e i' xr q' => ?_⟩
  · rcases z with z | z
    · exact (hS a z).1 e
    · obtain ⟨o, h, _⟩ := W.lv hi z
      rw [h] at e; cases e
  · have e' : Ext T H T H' := Ext.of0 e.gr
    refine k T ω d v H' e' (W.st hi e.gr fun _ z => z.elim) ?_ q'
    cases mr with
    | F =>
      obtain ⟨l, xs, es, h1, h2, h3, h4, h5, h6⟩ := rt
      exact ⟨l, xs, es, h1, h2, h3, fun z => h4 (.inl z), h5, h6.less fun a z => z.imp (fun z => .inl z) id⟩
    | A => exact RepA.less (show RepA K H' _ d v from rt) fun a z => .inl z
    | O => exact RepA.less (show RepA K H' _ d v from rt) fun a z => .inl z
    | C => exact RepA.less (show RepA K H' _ d v from rt) fun a z => .inl z
  · exact kx T ω x cls dd H' (Ext.of0 e.gr) (W.st hi e.gr fun _ z => z.elim) xr q'
theorem FnOk.inW {P : Program} {w : World} {mg : Str → Option Value} {base : Heap} {CX : CXT} {k : Nat} {f : Addr} {fd : FuncData} {ps : List Str} {pf : PSp W0} (F : FnOk P w K mg base CX k f fd ps (spM mr K W0 pf)) (W : Wrl) : FnOk P w K mg base CX k f fd ps (spM mr K W (inW W pf)) := F.imp fun _ _ _ _ => spM_inW
theorem FnR.inW {P : Program} {w : World} {mg : Str → Option Value} {base : Heap} {CX : CXT} {k : Nat} {f : Addr} {pf : PSp W0} (F : FnR P w K mg base CX k f (spM mr K W0 pf)) (W : Wrl) : FnR P w K mg base CX k f (spM mr K W (inW W pf)) := F.imp fun _ _ _ _ => spM_inW
def qCall (pf : PSp W) (qs : QTA W) : QT W := fun ω ρ Q E => qs ω ρ (fun ω1 ds => pf ω1 ds Q E) E
theorem rt_rr {F : Frm} {T T' : ASet} {ρ : List Sl} {H H1 H' : Hp} {d : D} {v : V} (live : ∀ a, H1 a = none → H a = none) (h : RT mr K ⟨H1, fun a => F.S a ∨ a ∈ owns ρ, T, []⟩ T' H' d v) : RR mr K H H' (Spr F T' ρ) (owns ρ) d v := by
  have hs : ∀ a, Spr F T' ρ a → (F.S a ∨ a ∈ owns ρ) ∨ T' a := fun a z => by
    rcases z with z | z | z
    · exact .inl (.inl z)
    · exact .inr z
    · exact .inl (.inr z)
  cases mr with
  | F =>
    obtain ⟨l, xs, es, h1, h2, h3, h4, h5, h6⟩ := h
    exact ⟨l, xs, es, h1, h2, live l h3, fun z => h4 (hs l z), h5, h6.less fun a z => z.imp (hs a) id⟩
  | A => exact RepA.less (show RepA K H' _ d v from h) hs
  | O => exact .inl (RepA.less (show RepA K H' _ d v from h) hs)
  | C => exact .inl (.inl (RepA.less (show RepA K H' _ d v from h) hs))
theorem sp_at {F : Frm} {T T1 : ASet} {ω1 : W.Ω} {ρ : List Sl} {σ : L2.St} {H H1 : Hp} {ds : List D} {vs : List V} {Qp : W.Ω → D → Prop} {Ep : W.Ω → Exn → Prop} {Q : VK} (R1 : Rel K W F T1 ω1 ρ σ H1) (e1 : Ext T H T1 H1) (hx : XOk K W Wo F ρ σ Ep) (r : RepsA K H1 (Spr F T1 ρ) ds vs) (q : pf ω1 ds Qp Ep)
    (k : ∀ T' ω' d v H', Rel K W F T' ω' ρ σ H' → Ext T H T' H' → RR mr K H H' (Spr F T' ρ) (owns ρ) d v → Qp ω' d → Q v H') : spM mr K W pf vs H1 Q (WE Wo σ) := by
  refine ⟨fun a => F.S a ∨ a ∈ owns ρ, T1, ω1, ds, Qp, Ep, fun a z => ⟨R1.spl a (z.imp id fun z => .inr z), z.elim (fun z => (R1.s0 a z).2) fun z => (R1.own a z).2.1⟩, R1.inv, r.less fun a z => ?_, q, fun T' ω' d v H' e i' rt q' => ?_, fun T' ω' x cls dd H' e i' xr q' => ?_⟩
  · rcases z with (z | z) | z
    · exact .inl z
    · exact .inr (.inr z)
    · exact .inr (.inl z)
  · exact k T' ω' d v H' (R1.world e i') (e1.trans e) (rt_rr e1.gr.live rt) q'
  · exact hx T' ω' x cls dd H' (R1.world e i') xr q'
end
section
variable {X : Cx} {W : Wrl} {Wo : WX} {mr m m1 m2 : Md} {pf : PSp W} {qs : QTA W} {qo : QT W} {k : Nat} {f C : Addr} {fd : FuncData} {ps : List Str} {x mn : Str} {p pos apos : Pos} {e o a b fe : Expr} {es : List Expr} {qa qb : QT W}
theorem qe_call (F : FnOk X.prog X.w X.K X.mg X.base (L2N.CX X.prog X.w) k f fd ps (spM mr X.K W pf)) (hr : Room k X.A) (hg : Gl X x) (hm : X.mg x = some (.ref f)) (hk : PySem.W.keepIn X.K (.ref f) = true) (hb : Binds X.K fd ps []) (hx : ∀ σ, PassesAt (L2N.CX X.prog X.w) X σ (WE Wo σ))
    (ha : QA X .A W Wo (e :: es) qs) (hdb : (x == ("__debug__" : Str)) = false := by decide) (he : starEach (e :: es) X.env = (false, eval e X.env) :: starEach es X.env := by rfl) (hpl : (backTo pos (starEach es X.env)).any (·.1) = false := by rfl) :
    QE X mr W Wo (.Call (.Name x p) (e :: es) [] pos) (qCall pf qs) := PE.imp (pe_callS F hr hg hm hk hb hx ha hdb he hpl) fun σ H Q ⟨F, T, ω, ρ, Qp, Ep, R, q, hx, k⟩ =>
  ⟨F, T, ω, ρ, _, Ep, R, q, hx, fun T1 ω1 ds vs H1 R1 e1 r1 q1 => sp_at R1 e1 hx r1.reps q1 k⟩
def qMeth (C : Addr) (mn : Str) (pf : PSp W) (qo : QT W) (qs : QTA W) : QT W := fun ω ρ Q E => qo ω ρ (fun ω1 d => ∃ ns ds, d = .ins C ns ds ∧ mn ∉ ns ∧ qs ω1 ρ (fun ω2 es => pf ω2 (d :: es) Q E) E) E
theorem RC.insR {K : PySem.W.Frag} {H : Hp} {S : ASet} {os : List Addr} {ns : List Str} {ds : List D} {v : V} (h : RC K H S os (.ins C ns ds) v) : ∃ a dx xs, v = .ref a ∧ H a = some (.ins C dx (ns.zip xs)) ∧ RepA K H S (.ins C ns ds) (.ref a) := by
  rcases h with (h | ⟨l, xs, ds', rfl, e, m, h, r⟩) | ⟨a, xs, ds', rfl, e, h, r⟩
  · have h' := h
    cases h with
    | ins h i l r => exact ⟨_, _, _, rfl, h, h'⟩
  · cases e
  · cases e
def qObj (C : Addr) (pf : PSp W) (qo : QT W) (qs : QTA W) : QT W := fun ω ρ Q E => qo ω ρ (fun ω1 d => ∃ ns ds, d = .ins C ns ds ∧ qs ω1 ρ (fun ω2 es => pf ω2 (d :: es) Q E) E) E
theorem qe_obj (hf : QE X m W Wo fe qo) (c : StX.CallO X.K C f) (F : FnR X.prog X.w X.K X.mg X.base (L2N.CX X.prog X.w) k f (spM mr X.K W pf)) (hr : Room k X.A) (hx : ∀ σ, PassesAt (L2N.CX X.prog X.w) X σ (WE Wo σ)) (ha : QA X .A W Wo (e :: es) qs)
    (ht : eval (.Call fe (e :: es) [] pos) X.env = (do callWith pos (← eval fe X.env) [] (backTo pos (starEach (e :: es) X.env)) (backToKw pos (keywordEach [] X.env))) := by rfl)
    (he : starEach (e :: es) X.env = (false, eval e X.env) :: starEach es X.env := by rfl) (hpl : (backTo pos (starEach es X.env)).any (·.1) = false := by rfl) : QE X mr W Wo (.Call fe (e :: es) [] pos) (qObj C pf qo qs) := PE.imp (pe_callOS hf c F hr hx ha ht he hpl) fun σ H Q ⟨F, T, ω, ρ, Qp, Ep, R, q, hx, k⟩ =>
  ⟨F, T, ω, ρ, _, Ep, R, q, hx, fun T1 ω1 d v H1 R1 e1 r1 ⟨ns, ds, z, q1⟩ => by
    subst z
    obtain ⟨a, dx, xs, rfl, h1, ra⟩ := r1.c.insR
    exact ⟨a, rfl, F, T1, ω1, ρ, _, Ep, R1, q1, hx, fun T2 ω2 es vs H2 R2 e2 r2 q2 => by
      have ra2 := R1.ext_rep e2 ra
      obtain ⟨a', dx', xs', e', h2, _⟩ := RC.insR (.inl (.inl ra2) : RC X.K H2 _ (owns ρ) _ _)
      cases e'
      exact ⟨⟨dx', _, h2⟩, sp_at R2 (e1.trans e2) hx (.cons ra2 r2.reps) q2 k⟩⟩⟩
def qBin (C : Addr) (pf : PSp W) (qa qb : QT W) : QT W := fun ω ρ Q E => qa ω ρ (fun ω1 x => qb ω1 ρ (fun ω2 y => ∃ ns ds ns' ds', x = .ins C ns ds ∧ y = .ins C ns' ds' ∧ pf ω2 [x, y] Q E) E) E
theorem qe_cmpO {op : CmpOp} (c : CmO X.K C (cmpInfo op).2.1 f) (hop : ∀ a b, compareOp op a b = richCompare op a b) (F : FnR X.prog X.w X.K X.mg X.base (L2N.CX X.prog X.w) k f (spM mr X.K W pf)) (hr : Room k X.A) (hx : ∀ σ, PassesAt (L2N.CX X.prog X.w) X σ (WE Wo σ)) (ha : QE X m1 W Wo a qa) (hb : QE X m2 W Wo b qb) (hm : behindInMarks op b = false) : QE X mr W Wo (.Compare a [op] [b] pos) (qBin C pf qa qb) := PE.imp (pe_cmpS c hop F hr hx ha hb hm) fun σ H Q ⟨F, T, ω, ρ, Qp, Ep, R, q, hx, k⟩ =>
  ⟨F, T, ω, ρ, _, Ep, R, q, hx, fun T1 ω1 d v H1 R1 e1 r1 q1 => ⟨F, T1, ω1, ρ, _, Ep, R1, q1, hx, fun T2 ω2 d2 v2 H2 R2 e2 r2 ⟨ns, ds, ns', ds', z, z', q2⟩ => by
    subst z z'
    obtain ⟨a, dx, xs, rfl, h1, ra⟩ := (R1.ext_RC e2 r1.c).insR
    obtain ⟨a', dx', xs', rfl, h1', ra'⟩ := r2.c.insR
    exact ⟨a, dx, _, a', dx', _, rfl, rfl, h1, h1', sp_at R2 (e1.trans e2) hx (.cons ra (.cons ra' .nil)) q2 k⟩⟩⟩
def qBinI (C : Addr) (pf : PSp W) (qa qb : QT W) : QT W := fun ω ρ Q E => qa ω ρ (fun ω1 x => qb ω1 ρ (fun ω2 y => ∃ ns ds i, x = .ins C ns ds ∧ y = .int i ∧ pf ω2 [x, y] Q E) E) E
def qInv (C : Addr) (pf : PSp W) (qa : QT W) : QT W := fun ω ρ Q E => qa ω ρ (fun ω1 x => ∃ ns ds, x = .ins C ns ds ∧ pf ω1 [x] Q E) E
structure MkP (K : PySem.W.Frag) (C : Addr) (sp : Sp) (pf : PSp W0) : Prop where
  run : ∀ (S T : ASet) (ds : List D) (vs : List V) (H : Hp) (Q : VK) (E : XK) (Qp : Unit → D → Prop) (Ep : Unit → Exn → Prop), (∀ a, S a → H a ≠ none) → RepsA K H S ds vs → pf () ds Qp Ep → (∀ d v H', GrP nop H H' → RepA K H' S d v → Qp () d → Q v H') →
    (∀ x cls dd H', GrP nop H H' → XRep K H' x cls dd → Ep () x → E cls dd H') → ∀ x dx, H x = none → H dx = none → dx ≠ x → sp (V.ref x :: vs) (mkHp H x dx C) (fun v H2 => v = .non ∧ Q (.ref x) H2) E
def qMake (C : Addr) (pf : PSp W0) (qf : QT W) (qs : QTA W) : QT W := fun ω ρ Q E => qf ω ρ (fun ω0 d => d = .adr C ∧ qs ω0 ρ (fun ω1 ds => inW W pf ω1 ds Q E) E) E
theorem RC.adr {K : PySem.W.Frag} {H : Hp} {S : ASet} {os : List Addr} {a : Addr} {v : V} (h : RC K H S os (.adr a) v) : v = .ref a := by
  rcases h with (h | ⟨l, xs, ds', rfl, e, m, h, r⟩) | ⟨a, xs, ds', rfl, e, h, r⟩
  · cases h; rfl
  · cases e
  · cases e
theorem qe_adr {v : Addr} (h : PE X e (tC (.ref v))) : QE X .A W Wo e (qC (.adr v)) := qe_c h fun _ _ => .adr v
theorem qe_make {sp : Sp} {pf : PSp W0} {qf : QT W} (hf : QE X m W Wo fe qf) (M : Mk X.K C f) (F : FnR X.prog X.w X.K X.mg X.base (L2N.CX X.prog X.w) k f sp) (mk : MkP X.K C sp pf) (hr : Room (k + 1) X.A) (hx : ∀ σ, PassesAt (L2N.CX X.prog X.w) X σ (WE Wo σ)) (ha : QA X .O W Wo (e :: es) qs)
    (ht : eval (.Call fe (e :: es) [] pos) X.env = (do callWith pos (← eval fe X.env) [] (backTo pos (starEach (e :: es) X.env)) (backToKw pos (keywordEach [] X.env))) := by rfl)
    (he : starEach (e :: es) X.env = (false, eval e X.env) :: starEach es X.env := by rfl) (hpl : (backTo pos (starEach es X.env)).any (·.1) = false := by rfl) : QE X .A W Wo (.Call fe (e :: es) [] pos) (qMake C (pureP pf) qf qs) := PE.imp (pe_makeS hf M F hr hx ha ht he hpl) fun σ H Q ⟨F, T, ω, ρ, Qp, Ep, R, q, hx, k⟩ =>
  ⟨F, T, ω, ρ, _, Ep, R, q, hx, fun T0 ω0 d v H0 R0 e0 r0 ⟨z, q0⟩ => by
    subst z
    refine ⟨r0.c.adr, F, T0, ω0, ρ, _, Ep, R0, q0, hx, fun T1 ω1 ds vs H1 R1 e1 r1 q1 x dx nx ndx ne => ?_⟩
    refine mk.run F.S nop ds vs H1 Q _ _ _ (fun a z => R1.spl a (.inl z)) (r1.off (fun a z => .inl z) fun l h z => (R1.own l h).2.2 z) q1 (fun d v H' g r ⟨hp, q⟩ => ?_) (fun y cls dd H' g r q => ?_) x dx nx ndx ne
    · exact k T1 ω1 d v H' (R1.grow g) ((e0.trans e1).trans (Ext.of0 g)) (RepA.any r hp) q
    · exact hx T1 ω1 y cls dd H' (R1.grow g) r q⟩
def qCMeth (C : Addr) (pf : PSp W) (qf : QT W) (qs : QTA W) : QT W := fun ω ρ Q E => qf ω ρ (fun ω0 d => d = .adr C ∧ qs ω0 ρ (fun ω1 ds => pf ω1 (.adr C :: ds) Q E) E) E
def qLenO (C : Addr) (pf : PSp W) (qs : QTA W) : QT W := fun ω ρ Q E => qs ω ρ (fun ω1 ds => ∃ ns es, ds = [.ins C ns es] ∧ pf ω1 ds (fun ω' d => ∃ n : Int, d = .int n ∧ 0 ≤ n ∧ n < 2 ^ 63 ∧ Q ω' d) (fun _ _ => False)) E
def fFld (C : Addr) (fn : Str) (d : D) (Q : D → Prop) : Prop := ∃ ns ds x, d = .ins C ns ds ∧ (ns.zip ds).lookup fn = some x ∧ Q x
theorem lookup_rep {K : PySem.W.Frag} {H : Hp} {S : ASet} {fn : Str} : ∀ {ns : List Str} {ds : List D} {xs : List V} {x : D}, RepsA K H S ds xs → (ns.zip ds).lookup fn = some x → ∃ v, (ns.zip xs).lookup fn = some v ∧ RepA K H S x v
  | [], _, _, _, _, h => by simp at h
  | _ :: _, _, _, _, .nil, h => by simp at h
  | n :: ns, _, _, _, .cons r rs, h => by
    rw [List.zip_cons_cons, List.lookup_cons] at h ⊢
    split at h
    · cases h
      exact ⟨_, rfl, r⟩
    · exact lookup_rep rs h
theorem qe_fld {fn : Str} (ha : QE X m W Wo a qa) (c : Cls X.K C) (n : NoAttr X.K C fn) (hb : attributeBase a fn X.env (eval a X.env) = eval a X.env := by rfl) : QE X .A W Wo (.Attribute a fn pos) (qUn (fFld C fn) qa) := PE.imp (pe_fld ha hb) fun σ H Q ⟨F, T, ω, ρ, Qp, Ep, R, q, hx, k⟩ =>
  ⟨F, T, ω, ρ, _, Ep, R, q, hx, fun T1 ω1 d v H1 R1 e1 r1 ⟨ns, ds, x, z, hl, q1⟩ => by
    subst z
    obtain ⟨a, dx, xs, rfl, h1, hlen, ra⟩ := r1.c.ins
    obtain ⟨u, hu, ru⟩ := lookup_rep ra hl
    exact ⟨a, C, dx, _, u, rfl, h1, c, n, hu, k T1 ω1 x u H1 R1 e1 ru q1⟩⟩
end
end LW
namespace LW
open PySem PySem.Spec PyProof.Rows L2
section
variable {K : PySem.W.Frag} {W : Wrl} {Wo : WX} {F : Frm} {mr : Md} {P : PEn W} {D : Ends} {T : ASet} {ω : W.Ω} {ρ : List Sl} {σ : L2.St} {H : Hp}
theorem Sim.xok (S : Sim mr K W Wo F P D) : XOk K W Wo F ρ σ (fun ω x => P.ex ω x ρ) := fun T ω x cls dd H R xr e => S.ex T ω ρ σ H x cls dd R xr e
theorem Sim.drop {h : List (LW.D × V)} (S : Sim mr K W Wo F P D) : Sim mr K W Wo (F.add h) P D where
  nx T ω ρ σ H R q := S.nx T ω ρ σ H R.drop q
  bk T ω ρ σ H R q := S.bk T ω ρ σ H R.drop q
  ct T ω ρ σ H R q := S.ct T ω ρ σ H R.drop q
  rt T ω ρ σ H d v R r q := S.rt T ω ρ σ H d v R.drop r q
  ex T ω ρ σ H x cls dd R r q := S.ex T ω ρ σ H x cls dd R.drop r q
end
section
variable {X : Cx} {W : Wrl} {Wo : WX} {mr m m1 m2 : Md} {e a b c : Expr} {st : Stmt} {sts ss ts : List Stmt} {es : List Expr} {i : Nat} {x : Str} {pos pos' : Pos} {q qa qb qc : QT W} {qs : QTA W} {qt : QTT W} {s u : QTS W}
def sNx : QTS W := fun P ω ρ => P.nx ω ρ
def sSeq (s u : QTS W) : QTS W := fun P ω ρ => s { P with nx := u P } ω ρ
theorem qss_nil : QSs X mr W Wo [] sNx := PSs.imp pss_nil fun D σ H ⟨F, T, ω, ρ, P, R, q, S⟩ => S.nx T ω ρ σ H R q
theorem qss_one (h : QS X mr W Wo st s) : QSs X mr W Wo [st] s := pss_one h
theorem qss_cons (h : QS X mr W Wo st s) (h2 : QSs X mr W Wo sts u) : QSs X mr W Wo (st :: sts) (sSeq s u) := PSs.imp (pss_cons h h2) fun D σ H ⟨F, T, ω, ρ, P, R, q, S⟩ =>
  ⟨F, T, ω, ρ, _, R, q, ⟨fun T ω ρ σ H R q => ⟨F, T, ω, ρ, P, R, q, S⟩, S.bk, S.ct, S.rt, S.ex⟩⟩
def sCut (s u : QTS W) : QTS W := fun P ω ρ => ∃ R : W.Ω → List Sl → Prop, s { P with nx := R } ω ρ ∧ ∀ ω ρ, R ω ρ → u P ω ρ
theorem qss_cut (h : QS X mr W Wo st s) (h2 : QSs X mr W Wo sts u) : QSs X mr W Wo (st :: sts) (sCut s u) := PSs.imp (pss_cons h h2) fun D σ H ⟨F, T, ω, ρ, P, R, ⟨N, q, k⟩, S⟩ =>
  ⟨F, T, ω, ρ, _, R, q, ⟨fun T ω ρ σ H R q => ⟨F, T, ω, ρ, P, R, k ω ρ q, S⟩, S.bk, S.ct, S.rt, S.ex⟩⟩
def sFrz (i : Nat) (s : QTS W) : QTS W := fun P ω ρ => s P ω (frz ρ i)
def sDrop (qa : QT W) : QTS W := fun P ω ρ => qa ω ρ (fun ω1 _ => P.nx ω1 ρ) fun ω1 x => P.ex ω1 x ρ
def sRet (qa : QT W) : QTS W := fun P ω ρ => qa ω ρ (fun ω1 d => P.rt ω1 d) fun ω1 x => P.ex ω1 x ρ
theorem rt_of {K : PySem.W.Frag} {F : Frm} {T T' : ASet} {ω ω' : W.Ω} {ρ : List Sl} {σ : L2.St} {H H' : Hp} {d : D} {v : V} (R : Rel K W F T' ω' ρ σ H') (hm : m.ow = true) (r : RR m K H H' (Spr F T' ρ) (owns ρ) d v) : RepA K H' (fun a => F.S a ∨ T' a) d v := by
  rcases r.o hm with r | ⟨l, xs, ds, rfl, rfl, mem, h, r⟩
  · exact r.less fun a z => z.imp id .inl
  · exact .lst h (fun z => z.elim (R.own l mem).2.2 (R.own l mem).2.1) (r.less fun a z => z.imp id .inl)
theorem qs_ret (he : QE X m W Wo e qa) (hm : m.ow = true := by rfl) : QS X .A W Wo (.Return (some e) pos) (sRet qa) := PS.imp (ps_ret he) fun D σ H ⟨F, T, ω, ρ, P, R, q, S⟩ =>
  ⟨F, T, ω, ρ, _, _, R, q, S.xok, fun T' ω' d v H' R' e r q' => S.rt T' ω' ρ σ H' d v R' (rt_of (ω := ω) (T := T) R' hm r) q'⟩
theorem qs_retF (he : QE X .F W Wo e qa) : QS X .F W Wo (.Return (some e) pos) (sRet qa) := PS.imp (ps_ret he) fun D σ H ⟨F, T, ω, ρ, P, R, q, S⟩ =>
  ⟨F, T, ω, ρ, _, _, R, q, S.xok, fun T' ω' d v H' R' e ⟨l, xs, ds, h1, h2, h3, h4, h5, h6⟩ q' => S.rt T' ω' ρ σ H' d v R' ⟨l, xs, ds, h1, h2, R.gr.live l h3, fun z => h4 (z.imp id .inl), h5, h6.less fun a z => z.imp (fun z => z.imp id .inl) id⟩ q'⟩
def sRetO (i : Nat) : QTS W := fun P ω ρ => ∃ l ds, ρ[i]? = some (.ow l ds) ∧ P.rt ω (.lst ds)
def sRetN : QTS W := fun P ω _ => P.rt ω .non
def sBrk : QTS W := fun P ω ρ => P.bk ω ρ
def sCnt : QTS W := fun P ω ρ => P.ct ω ρ
def sIf (qt : QTT W) (s u : QTS W) : QTS W := fun P ω ρ => qt ω ρ (fun ω1 b => if b = true then s P ω1 ρ else u P ω1 ρ) fun ω1 x => P.ex ω1 x ρ
theorem qs_if (hc : QB X W Wo c qt) (ha : QSs X mr W Wo ss s) (hb : QSs X mr W Wo ts u) : QS X mr W Wo (.If c ss ts pos) (sIf qt s u) := PS.imp (ps_if hc ha hb) fun D σ H ⟨F, T, ω, ρ, P, R, q, S⟩ =>
  ⟨F, T, ω, ρ, _, _, R, q, S.xok, fun T' ω' b H' R' e q' => by
    cases b with
    | true => exact ⟨F, T', ω', ρ, P, R', q', S⟩
    | false => exact ⟨F, T', ω', ρ, P, R', q', S⟩⟩
def sSet (i : Nat) (qa : QT W) : QTS W := fun P ω ρ => qa ω ρ (fun ω1 d => P.nx ω1 (ρ.set i (.va d))) fun ω1 x => P.ex ω1 x ρ
theorem qs_set (hN : X.N.Nodup) (hi : X.N[i]? = some x) (hx : Loc X.env.scope x) (he : QE X m W Wo e qa) (hm : m.st = true := by rfl) (hs : swapsWith e (some (.Name x pos')) pos.line X.env = pure false := by rfl) (hf : X.fn x = true ∨ X.env.scope.names.lookup x = some .local := by first | exact .inl rfl | exact .inr rfl | assumption) :
    QS X mr W Wo (.Assign [.Name x pos'] e pos) (sSet i qa) := PS.imp (ps_set hN hi hx he hs hf) fun D σ H ⟨F, T, ω, ρ, P, R, q, S⟩ =>
  ⟨F, T, ω, ρ, _, _, R, q, S.xok, fun T' ω' d v H' R' e r q' => S.nx T' ω' _ _ H' (R'.set_va (r.a hm) i) q'⟩
def sSetO (i : Nat) (qa : QT W) : QTS W := fun P ω ρ => qa ω ρ (fun ω1 d => ∃ ds, d = .lst ds ∧ ∀ l, P.nx ω1 (ρ.set i (.ow l ds))) fun ω1 x => P.ex ω1 x ρ
theorem qs_setO (hN : X.N.Nodup) (hi : X.N[i]? = some x) (hx : Loc X.env.scope x) (he : QE X .F W Wo e qa) (hs : swapsWith e (some (.Name x pos')) pos.line X.env = pure false := by rfl) (hf : X.fn x = true ∨ X.env.scope.names.lookup x = some .local := by first | exact .inl rfl | exact .inr rfl | assumption) :
    QS X mr W Wo (.Assign [.Name x pos'] e pos) (sSetO i qa) := PS.imp (ps_set hN hi hx he hs hf) fun D σ H ⟨F, T, ω, ρ, P, R, q, S⟩ =>
  ⟨F, T, ω, ρ, _, _, R, q, S.xok, fun T' ω' d v H' R' e ⟨l, xs, ds, h1, h2, h3, h4, h5, h6⟩ ⟨ds', z, q'⟩ => by
    subst h1 h2
    cases z
    exact S.nx T' ω' _ _ H' (R.set_ow R' e h3 h4 h5 h6 i) (q' l)⟩
def sAug (i : Nat) (g : Int → Int → Int) (qa : QT W) : QTS W := fun P ω ρ => ∃ n, ρ[i]? = some (.va (.int n)) ∧ qa ω ρ (fun ω1 d => ∃ k, d = .int k ∧ P.nx ω1 (ρ.set i (.va (.int (g n k))))) fun ω1 x => P.ex ω1 x ρ
abbrev QTG := D → List Sl → (List Sl → Prop) → Prop
abbrev QTGs := List D → List Sl → (List Sl → Prop) → Prop
def lfG (m : Md) (K : PySem.W.Frag) (W : Wrl) (ts : List Nat) (g : QTG) : TG := fun v σ H Q => ∃ (F : Frm) (T : ASet) (ω : W.Ω) (ρ : List Sl) (d : D) (k : List Sl → Prop), Rel K W F T ω ρ σ H ∧ RR m K H H (Spr F T ρ) (owns ρ) d v ∧ g d ρ k ∧ ∀ ρ' σ', Rel K W F T ω ρ' σ' H → σ'.length = σ.length → (∀ j, j ∉ ts → σ'[j]? = σ[j]?) → k ρ' → Q σ' H
def QG (X : Cx) (m : Md) (W : Wrl) (e : Expr) (ts : List Nat) (g : QTG) : Prop := PG X e (lfG m X.K W ts g)
theorem PG.imp {X : Cx} {e : Expr} {t t' : TG} (h : PG X e t) (k : ∀ v σ H Q, t' v σ H Q → t v σ H Q) : PG X e t' := ⟨fun pins s σ H v u Q I r q => h.run pins s σ H v u Q I r (k v σ H _ q)⟩
theorem PGs.imp {X : Cx} {e : List Expr} {t t' : TGs} (h : PGs X e t) (k : ∀ v σ H Q, t' v σ H Q → t v σ H Q) : PGs X e t' := ⟨fun pins s σ H v u Q I r q => h.run pins s σ H v u Q I r (k v σ H _ q)⟩
def gnm (i : Nat) : QTG := fun d ρ k => k (ρ.set i (.va d))
def gtp (n : Nat) (g : QTGs) : QTG := fun d ρ k => ∃ ds, d = .tup ds ∧ ds.length = n ∧ g ds ρ k
def gsn : QTGs := fun ds ρ k => ds = [] ∧ k ρ
def gsc (g : QTG) (gs : QTGs) : QTGs := fun ds ρ k => ∃ d ds', ds = d :: ds' ∧ g d ρ fun ρ' => gs ds' ρ' k
theorem set_ne {σ : L2.St} {i : Nat} {o : Option V} : ∀ j, j ∉ [i] → (σ.set i o)[j]? = σ[j]? := fun j hj => List.getElem?_set_ne (fun z => hj (by rw [z]; exact List.mem_cons_self))
theorem qg_name (hN : X.N.Nodup) (hi : X.N[i]? = some x) (hx : Loc X.env.scope x) (hf : X.fn x = true ∨ X.env.scope.names.lookup x = some .local := by first | exact .inl rfl | exact .inr rfl | assumption) : QG X .A W (.Name x pos) [i] (gnm i) := PG.imp (pg_name hN hi hx hf) fun v σ H Q ⟨F, T, ω, ρ, d, k, R, r, g, kk⟩ =>
  kk _ _ (R.set_va r i) (List.length_set ..) set_ne g
def sAsg (g : QTG) (qa : QT W) : QTS W := fun P ω ρ => qa ω ρ (fun ω1 d => g d ρ fun ρ' => P.nx ω1 ρ') fun ω1 x => P.ex ω1 x ρ
def sApp (i : Nat) (qa : QT W) : QTS W := fun P ω ρ => ∃ l ds, ρ[i]? = some (.ow l ds) ∧ ds.length < 1000000 ∧ qa ω ρ (fun ω1 d => P.nx ω1 (ρ.set i (.ow l (ds ++ [d])))) fun ω1 x => P.ex ω1 x ρ
theorem qs_app {to : TE} {o : Expr} {apos : Pos} (hto : to = tVar i) (ho : PE X o to) (ha : QE X m W Wo e qa) (hm : m.st = true := by rfl)
    (hbase : attributeBase o "append" X.env (eval o X.env) = eval o X.env := by rfl)
    (hfew : ((backTo pos' (starEach [e] X.env)).all (fun x => !x.1) && (backToKw pos' (keywordEach [] X.env)).all (fun x => x.1.isSome)
      && decide ([e].length + ([] : List Keyword).length + (if ([] : List Keyword).isEmpty then 0 else 1) < 30)) = true := by rfl)
    (hline : (apos.endLine == pos'.line) = true := by rfl) (hst : starEach [e] X.env = (false, eval e X.env) :: starEach [] X.env := by rfl) (hplain : (backTo pos' (starEach [] X.env)).any (·.1) = false := by rfl)
    (hs : swapsWith (.Call (.Attribute o "append" apos) [e] [] pos') none pos.line X.env = pure false := by rfl) :
    QS X mr W Wo (.Expr (.Call (.Attribute o "append" apos) [e] [] pos') pos) (sApp i qa) := PS.imp (ps_expr (pe_bm PySem.F.plainAttrs_list PySem.F.slot_list_append PySem.F.type_list_append mt_append ho (pa_cons ha pa_nil hst) hbase hfew hline hst hplain) hs) fun D σ H ⟨F, T, ω, ρ, P, R, ⟨l, ds, hi, hl, q⟩, S⟩ => by
  subst hto
  obtain ⟨hv, xs, h1, r⟩ := R.sl.get_ow hi
  refine ⟨.ref l, hv, .inl ⟨rfl, xs, sql_of h1⟩, F, T, ω, ρ, _, _, R, q, S.xok, fun T' ω' d v H' R' e r' q' => ?_⟩
  obtain ⟨_, xs', h1', rr⟩ := R'.sl.get_ow hi
  exact ⟨l, xs', v, rfl, rfl, h1', Nat.lt_of_lt_of_le (by rw [rr.len]; exact hl) (by decide), S.nx T' ω' _ _ _ (R'.wr hi (RepsA.append (.cons (r'.a hm) .nil) rr)) q'⟩
def sPut (i : Nat) (qk qa : QT W) : QTS W := fun P ω ρ => qa ω ρ (fun ω1 d => ∃ l ds, ρ[i]? = some (.ow l ds) ∧ qk ω1 ρ (fun ω2 y => ∃ n j, y = .int n ∧ ixN ds.length n = some j ∧ P.nx ω2 (ρ.set i (.ow l (ds.set j d)))) fun ω1 x => P.ex ω1 x ρ) fun ω1 x => P.ex ω1 x ρ
def sRaise (x : Exn) : QTS W := fun P ω ρ => P.ex ω x ρ
theorem qs_raise {C : Addr} (h : PS X st (fun _ σ H => Wo (.ref C) none σ H)) : QS X mr W Wo st (sRaise ⟨C, none⟩) := PS.imp h fun D σ H ⟨F, T, ω, ρ, P, R, q, S⟩ => S.ex T ω ρ σ H ⟨C, none⟩ _ _ R ⟨rfl, rfl⟩ q
abbrev QTI (W : Wrl) := W.Ω → List Sl → (W.Ω → List D → Prop) → (W.Ω → Exn → Prop) → Prop
def ItOk (mi : Md) (K : PySem.W.Frag) (W : Wrl) (h : List (D × V)) (ds : List D) (J : It) : Prop := ∀ F T ω ρ σ H, (∀ p, p ∈ h → p ∈ F.hid) → Rel K W F T ω ρ σ H → ∀ i, (i < ds.length → J.go i H) ∧ (ds.length ≤ i → J.stop i H) ∧ ∀ d x H2, ds[i]? = some d → J.yld i H x H2 → GrP nop H H2 ∧ RR mi K H2 H2 (Spr F T ρ) (owns ρ) d x
def lfI (mi : Md) (K : PySem.W.Frag) (W : Wrl) (Wo : WX) (q : QTI W) : TI := fun σ H Rj => ∃ (F : Frm) (T : ASet) (ω : W.Ω) (ρ : List Sl) (Qp : W.Ω → List D → Prop) (Ep : W.Ω → Exn → Prop), Rel K W F T ω ρ σ H ∧ q ω ρ Qp Ep ∧ XOk K W Wo F ρ σ Ep ∧
  ∀ T' ω' h ds J H', Rel K W (F.add h) T' ω' ρ σ H' → Ext T H T' H' → ItOk mi K W h ds J → Qp ω' ds → Rj J H'
def QI (X : Cx) (mi : Md) (W : Wrl) (Wo : WX) (tg iter : Expr) (q : QTI W) : Prop := PI X tg iter (lfI mi X.K W Wo q)
theorem PI.imp {X : Cx} {tg e : Expr} {t t' : TI} (h : PI X tg e t) (k : ∀ σ H R, t' σ H R → t σ H R) : PI X tg e t' := ⟨fun pins s σ H R I q => h.run pins s σ H R I (k σ H R q)⟩
def iSeq (qa : QT W) : QTI W := fun ω ρ Q E => qa ω ρ (fun ω1 d => ∃ ds, d = .lst ds ∧ Q ω1 ds) E
def iTupl (qa : QT W) : QTI W := fun ω ρ Q E => qa ω ρ (fun ω1 d => ∃ ds, d = .tup ds ∧ Q ω1 ds) E
theorem repA_lst {K : PySem.W.Frag} {H : Hp} {S : ASet} {ds : List D} {v : V} (h : RepA K H S (.lst ds) v) : ∃ l xs, v = .ref l ∧ SqL K H l xs ∧ RepsA K H S ds xs := by
  cases h with
  | lst h n r => exact ⟨_, _, rfl, sql_of h, r⟩
  | lsf h r => exact ⟨_, _, rfl, sql_frz h, r⟩
theorem qi_lst {tg : Expr} (ha : QE X m W Wo a qa) (hm : m.st = true := by rfl) : QI X .A W Wo tg a (iSeq qa) := PI.imp (pi_list ha) fun σ H Rj ⟨F, T, ω, ρ, Qp, Ep, R, q, hx, k⟩ =>
  ⟨F, T, ω, ρ, _, Ep, R, q, hx, fun T1 ω1 d v H1 R1 e1 r1 ⟨ds, z, q1⟩ => by
    subst z
    have ra := r1.a hm
    obtain ⟨l, xs, rfl, hl, _⟩ := repA_lst ra
    refine ⟨l, rfl, ⟨xs, hl⟩, k T1 ω1 [(.lst ds, .ref l)] ds _ H1 (R1.put fun p hp => ?_) e1 (fun F T ω ρ σ H hh R i => ?_) q1⟩
    · have : p = (.lst ds, .ref l) := by simpa using hp
      rw [this]; exact ra
    · obtain ⟨l', xs', e', hl', rr⟩ := repA_lst (R.hd _ (hh (.lst ds, .ref l) List.mem_cons_self))
      cases e'
      refine ⟨fun hi => ?_, fun hi => ⟨xs', hl', by rw [rr.len]; exact hi⟩, fun d x H2 hd hy => ?_⟩
      · obtain ⟨v, hv, _⟩ := rr.get (List.getElem?_eq_getElem hi)
        exact ⟨xs', v, hl', hv⟩
      · obtain ⟨z, hx⟩ := hy
        subst z
        obtain ⟨v, hv, rv⟩ := rr.get hd
        have := hx xs' hl'
        rw [hv] at this
        cases this
        exact ⟨GrP.refl _ _, rv⟩⟩
theorem itr_ok {K : PySem.W.Frag} {lo : Int} {n : Nat} : ItOk .A K W [] (dInts (rgI lo (lo + n))) (Itr lo n) := fun F T ω ρ σ H _ R i => by
  have hl : (dInts (rgI lo (lo + n))).length = n := by unfold dInts rgI; rw [List.length_map, List.length_map, List.length_range]; omega
  refine ⟨fun h => by rw [hl] at h; exact h, fun h => by rw [hl] at h; exact h, fun d x H2 hd hy => ?_⟩
  obtain ⟨z, hx⟩ := hy
  subst z hx
  have hi : i < n := by rw [← hl]; exact (List.getElem?_eq_some_iff.mp hd).1
  unfold dInts rgI at hd
  rw [List.getElem?_map, List.getElem?_map, List.getElem?_range (by omega)] at hd
  cases hd
  exact ⟨GrP.refl _ _, .int _⟩
def RgB (i : Int) : Prop := -(2 ^ 62) ≤ i ∧ i < 2 ^ 62
def iRg1 (qa : QT W) : QTI W := fun ω ρ Q E => qa ω ρ (fun ω1 d => ∃ n, d = .int n ∧ RgB n ∧ Q ω1 (dInts (rgI 0 n))) E
def iRg2 (qa qb : QT W) : QTI W := fun ω ρ Q E => qa ω ρ (fun ω1 d => qb ω1 ρ (fun ω2 d2 => ∃ n k, d = .int n ∧ d2 = .int k ∧ RgB n ∧ RgB k ∧ Q ω2 (dInts (rgI n k))) E) E
theorem rgI_nat {lo hi : Int} : rgI lo (lo + ((hi - lo).toNat : Nat)) = rgI lo hi := by
  unfold rgI
  rw [show (lo + ((hi - lo).toNat : Nat) - lo).toNat = (hi - lo).toNat by omega]
theorem qi_rg1 {tg : Expr} {p : Pos} (hg : Gl X "range") (hm : X.mg "range" = none) (ha : QE X m W Wo a qa) (h1 : starEach [a] X.env = (false, eval a X.env) :: starEach [] X.env := by rfl) (hs : starEach [a] X.env = [(false, eval a X.env)] := by rfl) : QI X .A W Wo tg (.Call (.Name "range" p) [a] [] pos) (iRg1 qa) := PI.imp (pi_range1 hg hm (pa_cons ha pa_nil h1) hs) fun σ H Rj ⟨F, T, ω, ρ, Qp, Ep, R, q, hx, k⟩ =>
  ⟨F, T, ω, ρ, _, Ep, R, q, hx, fun T1 ω1 d v H1 R1 e1 r1 ⟨n, z, hb, q1⟩ => by
    subst z
    refine ⟨n, by rw [r1.c.int], hb.1, hb.2, k T1 ω1 [] _ _ H1 R1 e1 itr_ok ?_⟩
    have := rgI_nat (lo := 0) (hi := n)
    rw [Int.sub_zero] at this
    rw [this]
    exact q1⟩
def sFor (qi : QTI W) (g : QTG) (s : QTS W) : QTS W := fun P ω ρ => qi ω ρ (fun ω1 ds => ∃ I : Nat → W.Ω → List Sl → Prop, I 0 ω1 ρ ∧ (∀ i d ω ρ, ds[i]? = some d → I i ω ρ → g d ρ fun ρ' => s { P with nx := I (i + 1), ct := I (i + 1), bk := P.nx } ω ρ') ∧ ∀ ω ρ, I ds.length ω ρ → P.nx ω ρ) fun ω1 x => P.ex ω1 x ρ
theorem qs_for {tg iter : Expr} {t : List Nat} {qi : QTI W} {g : QTG} {body : List Stmt} (hp : PassesOwn (model X.prog X.w) X.A X.env X.xe) (hc : X.calm = true) (hi : QI X m W Wo tg iter qi) (hg : QG X m W tg t g) (hb : QSs X mr W Wo body s)
    (hs : ∀ x, foldedSetIterable iter X.env x = pure x := by intro _; rfl) : QS X mr W Wo (.For tg iter body [] pos) (sFor qi g s) := PS.imp (ps_for hp hc hi hg hb hs) fun D σ H ⟨F, T, ω, ρ, P, R, q, S⟩ =>
  ⟨F, T, ω, ρ, _, _, R, q, S.xok, fun T1 ω1 h ds J H1 R1 e1 it ⟨I, i0, hs, hd⟩ => by
    refine ⟨fun i n σ H => i + n = ds.length ∧ ∃ T ω ρ, Rel X.K W (F.add h) T ω ρ σ H ∧ I i ω ρ, ⟨ds.length, by omega, T1, ω1, ρ, R1, i0⟩, fun i n σ H ⟨hn, T2, ω2, ρ2, R2, q2⟩ => ?_⟩
    obtain ⟨h1, h2, h3⟩ := it _ T2 ω2 ρ2 σ H (fun p hp => List.mem_append_left _ hp) R2 i
    rcases Nat.lt_or_ge i ds.length with hi | hi
    · refine .inr ⟨h1 hi, fun σ H => ∃ T ω ρ, Rel X.K W (F.add h) T ω ρ σ H ∧ I (i + 1) ω ρ, fun σ' H' q => ⟨n - 1, by omega, by omega, q⟩, fun x H2 hy => ?_⟩
      obtain ⟨g2, rx⟩ := h3 ds[i] x H2 (List.getElem?_eq_getElem hi) hy
      have R3 := R2.grow g2
      refine ⟨F.add h, T2, ω2, ρ2, ds[i], _, R3, rx, hs i _ ω2 ρ2 (List.getElem?_eq_getElem hi) q2, fun ρ4 σ4 R4 _ _ q4 => ?_⟩
      exact ⟨F.add h, T2, ω2, ρ4, _, R4, q4, ⟨fun T ω ρ σ H R q => ⟨T, ω, ρ, R, q⟩, fun T ω ρ σ H R q => S.nx T ω ρ σ H R.drop q, fun T ω ρ σ H R q => ⟨T, ω, ρ, R, q⟩, fun T ω ρ σ H d v R r q => S.rt T ω ρ σ H d v R.drop r q, fun T ω ρ σ H x cls dd R r q => S.ex T ω ρ σ H x cls dd R.drop r q⟩⟩
    · have : i = ds.length := by omega
      subst this
      exact .inl ⟨h2 hi, S.nx T2 ω2 ρ2 σ H R2.drop (hd ω2 ρ2 q2)⟩⟩
end
end LW
namespace LW
open PySem PySem.Spec PyProof.Rows L2
def wipeP (ρ : List Sl) : List Nat → List Sl
  | [] => ρ
  | v :: vs => (wipeP ρ vs).set v .no
def Sl.pv : Sl → Bool
  | .no => true
  | .va _ => true
  | _ => false
def still (ρ : List Sl) : List Nat → Bool
  | [] => true
  | v :: vs => (match (wipeP ρ vs)[v]? with
    | some s => s.pv
    | none => true) && still ρ vs
section
variable {K : PySem.W.Frag} {W : Wrl} {F : Frm} {T T' T2 U : ASet} {ω ω' : W.Ω} {ρ ρ' : List Sl} {σ σ' : L2.St} {H H' H2 : Hp} {d : D} {v : V} {l : Addr} {ds : List D} {xs : List V} {i : Nat}
theorem Rel.wipe (R : Rel K W F T ω ρ σ H) : ∀ vs : List Nat, Rel K W F T ω (wipeP ρ vs) (L2.wipe σ vs) H
  | [] => R
  | v :: vs => (R.wipe vs).set_no none v
theorem set_set_self {α : Type} {xs : List α} {i : Nat} {a b : α} (h : xs[i]? = some a) : (xs.set i b).set i a = xs := by
  rw [List.set_set]
  refine List.ext_getElem? fun j => ?_
  rw [List.getElem?_set]
  split
  · rename_i z
    subst z
    rw [h]
    split
    · rfl
    · rename_i z
      rw [List.getElem?_eq_none (by omega)] at h
      cases h
  · rfl
theorem set_out {α : Type} {xs : List α} {i : Nat} {b : α} (h : xs[i]? = none) : xs.set i b = xs := List.set_eq_of_length_le (List.getElem?_eq_none_iff.mp h)
theorem wipeHid : ∀ (vs : List Nat), still ρ vs = true → Rel K W F T ω ρ σ H → ∃ hv : List (D × V), Rel K W (F.add hv) T ω (wipeP ρ vs) (L2.wipe σ vs) H ∧ ∀ F2 T2 ω2 H2, (∀ p, p ∈ hv → p ∈ F2.hid) → Rel K W F2 T2 ω2 (wipeP ρ vs) (L2.wipe σ vs) H2 → Rel K W F2 T2 ω2 ρ σ H2
  | [], _, R => ⟨[], R, fun F2 T2 ω2 H2 _ R2 => R2⟩
  | v :: vs, h, R => by
    have h' : ((match (wipeP ρ vs)[v]? with | some s => s.pv | none => true) && still ρ vs) = true := h
    obtain ⟨h1, h2⟩ := Bool.and_eq_true_iff.mp h'
    obtain ⟨hv, R1, back⟩ := wipeHid vs h2 R
    have R2 := R1.set_no none v
    cases e : (wipeP ρ vs)[v]? with
    | none =>
      refine ⟨hv, R2, fun F2 T2 ω2 H2 hh Rb => back F2 T2 ω2 H2 hh ?_⟩
      have e2 : (L2.wipe σ vs)[v]? = none := by
        rw [List.getElem?_eq_none_iff, ← R1.sl.len]
        exact List.getElem?_eq_none_iff.mp e
      have Rb' : Rel K W F2 T2 ω2 ((wipeP ρ vs).set v .no) ((L2.wipe σ vs).set v none) H2 := Rb
      rw [set_out e, set_out e2] at Rb'
      exact Rb'
    | some s =>
      rw [e] at h1
      obtain ⟨o, e2⟩ : ∃ o, (L2.wipe σ vs)[v]? = some o := by
        have := (List.getElem?_eq_some_iff.mp e).1
        rw [R1.sl.len] at this
        exact ⟨_, List.getElem?_eq_getElem this⟩
      cases s with
      | no =>
        refine ⟨hv, R2, fun F2 T2 ω2 H2 hh Rb => back F2 T2 ω2 H2 hh ?_⟩
        have Rb' : Rel K W F2 T2 ω2 ((wipeP ρ vs).set v .no) ((L2.wipe σ vs).set v none) H2 := Rb
        have Rc := Rb'.set_no o v
        rw [set_set_self e, set_set_self e2] at Rc
        exact Rc
      | va d =>
        obtain ⟨x, hx, rx⟩ := R1.sl.get_va e
        rw [e2] at hx
        cases hx
        refine ⟨(d, x) :: hv, ?_, fun F2 T2 ω2 H2 hh Rb => back F2 T2 ω2 H2 (fun p hp => hh p (List.mem_cons_of_mem _ hp)) ?_⟩
        · have : Rel K W ((F.add hv).add [(d, x)]) T ω (wipeP ρ vs) (L2.wipe σ vs) H := R1.put fun p hp => by
            have : p = (d, x) := by simpa using hp
            rw [this]; exact rx
          exact this.set_no none v
        · have Rb' : Rel K W F2 T2 ω2 ((wipeP ρ vs).set v .no) ((L2.wipe σ vs).set v none) H2 := Rb
          have Rc := Rb'.set_va (Rb'.hd _ (hh (d, x) List.mem_cons_self)) v
          rw [set_set_self e, set_set_self e2] at Rc
          exact Rc
      | ow l ds => cases h1
      | ex a dd x => cases h1
theorem owns_set_pv : ∀ {ρ : List Sl} {v : Nat}, (match ρ[v]? with | some s => s.pv | none => true) = true → owns (ρ.set v .no) = owns ρ
  | [], _, _ => rfl
  | .ow k ds :: r, 0, h => nomatch (show false = true from h)
  | .ex a b c :: r, 0, h => nomatch (show false = true from h)
  | .no :: r, 0, _ => rfl
  | .va _ :: r, 0, _ => rfl
  | .ow k ds :: r, v + 1, h => congrArg (k :: ·) (owns_set_pv (ρ := r) (v := v) (by simpa using h))
  | .no :: r, v + 1, h => owns_set_pv (ρ := r) (v := v) (by simpa using h)
  | .va _ :: r, v + 1, h => owns_set_pv (ρ := r) (v := v) (by simpa using h)
  | .ex _ _ _ :: r, v + 1, h => owns_set_pv (ρ := r) (v := v) (by simpa using h)
theorem owns_wipe : ∀ {vs : List Nat}, still ρ vs = true → owns (wipeP ρ vs) = owns ρ
  | [], _ => rfl
  | v :: vs, h => by
    have h' : ((match (wipeP ρ vs)[v]? with | some s => s.pv | none => true) && still ρ vs) = true := h
    obtain ⟨h1, h2⟩ := Bool.and_eq_true_iff.mp h'
    exact (owns_set_pv h1).trans (owns_wipe h2)
theorem owns_wipe_sub : ∀ vs : List Nat, (owns (wipeP ρ vs)).Sublist (owns ρ)
  | [] => List.Sublist.refl _
  | v :: vs => (owns_set_sub rfl v).trans (owns_wipe_sub vs)
theorem wipe_get {σ : L2.St} {j : Nat} : ∀ {vs : List Nat}, (L2.wipe σ vs)[j]? = if j ∈ vs then (if j < σ.length then some none else none) else σ[j]?
  | [] => by simp [L2.wipe]
  | v :: vs => by
    unfold L2.wipe
    rw [List.getElem?_set]
    by_cases h : v = j
    · subst h
      rw [if_pos rfl, wipe_length, if_pos List.mem_cons_self]
    · rw [if_neg h, wipe_get (vs := vs)]
      by_cases h2 : j ∈ vs
      · rw [if_pos h2, if_pos (List.mem_cons_of_mem _ h2)]
      · rw [if_neg h2, if_neg (by simp [h2]; exact fun z => h z.symm)]
theorem wipe_same {σ σ4 : L2.St} {vs ts : List Nat} (hl : σ4.length = (L2.wipe σ vs).length) (hf : ∀ j, j ∉ ts → σ4[j]? = (L2.wipe σ vs)[j]?) (ht : ∀ j, j ∈ ts → j ∈ vs) : L2.wipe σ4 vs = L2.wipe σ vs := by
  rw [wipe_length] at hl
  refine List.ext_getElem? fun j => ?_
  rw [wipe_get, wipe_get, hl]
  by_cases h : j ∈ vs
  · rw [if_pos h, if_pos h]
  · rw [if_neg h, if_neg h, hf j fun z => h (ht j z), wipe_get, if_neg h]
def Frm.grd (F : Frm) (l : Addr) : Frm := { F with S := fun a => F.S a ∨ a = l }
theorem Spr.grd {F : Frm} : ∀ a, Spr (F.grd l) T ρ a → Spr F T ρ a ∨ a = l := fun a z => by
  rcases z with (z | z) | z | z
  · exact .inl (.inl z)
  · exact .inr z
  · exact .inl (.inr (.inl z))
  · exact .inl (.inr (.inr z))
theorem Spr.ungrd {F : Frm} : ∀ a, Spr F T ρ a → Spr (F.grd l) T ρ a := fun a z => by
  rcases z with z | z | z
  · exact .inl (.inl z)
  · exact .inr (.inl z)
  · exact .inr (.inr z)
theorem Rel.guard (R : Rel K W F T ω ρ σ H) (h : H l = none) (o : HO) : Rel K W (F.grd l) T ω ρ σ (upd H l o) := by
  have g : GrP nop H (upd H l o) := GrP.new h
  have R1 := R.grow g
  have ee : ∀ a, Spr (F.grd l) T ρ a → Spr F T ρ a ∨ H a = none := fun a z => (Spr.grd a z).imp id fun z => by rw [z]; exact h
  refine ⟨R1.gr, R1.inv, R1.tn, fun k hk => ⟨(R1.own k hk).1, (R1.own k hk).2.1, fun z => Or.elim (show F.S k ∨ k = l from z) (R1.own k hk).2.2 fun z => R.spl k (.inr (.inr hk)) (by rw [z]; exact h)⟩, R1.nd, fun a z => ?_, fun p hp => (R.hd p hp).ext g (fun _ z => z.elim) ee, R.sl.ext g (fun _ z => z.elim) ee fun _ _ z => z⟩
  rcases z with z | z
  · exact R1.s0 a z
  · rw [z]
    exact ⟨fun z => (by rw [upd_same] at z; cases z), fun t => R.spl l (.inr (.inl t)) h⟩
theorem Rel.unguard (R : Rel K W (F.grd l) T ω ρ σ H) : Rel K W F T ω ρ σ H :=
  ⟨R.gr, R.inv, R.tn, fun k hk => ⟨(R.own k hk).1, (R.own k hk).2.1, fun z => (R.own k hk).2.2 (.inl z)⟩, R.nd, fun a z => R.s0 a (.inl z), fun p hp => (R.hd p hp).less Spr.ungrd, R.sl.less Spr.ungrd⟩
end
abbrev Wo0 : WX := fun _ _ _ _ => False
section
variable {X : Cx} {W : Wrl} {Wo : WX} {mi m : Md} {qi : QTI W} {g : QTG} {qt : QTT W} {qe : QT W} {vs ts : List Nat} {c : Expr} {ifs : List Expr}
def qLc (qi : QTI W) (g : QTG) (qt : QTT W) (qe : QT W) (vs : List Nat) : QT W := fun ω ρ Q E => qi ω ρ (fun ω1 ds => still ρ vs = true ∧ ds.length ≤ 1000000 ∧ ∃ I : Nat → W.Ω → List D → Prop, I 0 ω1 [] ∧
  (∀ i d ω acc, ds[i]? = some d → I i ω acc → acc.length ≤ i → g d (wipeP ρ vs) fun ρ2 => wipeP ρ2 vs = wipeP ρ vs ∧ qt ω ρ2 (fun ω2 b => if b = true then qe ω2 ρ2 (fun ω3 y => I (i + 1) ω3 (acc ++ [y])) (fun _ _ => False) else I (i + 1) ω2 acc) (fun _ _ => False)) ∧
  ∀ ω acc, I ds.length ω acc → Q ω (.lst acc)) E
def qYes : QTT W := fun ω _ Q _ => Q ω true
theorem PTs.imp {t t' : TT} (h : PTs X ifs t) (k : ∀ σ H Q, t' σ H Q → t σ H Q) : PTs X ifs t' := ⟨fun pins s σ H Q I q => h.run pins s σ H Q I (k σ H Q q)⟩
def QTs (X : Cx) (W : Wrl) (Wo : WX) (ifs : List Expr) (q : QTT W) : Prop := PTs X ifs (lfT X.K W Wo q)
theorem qts_nil : QTs X W Wo [] qYes := PTs.imp pts_nil fun σ H Q ⟨F, T, ω, ρ, Qp, Ep, R, q, hx, k⟩ => k T ω true H R .refl q
theorem qts_one (h : QB X W Wo c qt) : QTs X W Wo [c] qt := pts_one h
theorem lf_lc {K : PySem.W.Frag} (hts : ∀ j, j ∈ ts → j ∈ vs) (σ : L2.St) (H : Hp) (Q : VK) (h : lfE .F K W Wo (qLc qi g qt qe vs) σ H Q) : tLc (lfI mi K W Wo qi) (lfG mi K W ts g) (lfT K W Wo0 qt) (lfE .A K W Wo0 qe) vs σ H Q := by
  obtain ⟨F, T, ω, ρ, Qp, Ep, R, q, hx, k⟩ := h
  refine ⟨F, T, ω, ρ, _, Ep, R, q, hx, fun T1 ω1 h ds J H1 R1 e1 it ⟨hst, hlen, I, i0, hstep, hend⟩ D hD => ?_⟩
  obtain ⟨hv, Rw, back⟩ := wipeHid vs hst R1
  have F1D : F.H D = none := R1.gr.live D hD
  have Rg := Rw.guard hD (.lst [])
  have eD : Ext T1 H1 T1 (upd H1 D (.lst [])) := Ext.of0 (GrP.new hD)
  have hh : ∀ p, p ∈ h → p ∈ (((F.add h).add hv).grd D).hid := fun p hp => List.mem_append_right _ (List.mem_append_left _ hp)
  have hhv : ∀ p, p ∈ hv → p ∈ ((F.add h).add hv).hid := fun p hp => List.mem_append_left _ hp
  refine ⟨fun i n H => i + n = ds.length ∧ ∃ T ω acc xs, Rel K W (((F.add h).add hv).grd D) T ω (wipeP ρ vs) (L2.wipe σ vs) H ∧ Ext T1 H1 T H ∧ H D = some (.lst xs) ∧ RepsA K H (Spr (((F.add h).add hv).grd D) T (wipeP ρ vs)) acc xs ∧ acc.length ≤ i ∧ I i ω acc, ⟨ds.length, by omega, T1, ω1, [], [], Rg, eD, upd_same, .nil, Nat.le_refl _, i0⟩, fun i n H2 ⟨hn, T2, ω2, acc, xs, R2, e2, hD2, ra, hl, q2⟩ => ?_⟩
  obtain ⟨h1, h2, h3⟩ := it _ T2 ω2 _ _ H2 hh R2 i
  rcases Nat.lt_or_ge i ds.length with hi | hi
  · refine .inr ⟨h1 hi, fun H' => ∃ T ω acc xs, Rel K W (((F.add h).add hv).grd D) T ω (wipeP ρ vs) (L2.wipe σ vs) H' ∧ Ext T1 H1 T H' ∧ H' D = some (.lst xs) ∧ RepsA K H' (Spr (((F.add h).add hv).grd D) T (wipeP ρ vs)) acc xs ∧ acc.length ≤ i + 1 ∧ I (i + 1) ω acc, fun H' q => ⟨n - 1, by omega, by omega, q⟩, fun x H3 hy => ?_⟩
    obtain ⟨g3, rx⟩ := h3 ds[i] x H3 (List.getElem?_eq_getElem hi) hy
    have R3 := R2.grow g3
    have x3 : Ext T2 H2 T2 H3 := Ext.of0 g3
    refine ⟨_, T2, ω2, _, ds[i], _, R3, rx, hstep i _ ω2 acc (List.getElem?_eq_getElem hi) q2 hl, fun ρ4 σ4 R4 l4 f4 ⟨w4, q4⟩ => ⟨wipe_same l4 f4 hts, _, T2, ω2, ρ4, _, _, R4, q4, fun _ _ _ _ _ _ _ _ z => z, fun T5 ω5 b H5 R5 e5 q5 => ?_⟩⟩
    have sw : L2.wipe σ4 vs = L2.wipe σ vs := wipe_same l4 f4 hts
    have done : ∀ T6 ω6 H6, Rel K W (((F.add h).add hv).grd D) T6 ω6 ρ4 σ4 H6 → Ext T2 H3 T6 H6 → Rel K W (((F.add h).add hv).grd D) T6 ω6 (wipeP ρ vs) (L2.wipe σ vs) H6 ∧ Ext T1 H1 T6 H6 ∧ H6 D = some (.lst xs) ∧ RepsA K H6 (Spr (((F.add h).add hv).grd D) T6 (wipeP ρ vs)) acc xs := fun T6 ω6 H6 R6 e6 => by
      have z := R6.wipe vs
      rw [w4, sw] at z
      refine ⟨z, e2.trans (x3.trans e6), (x3.trans e6).gr.keep _ _ hD2 (.inr (R2.s0 D (.inr rfl)).2), R2.ext_reps (x3.trans e6) ra⟩
    cases b with
    | false =>
      obtain ⟨z1, z2, z3, z4⟩ := done T5 ω5 H5 R5 e5
      exact ⟨T5, ω5, acc, xs, z1, z2, z3, z4, by omega, q5⟩
    | true =>
      refine ⟨_, T5, ω5, ρ4, _, _, R5, q5, fun _ _ _ _ _ _ _ _ z => z, fun T6 ω6 y w H6 R6 e6 r6 q6 => ?_⟩
      obtain ⟨z1, z2, z3, z4⟩ := done T6 ω6 H6 R6 (e5.trans e6)
      have gD : GrP (fun a => a = D) H6 (upd H6 D (.lst (xs ++ [w]))) := GrP.wr rfl fun u hu => by rw [z3] at hu; cases hu; rfl
      have ry : RepA K H6 (Spr (((F.add h).add hv).grd D) T6 (wipeP ρ vs)) y w := RepA.less r6 fun a z => by
        rcases z with z | z | z
        · exact .inl z
        · exact .inr (.inl z)
        · exact .inr (.inr ((owns_wipe_sub vs).subset (by rw [w4]; exact z)))
      have hxl : xs.length ≤ 1000000 := by have := z4.len; omega
      refine ⟨xs, z3, Nat.lt_of_le_of_lt hxl (by decide), T6, ω6, acc ++ [y], xs ++ [w], z1.wrS (.inr rfl) F1D (fun u hu => by rw [z3] at hu; cases hu; rfl), ⟨z2.gr.trans gD fun a z => by rw [z]; exact .inr hD, z2.tn⟩, upd_same, ?_, by rw [List.length_append]; show acc.length + 1 ≤ i + 1; omega, q6⟩
      exact (RepsA.append (.cons ry .nil) z4).ext gD (fun a z => by rw [z]; exact .inl (.inl (.inr rfl))) fun a z => .inl z
  · have : i = ds.length := by omega
    subst this
    refine .inl ⟨h2 hi, ?_⟩
    have Rf : Rel K W F T2 ω2 ρ σ H2 := (back _ T2 ω2 H2 hhv R2.unguard).drop.drop
    refine k T2 ω2 (.lst acc) (.ref D) H2 Rf (e1.trans e2) ⟨D, xs, acc, rfl, rfl, e1.gr.live D hD, fun z => ?_, hD2, ra.less fun a z => ?_⟩ (hend ω2 acc q2)
    · rcases z with z | z | z
      · exact (R1.s0 D z).1 hD
      · exact (R2.s0 D (.inr rfl)).2 z
      · exact R1.spl D (.inr (.inr z)) hD
    · rcases z with (z | z | z) | z
      · exact .inl (.inl z)
      · exact .inr (.inl z)
      · exact .inr (.inr (by rw [owns_wipe hst]; exact z))
      · exact .inl (.inr z)
variable {elt tg iter : Expr} {scope : Scope} {own : List (Str × Nat)} {pos spos py : Pos} {i : Nat} {y : Str}
theorem qe_lc (hc : X.calm = true) (hN : X.N.Nodup) (hi : QI X mi W Wo tg iter qi) (ok : BlkOk X.N X.env.scope scope own)
    (hg : ∀ (s : Shared) (H : Hp) (C : Addr) (cl : List (Str × Addr)) (fp : List Addr), QG (X.blk s H scope (compEnvC scope cl C X.env) fp) mi W tg ts g) (ht : ∀ (s : Shared) (H : Hp) (C : Addr) (cl : List (Str × Addr)) (fp : List Addr), QTs (X.blk s H scope (compEnvC scope cl C X.env) fp) W Wo0 ifs qt)
    (he : ∀ (s : Shared) (H : Hp) (C : Addr) (cl : List (Str × Addr)) (fp : List Addr), QE (X.blk s H scope (compEnvC scope cl C X.env) fp) .A W Wo0 elt qe) (hts : ∀ j, j ∈ ts → j ∈ own.map (·.2) := by decide) (hs : ∀ x, foldedSetIterable iter X.env x = pure x := by intro _; rfl) :
    QE X .F W Wo (.ListComp elt [⟨tg, iter, ifs, 0⟩] scope pos) (qLc qi g qt qe (own.map (·.2))) := PE.imp (pe_lc (g := lfG mi X.K W ts g) (tt := lfT X.K W Wo0 qt) (te := lfE .A X.K W Wo0 qe) hc hN hi ok hg ht he hs) (lf_lc hts)
variable {mr : Md}
end
end LW
namespace LW
open PySem PySem.Spec PyProof.Rows L2
def startP (N : List Str) (ds : List D) : List Sl := ds.map .va ++ List.replicate (N.length - ds.length) .no
theorem owns_start (N : List Str) (ds : List D) : owns (startP N ds) = [] := by
  unfold startP
  induction ds with
  | nil =>
    have : ∀ n, owns (List.replicate n Sl.no) = [] := fun n => by
      induction n with
      | zero => rfl
      | succ n ih => exact ih
    exact this _
  | cons d ds ih =>
    have : ∀ (a b : List Sl), owns (Sl.va d :: a ++ b) = owns (a ++ b) := fun a b => rfl
    have h2 : ∀ (ds : List D) (n : Nat), owns (ds.map Sl.va ++ List.replicate n Sl.no) = [] := fun ds n => by
      induction ds with
      | nil =>
        induction n with
        | zero => rfl
        | succ n ih => exact ih
      | cons d ds ih => exact ih
    exact h2 _ _
theorem slsR_start {K : PySem.W.Frag} {H : Hp} {S : ASet} (N : List Str) : ∀ {ds : List D} {vs : List V}, RepsA K H S ds vs → ∀ n, SlsR K H S (ds.map .va ++ List.replicate n .no) (vs.map some ++ List.replicate n none)
  | _, _, .nil, n => by
    induction n with
    | zero => exact .nil
    | succ n ih => exact .no ih
  | _, _, .cons h r, n => .va h (slsR_start N r n)
def endP (mr : Md) (W : Wrl) (Q : W.Ω → D → Prop) (E : W.Ω → Exn → Prop) : PEn W := { nx := fun ω _ => (match mr with | .F => False | _ => Q ω .non), rt := Q, ex := fun ω x _ => E ω x }
theorem okQ {P : Program} {w : World} {K : PySem.W.Frag} {mg : Str → Option Value} {base : Heap} {x qual : Str} {params : Arguments} {body : List Stmt} {scope : Scope} {dvs : List V} {kws : List (Str × V)} {f : Addr} {fd : FuncData} {N ps : List Str} {k : Nat} {mr : Md} {W : Wrl} {pf : PSp W} {s : QTS W}
    (F : FunD K x qual params body scope dvs kws f fd) (S : FnScope N ps scope) (hl : ∀ ω ds Q E, pf ω ds Q E → ds.length = ps.length)
    (hb : ∀ (cdv : Value) (A : Around) (outer : List Env) (s0 : Shared) (H : Hp) (E : XK), Room k (A.deeper (envOfC qual scope s0.heap.objs.size f cdv)) →
      L2N.Takes (cxOf (L2N.CX P w) P w K mg base N qual scope f cdv A outer s0 H E) (fun cls d _ H' => E cls d H') →
      PassesOwn (model P w) (cxOf (L2N.CX P w) P w K mg base N qual scope f cdv A outer s0 H E).A (cxOf (L2N.CX P w) P w K mg base N qual scope f cdv A outer s0 H E).env (cxOf (L2N.CX P w) P w K mg base N qual scope f cdv A outer s0 H E).xe →
      QSs (cxOf (L2N.CX P w) P w K mg base N qual scope f cdv A outer s0 H E) mr W (fun cls d _ H' => E cls d H') body s)
    (hq : ∀ ω ds Q E, pf ω ds Q E → s (endP mr W Q E) ω (startP N ds)) : FnOk P w K mg base (L2N.CX P w) (k + 1) f fd ps (spM mr K W pf) := by
  refine okT F S (fun vs H Q E h => ?_) fun cdv A outer s0 H vs Q E hr h tk pown => ⟨_, hb cdv A outer s0 H E hr tk pown, ?_⟩
  · obtain ⟨S', T, ω, ds, Qp, Ep, hS, hi, r, q, k, kx⟩ := h
    exact r.len.trans (hl _ _ _ _ q)
  · obtain ⟨S', T, ω, ds, Qp, Ep, hS, hi, r, q, k, kx⟩ := h
    have es : ∀ a, Spr ⟨H, S', T, []⟩ T (startP N ds) a → S' a ∨ T a := fun a z => by
      rcases z with z | z | z
      · exact .inl z
      · exact .inr z
      · rw [owns_start] at z; cases z
    have en : N.length - vs.length = N.length - ds.length := by rw [r.len]
    have R : Rel K W ⟨H, S', T, []⟩ T ω (startP N ds) (L2.start N vs) H := by
      refine ⟨GrP.refl _ _, hi, fun a z => .inl z, fun l hl => ?_, ?_, hS, fun p hp => ?_, ?_⟩
      · rw [owns_start] at hl; cases hl
      · rw [owns_start]; exact List.nodup_nil
      · cases hp
      · unfold L2.start startP
        rw [en]
        exact (slsR_start N (r.less es) _)
    refine ⟨⟨H, S', T, []⟩, T, ω, startP N ds, endP mr W Qp Ep, R, hq ω ds Qp Ep q, ⟨fun T' ω' ρ' σ' H' R' q' => ?_, fun _ _ _ _ _ _ z => z.elim, fun _ _ _ _ _ _ z => z.elim, fun T' ω' ρ' σ' H' d v R' rt q' => k T' ω' d v H' ⟨R'.gr, R'.tn⟩ R'.inv rt q', fun T' ω' ρ' σ' H' x cls dd R' xr q' => kx T' ω' x cls dd H' ⟨R'.gr, R'.tn⟩ R'.inv xr q'⟩⟩
    cases mr with
    | F => exact (show False from q').elim
    | A => exact k T' ω' .non .non H' ⟨R'.gr, R'.tn⟩ R'.inv (show RepA K H' _ .non .non from .non) q'
    | O => exact k T' ω' .non .non H' ⟨R'.gr, R'.tn⟩ R'.inv (show RepA K H' _ .non .non from .non) q'
    | C => exact k T' ω' .non .non H' ⟨R'.gr, R'.tn⟩ R'.inv (show RepA K H' _ .non .non from .non) q'
def endsNP {W : Wrl} (i : Nat) (P : PEn W) : PEn W := { nx := fun ω ρ => P.nx ω (ρ.set i .no), rt := P.rt, bk := fun ω ρ => P.bk ω (ρ.set i .no), ct := fun ω ρ => P.ct ω (ρ.set i .no), ex := fun _ _ _ => False }
def noEx {W : Wrl} (P : PEn W) : PEn W := { P with ex := fun _ _ _ => False }
abbrev Cls3 (W : Wrl) := List (Addr × Option Nat × (Exn → Addr → Option Addr → QTS W))
def hsel (K : PySem.W.Frag) {W : Wrl} : Cls3 W → PEn W → W.Ω → Exn → List Sl → Prop
  | [], P, ω, x, ρ => P.ex ω x ρ
  | (C, o, u) :: r, P, ω, x, ρ => ∃ b, PySem.W.exmOne K (.ref x.C) (.ref C) = some b ∧ if b = true then (match o with
    | some i => ∀ a dd, u x a dd (endsNP i P) ω (ρ.set i (.ex a dd x))
    | none => ∀ a dd, u x a dd (noEx P) ω ρ) else hsel K r P ω x ρ
def sTry (K : PySem.W.Frag) {W : Wrl} (s : QTS W) (hs : Cls3 W) : QTS W := fun P ω ρ => s { P with ex := fun ω x ρ => hsel K hs P ω x ρ } ω ρ
section
variable {X : Cx} {W : Wrl} {Wo : WX} {mr : Md} {s : QTS W} {body : List Stmt} {h0 : ExceptHandler} {hds : List ExceptHandler} {pos : Pos}
def lfX (mr : Md) (K : PySem.W.Frag) (W : Wrl) (u : Exn → Addr → Option Addr → QTS W) (a : Addr) (cls : Value) (d : Option Addr) : TS := fun D σ H => ∃ x, cls = .ref x.C ∧ XDict K H x d ∧ ∃ (F : Frm) (T : ASet) (ω : W.Ω) (ρ : List Sl) (P : PEn W), Rel K W F T ω ρ σ H ∧ u x a d P ω ρ ∧ Sim mr K W Wo0 F P D
inductive QHd (X : Cx) (mr : Md) (W : Wrl) : List ExceptHandler → Cls3 W → Prop
  | nil : QHd X mr W [] []
  | only {x : Str} {C : Addr} {u : Exn → Addr → Option Addr → QTS W} {b0 : Stmt} {su : List Stmt} {np p : Pos} {hds : List ExceptHandler} {l : Cls3 W} (hc : Names X x (.ref C))
      (hsu : ∀ (a : Addr) (oe : Obj) (d : Option Addr) (pn : List (Addr × Obj)) (x : Exn), L2N.Zn (.ref x.C) d oe → (∃ vs, oe.data = .fields vs) → QSs (X.suite a ((a, oe) :: pn)) mr W Wo0 (b0 :: su) (u x a d)) (r : QHd X mr W hds l) :
      QHd X mr W (.ExceptHandler (some (.Name x np)) none (b0 :: su) p :: hds) ((C, none, u) :: l)
  | as_ {x n : Str} {i : Nat} {C : Addr} {u : Exn → Addr → Option Addr → QTS W} {b0 : Stmt} {su : List Stmt} {np p : Pos} {hds : List ExceptHandler} {l : Cls3 W} (hN : X.N.Nodup) (hi : X.N[i]? = some n) (hln : X.env.kindOf n = some .local) (hc : Names X x (.ref C))
      (hsu : ∀ (a : Addr) (oe : Obj) (d : Option Addr) (pn : List (Addr × Obj)) (x : Exn), L2N.Zn (.ref x.C) d oe → (∃ vs, oe.data = .fields vs) → QSs (X.suite a ((a, oe) :: pn)) mr W Wo0 (b0 :: su) (u x a d)) (r : QHd X mr W hds l) :
      QHd X mr W (.ExceptHandler (some (.Name x np)) (some n) (b0 :: su) p :: hds) ((C, some i, u) :: l)
def toL (mr : Md) (K : PySem.W.Frag) {W : Wrl} : Cls3 W → List (Value × Option Nat × TSu)
  | [] => []
  | (C, o, u) :: r => (.ref C, o, fun a cls d => lfX mr K W u a cls d) :: toL mr K r
theorem QHd.to {hds : List ExceptHandler} {l : Cls3 W} (h : QHd X mr W hds l) : HdsE X hds (toL mr X.K l) := by
  induction h with
  | nil => exact .nil
  | only hc hsu r ih =>
    rename_i u _ _ _ _ _ _
    exact .only (ts := fun a cls d _ _ => lfX mr X.K W u a cls d) hc (fun a oe cls d pn hz hf => ⟨fun pins s σ H D I ⟨x, e, xd, F, T, ω, ρ, P, R, q, S⟩ => by
      subst e
      exact (hsu a oe d pn x hz hf).run pins s σ H D I ⟨F, T, ω, ρ, P, R, q, S⟩⟩) ih
  | as_ hN hi hln hc hsu r ih =>
    rename_i i _ u _ _ _ _ _ _
    exact .as_ (ts := fun a cls d _ _ => lfX mr X.K W u a cls d) hN hi hln hc (fun a oe cls d pn hz hf => ⟨fun pins s σ H D I ⟨x, e, xd, F, T, ω, ρ, P, R, q, S⟩ => by
      subst e
      exact (hsu a oe d pn x hz hf).run pins s σ H D I ⟨F, T, ω, ρ, P, R, q, S⟩⟩) ih
theorem hsel_ok {K : PySem.W.Frag} {F : Frm} {P : PEn W} {D : Ends} (S : Sim mr K W Wo F P D) : ∀ {l : Cls3 W} {T : ASet} {ω : W.Ω} {ρ : List Sl} {σ : L2.St} {H : Hp} {x : Exn} {d : Option Addr}, Rel K W F T ω ρ σ H → XDict K H x d → hsel K l P ω x ρ → wHds K Wo D (toL mr K l) (.ref x.C) d σ H
  | [], _, _, _, _, _, _, _, R, xd, q => S.ex _ _ _ _ _ _ _ _ R ⟨rfl, xd⟩ q
  | (C, o, u) :: r, T, ω, ρ, σ, H, x, d, R, xd, ⟨b, hb, q⟩ => by
    refine ⟨b, hb, fun hb1 a na => ?_, fun hb0 => ?_⟩
    · subst hb1
      rw [if_pos rfl] at q
      cases o with
      | none => exact ⟨x, rfl, xd, F, T, ω, ρ, noEx P, R, q a d, ⟨S.nx, S.bk, S.ct, S.rt, fun _ _ _ _ _ _ _ _ _ _ z => z⟩⟩
      | some i => exact ⟨x, rfl, xd, F, T, ω, ρ.set i (.ex a d x), endsNP i P, R.set_ex xd i, q a d, ⟨fun T ω ρ σ H R q => S.nx T ω _ _ H (R.set_no none i) q, fun T ω ρ σ H R q => S.bk T ω _ _ H (R.set_no none i) q, fun T ω ρ σ H R q => S.ct T ω _ _ H (R.set_no none i) q, S.rt, fun _ _ _ _ _ _ _ _ _ _ z => z⟩⟩
    · subst hb0
      rw [if_neg Bool.false_ne_true] at q
      exact hsel_ok S R xd q
theorem qs_try {K : PySem.W.Frag} {l : Cls3 W} (hK : X.K = K) (hs : X.stack = X.env :: X.outer) (hf : X.env.frame = some X.env.locals) (tk : L2N.Takes X Wo)
    (hb : ∀ (Wq : WX) (pn : List (Addr × Obj)) (xe : Value → Shared → Prop), L2N.Takes (X.tr pn xe) Wq → PassesOwn (model X.prog X.w) X.A X.env xe → QSs (X.tr pn xe) mr W Wq body s) (hh : QHd X mr W (h0 :: hds) l) :
    QS X mr W Wo (.Try body (h0 :: hds) [] [] pos) (sTry K s l) := by subst hK; exact PS.imp (ps_tryE (tb := fun Wq _ _ => lfS mr X.K W Wq s) hs hf tk hb hh.to) fun D σ H ⟨F, T, ω, ρ, P, R, q, S⟩ =>
  ⟨F, T, ω, ρ, _, R, q, ⟨S.nx, S.bk, S.ct, S.rt, fun T ω ρ σ H x cls dd R ⟨e, xd⟩ q => by
    subst e
    exact hsel_ok S R xd q⟩⟩
end
section
variable {X : Cx} {W : Wrl} {Wo : WX} {a C : Addr} {oe : Obj} {d : Option Addr} {pn : List (Addr × Obj)} {x : Exn} {i : Nat} {e e2 : Expr} {p pos : Pos}
def qIsE (K : PySem.W.Frag) (i : Nat) (x : Exn) (a : Addr) (d : Option Addr) (C : Addr) : QT W := fun ω ρ Q _ => ρ[i]? = some (.ex a d x) ∧ ExcC K x.C ∧ ∃ b, PySem.W.kitOne K (.ref x.C) (.ref C) = some b ∧ Q ω (.bl b)
end
end LW
namespace LW
open PySem PySem.Spec PyProof.Rows L2
section
variable {W : Wrl} {P : PEn W} {ω : W.Ω} {ρ : List Sl} {Q : W.Ω → D → Prop} {E : W.Ω → Exn → Prop} {QB : W.Ω → Bool → Prop} {QL : W.Ω → List D → Prop} {Q1 : D → Prop} {B1 : Bool → Prop} {q qa qb qc : QT W} {qt qu : QTT W} {qs : QTA W} {s u : QTS W} {i j : Int} {n : Nat} {d e : D} {ds es : List D} {g : QTG} {gs : QTGs} {qi : QTI W} {k : List Sl → Prop} {pf : PSp W} {C : Addr} {m : Str}
theorem v_seq (h : s { P with nx := u P } ω ρ) : sSeq s u P ω ρ := h
theorem v_nx (h : P.nx ω ρ) : sNx P ω ρ := h
theorem v_drop (h : qa ω ρ (fun ω1 _ => P.nx ω1 ρ) fun ω1 x => P.ex ω1 x ρ) : sDrop qa P ω ρ := h
theorem v_ret (h : qa ω ρ (fun ω1 d => P.rt ω1 d) fun ω1 x => P.ex ω1 x ρ) : sRet qa P ω ρ := h
theorem v_retO {l : Addr} (h1 : ρ[n]? = some (.ow l ds)) (h : P.rt ω (.lst ds)) : sRetO n P ω ρ := ⟨l, ds, h1, h⟩
theorem v_retN (h : P.rt ω .non) : sRetN P ω ρ := h
theorem v_brk (h : P.bk ω ρ) : sBrk P ω ρ := h
theorem v_cnt (h : P.ct ω ρ) : sCnt P ω ρ := h
theorem v_frz (h : s P ω (frz ρ n)) : sFrz n s P ω ρ := h
theorem v_if (h : qt ω ρ (fun ω1 b => if b = true then s P ω1 ρ else u P ω1 ρ) fun ω1 x => P.ex ω1 x ρ) : sIf qt s u P ω ρ := h
theorem v_set (h : qa ω ρ (fun ω1 d => P.nx ω1 (ρ.set n (.va d))) fun ω1 x => P.ex ω1 x ρ) : sSet n qa P ω ρ := h
def kSetO (n : Nat) (P : PEn W) (ω1 : W.Ω) (ρ : List Sl) (d : D) : Prop := ∃ ds, d = .lst ds ∧ ∀ l, P.nx ω1 (ρ.set n (.ow l ds))
theorem v_setO (h : qa ω ρ (fun ω1 d => kSetO n P ω1 ρ d) fun ω1 x => P.ex ω1 x ρ) : sSetO n qa P ω ρ := h
theorem v_kSetO (h : ∀ l, P.nx ω (ρ.set n (.ow l ds))) : kSetO n P ω ρ (.lst ds) := ⟨ds, rfl, h⟩
def kAug (n : Nat) (f : Int → Int → Int) (i : Int) (P : PEn W) (ω1 : W.Ω) (ρ : List Sl) (d : D) : Prop := ∃ k, d = .int k ∧ P.nx ω1 (ρ.set n (.va (.int (f i k))))
theorem v_aug {f : Int → Int → Int} (h1 : ρ[n]? = some (.va (.int i))) (h : qa ω ρ (fun ω1 d => kAug n f i P ω1 ρ d) fun ω1 x => P.ex ω1 x ρ) : sAug n f qa P ω ρ := ⟨i, h1, h⟩
theorem v_kAug {f : Int → Int → Int} (h : P.nx ω (ρ.set n (.va (.int (f i j))))) : kAug n f i P ω ρ (.int j) := ⟨j, rfl, h⟩
theorem v_asg (h : qa ω ρ (fun ω1 d => g d ρ fun ρ' => P.nx ω1 ρ') fun ω1 x => P.ex ω1 x ρ) : sAsg g qa P ω ρ := h
theorem v_gnm (h : k (ρ.set n (.va d))) : gnm n d ρ k := h
theorem v_gtp (h1 : ds.length = n) (h : gs ds ρ k) : gtp n gs (.tup ds) ρ k := ⟨ds, rfl, h1, h⟩
theorem v_gsn (h : k ρ) : gsn [] ρ k := ⟨rfl, h⟩
theorem v_gsc (h : g d ρ fun ρ' => gs ds ρ' k) : gsc g gs (d :: ds) ρ k := ⟨d, ds, rfl, h⟩
theorem v_app {l : Addr} (h1 : ρ[n]? = some (.ow l ds)) (h2 : ds.length < 1000000) (h : qa ω ρ (fun ω1 d => P.nx ω1 (ρ.set n (.ow l (ds ++ [d])))) fun ω1 x => P.ex ω1 x ρ) : sApp n qa P ω ρ := ⟨l, ds, h1, h2, h⟩
def kPut2 (n : Nat) (P : PEn W) (ω2 : W.Ω) (ρ : List Sl) (l : Addr) (ds : List D) (d y : D) : Prop := ∃ i j, y = .int i ∧ ixN ds.length i = some j ∧ P.nx ω2 (ρ.set n (.ow l (ds.set j d)))
def kPut (n : Nat) (qk : QT W) (P : PEn W) (ω1 : W.Ω) (ρ : List Sl) (d : D) : Prop := ∃ l ds, ρ[n]? = some (.ow l ds) ∧ qk ω1 ρ (fun ω2 y => kPut2 n P ω2 ρ l ds d y) fun ω1 x => P.ex ω1 x ρ
theorem v_put {qk : QT W} (h : qa ω ρ (fun ω1 d => kPut n qk P ω1 ρ d) fun ω1 x => P.ex ω1 x ρ) : sPut n qk qa P ω ρ := h
theorem v_kPut {qk : QT W} {l : Addr} (h1 : ρ[n]? = some (.ow l ds)) (h : qk ω ρ (fun ω2 y => kPut2 n P ω2 ρ l ds d y) fun ω1 x => P.ex ω1 x ρ) : kPut n qk P ω ρ d := ⟨l, ds, h1, h⟩
theorem v_raise {x : Exn} (h : P.ex ω x ρ) : sRaise x P ω ρ := h
def kFor (g : QTG) (s : QTS W) (P : PEn W) (ω1 : W.Ω) (ρ : List Sl) (ds : List D) : Prop := ∃ I : Nat → W.Ω → List Sl → Prop, I 0 ω1 ρ ∧ (∀ i d ω ρ, ds[i]? = some d → I i ω ρ → g d ρ fun ρ' => s { P with nx := I (i + 1), ct := I (i + 1), bk := P.nx } ω ρ') ∧ ∀ ω ρ, I ds.length ω ρ → P.nx ω ρ
theorem v_for (h : qi ω ρ (fun ω1 ds => kFor g s P ω1 ρ ds) fun ω1 x => P.ex ω1 x ρ) : sFor qi g s P ω ρ := h
theorem v_kFor (I : Nat → W.Ω → List Sl → Prop) (h0 : I 0 ω ρ) (hs : ∀ i d ω ρ, ds[i]? = some d → I i ω ρ → g d ρ fun ρ' => s { P with nx := I (i + 1), ct := I (i + 1), bk := P.nx } ω ρ') (hd : ∀ ω ρ, I ds.length ω ρ → P.nx ω ρ) : kFor g s P ω ρ ds := ⟨I, h0, hs, hd⟩
theorem v_kForI {ns : List Int} (I : Nat → W.Ω → List Sl → Prop) (h0 : I 0 ω ρ) (hs : ∀ i y ω ρ, ns[i]? = some y → I i ω ρ → g (.int y) ρ fun ρ' => s { P with nx := I (i + 1), ct := I (i + 1), bk := P.nx } ω ρ') (hd : ∀ ω ρ, I ns.length ω ρ → P.nx ω ρ) : kFor g s P ω ρ (dInts ns) := by
  refine ⟨I, h0, fun i d ω ρ hd => ?_, fun ω ρ h => hd ω ρ (by unfold dInts at h; rw [List.length_map] at h; exact h)⟩
  unfold dInts at hd
  rw [List.getElem?_map] at hd
  obtain ⟨y, hy, rfl⟩ := Option.map_eq_some_iff.mp hd
  exact hs i y ω ρ hy
theorem rg_iff {n i : Nat} {y : Int} : (rg n)[i]? = some y ↔ i < n ∧ y = i := by
  by_cases h : i < n
  · rw [rg_get h]
    simp [h]
    exact eq_comm
  · rw [List.getElem?_eq_none (by rw [length_rg]; omega)]
    simp [h]
theorem v_kForR {n : Nat} (I : Nat → W.Ω → List Sl → Prop) (h0 : I 0 ω ρ) (hs : ∀ (i : Nat) ω ρ, i < n → I i ω ρ → g (.int i) ρ fun ρ' => s { P with nx := I (i + 1), ct := I (i + 1), bk := P.nx } ω ρ') (hd : ∀ ω ρ, I n ω ρ → P.nx ω ρ) : kFor g s P ω ρ (dInts (rgI 0 n)) := by
  rw [rgI_rg]
  refine v_kForI I h0 (fun i y ω ρ hy => ?_) fun ω ρ h => hd ω ρ (by rw [length_rg] at h; exact h)
  obtain ⟨hi, rfl⟩ := rg_iff.mp hy
  exact hs i ω ρ hi
theorem v_iSeq (h : qa ω ρ (fun ω1 d => ∃ ds, d = .lst ds ∧ QL ω1 ds) E) : iSeq qa ω ρ QL E := h
theorem v_iTupl (h : qa ω ρ (fun ω1 d => ∃ ds, d = .tup ds ∧ QL ω1 ds) E) : iTupl qa ω ρ QL E := h
theorem v_exl {R : List D → Prop} (h : R ds) : ∃ ds', D.lst ds = .lst ds' ∧ R ds' := ⟨ds, rfl, h⟩
theorem v_ext {R : List D → Prop} (h : R ds) : ∃ ds', D.tup ds = .tup ds' ∧ R ds' := ⟨ds, rfl, h⟩
def kRg (x : D) (R : Int → Prop) : Prop := ∃ n, x = .int n ∧ RgB n ∧ R n
theorem v_iRg1 (h : qa ω ρ (fun ω1 d => kRg d fun n => QL ω1 (dInts (rgI 0 n))) E) : iRg1 qa ω ρ QL E := h
theorem v_kRg {R : Int → Prop} (h1 : RgB i) (h : R i) : kRg (.int i) R := ⟨i, rfl, h1, h⟩
def kRg2 (x y : D) (R : Int → Int → Prop) : Prop := ∃ n k, x = .int n ∧ y = .int k ∧ RgB n ∧ RgB k ∧ R n k
theorem v_iRg2 (h : qa ω ρ (fun ω1 d => qb ω1 ρ (fun ω2 d2 => kRg2 d d2 fun n k => QL ω2 (dInts (rgI n k))) E) E) : iRg2 qa qb ω ρ QL E := h
theorem v_kRg2 {R : Int → Int → Prop} (h1 : RgB i) (h2 : RgB j) (h : R i j) : kRg2 (.int i) (.int j) R := ⟨i, j, rfl, rfl, h1, h2, h⟩
theorem rgB (h0 : -1000000000 ≤ i) (h : i ≤ 1000000000) : RgB i := ⟨by omega, by omega⟩
def kLcQ (g : QTG) (qt : QTT W) (qe : QT W) (vs : List Nat) (ρ : List Sl) (Q : W.Ω → D → Prop) (ω1 : W.Ω) (ds : List D) : Prop := still ρ vs = true ∧ ds.length ≤ 1000000 ∧ ∃ I : Nat → W.Ω → List D → Prop, I 0 ω1 [] ∧
  (∀ i d ω acc, ds[i]? = some d → I i ω acc → acc.length ≤ i → g d (wipeP ρ vs) fun ρ2 => wipeP ρ2 vs = wipeP ρ vs ∧ qt ω ρ2 (fun ω2 b => if b = true then qe ω2 ρ2 (fun ω3 y => I (i + 1) ω3 (acc ++ [y])) (fun _ _ => False) else I (i + 1) ω2 acc) (fun _ _ => False)) ∧
  ∀ ω acc, I ds.length ω acc → Q ω (.lst acc)
variable {qe : QT W} {vs : List Nat}
theorem v_lc (h : qi ω ρ (fun ω1 ds => kLcQ g qt qe vs ρ Q ω1 ds) E) : qLc qi g qt qe vs ω ρ Q E := h
theorem v_kLcW (I : Nat → W.Ω → List D → Prop) (hl : ds.length ≤ 1000000) (h0 : I 0 ω []) (hst : still ρ vs = true)
    (hs : ∀ i d ω acc, ds[i]? = some d → I i ω acc → acc.length ≤ i → g d (wipeP ρ vs) fun ρ2 => wipeP ρ2 vs = wipeP ρ vs ∧ qe ω ρ2 (fun ω3 y => I (i + 1) ω3 (acc ++ [y])) (fun _ _ => False))
    (hd : ∀ ω acc, I ds.length ω acc → Q ω (.lst acc)) : kLcQ g qYes qe vs ρ Q ω ds := by
  refine ⟨hst, hl, I, h0, fun i d ω acc hd hi hl => ?_, hd⟩
  have z := hs i d ω acc hd hi hl
  exact z
theorem v_kLcM (f : D → D) (hl : ds.length ≤ 1000000) (hst : still ρ vs = true)
    (hs : ∀ (i : Nat) (d : D) (Q' : W.Ω → D → Prop), ds[i]? = some d → Q' ω (f d) → g d (wipeP ρ vs) fun ρ2 => wipeP ρ2 vs = wipeP ρ vs ∧ qe ω ρ2 Q' (fun _ _ => False))
    (hd : Q ω (.lst (ds.map f))) : kLcQ g qYes qe vs ρ Q ω ds := by
  refine v_kLcW (fun i ω' acc => ω' = ω ∧ acc = (ds.take i).map f) hl ⟨rfl, rfl⟩ hst (fun i d ω' acc hi ⟨e1, e2⟩ _ => ?_) (fun ω' acc ⟨e1, e2⟩ => by rw [e1, e2, List.take_length]; exact hd)
  subst e1 e2
  exact hs i d _ hi ⟨rfl, by rw [List.take_succ, hi, List.map_append] <;> rfl⟩
theorem v_V (h1 : slD ρ[n]? = some d) (h : Q ω d) : qV n ω ρ Q E := ⟨d, h1, h⟩
theorem v_Va (h1 : ρ[n]? = some (.va d)) (h : Q ω d) : qVa n ω ρ Q E := ⟨d, h1, h⟩
theorem v_C (h : Q ω d) : qC d ω ρ Q E := h
theorem v_op {f : D → D → (D → Prop) → Prop} (h : qa ω ρ (fun ω1 x => qb ω1 ρ (fun ω2 y => f x y (Q ω2)) E) E) : qOp f qa qb ω ρ Q E := h
theorem v_un {f : D → (D → Prop) → Prop} (h : qa ω ρ (fun ω1 x => f x (Q ω1)) E) : qUn f qa ω ρ Q E := h
theorem v_ca {f : List D → (D → Prop) → Prop} (h : qs ω ρ (fun ω1 xs => f xs (Q ω1)) E) : qCa f qs ω ρ Q E := h
theorem v_nil (h : QL ω []) : qNil ω ρ QL E := h
theorem v_cons (h : qa ω ρ (fun ω1 d => qs ω1 ρ (fun ω2 ds => QL ω2 (d :: ds)) E) E) : qCons qa qs ω ρ QL E := h
theorem v_star (h : qa ω ρ (fun ω1 d => ∃ ds, (d = .lst ds ∨ d = .tup ds) ∧ qs ω1 ρ (fun ω2 es => QL ω2 (ds ++ es)) E) E) : qStar qa qs ω ρ QL E := h
theorem v_sta {R : List D → Prop} (h : R ds) : ∃ ds', (D.lst ds = .lst ds' ∨ D.lst ds = .tup ds') ∧ R ds' := ⟨ds, .inl rfl, h⟩
theorem v_stb {R : List D → Prop} (h : R ds) : ∃ ds', (D.tup ds = .lst ds' ∨ D.tup ds = .tup ds') ∧ R ds' := ⟨ds, .inr rfl, h⟩
theorem v_sl {f : D → Option Int → Option Int → (D → Prop) → Prop} {lo hi : Option (QT W)} (h : qa ω ρ (fun ω1 x => qPart lo ω1 ρ (fun ω2 l => qPart hi ω2 ρ (fun ω3 u => f x l u (Q ω3)) E) E) E) : qSl f qa lo hi ω ρ Q E := h
theorem v_pn {R : W.Ω → Option Int → Prop} (h : R ω none) : qPart none ω ρ R E := h
theorem v_ps {R : W.Ω → Option Int → Prop} (h : q ω ρ (fun ω' y => ∃ i, y = .int i ∧ R ω' (some i)) E) : qPart (some q) ω ρ R E := h
theorem v_exi {R : Int → Prop} (h : R i) : ∃ j, D.int i = .int j ∧ R j := ⟨i, rfl, h⟩
theorem v_te (h : qa ω ρ (fun ω1 d => ∃ b, d = .bl b ∧ QB ω1 b) E) : qTe qa ω ρ QB E := h
theorem v_exb {b : Bool} (h : B1 b) : ∃ b', D.bl b = .bl b' ∧ B1 b' := ⟨b, rfl, h⟩
theorem v_tru (h : qa ω ρ (fun ω1 d => d.tru (QB ω1)) E) : qTru qa ω ρ QB E := h
theorem v_truL (h : B1 (!ds.isEmpty)) : (D.lst ds).tru B1 := h
theorem v_truT (h : B1 (!ds.isEmpty)) : (D.tup ds).tru B1 := h
theorem v_truB {b : Bool} (h : B1 b) : (D.bl b).tru B1 := h
theorem v_truN (h : B1 false) : D.non.tru B1 := h
theorem v_notT (h : qt ω ρ (fun ω1 b => QB ω1 (!b)) E) : qNotT qt ω ρ QB E := h
theorem v_andT (h : qt ω ρ (fun ω1 b => if b = true then qu ω1 ρ QB E else QB ω1 false) E) : qAndT qt qu ω ρ QB E := h
theorem v_orT (h : qt ω ρ (fun ω1 b => if b = true then QB ω1 true else qu ω1 ρ QB E) E) : qOrT qt qu ω ρ QB E := h
theorem v_yes (h : QB ω true) : qYes ω ρ QB E := h
theorem v_andV (h : qa ω ρ (fun ω1 d => ∃ b, d = .bl b ∧ if b = true then qb ω1 ρ Q E else Q ω1 (.bl false)) E) : qAndV qa qb ω ρ Q E := h
theorem v_orV (h : qa ω ρ (fun ω1 d => ∃ b, d = .bl b ∧ if b = true then Q ω1 (.bl true) else qb ω1 ρ Q E) E) : qOrV qa qb ω ρ Q E := h
theorem v_notV (h : qa ω ρ (fun ω1 d => ∃ b, d = .bl b ∧ Q ω1 (.bl (!b))) E) : qNotV qa ω ρ Q E := h
theorem v_chain {f f' : D → D → (D → Prop) → Prop} (h : qa ω ρ (fun ω1 x => qb ω1 ρ (fun ω2 y => f x y fun z => ∃ b, z = .bl b ∧ if b = true then qc ω2 ρ (fun ω3 w => f' y w (Q ω3)) E else Q ω2 (.bl false)) E) E) : qChain f f' qa qb qc ω ρ Q E := h
theorem v_ifE (h : qt ω ρ (fun ω1 b => if b = true then qa ω1 ρ Q E else qb ω1 ρ Q E) E) : qIfE qt qa qb ω ρ Q E := h
theorem v_fI0 {f : Int → Int → D} (h : Q1 (f i j)) : fI0 f (.int i) (.int j) Q1 := h
theorem v_fI {c : Int → Int → Prop} {f : Int → Int → D} (hc : c i j) (h : Q1 (f i j)) : fI c f (.int i) (.int j) Q1 := ⟨hc, h⟩
theorem v_eqI (h : Q1 (.bl (decide (i = j)))) : fEq (.int i) (.int j) Q1 := h
theorem v_neI (h : Q1 (.bl (!decide (i = j)))) : fNe (.int i) (.int j) Q1 := h
theorem v_eqS {x y : Str} (h : Q1 (.bl (decide (x = y)))) : fEq (.str x) (.str y) Q1 := h
theorem v_neS {x y : Str} (h : Q1 (.bl (!decide (x = y)))) : fNe (.str x) (.str y) Q1 := h
theorem v_eqB {x y : Bool} (h : Q1 (.bl (decide (x = y)))) : fEq (.bl x) (.bl y) Q1 := h
theorem v_neB {x y : Bool} (h : Q1 (.bl (!decide (x = y)))) : fNe (.bl x) (.bl y) Q1 := h
theorem v_eqD (k : Nat) (hk : k ≤ 64) (h1 : d.dep k = true) (h2 : e.dep k = true) (h : Q1 (.bl (deq d e))) : fEqD d e Q1 := ⟨k, hk, h1, h2, h⟩
theorem v_neD (k : Nat) (hk : k ≤ 64) (h1 : d.dep k = true) (h2 : e.dep k = true) (h : Q1 (.bl (!deq d e))) : fNeD d e Q1 := ⟨k, hk, h1, h2, h⟩
theorem v_isN {b : Bool} (h : Q1 (.bl (if b then !d.isNon else d.isNon))) : fIsN b d .non Q1 := ⟨rfl, h⟩
theorem v_neg (h : Q1 (.int (-i))) : fNeg (.int i) Q1 := h
theorem v_lenL (h : Q1 (.int ds.length)) : fLen [.lst ds] Q1 := h
theorem v_lenT (h : Q1 (.int ds.length)) : fLen [.tup ds] Q1 := h
theorem v_listL (h : Q1 (.lst ds)) : fList [.lst ds] Q1 := h
theorem v_listT (h : Q1 (.lst ds)) : fList [.tup ds] Q1 := h
theorem v_tupleL (h : Q1 (.tup ds)) : fTuple [.lst ds] Q1 := h
theorem v_tupleT (h : Q1 (.tup ds)) : fTuple [.tup ds] Q1 := h
theorem v_absI (h : Q1 (.int (if i < 0 then -i else i))) : fAbs [.int i] Q1 := h
theorem v_intI (h : Q1 (.int i)) : fInt [.int i] Q1 := h
theorem v_intB {b : Bool} (h : Q1 (.int (if b then 1 else 0))) : fInt [.bl b] Q1 := h
theorem v_fLst (hl : ds.length ≤ 1000000) (h : Q1 (.lst ds)) : fLst ds Q1 := ⟨hl, h⟩
theorem v_fTup (hl : ds.length ≤ 1000000) (h : Q1 (.tup ds)) : fTup ds Q1 := ⟨hl, h⟩
theorem v_ixL (h1 : atI ds i = some d) (h : Q1 d) : fIxL (.lst ds) (.int i) Q1 := ⟨d, h1, h⟩
theorem v_ixT (h1 : atI ds i = some d) (h : Q1 d) : fIxT (.tup ds) (.int i) Q1 := ⟨d, h1, h⟩
theorem v_catL (hl : ds.length + es.length ≤ 1000000) (h : Q1 (.lst (ds ++ es))) : fCat (.lst ds) (.lst es) Q1 := ⟨hl, h⟩
theorem v_catT (hl : ds.length + es.length ≤ 1000000) (h : Q1 (.tup (ds ++ es))) : fCatT (.tup ds) (.tup es) Q1 := ⟨hl, h⟩
theorem v_slL {lo hi : Option Int} (h : Q1 (.lst (cutD ds lo hi))) : fSlL (.lst ds) lo hi Q1 := h
theorem v_slT {lo hi : Option Int} (h : Q1 (.tup (cutD ds lo hi))) : fSlT (.tup ds) lo hi Q1 := h
theorem v_fld {f : Str} {ns : List Str} {x : D} (h1 : (ns.zip ds).lookup f = some x) (h : Q1 x) : fFld C f (.ins C ns ds) Q1 := ⟨ns, ds, x, rfl, h1, h⟩
theorem v_call (h : qs ω ρ (fun ω1 ds => pf ω1 ds Q E) E) : qCall pf qs ω ρ Q E := h
theorem v_inW {pf : PSp W0} (h : pf () ds (fun _ d => Q ω d) fun _ x => E ω x) : inW W pf ω ds Q E := h
theorem v_pureP (h : pf ω ds (fun ω' d => d.pure = true ∧ Q ω' d) E) : pureP pf ω ds Q E := h
def kIns (C : Addr) (m : Str) (d : D) (R : Prop) : Prop := ∃ ns ds, d = .ins C ns ds ∧ m ∉ ns ∧ R
theorem v_meth (h : q ω ρ (fun ω1 d => kIns C m d (qs ω1 ρ (fun ω2 es => pf ω2 (d :: es) Q E) E)) E) : qMeth C m pf q qs ω ρ Q E := by
  have e : qMeth C m pf q qs ω ρ Q E = q ω ρ (fun ω1 d => kIns C m d (qs ω1 ρ (fun ω2 es => pf ω2 (d :: es) Q E) E)) E := by
    unfold qMeth
    rfl
  rw [e]
  exact h
theorem v_kIns {ns : List Str} {R : Prop} (h1 : m ∉ ns) (h : R) : kIns C m (.ins C ns ds) R := ⟨ns, ds, rfl, h1, h⟩
def kObj (C : Addr) (d : D) (R : Prop) : Prop := ∃ ns ds, d = .ins C ns ds ∧ R
theorem v_kObj {ns : List Str} {R : Prop} (h : R) : kObj C (.ins C ns ds) R := ⟨ns, ds, rfl, h⟩
theorem v_obj (h : q ω ρ (fun ω1 d => kObj C d (qs ω1 ρ (fun ω2 es => pf ω2 (d :: es) Q E) E)) E) : qObj C pf q qs ω ρ Q E := h
def kBin (C : Addr) (x y : D) (R : Prop) : Prop := ∃ ns ds ns' ds', x = .ins C ns ds ∧ y = .ins C ns' ds' ∧ R
theorem v_kBin {ns ns' : List Str} {R : Prop} (h : R) : kBin C (.ins C ns ds) (.ins C ns' es) R := ⟨ns, ds, ns', es, rfl, rfl, h⟩
theorem v_bin (h : qa ω ρ (fun ω1 x => qb ω1 ρ (fun ω2 y => kBin C x y (pf ω2 [x, y] Q E)) E) E) : qBin C pf qa qb ω ρ Q E := h
def kBinI (C : Addr) (x y : D) (R : Prop) : Prop := ∃ ns ds i, x = .ins C ns ds ∧ y = .int i ∧ R
theorem v_kBinI {ns : List Str} {R : Prop} (h : R) : kBinI C (.ins C ns ds) (.int i) R := ⟨ns, ds, i, rfl, rfl, h⟩
theorem v_binI (h : qa ω ρ (fun ω1 x => qb ω1 ρ (fun ω2 y => kBinI C x y (pf ω2 [x, y] Q E)) E) E) : qBinI C pf qa qb ω ρ Q E := h
theorem v_inv (h : qa ω ρ (fun ω1 x => kObj C x (pf ω1 [x] Q E)) E) : qInv C pf qa ω ρ Q E := h
def kAdr (C : Addr) (d : D) (R : Prop) : Prop := d = .adr C ∧ R
theorem v_kAdr {R : Prop} (h : R) : kAdr C (.adr C) R := ⟨rfl, h⟩
theorem v_make {pf : PSp W0} (h : q ω ρ (fun ω0 d => kAdr C d (qs ω0 ρ (fun ω1 ds => inW W pf ω1 ds Q E) E)) E) : qMake C pf q qs ω ρ Q E := h
theorem v_cmeth (h : q ω ρ (fun ω0 d => kAdr C d (qs ω0 ρ (fun ω1 ds => pf ω1 (.adr C :: ds) Q E) E)) E) : qCMeth C pf q qs ω ρ Q E := h
def kLenO (C : Addr) (ds : List D) (R : Prop) : Prop := ∃ ns es, ds = [.ins C ns es] ∧ R
theorem v_kLenO {ns : List Str} {R : Prop} (h : R) : kLenO C [.ins C ns ds] R := ⟨ns, ds, rfl, h⟩
def kN63 (d : D) (R : Prop) : Prop := ∃ n : Int, d = .int n ∧ 0 ≤ n ∧ n < 2 ^ 63 ∧ R
theorem v_kN63 {R : Prop} (h0 : 0 ≤ i) (h1 : i < 1000000000) (h : R) : kN63 (.int i) R := ⟨i, rfl, h0, by omega, h⟩
theorem v_lenO (h : qs ω ρ (fun ω1 ds => kLenO C ds (pf ω1 ds (fun ω' d => kN63 d (Q ω' d)) (fun _ _ => False))) E) : qLenO C pf qs ω ρ Q E := h
theorem v_listRg {qr : QTR W} (h : qr ω ρ (fun ω1 i j => RgOk i j ∧ Q ω1 (.lst (dInts (rgI i j)))) E) : qListRg qr ω ρ Q E := h
theorem v_tupRg {qr : QTR W} (h : qr ω ρ (fun ω1 i j => RgOk i j ∧ Q ω1 (.tup (dInts (rgI i j)))) E) : qTupRg qr ω ρ Q E := h
theorem v_rg1 {R : W.Ω → Int → Int → Prop} (h : qa ω ρ (fun ω1 x => ∃ n, x = .int n ∧ R ω1 0 n) E) : qRg1 qa ω ρ R E := h
def kTwo (x y : D) (R : Int → Int → Prop) : Prop := ∃ n k', x = .int n ∧ y = .int k' ∧ R n k'
theorem v_kTwo {R : Int → Int → Prop} (h : R i j) : kTwo (.int i) (.int j) R := ⟨i, j, rfl, rfl, h⟩
theorem v_rg2 {R : W.Ω → Int → Int → Prop} (h : qa ω ρ (fun ω1 x => qb ω1 ρ (fun ω2 y => kTwo x y fun n k => R ω2 n k) E) E) : qRg2 qa qb ω ρ R E := h
end
theorem v_try {K : PySem.W.Frag} {W : Wrl} {s : QTS W} {l : Cls3 W} {P : PEn W} {ω : W.Ω} {ρ : List Sl} (h : s { P with ex := fun ω x ρ => hsel K l P ω x ρ } ω ρ) : sTry K s l P ω ρ := h
end LW
namespace LW
open PySem PySem.Spec PyProof.Rows L2
theorem wipeP_get {ρ : List Sl} {j : Nat} : ∀ {vs : List Nat}, (wipeP ρ vs)[j]? = if j ∈ vs then (if j < ρ.length then some .no else none) else ρ[j]?
  | [] => by simp [wipeP]
  | v :: vs => by
    have ih := @wipeP_get ρ j vs
    have hl : ∀ vs : List Nat, (wipeP ρ vs).length = ρ.length := fun vs => by
      induction vs with
      | nil => rfl
      | cons v vs ih => show ((wipeP ρ vs).set v .no).length = _; rw [List.length_set, ih]
    show ((wipeP ρ vs).set v .no)[j]? = _
    rw [List.getElem?_set, hl]
    by_cases e : v = j
    · subst e
      rw [if_pos rfl, if_pos List.mem_cons_self]
    · rw [if_neg e, ih]
      have : (j ∈ v :: vs) ↔ j ∈ vs := by
        rw [List.mem_cons]
        exact ⟨fun h => h.resolve_left fun z => e z.symm, .inr⟩
      simp only [this]
theorem wipeP_len {ρ : List Sl} : ∀ vs : List Nat, (wipeP ρ vs).length = ρ.length
  | [] => rfl
  | v :: vs => by show ((wipeP ρ vs).set v .no).length = _; rw [List.length_set, wipeP_len vs]
theorem wipeP_sub {ρ : List Sl} {vs vs1 : List Nat} (h : ∀ j, j ∈ vs1 → j ∈ vs) : wipeP (wipeP ρ vs1) vs = wipeP ρ vs := by
  refine List.ext_getElem? fun j => ?_
  rw [wipeP_get, wipeP_get, wipeP_len, wipeP_get]
  by_cases e : j ∈ vs
  · rw [if_pos e, if_pos e]
  · rw [if_neg e, if_neg e, if_neg fun z => e (h j z)]
theorem wipe_sub {σ : L2.St} {vs vs1 : List Nat} (h : ∀ j, j ∈ vs1 → j ∈ vs) : L2.wipe (L2.wipe σ vs1) vs = L2.wipe σ vs := by
  refine List.ext_getElem? fun j => ?_
  rw [wipe_get, wipe_get, wipe_length, wipe_get]
  by_cases e : j ∈ vs
  · rw [if_pos e, if_pos e]
  · rw [if_neg e, if_neg e, if_neg fun z => e (h j z)]
section
variable {X : Cx} {W : Wrl} {Wo : WX} {mi mi1 m : Md} {qi qi1 : QTI W} {g g1 : QTG} {qt1 : QTT W} {qe : QT W} {vs vs1 ts ts1 : List Nat} {ifs1 : List Expr}
def kLc2 (qi1 : QTI W) (g g1 : QTG) (qt1 : QTT W) (qe : QT W) (vs vs1 : List Nat) (ρ : List Sl) (Q : W.Ω → D → Prop) (ω1 : W.Ω) (ds : List D) : Prop := still ρ vs = true ∧ ∃ I : Nat → W.Ω → List D → Prop, I 0 ω1 [] ∧
  (∀ i d ω acc, ds[i]? = some d → I i ω acc → g d (wipeP ρ vs) fun ρ2 => wipeP ρ2 vs = wipeP ρ vs ∧ qi1 ω ρ2 (fun ω2 es => ∃ J : Nat → W.Ω → List D → Prop, J 0 ω2 acc ∧
    (∀ j e ω acc, es[j]? = some e → J j ω acc → acc.length < 1000000 ∧ g1 e (wipeP ρ2 vs1) fun ρ3 => wipeP ρ3 vs1 = wipeP ρ2 vs1 ∧ qt1 ω ρ3 (fun ω3 b => if b = true then qe ω3 ρ3 (fun ω4 y => J (j + 1) ω4 (acc ++ [y])) (fun _ _ => False) else J (j + 1) ω3 acc) (fun _ _ => False)) ∧
    ∀ ω acc, J es.length ω acc → I (i + 1) ω acc) (fun _ _ => False)) ∧ ∀ ω acc, I ds.length ω acc → Q ω (.lst acc)
def qLc2 (qi qi1 : QTI W) (g g1 : QTG) (qt1 : QTT W) (qe : QT W) (vs vs1 : List Nat) : QT W := fun ω ρ Q E => qi ω ρ (fun ω1 ds => kLc2 qi1 g g1 qt1 qe vs vs1 ρ Q ω1 ds) E
theorem lf_lc2 {K : PySem.W.Frag} (hts : ∀ j, j ∈ ts → j ∈ vs) (hts1 : ∀ j, j ∈ ts1 → j ∈ vs1) (hv1 : ∀ j, j ∈ vs1 → j ∈ vs) (σ : L2.St) (H : Hp) (Q : VK) (h : lfE .F K W Wo (qLc2 qi qi1 g g1 qt1 qe vs vs1) σ H Q) :
    tLc2 (lfI mi K W Wo qi) (lfG mi K W ts g) (lfT K W Wo0 qYes) (lfI mi1 K W Wo0 qi1) (lfG mi1 K W ts1 g1) (lfT K W Wo0 qt1) (lfE .A K W Wo0 qe) vs vs1 σ H Q := by
  obtain ⟨F, T, ω, ρ, Qp, Ep, R, q, hx, k⟩ := h
  refine ⟨F, T, ω, ρ, _, Ep, R, q, hx, fun T1 ω1 h ds J H1 R1 e1 it ⟨hst, I, i0, hstep, hend⟩ B hB => ?_⟩
  obtain ⟨hv, Rw, back⟩ := wipeHid vs hst R1
  have F1B : F.H B = none := R1.gr.live B hB
  have Rg := Rw.guard hB (.lst [])
  have eB : Ext T1 H1 T1 (upd H1 B (.lst [])) := Ext.of0 (GrP.new hB)
  generalize hF : ((F.add h).add hv).grd B = F' at Rg
  have SB : F'.S B := by rw [← hF]; exact .inr rfl
  have FB : F'.H B = none := by rw [← hF]; exact F1B
  have hh : ∀ p, p ∈ h → p ∈ F'.hid := fun p hp => by rw [← hF]; exact List.mem_append_right _ (List.mem_append_left _ hp)
  have hhv : ∀ p, p ∈ hv → p ∈ ((F.add h).add hv).hid := fun p hp => List.mem_append_left _ hp
  have ext : ∀ {T H T' H' : _} {acc : List D} {xs : List V}, Ext T H T' H' → RepsA K H (Spr F' T (wipeP ρ vs)) acc xs → RepsA K H' (Spr F' T' (wipeP ρ vs)) acc xs := fun e r => r.ext e.gr (fun a t => .inl (.inr (.inl t))) (Spr.ext e)
  refine ⟨fun i n H => i + n = ds.length ∧ ∃ T ω acc xs, Rel K W F' T ω (wipeP ρ vs) (L2.wipe σ vs) H ∧ Ext T1 H1 T H ∧ H B = some (.lst xs) ∧ RepsA K H (Spr F' T (wipeP ρ vs)) acc xs ∧ I i ω acc, ⟨ds.length, by omega, T1, ω1, [], [], Rg, eB, upd_same, .nil, i0⟩, fun i n H2 ⟨hn, T2, ω2, acc, xs, R2, e2, hB2, ra, q2⟩ => ?_⟩
  obtain ⟨h1, h2, h3⟩ := it _ T2 ω2 _ _ H2 hh R2 i
  rcases Nat.lt_or_ge i ds.length with hi | hi
  · refine .inr ⟨h1 hi, fun H' => ∃ T ω acc xs, Rel K W F' T ω (wipeP ρ vs) (L2.wipe σ vs) H' ∧ Ext T1 H1 T H' ∧ H' B = some (.lst xs) ∧ RepsA K H' (Spr F' T (wipeP ρ vs)) acc xs ∧ I (i + 1) ω acc, fun H' q => ⟨n - 1, by omega, by omega, q⟩, fun x H3 hy => ?_⟩
    obtain ⟨g3, rx⟩ := h3 ds[i] x H3 (List.getElem?_eq_getElem hi) hy
    have R3 := R2.grow g3
    have x3 : Ext T2 H2 T2 H3 := Ext.of0 g3
    refine ⟨_, T2, ω2, _, ds[i], _, R3, rx, hstep i _ ω2 acc (List.getElem?_eq_getElem hi) q2, fun ρ4 σ4 R4 l4 f4 ⟨w4, q4⟩ => ⟨wipe_same l4 f4 hts, _, T2, ω2, ρ4, fun ω' b => b = true ∧ qi1 ω' ρ4 _ _, fun _ _ => False, R4, ⟨rfl, q4⟩, fun _ _ _ _ _ _ _ _ z => z, fun T5 ω5 b H5 R5 e5 ⟨hb, q5⟩ => ?_⟩⟩
    subst hb
    rw [if_pos rfl]
    have sw : L2.wipe σ4 vs = L2.wipe σ vs := wipe_same l4 f4 hts
    refine ⟨_, T5, ω5, ρ4, _, _, R5, q5, fun _ _ _ _ _ _ _ _ z => z, fun T6 ω6 h6 es J1 H6 R6 e6 it1 ⟨Jv, j0, jstep, jend⟩ => ?_⟩
    have eI : Ext T2 H2 T6 H6 := x3.trans (e5.trans e6)
    have hB6 : H6 B = some (.lst xs) := eI.gr.keep _ _ hB2 (.inr (R2.s0 B SB).2)
    refine ⟨fun j n H => j + n = es.length ∧ ∃ T ω acc xs, Rel K W (F'.add h6) T ω (wipeP ρ4 vs1) (L2.wipe σ4 vs1) H ∧ Ext T1 H1 T H ∧ H B = some (.lst xs) ∧ RepsA K H (Spr F' T (wipeP ρ vs)) acc xs ∧ Jv j ω acc, ⟨es.length, by omega, T6, ω6, acc, xs, R6.wipe vs1, e2.trans eI, hB6, ext eI ra, j0⟩, fun j n H7 ⟨hn7, T7, ω7, acc7, xs7, R7, e7, hB7, ra7, q7⟩ => ?_⟩
    obtain ⟨k1, k2, k3⟩ := it1 (F'.add h6) T7 ω7 _ _ H7 (fun p hp => List.mem_append_left _ hp) R7 j
    rcases Nat.lt_or_ge j es.length with hj | hj
    · refine .inr ⟨k1 hj, fun H' => ∃ T ω acc xs, Rel K W (F'.add h6) T ω (wipeP ρ4 vs1) (L2.wipe σ4 vs1) H' ∧ Ext T1 H1 T H' ∧ H' B = some (.lst xs) ∧ RepsA K H' (Spr F' T (wipeP ρ vs)) acc xs ∧ Jv (j + 1) ω acc, fun H' q => ⟨n - 1, by omega, by omega, q⟩, fun x8 H8 hy8 => ?_⟩
      obtain ⟨g8, rx8⟩ := k3 es[j] x8 H8 (List.getElem?_eq_getElem hj) hy8
      obtain ⟨hl7, js⟩ := jstep j _ ω7 acc7 (List.getElem?_eq_getElem hj) q7
      have R8 := R7.grow g8
      have x8' : Ext T7 H7 T7 H8 := Ext.of0 g8
      refine ⟨_, T7, ω7, _, es[j], _, R8, rx8, js, fun ρ9 σ9 R9 l9 f9 ⟨w9, q9⟩ => ⟨wipe_same l9 f9 hts1, _, T7, ω7, ρ9, _, _, R9, q9, fun _ _ _ _ _ _ _ _ z => z, fun T10 ω10 b H10 R10 e10 q10 => ?_⟩⟩
      have sw9 : L2.wipe σ9 vs1 = L2.wipe σ4 vs1 := wipe_same l9 f9 hts1
      have done : ∀ T11 ω11 H11, Rel K W (F'.add h6) T11 ω11 ρ9 σ9 H11 → Ext T7 H8 T11 H11 → Rel K W (F'.add h6) T11 ω11 (wipeP ρ4 vs1) (L2.wipe σ4 vs1) H11 ∧ Ext T1 H1 T11 H11 ∧ H11 B = some (.lst xs7) ∧ RepsA K H11 (Spr F' T11 (wipeP ρ vs)) acc7 xs7 := fun T11 ω11 H11 R11 e11 => by
        have z := R11.wipe vs1
        rw [w9, sw9] at z
        exact ⟨z, e7.trans (x8'.trans e11), (x8'.trans e11).gr.keep _ _ hB7 (.inr (R7.s0 B SB).2), ext (x8'.trans e11) ra7⟩
      cases b with
      | false =>
        obtain ⟨z1, z2, z3, z4⟩ := done T10 ω10 H10 R10 e10
        exact ⟨T10, ω10, acc7, xs7, z1, z2, z3, z4, q10⟩
      | true =>
        refine ⟨_, T10, ω10, ρ9, _, _, R10, q10, fun _ _ _ _ _ _ _ _ z => z, fun T11 ω11 y w H11 R11 e11 r11 q11 => ?_⟩
        obtain ⟨z1, z2, z3, z4⟩ := done T11 ω11 H11 R11 (e10.trans e11)
        have gD : GrP (fun a => a = B) H11 (upd H11 B (.lst (xs7 ++ [w]))) := GrP.wr rfl fun u hu => by rw [z3] at hu; cases hu; rfl
        have ew : wipeP ρ9 vs = wipeP ρ vs := by rw [← wipeP_sub (ρ := ρ9) hv1, w9, wipeP_sub hv1, w4]
        have ry : RepA K H11 (Spr F' T11 (wipeP ρ vs)) y w := RepA.less r11 fun a z => by
          rcases z with z | z | z
          · exact .inl z
          · exact .inr (.inl z)
          · exact .inr (.inr ((owns_wipe_sub vs).subset (by rw [ew]; exact z)))
        have hxl : xs7.length < 1000000 := by have := z4.len; omega
        refine ⟨xs7, z3, Nat.lt_of_lt_of_le hxl (by decide), T11, ω11, acc7 ++ [y], xs7 ++ [w], z1.wrS SB FB (fun u hu => by rw [z3] at hu; cases hu; rfl), ⟨z2.gr.trans gD fun a z => by rw [z]; exact .inr hB, z2.tn⟩, upd_same, ?_, q11⟩
        exact (RepsA.append (.cons ry .nil) z4).ext gD (fun a z => by rw [z]; exact .inl (.inl SB)) fun a z => .inl z
    · have : j = es.length := by omega
      subst this
      refine .inl ⟨k2 hj, ?_⟩
      have z := R7.drop.wipe vs
      rw [wipeP_sub hv1, wipe_sub hv1, w4, sw] at z
      exact ⟨T7, ω7, acc7, xs7, z, e7, hB7, ra7, jend ω7 acc7 q7⟩
  · have : i = ds.length := by omega
    subst this
    refine .inl ⟨h2 hi, ?_⟩
    subst hF
    have Rf : Rel K W F T2 ω2 ρ σ H2 := (back _ T2 ω2 H2 hhv R2.unguard).drop.drop
    refine k T2 ω2 (.lst acc) (.ref B) H2 Rf (e1.trans e2) ⟨B, xs, acc, rfl, rfl, e1.gr.live B hB, fun z => ?_, hB2, ra.less fun a z => ?_⟩ (hend ω2 acc q2)
    · rcases z with z | z | z
      · exact (R1.s0 B z).1 hB
      · exact (R2.s0 B (.inr rfl)).2 z
      · exact R1.spl B (.inr (.inr z)) hB
    · rcases z with (z | z | z) | z
      · exact .inl (.inl z)
      · exact .inr (.inl z)
      · exact .inr (.inr (by rw [owns_wipe hst]; exact z))
      · exact .inl (.inr z)
variable {elt tg iter tg1 iter1 : Expr} {scope : Scope} {own : List (Str × Nat)} {pos spos py : Pos} {i : Nat} {y : Str}
variable {mr : Md}
theorem qs_setLc2 (hc : X.calm = true) (hN : X.N.Nodup) (hy : X.N[i]? = some y) (hyl : X.env.scope.names.lookup y = some .local)
    (hsw : swapsWith (.ListComp elt [⟨tg, iter, [], 0⟩, ⟨tg1, iter1, ifs1, 0⟩] scope pos) (some (.Name y py)) spos.line X.env = pure true) (hi : QI X mi W Wo tg iter qi) (ok : BlkOk X.N X.env.scope scope own)
    (hg : ∀ (s : Shared) (H : Hp) (C : Addr) (cl : List (Str × Addr)) (fp : List Addr), QG (X.blk s H scope (compEnvC scope cl C X.env) fp) mi W tg ts g)
    (hi1 : ∀ (s : Shared) (H : Hp) (C : Addr) (cl : List (Str × Addr)) (fp : List Addr), QI (X.blk s H scope (compEnvC scope cl C X.env) fp) mi1 W Wo0 tg1 iter1 qi1)
    (hg1 : ∀ (s : Shared) (H : Hp) (C : Addr) (cl : List (Str × Addr)) (fp : List Addr), QG (X.blk s H scope (compEnvC scope cl C X.env) fp) mi1 W tg1 ts1 g1)
    (ht1 : ∀ (s : Shared) (H : Hp) (C : Addr) (cl : List (Str × Addr)) (fp : List Addr), QTs (X.blk s H scope (compEnvC scope cl C X.env) fp) W Wo0 ifs1 qt1)
    (he : ∀ (s : Shared) (H : Hp) (C : Addr) (cl : List (Str × Addr)) (fp : List Addr), QE (X.blk s H scope (compEnvC scope cl C X.env) fp) .A W Wo0 elt qe)
    (hts : ∀ j, j ∈ ts → j ∈ own.map (·.2) := by decide) (hts1 : ∀ j, j ∈ ts1 → j ∈ vs1 := by decide) (hv1 : ∀ j, j ∈ vs1 → j ∈ own.map (·.2) := by decide) (hs : ∀ x, foldedSetIterable iter X.env x = pure x := by intro _; rfl) (hs1 : ∀ env x, foldedSetIterable iter1 env x = pure x := by intro _ _; rfl) :
    QS X mr W Wo (.Assign [.Name y py] (.ListComp elt [⟨tg, iter, [], 0⟩, ⟨tg1, iter1, ifs1, 0⟩] scope pos) spos) (sSet i (qLc2 qi qi1 g g1 qt1 qe (own.map (·.2)) vs1)) :=
  PS.imp (ps_setLc2 (g := lfG mi X.K W ts g) (tt := lfT X.K W Wo0 qYes) (g1 := lfG mi1 X.K W ts1 g1) (tt1 := lfT X.K W Wo0 qt1) (te := lfE .A X.K W Wo0 qe) (wi1 := lfI mi1 X.K W Wo0 qi1) hc hN hy hyl hsw hi ok hv1 hg (fun _ _ _ _ _ => qts_nil) hi1 hg1 ht1 he hs hs1) fun D σ H ⟨F, T, ω, ρ, P, R, q, S⟩ => lf_lc2 hts hts1 hv1 σ H _
    ⟨F, T, ω, ρ, _, _, R, q, S.xok, fun T' ω' d v H' R' e r q' => S.nx T' ω' _ _ H' (R'.set_va (RF.a r) i) q'⟩
end
section
variable {W : Wrl} {ω : W.Ω} {ρ : List Sl} {Q : W.Ω → D → Prop} {E : W.Ω → Exn → Prop} {qi qi1 : QTI W} {g g1 : QTG} {qt1 : QTT W} {qe : QT W} {vs vs1 : List Nat} {ds : List D}
theorem v_lc2 (h : qi ω ρ (fun ω1 ds => kLc2 qi1 g g1 qt1 qe vs vs1 ρ Q ω1 ds) E) : qLc2 qi qi1 g g1 qt1 qe vs vs1 ω ρ Q E := h
def kLc2i (g1 : QTG) (qt1 : QTT W) (qe : QT W) (vs1 : List Nat) (ρ2 : List Sl) (Z : W.Ω → List D → Prop) (acc : List D) (ω2 : W.Ω) (es : List D) : Prop := ∃ J : Nat → W.Ω → List D → Prop, J 0 ω2 acc ∧
    (∀ j e ω acc, es[j]? = some e → J j ω acc → acc.length < 1000000 ∧ g1 e (wipeP ρ2 vs1) fun ρ3 => wipeP ρ3 vs1 = wipeP ρ2 vs1 ∧ qt1 ω ρ3 (fun ω3 b => if b = true then qe ω3 ρ3 (fun ω4 y => J (j + 1) ω4 (acc ++ [y])) (fun _ _ => False) else J (j + 1) ω3 acc) (fun _ _ => False)) ∧
    ∀ ω acc, J es.length ω acc → Z ω acc
theorem v_kLc2 (I : Nat → W.Ω → List D → Prop) (hst : still ρ vs = true) (h0 : I 0 ω [])
    (hs : ∀ i d ω acc, ds[i]? = some d → I i ω acc → g d (wipeP ρ vs) fun ρ2 => wipeP ρ2 vs = wipeP ρ vs ∧ qi1 ω ρ2 (fun ω2 es => kLc2i g1 qt1 qe vs1 ρ2 (I (i + 1)) acc ω2 es) (fun _ _ => False))
    (hd : ∀ ω acc, I ds.length ω acc → Q ω (.lst acc)) : kLc2 qi1 g g1 qt1 qe vs vs1 ρ Q ω ds := ⟨hst, I, h0, hs, hd⟩
theorem v_kLc2i {ρ2 : List Sl} {Z : W.Ω → List D → Prop} {acc es : List D} (J : Nat → W.Ω → List D → Prop) (h0 : J 0 ω acc)
    (hs : ∀ j e ω acc, es[j]? = some e → J j ω acc → acc.length < 1000000 ∧ g1 e (wipeP ρ2 vs1) fun ρ3 => wipeP ρ3 vs1 = wipeP ρ2 vs1 ∧ qt1 ω ρ3 (fun ω3 b => if b = true then qe ω3 ρ3 (fun ω4 y => J (j + 1) ω4 (acc ++ [y])) (fun _ _ => False) else J (j + 1) ω3 acc) (fun _ _ => False))
    (hd : ∀ ω acc, J es.length ω acc → Z ω acc) : kLc2i g1 qt1 qe vs1 ρ2 Z acc ω es := ⟨J, h0, hs, hd⟩
end
end LW
namespace LW
open PySem
open Sem (wp)
def deadK : Resume → Sem PySem.Fin := fun _ => .unsupported "asleep"
def offG : GenState → GenState
  | .suspended _ l c p fs cl => .suspended deadK l c p fs cl
  | g => g
def isSus : GenState → Bool
  | .suspended .. => true
  | _ => false
def NoG (fs : List Frame) : Prop := ∀ F ∈ fs, ∃ k h g l c p kp, F = .ret k h g l c p kp
theorem NoG.nil : NoG [] := fun _ h => by cases h
theorem NoG.cons {k h g l c p kp fs} (x : NoG fs) : NoG (.ret k h g l c p kp :: fs) := fun F hF => by
  rcases List.mem_cons.mp hF with rfl | hF
  · exact ⟨_, _, _, _, _, _, _, rfl⟩
  · exact x F hF
theorem NoG.append {a b : List Frame} (x : NoG a) (y : NoG b) : NoG (a ++ b) := fun F hF => (List.mem_append.mp hF).elim (x F) (y F)
theorem NoG.split : ∀ {fs : List Frame}, NoG fs → splitAtGen fs = none
  | [], _ => rfl
  | F :: fs, x => by
    obtain ⟨k, h, g, l, c, p, kp, rfl⟩ := x F List.mem_cons_self
    show (splitAtGen fs).map _ = none
    rw [NoG.split fun G hG => x G (List.mem_cons_of_mem _ hG)]
    rfl
structure OffG (O : Nat → Prop) (g0 G T : Array GenState) : Prop where
  size : G.size = T.size
  off : ∀ i, O i → G[i]? = g0[i]? ∧ ∃ k l c p fs cl, G[i]? = some (.suspended k l c p fs cl) ∧ T[i]? = some (.suspended deadK l c p fs cl)
  on : ∀ i, ¬ O i → G[i]? = T[i]? ∧ ∀ k l c p fs cl, T[i]? = some (.suspended k l c p fs cl) → NoG fs
def NoGS : GenState → Prop
  | .suspended _ _ _ _ fs _ => NoG fs
  | _ => True
def NoGE : End → Prop
  | .susp _ _ _ _ _ _ fs => NoG fs
  | _ => True
theorem NoGE.st {e : End} (h : NoGE e) : NoGS e.genState := by
  cases e with
  | ret r => trivial
  | susp v g l k c p fs => exact h
variable {O : Nat → Prop} {g0 G T : Array GenState} {M : Model}
theorem getSet {A : Array GenState} {g i : Nat} {x : GenState} : (A.setIfInBounds g x)[i]? = if i = g then (if g < A.size then some x else none) else A[i]? := by
  rw [Array.getElem?_setIfInBounds]
  by_cases h : g = i
  · subst h
    simp
  · rw [if_neg h, if_neg (fun z => h z.symm)]
theorem OffG.set {g : Nat} {x : GenState} (h : OffG O g0 G T) (hg : ¬ O g) (hx : NoGS x) : OffG O g0 (G.setIfInBounds g x) (T.setIfInBounds g x) where
  size := by rw [Array.size_setIfInBounds, Array.size_setIfInBounds]; exact h.size
  off i hi := by
    have hn : i ≠ g := fun z => hg (z ▸ hi)
    rw [getSet, if_neg hn, getSet, if_neg hn]
    exact h.off i hi
  on i hi := by
    rw [getSet (A := G), getSet (A := T), h.size]
    by_cases hn : i = g
    · rw [if_pos hn, if_pos hn]
      refine ⟨rfl, fun k l c p fs cl e => ?_⟩
      split at e
      · cases e; exact hx
      · cases e
    · rw [if_neg hn, if_neg hn]
      exact h.on i hi
theorem OffG.push {c : Code} (h : OffG O g0 G T) (hO : ∀ i, O i → i < G.size) : OffG O g0 (G.push (.fresh c)) (T.push (.fresh c)) where
  size := by rw [Array.size_push, Array.size_push, h.size]
  off i hi := by
    have h1 := hO i hi
    have h2 : i < T.size := by rw [← h.size]; exact h1
    have := h.off i hi
    rw [Array.getElem?_eq_getElem h1, Array.getElem?_eq_getElem h2] at this
    rw [Array.getElem?_push_lt h1, Array.getElem?_push_lt h2]
    exact this
  on i hi := by
    rw [Array.getElem?_push, Array.getElem?_push, h.size]
    split
    · exact ⟨rfl, fun k l c p fs cl e => by cases e⟩
    · exact h.on i hi
theorem OffG.lt {i : Nat} (h : OffG O g0 G T) (hi : O i) : i < G.size := by
  obtain ⟨_, k, l, c, p, fs, cl, e, _⟩ := h.off i hi
  exact (Array.getElem?_eq_some_iff.mp e).1
theorem OffG.notO {i : Nat} {y : GenState} (h : OffG O g0 G T) (e : T[i]? = some y) (hy : isSus y = false) : ¬ O i := fun z => by
  obtain ⟨_, k, l, c, p, fs, cl, _, e2⟩ := h.off i z
  rw [e] at e2
  cases e2
  cases hy
theorem OffG.seen {i : Nat} {x : GenState} (h : OffG O g0 G T) (e : T[i]? = some x) : ∃ y, G[i]? = some y ∧ y.seen = x.seen := by
  by_cases hi : O i
  · obtain ⟨_, k, l, c, p, fs, cl, e1, e2⟩ := h.off i hi
    rw [e2] at e
    cases e
    exact ⟨_, e1, rfl⟩
  · exact ⟨x, (h.on i hi).1.trans e, rfl⟩
theorem dead_runs {Γ : Ctx} {p : Pos} {w : String} {fs : List Frame} {s s' : Shared} {e : End} : ¬ Runs M Γ p (.unsupported w) fs s e s' := by
  intro h
  cases h with
  | segRet h1 _ => cases h1
  | segGen h1 _ => cases h1
  | segSuspOut _ h1 => cases h1
  | segSuspGen _ h1 _ _ => cases h1
theorem runs_off {Γ : Ctx} {p : Pos} {t : Sem PySem.Fin} {fs : List Frame} {s s' : Shared} {e : End} (h : Runs M Γ p t fs s e s') : NoG fs → ∀ G, OffG O g0 G s.gens →
    ∃ G', Runs M Γ p t fs { s with gens := G } e { s' with gens := G' } ∧ OffG O g0 G' s'.gens ∧ NoGE e := by
  induction h with
  | done => intro _ G r; exact ⟨G, .done, r, trivial⟩
  | raise => intro _ G r; exact ⟨G, .raise, r, trivial⟩
  | again hq _ ih => intro n G r; obtain ⟨G', a, b, c⟩ := ih n G r; exact ⟨G', .again hq a, b, c⟩
  | rule _ ih => intro n G r; obtain ⟨G', a, b, c⟩ := ih n G r; exact ⟨G', .rule a, b, c⟩
  | «at» _ ih => intro n G r; obtain ⟨G', a, b, c⟩ := ih n G r; exact ⟨G', .at a, b, c⟩
  | load ho _ ih => intro n G r; obtain ⟨G', a, b, c⟩ := ih n G r; exact ⟨G', .load ho a, b, c⟩
  | update ho _ ih => intro n G r; obtain ⟨G', a, b, c⟩ := ih n G r; exact ⟨G', .update ho a, b, c⟩
  | loadIfAlive _ ih => intro n G r; obtain ⟨G', a, b, c⟩ := ih n G r; exact ⟨G', .loadIfAlive a, b, c⟩
  | point _ ih => intro n G r; obtain ⟨G', a, b, c⟩ := ih n G r; exact ⟨G', .point a, b, c⟩
  | alloc _ ih => intro n G r; obtain ⟨G', a, b, c⟩ := ih n G r; exact ⟨G', .alloc a, b, c⟩
  | fresh _ ih => intro n G r; obtain ⟨G', a, b, c⟩ := ih n G r; exact ⟨G', .fresh a, b, c⟩
  | ask _ ih => intro n G r; obtain ⟨G', a, b, c⟩ := ih n G r; exact ⟨G', .ask a, b, c⟩
  | choose hn _ ih => intro n G r; obtain ⟨G', a, b, c⟩ := ih n G r; exact ⟨G', .choose hn a, b, c⟩
  | os _ ih => intro n G r; obtain ⟨G', a, b, c⟩ := ih n G r; exact ⟨G', .os a, b, c⟩
  | handled _ ih => intro n G r; obtain ⟨G', a, b, c⟩ := ih n G r; exact ⟨G', .handled a, b, c⟩
  | genState hg _ ih =>
    intro n G r
    obtain ⟨y, hy, e⟩ := r.seen hg
    obtain ⟨G', a, b, c⟩ := ih n G r
    exact ⟨G', .genState hy (by rw [e]; exact a), b, c⟩
  | stack _ ih => intro n G r; obtain ⟨G', a, b, c⟩ := ih n G r; exact ⟨G', .stack a, b, c⟩
  | thread _ ih => intro n G r; obtain ⟨G', a, b, c⟩ := ih n G r; exact ⟨G', .thread a, b, c⟩
  | @newGen Γ p k s e s' c _ ih =>
    intro n G r
    obtain ⟨G', a, b, d⟩ := ih n (G.push (.fresh c)) (r.push fun i hi => r.lt hi)
    exact ⟨G', .newGen (by show Runs M Γ p (k G.size) _ _ _ _; rw [r.size]; exact a), b, d⟩
  | call _ _ ih1 ih2 =>
    intro n G r
    obtain ⟨G1, a1, b1, _⟩ := ih1 .nil G r
    obtain ⟨G2, a2, b2, c2⟩ := ih2 n G1 b1
    exact ⟨G2, .call a1 a2, b2, c2⟩
  | callSusp _ ih =>
    intro n G r
    obtain ⟨G1, a1, b1, c1⟩ := ih .nil G r
    exact ⟨G1, .callSusp a1, b1, NoG.append c1 (.cons .nil)⟩
  | yield => intro _ G r; exact ⟨G, .yield, r, NoG.nil⟩
  | @resumeFresh Γ p g l k s c e₁ s₁ e s' hg _ hq _ ih1 ih2 =>
    intro n G r
    have hO : ¬ O g := fun z => by
      obtain ⟨_, k, l, c, p, fs, cl, _, e⟩ := r.off g z
      rw [hg] at e; cases e
    obtain ⟨G1, a1, b1, c1⟩ := ih1 .nil (G.setIfInBounds g .running) (r.set hO (x := .running) trivial)
    obtain ⟨G2, a2, b2, c2⟩ := ih2 n (G1.setIfInBounds g e₁.genState) (b1.set hO c1.st)
    exact ⟨G2, .resumeFresh (s := { s with gens := G }) (s₁ := { s₁ with gens := G1 }) ((r.on g hO).1.trans hg) a1 hq a2, b2, c2⟩
  | @resumeSuspended Γ p g r' l k s k₀ l₀ c₀ p₀ fs cl e₁ s₁ e s' hg h1 hq _ ih1 ih2 =>
    intro n G r
    have hO : ¬ O g := fun z => by
      obtain ⟨_, k, l, c, p, fs, cl, _, e⟩ := r.off g z
      rw [hg] at e; cases e
      exact dead_runs h1
    obtain ⟨G1, a1, b1, c1⟩ := ih1 ((r.on g hO).2 _ _ _ _ _ _ hg) (G.setIfInBounds g .running) (r.set hO (x := .running) trivial)
    obtain ⟨G2, a2, b2, c2⟩ := ih2 n (G1.setIfInBounds g e₁.genState) (b1.set hO c1.st)
    exact ⟨G2, .resumeSuspended (s := { s with gens := G }) (s₁ := { s₁ with gens := G1 }) ((r.on g hO).1.trans hg) a1 hq a2, b2, c2⟩
  | resumeJustStarted hg hv _ ih =>
    intro n G r
    have hO := r.notO hg rfl
    obtain ⟨G1, a1, b1, c1⟩ := ih n G r
    exact ⟨G1, .resumeJustStarted ((r.on _ hO).1.trans hg) hv a1, b1, c1⟩
  | resumeThrowFresh hg _ ih =>
    intro n G r
    have hO := r.notO hg rfl
    obtain ⟨G1, a1, b1, c1⟩ := ih n _ (r.set (x := .finished) hO trivial)
    exact ⟨G1, .resumeThrowFresh ((r.on _ hO).1.trans hg) a1, b1, c1⟩
  | resumeRunning hg _ ih =>
    intro n G r
    have hO := r.notO hg rfl
    obtain ⟨G1, a1, b1, c1⟩ := ih n G r
    exact ⟨G1, .resumeRunning ((r.on _ hO).1.trans hg) a1, b1, c1⟩
  | resumeFinished hg _ ih =>
    intro n G r
    have hO := r.notO hg rfl
    obtain ⟨G1, a1, b1, c1⟩ := ih n G r
    exact ⟨G1, .resumeFinished ((r.on _ hO).1.trans hg) a1, b1, c1⟩
  | segRet _ _ ih1 ih2 =>
    intro n G r
    obtain ⟨G1, a1, b1, _⟩ := ih1 .nil G r
    obtain ⟨G2, a2, b2, c2⟩ := ih2 (fun F hF => n F (List.mem_cons_of_mem _ hF)) G1 b1
    exact ⟨G2, .segRet a1 a2, b2, c2⟩
  | segGen _ _ _ _ =>
    intro n
    obtain ⟨_, _, _, _, _, _, _, z⟩ := n _ List.mem_cons_self
    cases z
  | segSuspOut hs _ ih =>
    intro n G r
    obtain ⟨G1, a1, b1, c1⟩ := ih .nil G r
    exact ⟨G1, .segSuspOut hs a1, b1, NoG.append c1 n⟩
  | segSuspGen hs _ _ _ _ _ =>
    intro n
    rw [n.split] at hs
    cases hs
theorem wakes_off {Γ : Ctx} {p : Pos} {g : Nat} {r : Resume} {s s' : Shared} {res : GenResult} (h : Wakes M Γ p g r s res s') {G : Array GenState} (x : OffG O g0 G s.gens) :
    ∃ G', Wakes M Γ p g r { s with gens := G } res { s' with gens := G' } ∧ OffG O g0 G' s'.gens := by
  unfold Wakes at h
  split at h
  · exact h.elim
  · rename_i c hg
    have hO : ¬ O g := fun z => by
      obtain ⟨_, k, l, c, p, fs, cl, _, e⟩ := x.off g z
      rw [hg] at e; cases e
    have hg' : G[g]? = some (.fresh c) := (x.on g hO).1.trans hg
    split at h
    · obtain ⟨e₁, s₁, hr, hq, rfl, rfl⟩ := h
      obtain ⟨G1, a1, b1, c1⟩ := runs_off hr .nil (G.setIfInBounds g .running) (x.set hO (x := .running) trivial)
      refine ⟨G1.setIfInBounds g e₁.genState, ?_, b1.set hO c1.st⟩
      unfold Wakes
      dsimp only
      rw [hg']
      exact ⟨e₁, _, a1, hq, rfl, rfl⟩
    · rename_i v hv
      obtain ⟨rfl, rfl⟩ := h
      refine ⟨G, ?_, x⟩
      unfold Wakes
      dsimp only
      rw [hg']
      cases v <;> first | exact ⟨rfl, rfl⟩ | exact absurd rfl hv
    · obtain ⟨rfl, rfl⟩ := h
      refine ⟨G.setIfInBounds g .finished, ?_, x.set hO (x := .finished) trivial⟩
      unfold Wakes
      dsimp only
      rw [hg']
      exact ⟨rfl, rfl⟩
  · rename_i k₀ l₀ c₀ p₀ fs cl hg
    obtain ⟨e₁, s₁, hr, hq, rfl, rfl⟩ := h
    have hO : ¬ O g := fun z => by
      obtain ⟨_, k, l, c, p, fs, cl, _, e⟩ := x.off g z
      rw [hg] at e; cases e
      exact dead_runs hr
    obtain ⟨h1, h2⟩ := x.on g hO
    obtain ⟨G1, a1, b1, c1⟩ := runs_off hr (h2 _ _ _ _ _ _ hg) (G.setIfInBounds g .running) (x.set hO (x := .running) trivial)
    refine ⟨G1.setIfInBounds g e₁.genState, ?_, b1.set hO c1.st⟩
    unfold Wakes
    dsimp only
    rw [h1.trans hg]
    exact ⟨e₁, _, a1, hq, rfl, rfl⟩
  · rename_i hg
    obtain ⟨rfl, rfl⟩ := h
    have hO : ¬ O g := fun z => by
      obtain ⟨_, k, l, c, p, fs, cl, _, e⟩ := x.off g z
      rw [hg] at e; cases e
    refine ⟨G, ?_, x⟩
    unfold Wakes
    dsimp only
    rw [(x.on g hO).1.trans hg]
    exact ⟨rfl, rfl⟩
  · rename_i hg
    obtain ⟨rfl, rfl⟩ := h
    have hO : ¬ O g := fun z => by
      obtain ⟨_, k, l, c, p, fs, cl, _, e⟩ := x.off g z
      rw [hg] at e; cases e
    refine ⟨G, ?_, x⟩
    unfold Wakes
    dsimp only
    rw [(x.on g hO).1.trans hg]
    exact ⟨rfl, rfl⟩
theorem wp_off {α : Type} {Γ : Ctx} (t : Sem α) : ∀ {Q : α → Pos → Shared → Prop} {E : Value → Pos → Shared → Prop} {p : Pos} {s : Shared} {G : Array GenState}, OffG O g0 G s.gens → wp M Γ t Q E p s →
    wp M Γ t (fun a p' s' => ∃ T, OffG O g0 s'.gens T ∧ Q a p' { s' with gens := T }) (fun e p' s' => ∃ T, OffG O g0 s'.gens T ∧ E e p' { s' with gens := T }) p { s with gens := G } := by
  induction t with
  | pure a => intro Q E p s G x h; exact ⟨s.gens, x, h⟩
  | raise e => intro Q E p s G x h; exact ⟨s.gens, x, h⟩
  | unsupported w => intro Q E p s G x h; exact h.elim
  | finish e => intro Q E p s G x h; exact h.elim
  | register a k => intro Q E p s G x h; exact h.elim
  | yield v g l k => intro Q E p s G x h; exact h.elim
  | fork c k => intro Q E p s G x h; exact h.elim
  | await a f d l k => intro Q E p s G x h; exact h.elim
  | rule tag k ih => intro Q E p s G x h; exact ih () x h
  | «at» p' k ih => intro Q E p s G x h; exact ih () x h
  | load a part k ih => intro Q E p s G x h; obtain ⟨o, ho, h⟩ := h; exact ⟨o, ho, ih o x h⟩
  | update a part f k ih => intro Q E p s G x h; exact ⟨h.1, ih () (s := { s with heap := s.heap.update a f }) x h.2⟩
  | alloc o k ih => intro Q E p s G x h; exact ih _ (s := { s with heap := s.heap.push o }) x h
  | loadIfAlive a k ih => intro Q E p s G x h; exact ih _ x h
  | point l k ih => intro Q E p s G x h; exact ih () x h
  | fresh k ih => intro Q E p s G x h; exact ih _ (s := { s with toks := s.toks + 1 }) x h
  | ask k ih => intro Q E p s G x h; exact ih _ x h
  | choose src n k ih => intro Q E p s G x h; exact ⟨h.1, ih _ (s := { s with drawn := s.drawn.bump src }) x h.2⟩
  | os q l k ih => intro Q E p s G x h; exact ih _ (s := { s with os := (Os.step s.os q).1 }) x h
  | call c hd g l k ih =>
    intro Q E p s G x h
    obtain ⟨r, s₁, hr, h⟩ := h
    obtain ⟨G1, a1, b1, _⟩ := runs_off hr .nil G x
    exact ⟨r, _, a1, ih r b1 h⟩
  | handled own k ih => intro Q E p s G x h; exact ih _ x h
  | genState g k ih =>
    intro Q E p s G x h
    obtain ⟨st, hg, h⟩ := h
    obtain ⟨y, hy, e⟩ := x.seen hg
    exact ⟨y, hy, by rw [e]; exact ih _ x h⟩
  | newGen c k ih =>
    intro Q E p s G x h
    have := ih s.gens.size (s := { s with gens := s.gens.push (.fresh c) }) (x.push (c := c) fun i hi => x.lt hi) h
    rw [← x.size] at this
    exact this
  | resume g r l k ih =>
    intro Q E p s G x h
    obtain ⟨res, s₁, hw, h⟩ := h
    obtain ⟨G1, a1, b1⟩ := wakes_off hw x
    exact ⟨res, _, a1, ih res b1 h⟩
  | stack k ih => intro Q E p s G x h; exact ih _ x h
  | thread k ih => intro Q E p s G x h; exact ih _ x h
theorem offG_map (G : Array GenState) : OffG (fun i => ∃ g, G[i]? = some g ∧ isSus g = true) G G (G.map offG) where
  size := by rw [Array.size_map]
  off i hi := by
    obtain ⟨g, hg, hs⟩ := hi
    cases g with
    | suspended k l c p fs cl => exact ⟨rfl, k, l, c, p, fs, cl, hg, by rw [Array.getElem?_map, hg]; rfl⟩
    | fresh c => cases hs
    | running => cases hs
    | finished => cases hs
  on i hi := by
    rw [Array.getElem?_map]
    cases e : G[i]? with
    | none => exact ⟨rfl, fun k l c p fs cl z => by cases z⟩
    | some g =>
      cases g with
      | suspended k l c p fs cl => exact absurd ⟨_, e, rfl⟩ hi
      | fresh c => exact ⟨rfl, fun k l c p fs cl z => by cases z⟩
      | running => exact ⟨rfl, fun k l c p fs cl z => by cases z⟩
      | finished => exact ⟨rfl, fun k l c p fs cl z => by cases z⟩
theorem wpAny_asleep {α : Type} {A : Around} {t : Sem α} {Q : α → Shared → Prop} {E : Value → Shared → Prop} {s : Shared}
    (h : wpAny M A t (fun a s' => ∀ G : Array GenState, G.size = s'.gens.size → (∀ (i : Nat) (g : GenState), s.gens[i]? = some g → isSus g = true → G[i]? = some g) → (PyProof.Rows.AllBare s'.gens → PyProof.Rows.AllBare G) → Q a { s' with gens := G })
      (fun e s' => ∀ G : Array GenState, G.size = s'.gens.size → (∀ (i : Nat) (g : GenState), s.gens[i]? = some g → isSus g = true → G[i]? = some g) → (PyProof.Rows.AllBare s'.gens → PyProof.Rows.AllBare G) → E e { s' with gens := G }) { s with gens := s.gens.map offG }) : wpAny M A t Q E s := by
  have fin : ∀ (G T : Array GenState), OffG (fun i => ∃ g, s.gens[i]? = some g ∧ isSus g = true) s.gens G T → G.size = T.size ∧ (∀ (i : Nat) (g : GenState), s.gens[i]? = some g → isSus g = true → G[i]? = some g) ∧ (PyProof.Rows.AllBare T → PyProof.Rows.AllBare G) := fun G T x =>
    ⟨x.size, fun i g hg hs => ((x.off i ⟨g, hg, hs⟩).1).trans hg, fun b y hy => by
      obtain ⟨i, hi, rfl⟩ := Array.mem_iff_getElem.mp hy
      have e : G[i]? = some G[i] := Array.getElem?_eq_getElem hi
      obtain ⟨z, hz⟩ : ∃ z, T[i]? = some z := ⟨_, Array.getElem?_eq_getElem (x.size ▸ hi)⟩
      have hb := b z (Array.mem_of_getElem? hz)
      by_cases hO : ∃ g, s.gens[i]? = some g ∧ isSus g = true
      · obtain ⟨_, k, l, c, p, fs, cl, e1, e2⟩ := x.off i hO
        rw [e2] at hz
        cases hz
        rw [e1] at e
        rw [← Option.some.inj e]
        exact hb
      · have := (x.on i hO).1
        rw [e, hz] at this
        rw [Option.some.inj this]
        exact hb⟩
  intro Γ p hΓ
  have := wp_off t (offG_map s.gens) (h Γ p hΓ)
  refine Sem.wp_mono M Γ t (fun a p' s' ⟨T, x, q⟩ => ?_) (fun e p' s' ⟨T, x, q⟩ => ?_) p _ this
  · obtain ⟨a1, a2, a3⟩ := fin _ _ x
    exact q s'.gens a1 a2 a3
  · obtain ⟨a1, a2, a3⟩ := fin _ _ x
    exact q s'.gens a1 a2 a3
end LW
namespace LW
open PySem PySem.Spec PyProof.Rows L2 GenW
abbrev FinP := End → Shared → Prop
def Sg (M : Model) (A : Around) (Φ : FinP) (c : Code) (t : Sem PySem.Fin) (fs : List Frame) (s : Shared) : Prop :=
  ∀ (Γ : PySem.Ctx) (p : Pos), Γ.code = c → Γ.Woken A → ∃ e s', PySem.Runs M Γ p t fs s e s' ∧ Φ e s'
section
variable {M : Model} {A : Around} {Φ Ψ : FinP} {c : Code} {fs : List Frame} {s : Shared}
theorem Sg.mono {t : Sem PySem.Fin} (h : Sg M A Φ c t fs s) (k : ∀ e s, Φ e s → Ψ e s) : Sg M A Ψ c t fs s := fun Γ p h1 h2 => by
  obtain ⟨e, s', a, b⟩ := h Γ p h1 h2
  exact ⟨e, s', a, k e s' b⟩
theorem sg_wrap {α : Type} {m : Sem α} {K : α → Sem PySem.Fin} {H : Value → Sem PySem.Fin} {gd : Bool → Bool} {lv : List Value → List Value}
    (h : wpAny M (A.over c fs) m (fun a s' => Sg M A Φ c (K a) fs s') (fun x s' => Sg M A Φ c (H x) fs s') s) : Sg M A Φ c (m.wrap K H gd lv) fs s := by
  rintro Γ p rfl hΓ
  exact runs_wrap_of_wp K H gd lv m (h (Γ.over fs) p (hΓ.over fs)) (fun a p' s' h' => h' Γ p' rfl hΓ) (fun x p' s' h' => h' Γ p' rfl hΓ)
theorem sg_bind_wrap {α β : Type} {m : Sem α} {K : α → Sem β} {K' : β → Sem PySem.Fin} {H' : Value → Sem PySem.Fin} {gd : Bool → Bool} {lv : List Value → List Value}
    (h : wpAny M (A.over c fs) m (fun a s' => Sg M A Φ c ((K a).wrap K' H' gd lv) fs s') (fun x s' => Sg M A Φ c (H' x) fs s') s) : Sg M A Φ c ((m >>= K).wrap K' H' gd lv) fs s := by
  rw [Sem.bind_eq_wrap', Sem.wrap_wrap]; exact sg_wrap h
theorem sg_at {p' : Pos} {k : Unit → Sem PySem.Fin} (h : Sg M A Φ c (k ()) fs s) : Sg M A Φ c (.at p' k) fs s :=
  sg_wrap (m := standAt p') (K := k) (H := .raise) (gd := id) (lv := id) (wpAny_standAt h)
theorem sg_point {l : List Value} {k : Unit → Sem PySem.Fin} (h : Sg M A Φ c (k ()) fs s) : Sg M A Φ c (.point l k) fs s :=
  sg_wrap (m := point) (K := k) (H := .raise) (gd := id) (lv := fun _ => l) (wpAny_point h)
theorem sg_call {c' : Code} {h : Option Value} {g : Bool} {l : List Value} {k : Result → Sem PySem.Fin} (hc : ∀ p, Sg M A Φ c' (M.den c') (.ret k h g l c p [] :: fs) s) : Sg M A Φ c (.call c' h g l k) fs s := by
  rintro Γ p rfl hΓ
  obtain ⟨e, s', hr, he⟩ := hc p (Γ.goto c') p rfl (hΓ.goto c')
  exact ⟨e, s', runs_call_seg hr, he⟩
theorem sg_leaf {k : Result → Sem PySem.Fin} {h : Option Value} {g : Bool} {l kp : List Value} {c₁ : Code} {p₁ : Pos} (r : Result) (hk : Sg M A Φ c₁ (k r) fs s) : Sg M A Φ c (leafOf r) (.ret k h g l c₁ p₁ kp :: fs) s := by
  rintro Γ p rfl hΓ
  obtain ⟨e, s', hr, he⟩ := hk (Γ.goto c₁) p₁ rfl (hΓ.goto c₁)
  exact ⟨e, s', Runs.pop r hr, he⟩
theorem sg_again {c' : Code} (hq : c'.quiet = true) (hc : Sg M A Φ c' (M.den c') fs s) : Sg M A Φ c (.pure (.again c')) fs s := by
  rintro Γ p rfl hΓ
  obtain ⟨e, s', hr, he⟩ := hc (Γ.goto c') p rfl (hΓ.goto c')
  exact ⟨e, s', Runs.head (c₁ := c') (fun _ _ x => .again hq x) hr, he⟩
theorem sg_end (r : Result) (h : Φ (.ret r) s) : Sg M A Φ c (leafOf r) [] s := by
  rintro Γ p rfl _
  exact ⟨.ret r, s, Runs.leaf r, h⟩
theorem sg_yield {v : Value} {g : Bool} {l : List Value} {k : Resume → Sem PySem.Fin} (hfs : splitAtGen fs = none) (h : ∀ p, Φ (.susp v g l k c p fs) s) : Sg M A Φ c (.yield v g l k) fs s := by
  rintro Γ p rfl _
  exact ⟨_, s, Runs.yield' fs hfs, h p⟩
end
section
variable {prog : Program} {w : World} {A : Around} {Φ : FinP} {c : Code} {fs : List Frame} {s : Shared} {env : Env} {K : Flow → Sem PySem.Fin} {J : Value → Sem PySem.Fin} {gd : Bool → Bool} {lv : List Value → List Value}
theorem sg_execs_nil (h : Sg (model prog w) A Φ c (K .next) fs s) : Sg (model prog w) A Φ c ((execs [] env).wrap K J gd lv) fs s := h
theorem sg_execs_cons {st : Stmt} {rest : List Stmt} (h : Sg (model prog w) A Φ c ((exec st env).wrap (fun f => match f with | .next => (execs rest env).wrap K J gd lv | f => K f) J gd lv) fs s) :
    Sg (model prog w) A Φ c ((execs (st :: rest) env).wrap K J gd lv) fs s := by rw [execs_cons_wrap]; exact h
theorem sg_Expr_Yield {e : Expr} {ypos pos : Pos} (hfs : splitAtGen fs = none) (hgd : gd false = false)
    (h : wpAny (model prog w) (A.over c fs) (eval e env) (fun v s' => ∀ (l : List Value) (kk : Resume → Sem PySem.Fin) (p : Pos),
        (∀ Ψ s'', Sg (model prog w) A Ψ c (K .next) fs s'' → Sg (model prog w) A Ψ c (kk (.send .none)) fs s'') → Φ (.susp v false l kk c p fs) s')
      (fun x s' => Sg (model prog w) A Φ c (J x) fs s') s) (hco : env.scope.isCoroutine = false := by rfl) (hi : interactive env = false := by rfl) :
    Sg (model prog w) A Φ c ((exec (.Expr (.Yield (some e) ypos) pos) env).wrap K J gd lv) fs s := by
  rw [exec_Expr env _ pos hi rfl]
  show Sg (model prog w) A Φ c (.at pos fun _ => ((eval e env >>= fun v => (standAt ypos >>= fun _ => yieldOut env v)) >>= fun x =>
    dropValue (.Yield (some e) ypos) pos x).wrap K J gd lv) fs s
  have hy : ∀ v, yieldOut env v = yieldValue v := fun v => by simp only [yieldOut, hco, Bool.false_eq_true, if_false]
  simp only [hy]
  refine sg_at ?_
  rw [Sem.bind_eq_wrap', Sem.bind_eq_wrap', Sem.wrap_wrap, Sem.wrap_wrap]
  refine sg_wrap (wpAny_mono h (fun v s' h' => ?_) fun _ _ x => x)
  refine sg_at ?_
  show Sg _ A Φ c (.yield v (gd false) _ _) fs s'
  rw [hgd]
  refine sg_yield hfs fun p => h' _ _ p fun Ψ s'' hx => ?_
  exact hx
theorem sg_func {body : List Stmt}
    (h : Sg (model prog w) A Φ (.func body env) ((execs body env).wrap (fun f => .pure (.done (.ret (match f with | .ret v => v | _ => .none))))
      (fun e => (leaving env e).wrap (fun _ => .raise e) .raise id id) id id) fs s) :
    Sg (model prog w) A Φ (.func body env) ((model prog w).den (.func body env)) fs s := by
  show Sg _ A Φ _ (.point [] fun _ => ((execs body env).onRaise (leaving env)) >>= _) fs s
  refine sg_point ?_
  rw [Sem.onRaise_eq_wrap, Sem.bind_eq_wrap', Sem.wrap_wrap]
  rw [Sem.wrap_congr (execs body env) _ _ (K' := fun f => .pure (.done (.ret (match f with | .ret v => v | _ => .none))))
    (H' := fun e => (leaving env e).wrap (fun _ => .raise e) .raise id id) (fun f => by cases f <;> rfl)
    (fun e => by rw [Sem.bind_eq_wrap, Sem.wrap_wrap]; rfl)]
  exact h
abbrev ownRet (env : Env) (K : Flow → Sem PySem.Fin) (J : Value → Sem PySem.Fin) (gd : Bool → Bool) (lv : List Value → List Value) (c : Code) (p : Pos) : Frame :=
  .ret (fun r => ((match r with | .ok f => (.pure f : Sem Flow) | .error e => .raise e).onRaise (cameBack env)).wrap K J gd lv) none (gd false) (lv []) c p []
theorem sg_For {target iter : Expr} {body orelse : List Stmt} {pos : Pos}
    (h : wpAny (model prog w) (A.over c fs) (eval iter env) (fun x s₁ => wpAny (model prog w) (A.over c fs) (pyIter x) (fun it s₂ => ∀ p,
        Sg (model prog w) A Φ (.forLoop target it body orelse env) ((model prog w).den (.forLoop target it body orelse env)) (ownRet env K J gd lv c p :: fs) s₂)
        (fun e s' => Sg (model prog w) A Φ c (J e) fs s') s₁) (fun e s' => Sg (model prog w) A Φ c (J e) fs s') s)
    (hs : ∀ x, foldedSetIterable iter env x = pure x := by intro _; rfl) :
    Sg (model prog w) A Φ c ((exec (.For target iter body orelse pos) env).wrap K J gd lv) fs s := by
  rw [exec_For]
  refine sg_bind_wrap (wpAny_standAt ?_)
  refine sg_bind_wrap (wpAny_mono h (fun x s₁ h₁ => ?_) fun _ _ x => x)
  refine sg_bind_wrap (wpAny_of_eq (hs x) ?_)
  refine sg_bind_wrap (wpAny_standAt ?_)
  refine sg_bind_wrap (wpAny_holding (wpAny_mono h₁ (fun it s₂ h₂ => ?_) fun _ _ x => x))
  exact sg_call h₂
theorem sg_forLoop {target : Expr} {it : Value} {body orelse : List Stmt}
    (h : wpAny (model prog w) (A.over (.forLoop target it body orelse env) fs) (pyNext it) (fun r s₁ => match r with
      | none => Sg (model prog w) A Φ (.forLoop target it body orelse env) (.pure (.again (.block orelse env))) fs s₁
      | some v => wpAny (model prog w) (A.over (.forLoop target it body orelse env) fs) (letOwnedTupleGo target it v) (fun _ s₂ => wpAny (model prog w) (A.over (.forLoop target it body orelse env) fs) (assign target env v) (fun _ s₃ =>
          Sg (model prog w) A Φ (.forLoop target it body orelse env) ((execs body env).wrap (fun f => match f with
            | .next | .cont => .pure (.again (.forLoop target it body orelse env))
            | .brk => .pure (.done .next)
            | .ret v => .pure (.done (.ret v))) (fun e => (do noteFrame e env; theTreesLotGoes e : Sem Unit).wrap (fun _ => .raise e) .raise id id) id id) fs s₃)
          (fun x s' => Sg (model prog w) A Φ (.forLoop target it body orelse env) ((do noteFrame x env; theTreesLotGoes x : Sem Unit).wrap (fun _ => .raise x) .raise id id) fs s') s₂)
        (fun x s' => Sg (model prog w) A Φ (.forLoop target it body orelse env) ((do noteFrame x env; theTreesLotGoes x : Sem Unit).wrap (fun _ => .raise x) .raise id id) fs s') s₁)
      (fun x s' => Sg (model prog w) A Φ (.forLoop target it body orelse env) ((do noteFrame x env; theTreesLotGoes x : Sem Unit).wrap (fun _ => .raise x) .raise id id) fs s') s) :
    Sg (model prog w) A Φ (.forLoop target it body orelse env) ((model prog w).den (.forLoop target it body orelse env)) fs s := by
  show Sg _ A Φ _ ((forTurn target it body orelse env).onRaise (fun x => do noteFrame x env; theTreesLotGoes x)) fs s
  have e1 : ∀ x : Value, (do noteFrame x env; theTreesLotGoes x : Sem Unit).bind (fun _ => (.raise x : Sem PySem.Fin)) = (do noteFrame x env; theTreesLotGoes x : Sem Unit).wrap (fun _ => .raise x) .raise id id := fun x => Sem.bind_eq_wrap _ _
  unfold forTurn
  rw [Sem.onRaise_eq_wrap]
  refine sg_bind_wrap (wpAny_standAt ?_)
  refine sg_bind_wrap (wpAny_onRaise (wpAny_mono h (fun r s₁ h₁ => ?_) fun x s' hx => wpAny_standAt ?_))
  · cases r with
    | none => exact h₁
    | some v =>
      refine sg_bind_wrap (wpAny_mono h₁ (fun _ s₂ h₂ => ?_) fun x s' hx => ?_)
      · refine sg_bind_wrap (wpAny_mono h₂ (fun _ s₃ h₃ => ?_) fun x s' hx => ?_)
        · rw [Sem.bind_eq_wrap', Sem.wrap_wrap]
          rw [Sem.wrap_congr (execs body env) (fun g => id (id g)) (fun l => id (id l)) (K' := fun f => match f with
            | .next | .cont => .pure (.again (.forLoop target it body orelse env))
            | .brk => .pure (.done .next)
            | .ret v => .pure (.done (.ret v))) (H' := (fun e => (do noteFrame e env; theTreesLotGoes e : Sem Unit).wrap (fun _ => .raise e) .raise id id))
            (fun f => by cases f <;> rfl) (fun e => by first | exact e1 e | (show (do noteFrame e env; theTreesLotGoes e : Sem Unit).bind (fun _ => .raise e) = _; exact e1 e))]
          exact h₃
        · rw [e1]; exact hx
      · rw [e1]; exact hx
  · rw [e1]; exact hx
theorem sg_block {body : List Stmt} (h : Sg (model prog w) A Φ (.block body env) ((execs body env).wrap (fun f => .pure (.done f)) (fun e => (do noteFrame e env; theTreesLotGoes e : Sem Unit).wrap (fun _ => .raise e) .raise id id) id id) fs s) :
    Sg (model prog w) A Φ (.block body env) ((model prog w).den (.block body env)) fs s := by
  show Sg _ A Φ _ ((execs body env).onRaise (fun x => do noteFrame x env; theTreesLotGoes x) >>= fun f => pure (.done f)) fs s
  rw [Sem.onRaise_eq_wrap, Sem.bind_eq_wrap', Sem.wrap_wrap]
  rw [Sem.wrap_congr (execs body env) _ _ (K' := fun f => .pure (.done f)) (H' := fun e => (do noteFrame e env; theTreesLotGoes e : Sem Unit).wrap (fun _ => .raise e) .raise id id) (fun f => by rfl)
    (fun e => by rw [Sem.bind_eq_wrap, Sem.wrap_wrap]; rfl)]
  exact h
end
def GoesZ (M : Model) (A : Around) (Φ : FinP) (gs : GenState) (s : Shared) : Prop :=
  match gs with
  | .fresh c => Sg M A Φ c (M.den c) [] s
  | .suspended k _ c _ fs _ => Sg M A Φ c (k (.send .none)) fs s
  | _ => False
theorem wpAny_resumeZ {M : Model} {A : Around} {Φ : FinP} {E : Value → Shared → Prop} {s : Shared} {g : Nat} {gs : GenState} {l : List Value} {α : Type} {k : GenResult → Sem α} {Q : α → Shared → Prop} (hg : s.gens[g]? = some gs)
    (hgo : GoesZ M A Φ gs (s.setGen g .running))
    (hR : ∀ x s₁, Φ (.ret x) s₁ → wpAny M A (k (End.ret x).result) Q E (s₁.setGen g .finished))
    (hY : ∀ v g' l' k' c' p' fs' s₁, Φ (.susp v g' l' k' c' p' fs') s₁ → (End.susp v g' l' k' c' p' fs').quiet = true ∧ wpAny M A (k (.yielded v)) Q E (s₁.setGen g (.suspended k' l' c' p' fs' (g' || fs'.any Frame.guarded)))) :
    wpAny M A (.resume g (.send .none) l k) Q E s := by
  intro Γ p hΓ
  rw [Sem.wp_resume]
  have fin : ∀ e₁ s₁, Φ e₁ s₁ → e₁.quiet = true ∧ Sem.wp M Γ (k e₁.result) (fun a _ s' => Q a s') (fun e _ s' => E e s') p (s₁.setGen g e₁.genState) := by
    intro e₁ s₁ he
    cases e₁ with
    | ret x => exact ⟨rfl, hR x s₁ he Γ p hΓ⟩
    | susp v g₀ l₀ k₀ c₀ p₀ fs₀ =>
      obtain ⟨a, b⟩ := hY v g₀ l₀ k₀ c₀ p₀ fs₀ s₁ he
      exact ⟨a, b Γ p hΓ⟩
  cases gs with
  | fresh c =>
    obtain ⟨e₁, s₁, hr, he⟩ := hgo (Γ.wake c p) p rfl (hΓ.wake c p)
    exact ⟨_, _, by unfold Wakes; rw [hg]; exact ⟨e₁, s₁, hr, (fin e₁ s₁ he).1, rfl, rfl⟩, (fin e₁ s₁ he).2⟩
  | suspended k₀ l₀ c₀ p₀ fs₀ cl =>
    obtain ⟨e₁, s₁, hr, he⟩ := hgo (Γ.wake c₀ p) p₀ rfl (hΓ.wake c₀ p)
    exact ⟨_, _, by unfold Wakes; rw [hg]; exact ⟨e₁, s₁, hr, (fin e₁ s₁ he).1, rfl, rfl⟩, (fin e₁ s₁ he).2⟩
  | running => exact hgo.elim
  | finished => exact hgo.elim
end LW
namespace LW
open PySem PySem.Spec PyProof.Rows L2
def celD (N : List Str) (env : Env) (σ : L2.St) (c : Addr) : Heap → Prop := fun h => (∃ v, h.IsCell c v) ∧ ∀ (j : Nat) (x : Str) (v : V), N[j]? = some x → σ[j]? = some (some v) → env.cells.lookup x = some c → Vis env.scope x → (env.kindOf x = some .cell ∨ env.kindOf x = some .free) → ∃ u, RelV v u ∧ h.IsCell c (some u)
theorem celD_stay {N : List Str} {env : Env} {σ : L2.St} {c : Addr} {h1 h2 : Heap} (x : celD N env σ c h1) (k : ∀ o, h1.get? c = some o → h2.get? c = some o) : celD N env σ c h2 :=
  ⟨let ⟨v, o, e1, e2⟩ := x.1; ⟨v, o, k o e1, e2⟩, fun j y v e1 e2 e3 e4 e5 => let ⟨u, r, o, q1, q2⟩ := x.2 j y v e1 e2 e3 e4 e5; ⟨u, r, o, k o q1, q2⟩⟩
abbrev CFn := Addr → Heap → Prop
def dnH (cs : List Addr) (H : Hp) : Hp := fun b => if b ∈ cs then none else H b
def upH (cs : List Addr) (φ : CFn) (H : Hp) : Hp := fun b => if b ∈ cs then some (.ext (φ b)) else H b
def Celd (cs : List Addr) (φ : CFn) (H : Hp) : Prop := ∀ c ∈ cs, H c = some (.ext (φ c))
abbrev onC (cs : List Addr) : ASet := fun a => a ∈ cs
section
variable {cs : List Addr} {φ ψ : CFn} {H H' : Hp} {h h' : Heap} {b c : Addr} {fs ex : List Addr} {P : Program} {w : World} {K : PySem.W.Frag} {S : ASet}
theorem dnH_in (m : b ∈ cs) : dnH cs H b = none := if_pos m
theorem dnH_out (m : b ∉ cs) : dnH cs H b = H b := if_neg m
theorem upH_in (m : b ∈ cs) : upH cs φ H b = some (.ext (φ b)) := if_pos m
theorem upH_out (m : b ∉ cs) : upH cs φ H b = H b := if_neg m
theorem dnH_none (n : H b = none) : dnH cs H b = none := by
  unfold dnH
  split
  · rfl
  · exact n
theorem upH_none (n : H b = none) (m : b ∉ cs) : upH cs φ H b = none := (upH_out m).trans n
theorem dnH_some {o : HO} (e : dnH cs H b = some o) : b ∉ cs ∧ H b = some o := by
  by_cases m : b ∈ cs
  · rw [dnH_in m] at e; cases e
  · rw [dnH_out m] at e; exact ⟨m, e⟩
theorem dnH_of_none (e : dnH cs H b = none) (m : b ∉ cs) : H b = none := by rw [dnH_out m] at e; exact e
theorem upH_celd : Celd cs φ (upH cs φ H) := fun c m => upH_in m
theorem dn_up (n : ∀ c ∈ cs, H c = none) : dnH cs (upH cs φ H) = H := by
  funext a
  by_cases m : a ∈ cs
  · rw [dnH_in m, n a m]
  · rw [dnH_out m, upH_out m]
theorem Celd.ne (k : Celd cs φ H) {o : HO} (e : H b = some o) (d : ∀ φ, o ≠ .ext φ) : b ∉ cs := fun m => by
  rw [k b m] at e
  exact d _ (Option.some.inj e).symm
theorem Celd.none (k : Celd cs φ H) (e : H b = none) : b ∉ cs := fun m => by rw [k b m] at e; cases e
theorem grp_upH (n : ∀ c ∈ cs, H c = none) : GrP nop H (upH cs φ H) := ⟨fun a o e _ => by
  by_cases m : a ∈ cs
  · rw [n a m] at e; cases e
  · rw [upH_out m]; exact e, fun a e => by
  by_cases m : a ∈ cs
  · exact n a m
  · rw [upH_out m] at e; exact e⟩
theorem grp_up (k : Celd cs φ H) (g : GrP nop (dnH cs H) H') : GrP (onC cs) H (upH cs ψ H') := ⟨fun a o e q => by
  by_cases m : a ∈ cs
  · rw [k a m] at e
    cases e
    rcases q with q | q
    · cases q
    · exact absurd m q
  · rw [upH_out m]
    exact g.keep a o (by rw [dnH_out m]; exact e) (.inr fun z => z), fun a e => by
  by_cases m : a ∈ cs
  · rw [upH_in m] at e; cases e
  · rw [upH_out m] at e
    exact dnH_of_none (g.live a e) m⟩
theorem un_up (k : Celd cs φ H) (hc : ∀ c ∈ cs, h.get? c = none) (u : Un fs ex (dnH cs H) H' h h') : Un fs ex H (upH cs ψ H') h h' := by
  have out : ∀ {b o}, h.get? b = some o → b ∉ cs := fun {b o} e m => by rw [hc b m] at e; cases e
  refine ⟨fun b o e n hb hx => u.keep b o e (dnH_none n) hb hx, fun b o e n hb hx => u.slot b o e (dnH_none n) hb hx, fun b o e n hx => upH_none (u.free b o e (dnH_none n) hx) (out e), u.there, fun b xs e => ?_, fun b o x e => ?_, fun b ps e => ?_⟩
  · have m := k.ne e (fun φ z => by cases z)
    rw [upH_out m]
    exact u.tups b xs (by rw [dnH_out m]; exact e)
  · have m := k.ne e (fun φ z => by cases z)
    rw [upH_out m]
    exact u.frzs b o x (by rw [dnH_out m]; exact e)
  · have m := k.ne e (fun φ z => by cases z)
    rw [upH_out m]
    exact u.tbls b ps (by rw [dnH_out m]; exact e)
theorem hok_up (x : HOk P w H h) (n : ∀ c ∈ cs, H c = none ∧ ∃ v, h.IsCell c v) (hφ : ∀ c ∈ cs, φ c h ∧ ∀ h1 h2 : Heap, φ c h1 → (∀ o, h1.get? c = some o → h2.get? c = some o) → φ c h2) : HOk P w (upH cs φ H) h := fun a o e => by
  by_cases m : a ∈ cs
  · rw [upH_in m] at e
    cases e
    obtain ⟨_, v, oc, e1, e2⟩ := n a m
    exact ⟨(hφ a m).1, ⟨oc, e1⟩, (hφ a m).2⟩
  · rw [upH_out m] at e
    have ne : ∀ {b o}, H b = some o → b ∉ cs := fun {b o} e m => by rw [(n b m).1] at e; cases e
    exact (x a o e).stay (fun _ _ _ q => q) (fun b q => by rw [upH_out (ne q)]; exact q) fun b xs q => by rw [upH_out (ne q)]; exact q
theorem hok_dn (k : Celd cs φ H) (x : HOk P w H h) : HOk P w (dnH cs H) h := fun a o e => by
  obtain ⟨m, e⟩ := dnH_some e
  exact (x a o e).stay (fun _ _ _ q => q) (fun b q => by rw [dnH_out (k.ne q fun φ z => by cases z)]; exact q) fun b xs q => by rw [dnH_out (k.ne q fun φ z => by cases z)]; exact q
theorem Celd.cell (k : Celd cs φ H) (x : HOk P w H h) (m : c ∈ cs) : φ c h := (x c _ (k c m)).1
mutual
theorem rep_dn (k : Celd cs φ H) : ∀ {d : D} {v : V}, RepA K H S d v → RepA K (dnH cs H) S d v
  | _, _, .non => .non
  | _, _, .bl b => .bl b
  | _, _, .int b => .int b
  | _, _, .str b => .str b
  | _, _, .adr b => .adr b
  | _, _, .tup (ds := ds) h r => .tup (by
      obtain ⟨o, h, d⟩ := h
      exact ⟨o, by rw [dnH_out (k.ne h fun φ z => by cases z)]; exact h, d⟩) (reps_dn k r)
  | _, _, .lst h n r => .lst (by rw [dnH_out (k.ne h fun φ z => by cases z)]; exact h) n (reps_dn k r)
  | _, _, .lsf h r => .lsf (by rw [dnH_out (k.ne h fun φ z => by cases z)]; exact h) (reps_dn k r)
  | _, _, .ins h i l r => .ins (by rw [dnH_out (k.ne h fun φ z => by cases z)]; exact h) i l (reps_dn k r)
theorem reps_dn (k : Celd cs φ H) : ∀ {ds : List D} {vs : List V}, RepsA K H S ds vs → RepsA K (dnH cs H) S ds vs
  | _, _, .nil => .nil
  | _, _, .cons h r => .cons (rep_dn k h) (reps_dn k r)
end
theorem rep_up (n : ∀ c ∈ cs, H c = none) {d : D} {v : V} (r : RepA K H S d v) : RepA K (upH cs φ H) S d v := r.ext (grp_upH n) (fun _ z => z.elim) fun a s => .inl s
end
def Frm.trk (F : Frm) (cs : List Addr) (φ : CFn) : Frm := { F with H := upH cs φ F.H, T := fun a => F.T a ∧ a ∉ cs }
section
variable {K : PySem.W.Frag} {W : Wrl} {F : Frm} {T : ASet} {ω : W.Ω} {ρ : List Sl} {σ : L2.St} {H H' : Hp} {cs : List Addr} {φ : CFn}
theorem xdict_dn (k : Celd cs φ H) {x : Exn} {dd : Option Addr} (h : XDict K H x dd) : XDict K (dnH cs H) x dd := by
  unfold XDict at h ⊢
  split at h
  · exact h
  · obtain ⟨a, v, e, h1, h2⟩ := h
    exact ⟨a, v, e, by rw [dnH_out (k.ne h1 fun φ z => by cases z)]; exact h1, rep_dn k h2⟩
theorem slsR_dn {S : ASet} (k : Celd cs φ H) : ∀ {ρ : List Sl} {σ : L2.St}, SlsR K H S ρ σ → SlsR K (dnH cs H) S ρ σ
  | _, _, .nil => .nil
  | _, _, .no r => .no (slsR_dn k r)
  | _, _, .va q r => .va (rep_dn k q) (slsR_dn k r)
  | _, _, .ex q r => .ex (xdict_dn k q) (slsR_dn k r)
  | _, _, .ow h q r => .ow (by rw [dnH_out (k.ne h fun φ z => by cases z)]; exact h) (reps_dn k q) (slsR_dn k r)
theorem grp_dn (g : GrP (onC cs) H H') : GrP nop (dnH cs H) H' := ⟨fun a o e _ => by
  obtain ⟨m, e⟩ := dnH_some e
  exact g.keep a o e (.inr m), fun a e => dnH_none (g.live a e)⟩
theorem Rel.growC (R : Rel K W F T ω ρ σ H) (k : Celd cs φ H) (g : GrP (onC cs) H H') (nF : ∀ c ∈ cs, F.H c = none) (nS : ∀ c ∈ cs, ¬ Spr F T ρ c) : Rel K W F T ω ρ σ H' := by
  have g0 := grp_dn g
  refine ⟨⟨fun a o e q => ?_, fun a e => R.gr.live a (g.live a e)⟩, W.st R.inv g fun a m t => nS a m (.inr (.inl t)), R.tn, R.own, R.nd, fun a s => ⟨fun z => (R.s0 a s).1 (g.live a z), (R.s0 a s).2⟩, fun p hp => (rep_dn k (R.hd p hp)).ext g0 (fun _ z => z.elim) fun a s => .inl s, (slsR_dn k R.sl).ext g0 (fun _ z => z.elim) (fun a s => .inl s) fun _ _ z => z⟩
  have m : a ∉ cs := fun m => by rw [nF a m] at e; cases e
  exact g.keep a o (R.gr.keep a o e q) (.inr m)
theorem Rel.trk (R : Rel K W F T ω ρ σ H) (k : Celd cs φ H) (nS : ∀ c ∈ cs, ¬ Spr F T ρ c) : Rel K W (F.trk cs φ) T ω ρ σ H := by
  refine ⟨⟨fun a o e q => ?_, fun a e => ?_⟩, R.inv, fun a t => ?_, fun l hl => ⟨?_, (R.own l hl).2⟩, R.nd, R.s0, R.hd, R.sl⟩
  · have e : upH cs φ F.H a = some o := e
    by_cases m : a ∈ cs
    · rw [upH_in m] at e
      rw [k a m]; exact e
    · rw [upH_out m] at e
      exact R.gr.keep a o e (q.imp id fun q z => q ⟨z, m⟩)
  · show upH cs φ F.H a = none
    have m := k.none e
    rw [upH_out m]
    exact R.gr.live a e
  · have m : a ∉ cs := fun m => nS a m (.inr (.inl t))
    rcases R.tn a t with z | z
    · exact .inl ⟨z, m⟩
    · exact .inr ((upH_out m).trans z)
  · exact (upH_out fun m => nS l m (.inr (.inr hl))).trans (R.own l hl).1
theorem Rel.celd (R : Rel K W (F.trk cs φ) T ω ρ σ H) : Celd cs φ H := fun c m => R.gr.keep c _ (upH_in m) (.inr fun z => z.2 m)
theorem Rel.untrk (R : Rel K W (F.trk cs φ) T ω ρ σ H) (n : ∀ c ∈ cs, F.H c = none) : Rel K W F T ω ρ σ H := by
  have up : ∀ {a}, upH cs φ F.H a = none → F.H a = none := fun {a} e => by
    by_cases m : a ∈ cs
    · exact n a m
    · rw [upH_out m] at e; exact e
  refine ⟨⟨fun a o e q => ?_, fun a e => up (R.gr.live a e)⟩, R.inv, fun a t => (R.tn a t).imp (fun z => z.1) up, fun l hl => ⟨up (R.own l hl).1, (R.own l hl).2⟩, R.nd, R.s0, R.hd, R.sl⟩
  have m : a ∉ cs := fun m => by rw [n a m] at e; cases e
  exact R.gr.keep a o ((upH_out m).trans e) (q.imp id fun q z => q z.1)
theorem Rel.trk_spr (R : Rel K W (F.trk cs φ) T ω ρ σ H) (n : ∀ c ∈ cs, ¬ F.S c) : ∀ c ∈ cs, ¬ Spr F T ρ c := fun c m s => by
  rcases s with s | s | s
  · exact n c m s
  · rcases R.tn c s with z | z
    · exact z.2 m
    · have z : upH cs φ F.H c = none := z
      rw [upH_in m] at z; cases z
  · have z : upH cs φ F.H c = none := (R.own c s).1
    rw [upH_in m] at z; cases z
end
end LW
namespace LW
open PySem PySem.Spec PyProof.Rows L2 GenW
def cutS (s : Shared) (n : Nat) : Shared := { s with heap := { s.heap with objs := s.heap.objs.extract 0 n } }
theorem cutS_get {s : Shared} {n b : Nat} (h : b < n) : (cutS s n).heap.get? b = s.heap.get? b := by
  show Heap.get? { s.heap with objs := s.heap.objs.extract 0 n } b = _
  unfold Heap.get?
  have e : (s.heap.objs.extract 0 n)[b]? = s.heap.objs[b]? := by
    rw [Array.getElem?_extract]
    split
    · rw [Nat.zero_add]
    · rename_i z
      rw [Array.getElem?_eq_none (by omega)]
  show (match (s.heap.objs.extract 0 n)[b]? with | some ⟨_, _, .freed, _⟩ => none | o => o) = _
  rw [e] <;> rfl
theorem cutS_none {s : Shared} {n b : Nat} (h : n ≤ b) : (cutS s n).heap.get? b = none := by
  show Heap.get? { s.heap with objs := s.heap.objs.extract 0 n } b = _
  unfold Heap.get?
  have e : (s.heap.objs.extract 0 n)[b]? = none := by
    rw [Array.getElem?_extract]
    split
    · omega
    · rfl
  show (match (s.heap.objs.extract 0 n)[b]? with | some ⟨_, _, .freed, _⟩ => none | o => o) = _
  rw [e]
theorem cutS_of {s : Shared} {n b : Nat} {o : Obj} (h : (cutS s n).heap.get? b = some o) : b < n ∧ s.heap.get? b = some o := by
  rcases Nat.lt_or_ge b n with z | z
  · rw [cutS_get z] at h; exact ⟨z, h⟩
  · rw [cutS_none z] at h; cases h
theorem cutS_size {s : Shared} {n : Nat} (h : n ≤ s.heap.objs.size) : (cutS s n).heap.objs.size = n := by
  show (s.heap.objs.extract 0 n).size = n
  rw [Array.size_extract]; omega
structure GZ where
  P : Program
  w : World
  K : PySem.W.Frag
  mg : Str → Option Value
  base : Heap
  N : List Str
  qual : Str
  scope : Scope
  f : Addr
  cd : Value
  A : Around
  outer : List Env
  L : Nat
  fin : Option Exn
structure GIx where
  s : Shared
  H : Hp
  S : ASet
  pn : List (Addr × Obj)
@[reducible] def GZ.env (Z : GZ) : Env := envOfC Z.qual Z.scope Z.L Z.f Z.cd
def csOf (scope : Scope) (L : Nat) : List Addr := (cellsFrom (L + 1) scope.names []).filterMap fun p => (cellsFrom (L + 1) scope.names []).lookup p.1
def GZ.cs (Z : GZ) : List Addr := csOf Z.scope Z.L
theorem GZ.mem_cs {Z : GZ} {c : Addr} : c ∈ Z.cs ↔ ∃ x, Z.env.cells.lookup x = some c := by
  show c ∈ (Z.env.cells.filterMap fun p => Z.env.cells.lookup p.1) ↔ _
  rw [List.mem_filterMap]
  constructor
  · rintro ⟨p, _, e⟩
    exact ⟨p.1, e⟩
  · rintro ⟨x, e⟩
    exact ⟨(x, c), PySem.mem_of_lookup e, e⟩
def GZ.EX (Z : GZ) (ys : List D) (i : GIx) : XK := fun cls dd H' => ys = [] ∧ GrP (onC Z.cs) i.H H' ∧ ∃ x, Z.fin = some x ∧ XRep Z.K H' x cls dd
def GZ.EY (Z : GZ) (ys : List D) (i : GIx) : XK := fun cls dd H' => ys = [] ∧ GrP nop (dnH Z.cs i.H) H' ∧ (∃ φ, Celd Z.cs φ i.H) ∧ ∃ x, Z.fin = some x ∧ XRep Z.K H' x cls dd
@[reducible] def GZ.X (Z : GZ) (ys : List D) (i : GIx) : Cx where
  prog := Z.P
  w := Z.w
  K := Z.K
  mg := Z.mg
  base := Z.base
  A := Z.A.deeper Z.env
  N := Z.N
  s_0 := i.s
  H_0 := dnH Z.cs i.H
  env := Z.env
  outer := Z.outer
  stack := Z.env :: Z.outer
  ex := []
  calm := true
  fn := fun _ => true
  pn := i.pn
  xe := fun e s' => wpAny (model Z.P Z.w) (Z.A.deeper Z.env) (leaving Z.env e) (fun _ s'' => L2N.CX Z.P Z.w Z.outer i.H i.s (Z.EX ys i) e s'' ∧ ∀ p ∈ i.pn, s''.heap.get? p.1 = some p.2) (fun _ _ => False) s'
theorem XE.leaveG {X : Cx} {W : WX} {E : XK} {s' : Shared} {Hw : Hp} {cs : List Addr} (hs : X.stack = X.env :: X.outer) (hf : X.env.frame = some X.env.locals) (hex : X.ex = []) {E₁ : Value → Shared → Prop} (hcs : ∀ c ∈ cs, ∃ x, X.env.cells.lookup x = some c) (hfn : ∀ x, X.fn x = true) (hH : X.H_0 = dnH cs Hw)
    (hW : ∀ cls d σ H, (∀ c ∈ cs, H c = none) → W cls d σ H → (∃ φ, Celd cs φ Hw) ∧ E cls d (upH cs (fun c h => ∃ v, h.IsCell c v) H)) {u : Value} (x : L2N.XE X W u s') :
    wpAny (model X.prog X.w) X.A (leaving X.env u) (fun _ s'' => L2N.CX X.prog X.w X.outer Hw X.s_0 E u s'' ∧ ∀ p ∈ X.pn, s''.heap.get? p.1 = some p.2) E₁ s' := by
  obtain ⟨a, B, sI, pins, σ, H, cls, d, rfl, I, nb, up, sky, na, os, ag, w⟩ := x
  have hfr : X.A.frames = some (X.env :: X.outer) := by rw [I.ok.frames, hs]
  have nst : ∀ b o, X.s_0.heap.get? b = some o → b ∉ X.fs → b ∉ frs X.stack := fun b o e hb hm => by
    rcases List.mem_cons.mp (I.stkSub b hm) with z | z
    · have h1 := Heap.lt_size e
      have h2 := I.ok.above
      rw [z] at h1
      exact absurd (Nat.lt_of_lt_of_le h1 h2) (Nat.lt_irrefl _)
    · exact hb z
  have hex' : ∀ b, b ∉ X.ex := fun b hb => by rw [hex] at hb; cases hb
  have hokB := I.inGround nb
  have cel0 : ∀ c ∈ cs, H c = none := fun c m => let ⟨x, e⟩ := hcs c m; I.freeC x c e
  obtain ⟨⟨φ, hcel⟩, hE⟩ := hW _ _ _ _ cel0 w
  have new : ∀ c ∈ cs, X.s_0.heap.objs.size ≤ c := fun c m => let ⟨x, e⟩ := hcs c m; I.ok.cab x c (hfn x) e
  have celB : ∀ c ∈ cs, ∃ v, B.IsCell c v := fun c m => by
    obtain ⟨x, e⟩ := hcs c m
    obtain ⟨v, o, e1, e2⟩ := I.cell x c e
    refine ⟨v, o, nb c o e1 fun hm => ?_, e2⟩
    rcases List.mem_cons.mp (I.stkSub c hm) with z | z
    · exact I.cne x c e z
    · obtain ⟨_, o', ho, _⟩ := I.ok.funs.mem z
      exact Nat.lt_irrefl _ (Nat.lt_of_lt_of_le (Heap.lt_size ho) (new c m))
  have hokU := hok_up (φ := fun c h => ∃ v, h.IsCell c v) hokB (fun c m => ⟨cel0 c m, celB c m⟩) fun c m => ⟨celB c m, fun h1 h2 ⟨v, o, q1, q2⟩ q => ⟨v, o, q o q1, q2⟩⟩
  have base := I.base
  rw [hH] at base
  have un := un_up (ψ := fun c h => ∃ v, h.IsCell c v) hcel (fun c m => Heap.get?_none_of_le (new c m)) base
  have pinB : ∀ p ∈ X.pn, B.get? p.1 = some p.2 := fun p hp => by
    obtain ⟨h1, _, h3, h4, _⟩ := I.pin p (List.mem_append_left _ hp)
    refine nb p.1 p.2 h1 fun hm => ?_
    rcases List.mem_cons.mp (I.stkSub p.1 hm) with z | z
    · exact h3 z
    · exact h4 z
  have fin : ∀ h', HandSPX.FlyingZ B X.outer a (L2N.Zn cls d) h' → s'.heap.UpToSlots h' → (L2N.CX X.prog X.w X.outer Hw X.s_0 E (.ref a) { s' with heap := h' } ∧ ∀ p ∈ X.pn, ({ s' with heap := h' } : Shared).heap.get? p.1 = some p.2) := fun h' fl up' => by
    have acs : a ∉ cs := fun m => by
      obtain ⟨v, o, e1, e2⟩ := celB a m
      obtain ⟨oe, vs, q1, _, q2⟩ := fl.there
      have e1 := fl.1 a o e1
      rw [q1] at e1
      cases e1
      rw [q2] at e2; cases e2
    refine ⟨⟨a, B, upH cs (fun c h => ∃ v, h.IsCell c v) H, cls, d, rfl, fl, hokU, ⟨fun b o e n hb => nb b o (un.keep b o e n hb (hex' b)) (nst b o e hb), fun b o e hb => ?_, fun b o e n => un.free b o e n (hex' b), fun b o e hb => ?_, un.tups, un.frzs, un.tbls⟩,
      (upH_out acs).trans na, os.trans I.os, ag, hE⟩, fun p hp => fl.1 p.1 p.2 (pinB p hp)⟩
    · obtain ⟨_, o₀, e₀, hnf⟩ := I.ok.funs.mem hb
      rw [e] at e₀; cases e₀
      obtain ⟨sl, e1⟩ := I.base.slot b o e (I.ok.frf b hb) hb (hex' b)
      obtain ⟨sl2, e2⟩ := up b _ e1 hnf
      obtain ⟨sl3, e3⟩ := up' b _ e2 hnf
      exact ⟨sl3, e3⟩
    · obtain ⟨o', e1⟩ := I.base.there b o e (hex' b)
      exact ⟨o', nb b o' e1 (nst b o e hb)⟩
  rw [hs] at sky
  rcases sky with ⟨hB, hn, hl, oe, vs, he, hz, hd, h1⟩ | fl | hd
  · exact PXN.leaving_firstZ L2N.Zn.steady hfr hl hf he hB hn hd h1 hz fin
  · exact PXN.leaves_onZ L2N.Zn.steady hfr hf fl fin
  · exact HandSPX.leaves_heldZ hf hd fin
theorem takesG (Z : GZ) (ys : List D) (i : GIx) : L2N.Takes (Z.X ys i) (fun cls d _ H' => Z.EY ys i cls d H') := fun u s' x =>
  XE.leaveG (X := Z.X ys i) (W := fun cls d _ H' => Z.EY ys i cls d H') (E := Z.EX ys i) (cs := Z.cs) rfl rfl rfl (fun c m => GZ.mem_cs.mp m) (fun _ => rfl) rfl (fun cls d σ H n h => by
    obtain ⟨h1, h2, h3, x, h4, h5, h6⟩ := h
    obtain ⟨φ, h3⟩ := h3
    exact ⟨⟨φ, h3⟩, h1, grp_up h3 h2, x, h4, h5, h6.ext (grp_upH n)⟩) x
theorem ownsG (Z : GZ) (ys : List D) (i : GIx) : PassesOwn (model (Z.X ys i).prog (Z.X ys i).w) (Z.X ys i).A (Z.X ys i).env (Z.X ys i).xe :=
  passes_of (X := Z.X ys i) (K := fun e s'' => L2N.CX Z.P Z.w Z.outer i.H i.s (Z.EX ys i) e s'' ∧ ∀ p ∈ i.pn, s''.heap.get? p.1 = some p.2) (E₁ := fun _ _ => False) rfl
structure GZ.Left (Z : GZ) (i : GIx) (H : Hp) (s : Shared) : Prop where
  os : s.os = i.s.os
  bare : AllBare s.gens
  gr : GrP (onC Z.cs) i.H H
  un : Un (frs Z.outer) [] i.H H i.s.heap s.heap
  hok : HOk Z.P Z.w H s.heap
  pn : ∀ p ∈ i.pn, s.heap.get? p.1 = some p.2 ∧ H p.1 = none
def GZ.Own (Z : GZ) (gp : List (Addr × Obj)) (H : Hp) (s : Shared) : Prop := ∀ p ∈ gp, s.heap.get? p.1 = some p.2 ∧ H p.1 = none ∧ Z.L ≤ p.1 ∧ p.1 ∉ frs Z.outer ∧ ∀ v, p.2.data ≠ .cell v
structure GZ.Wake (Z : GZ) (gp : List (Addr × Obj)) (hv : List (D × V)) (φ : CFn) (i : GIx) (s : Shared) : Prop where
  ix : i.s = cutS s Z.L
  sz : Z.L ≤ s.heap.objs.size
  bare : AllBare s.gens
  hok : HOk Z.P Z.w i.H s.heap
  base : ∀ b o, Z.base.get? b = some o → s.heap.get? b = some o ∧ i.H b = none
  funs : s.heap.FunFrames Z.base Z.outer
  frf : ∀ b ∈ frs Z.outer, i.H b = none ∧ b < Z.L
  own : ∀ p ∈ gp, s.heap.get? p.1 = some p.2 ∧ i.H p.1 = none
  pn : ∀ p ∈ i.pn, s.heap.get? p.1 = some p.2 ∧ i.H p.1 = none ∧ p.1 ∉ frs Z.outer ∧ (∀ v, p.2.data ≠ .cell v) ∧ ∀ q ∈ gp, p.1 ≠ q.1
  s0 : ∀ a, i.S a → i.H a ≠ none
  cel : Celd Z.cs φ i.H
  cS : ∀ c ∈ Z.cs, ¬ i.S c
  hv : ∀ p ∈ hv, RepA Z.K i.H i.S p.1 p.2
def GZ.Phi (Z : GZ) : List D → GIx → FinP
  | [] => fun i e s => match e with
    | .ret r => ((r = .ok (.ret .none) ∨ r = .ok .next) ∧ Z.fin = none ∧ ∃ H, Z.Left i H s) ∨ ∃ x, r = .error x ∧ L2N.CX Z.P Z.w Z.outer i.H i.s (Z.EX [] i) x s ∧ ∀ p ∈ i.pn, s.heap.get? p.1 = some p.2
    | .susp _ _ _ _ _ _ _ => False
  | d :: ys => fun i e s => match e with
    | .ret _ => False
    | .susp v g l k c p fs => (End.susp v g l k c p fs).quiet = true ∧ ∃ (x : V) (H : Hp) (gp : List (Addr × Obj)) (hv : List (D × V)) (φ : CFn), RelV x v ∧ Z.Left i H s ∧ Celd Z.cs φ H ∧ Z.Own gp H s ∧ (∀ p ∈ i.pn, ∀ q ∈ gp, p.1 ≠ q.1) ∧ RepA Z.K H i.S d x ∧ (∀ p ∈ hv, RepA Z.K H i.S p.1 p.2) ∧
        ∀ i' s', Z.Wake gp hv φ i' s' → Sg (model Z.P Z.w) Z.A (Z.Phi ys i') c (k (.send .none)) fs s'
structure GSt (Z : GZ) (ip : List (Addr × Obj)) (hid : List (D × V)) (ys : List D) (i : GIx) (ρ : List Sl) (σ : L2.St) (H : Hp) (s : Shared) : Prop where
  inv : Inv (Z.X ys i) ip σ H s
  rel : ∃ T, Rel Z.K W0 ⟨dnH Z.cs i.H, i.S, nop, hid⟩ T () ρ σ H
  sz : i.s.heap.objs.size = Z.L
  dis : ∀ p ∈ i.pn, ∀ q ∈ ip, p.1 ≠ q.1
  big : ∀ q ∈ ip, Z.L ≤ q.1
  frl : ∀ b ∈ frs Z.outer, b < Z.L
  cel : (∃ φ, Celd Z.cs φ i.H) ∧ ∀ c ∈ Z.cs, ¬ i.S c
structure PGn where
  nx : List D → List Sl → Prop
  rt : List D → Prop
  bk : List D → List Sl → Prop := fun _ _ => False
  ct : List D → List Sl → Prop := fun _ _ => False
  ex : List D → Exn → Prop
abbrev QTGn := PGn → List D → List Sl → Prop
def GSP1 (Z : GZ) (ip : List (Addr × Obj)) (hid : List (D × V)) (P : PGn) (ys : List D) (i : GIx) (f : Flow) (s : Shared) : Prop :=
  match f with
  | .next => ∃ ρ σ H, GSt Z ip hid ys i ρ σ H s ∧ P.nx ys ρ
  | .brk => ∃ ρ σ H, GSt Z ip hid ys i ρ σ H s ∧ P.bk ys ρ
  | .cont => ∃ ρ σ H, GSt Z ip hid ys i ρ σ H s ∧ P.ct ys ρ
  | .ret u => u = .none ∧ ∃ σ H, Inv (Z.X ys i) ip σ H s ∧ GrP nop (dnH Z.cs i.H) H ∧ (∃ φ, Celd Z.cs φ i.H) ∧ P.rt ys
structure GC1 (Z : GZ) (c : Code) (fs : List Frame) (gd : Bool → Bool) : Prop where
  over : Z.A.over c fs = Z.A.deeper Z.env
  split : splitAtGen fs = none
  guard : fs.any Frame.guarded = false
  gd : gd false = false
structure GK1 (Z : GZ) (ip : List (Addr × Obj)) (hid : List (D × V)) (c : Code) (fs : List Frame) (Kc : Flow → Sem PySem.Fin) (J : Value → Sem PySem.Fin) (P : PGn) : Prop where
  ok : ∀ ys i f s, GSP1 Z ip hid P ys i f s → Sg (model Z.P Z.w) Z.A (Z.Phi ys i) c (Kc f) fs s
  exc : ∀ ys i e s, (Z.X ys i).xe e s → Sg (model Z.P Z.w) Z.A (Z.Phi ys i) c (J e) fs s
  ex : ∀ ys x, P.ex ys x → ys = [] ∧ Z.fin = some x
structure GS1 (Z : GZ) (st : Stmt) (q : QTGn) : Prop where
  run : ∀ (ip : List (Addr × Obj)) (hid : List (D × V)) (ys : List D) (i : GIx) (c : Code) (fs : List Frame) (Kc : Flow → Sem PySem.Fin) (J : Value → Sem PySem.Fin) (gd : Bool → Bool) (lv : List Value → List Value) (ρ : List Sl) (σ : L2.St) (H : Hp) (s : Shared) (P : PGn),
    GC1 Z c fs gd → GK1 Z ip hid c fs Kc J P → GSt Z ip hid ys i ρ σ H s → q P ys ρ → Sg (model Z.P Z.w) Z.A (Z.Phi ys i) c ((exec st Z.env).wrap Kc J gd lv) fs s
structure GSs1 (Z : GZ) (st : List Stmt) (q : QTGn) : Prop where
  run : ∀ (ip : List (Addr × Obj)) (hid : List (D × V)) (ys : List D) (i : GIx) (c : Code) (fs : List Frame) (Kc : Flow → Sem PySem.Fin) (J : Value → Sem PySem.Fin) (gd : Bool → Bool) (lv : List Value → List Value) (ρ : List Sl) (σ : L2.St) (H : Hp) (s : Shared) (P : PGn),
    GC1 Z c fs gd → GK1 Z ip hid c fs Kc J P → GSt Z ip hid ys i ρ σ H s → q P ys ρ → Sg (model Z.P Z.w) Z.A (Z.Phi ys i) c ((execs st Z.env).wrap Kc J gd lv) fs s
theorem sg_cameBack {Z : GZ} {ip : List (Addr × Obj)} {hid : List (D × V)} {c : Code} {fs : List Frame} {Kc : Flow → Sem PySem.Fin} {J : Value → Sem PySem.Fin} {gd : Bool → Bool} {lv : List Value → List Value} {P : PGn} {ys : List D} {i : GIx} {e : Value} {s : Shared}
    (g : GC1 Z c fs gd) (k : GK1 Z ip hid c fs Kc J P) (h : cameBackBy (model Z.P Z.w) (Z.X ys i).A Z.env (Z.X ys i).xe e s) :
    Sg (model Z.P Z.w) Z.A (Z.Phi ys i) c (((Sem.raise e : Sem Flow).onRaise (cameBack Z.env)).wrap Kc J gd lv) fs s := by
  show Sg _ _ _ _ (((cameBack Z.env e).bind fun _ => (Sem.raise e : Sem Flow)).wrap Kc J gd lv) _ _
  rw [Sem.bind_eq_wrap, Sem.wrap_wrap]
  refine sg_wrap ?_
  rw [g.over]
  exact wpAny_mono h (fun _ s' hx => k.exc ys i e s' hx) fun x s' hx => k.exc ys i x s' hx
section
variable {Z : GZ} {st : Stmt} {rest : List Stmt} {q u : QTGn}
def toPEn (P : PGn) (ys : List D) : PEn W0 := { nx := fun _ ρ => P.nx ys ρ, rt := fun _ d => d = .non ∧ P.rt ys, bk := fun _ ρ => P.bk ys ρ, ct := fun _ ρ => P.ct ys ρ, ex := fun _ x _ => P.ex ys x }
def gPl (s : QTS W0) : QTGn := fun P ys ρ => s (toPEn P ys) () ρ
theorem gk_plain {ip : List (Addr × Obj)} {hid : List (D × V)} {ys : List D} {i : GIx} {c : Code} {fs : List Frame} {Kc : Flow → Sem PySem.Fin} {J : Value → Sem PySem.Fin} {P : PGn} {ρ : List Sl} {σ : L2.St} {H : Hp} {s : Shared} (k : GK1 Z ip hid c fs Kc J P) (h : GSt Z ip hid ys i ρ σ H s) :
    ∃ D : Ends, Sim .A Z.K W0 (fun cls d _ H' => Z.EY ys i cls d H') ⟨dnH Z.cs i.H, i.S, nop, hid⟩ (toPEn P ys) D ∧ ∀ f s', SP (Z.X ys i) ip D f s' → GSP1 Z ip hid P ys i f s' := by
  have mk : ∀ {ρ' : List Sl} {σ' : L2.St} {H' : Hp} {s' : Shared}, Inv (Z.X ys i) ip σ' H' s' → (∃ T, Rel Z.K W0 ⟨dnH Z.cs i.H, i.S, nop, hid⟩ T () ρ' σ' H') → GSt Z ip hid ys i ρ' σ' H' s' := fun I R => ⟨I, R, h.sz, h.dis, h.big, h.frl, h.cel⟩
  let R : List Sl → L2.St → Hp → Prop := fun ρ' σ' H' => ∃ T, Rel Z.K W0 ⟨dnH Z.cs i.H, i.S, nop, hid⟩ T () ρ' σ' H'
  refine ⟨{ nx := fun σ' H' => ∃ ρ', R ρ' σ' H' ∧ P.nx ys ρ', rt := fun v H' => v = .non ∧ GrP nop (dnH Z.cs i.H) H' ∧ P.rt ys, bk := fun σ' H' => ∃ ρ', R ρ' σ' H' ∧ P.bk ys ρ', ct := fun σ' H' => ∃ ρ', R ρ' σ' H' ∧ P.ct ys ρ' },
    ⟨fun T ω ρ σ H R q => ⟨ρ, ⟨T, R⟩, q⟩, fun T ω ρ σ H R q => ⟨ρ, ⟨T, R⟩, q⟩, fun T ω ρ σ H R q => ⟨ρ, ⟨T, R⟩, q⟩, fun T ω ρ σ H d v R r q => ?_, fun T ω ρ σ H x cls dd R xr q => ?_⟩, fun f s' hs => ?_⟩
  · obtain ⟨rfl, q⟩ := q
    have r : RepA Z.K H _ .non v := r
    cases r
    exact ⟨rfl, R.gr, q⟩
  · obtain ⟨h1, h2⟩ := k.ex ys x q
    exact ⟨h1, R.gr, h.cel.1, x, h2, xr⟩
  · cases f with
    | next => obtain ⟨σ', H', I, ρ', R, q⟩ := hs; exact ⟨ρ', σ', H', mk I R, q⟩
    | brk => obtain ⟨σ', H', I, ρ', R, q⟩ := hs; exact ⟨ρ', σ', H', mk I R, q⟩
    | cont => obtain ⟨σ', H', I, ρ', R, q⟩ := hs; exact ⟨ρ', σ', H', mk I R, q⟩
    | ret u =>
      obtain ⟨v, σ', H', I, rv, ev, gr, q⟩ := hs
      subst ev
      have eu : u = Value.none := rv
      exact ⟨eu, σ', H', I, gr, h.cel.1, q⟩
theorem gs_plain {s : QTS W0} (h : ∀ ys i, L2N.Takes (Z.X ys i) (fun cls d _ H' => Z.EY ys i cls d H') → PassesOwn (model (Z.X ys i).prog (Z.X ys i).w) (Z.X ys i).A (Z.X ys i).env (Z.X ys i).xe → QS (Z.X ys i) .A W0 (fun cls d _ H' => Z.EY ys i cls d H') st s) : GS1 Z st (gPl s) := by
  refine ⟨fun ip hid ys i c fs Kc J gd lv ρ σ H s' P g k hs hq => ?_⟩
  refine sg_wrap ?_
  rw [g.over]
  obtain ⟨D, hS, hD⟩ := gk_plain k hs
  obtain ⟨T, R⟩ := hs.rel
  exact wpAny_mono ((h ys i (takesG Z ys i) (ownsG Z ys i)).run ip s' σ H D hs.inv ⟨⟨dnH Z.cs i.H, i.S, nop, hid⟩, T, (), ρ, toPEn P ys, R, hq, hS⟩) (fun f s2 h2 => k.ok ys i f s2 (hD f s2 h2)) fun e s2 he => k.exc ys i e s2 he
end
end LW
namespace LW
open PySem PySem.Spec PyProof.Rows L2 GenW
section
variable {Z : GZ} {st : Stmt} {rest : List Stmt} {q u : QTGn}
def gSeq (q u : QTGn) : QTGn := fun P ys ρ => q { P with nx := u P } ys ρ
theorem gss_cons (a : GS1 Z st q) (b : GSs1 Z rest u) : GSs1 Z (st :: rest) (gSeq q u) := by
  refine ⟨fun ip hid ys i c fs Kc J gd lv ρ σ H s P g k h hq => ?_⟩
  refine sg_execs_cons ?_
  refine a.run ip hid ys i c fs _ J gd lv ρ σ H s { P with nx := u P } g ⟨fun ys' i' f s' hs => ?_, k.exc, k.ex⟩ h hq
  cases f with
  | next =>
    obtain ⟨ρ', σ', H', h', q'⟩ := hs
    exact b.run ip hid ys' i' c fs Kc J gd lv ρ' σ' H' s' P g k h' q'
  | brk => exact k.ok ys' i' .brk s' hs
  | cont => exact k.ok ys' i' .cont s' hs
  | ret v => exact k.ok ys' i' (.ret v) s' hs
theorem gss_one (a : GS1 Z st q) : GSs1 Z [st] q := by
  refine ⟨fun ip hid ys i c fs Kc J gd lv ρ σ H s P g k h hq => ?_⟩
  refine sg_execs_cons ?_
  refine a.run ip hid ys i c fs _ J gd lv ρ σ H s P g ⟨fun ys' i' f s' hs => ?_, k.exc, k.ex⟩ h hq
  cases f with
  | next => exact sg_execs_nil (k.ok ys' i' .next s' hs)
  | brk => exact k.ok ys' i' .brk s' hs
  | cont => exact k.ok ys' i' .cont s' hs
  | ret v => exact k.ok ys' i' (.ret v) s' hs
end
def slotPairs : List Sl → L2.St → List (D × V)
  | .va d :: ρ, some v :: σ => (d, v) :: slotPairs ρ σ
  | _ :: ρ, _ :: σ => slotPairs ρ σ
  | _, _ => []
def allVa : List Sl → Bool
  | [] => true
  | .va _ :: ρ => allVa ρ
  | .no :: ρ => allVa ρ
  | _ => false
theorem allVa_owns : ∀ {ρ : List Sl}, allVa ρ = true → owns ρ = []
  | [], _ => rfl
  | .va _ :: ρ, h => allVa_owns (ρ := ρ) h
  | .no :: ρ, h => allVa_owns (ρ := ρ) h
  | .ow _ _ :: _, h => nomatch (show false = true from h)
  | .ex _ _ _ :: _, h => nomatch (show false = true from h)
theorem slots_pairs {K : PySem.W.Frag} {H : Hp} {S : ASet} : ∀ {ρ : List Sl} {σ : L2.St}, SlsR K H S ρ σ → allVa ρ = true → ∀ p ∈ slotPairs ρ σ, RepA K H S p.1 p.2
  | _, _, .nil, _, p, hp => by cases hp
  | _, _, .no r, h, p, hp => slots_pairs r h p (by unfold slotPairs at hp; exact hp)
  | _, _, .va q r, h, p, hp => by
    unfold slotPairs at hp
    rcases List.mem_cons.mp hp with z | z
    · rw [z]; exact q
    · exact slots_pairs r h p z
  | _, _, .ex _ _, h, _, _ => nomatch (show false = true from h)
  | _, _, .ow _ _ _, h, _, _ => nomatch (show false = true from h)
theorem slots_back {K : PySem.W.Frag} {H H' : Hp} {S S' : ASet} : ∀ {ρ : List Sl} {σ : L2.St}, SlsR K H S ρ σ → allVa ρ = true → (∀ p ∈ slotPairs ρ σ, RepA K H' S' p.1 p.2) → SlsR K H' S' ρ σ
  | _, _, .nil, _, _ => .nil
  | _, _, .no r, h, k => .no (slots_back r h fun p hp => k p (by unfold slotPairs; exact hp))
  | _, _, .va q r, h, k => .va (k (_, _) (by unfold slotPairs; exact List.mem_cons_self)) (slots_back r h fun p hp => k p (by unfold slotPairs; exact List.mem_cons_of_mem _ hp))
  | _, _, .ex _ _, h, _ => nomatch (show false = true from h)
  | _, _, .ow _ _ _, h, _ => nomatch (show false = true from h)
theorem funFrames_cut {s : Shared} {n : Nat} {base : Heap} : ∀ {l : List Env}, (∀ b ∈ frs l, b < n) → s.heap.FunFrames base l → (cutS s n).heap.FunFrames base l
  | [], _, _ => trivial
  | env :: rest, hl, ⟨hk, ⟨L, o, hf, hn, ho, hd⟩, hr⟩ => by
    have hL : L ∈ frs (env :: rest) := by unfold frs; rw [List.filterMap_cons, hf]; exact List.mem_cons_self
    refine ⟨hk, ⟨L, o, hf, hn, (cutS_get (hl L hL)).trans ho, hd⟩, funFrames_cut (fun b hb => hl b ?_) hr⟩
    unfold frs at hb ⊢
    rw [List.filterMap_cons, hf]
    exact List.mem_cons_of_mem _ hb
theorem spr_va {F : Frm} {T : ASet} {ρ : List Sl} (hT : ∀ a, ¬ T a) (h : allVa ρ = true) : ∀ a, Spr F T ρ a → F.S a := fun a z => by
  rcases z with z | z | z
  · exact z
  · exact absurd z (hT a)
  · rw [allVa_owns h] at z; cases z
theorem GSt.obj {Z : GZ} {ip : List (Addr × Obj)} {hid : List (D × V)} {ys : List D} {i : GIx} {ρ : List Sl} {σ : L2.St} {H : Hp} {s : Shared} (h : GSt Z ip hid ys i ρ σ H s) : ∃ oL, s.heap.get? Z.L = some oL :=
  let ⟨_, ⟨oL, _, _, eL, _⟩, _⟩ := h.inv.loc
  ⟨oL, eL⟩
theorem inv_cs {Z : GZ} {ip : List (Addr × Obj)} {ys : List D} {i : GIx} {σ : L2.St} {H : Hp} {s : Shared} (I : Inv (Z.X ys i) ip σ H s) : ∀ c ∈ Z.cs, i.s.heap.objs.size ≤ c ∧ H c = none ∧ (∃ v, s.heap.IsCell c v) ∧ c ≠ Z.L := fun c m => by
  obtain ⟨x, e⟩ := GZ.mem_cs.mp m
  exact ⟨I.ok.cab x c rfl e, I.freeC x c e, I.cell x c e, I.cne x c e⟩
theorem inv_pin_cs {Z : GZ} {ip : List (Addr × Obj)} {ys : List D} {i : GIx} {σ : L2.St} {H : Hp} {s : Shared} (I : Inv (Z.X ys i) ip σ H s) {p : Addr × Obj} (hp : p ∈ i.pn ++ ip) : p.1 ∉ Z.cs := fun m => by
  obtain ⟨_, _, ⟨v, o, e1, e2⟩, _⟩ := inv_cs I p.1 m
  obtain ⟨q1, _, _, _, q2⟩ := I.pin p hp
  rw [q1] at e1
  cases e1
  exact q2 v e2
theorem GZ.left_of {Z : GZ} {ip : List (Addr × Obj)} {ys : List D} {i : GIx} {σ : L2.St} {H : Hp} {s : Shared} {φ ψ : CFn} (I : Inv (Z.X ys i) ip σ H s) (k : Celd Z.cs φ i.H) (g : GrP nop (dnH Z.cs i.H) H) (hψ : ∀ c ∈ Z.cs, ψ c s.heap ∧ ∀ h1 h2 : Heap, ψ c h1 → (∀ o, h1.get? c = some o → h2.get? c = some o) → ψ c h2) : Z.Left i (upH Z.cs ψ H) s := by
  refine ⟨I.os, I.bare, grp_up k g, un_up k (fun c m => Heap.get?_none_of_le (inv_cs I c m).1) I.base, hok_up I.hok (fun c m => ⟨(inv_cs I c m).2.1, (inv_cs I c m).2.2.1⟩) hψ, fun p hp => ?_⟩
  have hp' := List.mem_append_left ip hp
  obtain ⟨a, b, _⟩ := I.pin p hp'
  exact ⟨a, upH_none b (inv_pin_cs I hp')⟩
theorem GZ.left_end {Z : GZ} {ip : List (Addr × Obj)} {ys : List D} {i : GIx} {σ : L2.St} {H : Hp} {s : Shared} (I : Inv (Z.X ys i) ip σ H s) (k : ∃ φ, Celd Z.cs φ i.H) (g : GrP nop (dnH Z.cs i.H) H) : ∃ H', Z.Left i H' s :=
  let ⟨_, k⟩ := k
  ⟨_, GZ.left_of (ψ := fun c h => ∃ v, h.IsCell c v) I k g fun c m => ⟨(inv_cs I c m).2.2.1, fun h1 h2 ⟨v, o, q1, q2⟩ q => ⟨v, o, q o q1, q2⟩⟩⟩
theorem inv_celD {Z : GZ} {ip : List (Addr × Obj)} {ys : List D} {i : GIx} {σ : L2.St} {H : Hp} {s : Shared} (I : Inv (Z.X ys i) ip σ H s) : ∀ c ∈ Z.cs, celD Z.N Z.env σ c s.heap ∧ ∀ h1 h2 : Heap, celD Z.N Z.env σ c h1 → (∀ o, h1.get? c = some o → h2.get? c = some o) → celD Z.N Z.env σ c h2 := fun c m => by
  refine ⟨⟨(inv_cs I c m).2.2.1, fun j x v e1 e2 e3 e4 e5 => ?_⟩, fun h1 h2 a b => celD_stay a b⟩
  obtain ⟨_, _, hloc⟩ := I.loc
  obtain ⟨u, r, lk⟩ := hloc j x v e1 e2 e4
  refine ⟨u, r, ?_⟩
  rcases lk with ⟨k, _⟩ | ⟨_, c', q1, q2⟩
  · have k : Z.env.kindOf x = some .local := k
    rcases e5 with z | z
    · rw [k] at z; cases z
    · rw [k] at z; cases z
  · have q1 : Z.env.cells.lookup x = some c' := q1
    rw [e3] at q1
    cases q1
    exact q2
theorem GSt.rest {Z : GZ} {ip : List (Addr × Obj)} {hid : List (D × V)} {ys : List D} {i : GIx} {ρ : List Sl} {σ : L2.St} {H : Hp} {s : Shared} {oL : Obj} (h : GSt Z ip hid ys i ρ σ H s) (hv : allVa ρ = true) (eo' : s.heap.get? Z.L = some oL) :
    Z.Left i (upH Z.cs (celD Z.N Z.env σ) H) s ∧ Celd Z.cs (celD Z.N Z.env σ) (upH Z.cs (celD Z.N Z.env σ) H) ∧ Z.Own ((Z.L, oL) :: ip) (upH Z.cs (celD Z.N Z.env σ) H) s ∧ (∀ p ∈ i.pn, ∀ q ∈ (Z.L, oL) :: ip, p.1 ≠ q.1) ∧ (∀ p ∈ hid ++ slotPairs ρ σ, RepA Z.K (upH Z.cs (celD Z.N Z.env σ) H) i.S p.1 p.2) ∧ ∀ ys' i' s', Z.Wake ((Z.L, oL) :: ip) (hid ++ slotPairs ρ σ) (celD Z.N Z.env σ) i' s' → GSt Z ip hid ys' i' ρ σ (dnH Z.cs i'.H) s' := by
  obtain ⟨I, ⟨T, R⟩, sz, dis, big, frl, ⟨⟨φ, cel⟩, cS⟩⟩ := h
  have hT : ∀ a, ¬ T a := R.inv
  obtain ⟨m, ⟨oL', es, ep, eL, dL, hk, hm⟩, hloc⟩ := id I.loc
  have e0 : s.heap.get? Z.L = some oL' := eL
  rw [eo'] at e0
  cases e0
  have cs0 := inv_cs I
  have cn : ∀ c ∈ Z.cs, H c = none := fun c m => (cs0 c m).2.1
  have less : ∀ a, i.S a → Spr ⟨dnH Z.cs i.H, i.S, nop, hid⟩ T ρ a := fun a z => .inl z
  have cellL : ∀ v, oL.data ≠ .cell v := fun v z => by rw [dL] at z; cases z
  have LnotF : Z.L ∉ frs Z.outer := fun z => Nat.lt_irrefl _ (frl _ z)
  refine ⟨GZ.left_of I cel R.gr (inv_celD I), upH_celd, fun p hp => ?_, fun p hp q hq => ?_, fun p hp => rep_up cn ?_, fun ys' i' s' wk => ?_⟩
  · rcases List.mem_cons.mp hp with rfl | hp
    · exact ⟨eL, upH_none I.free fun z => (cs0 _ z).2.2.2 rfl, Nat.le_refl _, LnotF, cellL⟩
    · obtain ⟨a, b, _, d, e⟩ := I.pin p (List.mem_append_right _ hp)
      exact ⟨a, upH_none b (inv_pin_cs I (List.mem_append_right _ hp)), big p hp, d, e⟩
  · rcases List.mem_cons.mp hq with rfl | hq
    · exact (I.pin p (List.mem_append_left _ hp)).2.2.1
    · exact dis p hp q hq
  · rcases List.mem_append.mp hp with hp | hp
    · exact (R.hd p hp).less less
    · exact (slots_pairs R.sl hv p hp).less less
  · have ok := I.ok
    obtain ⟨eo, hoL⟩ := wk.own (Z.L, oL) List.mem_cons_self
    have esz : i'.s.heap.objs.size = Z.L := by rw [wk.ix]; exact cutS_size wk.sz
    have bL : ∀ b o, Z.base.get? b = some o → b < Z.L := fun b o e => by
      have h2 : Z.base.objs.size ≤ i.s.heap.objs.size := ok.bsz
      rw [sz] at h2
      exact Nat.lt_of_lt_of_le (Heap.lt_size e) h2
    refine ⟨⟨⟨ok.mod, ok.kind, ok.glob, ok.blt, ?_, ok.inj, ok.has, fun x c hf e => ?_, ok.hd, ok.frames, ok.stk, (fun b hb => by cases hb), fun b o e => ?_, ?_, (fun b o e hb => by cases hb), (fun b hb => by cases hb), ?_, fun b hb => dnH_none (wk.frf b hb).1⟩, ?_, wk.bare, ?_, ⟨m, ⟨oL, es, ep, eo, dL, hk, hm⟩, fun j x v h1 h2 h3 => ?_⟩, fun x c e => (wk.cel.cell wk.hok (GZ.mem_cs.mpr ⟨x, e⟩)).1, dnH_none hoL, fun x c e => dnH_in (GZ.mem_cs.mpr ⟨x, e⟩), fun p hp => ?_, hok_dn wk.cel wk.hok, I.len⟩, ⟨nop, GrP.refl _ _, fun _ z => z, fun _ z => z.elim, fun l hl => ?_, ?_, fun a sa => ⟨?_, fun z => z⟩, fun p hp => ?_, ?_⟩, esz, fun p hp q hq => ?_, big, frl, ⟨⟨_, wk.cel⟩, wk.cS⟩⟩
    · show i'.s.heap.objs.size ≤ Z.L
      omega
    · show i'.s.heap.objs.size ≤ c
      have h1 := ok.cab x c hf e
      have h1 : i.s.heap.objs.size ≤ c := h1
      omega
    · refine ⟨?_, dnH_none (wk.base b o e).2⟩
      show i'.s.heap.get? b = some o
      rw [wk.ix, cutS_get (bL b o e)]
      exact (wk.base b o e).1
    · show Z.base.objs.size ≤ i'.s.heap.objs.size
      have h2 : Z.base.objs.size ≤ i.s.heap.objs.size := ok.bsz
      omega
    · show i'.s.heap.FunFrames Z.base Z.outer
      rw [wk.ix]
      exact funFrames_cut frl wk.funs
    · show s'.os = i'.s.os
      rw [wk.ix] <;> rfl
    · show Un (frs Z.outer) [] (dnH Z.cs i'.H) (dnH Z.cs i'.H) i'.s.heap s'.heap
      rw [wk.ix]
      exact Un.kept fun b o e => (cutS_of e).2
    · obtain ⟨u, ru, lk⟩ := hloc j x v h1 h2 h3
      rcases lk with lk | ⟨k, c, e, _⟩
      · exact ⟨u, ru, .inl lk⟩
      · obtain ⟨u', ru', ic⟩ := (wk.cel.cell wk.hok (GZ.mem_cs.mpr ⟨x, e⟩)).2 j x v h1 h2 e h3 k
        exact ⟨u', ru', .inr ⟨k, c, e, ic⟩⟩
    · rcases List.mem_append.mp hp with hp | hp
      · obtain ⟨a, b, c, d, e⟩ := wk.pn p hp
        exact ⟨a, dnH_none b, e (Z.L, oL) List.mem_cons_self, c, d⟩
      · obtain ⟨_, _, c, d, e⟩ := I.pin p (List.mem_append_right _ hp)
        obtain ⟨a, b⟩ := wk.own p (List.mem_cons_of_mem _ hp)
        exact ⟨a, dnH_none b, c, d, e⟩
    · rw [allVa_owns hv] at hl; cases hl
    · rw [allVa_owns hv]; exact List.nodup_nil
    · rw [dnH_out fun m => wk.cS a m sa]
      exact wk.s0 a sa
    · exact (rep_dn wk.cel (wk.hv p (List.mem_append_left _ hp))).less fun a z => spr_va (fun _ z => z) hv a z
    · exact slots_back R.sl hv fun p hp => (rep_dn wk.cel (wk.hv p (List.mem_append_right _ hp))).less fun a z => spr_va (fun _ z => z) hv a z
    · exact (wk.pn p hp).2.2.2.2 q (List.mem_cons_of_mem _ hq)
def gYield (qa : QT W0) : QTGn := fun P ys ρ => allVa ρ = true ∧ qa () ρ (fun _ d => ∃ ys', ys = d :: ys' ∧ P.nx ys' ρ) fun _ x => P.ex ys x
theorem gs_yield {Z : GZ} {e : Expr} {yp pos : Pos} {m : Md} {qa : QT W0} (he : ∀ ys i, L2N.Takes (Z.X ys i) (fun cls d _ H' => Z.EY ys i cls d H') → PassesOwn (model (Z.X ys i).prog (Z.X ys i).w) (Z.X ys i).A (Z.X ys i).env (Z.X ys i).xe → QE (Z.X ys i) m W0 (fun cls d _ H' => Z.EY ys i cls d H') e qa) (hm : m.st = true := by rfl)
    (hco : Z.scope.isCoroutine = false := by rfl) (hi : interactive Z.env = false := by rfl) : GS1 Z (.Expr (.Yield (some e) yp) pos) (gYield qa) := by
  refine ⟨fun ip hid ys i c fs Kc J gd lv ρ σ H s P g k hs ⟨hv, hq⟩ => ?_⟩
  refine sg_Expr_Yield g.split g.gd ?_ hco hi
  rw [g.over]
  obtain ⟨D0, hS, _⟩ := gk_plain k hs
  obtain ⟨T, R⟩ := hs.rel
  refine wpAny_mono ((he ys i (takesG Z ys i) (ownsG Z ys i)).run ip s σ H (fun x H' => ∃ T' d, Rel Z.K W0 ⟨dnH Z.cs i.H, i.S, nop, hid⟩ T' () ρ σ H' ∧ RepA Z.K H' (Spr ⟨dnH Z.cs i.H, i.S, nop, hid⟩ T' ρ) d x ∧ ∃ ys', ys = d :: ys' ∧ P.nx ys' ρ) hs.inv
    ⟨⟨dnH Z.cs i.H, i.S, nop, hid⟩, T, (), ρ, _, _, R, hq, hS.xok, fun T' ω' d v H' R' _ rr q' => ⟨T', d, R', rr.a hm, q'⟩⟩) (fun v s' hv' => ?_) fun x s' hx => k.exc ys i x s' hx
  obtain ⟨x, H', I', rv, T', d, R', rd, ys', rfl, hn⟩ := hv'
  have hs' : GSt Z ip hid (d :: ys') i ρ σ H' s' := ⟨I', ⟨T', R'⟩, hs.sz, hs.dis, hs.big, hs.frl, hs.cel⟩
  obtain ⟨oL, eo⟩ := hs'.obj
  obtain ⟨left, ce, own, dis, hvr, wake⟩ := hs'.rest hv eo
  intro l kk p hk
  refine ⟨?_, x, _, _, _, _, rv, left, ce, own, dis, (rep_up (fun c m => (inv_cs I' c m).2.1) rd).less fun a z => .inl z, hvr, fun i' s'' wk => ?_⟩
  · show (!(false || fs.any Frame.guarded)) = true
    rw [g.guard] <;> rfl
  · exact hk _ s'' (k.ok ys' i' .next s'' ⟨ρ, σ, _, wake ys' i' s'' wk, hn⟩)
def gFor (qi : QTI W0) (g : QTG) (q : QTGn) : QTGn := fun P ys ρ => qi () ρ (fun _ ds => ∃ I : Nat → List D → List Sl → Prop, I 0 ys ρ ∧ (∀ k d ys ρ, ds[k]? = some d → I k ys ρ → g d ρ fun ρ' => q { P with nx := I (k + 1), ct := I (k + 1), bk := P.nx } ys ρ') ∧ ∀ ys ρ, I ds.length ys ρ → P.nx ys ρ) fun _ x => P.ex ys x
theorem gc_loop1 {Z : GZ} {c c' : Code} {fs : List Frame} {gd : Bool → Bool} {k : Result → Sem PySem.Fin} {l kp : List Value} {p : Pos} (g : GC1 Z c fs gd) (hw : c'.weight = 0) (hu : c'.cUnits = 0) : GC1 Z c' (.ret k none (gd false) l c p kp :: fs) id where
  over := (over_loop hw hu).trans g.over
  split := by
    show (splitAtGen fs).map _ = none
    rw [g.split]; rfl
  guard := by
    show (gd false || fs.any Frame.guarded) = false
    rw [g.gd, g.guard]; rfl
  gd := rfl
theorem GSt.hdrop {Z : GZ} {ip : List (Addr × Obj)} {h hid : List (D × V)} {ys : List D} {i : GIx} {ρ : List Sl} {σ : L2.St} {H : Hp} {s : Shared} (x : GSt Z ip (h ++ hid) ys i ρ σ H s) : GSt Z ip hid ys i ρ σ H s :=
  ⟨x.inv, let ⟨T, R⟩ := x.rel; ⟨T, Rel.drop (F := ⟨dnH Z.cs i.H, i.S, nop, hid⟩) (h := h) R⟩, x.sz, x.dis, x.big, x.frl, x.cel⟩
theorem GSt.unpin {Z : GZ} {ip pl : List (Addr × Obj)} {hid : List (D × V)} {ys : List D} {i : GIx} {ρ : List Sl} {σ : L2.St} {H : Hp} {s : Shared} (x : GSt Z (ip ++ pl) hid ys i ρ σ H s) : GSt Z ip hid ys i ρ σ H s :=
  ⟨x.inv.unpinned, x.rel, x.sz, fun p hp q hq => x.dis p hp q (List.mem_append_left _ hq), fun q hq => x.big q (List.mem_append_left _ hq), x.frl, x.cel⟩
theorem gs_for {Z : GZ} {tg iter : Expr} {body : List Stmt} {pos : Pos} {m : Md} {t : List Nat} {qi : QTI W0} {g : QTG} {q : QTGn}
    (hi : ∀ ys i, L2N.Takes (Z.X ys i) (fun cls d _ H' => Z.EY ys i cls d H') → PassesOwn (model (Z.X ys i).prog (Z.X ys i).w) (Z.X ys i).A (Z.X ys i).env (Z.X ys i).xe → QI (Z.X ys i) m W0 (fun cls d _ H' => Z.EY ys i cls d H') tg iter qi)
    (hg : ∀ ys i, QG (Z.X ys i) m W0 tg t g) (hb : GSs1 Z body q) (hs : ∀ x, foldedSetIterable iter Z.env x = pure x := by intro _; rfl) : GS1 Z (.For tg iter body [] pos) (gFor qi g q) := by
  refine ⟨fun ip hid ys0 i0 c fs Kc J gd lv ρ0 σ0 H0 s0 P gc k hst hq => ?_⟩
  refine sg_For ?_ hs
  rw [gc.over]
  obtain ⟨D0, hS, _⟩ := gk_plain k hst
  obtain ⟨T0, R0⟩ := hst.rel
  refine wpAny_mono ((hi ys0 i0 (takesG Z ys0 i0) (ownsG Z ys0 i0)).run ip s0 σ0 H0 (fun Jt H' => ∃ T' h ds, Rel Z.K W0 (Frm.add ⟨dnH Z.cs i0.H, i0.S, nop, hid⟩ h) T' () ρ0 σ0 H' ∧ ItOk m Z.K W0 h ds Jt ∧ ∃ I : Nat → List D → List Sl → Prop, I 0 ys0 ρ0 ∧ (∀ k d ys ρ, ds[k]? = some d → I k ys ρ → g d ρ fun ρ' => q { P with nx := I (k + 1), ct := I (k + 1), bk := P.nx } ys ρ') ∧ ∀ ys ρ, I ds.length ys ρ → P.nx ys ρ) hst.inv
    ⟨⟨dnH Z.cs i0.H, i0.S, nop, hid⟩, T0, (), ρ0, _, _, R0, hq, hS.xok, fun T' ω' h ds Jt H' R' _ it q' => ⟨T', h, ds, R', it, q'⟩⟩) (fun v s1 h1 => ?_) fun x s' hx => k.exc ys0 i0 x s' hx
  refine wpAny_mono h1 (fun itv s2 h2 => ?_) fun x s' hx => k.exc ys0 i0 x s' hx
  obtain ⟨it, fp, tn, Jt, H2, rfl, I2, T, st2, f2, T2, h, ds, R2, itok, Iv, iv0, ivs, ivd⟩ := h2
  intro p
  have gl : GC1 Z (.forLoop tg (.ref it) body [] Z.env) (ownRet Z.env Kc J gd lv c p :: fs) id := gc_loop1 gc rfl rfl
  have ee : ∀ (ys : List D) (i : GIx) (x : Value) (s' : Shared), (Z.X ys i).xe x s' → Sg (model Z.P Z.w) Z.A (Z.Phi ys i) (.forLoop tg (.ref it) body [] Z.env)
      ((do noteFrame x Z.env; theTreesLotGoes x : Sem Unit).wrap (fun _ => .raise x) .raise id id) (ownRet Z.env Kc J gd lv c p :: fs) s' := fun ys i x s' hx => by
    refine sg_wrap ?_
    rw [gl.over]
    refine wpAny_bind (wpAny_mono (ownsG Z ys i x s' hx) (fun _ s'' hcb => wpAny_theTreesLotGoes ?_) fun y s'' hcb => ?_)
    · exact sg_leaf (.error x) (sg_cameBack gc k hcb)
    · exact sg_leaf (.error y) (sg_cameBack gc k hcb)
  have loop : ∀ (r j : Nat) (ys : List D) (i : GIx) (ρ : List Sl) (σ : L2.St) (H : Hp) (s : Shared), j + r = ds.length → GSt Z ip (h ++ hid) ys i ρ σ H s → tn j s.heap → (∀ b ∈ fp, FpOk (Z.X ys i) ip H b) → Iv j ys ρ →
      Sg (model Z.P Z.w) Z.A (Z.Phi ys i) (.forLoop tg (.ref it) body [] Z.env) ((model Z.P Z.w).den (.forLoop tg (.ref it) body [] Z.env)) (ownRet Z.env Kc J gd lv c p :: fs) s := by
    intro r
    induction r with
    | zero =>
      intro j ys i ρ σ H s hj hst hn hf hiv
      obtain ⟨T', R'⟩ := hst.rel
      have hj' : j = ds.length := by omega
      subst hj'
      refine sg_forLoop ?_
      rw [gl.over]
      refine wpAny_mono (T.done (Z.X ys i) rfl rfl rfl rfl _ ip s σ H _ hst.inv hf hn ((itok _ _ _ _ _ _ (fun p hp => List.mem_append_left _ hp) R' _).2.1 (Nat.le_refl _))) (fun r s1 ⟨hr, I1⟩ => ?_) fun x s' hx => hx
      subst hr
      refine sg_again rfl (sg_block (sg_execs_nil ?_))
      refine sg_leaf (.ok .next) (k.ok ys i .next s1 ⟨ρ, σ, H, ?_, ivd ys ρ hiv⟩)
      exact GSt.hdrop ⟨I1, ⟨T', R'⟩, hst.sz, hst.dis, hst.big, hst.frl, hst.cel⟩
    | succ r ih =>
      intro j ys i ρ σ H s hj hst hn hf hiv
      obtain ⟨T', R'⟩ := hst.rel
      have hjl : j < ds.length := by omega
      obtain ⟨go, _, yld⟩ := itok _ _ _ _ _ _ (fun p hp => List.mem_append_left _ hp) R' j
      refine sg_forLoop ?_
      rw [gl.over]
      refine wpAny_mono (T.item (Z.X ys i) rfl rfl rfl rfl j ip s σ H _ hst.inv hf hn (go hjl)) (fun r1 s1 hr => ?_) fun x s' hx => hx
      obtain ⟨u, rfl, h4⟩ := hr
      refine wpAny_mono h4 (fun _ s5 h5 => ?_) fun x s' hx => hx
      obtain ⟨x, H5, I5, r5, y5, st5, fr5⟩ := h5
      obtain ⟨g5, rr5⟩ := yld ds[j] x H5 (List.getElem?_eq_getElem hjl) y5
      have hf5 : ∀ b ∈ fp, FpOk (Z.X ys i) ip H5 b := fun b hb => ⟨fr5 b hb, (hf b hb).2⟩
      have I5' := I5.pinned hf5 (T.obj _ _ st5)
      have R5 := R'.grow g5
      refine wpAny_mono ((hg ys i).run _ s5 σ H5 x u (fun σ6 H6 => ∃ ρ6 T6, Rel Z.K W0 (Frm.add ⟨dnH Z.cs i.H, i.S, nop, hid⟩ h) T6 () ρ6 σ6 H6 ∧ q { P with nx := Iv (j + 1), ct := Iv (j + 1), bk := P.nx } ys ρ6) I5' r5
        ⟨_, T', (), ρ, ds[j], _, R5, rr5, ivs j _ ys ρ (List.getElem?_eq_getElem hjl) hiv, fun ρ4 σ4 R4 _ _ q4 => ⟨ρ4, T', R4, q4⟩⟩) (fun _ s6 h6 => ?_) fun x s' hx => ee ys i x s' hx
      obtain ⟨σ6, H6, I6, ρ6, T6, R6, q6⟩ := h6
      have st6 : GSt Z (ip ++ pinsAt fp s5.heap) (h ++ hid) ys i ρ6 σ6 H6 s6 := by
        refine ⟨I6, ⟨T6, R6⟩, hst.sz, fun p hp z hz => ?_, fun z hz => ?_, hst.frl, hst.cel⟩
        · rcases List.mem_append.mp hz with hz | hz
          · exact hst.dis p hp z hz
          · exact (hf5 z.1 (of_pinsAt hz).1).2.2.2.2.2 p (List.mem_append_left _ hp)
        · rcases List.mem_append.mp hz with hz | hz
          · exact hst.big z hz
          · rcases (hf5 z.1 (of_pinsAt hz).1).2.2.2.1 with w | w
            · cases w
            · have w : i.s.heap.objs.size ≤ z.1 := w
              rw [hst.sz] at w
              exact w
      have again : ∀ {ys' : List D} {i' : GIx} {ρ7 : List Sl} {σ7 : L2.St} {H7 : Hp} {s7 : Shared}, GSt Z (ip ++ pinsAt fp s5.heap) (h ++ hid) ys' i' ρ7 σ7 H7 s7 → Iv (j + 1) ys' ρ7 →
          Sg (model Z.P Z.w) Z.A (Z.Phi ys' i') (.forLoop tg (.ref it) body [] Z.env) (.pure (.again (.forLoop tg (.ref it) body [] Z.env))) (ownRet Z.env Kc J gd lv c p :: fs) s7 := fun {ys' i' ρ7 σ7 H7 s7} st7 hiv7 => by
        refine sg_again rfl (ih (j + 1) ys' i' ρ7 σ7 H7 s7 (by omega) st7.unpin (T.keep _ _ _ st5 fun b hb o e => (st7.inv.pin (b, o) (List.mem_append_right _ (List.mem_append_right _ (mem_pinsAt hb e)))).1) (fun b hb => ?_) hiv7)
        obtain ⟨o, e, d⟩ := T.obj _ _ st5 b hb
        have hm := mem_pinsAt hb e
        obtain ⟨p1, p2, p3, p4, p5⟩ := st7.inv.pin (b, o) (List.mem_append_right _ (List.mem_append_right _ hm))
        refine ⟨p2, p3, p4, .inr ?_, fun x c e => ?_, fun z hz => ?_⟩
        · show i'.s.heap.objs.size ≤ b
          rw [st7.sz]
          exact st7.big (b, o) (List.mem_append_right _ hm)
        · obtain ⟨v, oc, q1, q2⟩ := st7.inv.cell x c e
          intro z
          subst z
          rw [p1] at q1
          cases q1
          exact p5 v q2
        · rcases List.mem_append.mp hz with hz | hz
          · exact st7.dis z hz (b, o) (List.mem_append_right _ hm)
          · exact (hf b hb).2.2.2.2.2 z (List.mem_append_right _ hz)
      refine hb.run (ip ++ pinsAt fp s5.heap) (h ++ hid) ys i _ _ _ _ id id ρ6 σ6 H6 s6 { P with nx := Iv (j + 1), ct := Iv (j + 1), bk := P.nx } gl ⟨fun ys' i' f s7 h7 => ?_, ee, k.ex⟩ st6 q6
      cases f with
      | next => obtain ⟨ρ7, σ7, H7, st7, q7⟩ := h7; exact again st7 q7
      | cont => obtain ⟨ρ7, σ7, H7, st7, q7⟩ := h7; exact again st7 q7
      | brk =>
        obtain ⟨ρ7, σ7, H7, st7, q7⟩ := h7
        exact sg_leaf (.ok .next) (k.ok ys' i' .next s7 ⟨ρ7, σ7, H7, st7.unpin.hdrop, q7⟩)
      | ret v =>
        obtain ⟨e, σ7, H7, I7, g7, c7, q7⟩ := h7
        exact sg_leaf (.ok (.ret v)) (k.ok ys' i' (.ret v) s7 ⟨e, σ7, H7, I7.unpinned, g7, c7, q7⟩)
  exact loop ds.length 0 ys0 i0 ρ0 σ0 H2 s2 (Nat.zero_add _) ⟨I2, ⟨T2, R2⟩, hst.sz, hst.dis, hst.big, hst.frl, hst.cel⟩ st2 f2 iv0
end LW
namespace LW
open PySem PySem.Spec PyProof.Rows L2 GenW
abbrev PSpG := List D → List D → Option Exn → Prop
abbrev mkZ (P : Program) (w : World) (K : PySem.W.Frag) (mg : Str → Option Value) (base : Heap) (N : List Str) (qual : Str) (scope : Scope) (f : Addr) (cd : Value) (A : Around) (outer : List Env) (L : Nat) (fin : Option Exn) : GZ :=
  ⟨P, w, K, mg, base, N, qual, scope, f, cd, A, outer, L, fin⟩
structure GObj (go : Obj) (g : Nat) : Prop where
  cls : go.cls = .type "generator"
  data : ∃ nm qn, go.data = .fields #[.int g 0, nm, qn]
  slots : go.slots = #[]
theorem GObj.is {go : Obj} {g : Nat} {h : Heap} {a : Addr} (x : GObj go g) (e : h.get? a = some go) : h.IsGen a g :=
  let ⟨nm, qn, d⟩ := x.data
  ⟨go, nm, qn, e, x.cls, d, x.slots⟩
def GMadeZ (P : Program) (w : World) (K : PySem.W.Frag) (base : Heap) (k : Nat) (outer : List Env) (H : Hp) (S : ASet) (sc : Shared) (ys : List D) (fin : Option Exn) (u : Value) (s' : Shared) : Prop :=
  ∃ (a : Addr) (g : Nat) (c : Code) (go : Obj) (gp : List (Addr × Obj)) (hv : List (D × V)) (mg : Str → Option Value) (N : List Str) (qual : Str) (scope : Scope) (f : Addr) (cd : Value) (φ : CFn),
    u = .ref a ∧ GObj go g ∧ s'.heap.get? a = some go ∧ sc.heap.objs.size ≤ a ∧ s'.gens[g]? = some (.fresh c) ∧ s'.os = sc.os ∧ AllBare s'.gens ∧ (∀ b o, sc.heap.get? b = some o → s'.heap.get? b = some o) ∧
    (∀ p ∈ gp, s'.heap.get? p.1 = some p.2 ∧ sc.heap.objs.size ≤ p.1 ∧ p.1 ≠ a ∧ p.1 ∉ csOf scope sc.heap.objs.size ∧ ∀ v, p.2.data ≠ .cell v) ∧ (∀ c ∈ csOf scope sc.heap.objs.size, sc.heap.objs.size ≤ c ∧ c < a ∧ (∃ v, s'.heap.IsCell c v) ∧ φ c s'.heap ∧ ∀ h1 h2 : Heap, φ c h1 → (∀ o, h1.get? c = some o → h2.get? c = some o) → φ c h2) ∧ (∀ p ∈ hv, RepA K (upH (csOf scope sc.heap.objs.size) φ H) S p.1 p.2) ∧
    ∀ A, Room k A → A.frames = some outer → ∀ i s2, (mkZ P w K mg base N qual scope f cd A outer sc.heap.objs.size fin).Wake gp hv φ i s2 → Sg (model P w) A ((mkZ P w K mg base N qual scope f cd A outer sc.heap.objs.size fin).Phi ys i) c ((model P w).den c) [] s2
structure GFnZ (P : Program) (w : World) (K : PySem.W.Frag) (mg : Str → Option Value) (base : Heap) (k : Nat) (f : Addr) (fd : FuncData) (ps : List Str) (pf : PSpG) : Prop where
  len : ∀ ds ys fin, pf ds ys fin → ds.length = ps.length
  run : ∀ (A : Around) (outer : List Env) (s : Shared) (H : Hp) (S : ASet) (args : Args) (us : List Value) (vs : List V) (ds ys : List D) (fin : Option Exn), Room k A → Env0 P w K mg base A outer s H → BindsTo s fd args (ps.zip us) → Vals vs us → (∀ a, S a → H a ≠ none) → RepsA K H S ds vs → pf ds ys fin →
    codeAny (model P w) A (.call (.ref f) args) (fun r s' => match r with | .ok (.ret u) => GMadeZ P w K base k outer H S s ys fin u s' | _ => False) s
theorem allVa_start (N : List Str) : ∀ ds : List D, allVa (startP N ds) = true := fun ds => by
  unfold startP
  generalize N.length - ds.length = n
  induction ds with
  | nil =>
    induction n with
    | zero => rfl
    | succ n ih => exact ih
  | cons d ds ih => exact ih
theorem gfnZ_of {P : Program} {w : World} {K : PySem.W.Frag} {mg : Str → Option Value} {base : Heap} {k : Nat} {f : Addr} {name qual : Str} {params : Arguments} {body : List Stmt} {scope : Scope} {dV kV doc pm cdv ct oc : Value} {an od : Option Addr}
    {osl : Array (Option Value)} {N ps : List Str} {pf : PSpG} {q : QTGn} (lk : K.lookup f = some ⟨oc, od, .func (PySem.W.fnOf name qual params body scope dV kV doc pm an cdv ct), osl⟩) (hcd : PySem.W.codeIn K cdv qual = true) (S : GScope N ps scope)
    (len : ∀ ds ys fin, pf ds ys fin → ds.length = ps.length)
    (hbody : ∀ (A : Around) (outer : List Env) (L : Nat) (fin : Option Exn), Room k (A.deeper (envOfC qual scope L f cdv)) → GSs1 (mkZ P w K mg base N qual scope f cdv A outer L fin) body q)
    (hq : ∀ ds ys fin, pf ds ys fin → q { nx := fun ys' _ => ys' = [] ∧ fin = none, rt := fun ys' => ys' = [] ∧ fin = none, ex := fun ys' x => ys' = [] ∧ fin = some x } ys (startP N ds)) :
    GFnZ P w K mg base (k + 1) f (PySem.W.fnOf name qual params body scope dV kV doc pm an cdv ct) ps pf := by
  refine ⟨len, fun A outer s H SS args us vs ds ys fin hr e0 hb r hS hrep hpf => ?_⟩
  have hlv : vs.length = ds.length := hrep.len
  have hl : vs.length = ps.length := hlv.trans (len _ _ _ hpf)
  have KX : K.In s.heap := e0.mod.kin.keeps fun b o e => (e0.bs b o e).1
  have lim : s.heap.NoLimit := e0.mod.nolimit.keeps fun b o e => (e0.bs b o e).1
  have hkind : ∀ y ∈ ps.zip us, scope.names.lookup y.1 = some .local ∨ (scope.names.lookup y.1 = some .cell ∧ ((cellsFrom (s.heap.objs.size + 1) scope.names []).lookup y.1).isSome = true) := fun ⟨n, v⟩ hy => by
    rcases S.par n (List.of_mem_zip hy).1 with q | q
    · exact .inl q
    · exact .inr ⟨q, by obtain ⟨c, e⟩ := cell_has (n := s.heap.objs.size + 1) q; rw [e]; rfl⟩
  refine codeAny_call_generator hr.depth (KX _ _ lk) rfl S.co S.gen rfl (PySem.W.codeRec_of KX hcd) (hb _ _ _ _ ?_)
  refine wpAny_newFunctionEnv_cells S.kind hkind fun env he s1 x => ?_
  subst he
  have lim1 : s1.heap.NoLimit := lim.keeps x.toInCall.keep
  refine ⟨lim1, ?_⟩
  obtain ⟨h1, tk, es1, hk1⟩ := x.done
  have os1 : s1.os = s.os := by rw [es1]
  have gen1 : s1.gens = s.gens := by rw [es1]
  have lt1 : s.heap.objs.size < s1.heap.objs.size := x.toInCall.ns.lt
  have sz1 : s.heap.objs.size ≤ s1.heap.objs.size := Nat.le_of_lt lt1
  have kp1 : ∀ b o, s.heap.get? b = some o → s1.heap.get? b = some o := x.toInCall.keep
  have main : ∀ (go : Obj) (nm qn : Value) (tk2 : Nat), go.cls = .type "generator" → go.data = .fields #[.int s1.gens.size 0, nm, qn] → go.slots = #[] → (∀ h : Heap, (h.push go).get? h.objs.size = some go) →
      GMadeZ P w K base (k + 1) outer H SS s ys fin (.ref s1.heap.objs.size) { s1 with gens := s1.gens.push (.fresh (.func body (envOfC qual scope s.heap.objs.size f cdv))), toks := tk2, heap := s1.heap.push go } := by
    intro go nm qn tk2 hgc hgd0 hgs hgp
    have hpushed : (s1.heap.push go).get? s1.heap.objs.size = some go := hgp _
    obtain ⟨m0, ⟨oL, esL, epL, eL, dL, hkL, hmL⟩⟩ : ∃ m, s1.heap.Ns s.heap.objs.size m := ⟨_, x.toInCall.ns⟩
    have eL2 : (s1.heap.push go).get? s.heap.objs.size = some oL := Heap.get?_push_of_some _ eL
    have hba2 : AllBare (s1.gens.push (.fresh (.func body (envOfC qual scope s.heap.objs.size f cdv)))) := AllBare.push (by rw [gen1]; exact e0.bare) rfl
    have frl : ∀ b ∈ frs outer, b < s.heap.objs.size := fun b hb => by
      obtain ⟨_, o, ho, _⟩ := e0.funs.mem hb
      exact Heap.lt_size ho
    have cs0 : ∀ c ∈ csOf scope s.heap.objs.size, s.heap.objs.size ≤ c ∧ c < s1.heap.objs.size ∧ H c = none := fun c m => by
      have e0w : Env0 P w K mg base A outer s H := e0
      have I1 : Inv (gcxOf P w K mg base N qual scope f cdv A outer s H (fun _ _ _ => False) []) [] (L2.start N vs) H s1 := inv_startG S hr.hd e0w hl r x
      have m : c ∈ (mkZ P w K mg base N qual scope f cdv A outer s.heap.objs.size fin).cs := m
      obtain ⟨y, e⟩ := GZ.mem_cs.mp m
      obtain ⟨v, ic⟩ := I1.cell y c e
      have h1 : s.heap.objs.size ≤ c := I1.ok.cab y c rfl e
      exact ⟨h1, ic.lt, e0.hok.fresh h1⟩
    generalize hcs : csOf scope s.heap.objs.size = cs at cs0
    generalize hφ0 : (fun (c : Addr) (h : Heap) => True) = φ0
    have eH : dnH cs (upH cs φ0 H) = H := dn_up fun c m => (cs0 c m).2.2
    have st : ∀ A, Room (k + 1) A → A.frames = some outer → GSt (mkZ P w K mg base N qual scope f cdv A outer s.heap.objs.size fin) [] [] ys ⟨s, upH cs φ0 H, SS, []⟩ (startP N ds) (L2.start N vs) H { s1 with gens := s1.gens.push (.fresh (.func body (envOfC qual scope s.heap.objs.size f cdv))), toks := tk2, heap := s1.heap.push go } := fun Aw hrw hfr => by
      have e0w : Env0 P w K mg base Aw outer s H := ⟨hfr, e0.mod, e0.bs, e0.bsz, e0.funs, e0.frf, e0.hok, e0.bare⟩
      have I1 : Inv (gcxOf P w K mg base N qual scope f cdv Aw outer s H (fun _ _ _ => False) []) [] (L2.start N vs) H s1 := inv_startG S hrw.hd e0w hl r x
      have kp2 : ∀ b o, s1.heap.get? b = some o → (s1.heap.push go).get? b = some o := fun b o e => Heap.get?_push_of_some _ e
      have I2 := I1.call' (s' := { s1 with gens := s1.gens.push (.fresh (.func body (envOfC qual scope s.heap.objs.size f cdv))), toks := tk2, heap := s1.heap.push go }) (ch := []) rfl (Un.kept kp2) (I1.hok.kept kp2) hba2 fun b z => by simp at z
      have eZ : dnH (mkZ P w K mg base N qual scope f cdv Aw outer s.heap.objs.size fin).cs (upH cs φ0 H) = H := by
        show dnH (csOf scope s.heap.objs.size) _ = H
        rw [hcs]; exact eH
      refine ⟨⟨⟨I2.ok.mod, I2.ok.kind, I2.ok.glob, I2.ok.blt, I2.ok.above, I2.ok.inj, I2.ok.has, I2.ok.cab, I2.ok.hd, I2.ok.frames, I2.ok.stk, I2.ok.exf, ?_, I2.ok.bsz, I2.ok.noex, I2.ok.exfs, I2.ok.funs, ?_⟩, I2.os, I2.bare, ?_, I2.loc, I2.cell, I2.free, I2.freeC, I2.pin, I2.hok, I2.len⟩, ⟨nop, ?_⟩, rfl, (fun p hp => by cases hp), (fun p hp => by cases hp), frl, ⟨φ0, ?_⟩, fun c m => ?_⟩
      · intro b o e
        refine ⟨(I2.ok.bs b o e).1, ?_⟩
        show dnH (mkZ P w K mg base N qual scope f cdv Aw outer s.heap.objs.size fin).cs (upH cs φ0 H) b = none
        rw [eZ]
        exact (I2.ok.bs b o e).2
      · intro b hb
        show dnH (mkZ P w K mg base N qual scope f cdv Aw outer s.heap.objs.size fin).cs (upH cs φ0 H) b = none
        rw [eZ]
        exact I2.ok.frf b hb
      · show Un (frs outer) [] (dnH (mkZ P w K mg base N qual scope f cdv Aw outer s.heap.objs.size fin).cs (upH cs φ0 H)) H s.heap _
        rw [eZ]
        exact I2.base
      · show Rel K W0 ⟨dnH (mkZ P w K mg base N qual scope f cdv Aw outer s.heap.objs.size fin).cs (upH cs φ0 H), SS, nop, []⟩ nop () (startP N ds) (L2.start N vs) H
        rw [eZ]
        have ow : owns (startP N ds) = [] := allVa_owns (allVa_start N ds)
        refine ⟨GrP.refl _ _, fun _ z => z, fun _ z => z.elim, fun l hl => ?_, ?_, fun a sa => ⟨hS a sa, fun z => z⟩, (fun p hp => by cases hp), ?_⟩
        · rw [ow] at hl; cases hl
        · rw [ow]; exact List.nodup_nil
        · have en : N.length - vs.length = N.length - ds.length := by rw [hlv]
          unfold L2.start startP
          rw [en]
          exact slsR_start N (hrep.less fun a z => spr_va (fun _ z => z) (allVa_start N ds) a z) _
      · show Celd (csOf scope s.heap.objs.size) φ0 (upH cs φ0 H)
        rw [hcs]; exact upH_celd
      · have m : c ∈ csOf scope s.heap.objs.size := m
        rw [hcs] at m
        exact fun z => hS c z (cs0 c m).2.2
    obtain ⟨A0, hA0⟩ : ∃ A0 : Around, A0 = A := ⟨_, rfl⟩
    obtain ⟨_, _, own0, _, hv0, _⟩ := (st A hr e0.frames).rest (allVa_start N ds) eL2
    refine ⟨s1.heap.objs.size, s1.gens.size, _, go, [(s.heap.objs.size, oL)], _, mg, N, qual, scope, f, cdv, _, rfl, ⟨hgc, ⟨nm, qn, hgd0⟩, hgs⟩, hpushed, sz1, Array.getElem?_push_size .., os1, hba2, fun b o e => Heap.get?_push_of_some _ (kp1 b o e), fun p hp => ?_, fun c m => ?_, hv0, fun Aw hrw hfr i s2 wk => ?_⟩
    · obtain ⟨a1, a2, a3, a4, a5⟩ := own0 p hp
      have : p = (s.heap.objs.size, oL) := by simpa using hp
      refine ⟨a1, a3, ?_, fun m => ?_, a5⟩
      · rw [this]
        exact Nat.ne_of_lt lt1
      · have a2 : upH (csOf scope s.heap.objs.size) _ H p.1 = none := a2
        rw [upH_in m] at a2; cases a2
    · have I2 := (st A hr e0.frames).inv
      have m' : c ∈ cs := hcs ▸ m
      have m'' : c ∈ (mkZ P w K mg base N qual scope f cdv A outer s.heap.objs.size fin).cs := m
      exact ⟨(cs0 c m').1, (cs0 c m').2.1, (inv_cs I2 c m'').2.2.1, inv_celD I2 c m''⟩
    · have stw := ((st Aw hrw hfr).rest (allVa_start N ds) eL2).2.2.2.2.2 ys i s2 wk
      refine sg_func ?_
      refine (hbody Aw outer s.heap.objs.size fin (hrw.deeper _)).run [] [] ys i _ [] _ _ id id (startP N ds) (L2.start N vs) _ s2 _ ⟨over_func, rfl, rfl, rfl⟩ ⟨fun ys' i' fl s' h => ?_, fun ys' i' e s' hx => ?_, fun ys' x h => h⟩ stw (hq ds ys fin hpf)
      · cases fl with
        | next =>
          obtain ⟨ρ, σ, H', h', e1, e2⟩ := h
          subst e1
          obtain ⟨T, R⟩ := h'.rel
          exact sg_end (.ok (.ret .none)) (.inl ⟨.inl rfl, e2, GZ.left_end h'.inv h'.cel.1 R.gr⟩)
        | brk => obtain ⟨_, _, _, _, z⟩ := h; exact z.elim
        | cont => obtain ⟨_, _, _, _, z⟩ := h; exact z.elim
        | ret v =>
          obtain ⟨ev, σ, H', I', gr, ce, e1, e2⟩ := h
          subst ev e1
          exact sg_end (.ok (.ret .none)) (.inl ⟨.inl rfl, e2, GZ.left_end I' ce gr⟩)
      · refine sg_wrap ?_
        rw [over_func]
        refine wpAny_mono (show wpAny (model P w) (Aw.deeper (envOfC qual scope s.heap.objs.size f cdv)) (leaving (envOfC qual scope s.heap.objs.size f cdv) e) (fun _ s'' => L2N.CX P w outer i'.H i'.s ((mkZ P w K mg base N qual scope f cdv Aw outer s.heap.objs.size fin).EX ys' i') e s'' ∧ ∀ p ∈ i'.pn, s''.heap.get? p.1 = some p.2) (fun _ _ => False) s' from hx) (fun _ s'' q => ?_) fun _ s'' q => q.elim
        obtain ⟨q1, q2⟩ := q
        have hys : ys' = [] := by
          obtain ⟨_, _, _, _, _, _, _, _, _, _, _, _, z, _⟩ := q1
          exact z
        subst hys
        exact sg_end (.error e) (.inr ⟨e, rfl, q1, q2⟩)
  exact main _ _ _ _ rfl rfl rfl fun h => Heap.get?_push_size _ rfl
end LW
namespace LW
open PySem PySem.Spec PyProof.Rows L2 GenW
def ads (L n : Nat) : List Addr := (List.range n).filter fun b => decide (L ≤ b)
theorem mem_ads {L n b : Nat} : b ∈ ads L n ↔ L ≤ b ∧ b < n := by
  unfold ads
  rw [List.mem_filter, List.mem_range]
  simp [and_comm]
theorem un_cut {fs : List Addr} {H H1 : Hp} {s : Shared} {h' : Heap} {L : Nat} (u : Un fs [] H H1 (cutS s L).heap h') : Un fs (ads L s.heap.objs.size) H H1 s.heap h' := by
  have lt : ∀ {b o}, s.heap.get? b = some o → b ∉ ads L s.heap.objs.size → (cutS s L).heap.get? b = some o := fun {b o} e hn => by
    have hb : b < L := Nat.lt_of_not_le fun z => hn (mem_ads.mpr ⟨z, Heap.lt_size e⟩)
    rw [cutS_get hb]; exact e
  have no : ∀ b : Addr, b ∉ ([] : List Addr) := fun b z => by cases z
  exact ⟨fun b o e n hb hx => u.keep b o (lt e hx) n hb (no b), fun b o e n hb hx => u.slot b o (lt e hx) n hb (no b), fun b o e n hx => u.free b o (lt e hx) n (no b), fun b o e hx => u.there b o (lt e hx) (no b), u.tups, u.frzs, u.tbls⟩
structure Old (X : Cx) (pins : List (Addr × Obj)) (L : Nat) : Prop where
  s0 : X.s_0.heap.objs.size ≤ L
  loc : X.env.locals < L
  cell : ∀ x c, X.env.cells.lookup x = some c → c < L
  pin : ∀ p ∈ X.pn ++ pins, p.1 < L
  fr : ∀ b ∈ frs X.stack, b < L
theorem inv_old {X : Cx} {pins : List (Addr × Obj)} {σ : L2.St} {H : Hp} {s : Shared} (I : Inv X pins σ H s) : Old X pins s.heap.objs.size where
  s0 := I.sz
  loc := I.lt
  cell := fun x c e => let ⟨v, q⟩ := I.cell x c e; q.lt
  pin := fun p hp => Heap.lt_size (I.pin p hp).1
  fr := fun b hb => let ⟨_, o, ho, _⟩ := I.stack.mem hb; Heap.lt_size ho
theorem Old.ch {X : Cx} {pins : List (Addr × Obj)} {L n : Nat} (o : Old X pins L) : ∀ b ∈ ads L n, (b ∈ X.ex ∨ X.s_0.heap.objs.size ≤ b) ∧ b ≠ X.env.locals ∧ (∀ x c, X.env.cells.lookup x = some c → c ≠ b) ∧ ∀ p ∈ X.pn ++ pins, p.1 ≠ b := fun b hb => by
  have h := (mem_ads.mp hb).1
  exact ⟨.inr (Nat.le_trans o.s0 h), Nat.ne_of_gt (Nat.lt_of_lt_of_le o.loc h), fun x c e => Nat.ne_of_lt (Nat.lt_of_lt_of_le (o.cell x c e) h), fun p hp => Nat.ne_of_lt (Nat.lt_of_lt_of_le (o.pin p hp) h)⟩
section
variable {X : Cx} {pins : List (Addr × Obj)} {σ : L2.St} {H H1 : Hp} {s s' : Shared} {L : Nat}
theorem inv_cut (I : Inv X pins σ H s) (o : Old X pins L) (os : s'.os = s.os) (un : Un (frs X.stack) [] H H1 (cutS s L).heap s'.heap) (hok : HOk X.prog X.w H1 s'.heap) (hb : AllBare s'.gens) : Inv X pins σ H1 s' :=
  I.call' (ch := ads L s.heap.objs.size) os (un_cut un) hok hb o.ch
theorem xe_cut {W : WX} {E : XK} (I : Inv X pins σ H s) (ol : Old X pins L) (hW : ∀ cls d H', E cls d H' → W cls d σ H') {u : Value} (c : L2N.CX X.prog X.w X.stack H (cutS s L) E u s') : L2N.XE X W u s' := by
  obtain ⟨a, B, H', cls, d, rfl, fl, hok, ub, na, os, ag, hE⟩ := c
  obtain ⟨G, g1, g2⟩ := restrict s'.heap fun b => (B.get? b).isSome || decide (b ∈ frs X.stack)
  have st : B.StaysIn s'.heap := fl.1
  have gB : ∀ b o, B.get? b = some o → G.get? b = some o := fun b o e => by
    rw [g1 b (by simp [e])]
    exact st b o e
  have gF : ∀ b, b ∈ frs X.stack → G.get? b = s'.heap.get? b := fun b hb => g1 b (by simp [hb])
  have og : ∀ b o, G.get? b = some o → s'.heap.get? b = some o ∧ ((B.get? b).isSome = true ∨ b ∈ frs X.stack) := fun b o e => by
    cases q : ((B.get? b).isSome || decide (b ∈ frs X.stack)) with
    | false => rw [g2 b q] at e; cases e
    | true =>
      rw [g1 b q] at e
      exact ⟨e, by simpa [Bool.or_eq_true] using q⟩
  have uc : Un (frs X.stack) [] H H' (cutS s L).heap G := by
    refine ⟨fun b o e n hb _ => gB b o (ub.keep b o e n hb), fun b o e n hb _ => ?_, fun b o e n _ => ub.free b o e n, fun b o e _ => ?_, ub.tups, ub.frzs, ub.tbls⟩
    · obtain ⟨sl, q⟩ := ub.slot b o e hb
      exact ⟨sl, by rw [gF b hb]; exact q⟩
    · by_cases hb : b ∈ frs X.stack
      · obtain ⟨sl, q⟩ := ub.slot b o e hb
        exact ⟨_, by rw [gF b hb]; exact q⟩
      · obtain ⟨o', q⟩ := ub.there b o e hb
        exact ⟨o', gB b o' q⟩
  refine ⟨a, B, { s with heap := G, gens := s'.gens, drawn := s'.drawn, toks := s'.toks }, pins, σ, H', cls, d, rfl, inv_cut I ol rfl uc (hok.kept gB) ag, fun b o e hb => ?_, Heap.UpToSlots.of_keeps fun b o e => (og b o e).1, .inr (.inl fl), na, os, ag, hW _ _ _ hE⟩
  obtain ⟨e', h⟩ := og b o e
  rcases h with h | h
  · obtain ⟨o', q⟩ := Option.isSome_iff_exists.mp h
    have z := st b o' q
    rw [e'] at z; cases z
    exact q
  · exact absurd h hb
theorem xe_gens {W : WX} {u : Value} {G : Array GenState} (x : L2N.XE X W u s') (h : AllBare G) : L2N.XE X W u { s' with gens := G } := by
  obtain ⟨a, B, sI, pins, σ, H, cls, d, rfl, I, nb, up, sky, na, os, ag, w⟩ := x
  exact ⟨a, B, sI, pins, σ, H, cls, d, rfl, I, nb, up, sky, na, os, h, w⟩
end
theorem notStop_ofN {P : Program} {w : World} {K : PySem.W.Frag} {outer : List Env} {H : Hp} {s s' : Shared} {E : XK} {e : Value} (hE : NoStop K E) (kin : K.In s'.heap) (c : L2N.CX P w outer H s E e s') : NotStop (model P w) e s'.heap := by
  obtain ⟨a, B, H', cls, d, rfl, fl, _, _, _, _, _, hW⟩ := c
  obtain ⟨oe, vs, he, hz, hd⟩ := fl.there
  have L := PySem.W.looks_subIn (M := model P w) kin (hE cls d H' hW)
  intro A Q E' s2 hs hq
  simp only [isInstance]
  refine wpAny_bind (wpAny_typeOf_ref (o := oe) (by rw [hs]; exact he) ?_)
  rw [hz.1]
  exact L A Q E' s2 (fun b o z => by rw [hs]; exact z) hq
structure Rdy (P : Program) (w : World) (K : PySem.W.Frag) (base : Heap) (A : Around) (outer : List Env) (L : Nat) (fin : Option Exn) (a g : Nat) (go : Obj) (S : ASet) (ys : List D) (gp : List (Addr × Obj)) (hv : List (D × V)) (cs : List Addr) (φ : CFn) (gs : GenState) (H : Hp) (s : Shared) : Prop where
  obj : s.heap.get? a = some go
  ho : H a = none
  own : ∀ p ∈ gp, s.heap.get? p.1 = some p.2 ∧ H p.1 = none ∧ L ≤ p.1 ∧ p.1 ≠ a ∧ ∀ v, p.2.data ≠ .cell v
  hvr : ∀ p ∈ hv, RepA K H S p.1 p.2
  gsa : s.gens[g]? = some gs
  cel : Celd cs φ H
  goes : ∃ (mg : Str → Option Value) (N : List Str) (qual : Str) (scope : Scope) (f : Addr) (cd : Value), csOf scope L = cs ∧ ∀ i s2, (mkZ P w K mg base N qual scope f cd A outer L fin).Wake gp hv φ i s2 → GoesZ (model P w) A ((mkZ P w K mg base N qual scope f cd A outer L fin).Phi ys i) gs s2
theorem Rdy.keep {P : Program} {w : World} {K : PySem.W.Frag} {base : Heap} {A : Around} {outer : List Env} {L : Nat} {fin : Option Exn} {a g : Nat} {go : Obj} {S S' : ASet} {ys : List D} {gp : List (Addr × Obj)} {hv : List (D × V)} {cs : List Addr} {φ : CFn} {gs : GenState} {H H' : Hp} {s s' : Shared} (r : Rdy P w K base A outer L fin a g go S ys gp hv cs φ gs H s)
    (ho : s'.heap.get? a = some go ∧ H' a = none) (hp : ∀ p ∈ gp, s'.heap.get? p.1 = some p.2 ∧ H' p.1 = none) (hh : ∀ p ∈ hv, RepA K H' S' p.1 p.2) (hg : s'.gens[g]? = some gs) (hc : Celd cs φ H') : Rdy P w K base A outer L fin a g go S' ys gp hv cs φ gs H' s' :=
  ⟨ho.1, ho.2, fun p hp' => ⟨(hp p hp').1, (hp p hp').2, (r.own p hp').2.2⟩, hh, hg, hc, r.goes⟩
theorem next_gz {X : Cx} {W : Wrl} {F : Frm} {T : ASet} {ω : W.Ω} {ρ : List Sl} {pins : List (Addr × Obj)} {σ : L2.St} {H : Hp} {s : Shared} {A : Around} {L : Nat} {fin : Option Exn} {a g : Nat} {go : Obj} {ys : List D} {gp : List (Addr × Obj)} {hv : List (D × V)} {cs : List Addr} {φ : CFn} {gs : GenState} {Q : Option Value → Shared → Prop} {E : Value → Shared → Prop} (xp : List (Addr × Obj))
    (hxp : ∀ p ∈ xp, s.heap.get? p.1 = some p.2 ∧ H p.1 = none ∧ p.1 ∉ frs X.stack ∧ (∀ v, p.2.data ≠ .cell v) ∧ ∀ q ∈ gp, p.1 ≠ q.1) (hh : A.handled = none) (hdep : A.depth < recursionLimit) (I : Inv X pins σ H s) (R : Rel X.K W F T ω ρ σ H) (ol : Old X pins L) (hgo : GObj go g) (hLa : L ≤ a)
    (r : Rdy X.prog X.w X.K X.base A.in1 X.stack L fin a g go (Spr F T ρ) ys gp hv cs φ gs H s) (nS : ∀ c ∈ cs, ¬ Spr F T ρ c) (hns : ∀ x, fin = some x → PySem.W.subIn X.K (.ref x.C) (.type "StopIteration") = some false)
    (hY : ∀ d ys' v x s1 H1 gp' hv' φ' gs', ys = d :: ys' → (∀ p ∈ xp, s1.heap.get? p.1 = some p.2 ∧ H1 p.1 = none ∧ ∀ q ∈ gp', p.1 ≠ q.1) → Inv X pins σ H1 s1 → GrP (onC cs) H H1 → RelV x v → RepA X.K H1 (Spr F T ρ) d x → isSus gs' = true → Rdy X.prog X.w X.K X.base A.in1 X.stack L fin a g go (Spr F T ρ) ys' gp' hv' cs φ' gs' H1 s1 → Q (some v) s1)
    (hD : ∀ s1 H1, ys = [] → fin = none → (∀ p ∈ xp, s1.heap.get? p.1 = some p.2 ∧ H1 p.1 = none) → Inv X pins σ H1 s1 → GrP (onC cs) H H1 → Q none s1)
    (hE : ∀ x e s1, ys = [] → fin = some x → L2N.XE X (fun cls dd σ' H' => σ' = σ ∧ GrP (onC cs) H H' ∧ XRep X.K H' x cls dd) e s1 → E e s1) : wpAny (model X.prog X.w) A (pyNext (.ref a)) Q E s := by
  have hg : s.heap.IsGen a g := hgo.is r.obj
  have hgs := r.gsa
  refine wpAny_gsz (n := g + 1) (Array.getElem?_eq_some_iff.mp hgs).1 ?_
  obtain ⟨mg, N, qual, scope, f, cd, hcs, hgoes⟩ := r.goes
  subst hcs
  have hL : L ≤ s.heap.objs.size := Nat.le_trans hLa (Nat.le_of_lt (Heap.lt_size r.obj))
  obtain ⟨gnm, gqn, gdat⟩ := hgo.data
  have gcell : ∀ v, go.data ≠ .cell v := fun v z => by rw [gdat] at z; cases z
  have gfr : a ∉ frs X.stack := fun z => Nat.lt_irrefl _ (Nat.lt_of_lt_of_le (ol.fr a z) hLa)
  have wk : (mkZ X.prog X.w X.K mg X.base N qual scope f cd A.in1 X.stack L fin).Wake gp hv φ ⟨cutS (s.setGen g .running) L, H, Spr F T ρ, (a, go) :: xp⟩ (s.setGen g .running) :=
    ⟨rfl, hL, allBare_setGen I.bare rfl, I.hok, I.bs, I.stack, fun b hb => ⟨I.stkFree b hb, ol.fr b hb⟩, fun p hp => ⟨(r.own p hp).1, (r.own p hp).2.1⟩, fun p hp => by
      rcases List.mem_cons.mp hp with z | z
      · rw [z]
        exact ⟨r.obj, r.ho, gfr, gcell, fun q hq => fun z => (r.own q hq).2.2.2.1 z.symm⟩
      · exact hxp p z, R.spl, r.cel, nS, r.hvr⟩
  have hgo' := hgoes _ _ wk
  have kin : ∀ {s1 : Shared} {H1 : Hp}, Un (frs X.stack) [] H H1 (cutS s L).heap s1.heap → X.K.In s1.heap := fun {s1 H1} un => by
    refine I.ok.mod.kin.keeps fun b o eb => ?_
    obtain ⟨e1, e2⟩ := I.bs b o eb
    have hbL : b < L := Nat.lt_of_lt_of_le (Heap.lt_size eb) (Nat.le_trans I.ok.bsz ol.s0)
    refine un.keep b o (by rw [cutS_get hbL]; exact e1) e2 (fun hm => ?_) (fun z => by cases z)
    have := I.stack.mem hm
    rw [this.1] at eb; cases eb
  unfold pyNext
  refine wpAny_bind (wpAny_attempt (wpAny_callSpecial?_slot (name := Str.ofString "__next__") hg.typeIs slot_gen_next
    (wpAny_call_entry slot_gen_next hg.typeIs entry_gen_next ?_ (args_gen_next _))))
  show wpAny _ A.in1 (Builtin.Generator.genWake (.ref a) (.send .none)) _ _ s
  unfold Builtin.Generator.genWake
  refine wpAny_bind (wpAny_holding (wpAny_genNumber hg (wpAny_bind (wpAny_genState hgs ?_))))
  cases gs with
  | running => exact hgo'.elim
  | finished => exact hgo'.elim
  | _ =>
    refine wpAny_bind (wpAny_roomToWake I.nolimit hdep ?_)
    show wpAny _ A.in1 (.resume g (.send .none) [] _) _ _ s
    refine wpAny_resumeZ hgs hgo' (fun x s₁ hx => ?_) (fun v g' l' k' c' p' fs' s₁ hy => ?_)
    · cases ys with
      | cons d ys => exact False.elim hx
      | nil =>
        rcases hx with ⟨hr, hfin, H1, left⟩ | ⟨e, rfl, hcx, hpin⟩
        · have hres : End.result (.ret x) = .returned .none := by
            rcases hr with hr | hr <;> rw [hr] <;> rfl
          first | rw [hres] | simp only [hres]
          show wpAny _ A.in1 (newExc (.type "StopIteration") [] >>= _) _ _ _
          refine wpAny_bind ?_
          simp only [newExc, newTuple]
          refine wpAny_bind (wpAny_newObj_type ?_ (by size_fits))
          refine wpAny_bind (m := firstArgMember _ _) (wpAny_of_eq (a := Value.none) (by first | rfl | (simp only [firstArgMember]; rfl)) ?_)
          refine wpAny_newObj_type ?_ (by size_fits)
          simp only [raiseNew]
          refine wpAny_bind (wpAny_bind (wpAny_handled ?_))
          first | rw [show A.in1.handled = none from hh] | rw [hh]
          refine wpAny_throw ?_
          refine wpAny_bind (wpAny_isInstance (T := "StopIteration") (b := true) ⟨_, Heap.get?_push_size _ rfl, rfl⟩ isSubtype_stop ?_)
          have kp : ∀ (h' : Heap), (∀ b o, s₁.heap.get? b = some o → h'.get? b = some o) → (g + 1 ≤ ({ s₁.setGen g .finished with heap := h' } : Shared).gens.size → Q none { s₁.setGen g .finished with heap := h' }) := fun h' hk _ =>
            hD _ H1 rfl hfin (fun p hp => ⟨hk _ _ (left.pn p (List.mem_cons_of_mem _ hp)).1, (left.pn p (List.mem_cons_of_mem _ hp)).2⟩) (inv_cut I ol left.os ((show Un (frs X.stack) [] H H1 (cutS s L).heap s₁.heap from left.un).trans (Un.kept hk)) (left.hok.kept hk) (allBare_setGen left.bare rfl)) left.gr
          exact wpAny_pure (kp _ fun b o hb => Heap.get?_push_of_some _ (Heap.get?_push_of_some _ hb))
        · have hcx' : L2N.CX X.prog X.w X.stack H (cutS (s.setGen g .running) L) _ e s₁ := hcx
          have hg1 : s₁.heap.IsGen a g := hgo.is (hpin (a, go) List.mem_cons_self)
          have hxx : ∃ x, fin = some x := by
            obtain ⟨_, _, _, _, _, _, _, _, _, _, _, _, _, _, x, hx, _⟩ := hcx
            exact ⟨x, hx⟩
          obtain ⟨x, hx⟩ := hxx
          have nst : NoStop X.K ((mkZ X.prog X.w X.K mg X.base N qual scope f cd A.in1 X.stack L fin).EX [] ⟨cutS (s.setGen g .running) L, H, Spr F T ρ, (a, go) :: xp⟩) := fun cls d H' h => by
            obtain ⟨_, _, x', hx', hr⟩ := h
            have hx' : fin = some x' := hx'
            rw [hx] at hx'
            cases hx'
            rw [hr.1]
            exact hns x hx
          have kin1 : X.K.In s₁.heap := by
            obtain ⟨_, B, H', _, _, _, fl, _, ub, _⟩ := id hcx'
            refine I.ok.mod.kin.keeps fun b o eb => ?_
            obtain ⟨e1, e2⟩ := I.bs b o eb
            have hbL : b < L := Nat.lt_of_lt_of_le (Heap.lt_size eb) (Nat.le_trans I.ok.bsz ol.s0)
            refine fl.1 b o (ub.keep b o (by rw [cutS_get hbL]; exact e1) e2 fun hm => ?_)
            have := I.stack.mem hm
            rw [this.1] at eb; cases eb
          have hns1 := notStop_ofN nst kin1 hcx'
          have hq : g + 1 ≤ (s₁.setGen g .finished).gens.size → E e (s₁.setGen g .finished) := by
            intro _
            have ag : AllBare s₁.gens := by
              obtain ⟨_, _, _, _, _, _, _, _, _, _, _, ag, _⟩ := id hcx'
              exact ag
            refine hE x e _ rfl hx (xe_gens (xe_cut I ol (fun cls d H' h => ?_) hcx') (allBare_setGen ag rfl))
            obtain ⟨_, gr, x', hx', hr⟩ := h
            have hx' : fin = some x' := hx'
            rw [hx] at hx'
            cases hx'
            exact ⟨rfl, gr, hr⟩
          obtain ⟨o, nm, qn, ho, hc, hd, hsl⟩ := hg1
          show wpAny _ A.in1 (Builtin.Generator.genLeft (.ref a) e) _ _ _
          unfold Builtin.Generator.genLeft Builtin.Generator.madeByALambda
          refine wpAny_bind (wpAny_bind (wpAny_load (o := o) ho (wpAny_pure ?_)))
          refine wpAny_bind (hns1 _ _ _ _ rfl ?_)
          rw [Bool.and_false, if_neg Bool.false_ne_true]
          unfold Builtin.Generator.genEscaped
          first
            | refine wpAny_bind (hns1 _ _ _ _ rfl ?_)
            | refine wpAny_bind (wpAny_pure (wpAny_bind (hns1 _ _ _ _ rfl ?_)))
          rw [if_pos (show (!false) = true from rfl)]
          first
            | refine wpAny_throw ?_
            | refine wpAny_bind (wpAny_throw ?_)
          refine wpAny_bind (hns1 _ _ _ _ rfl ?_)
          rw [if_neg Bool.false_ne_true]
          exact wpAny_throw hq
    · cases ys with
      | nil => exact False.elim hy
      | cons d ys =>
        obtain ⟨hq, x, H1, gp', hv', φ', rv, left, ce, own, dis, rd, hvr, wake⟩ := hy
        refine ⟨hq, ?_⟩
        have hI : Inv X pins σ H1 (s₁.setGen g (.suspended k' l' c' p' fs' (g' || fs'.any Frame.guarded))) :=
          inv_cut I ol left.os left.un left.hok (allBare_setGen left.bare (by
            show (!(g' || fs'.any Frame.guarded)) = true
            exact hq))
        refine wpAny_pure ⟨v, rfl, wpAny_pure fun hsz => hY d ys v x _ H1 gp' hv' φ' _ rfl (fun p hp => ⟨(left.pn p (List.mem_cons_of_mem _ hp)).1, (left.pn p (List.mem_cons_of_mem _ hp)).2, dis p (List.mem_cons_of_mem _ hp)⟩) hI left.gr rv rd rfl ⟨(left.pn (a, go) List.mem_cons_self).1, (left.pn (a, go) List.mem_cons_self).2, fun p hp => ?_, hvr, setGen_at ?_, ce, mg, N, qual, scope, f, cd, rfl, wake⟩⟩
        · obtain ⟨a1, a2, a3, a4, a5⟩ := own p hp
          exact ⟨a1, a2, a3, fun z => dis (a, go) List.mem_cons_self p hp z.symm, a5⟩
        · have q : (s₁.setGen g (.suspended k' l' c' p' fs' (g' || fs'.any Frame.guarded))).gens.size = s₁.gens.size := setGen_size _ _ _
          omega
end LW
namespace LW
open PySem PySem.Spec PyProof.Rows L2 GenW
abbrev QTGen (W : Wrl) := W.Ω → List Sl → (W.Ω → List D → Option Exn → Prop) → (W.Ω → Exn → Prop) → Prop
structure QGen (X : Cx) (k : Nat) (W : Wrl) (Wo : WX) (e : Expr) (qg : QTGen W) : Prop where
  run : ∀ (pins : List (Addr × Obj)) (s : Shared) (σ : L2.St) (H : Hp) (F : Frm) (T : ASet) (ω : W.Ω) (ρ : List Sl) (Qp : W.Ω → List D → Option Exn → Prop) (Ep : W.Ω → Exn → Prop), Inv X pins σ H s → Rel X.K W F T ω ρ σ H → qg ω ρ Qp Ep → XOk X.K W Wo F ρ σ Ep →
    wpAny (model X.prog X.w) X.A (eval e X.env) (fun u s' => ∃ (H1 : Hp) (sc : Shared) (T1 : ASet) (ω1 : W.Ω) (ys : List D) (fin : Option Exn), Inv X pins σ H1 sc ∧ Rel X.K W F T1 ω1 ρ σ H1 ∧ Ext T H T1 H1 ∧ GMadeZ X.prog X.w X.K X.base k X.stack H1 (Spr F T1 ρ) sc ys fin u s' ∧ Qp ω1 ys fin) X.xe s
section
variable {X : Cx} {W : Wrl} {Wo : WX} {mr m m1 m2 : Md} {pf : PSpG} {qs : QTA W} {qo : QT W} {k : Nat} {f C : Addr} {fd : FuncData} {ps : List Str} {x mn : Str} {p pos apos : Pos} {e o a b fe : Expr} {es : List Expr}
theorem run_gfnZ {pins : List (Addr × Obj)} {σ : L2.St} {H : Hp} {s : Shared} {F : Frm} {T : ASet} {ω : W.Ω} {ρ : List Sl} {us : List Value} {vs : List V} {ds ys : List D} {fin : Option Exn} {E1 : Value → Shared → Prop} (G : GFnZ X.prog X.w X.K X.mg X.base k f fd ps pf) (hr : Room k X.A) (hb : Binds X.K fd ps [])
    (I : Inv X pins σ H s) (R : Rel X.K W F T ω ρ σ H) (r : Vals vs us) (rep : RepsA X.K H (Spr F T ρ) ds vs) (h : pf ds ys fin) :
    wpAny (model X.prog X.w) X.A (call (.ref f) us) (fun u s' => GMadeZ X.prog X.w X.K X.base k X.stack H (Spr F T ρ) s ys fin u s') E1 s := by
  have hl : us.length = ps.length := by rw [← r.length, rep.len]; exact G.len _ _ _ h
  have b := hb s us I.kIn (by rw [List.append_nil]; exact hl)
  rw [List.append_nil] at b
  refine wpAny_call (codeAny_mono (G.run X.A X.stack s H _ ⟨us, []⟩ us vs ds ys fin hr I.env0 b r R.spl rep h) fun r s' hq => ?_)
  cases r with
  | error e => exact False.elim hq
  | ok fl =>
    cases fl with
    | ret u => exact hq
    | next => exact False.elim hq
    | brk => exact False.elim hq
    | cont => exact False.elim hq
def qGMeth (C : Addr) (mn : Str) (pf : PSpG) (qo : QT W) (qs : QTA W) : QTGen W := fun ω ρ Q E => qo ω ρ (fun ω1 d => ∃ ns ds, d = .ins C ns ds ∧ mn ∉ ns ∧ qs ω1 ρ (fun ω2 es => ∃ ys fin, pf (d :: es) ys fin ∧ Q ω2 ys fin) E) E
def qGCall (pf : PSpG) (qs : QTA W) : QTGen W := fun ω ρ Q E => qs ω ρ (fun ω1 es => ∃ ys fin, pf es ys fin ∧ Q ω1 ys fin) E
theorem qg_call (G : GFnZ X.prog X.w X.K X.mg X.base k f fd ps pf) (hr : Room k X.A) (hg : Gl X x) (hm : X.mg x = some (.ref f)) (hk : PySem.W.keepIn X.K (.ref f) = true) (hb : Binds X.K fd ps [])
    (ha : QA X .A W Wo (e :: es) qs) (hdb : (x == ("__debug__" : Str)) = false := by decide) (he : starEach (e :: es) X.env = (false, eval e X.env) :: starEach es X.env := by rfl) (hpl : (backTo pos (starEach es X.env)).any (·.1) = false := by rfl) :
    QGen X k W Wo (.Call (.Name x p) (e :: es) [] pos) (qGCall pf qs) := by
  refine ⟨fun pins s σ H F T ω ρ Qp Ep I R hq hx => ?_⟩
  refine wpAny_Call_Name_kw (ld_glob I hg hm ?_ hdb)
  refine PySem.W.callWith_K (h₀ := X.base) I.ok.mod.kin hk (thn (PA.run ha pos pins s σ H (fun vs H2 => ∃ T2 ω2 es, Rel X.K W F T2 ω2 ρ σ H2 ∧ Ext T H T2 H2 ∧ RepsA X.K H2 (Spr F T2 ρ) es vs ∧ ∃ ys fin, pf es ys fin ∧ Qp ω2 ys fin) I
    ⟨F, T, ω, ρ, _, Ep, R, hq, hx, fun T2 ω2 es vs H2 R2 e2 r2 q2 => ⟨T2, ω2, es, R2, e2, r2.reps, q2⟩⟩) fun us s2 ⟨vs, H2, I2, r, T2, ω2, es, R2, e2, r2, ys, fin, hp, q2⟩ => ⟨I2.kIn, ?_⟩) he hpl
  exact thn (run_gfnZ G hr hb I2 R2 r r2 hp) fun u' s' made => ⟨H2, s2, T2, ω2, ys, fin, I2, R2, e2, made, q2⟩
end
theorem inv_gens {X : Cx} {pins : List (Addr × Obj)} {σ : L2.St} {H : Hp} {s : Shared} {G : Array GenState} (I : Inv X pins σ H s) (h : AllBare G) : Inv X pins σ H { s with gens := G } :=
  ⟨I.ok, I.os, h, I.base, I.loc, I.cell, I.free, I.freeC, I.pin, I.hok, I.len⟩
theorem bare_off {G : Array GenState} (h : AllBare G) : AllBare (G.map offG) := fun y hy => by
  obtain ⟨x, hx, rfl⟩ := Array.mem_map.mp hy
  have := h x hx
  cases x <;> exact this
theorem un_new {fs ex cs : List Addr} {φ : CFn} {H : Hp} {h h' : Heap} (k : ∀ b o, h.get? b = some o → h'.get? b = some o) (n : ∀ c ∈ cs, h.objs.size ≤ c ∧ H c = none) : Un fs ex H (upH cs φ H) h h' := by
  have ne : ∀ {b o}, H b = some o → b ∉ cs := fun {b o} e m => by rw [(n b m).2] at e; cases e
  refine ⟨fun b o e _ _ _ => k b o e, fun b o e _ _ _ => ⟨o.slots, k b o e⟩, fun b o e q _ => upH_none q fun m => Nat.lt_irrefl _ (Nat.lt_of_lt_of_le (Heap.lt_size e) (n b m).1), fun b o e _ => ⟨o, k b o e⟩, fun b xs e => by rw [upH_out (ne e)]; exact e, fun b o x e => by rw [upH_out (ne e)]; exact e, fun b ps e => ⟨#[], by rw [upH_out (ne e), e]; simp⟩⟩
theorem made_rdy {X : Cx} {W : Wrl} {F : Frm} {T : ASet} {ω : W.Ω} {ρ : List Sl} {pins : List (Addr × Obj)} {σ : L2.St} {H : Hp} {sc s' : Shared} {k : Nat} {ys : List D} {fin : Option Exn} {u : Value} {A : Around} (hr : Room k A) (hfr : A.frames = some X.stack)
    (I : Inv X pins σ H sc) (R : Rel X.K W F T ω ρ σ H) (made : GMadeZ X.prog X.w X.K X.base k X.stack H (Spr F T ρ) sc ys fin u s') :
    ∃ (a g : Nat) (go : Obj) (gp : List (Addr × Obj)) (hv : List (D × V)) (cs : List Addr) (φ : CFn) (gs : GenState), u = .ref a ∧ Inv X pins σ (upH cs φ H) s' ∧ Old X pins sc.heap.objs.size ∧ GObj go g ∧ sc.heap.objs.size ≤ a ∧ (∀ p ∈ gp, sc.heap.objs.size ≤ p.1 ∧ p.1 < s'.heap.objs.size) ∧ (∀ c ∈ cs, H c = none ∧ sc.heap.objs.size ≤ c ∧ c < s'.heap.objs.size) ∧
      Rdy X.prog X.w X.K X.base A X.stack sc.heap.objs.size fin a g go (Spr F T ρ) ys gp hv cs φ gs (upH cs φ H) s' := by
  obtain ⟨a, g, c, go, gp, hv, mg, N, qual, scope, f, cd, φ, rfl, hgo, hobj, hLa, hgens, hos, hba, hkeep, hown, hcel, hhv, hrun⟩ := made
  have n : ∀ c ∈ csOf scope sc.heap.objs.size, H c = none ∧ sc.heap.objs.size ≤ c ∧ c < s'.heap.objs.size := fun c m => ⟨I.hok.fresh (hcel c m).1, (hcel c m).1, (hcel c m).2.2.1.choose_spec.lt⟩
  refine ⟨a, g, go, gp, hv, csOf scope sc.heap.objs.size, φ, .fresh c, rfl, I.call' (ch := []) hos (un_new hkeep fun c m => ⟨(n c m).2.1, (n c m).1⟩) (hok_up (I.hok.kept hkeep) (fun c m => ⟨(n c m).1, (hcel c m).2.2.1⟩) fun c m => (hcel c m).2.2.2) hba (fun b z => by simp at z), inv_old I, hgo, hLa, fun p hp => ⟨(hown p hp).2.1, Heap.lt_size (hown p hp).1⟩, n,
    hobj, upH_none (I.hok.fresh hLa) fun m => Nat.lt_irrefl _ (hcel a m).2.1, fun p hp => ?_, hhv, hgens, upH_celd, mg, N, qual, scope, f, cd, rfl, fun i s2 wk => hrun A hr hfr i s2 wk⟩
  obtain ⟨a1, a2, a3, a4, a5⟩ := hown p hp
  exact ⟨a1, upH_none (I.hok.fresh a2) a4, a2, a3, a5⟩
def kForG {W : Wrl} (K : PySem.W.Frag) (g : QTG) (s : QTS W) (P : PEn W) (ω1 : W.Ω) (ρ : List Sl) (ys : List D) (fin : Option Exn) : Prop :=
  (∀ x, fin = some x → PySem.W.subIn K (.ref x.C) (.type "StopIteration") = some false) ∧ ∃ I : Nat → W.Ω → List Sl → Prop, I 0 ω1 ρ ∧
    (∀ i d ω ρ, ys[i]? = some d → I i ω ρ → g d ρ fun ρ' => s { P with nx := I (i + 1), ct := I (i + 1), bk := P.nx, ex := fun _ _ _ => False } ω ρ') ∧ ∀ ω ρ, I ys.length ω ρ → match fin with | none => P.nx ω ρ | some x => P.ex ω x ρ
def sForG {W : Wrl} (K : PySem.W.Frag) (qg : QTGen W) (g : QTG) (s : QTS W) : QTS W := fun P ω ρ => qg ω ρ (fun ω1 ys fin => kForG K g s P ω1 ρ ys fin) fun ω1 x => P.ex ω1 x ρ
end LW
namespace LW
open PySem PySem.Spec PyProof.Rows L2 GenW
section
variable {X : Cx} {pins : List (Addr × Obj)} {σ : L2.St} {H : Hp} {s : Shared} {S : Addr} {acc : Array Value} {c : Nat} {xs : List V}
theorem inv_track (I : Inv X pins σ H s) (hn : H S = none) (e : s.heap.get? S = some (lstObj acc c)) (hv : Vals xs acc.toList) (hl : xs.length ≤ sizeLine) (h0 : X.s_0.heap.objs.size ≤ S) (hL : S ≠ X.env.locals) (hc : ∀ x c, X.env.cells.lookup x = some c → c ≠ S)
    (hp : ∀ p ∈ X.pn ++ pins, p.1 ≠ S) : Inv X pins σ (upd H S (.lst xs)) s := by
  have old : ∀ b o, X.s_0.heap.get? b = some o → b ≠ S := fun b o q => Nat.ne_of_lt (Nat.lt_of_lt_of_le (Heap.lt_size q) h0)
  refine ⟨I.ok, I.os, I.bare, ⟨I.base.keep, I.base.slot, fun b o q n hx => ?_, I.base.there, fun b ys q => ?_, fun b o u q => ?_, fun b ps q => ?_⟩, I.loc, I.cell, ?_, fun x c q => ?_, fun p hpp => ?_, ?_, I.len⟩
  · rw [upd_ne (old b o q)]; exact I.base.free b o q n hx
  · have q2 := I.base.tups b ys q
    rw [upd_ne (ne_of_none q2 hn)]; exact q2
  · have q2 := I.base.frzs b o u q
    rw [upd_ne (ne_of_none q2 hn)]; exact q2
  · obtain ⟨more, q2⟩ := I.base.tbls b ps q
    exact ⟨more, by rw [upd_ne (ne_of_none q2 hn)]; exact q2⟩
  · rw [upd_ne (Ne.symm hL)]; exact I.free
  · rw [upd_ne (hc x c q)]; exact I.freeC x c q
  · obtain ⟨a1, a2, a3⟩ := I.pin p hpp
    exact ⟨a1, by rw [upd_ne (hp p hpp)]; exact a2, a3⟩
  · exact I.hok.laidN (fun _ _ q => q) hn ⟨hl, acc.toList, c, hv, by rw [e]⟩
end
theorem grp_transC {cs : List Addr} {H0 H H1 : Hp} (gr : GrP nop H0 H) (g : GrP (onC cs) H H1) (n0 : ∀ c ∈ cs, H0 c = none) : GrP nop H0 H1 :=
  ⟨fun a o e _ => g.keep a o (gr.keep a o e (.inr fun z => z)) (.inr fun m => by rw [n0 a m] at e; cases e), fun a e => gr.live a (g.live a e)⟩
theorem drainZ {X : Cx} {W : Wrl} {F : Frm} {T : ASet} {ω : W.Ω} {ρ : List Sl} {pins : List (Addr × Obj)} {σ : L2.St} {A : Around} {L : Nat} {a g : Nat} {go : Obj} {zs : List D} {R : Result → Shared → Prop} {S : Addr} {H0 : Hp} {cs : List Addr} {fin : Option Exn} (hns : ∀ x, fin = some x → PySem.W.subIn X.K (.ref x.C) (.type "StopIteration") = some false) (hendX : ∀ x e s', fin = some x → L2N.XE X (fun cls dd σ' H' => σ' = σ ∧ Rel X.K W F T ω ρ σ' H' ∧ XRep X.K H' x cls dd) e s' → R (.error e) s') (nF : ∀ c ∈ cs, F.H c = none) (n0 : ∀ c ∈ cs, H0 c = none) (nS : ∀ c ∈ cs, ¬ Spr F T ρ c)
    (hh : A.handled = none) (hdep : A.depth < recursionLimit) (ol : Old X pins L) (hgo : GObj go g) (hLa : L ≤ a) (hSa : S ≠ a) (hSL : L ≤ S) (hSf : S ∉ frs X.stack) (hz : zs.length ≤ sizeLine)
    (hend : ∀ s' acc c H' xs, fin = none → Inv X pins σ H' s' → H' S = none → s'.heap.get? S = some (lstObj acc c) → Vals xs acc.toList → RepsA X.K H' (Spr F T ρ) zs xs → Rel X.K W F T ω ρ σ H' → GrP nop H0 H' → R (.ok (.ret .none)) s') :
    ∀ (ys ds : List D) (s : Shared) (H : Hp) (xs : List V) (acc : Array Value) (c : Nat) (gs : GenState) (gp : List (Addr × Obj)) (hv : List (D × V)) (φ : CFn), zs = ds ++ ys → Inv X pins σ H s → Rel X.K W F T ω ρ σ H → GrP nop H0 H → s.heap.get? S = some (lstObj acc c) → H S = none → (∀ p ∈ gp, S ≠ p.1) → Vals xs acc.toList → RepsA X.K H (Spr F T ρ) ds xs →
      Rdy X.prog X.w X.K X.base A.in1.in1 X.stack L fin a g go (Spr F T ρ) ys gp hv cs φ gs H s → codeAny (model X.prog X.w) A (.builtin "list.extend.loop" ⟨[.ref S, .ref a, .none], []⟩) R s := by
  have SneL : S ≠ X.env.locals := Nat.ne_of_gt (Nat.lt_of_lt_of_le ol.loc hSL)
  have Sc : ∀ x c, X.env.cells.lookup x = some c → c ≠ S := fun x c e => Nat.ne_of_lt (Nat.lt_of_lt_of_le (ol.cell x c e) hSL)
  have Sp : ∀ p ∈ X.pn ++ pins, p.1 ≠ S := fun p hp => Nat.ne_of_lt (Nat.lt_of_lt_of_le (ol.pin p hp) hSL)
  have S0 : X.s_0.heap.objs.size ≤ S := Nat.le_trans ol.s0 hSL
  intro ys
  induction ys with
  | nil =>
    intro ds s H xs acc c gs gp hv φ ez I R gr hS hn hgp hvals hrep r
    refine codeAny_builtin PySem.F.entry_extend_loop ?_
    rw [Around.under_plainId PySem.F.plain_extend_loop _]
    show wpAny _ A.in1 (pyNext (.ref a) >>= _) _ _ s
    refine wpAny_bind (next_gz (A := A.in1) (xp := [(S, lstObj acc c)]) (fun p hp => ?_) hh hdep I R ol hgo hLa r nS hns (fun d ys' v x s1 H1 gp' hv' φ' gs' hys _ _ _ _ _ _ _ => ?_) (fun s1 H1 _ hfin hx1 I1 g1 => ?_) fun x e s1 _ hx hxe => ?_)
    · rw [List.mem_singleton.mp hp]
      exact ⟨hS, hn, hSf, fun v z => (by cases z), hgp⟩
    · cases hys
    · obtain ⟨e1, e2⟩ := hx1 (S, lstObj acc c) List.mem_cons_self
      rw [List.append_nil] at ez
      subst ez
      exact wpAny_pure (hend _ acc c H1 xs hfin I1 e2 e1 hvals ((reps_dn r.cel hrep).ext (grp_dn g1) (fun _ z => z.elim) fun b z => .inl z) (R.growC r.cel g1 nF nS) (grp_transC gr g1 n0))
    · obtain ⟨a', B, sI, pins', σ', H', cls, d, rfl, I', nb, up, sky, na, os, ag, w1, w2, w3⟩ := hxe
      subst w1
      exact hendX x _ s1 hx ⟨a', B, sI, pins', σ', H', cls, d, rfl, I', nb, up, sky, na, os, ag, rfl, R.growC r.cel w2 nF nS, w3⟩
  | cons d ys ih =>
    intro ds s H xs acc c gs gp hv φ ez I R gr hS hn hgp hvals hrep r
    refine codeAny_builtin PySem.F.entry_extend_loop ?_
    rw [Around.under_plainId PySem.F.plain_extend_loop _]
    show wpAny _ A.in1 (pyNext (.ref a) >>= _) _ _ s
    refine wpAny_bind (next_gz (A := A.in1) (xp := [(S, lstObj acc c)]) (fun p hp => ?_) hh hdep I R ol hgo hLa r nS hns (fun d' ys' v x s1 H1 gp' hv' φ' gs' hys hx1 I1 g1 rv rd hsus r1 => ?_) (fun s1 H1 hys _ _ _ _ => ?_) fun x e s1 hys _ _ => ?_)
    · rw [List.mem_singleton.mp hp]
      exact ⟨hS, hn, hSf, fun v z => (by cases z), hgp⟩
    · cases hys
      obtain ⟨e1, e2, e3⟩ := hx1 (S, lstObj acc c) List.mem_cons_self
      have hlen : acc.size < sizeLine := by
        have q1 := hvals.length
        have q2 := hrep.len
        have q3 : acc.toList.length = acc.size := by simp
        have q4 : zs.length = ds.length + (ys.length + 1) := by rw [ez, List.length_append, List.length_cons]
        omega
      show wpAny _ A.in1 (updateSeq S (·.push v) >>= _) _ _ _
      refine wpAny_bind ?_
      refine wpAny_updateSeq e1 rfl (wpAny_pure ⟨plainId_quiet PySem.F.plain_extend_loop _, ?_⟩) (Nat.le_of_lt hlen) (by show (acc.push v).size ≤ sizeLine + 1; rw [Array.size_push]; omega)
      have keep3 : ∀ b o, b ≠ S → s1.heap.get? b = some o → (s1.heap.update S (Obj.mapSeq (·.push v))).get? b = some o := fun b o hbS e => (Heap.get?_update_other _ _ (Ne.symm hbS)).trans e
      obtain ⟨c', ec'⟩ : ∃ c', (s1.heap.update S (Obj.mapSeq (·.push v))).get? S = some (lstObj (acc.push v) c') := ⟨_, Heap.get?_update_self _ e1 rfl⟩
      refine ih (ds ++ [d]) { s1 with heap := s1.heap.update S (Obj.mapSeq (·.push v)) } H1 (xs ++ [x]) (acc.push v) c' gs' gp' hv' φ' (by rw [ez, List.append_assoc] <;> rfl) (I1.turned (it := S) (t' := s1.toks) keep3 e2 SneL (.inr S0) Sc Sp) (R.growC r.cel g1 nF nS) (grp_transC gr g1 n0) ec' e2 e3 ?_ ?_ ?_
      · rw [Array.toList_push]
        exact hvals.append (.cons rv .nil)
      · exact RepsA.append (.cons rd .nil) ((reps_dn r.cel hrep).ext (grp_dn g1) (fun _ z => z.elim) fun b z => .inl z)
      · exact r1.keep ⟨keep3 a go (Ne.symm hSa) r1.obj, r1.ho⟩ (fun p hp => ⟨keep3 _ _ (Ne.symm (e3 p hp)) (r1.own p hp).1, (r1.own p hp).2.1⟩) r1.hvr r1.gsa r1.cel
    · cases hys
    · cases hys
def kLG (b : Bool) (K : PySem.W.Frag) (fin : Option Exn) (ys : List D) (R : Prop) (RX : Exn → Prop) : Prop := ys.length ≤ 1000000 ∧ match fin with | none => R | some x => b = true ∧ PySem.W.subIn K (.ref x.C) (.type "StopIteration") = some false ∧ RX x
def qListG {W : Wrl} (b : Bool) (K : PySem.W.Frag) (qg : QTGen W) : QT W := fun ω ρ Q E => qg ω ρ (fun ω1 ys fin => kLG b K fin ys (Q ω1 (.lst ys)) (E ω1)) E
theorem qe_listG {X : Cx} {W : Wrl} {Wo : WX} {e : Expr} {p pos : Pos} {k : Nat} {qg : QTGen W} (b : Bool) (tk : b = true → L2N.Takes X Wo) (hgen : QGen X k W Wo e qg) (hr : Room (k + 3) X.A) (hg : Gl X "list") (hmg : X.mg "list" = none)
    (he : starEach [e] X.env = (false, eval e X.env) :: starEach [] X.env := by rfl) : QE X .F W Wo (.Call (.Name "list" p) [e] [] pos) (qListG b X.K qg) := by
  refine ⟨fun pins s0 σ H0 Q I0 ⟨F, T0, ω0, ρ, Qp, Ep, R0, hq, hx, kk⟩ => ?_⟩
  refine wpAny_Call_Name_kw (ld_blt I0 hg hmg (by decide +kernel : bootBuiltins "list" = some (.type "list")) ?_ (by decide) (by decide))
  refine PyProof.Rows.callWith_type1 ?_ he rfl
  rw [he]
  show wpAny _ _ (spliced ((false, eval e X.env) :: backTo pos (starEach [] X.env))) _ _ s0
  refine Calls.spliced_cons (thn (hgen.run pins s0 σ H0 F T0 ω0 ρ _ Ep I0 R0 hq hx) fun u s ⟨H1, sc, T, ω, ys, fin, I1, R1, e1, made, hys, hQ⟩ => ?_)
  have hns : ∀ x, fin = some x → PySem.W.subIn X.K (.ref x.C) (.type "StopIteration") = some false := fun x hfin => by
    rw [hfin] at hQ
    exact hQ.2.1
  refine Calls.spliced_nil ?_
  obtain ⟨a, g, go, gp, hv, cs, φ, gs, rfl, I, ol, hgo, hLa, hgp, hcs, rdy⟩ := made_rdy (A := X.A.in1.in1.in1) ⟨hr.hd, by have := hr.dp; show X.A.depth + 3 * k + 5 < _; omega, by have := hr.un; show X.A.units + 1 + 1 + 1 + 16 * k + 200 < _; omega⟩ I1.ok.frames I1 R1 made
  have hg' : s.heap.IsGen a g := hgo.is rdy.obj
  have hl := I.nolimit
  have hSa : s.heap.objs.size ≠ a := Nat.ne_of_gt (Heap.lt_size rdy.obj)
  refine callType_codes (Q₁ := fun obj s₁ => obj = .ref s.heap.objs.size ∧ s₁ = { s with heap := s.heap.push { cls := .type "list", data := .seq #[] } }) PySem.F.called_list (PySem.F.typeCall_list_1 _) PySem.F.entry_list_init
    (code_list_new _ ⟨rfl, rfl⟩) fun obj s₁ h₁ => ?_
  obtain ⟨rfl, rfl⟩ := h₁
  have hS : (s.heap.push { cls := .type "list", data := .seq #[] }).get? s.heap.objs.size = some { cls := .type "list", data := .seq #[] } := Heap.get?_push_size _ rfl
  refine ⟨⟨_, hS, rfl⟩, PySem.F.args_list_init_2 _ _, ?_⟩
  show wpAny _ X.A.in1.in1 (do let old ← Builtin.List.listItems (.ref s.heap.objs.size); Builtin.List.listUpdate (.ref s.heap.objs.size) (fun _ => #[]); letGo old.toList.reverse; Builtin.List.listExtendWith (.ref s.heap.objs.size) (.ref a) .none) _ _ _
  refine wpAny_bind ?_
  unfold Builtin.List.listItems
  refine wpAny_bind (wpAny_seqItems hS rfl (wpAny_pure ?_))
  show wpAny _ X.A.in1.in1 (updateSeq s.heap.objs.size (fun _ => #[]) >>= fun _ => letGo (#[] : Array Value).toList.reverse >>= fun _ => Builtin.List.listExtendWith (.ref s.heap.objs.size) (.ref a) .none) _ _ _
  refine wpAny_bind (wpAny_updateSeq hS rfl ?_)
  have hS2 := Heap.get?_update_self (Obj.mapSeq (fun _ => (#[] : Array Value))) hS rfl
  refine wpAny_bind (wpAny_letGo ?_)
  unfold Builtin.List.listExtendWith
  have up : ∀ (h : Heap) (f : Obj → Obj), (∀ b o, s.heap.get? b = some o → h.get? b = some o) → ∀ b o, s.heap.get? b = some o → (h.update s.heap.objs.size f).get? b = some o := fun h f q b o e =>
    (Heap.get?_update_other _ _ (Ne.symm (Nat.ne_of_lt (Heap.lt_size e)))).trans (q b o e)
  have k1 : ∀ b o, s.heap.get? b = some o → (s.heap.push { cls := .type "list", data := .seq #[] }).get? b = some o := fun b o e => Heap.get?_push_of_some _ e
  have k2 := up _ (Obj.mapSeq (fun _ => (#[] : Array Value))) k1
  have gty : ∀ {h : Heap}, (∀ b o, s.heap.get? b = some o → h.get? b = some o) → h.IsGen a g := fun {h} q => hg'.keeps q
  refine wpAny_bind (wpAny_typeOf (Heap.IsGen.typeIs (s := { s with heap := _ }) (gty k2)) ?_)
  have h1 : Builtin.List.listSameRef (.ref s.heap.objs.size) (.ref a) = false := by simp [Builtin.List.listSameRef, hSa]
  have h2 : (Value.type "generator" == Value.type "list") = false := by decide
  have h3 : (Value.type "generator" == Value.type "tuple") = false := by decide
  simp only [h1, h2, h3, Bool.or_false, Bool.false_eq_true, if_false]
  refine wpAny_bind (wpAny_pyIter_gen (s := { s with heap := _ }) (gty k2) ?_)
  refine wpAny_bind (wpAny_holding ?_)
  unfold Builtin.List.listLengthHint
  refine wpAny_bind (wpAny_specialOf (Heap.IsGen.typeIs (s := { s with heap := _ }) (gty k2)) PySem.F.gen_no_len ?_)
  show wpAny _ X.A.in1.in1 (specialOf (Value.ref a) (Str.ofString "__length_hint__") >>= _) _ _ _
  refine wpAny_bind (wpAny_specialOf (Heap.IsGen.typeIs (s := { s with heap := _ }) (gty k2)) PySem.F.gen_no_hint ?_)
  refine wpAny_pure ?_
  show wpAny _ X.A.in1.in1 (rule "list.extend.makes-room" >>= fun _ => Builtin.List.listTouch (.ref s.heap.objs.size) >>= fun _ =>
    again (.builtin "list.extend.loop" ⟨[.ref s.heap.objs.size, .ref a, .none], []⟩)) _ _ _
  refine wpAny_bind (wpAny_rule ?_)
  refine wpAny_bind ?_
  show wpAny _ X.A.in1.in1 (updateSeq s.heap.objs.size (·.push .none) >>= fun _ => updateSeq s.heap.objs.size (·.pop)) _ _ _
  refine wpAny_bind (wpAny_updateSeq hS2 rfl ?_)
  have hS3 := Heap.get?_update_self (Obj.mapSeq (·.push Value.none)) hS2 rfl
  refine wpAny_updateSeq (hz := by seq_fits) hS3 rfl ?_
  have hS4 := Heap.get?_update_self (Obj.mapSeq (·.pop)) hS3 rfl
  have k4 := up _ (Obj.mapSeq (·.pop)) (up _ (Obj.mapSeq (·.push Value.none)) k2)
  refine wpAny_pure ⟨plainId_quiet PySem.F.plain_extend_loop _, ?_⟩
  have hSL : sc.heap.objs.size ≤ s.heap.objs.size := Nat.le_trans hLa (Nat.le_of_lt (Heap.lt_size rdy.obj))
  refine drainZ (H0 := H1) (cs := cs) (fin := fin) hns (fun x e s' hfin hxe => ?_) (fun c m => R1.gr.live c (hcs c m).1) (fun c m => (hcs c m).1) (fun c m z => R1.spl c z (hcs c m).1) (zs := ys) (F := F) (T := T) (ω := ω) (ρ := ρ) (σ := σ) (A := X.A.in1) hr.hd (by have := hr.dp; show X.A.depth < _; omega) ol hgo hLa hSa hSL (fun z => Nat.lt_irrefl _ (Nat.lt_of_lt_of_le (ol.fr _ z) hSL)) (Nat.le_trans hys (by decide))
    (fun s' acc c H' xs hfin I' hn' hS' hvals hrep R' gr => ⟨rfl, ?_⟩) ys [] _ _ [] _ _ gs gp hv φ rfl (I.call' (ch := []) rfl (Un.kept k4) (I.hok.kept k4) I.bare (fun b z => by simp at z)) (R1.grow (grp_upH fun c m => (hcs c m).1)) (grp_upH fun c m => (hcs c m).1) hS4 (I.hok.fresh (Nat.le_refl _)) (fun p hp => Nat.ne_of_gt (hgp p hp).2) .nil .nil
    (rdy.keep ⟨k4 _ _ rdy.obj, rdy.ho⟩ (fun p hp => ⟨k4 _ _ (rdy.own p hp).1, (rdy.own p hp).2.1⟩) rdy.hvr rdy.gsa rdy.cel)
  · rw [hfin] at hQ
    obtain ⟨hb, _, hQ⟩ := hQ
    refine tk hb e s' ?_
    obtain ⟨a', B, sI, pins', σ', H', cls, d, rfl, I', nb, up, sky, na, os, ag, w0, w1, w2⟩ := hxe
    subst w0
    exact ⟨a', B, sI, pins', σ', H', cls, d, rfl, I', nb, up, sky, na, os, ag, hx _ _ x _ _ _ w1 w2 hQ⟩
  rw [hfin] at hQ
  have hlen : xs.length ≤ sizeLine := by rw [hrep.len]; exact Nat.le_trans hys (by decide)
  refine ⟨.ref s.heap.objs.size, upd H' s.heap.objs.size (.lst xs), inv_track I' hn' hS' hvals hlen (Nat.le_trans ol.s0 hSL) (Nat.ne_of_gt (Nat.lt_of_lt_of_le ol.loc hSL)) (fun x c e => Nat.ne_of_lt (Nat.lt_of_lt_of_le (ol.cell x c e) hSL)) (fun p hp => Nat.ne_of_lt (Nat.lt_of_lt_of_le (ol.pin p hp) hSL)), rfl, ?_⟩
  exact kk T ω _ _ _ (R'.grow (GrP.new hn')) (e1.trans (Ext.of0 (gr.trans0 (GrP.new hn')))) (RR.back (m := .F) (fun b z => e1.gr.live b (gr.live b z)) (rf_new R'.spl hn' hrep)) hQ
end LW
namespace LW
open PySem PySem.Spec PyProof.Rows L2 GenW
theorem okG {P : Program} {w : World} {K : PySem.W.Frag} {mg : Str → Option Value} {base : Heap} {x qual : Str} {params : Arguments} {body : List Stmt} {scope : Scope} {dvs : List V} {kws : List (Str × V)} {f : Addr} {fd : FuncData} {N ps : List Str} {k : Nat} {pf : PSpG} {q : QTGn}
    (F : FunD K x qual params body scope dvs kws f fd) (S : GScope N ps scope) (len : ∀ ds ys fin, pf ds ys fin → ds.length = ps.length)
    (hb : ∀ (cdv : Value) (A : Around) (outer : List Env) (L : Nat) (fin : Option Exn), Room k (A.deeper (envOfC qual scope L f cdv)) → GSs1 (mkZ P w K mg base N qual scope f cdv A outer L fin) body q)
    (hq : ∀ ds ys fin, pf ds ys fin → q { nx := fun ys' _ => ys' = [] ∧ fin = none, rt := fun ys' => ys' = [] ∧ fin = none, ex := fun ys' x => ys' = [] ∧ fin = some x } ys (startP N ds)) : GFnZ P w K mg base (k + 1) f fd ps pf := by
  obtain ⟨oc, od, dV, kV, doc, pm, an, cdv, ct, osl, rfl, lk, hcd, _, _⟩ := F.ex
  exact gfnZ_of lk hcd S len (fun A outer L fin hr => hb cdv A outer L fin hr) hq
theorem qe_listG' {X : Cx} {W : Wrl} {Wo : WX} {e : Expr} {p pos : Pos} {k : Nat} {qg : QTGen W} {K : PySem.W.Frag} (hK : X.K = K) (hgen : QGen X k W Wo e qg) (hr : Room (k + 3) X.A) (hg : Gl X "list") (hmg : X.mg "list" = none)
    (he : starEach [e] X.env = (false, eval e X.env) :: starEach [] X.env := by rfl) : QE X .F W Wo (.Call (.Name "list" p) [e] [] pos) (qListG false K qg) := by
  subst hK
  exact qe_listG false (fun z => by cases z) hgen hr hg hmg he
theorem qe_listGX {X : Cx} {W : Wrl} {Wo : WX} {e : Expr} {p pos : Pos} {k : Nat} {qg : QTGen W} {K : PySem.W.Frag} (hK : X.K = K) (tk : L2N.Takes X Wo) (hgen : QGen X k W Wo e qg) (hr : Room (k + 3) X.A) (hg : Gl X "list") (hmg : X.mg "list" = none)
    (he : starEach [e] X.env = (false, eval e X.env) :: starEach [] X.env := by rfl) : QE X .F W Wo (.Call (.Name "list" p) [e] [] pos) (qListG true K qg) := by
  subst hK
  exact qe_listG true (fun _ => tk) hgen hr hg hmg he
def iAny {W : Wrl} (qa : QT W) : QTI W := fun ω ρ Q E => qa ω ρ (fun ω1 d => ∃ ds, (d = .lst ds ∨ d = .tup ds) ∧ Q ω1 ds) E
section
variable {W : Wrl} {P : PEn W} {ω : W.Ω} {ρ : List Sl} {Q : W.Ω → D → Prop} {E : W.Ω → Exn → Prop} {QL : W.Ω → List D → Prop} {qa qo : QT W} {qs : QTA W} {s : QTS W} {d : D} {ds ys : List D} {g : QTG} {pf : PSpG} {C : Addr} {m : Str} {qg : QTGen W} {K : PySem.W.Frag} {fin : Option Exn} {QG : W.Ω → List D → Option Exn → Prop}
theorem v_iAny (h : qa ω ρ (fun ω1 d => ∃ ds, (d = .lst ds ∨ d = .tup ds) ∧ QL ω1 ds) E) : iAny qa ω ρ QL E := h
theorem v_forG (h : qg ω ρ (fun ω1 ys fin => kForG K g s P ω1 ρ ys fin) fun ω1 x => P.ex ω1 x ρ) : sForG K qg g s P ω ρ := h
theorem v_gmeth (h : qo ω ρ (fun ω1 d => kIns C m d (qs ω1 ρ (fun ω2 es => ∃ ys fin, pf (d :: es) ys fin ∧ QG ω2 ys fin) E)) E) : qGMeth C m pf qo qs ω ρ QG E := h
theorem v_gcall (h : qs ω ρ (fun ω1 es => ∃ ys fin, pf es ys fin ∧ QG ω1 ys fin) E) : qGCall pf qs ω ρ QG E := h
theorem v_kLG {b : Bool} {R : Prop} {RX : Exn → Prop} (hl : ys.length ≤ 1000000) (h : R) : kLG b K none ys R RX := ⟨hl, h⟩
theorem v_kLGX {x : Exn} {R : Prop} {RX : Exn → Prop} (hl : ys.length ≤ 1000000) (hn : PySem.W.subIn K (.ref x.C) (.type "StopIteration") = some false) (h : RX x) : kLG true K (some x) ys R RX := ⟨hl, rfl, hn, h⟩
theorem v_listG {b : Bool} (h : qg ω ρ (fun ω1 ys fin => kLG b K fin ys (Q ω1 (.lst ys)) (E ω1)) E) : qListG b K qg ω ρ Q E := h
end
section
variable {P : PGn} {ρ : List Sl} {ys ds : List D} {q u : QTGn} {s : QTS W0} {qa : QT W0} {qi : QTI W0} {g : QTG} {d : D}
theorem v_gSeq (h : q { P with nx := u P } ys ρ) : gSeq q u P ys ρ := h
theorem v_gPl (h : s { nx := fun _ ρ => P.nx ys ρ, rt := fun _ d => d = .non ∧ P.rt ys, bk := fun _ ρ => P.bk ys ρ, ct := fun _ ρ => P.ct ys ρ, ex := fun _ x _ => P.ex ys x } () ρ) : gPl s P ys ρ := h
def kYd (P : PGn) (ys : List D) (ρ : List Sl) (d : D) : Prop := ∃ ys', ys = d :: ys' ∧ P.nx ys' ρ
theorem v_kYd (h : P.nx ys ρ) : kYd P (d :: ys) ρ d := ⟨ys, rfl, h⟩
theorem v_gYield (hv : allVa ρ = true) (h : qa () ρ (fun _ d => kYd P ys ρ d) fun _ x => P.ex ys x) : gYield qa P ys ρ := ⟨hv, h⟩
def kGFor (g : QTG) (q : QTGn) (P : PGn) (ys : List D) (ρ : List Sl) (ds : List D) : Prop := ∃ I : Nat → List D → List Sl → Prop, I 0 ys ρ ∧ (∀ k d ys ρ, ds[k]? = some d → I k ys ρ → g d ρ fun ρ' => q { P with nx := I (k + 1), ct := I (k + 1), bk := P.nx } ys ρ') ∧ ∀ ys ρ, I ds.length ys ρ → P.nx ys ρ
theorem v_kGFor (I : Nat → List D → List Sl → Prop) (h0 : I 0 ys ρ) (hs : ∀ k d ys ρ, ds[k]? = some d → I k ys ρ → g d ρ fun ρ' => q { P with nx := I (k + 1), ct := I (k + 1), bk := P.nx } ys ρ') (hd : ∀ ys ρ, I ds.length ys ρ → P.nx ys ρ) : kGFor g q P ys ρ ds := ⟨I, h0, hs, hd⟩
theorem v_gFor (h : qi () ρ (fun _ ds => kGFor g q P ys ρ ds) fun _ x => P.ex ys x) : gFor qi g q P ys ρ := h
end
end LW
namespace LW
open PySem PySem.Spec PyProof.Rows L2 GenW
def noCap (scope : Scope) : Bool := scope.names.all fun y => match y.2 with | .cell => false | .free => false | _ => true
theorem noCap_at {scope : Scope} (h : noCap scope = true) {y : Str × NameKind} (hy : y ∈ scope.names) : y.2 ≠ .cell ∧ y.2 ≠ .free := by
  have := List.all_eq_true.mp h y hy
  revert this
  cases y.2 <;> simp
theorem cloF_none (cells : List (Str × Addr)) : ∀ (names : List (Str × NameKind)) (acc : List (Str × Addr)), (∀ y ∈ names, y.2 ≠ .free) → cloFrom cells names acc = acc
  | [], _, _ => rfl
  | (n, k) :: r, acc, h => by
    unfold cloFrom
    have hk : k ≠ .free := h (n, k) List.mem_cons_self
    rw [if_neg (by simpa using hk)]
    exact cloF_none cells r acc fun y hy => h y (List.mem_cons_of_mem _ hy)
theorem cellsF_none : ∀ (names : List (Str × NameKind)) (n : Nat) (acc : List (Str × Addr)), (∀ y ∈ names, y.2 ≠ .cell) → cellsFrom n names acc = acc
  | [], _, _, _ => rfl
  | (x, k) :: r, n, acc, h => by
    unfold cellsFrom
    have hk : k ≠ .cell := h (x, k) List.mem_cons_self
    rw [if_neg (by simpa using hk)]
    exact cellsF_none r n acc fun y hy => h y (List.mem_cons_of_mem _ hy)
theorem pushF_none : ∀ (names : List (Str × NameKind)) (h : Heap), (∀ y ∈ names, y.2 ≠ .cell) → pushCells h names = h
  | [], _, _ => rfl
  | (x, k) :: r, hp, h => by
    unfold pushCells
    have hk : k ≠ .cell := h (x, k) List.mem_cons_self
    rw [if_neg (by simpa using hk)]
    exact pushF_none r hp fun y hy => h y (List.mem_cons_of_mem _ hy)
theorem block_at {X : Cx} {pins ps : List (Addr × Obj)} {σ : L2.St} {H : Hp} {s : Shared} {scope : Scope} {own : List (Str × Nat)} {C : Addr} {m : Str → Option Value} (I : Inv X pins σ H s) (ok : BlkOk X.N X.env.scope scope own) (hN : X.N.Nodup) (hnc : noCap scope = true)
    (ol : Old X pins C) (hC : s.heap.Ns C m) (hn : H C = none) (hp : ∀ p ∈ ps, s.heap.get? p.1 = some p.2 ∧ H p.1 = none ∧ p.1 ≠ C ∧ p.1 ∉ frs X.stack ∧ ∀ v, p.2.data ≠ .cell v) :
    Inv (X.blk (cutS s C) H scope (compEnvC scope [] C X.env) []) ps (wipe σ (own.map (·.2))) H s := by
  have szC : (cutS s C).heap.objs.size = C := cutS_size (Nat.le_of_lt hC.lt)
  have noc : ∀ {y : Str} {c : Addr}, (compEnvC scope [] C X.env).cells.lookup y = some c → False := fun {y c} e => by
    have e : ([] : List (Str × Addr)).lookup y = some c := e
    simp at e
  have kin : ∀ {y : Str} {k : NameKind}, (relS scope X.env.scope).names.lookup y = some k → ∃ k', scope.names.lookup y = some k' ∧ k = k' ∧ k' ≠ .cell ∧ k' ≠ .free := fun {y k} hk => by
    obtain ⟨k', e, r⟩ := lookup_relS hk
    obtain ⟨n1, n2⟩ := noCap_at hnc (PySem.mem_of_lookup e)
    rcases r with r | ⟨r, _⟩
    · exact ⟨k', e, r, n1, n2⟩
    · exact absurd r n2
  have okB : (X.blk (cutS s C) H scope (compEnvC scope [] C X.env) []).Ok := by
    refine ⟨I.ok.mod, ok.kind, I.ok.glob, I.ok.blt, Nat.le_of_eq szC, fun y z c e1 e2 => (noc e1).elim, fun y hy => ?_, fun y c z e => (noc e).elim, I.ok.hd, I.ok.frames, .inl rfl, fun b hb => absurd hb (by simp), fun b o e => ?_, ?_, fun b o e hb => absurd hb (by simp), fun b hb => absurd hb (by simp), funFrames_cut ol.fr I.stack, I.stkFree⟩
    · rcases hy with hy | hy
      · obtain ⟨k', _, e, n1, _⟩ := kin (show (relS scope X.env.scope).names.lookup y = some .cell from hy)
        exact absurd e.symm n1
      · obtain ⟨k', _, e, _, n2⟩ := kin (show (relS scope X.env.scope).names.lookup y = some .free from hy)
        exact absurd e.symm n2
    · obtain ⟨e1, e2⟩ := I.bs b o e
      have hb : b < C := Nat.lt_of_lt_of_le (Heap.lt_size e) (Nat.le_trans I.ok.bsz ol.s0)
      exact ⟨by rw [cutS_get hb]; exact e1, e2⟩
    · show X.base.objs.size ≤ (cutS s C).heap.objs.size
      rw [szC]
      exact Nat.le_trans I.ok.bsz ol.s0
  refine ⟨okB, rfl, I.bare, Un.kept fun b o e => (cutS_of e).2, ⟨m, hC, fun i y av e1 e2 e3 => ?_⟩, fun y c e => (noc e).elim, hn, fun y c e => (noc e).elim, fun p hp' => ?_, I.hok, by rw [wipe_length]; exact I.len⟩
  · exfalso
    obtain ⟨e2, hne⟩ := wipe_some e2
    have key : ∀ k, (relS scope X.env.scope).names.lookup y = some k → k = .local ∨ k = .cell ∨ k = .free → False := fun k hk hk' => by
      obtain ⟨k', e, r, n1, n2⟩ := kin hk
      subst r
      have hl : k = .local := by
        rcases hk' with z | z | z
        · exact z
        · exact absurd z n1
        · exact absurd z n2
      rcases ok.own _ (PySem.mem_of_lookup e) (.inl hl) with e' | e'
      · obtain ⟨p, hp, hpy⟩ := List.mem_map.mp e'
        have e3 := ok.ix p hp
        have : p.1 = y := hpy
        rw [this] at e3
        exact hne (List.mem_map.mpr ⟨p, hp, nodup_ix hN e3 e1⟩)
      · exact e' (List.mem_of_getElem? e1)
    have e3 : Vis (relS scope X.env.scope) y := e3
    rcases e3 with e3 | e3 | e3
    · exact key _ e3 (.inl rfl)
    · exact key _ e3 (.inr (.inl rfl))
    · exact key _ e3 (.inr (.inr rfl))
  · have hp' : p ∈ ([] : List (Addr × Obj)) ++ ps := hp'
    rw [List.nil_append] at hp'
    exact hp p hp'
def qLcG {W : Wrl} (qg : QTGen W) (g : QTG) (qe : QT W) (vs : List Nat) : QT W := fun ω ρ Q E => qg ω ρ (fun ω1 ys fin => fin = none ∧ kLcQ g qYes qe vs ρ Q ω1 ys) E
theorem qe_lcG {X : Cx} {W : Wrl} {Wo : WX} {tg iter elt : Expr} {scope : Scope} {own : List (Str × Nat)} {pos : Pos} {k : Nat} {ts : List Nat} {qg : QTGen W} {g : QTG} {qe : QT W} (hc : X.calm = true) (hN : X.N.Nodup) (hk : Room (k + 1) X.A) (hgen : QGen X k W Wo iter qg)
    (ok : BlkOk X.N X.env.scope scope own) (hnc : noCap scope = true)
    (hg : ∀ (s : Shared) (H : Hp) (C : Addr) (cl : List (Str × Addr)) (fp : List Addr), QG (X.blk s H scope (compEnvC scope cl C X.env) fp) .A W tg ts g)
    (he : ∀ (s : Shared) (H : Hp) (C : Addr) (cl : List (Str × Addr)) (fp : List Addr), QE (X.blk s H scope (compEnvC scope cl C X.env) fp) .A W Wo0 elt qe) (hts : ∀ j, j ∈ ts → j ∈ own.map (·.2) := by decide) (hs : ∀ x, foldedSetIterable iter X.env x = pure x := by intro _; rfl) :
    QE X .F W Wo (.ListComp elt [⟨tg, iter, [], 0⟩] scope pos) (qLcG qg g qe (own.map (·.2))) := by
  refine ⟨fun pins s0 σ H0 Q I0 ⟨F, T0, ω0, ρ, Qp, Ep, R0, hq, hx, kk⟩ => ?_⟩
  have nof : ∀ y ∈ scope.names, y.2 ≠ .free := fun y hy => (noCap_at hnc hy).2
  have noc : ∀ y ∈ scope.names, y.2 ≠ .cell := fun y hy => (noCap_at hnc hy).1
  have hclo : closureFor scope X.env = pure [] := by
    rw [closure_ok fun y hy e => absurd e (nof y hy), cloF_none _ _ _ nof]
  rw [eval_ListComp]
  refine wpAny_comprehension_free (use := none) rfl hs hclo ok.kind (fun y hy e => by rw [ok.uniq y hy, e]) (thn (hgen.run pins s0 σ H0 F T0 ω0 ρ _ Ep I0 R0 hq hx) fun u s1 h1 => ?_)
  obtain ⟨H1, sc, T1, ω1, ys, fin, I1, R1, e1, made, hfin, hst, hys, Iv, iv0, ivs, ivd⟩ := h1
  subst hfin
  have hcal := I1.ok.hd hc
  obtain ⟨a, g', go, gp, hv, cs, φ, gs, rfl, I1', ol, hgo, hLa, hgp, hcs, rdy⟩ := made_rdy (A := X.A.in1) ⟨hk.hd, by have := hk.dp; show X.A.depth + 3 * k + 5 < _; omega, by have := hk.un; show X.A.units + 1 + 16 * k + 200 < _; omega⟩ I1.ok.frames I1 R1 made
  refine wpAny_pyIter_gen (hgo.is rdy.obj) ?_
  refine wpAny_newObj_type (newEnv_comp ?_) (by show 0 ≤ sizeLine; decide)
  generalize hB : s1.heap.objs.size = B
  have gU : GrP nop H1 (upH cs φ H1) := grp_upH fun c m => (hcs c m).1
  have R1u := R1.grow gU
  have hBu : upH cs φ H1 B = none := I1'.hok.fresh (Nat.le_of_eq hB)
  have hBn : H1 B = none := gU.live B hBu
  have BC : B ∉ cs := fun m => by rw [upH_in m] at hBu; cases hBu
  have nFB : ∀ c ∈ cs, (F.grd B).H c = none := fun c m => R1.gr.live c (hcs c m).1
  have nFSB : ∀ c ∈ cs, ¬ (F.grd B).S c := fun c m z => by
    rcases z with z | z
    · exact (R1.s0 c z).1 (hcs c m).1
    · rw [z] at m; exact BC m
  have extC : ∀ {T : ASet} {H H' : Hp}, Ext T1 H1 T H → GrP (onC cs) H H' → Ext T1 H1 T H' := fun {T H H'} e g => ⟨⟨fun a o x q => by
    have m : a ∉ cs := fun m => by rw [(hcs a m).1] at x; cases x
    exact g.keep a o (e.gr.keep a o x q) (.inr m), fun a x => e.gr.live a (g.live a x)⟩, e.tn⟩
  generalize hs3 : ({ s1 with heap := s1.heap.push { cls := .type "list", data := .seq ([] : List Value).toArray } } : Shared) = s3
  have k3 : ∀ b o, s1.heap.get? b = some o → s3.heap.get? b = some o := fun b o e => by rw [← hs3]; exact Heap.get?_push_of_some _ e
  have I3 : Inv X pins σ (upd (upH cs φ H1) B (.lst [])) s3 := by
    rw [← hs3]
    refine I1'.laid (t' := s1.toks) (fun b o e => Heap.get?_push_of_some _ e) (Nat.le_of_eq hB) ⟨Nat.zero_le _, [], 0, .nil, ?_⟩
    rw [← hB]
    exact Heap.get?_push_size _ rfl
  have sz3 : s3.heap.objs.size = B + 1 := by rw [← hs3, ← hB]; exact Heap.size_push ..
  show codeAny _ _ (.compStart (.ListComp elt [⟨tg, iter, [], 0⟩] scope pos) 0 (.ref a) (.ref B) (compEnvC scope (cellsFrom (s3.heap.objs.size + 1) scope.names []) s3.heap.objs.size X.env)) (compPost (model X.prog X.w) X.A X.xe none (EP X pins σ Q) (.ref B) s3.heap.objs.size) { s3 with heap := pushCells (s3.heap.push { cls := .type "dict", data := .dict #[] }) scope.names }
  rw [cellsF_none _ _ _ noc, pushF_none _ _ noc]
  generalize hC : s3.heap.objs.size = C
  have olC : Old X pins C := by rw [← hC]; exact inv_old I3
  generalize hH3 : upd (upH cs φ H1) B (.lst []) = H3 at I3
  generalize hs4 : ({ s3 with heap := s3.heap.push { cls := .type "dict", data := .dict #[] } } : Shared) = s4
  have k4 : ∀ b o, s3.heap.get? b = some o → s4.heap.get? b = some o := fun b o e => by rw [← hs4]; exact Heap.get?_push_of_some _ e
  have I4 : Inv X pins σ H3 s4 := I3.call' (ch := []) (by rw [← hs4]) (Un.kept k4) (I3.hok.kept k4) (by rw [← hs4]; exact I3.bare) (fun b z => by simp at z)
  have gC : s4.heap.get? C = some { cls := .type "dict", data := .dict #[] } := by rw [← hs4, ← hC]; exact Heap.get?_push_size _ rfl
  have nsC : s4.heap.Ns C fun _ => none := by rw [← hs4, ← hC]; exact Heap.Ns.new ..
  have H3C : H3 C = none := I3.hok.fresh (Nat.le_of_eq hC)
  have CB : C ≠ B := by rw [← hC, sz3]; exact Nat.succ_ne_self _
  have Cfr : C ∉ frs X.stack := fun z => Nat.lt_irrefl _ (olC.fr _ z)
  have gBu : GrP nop (upH cs φ H1) H3 := by rw [← hH3]; exact GrP.new hBu
  have gB : GrP nop H1 H3 := gU.trans0 gBu
  have eB : Ext T1 H1 T1 H3 := Ext.of0 gB
  have ee : ∀ {T : ASet} {ρ : List Sl}, ∀ b, Spr (F.grd B) T ρ b → Spr F T ρ b ∨ upH cs φ H1 b = none := fun b z => (Spr.grd b z).imp id fun z => by rw [z]; exact hBu
  have R3 : Rel X.K W (F.grd B) T1 ω1 ρ σ H3 := by rw [← hH3]; exact R1u.guard hBu (.lst [])
  have F1B : F.H B = none := R1.gr.live B hBn
  have aB : a ≠ B := by rw [← hB]; exact Nat.ne_of_lt (Heap.lt_size rdy.obj)
  have gpB : ∀ p ∈ gp, p.1 ≠ B := fun p hp => by rw [← hB]; exact Nat.ne_of_lt (hgp p hp).2
  have rdy4 : Rdy X.prog X.w X.K X.base X.A.in1 X.stack sc.heap.objs.size none a g' go (Spr (F.grd B) T1 ρ) ys gp hv cs φ gs H3 s4 :=
    rdy.keep ⟨k4 _ _ (k3 _ _ rdy.obj), by rw [← hH3, upd_ne aB]; exact rdy.ho⟩ (fun p hp => ⟨k4 _ _ (k3 _ _ (rdy.own p hp).1), by rw [← hH3, upd_ne (gpB p hp)]; exact (rdy.own p hp).2.1⟩) (fun p hp => (rdy.hvr p hp).ext gBu (fun _ z => z.elim) ee) (by rw [← hs4, ← hs3]; exact rdy.gsa) (fun c m => gBu.keep c _ (rdy.cel c m) (.inr fun z => z))
  have hBi : H3 B = some (.lst []) := by rw [← hH3]; exact upd_same
  have gpC : ∀ p ∈ gp, C ≠ p.1 := fun p hp => by
    have h1 : p.1 < B := hB ▸ (hgp p hp).2
    rw [← hC, sz3]
    intro z
    rw [← z] at h1
    exact Nat.lt_irrefl _ (Nat.lt_of_succ_lt h1)
  let J : Nat → Shared → Prop := fun n s' => ∃ (j : Nat) (T : ASet) (ω : W.Ω) (acc : List LW.D) (xs : List V) (H : Hp) (gs : GenState) (gp : List (Addr × Obj)) (hv : List (LW.D × V)) (φ : CFn) (oC : Obj) (m : Str → Option Value), j + n = ys.length ∧ Inv X pins σ H s' ∧ Rel X.K W (F.grd B) T ω ρ σ H ∧ Ext T1 H1 T H ∧
    H B = some (.lst xs) ∧ RepsA X.K H (Spr (F.grd B) T ρ) acc xs ∧ acc.length ≤ j ∧ Iv j ω acc ∧ s'.heap.get? C = some oC ∧ (∀ v, oC.data ≠ .cell v) ∧ s'.heap.Ns C m ∧ H C = none ∧ (∀ p ∈ gp, C ≠ p.1) ∧ (∀ c ∈ cs, ¬ Spr (F.grd B) T ρ c) ∧ Rdy X.prog X.w X.K X.base X.A.in1 X.stack sc.heap.objs.size none a g' go (Spr (F.grd B) T ρ) (ys.drop j) gp hv cs φ gs H s'
  have loop : codeAny (model X.prog X.w) X.A (.compLoop (.ListComp elt [⟨tg, iter, [], 0⟩] scope pos) 0 (.ref a) (.ref B) (compEnvC scope [] C X.env)) (compPost (model X.prog X.w) X.A X.xe none (EP X pins σ Q) (.ref B) C) s4 := by
    refine compLoop_any J ?_ ys.length ⟨0, T1, ω1, [], [], H3, gs, gp, hv, φ, _, _, Nat.zero_add _, I4, R3, eB, hBi, .nil, Nat.le_refl _, iv0, gC, (fun v z => by cases z), nsC, H3C, gpC, (fun c m z => (ee c z).elim (fun z => R1.spl c z (hcs c m).1) fun z => by rw [upH_in m] at z; cases z), rdy4⟩
    rintro n s5 ⟨j, T, ω, acc, xs, H5, gs, gp, hv, φ, oC, m, hjn, I5, R5, e5, hB5, ra5, hl5, iv5, gC5, dC5, ns5, nC5, gpC5, nS5, r5⟩
    refine next_gz (xp := [(C, oC)]) (fun p hp => ?_) hcal (by have := hk.dp; show X.A.depth < _; omega) I5 R5 ol hgo hLa r5 nS5 (fun x hx => by cases hx) (fun d ys' v x s6 H6 gp' hv' φ' gs' hyd hxp I6 g6 rv rd hsus r6 => ?_) (fun s6 H6 hyn _ hxp I6 g6 => ?_) fun x e s6 _ hx _ => by cases hx
    · rw [List.mem_singleton.mp hp]
      exact ⟨gC5, nC5, Cfr, dC5, gpC5⟩
    · have hjl : j < ys.length := by
        rcases Nat.lt_or_ge j ys.length with z | z
        · exact z
        · rw [List.drop_of_length_le z] at hyd; cases hyd
      have hd : ys[j]? = some d := by
        have := congrArg List.head? hyd
        rw [List.head?_drop] at this
        exact this
      have hys' : ys.drop (j + 1) = ys' := by rw [← List.tail_drop, hyd] <;> rfl
      obtain ⟨gC6, nC6, gpC6⟩ := hxp (C, oC) List.mem_cons_self
      obtain ⟨oc', es, ep, hoc, hdc, hrc⟩ := ns5
      have hoc : s5.heap.get? C = some oc' := hoc
      rw [gC5] at hoc
      cases hoc
      have ns6 : s6.heap.Ns C m := ⟨oC, es, ep, gC6, hdc, hrc⟩
      have R6 := R5.growC r5.cel g6 nFB nS5
      have hB6 : H6 B = some (.lst xs) := g6.keep _ _ hB5 (.inr BC)
      have ra6 := (reps_dn r5.cel ra5).ext (grp_dn g6) (fun _ z => z.elim) fun b z => .inl z
      obtain ⟨gnm, gqn, gdat⟩ := hgo.data
      refine go_of r6.obj hgo.cls gdat rfl ?_
      -- the block
      have pinOk : ∀ p ∈ (a, go) :: gp', s6.heap.get? p.1 = some p.2 ∧ H6 p.1 = none ∧ p.1 ≠ C ∧ p.1 ∉ frs X.stack ∧ ∀ v, p.2.data ≠ .cell v := fun p hp => by
        rcases List.mem_cons.mp hp with z | z
        · rw [z]
          refine ⟨r6.obj, r6.ho, ?_, fun z => Nat.lt_irrefl _ (Nat.lt_of_lt_of_le (ol.fr a z) hLa), fun v z => by rw [gdat] at z; cases z⟩
          have h1 : a < B := hB ▸ Heap.lt_size rdy.obj
          rw [← hC, sz3]
          intro z
          rw [show a = B + 1 from z] at h1
          exact Nat.lt_irrefl _ (Nat.lt_of_succ_lt h1)
        · obtain ⟨a1, a2, a3, a4, a5⟩ := r6.own p z
          exact ⟨a1, a2, (gpC6 p z).symm, fun z => Nat.lt_irrefl _ (Nat.lt_of_lt_of_le (ol.fr _ z) a3), a5⟩
      have I6b : Inv (X.blk (cutS s6 C) H6 scope (compEnvC scope [] C X.env) []) ((a, go) :: gp') (wipe σ (own.map (·.2))) H6 s6 := block_at I6 ok hN hnc olC ns6 nC6 pinOk
      have R6h := (R6.trk r6.cel nS5).put r6.hvr
      obtain ⟨hw, Rw, back⟩ := wipeHid (own.map (·.2)) hst R6h
      have pg := hg (cutS s6 C) H6 C [] []
      have pe := he (cutS s6 C) H6 C [] []
      refine wpAny_asleep ?_
      refine thnF (pg.run ((a, go) :: gp') { s6 with gens := s6.gens.map offG } (wipe σ (own.map (·.2))) H6 x v (fun σ7 H7 => H7 = H6 ∧ ∃ ρ7, Rel X.K W ((((F.grd B).trk cs φ').add hv').add hw) T ω ρ7 σ7 H7 ∧ L2.wipe σ7 (own.map (·.2)) = wipe σ (own.map (·.2)) ∧ wipeP ρ7 (own.map (·.2)) = wipeP ρ (own.map (·.2)) ∧ qe ω ρ7 (fun ω3 y => Iv (j + 1) ω3 (acc ++ [y])) (fun _ _ => False)) (inv_gens I6b (bare_off I6b.bare)) rv
        ⟨_, T, ω, _, d, _, Rw, ?_, ivs j d ω acc hd iv5 hl5, fun ρ7 σ7 R7 l7 f7 ⟨w7, q7⟩ => ⟨rfl, ρ7, R7, wipe_same l7 f7 hts, w7, q7⟩⟩) fun _ s7 h7 => ?_
      · exact RepA.less rd fun b z => by
          rcases z with z | z | z
          · exact .inl z
          · exact .inr (.inl z)
          · exact .inr (.inr ((owns_wipe_sub _).subset z))
      obtain ⟨σ7, H7, I7, eH7, ρ7, R7, sw7, w7, q7⟩ := h7
      subst eH7
      intro G7 _ hG7 hB7
      refine wpAny_tests_nil ?_
      show wpAny _ _ _ _ _ _
      have I7' : Inv (X.blk (cutS s6 C) H7 scope (compEnvC scope [] C X.env) []) ((a, go) :: gp') σ7 H7 { s7 with gens := G7 } := inv_gens I7 (hB7 I7.bare)
      refine wpAny_asleep ?_
      refine thnF (pe.run ((a, go) :: gp') { s7 with gens := G7.map offG } σ7 H7 (fun y H8 => ∃ (T8 : ASet) (ω8 : W.Ω) (dy : LW.D), Rel X.K W ((((F.grd B).trk cs φ').add hv').add hw) T8 ω8 ρ7 σ7 H8 ∧ Ext T H7 T8 H8 ∧ RepA X.K H8 (Spr ((((F.grd B).trk cs φ').add hv').add hw) T8 ρ7) dy y ∧ Iv (j + 1) ω8 (acc ++ [dy])) (inv_gens I7 (bare_off (hB7 I7.bare)))
        ⟨_, T, ω, ρ7, _, _, R7, q7, fun _ _ _ _ _ _ _ _ z => z, fun T8 ω8 dy y H8 R8 e8 r8 q8 => ⟨T8, ω8, dy, R8, e8, r8, q8⟩⟩) fun u s8 h8 => ?_
      obtain ⟨y, H8, I8, ry, T8, ω8, dy, R8, e8, r8, iv8⟩ := h8
      intro G8 _ hG8 hB8
      have I8' : Inv (X.blk (cutS s6 C) H7 scope (compEnvC scope [] C X.env) []) ((a, go) :: gp') σ7 H8 { s8 with gens := G8 } := inv_gens I8 (hB8 I8.bare)
      have hB8i : H8 B = some (.lst xs) := e8.gr.keep _ _ hB6 (.inr (R6.s0 B (.inr rfl)).2)
      have hxl : xs.length ≤ 1000000 := by
        have := ra6.len
        omega
      refine wpAny_asleep ?_
      refine app_ok (X := X.blk (cutS s6 C) H7 scope (compEnvC scope [] C X.env) []) (inv_gens I8' (bare_off I8'.bare)) hB8i (Nat.lt_of_le_of_lt hxl (by decide)) ry fun t9 J9 => ?_
      intro G9 _ hG9 hB9
      generalize hs9 : ({ t9 with gens := G9 } : Shared) = s9
      have I9 : Inv (X.blk (cutS s6 C) H7 scope (compEnvC scope [] C X.env) []) ((a, go) :: gp') σ7 (upd H8 B (.lst (xs ++ [y]))) s9 := by rw [← hs9]; exact inv_gens J9 (hB9 J9.bare)
      -- the end of a turn
      have gB8 : GrP (fun b => b = B) H8 (upd H8 B (.lst (xs ++ [y]))) := GrP.wr rfl fun u hu => by rw [hB8i] at hu; cases hu; rfl
      have z8 : Rel X.K W ((((F.grd B).trk cs φ').add hv').add hw) T8 ω8 (wipeP ρ (own.map (·.2))) (L2.wipe σ (own.map (·.2))) H8 := by
        have z := R8.wipe (own.map (·.2))
        rw [w7, sw7] at z
        exact z
      have Rf : Rel X.K W (((F.grd B).trk cs φ').add hv') T8 ω8 ρ σ H8 := (back _ T8 ω8 H8 (fun p hp => List.mem_append_left _ hp) z8).drop
      have Rz := Rf.wrS (o := .lst (xs ++ [y])) (l := B) (.inr rfl) (upH_none F1B BC) (fun u hu => by rw [hB8i] at hu; cases hu; rfl)
      have I9' : Inv X pins σ (upd H8 B (.lst (xs ++ [y]))) s9 := inv_cut I6 olC I9.os I9.base I9.hok I9.bare
      have pk : ∀ p ∈ (a, go) :: gp', s9.heap.get? p.1 = some p.2 ∧ (upd H8 B (.lst (xs ++ [y]))) p.1 = none := fun p hp => by
        obtain ⟨a1, a2, _⟩ := I9.pin p (List.mem_append_right _ hp)
        exact ⟨a1, a2⟩
      have ra8 : RepsA X.K H8 (Spr (F.grd B) T8 ρ) acc xs := R6.ext_reps e8 ra6
      have ry8 : RepA X.K H8 (Spr (F.grd B) T8 ρ) dy y := RepA.less r8 fun b z => by
        rcases z with z | z | z
        · exact .inl z
        · exact .inr (.inl z)
        · refine .inr (.inr ?_)
          rw [← owns_wipe hst, ← w7] at z
          exact (owns_wipe_sub _).subset z
      have nC9 : (upd H8 B (.lst (xs ++ [y]))) C = none := I9.free
      obtain ⟨m9, hn9, _⟩ := I9.loc
      have hn9 : s9.heap.Ns C m9 := hn9
      obtain ⟨o9, es9, ep9, ho9, hd9, hr9⟩ := id hn9
      have gsg : G8[g']? = some gs' := hG8 g' gs' (hG7 g' gs' r6.gsa hsus) hsus
      refine ⟨n - 1, by omega, j + 1, T8, ω8, acc ++ [dy], xs ++ [y], _, gs', gp', hv', φ', o9, m9, by omega, I9', Rz.drop.untrk nFB, ⟨((extC e5 g6).trans e8).gr.trans gB8 fun b z => by rw [z]; exact .inr hBn, ((extC e5 g6).trans e8).tn⟩, upd_same, ?_, by rw [List.length_append]; show acc.length + 1 ≤ j + 1; omega, iv8, ho9, (fun v z => by rw [hd9] at z; cases z), hn9, nC9, gpC6, Rz.drop.trk_spr nFSB, ?_⟩
      · exact (RepsA.append (.cons ry8 .nil) ra8).ext gB8 (fun b z => by rw [z]; exact .inl (.inl (.inr rfl))) fun b z => .inl z
      · rw [hys']
        refine r6.keep (pk _ List.mem_cons_self) (fun p hp => pk p (List.mem_cons_of_mem _ hp)) (fun p hp => Rz.kept hp) ?_ Rz.drop.celd
        rw [← hs9]
        exact hG9 g' gs' gsg hsus
    · have hj : j = ys.length := by
        have := congrArg List.length hyn
        rw [List.length_drop] at this
        have hz : ([] : List LW.D).length = 0 := rfl
        omega
      subst hj
      obtain ⟨gC6, nC6⟩ := hxp (C, oC) List.mem_cons_self
      obtain ⟨oc', es, ep, hoc, hdc, hrc⟩ := ns5
      have hoc : s5.heap.get? C = some oc' := hoc
      rw [gC5] at hoc
      cases hoc
      have R6 := R5.growC r5.cel g6 nFB nS5
      have hB6 : H6 B = some (.lst xs) := g6.keep _ _ hB5 (.inr BC)
      have ra6 := (reps_dn r5.cel ra5).ext (grp_dn g6) (fun _ z => z.elim) fun b z => .inl z
      refine ⟨m, ⟨oC, es, ep, gC6, hdc, hrc⟩, fun h'' sb => ?_⟩
      refine ⟨.ref B, H6, I6.turned (t' := s6.toks) (it := C) (fun b o hb e => (sb.2 b hb).trans e) nC6 (Nat.ne_of_gt olC.loc) (.inr olC.s0) (fun x c e => Nat.ne_of_lt (olC.cell x c e)) (fun p hp => Nat.ne_of_lt (olC.pin p hp)), rfl, ?_⟩
      have e6 : Ext T1 H1 T H6 := extC e5 g6
      refine kk T ω (.lst acc) (.ref B) H6 R6.unguard (e1.trans e6) ⟨B, xs, acc, rfl, rfl, e1.gr.live B hBn, fun z => ?_, hB6, ra6.less fun b z => ?_⟩ (ivd ω acc iv5)
      · rcases z with z | z | z
        · exact (R1.s0 B z).1 hBn
        · exact (R6.s0 B (.inr rfl)).2 z
        · exact R1.spl B (.inr (.inr z)) hBn
      · rcases z with (z | z | z) | z
        · exact .inl (.inl z)
        · exact .inr (.inl z)
        · exact .inr (.inr z)
        · exact .inl (.inr z)
  refine codeAny_compStart_list loop ?_
  exact wpAny_pyIter_gen (hgo.is rdy4.obj) loop
theorem qe_lcG' {X : Cx} {W : Wrl} {Wo : WX} {tg iter elt : Expr} {scope : Scope} {own : List (Str × Nat)} {pos : Pos} {k : Nat} {ts : List Nat} {qg : QTGen W} {g : QTG} {qe : QT W} (hc : X.calm = true) (hN : X.N.Nodup) (hgen : QGen X k W Wo iter qg) (hk : Room (k + 1) X.A)
    (ok : BlkOk X.N X.env.scope scope own) (hnc : noCap scope = true)
    (hg : ∀ (s : Shared) (H : Hp) (C : Addr) (cl : List (Str × Addr)) (fp : List Addr), QG (X.blk s H scope (compEnvC scope cl C X.env) fp) .A W tg ts g)
    (he : ∀ (s : Shared) (H : Hp) (C : Addr) (cl : List (Str × Addr)) (fp : List Addr), QE (X.blk s H scope (compEnvC scope cl C X.env) fp) .A W Wo0 elt qe) (hts : ∀ j, j ∈ ts → j ∈ own.map (·.2) := by decide) (hs : ∀ x, foldedSetIterable iter X.env x = pure x := by intro _; rfl) :
    QE X .F W Wo (.ListComp elt [⟨tg, iter, [], 0⟩] scope pos) (qLcG qg g qe (own.map (·.2))) := qe_lcG hc hN hk hgen ok hnc hg he hts hs
section
variable {W : Wrl} {ω : W.Ω} {ρ : List Sl} {Q : W.Ω → LW.D → Prop} {E : W.Ω → Exn → Prop} {qg : QTGen W} {g : QTG} {qe : QT W} {vs : List Nat} {ys : List LW.D}
def kLcG (g : QTG) (qe : QT W) (vs : List Nat) (ρ : List Sl) (Q : W.Ω → LW.D → Prop) (ω : W.Ω) (ys : List LW.D) (fin : Option Exn) : Prop := fin = none ∧ kLcQ g qYes qe vs ρ Q ω ys
theorem v_lcG (h : qg ω ρ (fun ω1 ys fin => kLcG g qe vs ρ Q ω1 ys fin) E) : qLcG qg g qe vs ω ρ Q E := h
theorem v_kLcG (h : kLcQ g qYes qe vs ρ Q ω ys) : kLcG g qe vs ρ Q ω ys none := ⟨rfl, h⟩
end
end LW
namespace LW
open PySem PySem.Spec PyProof.Rows L2
def sDead {W : Wrl} : QTS W := fun _ _ _ => False
section
variable {X : Cx} {W : Wrl} {Wo : WX} {mr m m1 m2 : Md} {a b e o : Expr} {es : List Expr} {st : Stmt} {sts : List Stmt} {pos p apos : Pos} {qa qb qo : QT W} {qs : QTA W} {C D : Addr} {k : Bool}
theorem qs_dead : QS X mr W Wo st sDead := PS.imp ps_dead fun D σ H ⟨F, T, ω, ρ, P, R, q, S⟩ => q
def qIsO (C : Addr) (k : Bool) (qa : QT W) : QT W := fun ω ρ Q E => qa ω ρ (fun ω1 d => kObj C d (Q ω1 (.bl k))) E
theorem qe_isiO (I : IsiC X.K C) (hk : PySem.W.kitOne X.K (.ref C) (.ref D) = some k) (hg : Gl X "isinstance") (hm : X.mg "isinstance" = none) (ha : QE X m W Wo a qa) (hb : PE X b (tC (.ref D))) (h0 : starEach [a, b] X.env = (false, eval a X.env) :: starEach [b] X.env := by rfl) (h01 : starEach [b] X.env = (false, eval b X.env) :: starEach [] X.env := by rfl) (h2 : (backTo pos (starEach [b] X.env)).any (·.1) = false := by rfl) :
    QE X .A W Wo (.Call (.Name "isinstance" p) [a, b] [] pos) (qIsO C k qa) := PE.imp (pe_callB call_isi hg hm (by decide +kernel) (pa_cons ha (pa_cons hb pa_nil h01) h0) (by decide) (by decide) h0 h2) fun σ H Q ⟨F, T, ω, ρ, Qp, Ep, R, q, hx, kk⟩ =>
  ⟨F, T, ω, ρ, _, Ep, R, q, hx, fun T1 ω1 d v H1 R1 e1 r1 ⟨ns, ds, z, q1⟩ => by
    subst z
    obtain ⟨a, dx, xs, rfl, h1, ra⟩ := r1.c.insR
    exact w_isiO I h1 hk (kk T1 ω1 (.bl k) _ H1 R1 e1 (RepA.bl k) q1)⟩
theorem v_isiO' {ω : W.Ω} {ρ : List Sl} {Q : W.Ω → LW.D → Prop} {E : W.Ω → Exn → Prop} (h : qa ω ρ (fun ω1 d => kObj C d (Q ω1 (.bl k))) E) : qIsO C k qa ω ρ Q E := h
def kIsT (T : String) (d : LW.D) (R : Bool → Prop) : Prop := d.isIns = false ∧ ∃ b, kitB d.tyn T = some b ∧ R b
def qIsT (T : String) (qa : QT W) : QT W := fun ω ρ Q E => qa ω ρ (fun ω1 d => kIsT T d fun b => Q ω1 (.bl b)) E
theorem v_isT {T : String} {ω : W.Ω} {ρ : List Sl} {Q : W.Ω → LW.D → Prop} {E : W.Ω → Exn → Prop} (h : qa ω ρ (fun ω1 d => kIsT T d fun b => Q ω1 (.bl b)) E) : qIsT T qa ω ρ Q E := h
theorem v_kIsT {T : String} {d : LW.D} {R : Bool → Prop} {b : Bool} (h1 : d.isIns = false) (h2 : kitB d.tyn T = some b) (h : R b) : kIsT T d R := ⟨h1, b, h2, h⟩
def qMtT (f : LW.D → List LW.D → (LW.D → Prop) → Prop) (qo : QT W) (qs : QTA W) : QT W := fun ω ρ Q E => qo ω ρ (fun ω1 d => ∃ ds, d = .tup ds ∧ qs ω1 ρ (fun ω2 es => f d es (Q ω2)) E) E
def qMtL (f : LW.D → List LW.D → (LW.D → Prop) → Prop) (qo : QT W) (qs : QTA W) : QT W := fun ω ρ Q E => qo ω ρ (fun ω1 d => ∃ ds, d = .lst ds ∧ qs ω1 ρ (fun ω2 es => f d es (Q ω2)) E) E
theorem v_mtT {f : LW.D → List LW.D → (LW.D → Prop) → Prop} {ω : W.Ω} {ρ : List Sl} {Q : W.Ω → LW.D → Prop} {E : W.Ω → Exn → Prop} (h : qo ω ρ (fun ω1 d => ∃ ds, d = .tup ds ∧ qs ω1 ρ (fun ω2 es => f d es (Q ω2)) E) E) : qMtT f qo qs ω ρ Q E := h
theorem v_mtL {f : LW.D → List LW.D → (LW.D → Prop) → Prop} {ω : W.Ω} {ρ : List Sl} {Q : W.Ω → LW.D → Prop} {E : W.Ω → Exn → Prop} (h : qo ω ρ (fun ω1 d => ∃ ds, d = .lst ds ∧ qs ω1 ρ (fun ω2 es => f d es (Q ω2)) E) E) : qMtL f qo qs ω ρ Q E := h
end
end LW
namespace LW
open PySem PySem.Spec PyProof.Rows L2
end LW
namespace LW
open PySem PySem.Spec PyProof.Rows L2
section
variable {X : Cx} {W : Wrl} {Wo : WX} {m mr : Md} {o e : Expr} {pos pos' : Pos} {i : Nat} {qa : QT W} {P : PEn W} {ω : W.Ω} {ρ : List Sl}
def sRem (i : Nat) (qa : QT W) : QTS W := fun P ω ρ => ∃ l ns, ρ[i]? = some (.ow l (dInts ns)) ∧ qa ω ρ (fun ω1 d => ∃ k : Int, d = .int k ∧ k ∈ ns ∧ P.nx ω1 (ρ.set i (.ow l (dInts (ns.erase k))))) fun ω1 x => P.ex ω1 x ρ
theorem v_rem {l : Addr} {ns : List Int} (h1 : ρ[i]? = some (.ow l (dInts ns))) (h : qa ω ρ (fun ω1 d => ∃ k : Int, d = .int k ∧ k ∈ ns ∧ P.nx ω1 (ρ.set i (.ow l (dInts (ns.erase k))))) fun ω1 x => P.ex ω1 x ρ) : sRem i qa P ω ρ := ⟨l, ns, h1, h⟩
end
end LW
namespace LW
open PySem PySem.Spec PyProof.Rows L2
def rIsX (K : PySem.W.Frag) (a : Addr) (cls : Value) (d : Option Addr) : List V → Hp → VK → Prop := fun xs H Q => ∃ (D C : Addr) (b : Bool), cls = .ref D ∧ (d = none ∨ ∃ dd fs, d = some dd ∧ H dd = some (.xd fs)) ∧ ExcC K D ∧ xs = [.ref a, .ref C] ∧ PySem.W.kitOne K (.ref D) (.ref C) = some b ∧ Q (.bl b) H
theorem cr_isX {X : Cx} {a : Addr} {oe : Obj} {cls : Value} {d : Option Addr} {pn : List (Addr × Obj)} (hz : L2N.Zn cls d oe) (hf : ∃ vs, oe.data = .fields vs) : CallR (X.suite a ((a, oe) :: pn)) (.builtin "isinstance") (rIsX X.K a cls d) := by
  intro pins s σ H xs us Q I r h
  obtain ⟨D, C, b, e1, hd, hC, e3, hk, q⟩ := h
  subst e1 e3
  cases r with
  | cons rx rr =>
    cases rr with
    | cons rt rr =>
      cases rr
      obtain rfl : _ = Value.ref a := rx
      obtain rfl : _ = Value.ref C := rt
      obtain ⟨hget, _⟩ := I.pin (a, oe) (List.mem_append.mpr (.inl List.mem_cons_self))
      obtain ⟨vs, hv⟩ := hf
      have J : ∃ od, PySem.W.InstAt s.heap a oe D od := by
        have nc : PySem.W.notCls oe := by unfold PySem.W.notCls; rw [hv] <;> rfl
        rcases hd with hd | ⟨dd, fs, hd, hh⟩
        · subst hd
          exact ⟨none, hget, hz.1, nc, by rw [hz.2.1]; trivial⟩
        · subst hd
          obtain ⟨mA, hns, _⟩ := (I.hok dd _ hh : ObjOk X.prog X.w H s.heap dd (.xd fs))
          obtain ⟨od, ho, _⟩ := lookIn_ns hns
          exact ⟨some od, hget, hz.1, nc, by rw [hz.2.1]; exact ho⟩
      obtain ⟨od, J⟩ := J
      have hcl : (PySem.W.clsIn X.K D).isSome = true := by
        obtain ⟨cd, hc, _⟩ := PySem.W.any_some hC.hd
        rw [hc] <;> rfl
      exact PySem.W.kia_one (PySem.W.kitx_exc hcl hC.hg hC.hk hC.hs hC.ha hC.hn hC.ht hC.hm) I.kIn J hk (fun z => nomatch z) fun tk => ⟨.bl b, H, I.kept (t' := tk) fun _ _ z => z, rfl, q⟩
section
variable {X : Cx} {W : Wrl} {Wo : WX} {a C : Addr} {oe : Obj} {d : Option Addr} {pn : List (Addr × Obj)} {x : Exn} {i : Nat} {e b : Expr} {p pos : Pos}
theorem XDict.cs {K : PySem.W.Frag} {H : Hp} {x : Exn} {d : Option Addr} (h : XDict K H x d) : d = none ∨ ∃ dd fs, d = some dd ∧ H dd = some (.xd fs) := by
  unfold XDict at h
  split at h
  · exact .inl h
  · obtain ⟨a, v, e, hh, _⟩ := h
    exact .inr ⟨a, _, e, hh⟩
theorem qe_isE {K : PySem.W.Frag} (hK : X.K = K) {oe : Obj} (hz : L2N.Zn (.ref x.C) d oe) (hf : ∃ vs, oe.data = .fields vs) (hg : Gl X "isinstance") (hm : X.mg "isinstance" = none) (ha : PE (X.suite a ((a, oe) :: pn)) e (tVar i)) (hb : PE (X.suite a ((a, oe) :: pn)) b (tC (.ref C)))
    (h0 : starEach [e, b] X.env = (false, eval e X.env) :: starEach [b] X.env := by rfl) (h01 : starEach [b] X.env = (false, eval b X.env) :: starEach [] X.env := by rfl) (h2 : (backTo pos (starEach [b] X.env)).any (·.1) = false := by rfl) :
    QE (X.suite a ((a, oe) :: pn)) .A W Wo (.Call (.Name "isinstance" p) [e, b] [] pos) (qIsE K i x a d C) := by
  subst hK
  refine PE.imp (pe_callB (cr_isX hz hf) hg hm (by decide +kernel) (pa_cons ha (pa_cons hb pa_nil h01) h0) (by decide) (by decide) h0 h2) fun σ H Q ⟨F, T, ω, ρ, Qp, Ep, R, ⟨hi, hC, k, hk, q⟩, hx, kk⟩ => ?_
  obtain ⟨hs, xd⟩ := R.sl.get_ex hi
  exact ⟨.ref a, hs, x.C, C, k, rfl, xd.cs, hC, rfl, hk, kk T ω (.bl k) _ H R .refl (RepA.bl k) q⟩
end
theorem v_isE {K : PySem.W.Frag} {W : Wrl} {i : Nat} {x : Exn} {a C : Addr} {d : Option Addr} {k : Bool} {ω : W.Ω} {ρ : List Sl} {Q : W.Ω → D → Prop} {E : W.Ω → Exn → Prop} (hi : ρ[i]? = some (.ex a d x)) (hC : ExcC K x.C) (hk : PySem.W.kitOne K (.ref x.C) (.ref C) = some k) (h : Q ω (.bl k)) : qIsE K i x a d C ω ρ Q E := ⟨hi, hC, k, hk, h⟩
theorem v_hd {K : PySem.W.Frag} {W : Wrl} {C : Addr} {i : Nat} {u : Exn → Addr → Option Addr → QTS W} {r : Cls3 W} {P : PEn W} {ω : W.Ω} {x : Exn} {ρ : List Sl} (hm : PySem.W.exmOne K (.ref x.C) (.ref C) = some true) (h : ∀ a dd, u x a dd (endsNP i P) ω (ρ.set i (.ex a dd x))) : hsel K ((C, some i, u) :: r) P ω x ρ := ⟨true, hm, h⟩
theorem FnH_imp {P : Program} {w : World} {K : PySem.W.Frag} {mg : Str → Option Value} {base : Heap} {CX : CXT} {k : Nat} {f : Addr} {fd : FuncData} {ps : List Str} {sp sp' : Sp} (F : L2H.FnH P w K mg base CX k f fd ps sp) (h : ∀ vs H Q E, sp' vs H Q E → sp vs H Q E) : L2H.FnH P w K mg base CX k f fd ps sp' :=
  ⟨fun vs H Q E q => F.len vs H Q E (h vs H Q E q), fun A outer s H args us vs Q E p hr hot hpin e0 hb r q => F.run A outer s H args us vs Q E p hr hot hpin e0 hb r (h vs H Q E q)⟩
theorem FnH.inW {P : Program} {w : World} {K : PySem.W.Frag} {mg : Str → Option Value} {base : Heap} {CX : CXT} {k : Nat} {f : Addr} {fd : FuncData} {ps : List Str} {mr : Md} {pf : PSp W0} (F : L2H.FnH P w K mg base CX k f fd ps (spM mr K W0 pf)) (W : Wrl) : L2H.FnH P w K mg base CX k f fd ps (spM mr K W (inW W pf)) := FnH_imp F fun _ _ _ _ h => spM_inW h
end LW
namespace LW
open PySem PySem.Spec PyProof.Rows L2
def dStrs (ys : List Str) : List D := ys.map D.str
section
variable {X : Cx} {W : Wrl} {Wo : WX} {m m1 m2 : Md} {e o : Expr} {pos apos p : Pos} {qo qe : QT W}
def qSm (f : D → D → (D → Prop) → Prop) (qo qe : QT W) : QT W := fun ω ρ Q E => qo ω ρ (fun ω1 x => ∃ a, x = .str a ∧ qe ω1 ρ (fun ω2 y => f (.str a) y (Q ω2)) E) E
def fEnds : D → D → (D → Prop) → Prop
  | .str a, .str b, Q => Q (.bl (Txt.endswith a b))
  | _, _, _ => False
end
section
variable {W : Wrl} {f : D → D → (D → Prop) → Prop} {qo qe : QT W} {ω : W.Ω} {ρ : List Sl} {Q : W.Ω → D → Prop} {E : W.Ω → Exn → Prop} {Q1 : D → Prop} {a b : Str} {i : Int}
theorem v_sm (h : qo ω ρ (fun ω1 x => ∃ a, x = .str a ∧ qe ω1 ρ (fun ω2 y => f (.str a) y (Q ω2)) E) E) : qSm f qo qe ω ρ Q E := h
theorem v_exs {R : Str → Prop} (h : R a) : ∃ b, D.str a = .str b ∧ R b := ⟨a, rfl, h⟩
theorem v_ends (h : Q1 (.bl (Txt.endswith a b))) : fEnds (.str a) (.str b) Q1 := h
theorem length_dStrs (ys : List Str) : (dStrs ys).length = ys.length := by unfold dStrs; rw [List.length_map]
end
end LW
namespace LW
open PySem PySem.Spec PyProof.Rows L2
def yes : ASet := fun _ => True
def invM (K : PySem.W.Frag) (x C dx : Addr) (ω : List (Str × D)) (T : ASet) (H : Hp) : Prop := (∀ y, T y ↔ (y = x ∧ imm (ω.map (·.1)) = false)) ∧ ∃ fs : List (Str × V), H x = some (.ins C dx fs) ∧ fs.map (·.1) = ω.map (·.1) ∧ RepsA K H yes (ω.map (·.2)) (fs.map (·.2))
@[reducible] def WM (K : PySem.W.Frag) (x C dx : Addr) : Wrl where
  Ω := List (Str × D)
  inv := invM K x C dx
  st := by
    intro ω T U H H' ⟨h1, fs, h2, h3, h4⟩ g hU
    refine ⟨h1, fs, g.keep _ _ h2 ?_, h3, h4.ext g (fun _ _ => .inl trivial) fun _ _ => .inl trivial⟩
    cases e : imm (ω.map (·.1)) with
    | true =>
      refine .inl ?_
      show imm (fs.map (·.1)) = true
      rw [h3]; exact e
    | false => exact .inr fun u => hU x u ((h1 x).mpr ⟨rfl, e⟩)
  lv := by
    intro ω T H a ⟨h1, fs, h2, h3, h4⟩ t
    obtain ⟨rfl, e⟩ := (h1 a).mp t
    exact ⟨_, h2, by show imm (fs.map (·.1)) = false; rw [h3]; exact e⟩
section
variable {X : Cx} {x C dx : Addr} {Wo : WX} {mr : Md} {o e : Expr} {f : Str} {i : Nat} {pos p' : Pos} {K : PySem.W.Frag}
def sFset (x : Addr) (i : Nat) (f : Str) (qa : QT (WM K x C dx)) : QTS (WM K x C dx) := fun P ω ρ => qa ω ρ (fun ω1 d => ρ[i]? = some (.va (.adr x)) ∧ d.pure = true ∧ f ∉ ω1.map (·.1) ∧ imm (ω1.map (·.1)) = false ∧ ω1.length < 1000 ∧ P.nx (ω1 ++ [(f, d)]) ρ) fun ω1 y => P.ex ω1 y ρ
end
section
variable {K : PySem.W.Frag} {x C dx : Addr} {f : Str} {i : Nat} {qa : QT (WM K x C dx)} {P : PEn (WM K x C dx)} {ω : List (Str × D)} {ρ : List Sl} {d : D}
def kFset (x : Addr) (i : Nat) (f : Str) (P : PEn (WM K x C dx)) (ρ : List Sl) (ω1 : List (Str × D)) (d : D) : Prop := ρ[i]? = some (.va (.adr x)) ∧ d.pure = true ∧ f ∉ ω1.map (·.1) ∧ imm (ω1.map (·.1)) = false ∧ ω1.length < 1000 ∧ P.nx (ω1 ++ [(f, d)]) ρ
theorem v_fset (h : qa ω ρ (fun ω1 d => kFset x i f P ρ ω1 d) fun ω1 y => P.ex ω1 y ρ) : sFset x i f qa P ω ρ := h
end
end LW
namespace LW
open PySem PySem.Spec PyProof.Rows L2
def pureL {W : Wrl} (pf : PSp W) : PSp W := fun ω ds Q E => pf ω ds (fun ω' d => (∃ es, d = .lst es ∧ D.pures es = true) ∧ Q ω' d) E
section
variable {K : PySem.W.Frag} {W : Wrl} {Wo : WX} {mr m : Md} {pf : PSp W} {qs : QTA W}
end
section
variable {X : Cx} {W : Wrl} {Wo : WX} {mr m m1 m2 : Md} {pf : PSp W} {qs : QTA W} {k : Nat} {f C : Addr} {fd : FuncData} {ps : List Str} {x mn : Str} {p pos apos : Pos} {e : Expr} {es : List Expr}
theorem v_pureL {ω : W.Ω} {ds : List D} {Q : W.Ω → D → Prop} {E : W.Ω → Exn → Prop} (h : pf ω ds (fun ω' d => (∃ es, d = .lst es ∧ D.pures es = true) ∧ Q ω' d) E) : pureL pf ω ds Q E := h
end
end LW
namespace LW
open PySem PySem.Spec PyProof.Rows L2
def dBls (bs : List Bool) : List D := bs.map D.bl
def fInB (d e : D) (Q : D → Prop) : Prop := ∃ (bs : List Bool) (b : Bool), d = .bl b ∧ e = .lst (dBls bs) ∧ Q (.bl (decide (b ∈ bs)))
theorem v_inB {bs : List Bool} {b : Bool} {Q1 : D → Prop} (h : Q1 (.bl (decide (b ∈ bs)))) : fInB (.bl b) (.lst (dBls bs)) Q1 := ⟨bs, b, rfl, rfl, h⟩
def fEqLB (d e : D) (Q : D → Prop) : Prop := ∃ a b : List Bool, d = .lst (dBls a) ∧ e = .lst (dBls b) ∧ Q (.bl (decide (a = b)))
theorem v_eqLB {a b : List Bool} {Q1 : D → Prop} (h : Q1 (.bl (decide (a = b)))) : fEqLB (.lst (dBls a)) (.lst (dBls b)) Q1 := ⟨a, b, rfl, rfl, h⟩
end LW
namespace LW
open PySem PySem.Spec PyProof.Rows L2
inductive MO
  | ml (ds : List D)
  | mk (kvs : List (Key × D))
  | mn (kvs : List (NestedKey × D))
  | mi (C : Addr) (fs : List (Str × D))
abbrev Sto := Addr → Option MO
def noSto : Sto := fun _ => none
def Sto.put (st : Sto) (a : Addr) (m : MO) : Sto := fun b => if b = a then some m else st b
section
variable {st : Sto} {a b : Addr} {m m' : MO} {o : Option MO}
theorem Sto.same : (st.put a m) a = some m := by unfold Sto.put; rw [if_pos rfl]
theorem Sto.ne (h : b ≠ a) (h2 : st b = o) : (st.put a m) b = o := by unfold Sto.put; rw [if_neg h]; exact h2
end
def kD : NestedKey → D
  | .none => .non
  | .num i => .int i
  | .text x => .str x
  | .tup ks => .tup (kDs ks)
where kDs : List NestedKey → List D
  | [] => []
  | k :: ks => kD k :: kDs ks
def DN (P : Program) (w : World) (d : Addr) (es : List (NestedKey × Addr × V)) : Heap → Prop := fun h => es.length ≤ sizeLine ∧ (d == sysModules) = false ∧
  ∃ xs : List (NestedKey × Addr × Value), Paired (fun (p : NestedKey × Addr × V) (q : NestedKey × Addr × Value) => p.1 = q.1 ∧ p.2.1 = q.2.1 ∧ RelV p.2.2 q.2.2) es xs ∧
    ∃ o ents ep, h.get? d = some o ∧ o.ExactDict ∧ o.data = .dict ents ep ∧ ents.toList = xs.map (entryOfKey (nestedKind P w)) ∧ (xs.map (·.1)).Nodup
inductive AsR {κ : Type} (K : PySem.W.Frag) (H : Hp) : List (κ × D) → List (κ × V) → Prop
  | nil : AsR K H [] []
  | cons {n : κ} {d : D} {v : V} {fs : List (κ × D)} {gs : List (κ × V)} : RepA K H yes d v → AsR K H fs gs → AsR K H ((n, d) :: fs) ((n, v) :: gs)
def MOk (P : Program) (w : World) (K : PySem.W.Frag) (H : Hp) (a : Addr) : MO → Prop
  | .ml ds => ∃ xs, H a = some (.lst xs) ∧ RepsA K H yes ds xs
  | .mk kvs => ∃ vs : List (Key × V), H a = some (.dK vs) ∧ AsR K H kvs vs
  | .mn kvs => ∃ es : List (NestedKey × Addr × V), H a = some (.ext (DN P w a es)) ∧ AsR K H kvs (es.map fun e => (e.1, e.2.2)) ∧ ∀ e ∈ es, RepA K H yes (kD e.1) (.ref e.2.1) ∧ e.1.depth ≤ 8
  | .mi C fs => ∃ dx gs, H a = some (.ins C dx gs) ∧ imm (fs.map (·.1)) = false ∧ AsR K H fs gs
section
variable {P : Program} {w : World} {K : PySem.W.Frag} {H H' : Hp} {a : Addr} {m : MO} {U : ASet}
theorem RepA.extY {d : D} {v : V} (h : RepA K H yes d v) (g : GrP U H H') : RepA K H' yes d v := h.ext g (fun _ _ => .inl trivial) fun _ _ => .inl trivial
theorem RepsA.extY {ds : List D} {vs : List V} (h : RepsA K H yes ds vs) (g : GrP U H H') : RepsA K H' yes ds vs := h.ext g (fun _ _ => .inl trivial) fun _ _ => .inl trivial
theorem AsR.extY {κ : Type} {fs : List (κ × D)} {gs : List (κ × V)} (h : AsR K H fs gs) (g : GrP U H H') : AsR K H' fs gs := by
  induction h with
  | nil => exact .nil
  | cons r _ ih => exact .cons (r.extY g) ih
theorem AsR.keys {κ : Type} {fs : List (κ × D)} {gs : List (κ × V)} (h : AsR K H fs gs) : gs.map (·.1) = fs.map (·.1) := by
  induction h with
  | nil => rfl
  | cons r _ ih => rw [List.map_cons, List.map_cons, ih]
theorem AsR.len {κ : Type} {fs : List (κ × D)} {gs : List (κ × V)} (h : AsR K H fs gs) : gs.length = fs.length := by
  have := congrArg List.length h.keys
  rwa [List.length_map, List.length_map] at this
theorem AsR.lookup {fs : List (Str × D)} {gs : List (Str × V)} {f : Str} {d : D} (h : AsR K H fs gs) (e : fs.lookup f = some d) : ∃ v, gs.lookup f = some v ∧ RepA K H yes d v := by
  induction h with
  | nil => cases e
  | cons r _ ih =>
    rw [List.lookup_cons] at e ⊢
    split at e
    · cases e
      exact ⟨_, rfl, r⟩
    · exact ih e
theorem AsR.none {fs : List (Str × D)} {gs : List (Str × V)} {f : Str} (h : AsR K H fs gs) (e : fs.lookup f = none) : gs.lookup f = none := by
  induction h with
  | nil => rfl
  | cons r _ ih =>
    rw [List.lookup_cons] at e ⊢
    split at e
    · cases e
    · exact ih e
def putD (f : Str) (d : D) : List (Str × D) → List (Str × D)
  | [] => [(f, d)]
  | (g, x) :: r => if g = f then (g, d) :: r else (g, x) :: putD f d r
theorem AsR.put {fs : List (Str × D)} {gs : List (Str × V)} {f : Str} {d : D} {v : V} (h : AsR K H fs gs) (r : RepA K H yes d v) : AsR K H (putD f d fs) (putF f v gs) := by
  induction h with
  | nil => exact .cons r .nil
  | @cons n d' v' fs gs r' h ih =>
    show AsR K H (if n = f then (n, d) :: fs else (n, d') :: putD f d fs) (if n = f then (n, v) :: gs else (n, v') :: putF f v gs)
    by_cases z : n = f
    · rw [if_pos z, if_pos z]
      exact .cons r h
    · rw [if_neg z, if_neg z]
      exact .cons r' ih
theorem MOk.at (h : MOk P w K H a m) : ∃ o, H a = some o ∧ pers o = false := by
  cases m with
  | ml ds => obtain ⟨xs, h, _⟩ := h; exact ⟨_, h, rfl⟩
  | mk kvs => obtain ⟨vs, h, _⟩ := h; exact ⟨_, h, rfl⟩
  | mn kvs => obtain ⟨es, h, _⟩ := h; exact ⟨_, h, rfl⟩
  | mi C fs =>
    obtain ⟨dx, gs, h, h3, r⟩ := h
    refine ⟨_, h, ?_⟩
    show imm (gs.map (·.1)) = false
    rw [r.keys]
    exact h3
theorem MOk.ext (h : MOk P w K H a m) (g : GrP U H H') (hu : ¬ U a) : MOk P w K H' a m := by
  have k : ∀ o, H a = some o → H' a = some o := fun o e => g.keep a o e (.inr hu)
  cases m with
  | ml ds => obtain ⟨xs, h, r⟩ := h; exact ⟨xs, k _ h, r.extY g⟩
  | mk kvs => obtain ⟨vs, h, r⟩ := h; exact ⟨vs, k _ h, r.extY g⟩
  | mn kvs => obtain ⟨es, h, r, q⟩ := h; exact ⟨es, k _ h, r.extY g, fun x hx => ⟨(q x hx).1.extY g, (q x hx).2⟩⟩
  | mi C fs => obtain ⟨dx, gs, h, h3, r⟩ := h; exact ⟨dx, gs, k _ h, h3, r.extY g⟩
end
def invS (P : Program) (w : World) (K : PySem.W.Frag) (W : Wrl) (ω : W.Ω × Sto) (T : ASet) (H : Hp) : Prop := ∃ T1 : ASet, W.inv ω.1 T1 H ∧ (∀ a, T a ↔ (T1 a ∨ ∃ m, ω.2 a = some m)) ∧ (∀ a, T1 a → ω.2 a = none) ∧ ∀ a m, ω.2 a = some m → MOk P w K H a m
@[reducible] def WS (P : Program) (w : World) (K : PySem.W.Frag) (W : Wrl) : Wrl where
  Ω := W.Ω × Sto
  inv := invS P w K W
  st := by
    intro ω T U H H' ⟨T1, h1, h2, h3, h4⟩ g hU
    exact ⟨T1, W.st h1 g fun a u t => hU a u ((h2 a).mpr (.inl t)), h2, h3, fun a m e => (h4 a m e).ext g fun u => hU a u ((h2 a).mpr (.inr ⟨m, e⟩))⟩
  lv := by
    intro ω T H a ⟨T1, h1, h2, h3, h4⟩ t
    rcases (h2 a).mp t with t | ⟨m, e⟩
    · exact W.lv h1 t
    · exact (h4 a m e).at
section
variable {P : Program} {w : World} {K : PySem.W.Frag} {W : Wrl} {F : Frm} {T T0 : ASet} {ω ω0 : W.Ω × Sto} {ρ : List Sl} {σ : L2.St} {H H0 : Hp} {a l : Addr} {m m' : MO} {o : HO} {ds : List D}
theorem WS.ok (R : Rel K (WS P w K W) F T ω ρ σ H) (h : ω.2 a = some m) : MOk P w K H a m := R.inv.choose_spec.2.2.2 a m h
theorem WS.mem (R : Rel K (WS P w K W) F T ω ρ σ H) (h : ω.2 a = some m) : T a := (R.inv.choose_spec.2.1 a).mpr (.inr ⟨m, h⟩)
theorem WS.out (R : Rel K (WS P w K W) F T ω ρ σ H) (h : ¬ T a) : ω.2 a = none := by
  cases e : ω.2 a with
  | none => rfl
  | some m => exact absurd (WS.mem R e) h
theorem WS.write (R : Rel K (WS P w K W) F T ω ρ σ H) (h : ω.2 a = some m) (h' : MOk P w K (upd H a o) a m') : Rel K (WS P w K W) F T (ω.1, ω.2.put a m') ρ σ (upd H a o) ∧ Ext T H T (upd H a o) := by
  have ta := WS.mem R h
  obtain ⟨u, hu, pu⟩ := (WS.ok R h).at
  have g1 : GrP (fun b => b = a) H (upd H a o) := GrP.wr rfl fun v hv => by rw [hu] at hv; cases hv; exact pu
  have g : GrP T H (upd H a o) := g1.mono fun b z => by rw [z]; exact ta
  have e : Ext T H T (upd H a o) := ⟨g, fun b z => .inl z⟩
  obtain ⟨T1, h1, h2, h3, h4⟩ := R.inv
  refine ⟨R.world e ⟨T1, W.st h1 g1 fun b z t => ?_, fun b => ?_, fun b t => ?_, fun b n hb => ?_⟩, e⟩
  · rw [z] at t
    rw [h3 a t] at h; cases h
  · rw [h2 b]
    constructor
    · rintro (z | ⟨n, z⟩)
      · exact .inl z
      · by_cases q : b = a
        · exact .inr ⟨m', by rw [q]; exact Sto.same⟩
        · exact .inr ⟨n, Sto.ne q z⟩
    · rintro (z | ⟨n, z⟩)
      · exact .inl z
      · by_cases q : b = a
        · exact .inr ⟨m, by rw [q]; exact h⟩
        · exact .inr ⟨n, by rw [← z]; exact (Sto.ne q rfl).symm⟩
  · have q : b ≠ a := fun z => by rw [z] at t; rw [h3 a t] at h; cases h
    exact Sto.ne q (h3 b t)
  · by_cases q : b = a
    · subst q
      have := (Sto.same (st := ω.2) (a := b) (m := m')).symm.trans hb
      cases this
      exact h'
    · exact (h4 b n (by rw [← hb]; exact (Sto.ne q rfl).symm)).ext g1 q
theorem WS.inv_new (i : (WS P w K W).inv ω T H) (hl : ¬ T l) (h : MOk P w K H l m) : (WS P w K W).inv (ω.1, ω.2.put l m) (fun a => T a ∨ a = l) H := by
  obtain ⟨T1, h1, h2, h3, h4⟩ := i
  have nl : ¬ T1 l := fun t => hl ((h2 l).mpr (.inl t))
  refine ⟨T1, h1, fun b => ?_, fun b t => ?_, fun b n hb => ?_⟩
  · show (T b ∨ b = l) ↔ _
    rw [h2 b]
    constructor
    · rintro ((z | ⟨n, z⟩) | z)
      · exact .inl z
      · have q : b ≠ l := fun y => hl ((h2 l).mpr (.inr ⟨n, by rw [← y]; exact z⟩))
        exact .inr ⟨n, Sto.ne q z⟩
      · exact .inr ⟨m, by rw [z]; exact Sto.same⟩
    · rintro (z | ⟨n, z⟩)
      · exact .inl (.inl z)
      · by_cases q : b = l
        · exact .inr q
        · exact .inl (.inr ⟨n, by rw [← z]; exact (Sto.ne q rfl).symm⟩)
  · exact Sto.ne (fun z => nl (z ▸ t)) (h3 b t)
  · by_cases q : b = l
    · subst q
      have := (Sto.same (st := ω.2) (a := b) (m := m)).symm.trans hb
      cases this
      exact h
    · exact h4 b n (by rw [← hb]; exact (Sto.ne q rfl).symm)
theorem Rel.come {W : Wrl} {ω0 ω ω' : W.Ω} (R0 : Rel K W F T0 ω0 ρ σ H0) (R : Rel K W F T ω ρ σ H) (e : Ext T0 H0 T H) (h0 : H0 l = none) (hs : ¬ Spr F T ρ l) (i : W.inv ω' (fun a => T a ∨ a = l) H) : Rel K W F (fun a => T a ∨ a = l) ω' ρ σ H ∧ Ext T0 H0 (fun a => T a ∨ a = l) H := by
  have ee : ∀ a, Spr F (fun a => T a ∨ a = l) ρ a → Spr F T0 ρ a ∨ H0 a = none := fun a z => by
    rcases z with z | (z | z) | z
    · exact .inl (.inl z)
    · exact (e.tn a z).imp (fun z => .inr (.inl z)) id
    · rw [z]; exact .inr h0
    · exact .inl (.inr (.inr z))
  refine ⟨⟨R.gr, i, fun a z => ?_, fun k hk => ⟨(R.own k hk).1, fun z => ?_, (R.own k hk).2.2⟩, R.nd, fun a z => ⟨(R.s0 a z).1, fun t => ?_⟩, fun p hp => ?_, ?_⟩, ⟨e.gr, fun a z => ?_⟩⟩
  · rcases z with z | z
    · exact R.tn a z
    · rw [z]; exact .inr (R0.gr.live l h0)
  · rcases z with z | z
    · exact (R.own k hk).2.1 z
    · exact hs (.inr (.inr (z ▸ hk)))
  · rcases t with t | t
    · exact (R.s0 a z).2 t
    · exact hs (.inl (t ▸ z))
  · exact (R0.hd p hp).ext e.gr (fun a t => .inl (.inr (.inl t))) ee
  · exact R0.sl.ext e.gr (fun a t => .inl (.inr (.inl t))) ee fun l h => (R0.own l h).2.1
  · rcases z with z | z
    · exact e.tn a z
    · rw [z]; exact .inr h0
theorem WS.add (R : Rel K (WS P w K W) F T ω ρ σ H) (h0 : H l = none) (ho : MOk P w K (upd H l o) l m) : Rel K (WS P w K W) F (fun a => T a ∨ a = l) (ω.1, ω.2.put l m) ρ σ (upd H l o) ∧ Ext T H (fun a => T a ∨ a = l) (upd H l o) := by
  have g : GrP nop H (upd H l o) := GrP.new h0
  have R1 := R.grow g
  have hs := R.fresh h0
  exact Rel.come R R1 (Ext.of0 g) h0 hs (WS.inv_new R1.inv (fun t => hs (.inr (.inl t))) ho)
theorem set_self' {σ : L2.St} {i : Nat} {x : Option V} (h : σ[i]? = some x) : σ.set i x = σ := by
  refine List.ext_getElem? fun j => ?_
  rw [List.getElem?_set]
  split
  · rename_i z
    subst z
    split
    · rw [h]
    · rename_i z
      rw [List.getElem?_eq_none (by omega)] at h
      cases h
  · rfl
theorem WS.give {i : Nat} (R : Rel K (WS P w K W) F T ω ρ σ H) (e : ρ[i]? = some (.ow l ds)) (hp : D.pures ds = true) : ω.2 l = none ∧ Rel K (WS P w K W) F (fun a => T a ∨ a = l) (ω.1, ω.2.put l (.ml ds)) (ρ.set i (.va (.adr l))) σ H := by
  obtain ⟨hv, xs, h1, r⟩ := R.sl.get_ow e
  have mem := owns_mem e
  have nt := (R.own l mem).2.1
  have sub := owns_set_sub (s := .va (.adr l)) rfl (ρ := ρ) i
  have nl : l ∉ owns (ρ.set i (.va (.adr l))) := by
    have key : ∀ {ρ : List Sl} {i : Nat} {s : Sl}, s.plain = true → ρ[i]? = some (Sl.ow l ds) → (owns ρ).Nodup → l ∉ owns (ρ.set i s) := by
      intro ρ
      induction ρ with
      | nil => intro i s hs e n; simp at e
      | cons x r ih =>
        intro i s hs e n
        cases i with
        | zero =>
          simp at e
          subst e
          have n2 := List.nodup_cons.mp n
          cases s with
          | ow a b => cases hs
          | no => exact n2.1
          | va d => exact n2.1
          | ex a dd x => exact n2.1
        | succ i =>
          have e' : r[i]? = some (Sl.ow l ds) := by simpa using e
          cases x with
          | no => exact ih (i := i) hs e' n
          | va d => exact ih (i := i) hs e' n
          | ex a dd x => exact ih (i := i) hs e' n
          | ow k es =>
            have n2 := List.nodup_cons.mp n
            intro h
            rcases List.mem_cons.mp h with z | z
            · exact n2.1 (z ▸ owns_mem e')
            · exact ih (i := i) hs e' n2.2 z
    exact key rfl e R.nd
  have hσ : σ.set i (some (.ref l)) = σ := set_self' hv
  have eS : ∀ a, Spr F (fun a => T a ∨ a = l) (ρ.set i (.va (.adr l))) a → Spr F T ρ a := fun a z => by
    rcases z with z | (z | z) | z
    · exact .inl z
    · exact .inr (.inl z)
    · rw [z]; exact .inr (.inr mem)
    · exact .inr (.inr (sub.subset z))
  have s1 : SlsR K H (Spr F (fun a => T a ∨ a = l) (ρ.set i (.va (.adr l)))) ρ σ := R.sl.less eS
  have s2 := s1.set_va (d := .adr l) (v := .ref l) (.adr l) i
  rw [hσ] at s2
  refine ⟨WS.out R nt, ⟨R.gr, WS.inv_new R.inv nt ⟨xs, h1, r.any hp⟩, fun a z => ?_, fun k hk => ⟨(R.own k (sub.subset hk)).1, fun z => ?_, (R.own k (sub.subset hk)).2.2⟩, R.nd.sublist sub, fun a z => ⟨(R.s0 a z).1, fun t => ?_⟩, fun p hp => (R.hd p hp).less eS, s2⟩⟩
  · rcases z with z | z
    · exact R.tn a z
    · rw [z]; exact .inr (R.own l mem).1
  · rcases z with z | z
    · exact (R.own k (sub.subset hk)).2.1 z
    · exact nl (z ▸ hk)
  · rcases t with t | t
    · exact (R.s0 a z).2 t
    · exact (R.own l mem).2.2 (t ▸ z)
end
def locP (P : Program) (w : World) (K : PySem.W.Frag) {W : Wrl} (pf : PSp W) : PSp (WS P w K W) := fun ω ds Q E => ω.2 = noSto ∧ pf ω.1 ds (fun ω' d => ∀ st, Q (ω', st) d) fun ω' x => ∀ st, E (ω', st) x
section
variable {P : Program} {w : World} {K : PySem.W.Frag} {W : Wrl} {mr : Md}
theorem rt_less {F F' : Frm} {T T' : ASet} {H : Hp} {d : D} {v : V} (e : F'.H = F.H) (hS : ∀ a, (F'.S a ∨ T' a) → (F.S a ∨ T a)) (h : RT mr K F T H d v) : RT mr K F' T' H d v := by
  cases mr with
  | F =>
    obtain ⟨l, xs, es, h1, h2, h3, h4, h5, h6⟩ := h
    exact ⟨l, xs, es, h1, h2, by rw [e]; exact h3, fun z => h4 (hS l z), h5, h6.less fun a z => z.imp (hS a) id⟩
  | A => exact RepA.less (show RepA K H _ d v from h) hS
  | O => exact RepA.less (show RepA K H _ d v from h) hS
  | C => exact RepA.less (show RepA K H _ d v from h) hS
theorem pf_id {pf : PSp W} {ω : W.Ω} {ds : List D} {Qp : W.Ω → D → Prop} {Ep : W.Ω → Exn → Prop} (q : pf ω ds Qp Ep) : pf ω ds (fun ω' d => ∀ st : Sto, (fun ω' d => Qp ω'.1 d) ((ω', st) : W.Ω × Sto) d) fun ω' x => ∀ st : Sto, (fun ω' x => Ep ω'.1 x) ((ω', st) : W.Ω × Sto) x := by
  have e1 : (fun (ω' : W.Ω) (d : D) => ∀ st : Sto, (fun ω' d => Qp ω'.1 d) ((ω', st) : W.Ω × Sto) d) = Qp := by
    funext ω' d
    exact propext ⟨fun h => h noSto, fun h _ => h⟩
  have e2 : (fun (ω' : W.Ω) (x : Exn) => ∀ st : Sto, (fun ω' x => Ep ω'.1 x) ((ω', st) : W.Ω × Sto) x) = Ep := by
    funext ω' d
    exact propext ⟨fun h => h noSto, fun h _ => h⟩
  rw [e1, e2]
  exact q
theorem spM_loc {pf : PSp W} {vs : List V} {H : Hp} {Q : VK} {E : XK} (h : spM mr K W pf vs H Q E) : spM mr K (WS P w K W) (locP P w K pf) vs H Q E := by
  obtain ⟨S, T, ω, ds, Qp, Ep, hS, hi, r, q, k, kx⟩ := h
  have back : ∀ {T' ω' H'}, Ext T H T' H' → (WS P w K W).inv ω' T' H' → ∃ T1, Ext T H T1 H' ∧ W.inv ω'.1 T1 H' ∧ ∀ a, T1 a → T' a := fun {T' ω' H'} e ⟨T1, h1, h2, h3, h4⟩ => ⟨T1, ⟨e.gr, fun a t => e.tn a ((h2 a).mpr (.inl t))⟩, h1, fun a t => (h2 a).mpr (.inl t)⟩
  refine ⟨S, T, (ω, noSto), ds, fun ω' d => Qp ω'.1 d, fun ω' x => Ep ω'.1 x, hS, ⟨T, hi, fun a => ⟨.inl, fun z => z.elim id fun ⟨m, z⟩ => nomatch z⟩, fun _ _ => rfl, fun a m z => nomatch z⟩, r, ⟨rfl, pf_id q⟩, fun T' ω' d v H' e i' rt q' => ?_, fun T' ω' x cls dd H' e i' xr q' => ?_⟩
  · obtain ⟨T1, e1, i1, sub⟩ := back e i'
    exact k T1 ω'.1 d v H' e1 i1 (rt_less rfl (fun a z => z.imp id (sub a)) rt) q'
  · obtain ⟨T1, e1, i1, sub⟩ := back e i'
    exact kx T1 ω'.1 x cls dd H' e1 i1 xr q'
variable {mg : Str → Option Value} {base : Heap} {CX : CXT} {k : Nat} {f : Addr} {fd : FuncData} {ps : List Str}
theorem FnOk.loc {pf : PSp W} (F : FnOk P w K mg base CX k f fd ps (spM mr K (WS P w K W) (locP P w K pf))) : FnOk P w K mg base CX k f fd ps (spM mr K W pf) := F.imp fun _ _ _ _ => spM_loc
end
end LW
namespace LW
open PySem PySem.Spec PyProof.Rows L2
section
variable {X : Cx} {P : Program} {w : World} {K : PySem.W.Frag} {W : Wrl} {Wo : WX} {m m1 m2 m3 : Md} {mr : Md} {a b c e o : Expr} {es : List Expr} {i : Nat} {pos pos' p apos p' : Pos} {q qa qb qc qo qk : QT (WS P w K W)} {qs : QTA (WS P w K W)} {fn : Str} {C f : Addr} {k : Nat} {x mn : Str}
def kDer (st : Sto) (d : D) (R : D → Prop) : Prop := ∃ d', (d' = d ∨ ∃ l ds, d = .adr l ∧ st l = some (.ml ds) ∧ d' = .lst ds) ∧ R d'
theorem v_der0 {st : Sto} {d : D} {R : D → Prop} (h : R d) : kDer st d R := ⟨d, .inl rfl, h⟩
theorem v_derL {st : Sto} {l : Addr} {ds : List D} {R : D → Prop} (h1 : st l = some (.ml ds)) (h : R (.lst ds)) : kDer st (.adr l) R := ⟨_, .inr ⟨l, ds, rfl, h1, rfl⟩, h⟩
def Der (st : Sto) (d d' : D) : Prop := d' = d ∨ ∃ l ds, d = .adr l ∧ st l = some (.ml ds) ∧ d' = .lst ds
section
variable {H : Hp} {S : ASet} {os os' : List Addr} {d d' : D} {v : V} {st : Sto}
theorem RO.up (h : ∀ a, a ∈ os → a ∈ os') (r : RO K H S os d v) : RO K H S os' d v := by
  rcases r with r | ⟨l, xs, ds, e1, e2, hl, r⟩
  · exact .inl r
  · exact .inr ⟨l, xs, ds, e1, e2, h l hl, r⟩
theorem RC.up (h : ∀ a, a ∈ os → a ∈ os') (r : RC K H S os d v) : RC K H S os' d v := by
  rcases r with r | r
  · exact .inl (RO.up h r)
  · exact .inr r
inductive Ders (st : Sto) : List D → List D → Prop
  | nil : Ders st [] []
  | cons {d d' : D} {ds ds' : List D} : Der st d d' → Ders st ds ds' → Ders st (d :: ds) (d' :: ds')
def Md.co (m : Md) : Bool := match m with
  | .O => true
  | .C => true
  | _ => false
end
def kDers (st : Sto) (ds : List D) (R : List D → Prop) : Prop := ∃ ds', Ders st ds ds' ∧ R ds'
theorem v_ders0 {st : Sto} {R : List D → Prop} (h : R []) : kDers st [] R := ⟨[], .nil, h⟩
theorem v_ders {st : Sto} {d : D} {ds : List D} {R : List D → Prop} (h : kDer st d fun d' => kDers st ds fun ds' => R (d' :: ds')) : kDers st (d :: ds) R := by
  obtain ⟨d', h1, ds', h2, h3⟩ := h
  exact ⟨d' :: ds', .cons h1 h2, h3⟩
def qOpS (f : D → D → (D → Prop) → Prop) (qa qb : QT (WS P w K W)) : QT (WS P w K W) := fun ω ρ Q E => qa ω ρ (fun ω1 x => qb ω1 ρ (fun ω2 y => kDer ω2.2 x fun x' => kDer ω2.2 y fun y' => f x' y' (Q ω2)) E) E
def qCaS (f : List D → (D → Prop) → Prop) (qs : QTA (WS P w K W)) : QT (WS P w K W) := fun ω ρ Q E => qs ω ρ (fun ω1 xs => kDers ω1.2 xs fun ys => f ys (Q ω1)) E
def qNew (q : QT (WS P w K W)) : QT (WS P w K W) := fun ω ρ Q E => q ω ρ (fun ω1 d => ∃ ds, d = .lst ds ∧ D.pures ds = true ∧ ∀ l, ω1.2 l = none → Q (ω1.1, ω1.2.put l (.ml ds)) (.adr l)) E
def kFldS (C : Addr) (fn : Str) (st : Sto) (d : D) (R : D → Prop) : Prop := ∃ a fs x, d = .adr a ∧ st a = some (.mi C fs) ∧ fs.lookup fn = some x ∧ R x
def qFldS (C : Addr) (fn : Str) (qa : QT (WS P w K W)) : QT (WS P w K W) := fun ω ρ Q E => qa ω ρ (fun ω1 d => kFldS C fn ω1.2 d (Q ω1)) E
def kFstS (C : Addr) (fn : Str) (P' : PEn (WS P w K W)) (ρ : List Sl) (d : D) (ω2 : W.Ω × Sto) (x : D) : Prop := ∃ a fs, x = .adr a ∧ ω2.2 a = some (.mi C fs) ∧ d.pure = true ∧ imm ((putD fn d fs).map (·.1)) = false ∧ fs.length < 1000 ∧ P'.nx (ω2.1, ω2.2.put a (.mi C (putD fn d fs))) ρ
def sFstS (C : Addr) (fn : Str) (qo qa : QT (WS P w K W)) : QTS (WS P w K W) := fun P' ω ρ => qa ω ρ (fun ω1 d => qo ω1 ρ (fun ω2 x => kFstS C fn P' ρ d ω2 x) fun ω' y => P'.ex ω' y ρ) fun ω' y => P'.ex ω' y ρ
def kAppS (P' : PEn (WS P w K W)) (ρ : List Sl) (l : Addr) (ω2 : W.Ω × Sto) (d : D) : Prop := ∃ ds, ω2.2 l = some (.ml ds) ∧ d.pure = true ∧ ds.length < 1000000 ∧ P'.nx (ω2.1, ω2.2.put l (.ml (ds ++ [d]))) ρ
def sAppS (qo qa : QT (WS P w K W)) : QTS (WS P w K W) := fun P' ω ρ => qo ω ρ (fun ω1 x => ∃ l ds, x = .adr l ∧ ω1.2 l = some (.ml ds) ∧ qa ω1 ρ (fun ω2 d => kAppS P' ρ l ω2 d) fun ω' y => P'.ex ω' y ρ) fun ω' y => P'.ex ω' y ρ
def kPutS (P' : PEn (WS P w K W)) (ρ : List Sl) (d : D) (l : Addr) (ω3 : W.Ω × Sto) (y : D) : Prop := ∃ ds n j, ω3.2 l = some (.ml ds) ∧ y = .int n ∧ ixN ds.length n = some j ∧ d.pure = true ∧ P'.nx (ω3.1, ω3.2.put l (.ml (ds.set j d))) ρ
def sPutS (qo qk qa : QT (WS P w K W)) : QTS (WS P w K W) := fun P' ω ρ => qa ω ρ (fun ω1 d => qo ω1 ρ (fun ω2 x => ∃ l, x = .adr l ∧ qk ω2 ρ (fun ω3 y => kPutS P' ρ d l ω3 y) fun ω' y => P'.ex ω' y ρ) fun ω' y => P'.ex ω' y ρ) fun ω' y => P'.ex ω' y ρ
theorem mk_grow {H : Hp} {x dx C : Addr} (nx : H x = none) (ndx : H dx = none) : GrP nop H (mkHp H x dx C) := (Gr.made (C := C) nx ndx).p0
theorem WS.made {K : PySem.W.Frag} {F : Frm} {T : ASet} {ω : W.Ω × Sto} {ρ : List Sl} {σ : L2.St} {H : Hp} {x dx C : Addr} (R : Rel K (WS P w K W) F T ω ρ σ H) (nx : H x = none) (ndx : H dx = none) : ω.2 x = none ∧ Rel K (WS P w K W) F (fun a => T a ∨ a = x) (ω.1, ω.2.put x (.mi C [])) ρ σ (mkHp H x dx C) ∧ Ext T H (fun a => T a ∨ a = x) (mkHp H x dx C) := by
  have g := mk_grow (C := C) nx ndx
  have R1 := R.grow g
  have hs := R.fresh nx
  refine ⟨WS.out R fun t => hs (.inr (.inl t)), Rel.come R R1 (Ext.of0 g) nx hs (WS.inv_new R1.inv (fun t => hs (.inr (.inl t))) ⟨dx, [], upd_same, by decide, .nil⟩)⟩
end
section
variable {P : Program} {w : World} {K : PySem.W.Frag} {W : Wrl} {q qa qb qc qo qk : QT (WS P w K W)} {qs : QTA (WS P w K W)} {ω : W.Ω × Sto} {ρ : List Sl} {Q : W.Ω × Sto → D → Prop} {E : W.Ω × Sto → Exn → Prop} {P' : PEn (WS P w K W)} {C : Addr} {fn mn : Str} {d x : D} {a l : Addr} {fs : List (Str × D)} {ds : List D} {R : D → Prop} {st : Sto}
theorem v_opS {f : D → D → (D → Prop) → Prop} (h : qa ω ρ (fun ω1 x => qb ω1 ρ (fun ω2 y => kDer ω2.2 x fun x' => kDer ω2.2 y fun y' => f x' y' (Q ω2)) E) E) : qOpS f qa qb ω ρ Q E := h
theorem v_caS {f : List D → (D → Prop) → Prop} (h : qs ω ρ (fun ω1 xs => kDers ω1.2 xs fun ys => f ys (Q ω1)) E) : qCaS f qs ω ρ Q E := h
theorem v_new (h : q ω ρ (fun ω1 d => ∃ ds, d = .lst ds ∧ D.pures ds = true ∧ ∀ l, ω1.2 l = none → Q (ω1.1, ω1.2.put l (.ml ds)) (.adr l)) E) : qNew q ω ρ Q E := h
theorem v_fldS (h : qa ω ρ (fun ω1 d => kFldS C fn ω1.2 d (Q ω1)) E) : qFldS C fn qa ω ρ Q E := h
theorem v_kFldS (h1 : st a = some (.mi C fs)) (h2 : fs.lookup fn = some x) (h : R x) : kFldS C fn st (.adr a) R := ⟨a, fs, x, rfl, h1, h2, h⟩
theorem v_fstS (h : qa ω ρ (fun ω1 d => qo ω1 ρ (fun ω2 x => kFstS C fn P' ρ d ω2 x) fun ω' y => P'.ex ω' y ρ) fun ω' y => P'.ex ω' y ρ) : sFstS C fn qo qa P' ω ρ := h
theorem v_appS (h : qo ω ρ (fun ω1 x => ∃ l ds, x = .adr l ∧ ω1.2 l = some (.ml ds) ∧ qa ω1 ρ (fun ω2 d => kAppS P' ρ l ω2 d) fun ω' y => P'.ex ω' y ρ) fun ω' y => P'.ex ω' y ρ) : sAppS qo qa P' ω ρ := h
theorem v_putS (h : qa ω ρ (fun ω1 d => qo ω1 ρ (fun ω2 x => ∃ l, x = .adr l ∧ qk ω2 ρ (fun ω3 y => kPutS P' ρ d l ω3 y) fun ω' y => P'.ex ω' y ρ) fun ω' y => P'.ex ω' y ρ) fun ω' y => P'.ex ω' y ρ) : sPutS qo qk qa P' ω ρ := h
end
end LW
namespace LW
open PySem PySem.Spec PyProof.Rows L2
section
variable {P : Program} {w : World} {K : PySem.W.Frag} {H H' : Hp} {h : Heap} {S : ASet}
mutual
theorem nested_of : ∀ (k : NestedKey) {v : V} {u : Value}, RepA K H S (kD k) v → HOk P w H h → RelV v u → NestedIs h k u
  | .none, _, _, r, ok, ru => by cases r; cases ru; exact .none
  | .num i, _, _, r, ok, ru => by cases r; obtain ⟨t, rfl⟩ := ru; exact .int i t
  | .text x, _, _, r, ok, ru => by cases r; obtain ⟨t, rfl⟩ := ru; exact .text x t
  | .tup ks, _, _, r, ok, ru => by
    cases r with
    | @tup a xs _ ht rs =>
      cases (show _ = Value.ref a from ru)
      obtain ⟨o, ho, _⟩ := ht
      obtain ⟨h1, h2, its, rv, o', h3, h4, n, h5⟩ := ok a _ ho
      exact .tup h3 h4 h5 (by rw [List.toList_toArray]; exact nested_all ks rs ok rv)
theorem nested_all : ∀ (ks : List NestedKey) {vs : List V} {us : List Value}, RepsA K H S (kD.kDs ks) vs → HOk P w H h → Vals vs us → NestedAll h ks us
  | [], _, _, r, ok, ru => by cases r; cases ru; exact .nil
  | k :: ks, _, _, r, ok, ru => by
    cases r with
    | cons r1 r2 =>
      cases ru with
      | cons u1 u2 => exact .cons (nested_of k r1 ok u1) (nested_all ks r2 ok u2)
end
def KeyAt (K : PySem.W.Frag) (H : Hp) (k : NestedKey) (b : Addr) : Prop := RepA K H yes (kD k) (.ref b) ∧ k.depth ≤ 8
theorem KeyAt.is (P : Program) (w : World) {k : NestedKey} {b : Addr} (h' : KeyAt K H k b) (ok : HOk P w H h) : (nestedKind P w).is h k b := ⟨nested_of k h'.1 ok rfl, h'.2⟩
theorem KeyAt.ext {U : ASet} {k : NestedKey} {b : Addr} (h : KeyAt K H k b) (g : GrP U H H') : KeyAt K H' k b := ⟨h.1.extY g, h.2⟩
abbrev Ents := List (NestedKey × Addr × V)
abbrev EV : Ents → List (NestedKey × Addr × Value) → Prop := Paired fun p q => p.1 = q.1 ∧ p.2.1 = q.2.1 ∧ RelV p.2.2 q.2.2
def atE (es : Ents) (k : NestedKey) : Option V := (es.find? fun x => decide (x.1 = k)).map (·.2.2)
theorem EV.val {es : Ents} {xs : List (NestedKey × Addr × Value)} (r : EV es xs) (k : NestedKey) : RelO (atE es k) ((atKey xs k).map (·.2)) := by
  unfold EV at r
  induction r with
  | nil => exact trivial
  | @cons p q ps qs hh t ih =>
    obtain ⟨h1, h2, h3⟩ := hh
    unfold atE atKey at ih ⊢
    rw [List.find?_cons, List.find?_cons, ← h1]
    by_cases e : p.1 = k
    · simp only [e, decide_true, Option.map_some]
      exact h3
    · simp only [e, decide_false]
      exact ih
theorem EV.some {es : Ents} {xs : List (NestedKey × Addr × Value)} (r : EV es xs) (k : NestedKey) : (atE es k).isSome = (atKey xs k).isSome := by
  have := (EV.val r k).isSome_eq
  rwa [Option.isSome_map] at this
def valN {κ : Type} [DecidableEq κ] (kvs : List (κ × D)) (k : κ) : Option D := (kvs.find? fun x => decide (x.1 = k)).map (·.2)
def putN {κ : Type} [DecidableEq κ] (kvs : List (κ × D)) (k : κ) (d : D) : List (κ × D) := if (valN kvs k).isSome then kvs.map (fun x => if x.1 = k then (x.1, d) else x) else kvs ++ [(k, d)]
end
section
variable {X : Cx} {P : Program} {w : World} {K : PySem.W.Frag} {W : Wrl} {Wo : WX} {m m1 m2 m3 mr : Md} {a b c e o ke : Expr} {pos pos' spos : Pos} {qa qb qc qo qk : QT (WS P w K W)}
def kInN (neg : Bool) (st : Sto) (x y : D) (R : D → Prop) : Prop := ∃ d kvs ks, y = .adr d ∧ st d = some (.mn kvs) ∧ x = kD (.tup ks) ∧ (NestedKey.tup ks).depth ≤ 8 ∧ R (.bl (if neg then !(valN kvs (.tup ks)).isSome else (valN kvs (.tup ks)).isSome))
def qInN (neg : Bool) (qa qb : QT (WS P w K W)) : QT (WS P w K W) := fun ω ρ Q E => qa ω ρ (fun ω1 x => qb ω1 ρ (fun ω2 y => kInN neg ω2.2 x y (Q ω2)) E) E
def kGetN (st : Sto) (x y : D) (R : D → Prop) : Prop := ∃ d kvs ks z, x = .adr d ∧ st d = some (.mn kvs) ∧ y = kD (.tup ks) ∧ (NestedKey.tup ks).depth ≤ 8 ∧ valN kvs (.tup ks) = some z ∧ R z
def qGetN (qa qb : QT (WS P w K W)) : QT (WS P w K W) := fun ω ρ Q E => qa ω ρ (fun ω1 x => qb ω1 ρ (fun ω2 y => kGetN ω2.2 x y (Q ω2)) E) E
def kSetN (P' : PEn (WS P w K W)) (ρ : List Sl) (d : D) (l : Addr) (ω3 : W.Ω × Sto) (y : D) : Prop := ∃ kvs ks, ω3.2 l = some (.mn kvs) ∧ y = kD (.tup ks) ∧ (NestedKey.tup ks).depth ≤ 8 ∧ d.pure = true ∧ kvs.length < 1000000 ∧ P'.nx (ω3.1, ω3.2.put l (.mn (putN kvs (.tup ks) d))) ρ
def sSetN (qo qk qa : QT (WS P w K W)) : QTS (WS P w K W) := fun P' ω ρ => qa ω ρ (fun ω1 d => qo ω1 ρ (fun ω2 x => ∃ l, x = .adr l ∧ qk ω2 ρ (fun ω3 y => kSetN P' ρ d l ω3 y) fun ω' y => P'.ex ω' y ρ) fun ω' y => P'.ex ω' y ρ) fun ω' y => P'.ex ω' y ρ
def kDisp1 (Q : W.Ω × Sto → D → Prop) (p : Addr) (x : D) (ω2 : W.Ω × Sto) (y : D) : Prop := ∃ ks, x = kD (.tup ks) ∧ (NestedKey.tup ks).depth ≤ 8 ∧ y.pure = true ∧ ω2.2 p = some (.mn []) ∧ Q (ω2.1, ω2.2.put p (.mn [(.tup ks, y)])) (.adr p)
def qDispN (qk qv : QT (WS P w K W)) : QT (WS P w K W) := fun ω ρ Q E => ∀ p, ω.2 p = none → qk (ω.1, ω.2.put p (.mn [])) ρ (fun ω1 x => qv ω1 ρ (fun ω2 y => kDisp1 Q p x ω2 y) E) E
end
section
variable {P : Program} {w : World} {K : PySem.W.Frag} {W : Wrl} {q qa qb qc qo qk : QT (WS P w K W)} {ω : W.Ω × Sto} {ρ : List Sl} {Q : W.Ω × Sto → D → Prop} {E : W.Ω × Sto → Exn → Prop} {P' : PEn (WS P w K W)} {d x y : D} {l : Addr} {R : D → Prop} {st : Sto} {neg : Bool} {kvs : List (NestedKey × D)} {ks : List NestedKey}
theorem v_inN (h : qa ω ρ (fun ω1 x => qb ω1 ρ (fun ω2 y => kInN neg ω2.2 x y (Q ω2)) E) E) : qInN neg qa qb ω ρ Q E := h
theorem v_getN (h : qa ω ρ (fun ω1 x => qb ω1 ρ (fun ω2 y => kGetN ω2.2 x y (Q ω2)) E) E) : qGetN qa qb ω ρ Q E := h
theorem v_setN (h : qa ω ρ (fun ω1 d => qo ω1 ρ (fun ω2 x => ∃ l, x = .adr l ∧ qk ω2 ρ (fun ω3 y => kSetN P' ρ d l ω3 y) fun ω' y => P'.ex ω' y ρ) fun ω' y => P'.ex ω' y ρ) fun ω' y => P'.ex ω' y ρ) : sSetN qo qk qa P' ω ρ := h
theorem v_exa {R : Addr → Prop} (h : R l) : ∃ l', D.adr l = .adr l' ∧ R l' := ⟨l, rfl, h⟩
theorem v_dispN {qv : QT (WS P w K W)} (h : ∀ p, ω.2 p = none → qk (ω.1, ω.2.put p (.mn [])) ρ (fun ω1 x => qv ω1 ρ (fun ω2 y => kDisp1 Q p x ω2 y) E) E) : qDispN qk qv ω ρ Q E := h
end
end LW
namespace LW
open PySem PySem.Spec PyProof.Rows L2
def IterB : Bool → Heap → Addr → Addr → Nat → Prop
  | true, h, it, a, i => h.IsTupleIter it a i
  | false, h, it, a, i => h.IsListIter it a i
def SeqB : Bool → Heap → Addr → Array Value → Prop
  | true, h, a, its => h.IsTuple a its
  | false, h, a, its => h.IsList a its
theorem IterB.ob {b : Bool} {h : Heap} {it a : Addr} {i : Nat} (x : IterB b h it a i) : ∃ o vs, h.get? it = some o ∧ o.data = .fields vs := by
  cases b with
  | true => obtain ⟨o, ho, _, hd⟩ := (x : h.IsTupleIter it a i); exact ⟨o, _, ho, hd⟩
  | false => obtain ⟨o, ho, _, hd⟩ := (x : h.IsListIter it a i); exact ⟨o, _, ho, hd⟩
theorem IterB.at {b : Bool} {h h' : Heap} {it a : Addr} {i : Nat} (x : IterB b h it a i) (k : ∀ o, h.get? it = some o → h'.get? it = some o) : IterB b h' it a i := by
  cases b with
  | true => obtain ⟨o, ho, r⟩ := (x : h.IsTupleIter it a i); exact ⟨o, k o ho, r⟩
  | false => obtain ⟨o, ho, r⟩ := (x : h.IsListIter it a i); exact ⟨o, k o ho, r⟩
theorem SeqB.ob {b : Bool} {h : Heap} {a : Addr} {its : Array Value} (x : SeqB b h a its) : ∃ o n, h.get? a = some o ∧ o.data = .seq its n := by
  cases b with
  | true => obtain ⟨o, ho, _, n, hd⟩ := (x : h.IsTuple a its); exact ⟨o, n, ho, hd⟩
  | false => obtain ⟨o, ho, _, n, hd⟩ := (x : h.IsList a its); exact ⟨o, n, ho, hd⟩
theorem SeqB.at {b : Bool} {h h' : Heap} {a : Addr} {its : Array Value} (x : SeqB b h a its) (k : ∀ o, h.get? a = some o → h'.get? a = some o) : SeqB b h' a its := by
  cases b with
  | true => obtain ⟨o, ho, r⟩ := (x : h.IsTuple a its); exact ⟨o, k o ho, r⟩
  | false => obtain ⟨o, ho, r⟩ := (x : h.IsList a its); exact ⟨o, k o ho, r⟩
section
variable {X : Cx} {pins : List (Addr × Obj)} {σ : L2.St} {H : Hp} {s : Shared} {a : Addr} {xs ys : List V} {b : Bool}
end
def enumD : Int → List D → List D
  | _, [] => []
  | k, d :: r => .tup [.int k, d] :: enumD (k + 1) r
section
variable {X : Cx} {W : Wrl} {Wo : WX} {m : Md} {a : Expr} {qa : QT W} {p pos tpos : Pos} {elts : List Expr} {kk : Nat}
def iEnumQ (k0 : Int) (qa : QT W) : QTI W := fun ω ρ Q E => qa ω ρ (fun ω1 d => ∃ ds, (d = .lst ds ∨ d = .tup ds) ∧ Q ω1 (enumD k0 ds)) E
theorem v_iEnumQ {k0 : Int} {ω : W.Ω} {ρ : List Sl} {QL : W.Ω → List D → Prop} {E : W.Ω → Exn → Prop} (h : qa ω ρ (fun ω1 d => ∃ ds, (d = .lst ds ∨ d = .tup ds) ∧ QL ω1 (enumD k0 ds)) E) : iEnumQ k0 qa ω ρ QL E := h
end
section
variable {X : Cx} {W : Wrl} {Wo : WX} {m : Md} {a : Expr} {qa : QT W} {pos : Pos} {C : Addr} {mc : Value} {f : Str} {i : Int}
def qCvI (C : Addr) (i : Int) (qa : QT W) : QT W := fun ω ρ Q E => qa ω ρ (fun ω1 d => kAdr C d (Q ω1 (.int i))) E
theorem v_cvI {ω : W.Ω} {ρ : List Sl} {Q : W.Ω → D → Prop} {E : W.Ω → Exn → Prop} (h : qa ω ρ (fun ω1 d => kAdr C d (Q ω1 (.int i))) E) : qCvI C i qa ω ρ Q E := h
end
section
variable {X : Cx} {W : Wrl} {Wo : WX} {mr : Md} {k : Nat} {f : Addr} {fd : FuncData} {ps : List Str} {fx : Str} {pf : PSp W} {p pos : Pos}
end
end LW
namespace LW
open PySem PySem.Spec PyProof.Rows L2
section
variable {X : Cx} {pins : List (Addr × Obj)} {σ : L2.St} {H : Hp} {s : Shared} {C g a dx p : Addr} {fs : List (Str × V)} {xs : List V} {f : Str} {k : Nat}
end
section
variable {X : Cx} {W : Wrl} {Wo : WX} {m : Md} {a tg : Expr} {qa : QT W} {C g : Addr} {f : Str} {k : Nat}
def kOwn (C : Addr) (f : Str) (d : D) (R : List D → Prop) : Prop := ∃ ns ds xs, d = .ins C ns ds ∧ (ns.zip ds).lookup f = some (.tup xs) ∧ R xs
def iOwnQ (C : Addr) (f : Str) (qa : QT W) : QTI W := fun ω ρ Q E => qa ω ρ (fun ω1 d => kOwn C f d fun xs => Q ω1 xs) E
theorem v_iOwn {ω : W.Ω} {ρ : List Sl} {QL : W.Ω → List D → Prop} {E : W.Ω → Exn → Prop} (h : qa ω ρ (fun ω1 d => kOwn C f d fun xs => QL ω1 xs) E) : iOwnQ C f qa ω ρ QL E := h
theorem v_kOwn {ns : List Str} {ds xs : List D} {R : List D → Prop} (h1 : (ns.zip ds).lookup f = some (.tup xs)) (h : R xs) : kOwn C f (.ins C ns ds) R := ⟨ns, ds, xs, rfl, h1, h⟩
end
section
variable {X : Cx} {pins : List (Addr × Obj)} {σ : L2.St} {C g gl a dx p q : Addr} {fs : List (Str × V)} {xs : List V} {f : Str} {k kl : Nat}
end
section
variable {K : PySem.W.Frag} {W : Wrl} {F : Frm} {T : ASet} {ω : W.Ω} {ρ : List Sl} {σ : L2.St} {H : Hp} {q : Addr} {o : HO}
end
section
variable {X : Cx} {W : Wrl} {Wo : WX} {m : Md} {e : Expr} {es : List Expr} {qs : QTA W} {C g gl : Addr} {f : Str} {k : Nat} {pf : PSp W} {p pos : Pos}
def kListO (C : Addr) (f : Str) (ds : List D) (R : List D → Prop) : Prop := ∃ ns es xs, ds = [.ins C ns es] ∧ (ns.zip es).lookup f = some (.tup xs) ∧ xs.length ≤ 1000000 ∧ R xs
def kN6 (d : D) (R : Prop) : Prop := ∃ n : Int, d = .int n ∧ 0 ≤ n ∧ n ≤ 1000000 ∧ R
def qListO (C : Addr) (f : Str) (pf : PSp W) (qs : QTA W) : QT W := fun ω ρ Q E => qs ω ρ (fun ω1 ds => kListO C f ds fun xs => pf ω1 ds (fun ω' d => kN6 d (Q ω' (.lst xs))) (fun _ _ => False)) E
end
section
variable {X : Cx} {W : Wrl} {Wo : WX} {m : Md} {a : Expr} {qa : QT W} {C p g : Addr} {f : Str} {k : Nat} {pf : PSp W} {fd : FuncData} {ps : List Str} {pos : Pos}
def qProp (C : Addr) (pf : PSp W) (qa : QT W) : QT W := fun ω ρ Q E => qa ω ρ (fun ω1 d => kObj C d (pf ω1 [d] Q (fun _ _ => False))) E
theorem v_prop {ω : W.Ω} {ρ : List Sl} {Q : W.Ω → D → Prop} {E : W.Ω → Exn → Prop} (h : qa ω ρ (fun ω1 d => kObj C d (pf ω1 [d] Q (fun _ _ => False))) E) : qProp C pf qa ω ρ Q E := h
theorem v_listO {qs : QTA W} {ω : W.Ω} {ρ : List Sl} {Q : W.Ω → D → Prop} {E : W.Ω → Exn → Prop} (h : qs ω ρ (fun ω1 ds => kListO C f ds fun xs => pf ω1 ds (fun ω' d => kN6 d (Q ω' (.lst xs))) (fun _ _ => False)) E) : qListO C f pf qs ω ρ Q E := h
end
theorem v_kListO {C : Addr} {f : Str} {ns : List Str} {es xs : List D} {R : List D → Prop} (h1 : (ns.zip es).lookup f = some (.tup xs)) (h2 : xs.length ≤ 1000000) (h : R xs) : kListO C f [.ins C ns es] R := ⟨ns, es, xs, rfl, h1, h2, h⟩
theorem v_kN6 {i : Int} {R : Prop} (h0 : 0 ≤ i) (h1 : i ≤ 1000000) (h : R) : kN6 (.int i) R := ⟨i, rfl, h0, h1, h⟩
theorem qe_FA {X : Cx} {W : Wrl} {Wo : WX} {e : Expr} {q : QT W} (h : QE X .F W Wo e q) : QE X .A W Wo e q := PE.imp h fun σ H Q ⟨F, T, ω, ρ, Qp, Ep, R, q, hx, k⟩ =>
  ⟨F, T, ω, ρ, Qp, Ep, R, q, hx, fun T' ω' d v H' R' e r q' => k T' ω' d v H' R' e (RR.a (m := .F) rfl r) q'⟩
theorem v_puB {b : Bool} {R : Prop} (h : R) : (D.bl b).pure = true ∧ R := ⟨rfl, h⟩
theorem v_puI {b : Int} {R : Prop} (h : R) : (D.int b).pure = true ∧ R := ⟨rfl, h⟩
theorem v_puS {b : Str} {R : Prop} (h : R) : (D.str b).pure = true ∧ R := ⟨rfl, h⟩
theorem v_puN {R : Prop} (h : R) : D.non.pure = true ∧ R := ⟨rfl, h⟩
end LW
namespace LW
open PySem PySem.Spec PyProof.Rows L2
abbrev envS (qual : Str) (scope : Scope) (L f : Addr) (cd : Value) (cc : Addr) : Env := PySem.W.ksEnv qual scope L f cd cc
structure SupD (K : PySem.W.Frag) (F0 : Str) (x qual : Str) (params : Arguments) (body : List Stmt) (scope : Scope) (f D cda cc : Addr) (fd : FuncData) : Prop where
  ex : ∃ (oc : Value) (od : Option Addr) (dV kV doc pm : Value) (an : Option Addr) (ct : Value) (osl : Array (Option Value)),
    fd = PySem.W.ksFn x qual params body scope dV kV doc pm an (.ref cda) ct cc ∧ K.lookup f = some ⟨oc, od, .func fd, osl⟩ ∧ dV = .none
  code : PySem.W.codeIn K (.ref cda) qual = true
  file : ∃ (ccl : Value) (cdd : Option Addr) (vs : Array Value) (ccs : Array (Option Value)) (tf : Tok), K.lookup cda = some ⟨ccl, cdd, .fields vs, ccs⟩ ∧ vs[2]? = some (.str F0 tf)
  cell : ∃ (cl : Value) (cld : Option Addr) (csl : Array (Option Value)), K.lookup cc = some ⟨cl, cld, .cell (some (.ref D)), csl⟩
  clsD : ∃ cd, PySem.W.clsIn K D = some cd
  kp : PySem.W.keepIn K (.ref f) = true
class PG (P : Program) : Prop where
  file : (P.main.file : Str) = "/claim/cut.py"
  sup : (P.main.scope.names.lookup ("super" : Str)).isSome = false
structure SScope (N P : List Str) (sc : Scope) : Prop where
  kind : sc.kind = .function
  co : sc.isCoroutine = false
  gen : sc.isGenerator = false
  nd : N.Nodup
  pre : N.take P.length = P
  par : ∀ x ∈ P, sc.names.lookup x = some .local
  nocell : ∀ y ∈ sc.names, y.2 ≠ .cell
  free : ∀ y, sc.names.lookup y = some .free → y = "__class__"
  cls : sc.names.lookup ("__class__" : Str) = some .free
  sup : sc.names.lookup ("super" : Str) = some .globalImplicit
theorem SScope.free_of {sc : Scope} (h : (sc.names.all fun p => (match p.2 with | .free => false | _ => true) || decide (p.1 = "__class__")) = true) : ∀ y, sc.names.lookup y = some .free → y = "__class__" := fun y hy => by
  have := List.all_eq_true.mp h _ (PySem.mem_of_lookup hy)
  simpa using this
def cxS (CX : CXT) (P : Program) (w : World) (K : PySem.W.Frag) (mg : Str → Option Value) (base : Heap) (N : List Str) (qual : Str) (scope : Scope) (f : Addr) (cda cc : Addr) (A : Around) (outer : List Env) (s : Shared) (H : Hp) (E : XK) : Cx :=
  { prog := P, w := w, K := K, mg := mg, base := base, A := A.deeper (envS qual scope s.heap.objs.size f (.ref cda) cc), N := N, s_0 := s, H_0 := H, env := envS qual scope s.heap.objs.size f (.ref cda) cc, outer := outer, stack := envS qual scope s.heap.objs.size f (.ref cda) cc :: outer,
    ex := [], fn := fun x => decide (x ≠ "__class__"), calm := true, pn := [],
    xe := fun e s' => wpAny (model P w) (A.deeper (envS qual scope s.heap.objs.size f (.ref cda) cc)) (leaving (envS qual scope s.heap.objs.size f (.ref cda) cc) e) (fun _ s'' => CX outer H s E e s'') (fun e' s'' => CX outer H s E e' s'') s' }
structure PSsAt (X : Cx) (full body : List Stmt) (t : TS) : Prop where
  run : ∀ (pins : List (Addr × Obj)) (s : Shared) (σ : L2.St) (H : Hp) (D : Ends), Inv X pins σ H s → t D σ H → PySem.wpAt (model X.prog X.w) X.A (.func full X.env) (execs body X.env) (SP X pins D) X.xe s
theorem zip_lookup {ps : List Str} {us : List Value} {i : Nat} {y : Str} {u : Value} (nd : ps.Nodup) (h1 : ps[i]? = some y) (h2 : us[i]? = some u) : (ps.zip us).reverse.lookup y = some u := by
  have key : ∀ (l : List (Str × Value)), (l.map (·.1)).Nodup → (y, u) ∈ l → l.lookup y = some u := fun l => by
    induction l with
    | nil => intro _ h; cases h
    | cons p l ih =>
      intro n h
      obtain ⟨a, b⟩ := p
      rw [List.lookup_cons]
      rcases List.mem_cons.mp h with z | z
      · cases z
        simp
      · have n' := List.nodup_cons.mp n
        have ne : (y == a) = false := by
          refine beq_eq_false_iff_ne.mpr fun e => n'.1 ?_
          subst e
          exact List.mem_map.mpr ⟨_, z, rfl⟩
        rw [ne]
        exact ih n'.2 z
  refine key _ ?_ ?_
  · rw [List.map_reverse]
    refine List.pairwise_reverse.mpr ?_
    suffices h : ((ps.zip us).map (·.1)).Nodup from List.Pairwise.imp (fun h => Ne.symm h) h
    have : ((ps.zip us).map (·.1)).Sublist ps := by
      clear h1 h2 key
      induction ps generalizing us with
      | nil => simp
      | cons a ps ih =>
        cases us with
        | nil => simp
        | cons b us => exact (ih (List.nodup_cons.mp nd).2).cons₂ a
    exact nd.sublist this
  · rw [List.mem_reverse]
    have e : (ps.zip us)[i]? = some (y, u) := by
      rw [List.getElem?_zip_eq_some]
      exact ⟨h1, h2⟩
    exact List.mem_of_getElem? e
section
variable {CX : CXT} {P : Program} {w : World} {K : PySem.W.Frag} {mg : Str → Option Value} {base : Heap} {N ps : List Str} {x qual : Str} {params : Arguments} {body : List Stmt} {scope : Scope} {f D cda cc : Addr} {fd : FuncData} {F0 : Str} {k : Nat} {sp : Sp}
theorem inv_startS {A : Around} {outer : List Env} {s : Shared} {h1 : Heap} {H : Hp} {E : XK} {us : List Value} {vs : List V} {tk : Nat} (F : SupD K F0 x qual params body scope f D cda cc fd)
    (S : SScope N ps scope) (hd : A.handled = none) (e0 : Env0 P w K mg base A outer s H) (hl : vs.length = ps.length) (r : Vals vs us)
    (hns : h1.Ns s.heap.objs.size (fun y => (ps.zip us).reverse.lookup y)) (hk : ∀ b o, s.heap.get? b = some o → h1.get? b = some o) :
    Inv (cxS CX P w K mg base N qual scope f cda cc A outer s H E) [] (start N vs) H { s with heap := h1, toks := tk } := by
  have hpl : ps.length ≤ N.length := by have := congrArg List.length S.pre; rw [List.length_take] at this; omega
  have noA : ∀ b : Addr, b ∉ (cxS CX P w K mg base N qual scope f cda cc A outer s H E).ex := fun b z => absurd (show b ∈ ([] : List Addr) from z) (by simp)
  obtain ⟨cl, cld, csl, hcc⟩ := F.cell
  have hcb : base.get? cc = some ⟨cl, cld, .cell (some (.ref D)), csl⟩ := e0.mod.kin _ _ hcc
  have onlyC : ∀ y c, (cxS CX P w K mg base N qual scope f cda cc A outer s H E).env.cells.lookup y = some c → y = "__class__" ∧ c = cc := fun y c h => by
    have h' : ([("__class__", cc)] : List (Str × Addr)).lookup y = some c := h
    rw [List.lookup_cons] at h'
    split at h'
    · rename_i e
      exact ⟨eq_of_beq e, (Option.some.inj h').symm⟩
    · cases h'
  refine ⟨⟨e0.mod, S.kind, rfl, rfl, Nat.le_refl _, fun y z c h1 h2 => ?_, fun y hy => ?_, fun y c hf h => ?_, fun _ => hd, Around.frames_deeper e0.frames, .inr ⟨rfl, rfl⟩, fun b z => absurd z (noA b), e0.bs, e0.bsz, fun b _ _ => noA b, fun b z => absurd z (noA b), e0.funs, e0.frf⟩,
    rfl, e0.bare, Un.kept hk, ⟨_, hns, fun i y v h1 h2 h3 => ?_⟩, fun y c h => ?_, e0.hok.fresh (Nat.le_refl _), fun y c h => ?_, fun p hp => absurd (show p ∈ ([] : List (Addr × Obj)) from hp) (by simp), e0.hok.kept hk, ?_⟩
  · rw [(onlyC y c h1).1, (onlyC z c h2).1]
  · have hy : scope.names.lookup y = some .cell ∨ scope.names.lookup y = some .free := hy
    rcases hy with hy | hy
    · exact absurd rfl (S.nocell _ (PySem.mem_of_lookup hy))
    · rw [S.free y hy]
      exact ⟨cc, rfl⟩
  · have e := (onlyC y c h).1
    subst e
    exact absurd (show decide (("__class__" : Str) ≠ "__class__") = true from hf) (by decide)
  · have hi : i < vs.length := by
      unfold L2.start at h2
      by_cases hi : i < vs.length
      · exact hi
      · rw [List.getElem?_append_right (by simpa using hi)] at h2
        rw [List.getElem?_replicate] at h2
        split at h2 <;> cases h2
    have ha : vs[i]? = some v := by
      unfold L2.start at h2
      rw [List.getElem?_append_left (by simpa using hi), List.getElem?_map] at h2
      cases e : vs[i]? with
      | none => rw [e] at h2; cases h2
      | some a => rw [e] at h2; cases h2; rfl
    obtain ⟨u, hu, rv⟩ := r.get ha
    have hp : ps[i]? = some y := by
      rw [← S.pre, List.getElem?_take_of_lt (by omega)]; exact h1
    have ndP : ps.Nodup := by rw [← S.pre]; exact S.nd.sublist (List.take_sublist _ _)
    exact ⟨u, rv, .inl ⟨S.par y (List.mem_of_getElem? hp), zip_lookup ndP hp hu⟩⟩
  · rw [(onlyC y c h).2]
    exact ⟨_, _, hk _ _ (e0.bs _ _ hcb).1, rfl⟩
  · rw [(onlyC y c h).2]
    exact (e0.bs _ _ hcb).2
  · unfold L2.start
    show _ = N.length
    rw [List.length_append, List.length_map, List.length_replicate]
    omega
theorem fn_ofS (F : SupD K F0 x qual params body scope f D cda cc fd) (S : SScope N ps scope) (len : ∀ vs H Q E, sp vs H Q E → vs.length = ps.length)
    (hbody : ∀ (A : Around) (outer : List Env) (s : Shared) (H : Hp) (vs : List V) (Q : VK) (E : XK), Room k (A.deeper (envS qual scope s.heap.objs.size f (.ref cda) cc)) → sp vs H Q E →
      ∃ t, PSsAt (cxS CX P w K mg base N qual scope f cda cc A outer s H E) body body t ∧ t { nx := fun _ H' => Q .non H', rt := Q } (start N vs) H) : FnOk P w K mg base CX (k + 1) f fd ps sp := by
  obtain ⟨oc, od, dV, kV, doc, pm, an, ct, osl, rfl, lk, edV⟩ := F.ex
  refine ⟨len, fun A outer s H args us vs Q E hr e0 hb r hsp => ?_⟩
  have hl := len _ _ _ _ hsp
  have KX : K.In s.heap := e0.mod.kin.keeps fun b o e => (e0.bs b o e).1
  have lim : s.heap.NoLimit := e0.mod.nolimit.keeps fun b o e => (e0.bs b o e).1
  refine PySem.ks_codeAny_call_defAt hr.depth (KX _ _ lk) rfl lim (PySem.W.codeRec_of KX F.code) rfl hb S.nocell (fun y hy => S.par _ (List.of_mem_zip hy).1) (fun h₀ hns hk => ?_) S.co S.gen S.kind
  obtain ⟨t, ht, hq⟩ := hbody A outer s H vs Q E (hr.deeper _) hsp
  have I : Inv (cxS CX P w K mg base N qual scope f cda cc A outer s H E) [] (start N vs) H _ := inv_startS (tk := s.toks + (ps.zip us).length) F S hr.hd e0 hl r hns hk
  refine PySem.ks_wpAt_mono (ht.run [] _ (start N vs) H _ I hq) (fun fl s' hs => ?_) fun e s' hs => hs
  have fin : ∀ {σ' : L2.St} {H' : Hp} {v : V} {u : Value}, Inv (cxS CX P w K mg base N qual scope f cda cc A outer s H E) [] σ' H' s' → RelV v u → Q v H' → CE outer P w H s Q u s' :=
    fun {σ' H' v u} J rv q => ⟨v, H', J.os, J.bare, J.base, J.hok, rv, q⟩
  cases fl with
  | ret u =>
    obtain ⟨v, σ', H', J, rv, q⟩ := hs
    exact fin J rv q
  | next =>
    obtain ⟨σ', H', J, q⟩ := hs
    exact fin (v := V.non) (u := Value.none) J rfl q
  | brk =>
    obtain ⟨_, _, _, q⟩ := hs
    exact False.elim q
  | cont =>
    obtain ⟨_, _, _, q⟩ := hs
    exact False.elim q
end
structure SupE (X : Cx) (f D : Addr) : Prop where
  kind : X.env.scope.kind = .function
  ks : X.env.kindOf ("super" : Str) = some .globalImplicit
  kc : X.env.kindOf ("__class__" : Str) = some .free
  ka : X.env.kindOf ("self" : Str) = some .local
  fu : X.env.func = some f
  look : ∃ (oc : Value) (od : Option Addr) (fd : FuncData) (osl : Array (Option Value)) (ar : Arg), X.K.lookup f = some ⟨oc, od, .func fd, osl⟩ ∧ (fd.params.posonlyargs ++ fd.params.args).head? = some ar ∧ ar.arg = ("self" : Str)
  code : ∃ (cda : Addr) (ccl : Value) (cdd : Option Addr) (vs : Array Value) (ccs : Array (Option Value)) (file : Str) (tf : Tok), X.env.code = .ref cda ∧ X.K.lookup cda = some ⟨ccl, cdd, .fields vs, ccs⟩ ∧ vs[2]? = some (.str file tf) ∧ ((X.prog.main.file : Str) == file) = true
  cell : ∃ (cc : Addr) (cl : Value) (cld : Option Addr) (csl : Array (Option Value)), X.env.cells.lookup ("__class__" : Str) = some cc ∧ X.K.lookup cc = some ⟨cl, cld, .cell (some (.ref D)), csl⟩
  top : (X.prog.main.scope.names.lookup ("super" : Str)).isSome = false
  mgs : X.mg "super" = none
  clsD : ∃ cd, PySem.W.clsIn X.K D = some cd
  glo : X.env.globals = mainGlobals
  blt : X.env.builtins = builtinsNs
theorem supE_of {CX : CXT} {P : Program} {w : World} {K : PySem.W.Frag} {mg : Str → Option Value} {base : Heap} {N ps : List Str} {x qual : Str} {params : Arguments} {body : List Stmt} {scope : Scope} {f D cda cc : Addr} {fd : FuncData} {A : Around} {outer : List Env} {s : Shared} {H : Hp} {E : XK} {ar : Arg} [pg : PG P]
    (F : SupD K "/claim/cut.py" x qual params body scope f D cda cc fd) (S : SScope N ps scope) (hm : mg "super" = none) (hps : ps.head? = some "self") (har : (params.posonlyargs ++ params.args).head? = some ar) (har2 : ar.arg = "self") : SupE (cxS CX P w K mg base N qual scope f cda cc A outer s H E) f D := by
  obtain ⟨oc, od, dV, kV, doc, pm, an, ct, osl, rfl, lk, edV⟩ := F.ex
  obtain ⟨ccl, cdd, vs, ccs, tf, h1, h2⟩ := F.file
  obtain ⟨cl, cld, csl, h3⟩ := F.cell
  refine ⟨S.kind, S.sup, S.cls, S.par _ ?_, rfl, ⟨oc, od, _, osl, ar, lk, har, har2⟩, ⟨cda, ccl, cdd, vs, ccs, "/claim/cut.py", tf, rfl, h1, h2, ?_⟩, ⟨cc, cl, cld, csl, rfl, h3⟩, pg.sup, hm, F.clsD, rfl, rfl⟩
  · cases ps with
    | nil => cases hps
    | cons p r => cases hps; exact List.mem_cons_self
  · rw [show (cxS CX P w K mg base N qual scope f cda cc A outer s H E).prog = P from rfl, pg.file]; exact beq_self_eq_true _
section
variable {X : Cx} {pins : List (Addr × Obj)} {σ : L2.St} {H : Hp} {s : Shared} {f D a C : Addr} {full : List Stmt} {p0 p1 : Pos} {attr : Str} {whole : Sem Value}
theorem super_at {E : Value → Shared → Prop} {Q : Value → Shared → Prop} {ox : Obj} {odx : Option Obj} (S : SupE X f D) (I : Inv X pins σ H s) (hat : (attr == ("__class__" : Str)) = false) (h0 : X.N[0]? = some ("self" : Str)) (hσ : σ[0]? = some (some (.ref a))) (J : PySem.W.InstAt s.heap a ox C odx)
    (hsub : PySem.W.mroIn X.K C (.ref D) = some true)
    (h : ∀ so h', h'.get? so = some (PySem.W.ks_superObj D a C) → so = s.heap.objs.size → (∀ y o, s.heap.get? y = some o → h'.get? y = some o) → Inv X pins σ H { s with heap := h' } → Q (.ref so) { s with heap := h' }) :
    PySem.wpAt (model X.prog X.w) X.A (.func full X.env) (attributeBase (.Call (.Name "super" p0) [] [] p1) attr X.env whole) Q E s := by
  obtain ⟨oc, od, fd, osl, ar, lk, har, har2⟩ := S.look
  obtain ⟨cda, ccl, cdd, vs, ccs, file, tf, hcd, lcd, hvs, hfile⟩ := S.code
  obtain ⟨cc, cl, cld, csl, hcc, lcc⟩ := S.cell
  obtain ⟨cdD, hD⟩ := S.clsD
  have KX := I.kIn
  obtain ⟨oD, hD1, hD2⟩ : ∃ oD, s.heap.get? D = some oD ∧ oD.data = .cls cdD := by
    unfold PySem.W.clsIn at hD
    split at hD
    · rename_i c d cd' sl ho
      cases hD
      exact ⟨_, KX _ _ ho, rfl⟩
    · cases hD
  obtain ⟨m, hns, hlo⟩ := I.loc
  obtain ⟨u, ru, hu⟩ := hlo 0 "self" (.ref a) h0 hσ (.inl S.ka)
  cases (show u = Value.ref a from ru)
  have hms : m "self" = some (.ref a) := by
    rcases hu with ⟨_, z⟩ | ⟨z, _⟩
    · exact z
    · rw [S.ka] at z
      rcases z with z | z <;> cases z
  have hG : s.heap.Ns mainGlobals X.mg := I.ok.mod.glob.keeps I.bk
  obtain ⟨mb, hmb, hbt⟩ := I.ok.mod.blt
  have I0 := I
  obtain ⟨hh, g, d, t, os⟩ := s
  refine PySem.ks_wpAt_super_base S.ks S.kc hat S.fu (KX _ _ lk) rfl har hcd (KX _ _ lcd) rfl hvs hfile S.top ?_
  refine PySem.W.ks_loadName_global S.kind S.ks (PySem.Calls.loadGlobal_builtin (mb := mb) (by rw [S.glo]; exact hG) S.mgs (by rw [S.blt]; exact hmb.keeps I.bk) ((hbt _ (by decide)).trans (show bootBuiltins "super" = some (.type "super") from by decide +kernel)) ⟨rfl, ?_⟩)
  refine wpAny_loadName_free S.kind S.kc hcc ⟨_, KX _ _ lcc, rfl⟩ ?_
  rw [har2]
  refine wpAny_loadName_local S.kind S.ka hns hms ?_
  refine PySem.ks_wpAny_isType_cls hD1 hD2 ⟨rfl, ?_⟩
  refine PySem.ks_wpAny_call_super hD1 hD2 J.at_ J.cls (fun c e => ?_) (PySem.W.looks_mroIn KX hsub) (fun h' e k => ?_)
  · have := J.no
    unfold PySem.W.notCls at this
    rw [e] at this
    exact Bool.noConfusion this
  · exact h _ h' e rfl k (I0.kept (t' := t) k)
end
structure SupX (K : PySem.W.Frag) (C D : Addr) : Prop where
  oex : OexC K C
  init : PySem.W.ks_superIn K C D "__init__" = some (some (.builtin "ValueError.__init__"))
  third : PySem.W.nsIn K cStatics "thirdparty.any" = some none
  sub : PySem.W.mroIn K C (.ref D) = some true
  subV : PySem.W.subIn K (.ref C) (.type "ValueError") = some true
def tSupI (a C : Addr) (ta : TA) (t : TS) : TS := fun D σ H => σ[0]? = some (some (.ref a)) ∧ H a = some (exo a C none) ∧ ta σ H fun vs H1 => vs.length ≤ 1000 ∧ H1 a = some (exo a C none) ∧ t D σ H1
section
variable {X : Cx} {f D a C : Addr} {full rest : List Stmt} {p0 p1 p2 p3 p4 : Pos} {e : Expr} {es : List Expr} {ta : TA} {t : TS}
theorem pssA_supI {pl : Sem Bool} (S : SupE X f D) (T : SupX X.K C D) (h0 : X.N[0]? = some ("self" : Str)) (ha : PA X (e :: es) ta) (hr : PSs X rest t)
    (he : eval (.Call (.Attribute (.Call (.Name "super" p0) [] [] p1) "__init__" p2) (e :: es) [] p3) X.env = (do
      let ov ← attributeBase (.Call (.Name "super" p0) [] [] p1) "__init__" X.env (eval (.Call (.Name "super" p0) [] [] p1) X.env)
      standAt p2.atName
      let (f, first) ← holding [ov] (getMethod ov "__init__" pl)
      callWith p3 f first (backTo p3 (starEach (e :: es) X.env)) []) := by rfl)
    (hst : starEach (e :: es) X.env = (false, eval e X.env) :: starEach es X.env := by rfl) (hpl : (backTo p3 (starEach es X.env)).any (·.1) = false := by rfl)
    (hi : interactive X.env = false := by rfl) (hs : swapsWith (.Call (.Attribute (.Call (.Name "super" p0) [] [] p1) "__init__" p2) (e :: es) [] p3) none p4.line X.env = pure false := by rfl) :
    PSsAt X full (.Expr (.Call (.Attribute (.Call (.Name "super" p0) [] [] p1) "__init__" p2) (e :: es) [] p3) p4 :: rest) (tSupI a C ta t) := by
  refine ⟨fun pins s σ H D' I ⟨hσ, hH, hq⟩ => ?_⟩
  refine PySem.ks_wpAt_execs_cons (PySem.ks_wpAt_Expr_any (PySem.ks_wpAt_MethodCall (pl := pl) ?_ he) hi hs)
  obtain ⟨nm, q, N, bs, bm, sn, sub, ab, col, dd, k0, k1, k2, k3, k5, hC, hbm⟩ := T.oex.cls
  have hcl : PySem.W.clsIn X.K C = some { name := nm, bases := bs, mro := .ref C :: bm, ns := N, qualname := q, hasDict := true, slotNames := sn, subclasses := sub, abstract := ab, collection := col, hasDel := false } := by unfold PySem.W.clsIn; rw [hC] <;> rfl
  obtain ⟨t1, ho⟩ := exo_at I.hok hH
  have J : PySem.W.InstAt s.heap a { cls := .ref C, dict := none, data := .fields #[.ref t1, .none, .none, .none, .bool false, .none] } C none := ⟨ho, rfl, rfl, trivial⟩
  refine super_at S I (by decide) h0 hσ J T.sub fun so h' hso eso k I1 => ?_
  have KX := I1.kIn
  have J1 : PySem.W.InstAt h' a { cls := .ref C, dict := none, data := .fields #[.ref t1, .none, .none, .none, .bool false, .none] } C none := ⟨k _ _ ho, rfl, rfl, trivial⟩
  have hI : PySem.W.Looks (model X.prog X.w) h' (isInstance (.ref a) (.type "ValueError")) true := J1.type.andThen (PySem.W.looks_subIn KX T.subV)
  obtain ⟨hh, g, d, tk, os⟩ := s
  have hm := T.init
  unfold PySem.W.ks_superIn at hm
  rw [hcl] at hm
  refine PySem.W.kxs_getMethod PySem.W.kxs_ValueError hso (PySem.W.looks_opaque KX T.third) (l₀ := .ref C :: bm) ?_ rfl KX hm hI (PySem.W.ks_ne KX J1 hcl) (by decide) ?_
  · exact fun A Q E s k q => wpAny_bind ((PySem.W.looks_clsIn KX hcl) A _ E s k (wpAny_pure q))
  have I2 : Inv X pins σ H ⟨h'.push (PySem.W.kxs_mw "ValueError.__init__" a), g, d, tk + 1, os⟩ := I1.kept (t' := tk + 1) fun b o z => Heap.get?_push_of_some _ z
  have hu : (h'.push (PySem.W.kxs_mw "ValueError.__init__" a)).get? h'.objs.size = some (PySem.W.kxs_mw "ValueError.__init__" a) := Heap.get?_push_at rfl rfl
  have I3 : Inv X ((h'.objs.size, PySem.W.kxs_mw "ValueError.__init__" a) :: pins) σ H ⟨h'.push (PySem.W.kxs_mw "ValueError.__init__" a), g, d, tk + 1, os⟩ :=
    (ClX.pin_new (t' := tk) I1 (fun _ _ z => Heap.get?_push_of_some _ z) (Nat.le_refl _) (Heap.get?_push_size h' rfl) (fun v z => by cases (show Data.fields _ = Data.cell v from z))).tok (tk + 1)
  show wpAny _ _ (callWith p3 (.ref h'.objs.size) [] (backTo p3 (starEach (e :: es) X.env)) []) _ _ _
  have hz := ha.run p3 _ _ σ H _ I3 hq
  rw [hst] at hz ⊢
  refine PySem.W.kxs_callWith (i := "ValueError.__init__") (x := a) (by show (false || (backTo p3 (starEach es X.env)).any (·.1)) = false; rw [hpl] <;> rfl) (PySem.Calls.evalArgs_plain (thn hz fun us s1 ⟨vs, H1, I4, r1, hz, ea, q⟩ => ?_))
  have hu4 : s1.heap.get? h'.objs.size = some (PySem.W.kxs_mw "ValueError.__init__" a) := ClX.pin_at I4
  refine ⟨hu4, ?_⟩
  have I5 := ClX.unpin I4
  obtain ⟨t2, ho2⟩ := exo_at I5.hok ea
  have hC2 := I5.kIn _ _ hC
  obtain ⟨hp, g2, d2, tk2, os2⟩ := s1
  have hlen : us.length ≤ sizeLine := by
    rw [← r1.length, sizeLine_eq]
    omega
  have FB := PySem.F.excBase_ValueError
  refine wpAny_call (codeAny_of_tree ?_)
  show wpAny _ X.A.in1 (callAny (.ref h'.objs.size) ⟨us, []⟩) _ _ _
  simp only [callAny]
  refine wpAny_bind (wpAny_load hu4 ?_)
  simp only [PySem.W.kxs_mw, show (Value.type "method-wrapper" == Value.type "method" || Value.type "method-wrapper" == Value.type "builtin_function_or_method" || Value.type "method-wrapper" == Value.type "method-wrapper") = true by decide, if_true]
  refine PySem.W.KFB.if_so (by decide) ?_
  refine wpAny_bind (PySem.W.check_bound_init FB.toExcCallFacts hC2 ho2 rfl ?_)
  refine wpAny_bind (wpAny_pure (wpAny_pure ?_))
  refine ⟨plainId_quiet FB.init.plain _, codeAny_builtin FB.initEntry ?_⟩
  refine PySem.W.exc_init_tree (cls := .ref C) (t0 := t2) (dv := none) (c2 := .none) (c3 := .none) (b4 := .bool false) ho2 hlen fun h2 k2 e2 t3 => ?_
  have J5 := I5.write (t' := tk2) (x := a) (e := a) (o := exo a C none) (by rw [ea]; exact True.intro) (.inl rfl) k2 ⟨_, e2⟩ (exo_ok e2)
  have eu : upd H1 a (exo a C none) = H1 := by
    funext b
    by_cases hb : b = a
    · rw [hb, upd_same, ea]
    · rw [upd_ne hb]
  rw [eu] at J5
  exact wpAt_of_wpAny (hr.run pins _ σ H1 D' J5 q)
end
theorem DefW.supD {K : PySem.W.Frag} {d : DefW} {C : Str} (hs : d.sup = some C) (hd : d.dfl = []) (e : fnWA K d.sup (d.at_ K) = d.val) (c : d.ok K = true) : ∃ fd cda cc, SupD K "/claim/cut.py" d.name d.qual d.params d.body d.scope (d.at_ K) (He.ga K C) cda cc fd := by
  obtain ⟨kp, c2⟩ := Bool.and_eq_true_iff.mp c
  unfold fnWA at e
  rcases q : K.lookup (d.at_ K) with _ | ⟨oc, od, dt, osl⟩
  · rw [q] at c2
    cases c2
  · rw [q] at c2 e
    cases dt with
    | func fd =>
      obtain ⟨n1, n2, n3, n4, n5, n6, n7, n8, n9, n10, n11, n12, n13, n14, n15⟩ := fd
      unfold DefW.val at e
      rw [hs] at e c2
      have e2 := e
      dsimp only at e2
      simp only [Option.some.injEq, Prod.mk.injEq] at e2
      obtain ⟨h1, h2, h3, h4, h5, h6, h7, h8⟩ := e2
      subst h1 h2 h3 h4 h5 h6 h8
      obtain ⟨c3, c4⟩ := Bool.and_eq_true_iff.mp (show ((PySem.W.codeIn K n13 d.qual && He.dflB K n8 (d.dvs K)) && supB K (He.ga K C) ⟨d.name, d.qual, d.params, .stmts d.body, d.scope, mainGlobals, n7, n8, n9, n10, n11, n12, n13, n14, builtinsNs⟩) = true from c2)
      obtain ⟨k1, k3⟩ := Bool.and_eq_true_iff.mp c3
      obtain ⟨c5, c6⟩ := Bool.and_eq_true_iff.mp c4
      have hdv := He.dflB_ok k3
      unfold DefW.dvs at hdv
      rw [hd] at hdv
      obtain ⟨c7, c8⟩ := Bool.and_eq_true_iff.mp c6
      rcases n7 with _ | ⟨⟨nm, cc⟩, _ | ⟨_, _⟩⟩
      · cases h7
      · have hn : nm = "__class__" := by
          simp at h7
          exact h7
        subst hn
        cases n13 with
        | ref cda =>
          refine ⟨_, cda, cc, ⟨oc, od, n8, n9, n10, n11, n12, n14, osl, rfl, q, (by rcases hdv with ⟨_, z⟩ | ⟨z, _⟩; exact z; exact absurd rfl z)⟩, k1, ?_, ?_, Option.isSome_iff_exists.mp c8, kp⟩
          · dsimp only at c7
            split at c7
            · rename_i ccl cdd vs ccs lk
              split at c7
              · rename_i file tf hv
                rw [of_decide_eq_true c7] at hv
                exact ⟨_, _, _, _, _, lk, hv⟩
              · cases c7
            · cases c7
          · dsimp only at c5
            split at c5
            · rename_i lk
              rw [of_decide_eq_true c5] at lk
              exact ⟨_, _, _, lk⟩
            · cases c5
        | _ => cases c7
      · cases h7
    | _ => cases c2
theorem SupD.fdA_of {K : PySem.W.Frag} {F0 x qual : Str} {params : Arguments} {body : List Stmt} {scope : Scope} {f D : Addr} (h : ∃ fd cda cc, SupD K F0 x qual params body scope f D cda cc fd) : ∃ cda cc, SupD K F0 x qual params body scope f D cda cc (fdA K f) := by
  obtain ⟨fd, cda, cc, h⟩ := h
  have e : fdA K f = fd := by
    obtain ⟨oc, od, dV, kV, doc, pm, an, ct, osl, _, lk, _⟩ := h.ex
    unfold fdA
    rw [lk]
  exact ⟨cda, cc, by rw [e]; exact h⟩
theorem SupD.bindsN {K : PySem.W.Frag} {F0 x qual : Str} {params : Arguments} {body : List Stmt} {scope : Scope} {f D cda cc : Addr} {fd : FuncData} {ps : List Str} (F : SupD K F0 x qual params body scope f D cda cc fd)
    (h : ∀ (kV doc pm : Value) (an : Option Addr) (cdv ct : Value) (cc : Addr) (us : List Value), us.length = ps.length → bindArgs (PySem.W.ksFn x qual params body scope .none kV doc pm an cdv ct cc) ⟨us, []⟩ = pure (ps.zip us)) : Binds K fd ps [] := by
  obtain ⟨oc, od, dV, kV, doc, pm, an, ct, osl, rfl, lk, rfl⟩ := F.ex
  exact .all (h kV doc pm an _ ct cc)
end LW
namespace LW
open PySem PySem.Spec PyProof.Rows L2
section
variable {X : Cx} {P : Program} {w : World} {K : PySem.W.Frag} {W : Wrl} {f f2 D C : Addr} {full rest : List Stmt} {p0 p1 p2 p3 p4 : Pos} {e : Expr} {es : List Expr} {k : Nat}
end
section
variable {X : Cx} {P : Program} {w : World} {W : Wrl} {Wo : WX} {m : Md} {f C : Addr} {pos : Pos} {e fe : Expr} {es : List Expr} {k : Nat}
def mark {α : Type} (l : List α) : List α := l ++ l.take 1
def kMakeZ (C : Addr) (fs : List (Str × D)) (R : D → Prop) : Prop := fs ≠ [] ∧ fs.length < 900 ∧ imm (mark (fs.map (·.1))) = true ∧ R (.ins C (mark (fs.map (·.1))) (mark (fs.map (·.2))))
end
end LW
namespace LW
open PySem PySem.Spec PyProof.Rows L2
section
variable {P : Program} {w : World} {K : PySem.W.Frag} {H : Hp} {S S' : ASet} {os : List Addr} {st : Sto}
end
section
variable {X : Cx} {P : Program} {w : World} {W : Wrl} {Wo : WX} {m : Md} {fe e : Expr} {es : List Expr} {pos : Pos} {C f : Addr} {k : Nat}
def qMakeZS (K : PySem.W.Frag) (P : Program) (w : World) (C : Addr) (pf : PSp (WS P w K W0)) (qf : QT (WS P w K W)) (qs : QTA (WS P w K W)) : QT (WS P w K W) := fun ω ρ Q E => qf ω ρ (fun ω0 d => d = .adr C ∧ qs ω0 ρ (fun ω1 ds0 => kDers ω1.2 ds0 fun ds => ∀ x, pf ((), noSto.put x (.mi C [])) (.adr x :: ds) (fun ω2 d => d = .non ∧ ∃ fs, ω2.2 x = some (.mi C fs) ∧ kMakeZ C fs (Q ω1)) fun _ _ => False) E) E
theorem v_makeZS {K : PySem.W.Frag} {pf : PSp (WS P w K W0)} {qf : QT (WS P w K W)} {qs : QTA (WS P w K W)} {ω : W.Ω × Sto} {ρ : List Sl} {Q : W.Ω × Sto → D → Prop} {E : W.Ω × Sto → Exn → Prop} (h : qf ω ρ (fun ω0 d => kAdr C d (qs ω0 ρ (fun ω1 ds0 => kDers ω1.2 ds0 fun ds => ∀ x, pf ((), noSto.put x (.mi C [])) (.adr x :: ds) (fun ω2 d => d = .non ∧ ∃ fs, ω2.2 x = some (.mi C fs) ∧ kMakeZ C fs (Q ω1)) fun _ _ => False) E)) E) : qMakeZS K P w C pf qf qs ω ρ Q E := h
end
end LW
namespace LW
open PySem PySem.Spec PyProof.Rows L2
def spXI (C : Addr) (f : Str) : Sp := fun vs H Q _ => ∃ (a : Addr) (y : V), vs = [.ref a, y] ∧ H a = some (exo a C none) ∧ ∀ dx, H dx = none → dx ≠ a → Q .non (upd (upd H dx (exd dx [(f, y)])) a (exo a C (some dx)))
theorem xinit_ok {P : Program} {w : World} {K : PySem.W.Frag} {mg : Str → Option Value} {base : Heap} {x qual fp f msg : Str} {params : Arguments} {scope : Scope} {fI C cda cc : Addr} {fd : FuncData} {ar : Arg} [pg : PG P] {body : List Stmt}
    (F : SupD K "/claim/cut.py" x qual params body scope fI C cda cc fd) (S : SScope ["self", fp] ["self", fp] scope) (hm : mg "super" = none) (har : (params.posonlyargs ++ params.args).head? = some ar) (har2 : ar.arg = "self") (T : SupX K C C) (no : PySem.W.findIn K (.ref C) f = some none)
    (hd : ∀ (A : Around) (outer : List Env) (s : Shared) (H : Hp) (E : XK) (a : Addr), SupE (cxS (L2N.CX P w) P w K mg base ["self", fp] qual scope fI cda cc A outer s H E) fI C → PSsAt (cxS (L2N.CX P w) P w K mg base ["self", fp] qual scope fI cda cc A outer s H E) body body (tSupI a C (tCons (tC (.str msg)) tNil) (tOst K f (tVar 0) (tVar 1)))) :
    FnOk P w K mg base (L2N.CX P w) 1 fI fd ["self", fp] (spXI C f) := by
  refine fn_ofS F S (fun vs H Q E ⟨_, _, e, _⟩ => by rw [e] <;> rfl) fun A outer s H vs Q E hr h => ?_
  obtain ⟨a, y, rfl, ha, q⟩ := h
  refine ⟨_, hd A outer s H E a (supE_of (P := P) F S hm rfl har har2), ?_⟩
  refine ⟨rfl, ha, by simp, ha, ?_⟩
  exact ⟨y, rfl, .ref a, rfl, a, C, rfl, T.oex, no, .inl ⟨ha, fun dx n ne => q dx n ne⟩⟩
theorem pmk_oexN {X : Cx} {x : Str} {C fI : Addr} {k : Nat} {fd : FuncData} {ps : List Str} {sp : Sp} {e : Expr} {es : List Expr} {ta : TA} {p pos : Pos} (T : OexC X.K C) (iC : PySem.W.findIn X.K (.ref C) "__init__" = some (some (.ref fI))) (tI : PySem.W.typeIn X.K (.ref fI) = some (.type "function"))
    (F1 : FnOk X.prog X.w X.K X.mg X.base (L2N.CX X.prog X.w) k fI fd ps sp) (hr : Room (k + 1) X.A) (hb : Binds X.K fd ps []) (hg : Gl X x) (hm : X.mg x = some (.ref C)) (ha : PA X (e :: es) ta)
    (hdb : (x == ("__debug__" : Str)) = false := by decide) (he : starEach (e :: es) X.env = (false, eval e X.env) :: starEach es X.env := by rfl) (hpl : (backTo pos (starEach es X.env)).any (·.1) = false := by rfl) :
    L2N.PMk X (.Call (.Name x p) (e :: es) [] pos) (tMkO C sp [] ta) := by
  intro pins s σ H Q I h
  obtain ⟨nm, q, N, bs, bm, sn, sub, ab, col, dd, k0, k1, k2, k3, k5, hC, hbm⟩ := T.cls
  refine wpAny_Call_Name_kw (ld_glob I hg hm ?_ hdb)
  refine PySem.W.callWith_K (h₀ := X.base) I.ok.mod.kin T.kC (thn (ha.run pos pins s σ H _ I h) fun us s1 ⟨vs, H1, I1, r1, hz, q1⟩ => ⟨I1.kIn, ?_⟩) he hpl
  show wpAny _ _ (call (.ref C) us) _ _ _
  obtain ⟨hp, g, dr, tk, os⟩ := s1
  have hsz : hp.objs.size ≤ hp.objs.size + 1 := Nat.le_succ _
  have hn : H1 (hp.objs.size + 1) = none := I1.hok.fresh hsz
  have hq := q1 (hp.objs.size + 1) hn
  rw [List.append_nil] at hq
  have kk : ∀ b o, hp.get? b = some o → ((hp.push (PySem.W.kdv_tup us)).push (PySem.HandSPX.excO C hp.objs.size)).get? b = some o := fun b o e => Heap.get?_push_of_some _ (Heap.get?_push_of_some _ e)
  have hget : ((hp.push (PySem.W.kdv_tup us)).push (PySem.HandSPX.excO C hp.objs.size)).get? (hp.objs.size + 1) = some (PySem.HandSPX.excO C hp.objs.size) := by heap_get
  have I2 : Inv X pins σ (upd H1 (hp.objs.size + 1) (exo (hp.objs.size + 1) C none)) ⟨(hp.push (PySem.W.kdv_tup us)).push (PySem.HandSPX.excO C hp.objs.size), g, dr, tk, os⟩ :=
    I1.laid (t' := tk) (a := hp.objs.size + 1) (o := exo (hp.objs.size + 1) C none) (h' := (hp.push (PySem.W.kdv_tup us)).push (PySem.HandSPX.excO C hp.objs.size)) kk hsz (exo_ok hget)
  have r2 : Vals (V.ref (hp.objs.size + 1) :: vs) (Value.ref (hp.objs.size + 1) :: us) := .cons rfl r1
  have hl : (Value.ref (hp.objs.size + 1) :: us).length = ps.length := by
    have e := r2.length
    rw [F1.len _ _ _ _ hq] at e
    exact e.symm
  have hus : us.length ≤ sizeLine := by
    rw [← Paired.length r1, sizeLine_eq]
    omega
  have hbb := hb _ (Value.ref (hp.objs.size + 1) :: us) I2.kIn (by rw [List.append_nil]; exact hl)
  rw [List.append_nil] at hbb
  refine wpAny_call (PySem.HandSPX.call_own PySem.F.excBase_ValueError (fun Y => PySem.HandSPX.refsVE_contains Y bm hbm) (I1.kIn _ _ hC) (PySem.W.looks_findIn I1.kIn iC) (fun self => PySem.W.bind_fn I1.kIn self tI) hus
    (codeAny_mono (F1.run _ X.stack _ _ ⟨Value.ref (hp.objs.size + 1) :: us, []⟩ (Value.ref (hp.objs.size + 1) :: us) _ _ (fun _ _ _ => False) (hr.make C us []) (I2.env0.make C us []) hbb r2 hq) fun r s' hq' => ?_))
  cases r with
  | error er =>
    obtain ⟨_, _, _, _, _, _, _, _, _, _, _, zz⟩ := hq'
    exact zz.2.elim
  | ok fl =>
    cases fl with
    | ret u =>
      obtain ⟨v, H2, os2, bare2, un2, hok2, rv, ev, d, fs, ea, ed, hd1, q2⟩ := hq'
      subst ev
      obtain ⟨h2, g2, d2, t2, os'⟩ := s'
      obtain ⟨t0, G, J, kG, ge, hoe, na⟩ := mk_end0 (d2 := d2) (t2 := t2) I1 hsz kk un2 hok2 os2 bare2 ea ed hd1
      exact ⟨rv, _, _, _, ⟨G, g2, d2, t2, os'⟩, _, .ref C, some d, rfl, J, kG, ge, hoe, ⟨rfl, rfl, fun vs e => by cases e; rfl⟩, rfl, rfl, na, rfl, bare2, raises_own T.exC T.tyC, q2⟩
    | next => exact False.elim hq'
    | brk => exact False.elim hq'
    | cont => exact False.elim hq'
section
variable {X : Cx} {W : Wrl} {Wo : WX} {mr m : Md} {e : Expr} {es : List Expr} {qa : QT W} {C fI : Addr} {f x : Str} {k : Nat} {fd : FuncData} {ps : List Str} {p pos pos2 : Pos}
def sRaiseX (C : Addr) (f : Str) (qa : QT W) : QTS W := fun P ω ρ => qa ω ρ (fun ω1 d => d.pure = true ∧ P.ex ω1 ⟨C, some (f, d)⟩ ρ) fun ω1 y => P.ex ω1 y ρ
theorem qs_raiseX (hc : X.calm = true) (tk : L2N.Takes X Wo) (T : OexC X.K C) (iC : PySem.W.findIn X.K (.ref C) "__init__" = some (some (.ref fI))) (tI : PySem.W.typeIn X.K (.ref fI) = some (.type "function"))
    (F1 : FnOk X.prog X.w X.K X.mg X.base (L2N.CX X.prog X.w) k fI fd ps (spXI C f)) (hr : Room (k + 1) X.A) (hb : Binds X.K fd ps []) (hg : Gl X x) (hm : X.mg x = some (.ref C)) (he : QE X m W Wo e qa) (hms : m.st = true := by rfl)
    (hdb : (x == ("__debug__" : Str)) = false := by decide) (h1 : starEach [e] X.env = (false, eval e X.env) :: starEach [] X.env := by rfl) :
    QS X mr W Wo (.Raise (some (.Call (.Name x p) [e] [] pos)) none pos2) (sRaiseX C f qa) := PS.imp (L2N.ps_raise hc tk (pmk_oexN T iC tI F1 hr hb hg hm (pa_cons he pa_nil h1) hdb h1)) fun D σ H ⟨F, T0, ω, ρ, P, R, q, S⟩ => by
  refine ⟨F, T0, ω, ρ, _, _, R, q, S.xok, fun T1 ω1 d v H1 R1 e1 r1 ⟨hp, q1⟩ => ?_⟩
  show ([v] : List V).length ≤ 1000 ∧ _
  refine ⟨by simp, fun a na => ?_⟩
  refine ⟨a, v, rfl, upd_same, fun dx n ne => ⟨rfl, dx, _, upd_same, by rw [upd_ne ne]; exact upd_same, ?_, ?_⟩⟩
  · by_cases z : dx = a
    · exact absurd z ne
    · rw [upd_ne z] at n
      exact n
  have nd : H1 dx = none := by rw [upd_ne ne] at n; exact n
  have eH : upd (del (upd (upd (upd H1 a (exo a C none)) dx (exd dx [(f, v)])) a (exo a C (some dx))) a) dx (.xd [(f, v)]) = upd H1 dx (.xd [(f, v)]) := by
    funext b
    by_cases hb : b = dx
    · rw [hb, upd_same, upd_same]
    · rw [upd_ne hb, upd_ne hb]
      by_cases hba : b = a
      · rw [hba, del_same, na]
      · rw [del_ne hba, upd_ne hba, upd_ne hb, upd_ne hba]
  rw [eH]
  have g : GrP nop H1 (upd H1 dx (.xd [(f, v)])) := GrP.new nd
  have ra : RepA X.K H1 (fun _ => True) d v := (RR.a hms r1).any hp
  exact S.ex T1 ω1 ρ σ _ ⟨C, some (f, d)⟩ _ _ (R1.grow g) ⟨rfl, dx, v, rfl, upd_same, ra.ext g (fun _ z => z.elim) fun a z => .inl trivial⟩ q1
theorem v_raiseX {P : PEn W} {ω : W.Ω} {ρ : List Sl} (h : qa ω ρ (fun ω1 d => d.pure = true ∧ P.ex ω1 ⟨C, some (f, d)⟩ ρ) fun ω1 y => P.ex ω1 y ρ) : sRaiseX C f qa P ω ρ := h
end
theorem oexB_ok {K : PySem.W.Frag} {C : Addr} (h : oexB K C = true) : OexC K C := by
  obtain ⟨h1, h⟩ := and2 h
  obtain ⟨h2, h⟩ := and2 h
  obtain ⟨h3, h⟩ := and2 h
  obtain ⟨h4, h5⟩ := and2 h
  refine ⟨?_, of_decide_eq_true h2, of_decide_eq_true h3, of_decide_eq_true h4, h5⟩
  split at h1
  · rename_i dd cd sl ho
    split at h1
    · rename_i C' bm k0 k1 k2 k3 n k5 hm hs
      obtain ⟨a1, h1⟩ := and2 h1
      obtain ⟨a2, h1⟩ := and2 h1
      obtain ⟨a3, h1⟩ := and2 h1
      obtain ⟨a4, a5⟩ := and2 h1
      have a1 := of_decide_eq_true a1
      have a2 := of_decide_eq_true a2
      subst a1 a2
      obtain ⟨nm, bs, mro, ns, qn, hd, sn, sub, ab, col, del⟩ := cd
      dsimp only at hm a3 a4
      have a3 : del = false := by simpa using a3
      subst hm a3 a4
      have hsl : sl = #[k0, k1, k2, k3, some (.builtin "ValueError.__new__"), k5] := by
        obtain ⟨l⟩ := sl
        simp at hs
        rw [hs]
      subst hsl
      exact ⟨nm, qn, ns, bs, bm, sn, sub, ab, col, dd, k0, k1, k2, k3, k5, ho, a5⟩
    · cases h1
  · cases h1
structure SupXF (K : PySem.W.Frag) (C fI : Addr) (f : Str) : Prop where
  sx : SupX K C C
  no : PySem.W.findIn K (.ref C) f = some none
  iC : PySem.W.findIn K (.ref C) "__init__" = some (some (.ref fI))
  tI : PySem.W.typeIn K (.ref fI) = some (.type "function")
theorem supxB_ok {K : PySem.W.Frag} {x f : Str} (h : supxB K x f = true) : SupXF K (He.ga K x) (He.ma K (He.ga K x) "__init__") f := by
  obtain ⟨h1, h⟩ := and2 h
  obtain ⟨h2, h⟩ := and2 h
  obtain ⟨h3, h⟩ := and2 h
  obtain ⟨h4, h⟩ := and2 h
  obtain ⟨h5, h⟩ := and2 h
  obtain ⟨h6, h⟩ := and2 h
  obtain ⟨h7, h8⟩ := and2 h
  exact ⟨⟨oexB_ok h1, of_decide_eq_true h2, of_decide_eq_true h3, of_decide_eq_true h4, of_decide_eq_true h5⟩, of_decide_eq_true h6, of_decide_eq_true h7, of_decide_eq_true h8⟩
end LW
namespace LW
open PySem PySem.Spec PyProof.Rows L2
section
variable {X : Cx} {W : Wrl} {Wo : WX} {mi : Md} {qi : QTI W} {g : QTG} {qe : QT W} {vs ts : List Nat} {elt tg iter : Expr} {scope : Scope} {own : List (Str × Nat)} {pos pos2 p : Pos}
def kSc (g : QTG) (qe : QT W) (vs : List Nat) (ρ : List Sl) (ω1 : W.Ω) (ds : List D) (R : D → Prop) : Prop := still ρ vs = true ∧ ds.length ≤ 1000 ∧ ∃ f : Nat → Int, (∀ i d, ds[i]? = some d → g d (wipeP ρ vs) fun ρ2 => wipeP ρ2 vs = wipeP ρ vs ∧ qe ω1 ρ2 (fun ω2 y => ω2 = ω1 ∧ y = .int (f i)) (fun _ _ => False)) ∧
  ∀ n : Nat, (n = 1 ↔ 0 < ds.length ∧ ∀ i, i < ds.length → f i = f 0) → R (.int n)
def qLenSc (qi : QTI W) (g : QTG) (qe : QT W) (vs : List Nat) : QT W := fun ω ρ Q E => qi ω ρ (fun ω1 ds => kSc g qe vs ρ ω1 ds (Q ω1)) E
def ScInv (f : Nat → Int) (i : Nat) (S : Int → Bool) (n : Nat) : Prop := (∀ j, S j = true ↔ ∃ k, k < i ∧ f k = j) ∧ n ≤ i ∧ (n = 0 ↔ i = 0) ∧ (n = 1 ↔ 0 < i ∧ ∀ k, k < i → f k = f 0)
theorem ScInv.step {f : Nat → Int} {i n : Nat} {S : Int → Bool} (h : ScInv f i S n) : ScInv f (i + 1) (fun j => S j || decide (j = f i)) (if S (f i) = true then n else n + 1) := by
  obtain ⟨h1, h2, h3, h4⟩ := h
  refine ⟨fun j => ?_, by split <;> omega, ?_, ?_⟩
  · rw [Bool.or_eq_true, h1 j, decide_eq_true_iff]
    refine ⟨fun z => ?_, fun ⟨k, hk, e⟩ => ?_⟩
    · rcases z with ⟨k, hk, e⟩ | z
      · exact ⟨k, by omega, e⟩
      · exact ⟨i, by omega, z.symm⟩
    · by_cases z : k = i
      · exact .inr (by rw [← e, z])
      · exact .inl ⟨k, by omega, e⟩
  · split
    · rename_i hs
      obtain ⟨k, hk, _⟩ := (h1 _).mp hs
      omega
    · omega
  · split
    · rename_i hs
      obtain ⟨k, hk, e⟩ := (h1 _).mp hs
      rw [h4]
      refine ⟨fun ⟨z1, z2⟩ => ⟨by omega, fun m hm => ?_⟩, fun ⟨_, z2⟩ => ⟨by omega, fun m hm => z2 m (by omega)⟩⟩
      by_cases y : m = i
      · rw [y, ← e]; exact z2 k hk
      · exact z2 m (by omega)
    · rename_i hs
      refine ⟨fun z => ⟨by omega, fun m hm => ?_⟩, fun ⟨_, z2⟩ => ?_⟩
      · have : i = 0 := h3.mp (by omega)
        rw [show m = 0 by omega]
      · by_cases y : i = 0
        · have := h3.mpr y
          omega
        · exact absurd ((h1 _).mpr ⟨0, by omega, (z2 i (by omega)).symm⟩) hs
theorem v_lenSc {ω : W.Ω} {ρ : List Sl} {Q : W.Ω → D → Prop} {E : W.Ω → Exn → Prop} (h : qi ω ρ (fun ω1 ds => kSc g qe vs ρ ω1 ds (Q ω1)) E) : qLenSc qi g qe vs ω ρ Q E := h
end
end LW
namespace LW
open PySem PySem.Spec PyProof.Rows L2
def fCountT (d : LW.D) (es : List LW.D) (Q : LW.D → Prop) : Prop := ∃ (ns : List Int) (z : Int), d = .tup (dInts ns) ∧ es = [.int z] ∧ Q (.int (ns.count z : Nat))
def fCountL (d : LW.D) (es : List LW.D) (Q : LW.D → Prop) : Prop := ∃ (ns : List Int) (z : Int), d = .lst (dInts ns) ∧ es = [.int z] ∧ Q (.int (ns.count z : Nat))
theorem v_tcount {ns : List Int} {z : Int} {Q : LW.D → Prop} (h : Q (.int (ns.count z : Nat))) : fCountT (.tup (dInts ns)) [.int z] Q := ⟨ns, z, rfl, rfl, h⟩
theorem v_lcount {ns : List Int} {z : Int} {Q : LW.D → Prop} (h : Q (.int (ns.count z : Nat))) : fCountL (.lst (dInts ns)) [.int z] Q := ⟨ns, z, rfl, rfl, h⟩
section
variable {X : Cx} {W : Wrl} {Wo : WX} {m : Md} {a : Expr} {qa : QT W} {p q pos apos c0 c1 : Pos} {n : Int} {j k j0 : Nat} {y z : Str}
end
theorem MkP.dfl {K : PySem.W.Frag} {C : Addr} {sp : Sp} {pf : PSp W0} {dvs : List V} {dds : List D} (h : MkP K C sp pf) (hd : ∀ H S, RepsA K H S dds dvs) : MkP K C (fun vs H Q E => sp (vs ++ dvs) H Q E) (fun ω ds Q E => pf ω (ds ++ dds) Q E) :=
  ⟨fun S T ds vs H Q E Qp Ep hS r q k kx x dx nx ndx ne => h.run S T (ds ++ dds) (vs ++ dvs) H Q E Qp Ep hS (RepsA.append (hd _ _) r) q k kx x dx nx ndx ne⟩
section
variable {X : Cx} {W : Wrl} {Wo : WX} {mr : Md} {pf : PSp W} {qs : QTA W} {k : Nat} {f : Addr} {fd : FuncData} {ps : List Str} {x : Str} {p pos : Pos} {e : Expr} {es : List Expr} {dvs : List V} {dds : List D} {ds : List Value}
end
end LW
namespace LW
open PySem PySem.Spec PyProof.Rows L2
theorem PK.imp {X : Cx} {e : List Keyword} {t t' : TA} (h : PK X e t) (k : ∀ σ H Q, t' σ H Q → t σ H Q) : PK X e t' := ⟨fun p pins s σ H Q I q => h.run p pins s σ H Q I (k σ H Q q)⟩
section
variable {X : Cx} {W : Wrl} {Wo : WX} {m m1 : Md} {e : Expr} {kws : List Keyword} {kpos : Pos} {nm : Option Str} {qa : QT W} {qs qk : QTA W}
def qCallK (n m : Nat) (g : List D → List D → List D) (pf : PSp W) (qs qk : QTA W) : QT W := fun ω ρ Q E => qs ω ρ (fun ω1 ds => qk ω1 ρ (fun ω2 es => ds.length = n ∧ es.length = m ∧ pf ω2 (g ds es) Q E) E) E
variable {k n : Nat} {f : Addr} {fd : FuncData} {ps ks : List Str} {pf : PSp W} {x : Str} {p pos : Pos} {es : List Expr} {g : List Value → List Value → List Value} {gV : List V → List V → List V} {gD : List D → List D → List D} {mr : Md}
variable {ω : W.Ω} {ρ : List Sl} {Q : W.Ω → LW.D → Prop} {E : W.Ω → Exn → Prop}
theorem v_callK {m : Nat} (h : qs ω ρ (fun ω1 ds => qk ω1 ρ (fun ω2 es => ds.length = n ∧ es.length = m ∧ pf ω2 (gD ds es) Q E) E) E) : qCallK n m gD pf qs qk ω ρ Q E := h
end
end LW
namespace LW
open PySem PySem.Spec PyProof.Rows L2
def Tape (b : Nat) (H : Hp) (t : Addr) : Prop := ∃ (a : Addr) (o : Obj) (ns : List Int) (i n k : Int), H t = some (.lst [.ref a, .int i, .int n, .int k]) ∧ H a = some (.frz o (.lst (ns.map V.int))) ∧ ns.length ≤ 63 ∧ 0 ≤ i ∧ 0 ≤ n ∧ 0 ≤ k ∧ k ≤ b
theorem Tape.mono {b b' : Nat} {H : Hp} {t : Addr} (h : Tape b H t) (l : b ≤ b') : Tape b' H t := by
  obtain ⟨a, o, ns, i, n, k, h1, h2, h4, h5, h6, h7, h8⟩ := h
  exact ⟨a, o, ns, i, n, k, h1, h2, h4, h5, h6, h7, by omega⟩
theorem Tape.gr {b : Nat} {H H' : Hp} {t : Addr} {S : List Addr} (h : Tape b H t) (g : Gr S H H') (hn : t ∉ S) : Tape b H' t := by
  obtain ⟨a, o, ns, i, n, k, h1, h2, h3⟩ := h
  exact ⟨a, o, ns, i, n, k, g.keep _ _ h1 hn, g.get h2 rfl, h3⟩
theorem Tape.gr0 {b : Nat} {H H' : Hp} {t : Addr} (h : Tape b H t) (g : Gr [] H H') : Tape b H' t := h.gr g (by simp)
theorem Tape.gr1 {b : Nat} {H H' : Hp} {t l : Addr} (h : Tape b H t) (g : Gr [l] H H') (hn : t ≠ l) : Tape b H' t := h.gr g (by simpa using hn)
theorem Tape.at {b : Nat} {H : Hp} {t : Addr} (h : Tape b H t) : ∃ xs, H t = some (.lst xs) := by
  obtain ⟨a, o, ns, i, n, k, h1, _⟩ := h
  exact ⟨_, h1⟩
theorem Tape.ne {b : Nat} {H : Hp} {t l : Addr} (h : Tape b H t) (e : H l = none) : t ≠ l := by
  obtain ⟨xs, h1⟩ := h.at
  exact ne_of_none h1 e
inductive TS
  | scr (a : Addr) (ns : List Int)
  | tape (t : Addr) (b : Nat)
def FzL (K : PySem.W.Frag) (H : Hp) (a : Addr) (xs : List V) : Prop := (∃ o, H a = some (.frz o (.lst xs))) ∨
  ∃ (o : Obj) (its : Array Value) (n : Nat), K.lookup a = some o ∧ o.cls = .type "list" ∧ o.dict = none ∧ o.data = .seq its n ∧ its.size ≤ sizeLine ∧ Vals xs its.toList
theorem FzL.sql {K : PySem.W.Frag} {H : Hp} {a : Addr} {xs : List V} (h : FzL K H a xs) : SqL K H a xs := h.imp .inr id
theorem FzL.of {K : PySem.W.Frag} {H : Hp} {a : Addr} {xs : List V} (hO : Only H) (h : SqL K H a xs) : FzL K H a xs := by
  rcases h with (h | h) | h
  · rcases hO a with z | ⟨o, ys, z⟩
    · rw [z] at h; cases h
    · rw [z] at h; cases h
  · exact .inl h
  · exact .inr h
def invT (K : PySem.W.Frag) : TS → ASet → Hp → Prop
  | .scr a ns, T, H => (∀ x, ¬ T x) ∧ FzL K H a (ns.map V.int) ∧ ns.length ≤ 63
  | .tape t b, T, H => (∀ x, T x ↔ x = t) ∧ Tape b H t
@[reducible] def WT (K : PySem.W.Frag) : Wrl where
  Ω := TS
  inv := invT K
  st := by
    intro ω T U H H' h g hU
    cases ω with
    | scr a ns =>
      obtain ⟨h1, h2, h3⟩ := h
      refine ⟨h1, ?_, h3⟩
      rcases h2 with ⟨o, h2⟩ | h2
      · exact .inl ⟨o, g.keep _ _ h2 (.inl rfl)⟩
      · exact .inr h2
    | tape t b =>
      obtain ⟨h1, a, o, ns, i, n, k, h2, h3, h4⟩ := h
      exact ⟨h1, a, o, ns, i, n, k, g.keep _ _ h2 (.inr fun z => hU t z ((h1 t).mpr rfl)), g.keep _ _ h3 (.inl rfl), h4⟩
  lv := by
    intro ω T H a h ht
    cases ω with
    | scr a ns => exact absurd ht (h.1 _)
    | tape t b =>
      obtain ⟨h1, a, o, ns, i, n, k, h2, h3, h4⟩ := h
      have := (h1 _).mp ht
      subst this
      exact ⟨_, h2, rfl⟩
variable {K : PySem.W.Frag}
def pf__law_begin (K : PySem.W.Frag) : PSp (WT K) := fun ω ds Q _ => ∃ (a : Addr) (ns : List Int), ω = TS.scr a ns ∧ ds = [.adr a] ∧ ∀ t : Addr, Q (TS.tape t 0) (.adr t)
def pf__law_draw (K : PySem.W.Frag) : PSp (WT K) := fun ω ds Q _ => ∃ (t : Addr) (b : Nat) (m : Int), ω = TS.tape t b ∧ ds = [.adr t, .int m] ∧ b < 1000000000 ∧ 0 < m ∧ m < 2 ^ 256 ∧ ∀ r : Int, 0 ≤ r → r < m → Q (TS.tape t (b + 1)) (.int r)
theorem v_begin {a : Addr} {ns : List Int} {Q : TS → D → Prop} {E : TS → Exn → Prop} (h : ∀ t : Addr, Q (.tape t 0) (.adr t)) : pf__law_begin K (TS.scr a ns) [.adr a] Q E := ⟨a, ns, rfl, rfl, h⟩
theorem v_draw {t : Addr} {b : Nat} {m : Int} {Q : TS → D → Prop} {E : TS → Exn → Prop} (hb : b < 1000000000) (hm : 0 < m) (hm2 : m < 2 ^ 256) (h : ∀ r : Int, 0 ≤ r → r < m → Q (.tape t (b + 1)) (.int r)) : pf__law_draw K (TS.tape t b) [.adr t, .int m] Q E := ⟨t, b, m, rfl, rfl, hb, hm, hm2, h⟩
def pf_law (K : PySem.W.Frag) : PSp (WT K) := fun ω ds Q _ => ∃ (a : Addr) (ns : List Int), ω = TS.scr a ns ∧ ds = [.adr a] ∧ ∀ ω', Q ω' (.bl true)
theorem sp_law_of {H : Hp} {a : Addr} {ns : List Int} (hl : ns.length ≤ 63) (hO : Only H) (hS : SqL K H a (ns.map V.int)) : spM .A K (WT K) (pf_law K) [.ref a] H (fun v _ => v = .bl true) (fun _ _ _ => False) :=
  ⟨nop, nop, TS.scr a ns, [.adr a], fun _ d => d = .bl true, fun _ _ => False, fun _ z => z.elim, ⟨fun _ z => z, FzL.of hO hS, hl⟩, .cons (.adr a) .nil, ⟨a, ns, rfl, rfl, fun _ => rfl⟩, fun T' ω' d v H' _ _ r q => by
    subst q
    exact (RR.c (m := .A) (os := []) (H := H) (show RR .A K H H' _ [] (.bl true) v from r)).bl, fun _ _ _ _ _ _ _ _ _ z => z.elim⟩
theorem from_begin {vs : List V} {H : Hp} {Q : VK} {E : XK} (h : spM .A K (WT K) (pf__law_begin K) vs H Q E) : ∃ (a : Addr) (ns : List Int), vs = [.ref a] ∧ SqL K H a (ns.map V.int) ∧ ns.length ≤ 63 ∧ ∀ t H', H t = none → Gr [] H H' → Tape 0 H' t → Q (.ref t) H' := by
  obtain ⟨S, T, ω, ds, Qp, Ep, hS, hi, r, ⟨a, ns, rfl, rfl, q⟩, k, kx⟩ := h
  obtain ⟨h1, h2, h3⟩ := hi
  cases r with
  | cons r r2 =>
    cases r2
    cases r
    refine ⟨a, ns, rfl, h2.sql, h3, fun t H' n g ht => ?_⟩
    exact k (fun x => x = t) (TS.tape t 0) (.adr t) _ H' ⟨(g.p0).mono fun _ z => z.elim, fun x z => .inr (by rw [z]; exact n)⟩ ⟨fun x => Iff.rfl, ht⟩ (RepA.adr t) (q t)
theorem from_draw {vs : List V} {H : Hp} {Q : VK} {E : XK} (h : spM .A K (WT K) (pf__law_draw K) vs H Q E) : ∃ (t : Addr) (m : Int) (b : Nat), vs = [.ref t, .int m] ∧ Tape b H t ∧ b < 1000000000 ∧ 0 < m ∧ m < 2 ^ 256 ∧ ∀ (r : Int) H', 0 ≤ r → r < m → Gr [t] H H' → Tape (b + 1) H' t → Q (.int r) H' := by
  obtain ⟨S, T, ω, ds, Qp, Ep, hS, hi, r, ⟨t, b, m, rfl, rfl, hb, hm, hm2, q⟩, k, kx⟩ := h
  obtain ⟨h1, h2⟩ := hi
  cases r with
  | cons r r2 =>
    cases r2 with
    | cons r2 r3 =>
      cases r3
      cases r
      cases r2
      refine ⟨t, m, b, rfl, h2, hb, hm, hm2, fun i H' i0 i1 g ht => ?_⟩
      obtain ⟨xs, hx⟩ := ht.at
      exact k T (TS.tape t (b + 1)) (.int i) _ H' ⟨(g.p1 ⟨_, hx⟩).mono fun x z => (h1 x).mpr z, fun x z => .inl z⟩ ⟨h1, ht⟩ (RepA.int i) (q i i0 i1)
def pf__law_shuffled (K : PySem.W.Frag) : PSp (WT K) := fun ω ds Q _ => ∃ (t : Addr) (b m : Nat), ω = TS.tape t b ∧ ds = [.adr t, .int m] ∧ b < 100000000 ∧ 1 ≤ m ∧ m ≤ 12 ∧ ∀ ps : List Int, IsNum ps → ps.length = m → Q (TS.tape t (b + 12)) (.lst (dInts ps))
theorem v_shuffled {t : Addr} {b m : Nat} {Q : TS → D → Prop} {E : TS → Exn → Prop} (hb : b < 100000000) (m1 : 1 ≤ m) (m2 : m ≤ 12) (h : ∀ ps : List Int, IsNum ps → ps.length = m → Q (.tape t (b + 12)) (.lst (dInts ps))) : pf__law_shuffled K (TS.tape t b) [.adr t, .int m] Q E := ⟨t, b, m, rfl, rfl, hb, m1, m2, h⟩
theorem from_shuffled {vs : List V} {H : Hp} {Q : VK} {E : XK} (h : spM .F K (WT K) (pf__law_shuffled K) vs H Q E) : ∃ (t : Addr) (m b : Nat), vs = [.ref t, .int m] ∧ Tape b H t ∧ b < 100000000 ∧ 1 ≤ m ∧ m ≤ 12 ∧ ∀ l ps H', H l = none → Gr [t] H H' → H' l = some (.lst (ps.map V.int)) → IsNum ps → ps.length = m → Tape (b + 12) H' t → Q (.ref l) H' := by
  obtain ⟨S, T, ω, ds, Qp, Ep, hS, hi, r, ⟨t, b, m, rfl, rfl, hb, m1, m2, q⟩, k, kx⟩ := h
  obtain ⟨h1, h2⟩ := hi
  cases r with
  | cons r r2 =>
    cases r2 with
    | cons r2 r3 =>
      cases r3
      cases r
      cases r2
      refine ⟨t, m, b, rfl, h2, hb, m1, m2, fun l ps H' n g hl hp lp ht => ?_⟩
      obtain ⟨xs, hx⟩ := ht.at
      refine k T (TS.tape t (b + 12)) (.lst (dInts ps)) _ H' ⟨(g.p1 ⟨_, hx⟩).mono fun x z => (h1 x).mpr z, fun x z => .inl z⟩ ⟨h1, ht⟩ ⟨l, _, _, rfl, rfl, n, fun z => ?_, hl, repsA_ints ps⟩ (q ps hp lp)
      rcases z with z | z
      · exact (hS l z).1 n
      · exact h2.ne n ((h1 l).mp z).symm
def pf__law_same : PSp W0 := fun _ ds Q _ => (∃ d e : D, ds = [d, e] ∧ d = e ∧ d.lev 8 = true ∧ Q () (.bl true)) ∨ ∃ x y : Str, ds = [.str x, .str y] ∧ x ≠ y ∧ Q () (.bl false)
theorem v_same {d e : D} {Q : Unit → D → Prop} {E : Unit → Exn → Prop} (h1 : d = e) (h2 : d.lev 8 = true) (h : Q () (.bl true)) : pf__law_same () [d, e] Q E := .inl ⟨d, e, rfl, h1, h2, h⟩
theorem from_same {vs : List V} {H : Hp} {Q : VK} {E : XK} (h : spM .A K W0 pf__law_same vs H Q E) : (∃ (v w : V) (d : D), vs = [v, w] ∧ Rep K H d v ∧ Rep K H d w ∧ d.lev 8 = true ∧ Q (.bl true) H) ∨ ∃ x y : Str, vs = [.str x, .str y] ∧ x ≠ y ∧ Q (.bl false) H := by
  obtain ⟨S, T, ω, ds, Qp, Ep, hS, hi, r, ⟨d, e, rfl, rfl, hl, q⟩ | ⟨x, y, rfl, hn, q⟩, k, kx⟩ := h
  · cases r with
    | cons r r2 =>
      cases r2 with
      | cons r2 r3 =>
        cases r3
        exact .inl ⟨_, _, d, rfl, r.rep, r2.rep, hl, k T () (.bl true) _ H .refl hi (RepA.bl true) q⟩
  · cases r with
    | cons r r2 =>
      cases r2 with
      | cons r2 r3 =>
        cases r3
        cases r
        cases r2
        exact .inr ⟨x, y, rfl, hn, k T () (.bl false) _ H .refl hi (RepA.bl false) q⟩
end LW
namespace LW
open PySem PySem.Spec PyProof.Rows L2
abbrev numD (K : PySem.W.Frag) (ps : List Int) : D := .ins (NC K) ["places"] [.tup (dInts ps)]
def pf_Numbering (K : PySem.W.Frag) : PSp W0 := fun _ ds Q E => ∃ ns : List Int, (ds = [.lst (dInts ns)] ∨ ds = [.tup (dInts ns)]) ∧ ((¬ IsNum ns ∧ E () ⟨He.ga K "BadNumbering", none⟩) ∨ (IsNum ns ∧ Q () (numD K ns)))
section
variable {K : PySem.W.Frag}
theorem v_num {ns : List Int} {Q : Unit → D → Prop} {E : Unit → Exn → Prop} (hn : IsNum ns) (h : Q () (numD K ns)) : pf_Numbering K () [.lst (dInts ns)] Q E := ⟨ns, .inl rfl, .inr ⟨hn, h⟩⟩
theorem v_numT {ns : List Int} {Q : Unit → D → Prop} {E : Unit → Exn → Prop} (hn : IsNum ns) (h : Q () (numD K ns)) : pf_Numbering K () [.tup (dInts ns)] Q E := ⟨ns, .inr rfl, .inr ⟨hn, h⟩⟩
theorem pure_num (ps : List Int) : (numD K ps).pure = true := by
  show ((D.tup (dInts ps)).pure && true) = true
  rw [Bool.and_true]
  exact pure_ints ps
theorem mkp_num : MkP K (NC K) (sp_Numbering___init__ K) (pf_Numbering K) where
  run := by
    rintro S T ds vs H Q E Qp Ep hS r ⟨ns, hd, q⟩ k kx x dx nx ndx ne
    have g := Gr.made (C := NC K) nx ndx
    have key : ∃ p, vs = [.ref p] ∧ (SqL K H p (ns.map V.int) ∨ TupX H p (ns.map V.int)) := by
      rcases hd with rfl | rfl
      · cases r with
        | cons r r2 =>
          cases r2
          obtain ⟨l, xs, rfl, hl, hr⟩ := repA_lst r
          rw [hr.ints] at hl
          exact ⟨l, rfl, .inl hl⟩
      · cases r with
        | cons r r2 =>
          cases r2
          cases r with
          | tup h hr =>
            rw [hr.ints] at h
            exact ⟨_, rfl, .inr h⟩
    obtain ⟨p, rfl, hp⟩ := key
    refine ⟨x, dx, p, ns, rfl, upd_same, hp.imp g.sql0 (·.gr g), q.imp (fun ⟨h1, h2⟩ => ⟨h1, fun H' g' => ?_⟩) fun ⟨h1, h2⟩ => ⟨h1, fun t H' g' hx ht => ⟨rfl, ?_⟩⟩⟩
    · exact kx ⟨He.ga K "BadNumbering", none⟩ _ none H' (g.trans0 g').p0 ⟨rfl, rfl⟩ h2
    · have gg : Gr [] H H' := g.transN g' nx
      exact k _ _ H' gg.p0 (.ins (xs := [.ref t]) hx rfl rfl (.cons (.tup ht (repsA_ints ns)) .nil)) h2
def pf_Numbering___call__ (K : PySem.W.Frag) : PSp W0 := fun _ ds Q E => ∃ (ps : List Int) (k : Int), ds = [numD K ps, .int k] ∧ ((0 ≤ k ∧ k < ps.length ∧ Q () (.int (atP ps k))) ∨ (¬ (0 ≤ k ∧ k < ps.length) ∧ E () ⟨He.ga K "NoCell", some ("cell", .int k)⟩))
def pf_Numbering___eq__ (K : PySem.W.Frag) : PSp W0 := fun _ ds Q _ => ∃ ps qs : List Int, ds = [numD K ps, numD K qs] ∧ Q () (.bl (decide (ps = qs)))
variable {Q : Unit → D → Prop} {E : Unit → Exn → Prop} {ps qs : List Int} {k n b : Int}
theorem v_numCall (h0 : 0 ≤ k) (h1 : k < ps.length) (h : Q () (.int (atP ps k))) : pf_Numbering___call__ K () [numD K ps, .int k] Q E := ⟨ps, k, rfl, .inl ⟨h0, h1, h⟩⟩
theorem v_numEq (h : Q () (.bl (decide (ps = qs)))) : pf_Numbering___eq__ K () [numD K ps, numD K qs] Q E := ⟨ps, qs, rfl, h⟩
end
theorem atI_ints {ns : List Int} {k : Int} (h0 : 0 ≤ k) (h1 : k < ns.length) : atI (dInts ns) k = some (.int (atP ns k)) := by
  refine atI_of h0 ?_
  unfold dInts atP
  rw [List.getElem?_map, List.getD_eq_getElem?_getD, List.getElem?_eq_getElem (by omega)] <;> rfl
theorem length_dInts (ns : List Int) : (dInts ns).length = ns.length := by unfold dInts; rw [List.length_map]
theorem dep_tupI (ns : List Int) (n : Nat) : (D.tup (dInts ns)).dep (n + 1) = true := dep_ints ns n
theorem dep_lstI (ns : List Int) (n : Nat) : (D.lst (dInts ns)).dep (n + 1) = true := dep_ints ns n
theorem deq_tupI {a b : List Int} : deq (.tup (dInts a)) (.tup (dInts b)) = decide (a = b) := by
  by_cases h : a = b
  · rw [decide_eq_true h, deq_t (by rw [h])]
  · rw [decide_eq_false h, deq_f fun z => h (dInts_inj (D.tup.inj z))]
theorem deq_lstI {a b : List Int} : deq (.lst (dInts a)) (.lst (dInts b)) = decide (a = b) := by
  by_cases h : a = b
  · rw [decide_eq_true h, deq_t (by rw [h])]
  · rw [decide_eq_false h, deq_f fun z => h (dInts_inj (D.lst.inj z))]
end LW
namespace LW
open PySem PySem.Spec PyProof.Rows L2
def nextR (n : Nat) (b : List Int) : List (List Int) := ((rg n).filter fun p => !decide (p ∈ b)).map fun p => b ++ [p]
def rowsP (n : Nat) : Nat → List (List Int)
  | 0 => [[]]
  | k + 1 => (rowsP n k).flatMap (nextR n)
def allP (n : Nat) : List (List Int) := rowsP n n
structure RowOk (n k : Nat) (b : List Int) : Prop where
  len : b.length = k
  nd : b.Nodup
  rng : ∀ x ∈ b, 0 ≤ x ∧ x < n
theorem rowsP_ok {n : Nat} : ∀ {k : Nat} {b : List Int}, b ∈ rowsP n k → RowOk n k b
  | 0, b, h => by
    rw [List.mem_singleton.mp h]
    exact ⟨rfl, List.nodup_nil, fun x hx => by cases hx⟩
  | k + 1, b, h => by
    obtain ⟨a, ha, hb⟩ := List.mem_flatMap.mp h
    obtain ⟨p, hp, rfl⟩ := List.mem_map.mp hb
    obtain ⟨h1, h2⟩ := List.mem_filter.mp hp
    have r := rowsP_ok ha
    have hn : p ∉ a := by simpa using h2
    refine ⟨by rw [List.length_append, r.len] <;> rfl, ?_, fun x hx => ?_⟩
    · rw [List.nodup_append]
      refine ⟨r.nd, List.nodup_cons.mpr ⟨(fun z => by cases z), List.nodup_nil⟩, ?_⟩
      intro x hx y hy e
      rw [List.mem_singleton.mp hy] at e
      rw [e] at hx
      exact hn hx
    · rcases List.mem_append.mp hx with q | q
      · exact r.rng x q
      · rw [List.mem_singleton.mp q]
        have := mem_rg.mp h1
        exact ⟨by omega, by omega⟩
theorem nextR_len {n : Nat} {b : List Int} : (nextR n b).length ≤ n := by
  unfold nextR
  rw [List.length_map]
  refine Nat.le_trans (List.length_filter_le _ _) ?_
  rw [length_rg]
  exact Nat.le_refl _
theorem flatMap_len {α β : Type} {f : α → List β} {n : Nat} (h : ∀ a, (f a).length ≤ n) : ∀ l : List α, (l.flatMap f).length ≤ l.length * n
  | [] => by simp
  | a :: l => by
    rw [List.flatMap_cons, List.length_append, List.length_cons, Nat.add_mul, Nat.one_mul, Nat.add_comm]
    exact Nat.add_le_add (flatMap_len h l) (h a)
theorem rowsP_len {n : Nat} (h : n ≤ 6) : ∀ k, (rowsP n k).length ≤ 6 ^ k
  | 0 => Nat.le_refl _
  | k + 1 => by
    refine Nat.le_trans (flatMap_len (n := 6) (fun a => Nat.le_trans nextR_len h) _) ?_
    rw [Nat.pow_succ]
    exact Nat.mul_le_mul (rowsP_len h k) (Nat.le_refl _)
theorem pow6 {k : Nat} (h : k ≤ 6) : 6 ^ k ≤ 46656 := by
  have : 6 ^ k ≤ 6 ^ 6 := Nat.pow_le_pow_right (by decide) h
  exact this
theorem allP_num {n : Nat} (h1 : 1 ≤ n) (h : n ≤ 12) {b : List Int} (hb : b ∈ allP n) : IsNum b ∧ b.length = n := by
  have r := rowsP_ok hb
  exact ⟨IsNum.of h1 h r.len r.nd r.rng, r.len⟩
theorem flatMap_take {α β : Type} {f : α → List β} {l : List α} {i : Nat} {a : α} (h : l[i]? = some a) : (l.take (i + 1)).flatMap f = (l.take i).flatMap f ++ f a := by
  rw [List.take_succ, h, List.flatMap_append]
  simp
def pf_every_numbering (K : PySem.W.Frag) : PSpG := fun ds ys fin => ∃ n : Int, ds = [.int n] ∧ ((1 ≤ n ∧ n ≤ 6 ∧ ys = (allP n.toNat).map (numD K) ∧ fin = none) ∨ (¬ (1 ≤ n ∧ n ≤ 6) ∧ ys = [] ∧ fin = some ⟨He.ga K "BadSize", none⟩))
theorem v_every {K : PySem.W.Frag} {n : Nat} {R : List D → Option Exn → Prop} (h1 : 1 ≤ n) (h2 : n ≤ 6) (h : R ((allP n).map (numD K)) none) : ∃ ys fin, pf_every_numbering K [.int n] ys fin ∧ R ys fin :=
  ⟨_, _, ⟨n, rfl, .inl ⟨by omega, by omega, rfl, rfl⟩⟩, h⟩
theorem v_everyX {K : PySem.W.Frag} {n : Int} {R : List D → Option Exn → Prop} (h1 : ¬ (1 ≤ n ∧ n ≤ 6)) (h : R [] (some ⟨He.ga K "BadSize", none⟩)) : ∃ ys fin, pf_every_numbering K [.int n] ys fin ∧ R ys fin :=
  ⟨_, _, ⟨n, rfl, .inr ⟨h1, rfl, rfl⟩⟩, h⟩
end LW
namespace LW
open PySem PySem.Spec PyProof.Rows L2
end LW
namespace LW
open PySem PySem.Spec PyProof.Rows L2
def lineNo (w : Str) (L : Nat) : Int := match (List.range L).find? fun (i : Nat) => decide (w = ((toString (i : Int) : String) : Str)) with
  | some i => i
  | none => -1
def movesW : List Str := ["take", "give", "on"]
def condsW : List Str := ["first", "empty", "mine", "other", "none", "full", "enough", "behind"]
def rowD (v : Str) (b : Bool) (c : Str) (t : Int) : D := .tup [.str v, .bl b, .str c, .int t]
def parseW (w0 : Str) (ws : List Str) (L : Nat) : D :=
  if ws = [] ∧ (w0 = "rest" ∨ w0 = "room") then rowD w0 false "" 0
  else if ws = [] ∧ Txt.removesuffix w0 "*" ∈ movesW then rowD (Txt.removesuffix w0 "*") (Txt.endswith w0 "*") "" 0
  else if ws.length = 1 ∧ w0 = "wait" ∧ ws.headD "" ∈ condsW then rowD w0 false (ws.headD "") 0
  else if ws.length = 1 ∧ w0 = "go" ∧ 0 ≤ lineNo ((w0 :: ws).getLastD "") L then rowD w0 false "" (lineNo ((w0 :: ws).getLastD "") L)
  else if ws.length = 2 ∧ (w0 = "if" ∨ w0 = "unless") ∧ ws.headD "" ∈ condsW ∧ 0 ≤ lineNo ((w0 :: ws).getLastD "") L then rowD w0 false (ws.headD "") (lineNo ((w0 :: ws).getLastD "") L)
  else .non
def OkT (L : Nat) (t : Str) (r : D) : Prop := ∃ w0 ws, Txt.split t " " = w0 :: ws ∧ t.length ≤ 1000 ∧ w0.length ≤ 1000 ∧ ws.length ≤ 1000 ∧ parseW w0 ws L = r ∧ r.isNon = false ∧ r.pure = true
def OkP (ts : List Str) (rs : List D) : Prop := 1 ≤ ts.length ∧ ts.length ≤ 24 ∧ rs.length = ts.length ∧ ts[0]? = some ("rest" : Str) ∧ ∀ (i : Nat) (t : Str) (r : D), ts[i]? = some t → rs[i]? = some r → OkT ts.length t r
def nS (n : Nat) : Str := ((toString (n : Int) : String) : Str)
structure Cmd where
  v : Str
  s : Bool
  c : Str
  n : Nat
deriving DecidableEq
def Cmd.ok (L : Nat) (k : Cmd) : Prop :=
  ((k.v = "rest" ∨ k.v = "room") ∧ k.s = false ∧ k.c = "" ∧ k.n = 0) ∨ (k.v ∈ movesW ∧ k.c = "" ∧ k.n = 0) ∨ (k.v = "wait" ∧ k.s = false ∧ k.c ∈ condsW ∧ k.n = 0) ∨
  (k.v = "go" ∧ k.s = false ∧ k.c = "" ∧ k.n < L) ∨ ((k.v = "if" ∨ k.v = "unless") ∧ k.s = false ∧ k.c ∈ condsW ∧ k.n < L)
def Cmd.words (k : Cmd) : List Str :=
  if k.v = "go" then [k.v, nS k.n] else if k.v = "wait" then [k.v, k.c] else if k.v = "if" ∨ k.v = "unless" then [k.v, k.c, nS k.n] else [k.v ++ (if k.s then "*" else "")]
def Cmd.text (k : Cmd) : Str :=
  if k.v = "go" then ("go " : Str) ++ nS k.n else if k.v = "wait" then ("wait " : Str) ++ k.c else if k.v = "if" ∨ k.v = "unless" then k.v ++ " " ++ k.c ++ " " ++ nS k.n else k.v ++ (if k.s then "*" else "")
def Cmd.row (k : Cmd) : D := rowD k.v k.s k.c k.n
def nosc (t : Str) : Bool := (TL.tl t).all fun c => c != 59
def Ins (L : Nat) (t : Str) : Prop := t.length ≤ 40 ∧ ∃ k : Cmd, k.ok L ∧ k.text = t ∧ Txt.split t " " = k.words ∧ OkT L t k.row ∧ nosc t = true
theorem nosc_not {t : Str} (h : nosc t = true) : 59 ∉ TL.tl t := fun z => by
  have := List.all_eq_true.mp h 59 z
  exact absurd this (by decide)
theorem split_joinP {ts : List Str} (h0 : ts ≠ []) (h : ∀ t ∈ ts, nosc t = true) : Txt.split (Txt.join "; " ts) "; " = ts :=
  TL.split_join (s := 59) (S := [32]) (by decide +kernel) (by decide +kernel) h0 fun p hp => nosc_not (h p hp)
theorem exists_rows {L : Nat} : ∀ {ts : List Str}, (∀ t ∈ ts, Ins L t) → ∃ rs : List D, rs.length = ts.length ∧ ∀ (i : Nat) (t : Str) (r : D), ts[i]? = some t → rs[i]? = some r → OkT L t r
  | [], _ => ⟨[], rfl, fun i t r h => by simp at h⟩
  | t :: ts, h => by
    obtain ⟨rs, h1, h2⟩ := exists_rows (ts := ts) fun x hx => h x (List.mem_cons_of_mem _ hx)
    obtain ⟨_, k, _, _, _, hr, _⟩ := h t List.mem_cons_self
    refine ⟨k.row :: rs, by simp [h1], fun i t' r' e1 e2 => ?_⟩
    cases i with
    | zero =>
      simp at e1 e2
      subst e1 e2
      exact hr
    | succ i => exact h2 i t' r' (by simpa using e1) (by simpa using e2)
def WrittenP (ts : List Str) : Prop := 1 ≤ ts.length ∧ ts.length ≤ 24 ∧ ts[0]? = some ("rest" : Str) ∧ ∀ t ∈ ts, Ins ts.length t
theorem WrittenP.ok {ts : List Str} (h : WrittenP ts) : ∃ rs, OkP ts rs := by
  obtain ⟨rs, h1, h2⟩ := exists_rows h.2.2.2
  exact ⟨rs, h.1, h.2.1, h1, h.2.2.1, h2⟩
theorem WrittenP.split {ts : List Str} (h : WrittenP ts) : Txt.split (Txt.join "; " ts) "; " = ts := split_joinP (fun z => by have := h.1; rw [z] at this; exact absurd this (by decide)) fun t ht => by
  obtain ⟨_, _, _, _, _, _, z⟩ := h.2.2.2 t ht
  exact z
section
variable {K : PySem.W.Frag} {Q : Unit → D → Prop} {E : Unit → Exn → Prop} {ts : List Str} {rs : List D}
end
end LW
namespace LW
open PySem PySem.Spec PyProof.Rows L2
section
variable {R : Bool → Prop} {i : Int} {z : Str} {ds : List D} {b : Bool} {Q1 : D → Prop}
theorem kit_int : kitB "int" "int" = some true := by decide +kernel
theorem kit_intB : kitB "int" "bool" = some false := by decide +kernel
theorem kit_tup : kitB "tuple" "tuple" = some true := by decide +kernel
theorem kit_lst : kitB "list" "list" = some true := by decide +kernel
theorem kit_bl : kitB "bool" "bool" = some true := by decide +kernel
theorem kit_str : kitB "str" "str" = some true := by decide +kernel
theorem v_isInt (h : R true) : kIsT "int" (.int i) R := ⟨rfl, true, kit_int, h⟩
theorem v_isIntB (h : R false) : kIsT "bool" (.int i) R := ⟨rfl, false, kit_intB, h⟩
theorem v_isTup (h : R true) : kIsT "tuple" (.tup ds) R := ⟨rfl, true, kit_tup, h⟩
theorem v_isLst (h : R true) : kIsT "list" (.lst ds) R := ⟨rfl, true, kit_lst, h⟩
theorem v_isBl (h : R true) : kIsT "bool" (.bl b) R := ⟨rfl, true, kit_bl, h⟩
theorem v_isStr (h : R true) : kIsT "str" (.str z) R := ⟨rfl, true, kit_str, h⟩
end
theorem any_dInts {z : Int} : ∀ ns : List Int, ((dInts ns).any fun x => x.same (.int z)) = decide (z ∈ ns)
  | [] => by simp [dInts]
  | n :: ns => by
    show (decide (n = z) || ((dInts ns).any fun x => x.same (.int z))) = _
    rw [any_dInts ns]
    by_cases h : n = z
    · subst h; simp
    · have h' : z ≠ n := fun q => h q.symm
      simp [h, h']
theorem flat_dInts (ns : List Int) : (dInts ns).all D.flat = true := List.all_eq_true.mpr fun d hd => by
  obtain ⟨i, _, rfl⟩ := List.mem_map.mp hd
  rfl
theorem v_ninLI {z : Int} {ns : List Int} {Q1 : D → Prop} (h : Q1 (.bl (!decide (z ∈ ns)))) : fIn true (.int z) (.lst (dInts ns)) Q1 := ⟨dInts ns, .inl rfl, rfl, flat_dInts ns, by rw [any_dInts]; exact h⟩
end LW
namespace LW
open PySem PySem.Spec PyProof.Rows L2
section
variable {W : Wrl} {P : PEn W} {ω : W.Ω} {ρ : List Sl} {s : QTS W} {g : QTG}
end
end LW
namespace LW
open PySem PySem.Spec PyProof.Rows L2
section
variable {W : Wrl} {ω : W.Ω} {ρ : List Sl} {Q : W.Ω → D → Prop} {g : QTG} {qt : QTT W} {qe : QT W} {vs : List Nat} {ds : List D}
theorem v_kLcF (p : D → Bool) (f : D → D) (hl : ds.length ≤ 1000000) (hst : still ρ vs = true)
    (hs : ∀ (i : Nat) (d : D) (Qy : W.Ω → D → Prop) (Qn : W.Ω → Prop), ds[i]? = some d → (p d = true → Qy ω (f d)) → (p d = false → Qn ω) → g d (wipeP ρ vs) fun ρ2 => wipeP ρ2 vs = wipeP ρ vs ∧ qt ω ρ2 (fun ω2 b => if b = true then qe ω2 ρ2 Qy (fun _ _ => False) else Qn ω2) (fun _ _ => False))
    (hd : Q ω (.lst ((ds.filter p).map f))) : kLcQ g qt qe vs ρ Q ω ds := by
  refine ⟨hst, hl, fun i ω' acc => ω' = ω ∧ acc = ((ds.take i).filter p).map f, ⟨rfl, rfl⟩, fun i d ω' acc hi ⟨e1, e2⟩ _ => ?_, fun ω' acc ⟨e1, e2⟩ => by rw [e1, e2, List.take_length]; exact hd⟩
  subst e1 e2
  have e : ds.take (i + 1) = ds.take i ++ [d] := by rw [List.take_succ, hi] <;> rfl
  refine hs i d _ _ hi (fun hp => ⟨rfl, ?_⟩) (fun hp => ⟨rfl, ?_⟩)
  · rw [e, List.filter_append, List.map_append, List.filter_cons_of_pos hp] <;> rfl
  · rw [e, List.filter_append, List.map_append, List.filter_cons_of_neg (by rw [hp]; decide)]
    exact (List.append_nil _).symm
end
end LW
namespace LW
open PySem PySem.Spec PyProof.Rows L2 GenW
abbrev zgH1 (h : Heap) (l : Addr) : Heap := h.push { cls := .type "list_iterator", data := .fields #[.ref l, .int 0 0] }
abbrev zgH3 (h : Heap) (l a : Addr) : Heap := (zgH1 h l).push { cls := .type "tuple", data := .seq #[.ref h.objs.size, .ref a] }
abbrev zgH4 (h : Heap) (l a : Addr) : Heap := (zgH3 h l a).push { cls := .type "tuple", data := .seq #[.none, .none] }
abbrev zgH5 (h : Heap) (l a : Addr) : Heap := (zgH4 h l a).push { cls := .type "zip", data := .fields #[.none, .bool false, .bool false, .ref (zgH1 h l).objs.size, .ref (zgH3 h l a).objs.size] }
theorem meets_zipG_new (l a g : Addr) (xs : Array Value) :
    Meets (Builtin.«zip.__new__» ⟨[.type "zip", .ref l, .ref a], []⟩) (fun _ R s => s.heap.IsList l xs ∧ s.heap.IsGen a g ∧
      R (.ok (.ret (.ref (zgH4 s.heap l a).objs.size))) { s with heap := zgH5 s.heap l a }) :=
  .of_wp fun prog w A R s h => by
    obtain ⟨hp, g', d, tk, os⟩ := s; obtain ⟨hl1, hl2, h⟩ := h
    have hsub := sub_zip
    have hL1 : Heap.IsList (Shared.heap ⟨hp, g', d, tk, os⟩) l xs := hl1
    have hL2 : Heap.IsGen (Shared.heap ⟨hp.push { cls := .type "list_iterator", data := .fields #[.ref l, .int 0 0] }, g', d, tk, os⟩) a g := Heap.IsGen.keeps hl2 fun b o e => Heap.get?_push_of_some _ e
    wp_walk using wpAny_pyIter_list hL1, wpAny_pyIter_gen hL2
    exact ⟨_, rfl, h⟩
section
variable {prog : Program} {w : World} {A : Around} {E : Value → Shared → Prop} {s : Shared}
theorem zipG_next_end {z TI TO i1 a l : Addr} {Q : Option Value → Shared → Prop} (hh : A.handled = none) (d1 : i1 ≠ z) (d2 : l ≠ z) (hz : IsZip s.heap z TI TO .none) (hTI : IsPair s.heap TI (.ref i1) (.ref a))
    (h1 : s.heap.IsListIter i1 l 0) (hl1 : s.heap.IsList l #[]) (hQ : ∀ h', (∀ c o, c ≠ z → c ≠ i1 → s.heap.get? c = some o → h'.get? c = some o) → Q none { s with heap := h' }) : wpAny (model prog w) A (pyNext (.ref z)) Q E s := by
  have hT : s.TypeIs (.ref z) "zip" := ⟨_, hz, rfl⟩
  unfold pyNext
  refine wpAny_bind (wpAny_attempt (wpAny_callSpecial?_slot (name := Str.ofString "__next__") hT F.slot_zip_next
    (wpAny_call_entry F.slot_zip_next hT F.entry_zip_next ?_ (F.args_zip_next_1 _))))
  show wpAny _ _ (field (.ref z) 2 >>= _) _ _ _
  refine wpAny_bind (wpAny_field hz rfl (x := .bool false) rfl ?_)
  show wpAny _ _ (field (.ref z) 3 >>= _) _ _ _
  refine wpAny_bind (wpAny_field hz rfl (x := .ref TI) rfl ?_)
  refine wpAny_bind (wpAny_seqItems hTI rfl ?_)
  show wpAny _ _ (Builtin.SmallTypes.ownedTupleIsFree (.ref z) >>= _) _ _ _
  refine wpAny_bind ?_
  unfold Builtin.SmallTypes.ownedTupleIsFree
  refine wpAny_bind (wpAny_field hz rfl (x := .none) rfl (wpAny_pure ?_))
  simp only [if_true]
  refine wpAny_bind (wpAny_rule ?_)
  refine wpAny_bind (wpAny_field hz rfl (x := .ref TO) rfl ?_)
  refine wpAny_bind (wpAny_setField_rec hz (by simp) fun h₁ hz₁ hs₁ => ?_)
  replace hz₁ : IsZip h₁ z TI TO .ellipsis := hz₁
  refine wpAny_bind ?_
  simp only [List.zipIdx_cons, List.zipIdx_nil, List.forIn_cons, List.forIn_nil]
  refine wpAny_bind (wpAny_bind (wpAny_onRaise ?_))
  show wpAny _ _ (Builtin.SmallTypes.nextOf (.ref i1) >>= _) _ _ _
  refine wpAny_bind (wpAny_nextOf_list_end hh (h1.extBut hs₁.extBut d1) (hl1.extBut hs₁.extBut d2) rfl fun h₂ e hs₂ he => ?_)
  obtain ⟨oe, hoe, hce⟩ := he
  have hz₂ : IsZip h₂ z TI TO .ellipsis := hs₂ _ _ d1.symm hz₁
  have hez : e ≠ z := fun x => by subst x; rw [hz₂] at hoe; cases hoe; simp at hce
  refine wpAny_setField_rec hz₂ (by simp) fun h₃ _ hs₃ => ?_
  refine wpAny_bind (wpAny_isInstance (T := "StopIteration") (b := true) ⟨oe, hs₃.extBut _ _ hez hoe, hce⟩ isSubtype_stop ?_)
  exact wpAny_pure (hQ _ fun c o c1 c3 x => hs₃.extBut _ _ c1 (hs₂ _ _ c3 (hs₁.extBut _ _ c1 x)))
theorem call_zipG {l a g : Addr} {xs : Array Value} {Q : Value → Shared → Prop} (hl1 : s.heap.IsList l xs) (hl2 : s.heap.IsGen a g)
    (h : ∀ h', IsZip h' (s.heap.objs.size + 3) (s.heap.objs.size + 1) (s.heap.objs.size + 2) .none → IsPair h' (s.heap.objs.size + 1) (.ref s.heap.objs.size) (.ref a) →
      h'.IsListIter s.heap.objs.size l 0 → (∀ c o, s.heap.get? c = some o → h'.get? c = some o) → Q (.ref (s.heap.objs.size + 3)) { s with heap := h' }) :
    wpAny (model prog w) A (call (.type "zip") [.ref l, .ref a]) Q E s := by
  refine callType_new F.called_zip (by decide) (F.typeCall_zip_2 _ _) (F.newCall_zip_2 _ _) (fun obj => F.args_object_init_3 obj _ _) F.entry_zip_new
    (meets_zipG_new l a g xs) ⟨hl1, hl2, ?_⟩
  have z1 : (zgH1 s.heap l).objs.size = s.heap.objs.size + 1 := Heap.size_push ..
  have z3 : (zgH3 s.heap l a).objs.size = s.heap.objs.size + 2 := by rw [Heap.size_push, z1]
  have z4 : (zgH4 s.heap l a).objs.size = s.heap.objs.size + 3 := by rw [Heap.size_push, z3]
  have g5 : (zgH5 s.heap l a).get? (zgH4 s.heap l a).objs.size = some _ := Heap.get?_push_size _ rfl
  have g3 : (zgH5 s.heap l a).get? (zgH1 s.heap l).objs.size = some _ := Heap.get?_push_of_some _ (Heap.get?_push_of_some _ (Heap.get?_push_size _ rfl))
  have g1 : (zgH5 s.heap l a).get? s.heap.objs.size = some _ := Heap.get?_push_of_some _ (Heap.get?_push_of_some _ (Heap.get?_push_of_some _ (Heap.get?_push_size _ rfl)))
  show _ ∧ _
  rw [z1, z3, z4] at g5
  rw [z1] at g3
  rw [z4]
  exact ⟨⟨_, g5, rfl⟩, h _ g5 g3 ⟨_, g1, rfl, rfl⟩ fun c o x =>
    Heap.get?_push_of_some _ (Heap.get?_push_of_some _ (Heap.get?_push_of_some _ (Heap.get?_push_of_some _ x)))⟩
end
def sForZ0 {W : Wrl} (qg : QTGen W) : QTS W := fun P ω ρ => qg ω ρ (fun ω1 _ _ => P.nx ω1 ρ) fun ω1 x => P.ex ω1 x ρ
theorem qs_forZip0 {X : Cx} {W : Wrl} {Wo : WX} {mr : Md} {tg e2 : Expr} {body : List Stmt} {p p1 pos cpos : Pos} {k : Nat} {qg : QTGen W} (hp : PassesOwn (model X.prog X.w) X.A X.env X.xe) (hc : X.calm = true) (hk : Room (k + 1) X.A)
    (hg : Gl X "zip") (hm : X.mg "zip" = none) (hgen : QGen X k W Wo e2 qg)
    (hs0 : starEach [.List [] p1, e2] X.env = (false, eval (.List [] p1) X.env) :: starEach [e2] X.env := by rfl) (hs1 : starEach [e2] X.env = (false, eval e2 X.env) :: starEach [] X.env := by rfl) (hpl : (backTo cpos (starEach [e2] X.env)).any (·.1) = false := by rfl)
    (hs : ∀ x, foldedSetIterable (.Call (.Name "zip" p) [.List [] p1, e2] [] cpos) X.env x = pure x := by intro _; rfl) : QS X mr W Wo (.For tg (.Call (.Name "zip" p) [.List [] p1, e2] [] cpos) body [] pos) (sForZ0 qg) := by
  refine ⟨fun pins s0 σ0 H0 D I0 ⟨F, T0, ω0, ρ0, P, R0, hq, S⟩ => ?_⟩
  have hcal := I0.ok.hd hc
  refine wpAny_For ?_ hs
  refine Call_ (ld_blt I0 hg hm PyProof.Rows.boot_zip (PyProof.Rows.callWith_type1 ?_ hs0 hpl))
  rw [hs0]
  show wpAny _ _ (spliced ((false, eval (.List [] p1) X.env) :: backTo cpos (starEach [e2] X.env))) _ _ s0
  have hl : QE X .A W Wo (.List [] p1) (qCa fLst qNil) := qe_FA (qe_lst qa_nil)
  refine Calls.spliced_cons (thn (PE.run hl pins s0 σ0 H0 (fun v H1 => ∃ T1, Rel X.K W F T1 ω0 ρ0 σ0 H1 ∧ RepA X.K H1 (Spr F T1 ρ0) (.lst []) v) I0
    ⟨F, T0, ω0, ρ0, fun ω d => ω = ω0 ∧ d = .lst [], fun _ _ => False, R0, ⟨by decide, rfl, rfl⟩, fun _ _ _ _ _ _ _ _ z => z.elim, fun T1 ω1 d v H1 R1 e1 r1 q1 => by obtain ⟨rfl, rfl⟩ := q1; exact ⟨T1, R1, r1⟩⟩) fun u1 s1 ⟨v1, H1, I1, rv1, T1, R1, rep1⟩ => ?_)
  rw [hs1]
  show wpAny _ _ (spliced ((false, eval e2 X.env) :: backTo cpos (starEach [] X.env))) _ _ s1
  refine Calls.spliced_cons (thn (hgen.run pins s1 σ0 H1 F T1 ω0 ρ0 _ _ I1 R1 hq S.xok) fun u2 s2 ⟨H2, sc, T2, ω2, ys, fin, I2, R2, e2', made, hQ⟩ => ?_)
  refine Calls.spliced_nil ?_
  obtain ⟨a, g', go, gp, hv, cs, φ, gs, rfl, I2', ol, hgo, hLa, hgp, hcs, rdy⟩ := made_rdy (A := X.A.in1) ⟨hk.hd, by have := hk.dp; show X.A.depth + 3 * k + 5 < _; omega, by have := hk.un; show X.A.units + 1 + 16 * k + 200 < _; omega⟩ I2.ok.frames I2 R2 made
  have R3 := R2.grow (grp_upH (φ := φ) fun c m => (hcs c m).1)
  have rep2 := R1.ext_rep e2' rep1
  have rep3 := rep2.ext (grp_upH (φ := φ) fun c m => (hcs c m).1) (fun _ z => z.elim) fun b z => .inl z
  obtain ⟨l, xs, rfl, hl, hr, _⟩ := RC.lst (os := []) (.inl (.inl rep3))
  cases hr
  obtain ⟨its, rvs, p1', _⟩ := I2'.list hl
  cases rvs
  obtain rfl : u1 = Value.ref l := rv1
  refine call_zipG p1'.isList (hgo.is rdy.obj) fun h' hz hTI h1 hk' => wpAny_pyIter_zip hz ?_
  have hll : l < s2.heap.objs.size := p1'.lt
  have hL' : h'.IsList l #[] := by
    obtain ⟨o, ho, r⟩ := p1'.isList
    exact ⟨o, hk' _ _ ho, r⟩
  refine codeAny_forLoop_any (fun n s' => s' = { s2 with heap := h' }) ?_ 0 rfl
  rintro n s3 rfl
  refine wpAny_passesOwn hp (zipG_next_end (s := { s2 with heap := h' }) hcal (Nat.ne_of_lt (Nat.lt_add_of_pos_right (by decide))) (Nat.ne_of_lt (Nat.lt_of_lt_of_le hll (Nat.le_add_right _ _))) hz hTI h1 hL' fun h4 k4 => ?_)
  refine wpAny_execs_nil ⟨σ0, upH cs φ H2, ?_, S.nx T2 ω2 ρ0 σ0 _ R3 hQ⟩
  refine I2'.kept (t' := s2.toks) fun c o x => k4 c o ?_ ?_ (hk' c o x)
  · exact Nat.ne_of_lt (Nat.lt_of_lt_of_le (Heap.lt_size x) (Nat.le_add_right _ _))
  · exact Nat.ne_of_lt (Heap.lt_size x)
theorem v_forZ0 {W : Wrl} {P : PEn W} {ω : W.Ω} {ρ : List Sl} {qg : QTGen W} (h : qg ω ρ (fun ω1 _ _ => P.nx ω1 ρ) fun ω1 x => P.ex ω1 x ρ) : sForZ0 qg P ω ρ := h
end LW
namespace LW
open PySem PySem.Spec PyProof.Rows L2
structure NeO (K : PySem.W.Frag) (C : Addr) : Prop where
  ne : PySem.W.findIn K (.ref C) "__ne__" = some (some (.builtin "object.__ne__"))
  ob : PySem.W.subIn K (.ref C) (.type "object") = some true
theorem neoB_ok {K : PySem.W.Frag} {x : Str} (h : neoB K x = true) : NeO K (He.ga K x) := ⟨of_decide_eq_true (and2 h).1, of_decide_eq_true (and2 h).2⟩
section
variable {prog : Program} {w : World} {A : Around} {E : Value → Shared → Prop} {s : Shared} {K : PySem.W.Frag} {x C L f : Addr} {h₀ : Heap} {m : Str → Option Value} {ox : Obj} {od : Option Obj} {b : Value}
theorem neBound_K {M : Model} {A : Around} {args : List Value} {Q : Option Value → Shared → Prop} (X : K.In s.heap) (I : PySem.W.InstAt s.heap x ox C od) (c : NeO K C)
    (h : wpAny M A (call (.builtin "object.__ne__") (.ref x :: args)) (fun v => Q (some v)) E s) : wpAny M A (callSpecialIfBound? (.ref x) "__ne__" args) Q E s := by
  simp only [callSpecialIfBound?, bindSpecialIfBound?]
  refine wpAny_holding (wpAny_bind (wpAny_bind (wpAny_bind (I.type.here ((PySem.W.looks_findIn X c.ne).here ?_)))))
  simp only [F.cmp_object.ne.bind]
  refine wpAny_bind (wpAny_askSetting (wpAny_ite ?_))
  have fin : wpAny M A (call (.builtin "object.__ne__") ([.ref x] ++ args) >>= fun v => pure (some v)) Q E s :=
    wpAny_bind (wpAny_mono h (fun v s' h' => wpAny_pure h') fun _ _ h' => h')
  split
  · exact wpAny_bind (wpAny_pure (wpAny_pure fin))
  · exact wpAny_tryCatch (wpAny_bind (wpAny_pure (wpAny_pure fin)))
theorem checkNe_K {M : Model} {A : Around} {rest : List Value} {Q : Unit → Shared → Prop} (X : K.In s.heap) (I : PySem.W.InstAt s.heap x ox C od) (c : NeO K C) (ha : argsOk "object.__ne__" ⟨.ref x :: rest, []⟩) (hq : Q () s) :
    wpAny M A (checkBuiltinCall "object.__ne__" ⟨.ref x :: rest, []⟩) Q E s := by
  simp only [checkBuiltinCall, F.cmpKind_ne, F.cmpSplit_ne]
  refine wpAny_bind ?_
  unfold isInstance
  refine wpAny_bind (I.type.here ?_)
  refine (PySem.W.looks_subIn X c.ob).here ?_
  rw [if_neg (by decide)]
  cases hsig : Manifest.signature? "object.__ne__" with
  | none => exact wpAny_pure hq
  | some sig =>
    simp only [argsOk, hsig] at ha
    have h2 : Bind.checkArgs "object.__ne__" sig ⟨.ref x :: rest, []⟩ = pure () := ha
    show wpAny M A (Bind.checkArgs "object.__ne__" sig ⟨.ref x :: rest, []⟩) Q E _
    rw [h2]; exact wpAny_pure hq
theorem ne_K {Q : Value → Shared → Prop} (hu : A.units + 1 < cLine) (hF : Fr h₀ L s.heap m) (X₀ : K.In h₀) (I : PySem.W.InstAt s.heap x ox C od) (hb : PySem.W.Looks (model prog w) s.heap (typeOf b) (.ref C)) (c : NeO K C)
    (hs : PySem.W.findIn K (.ref C) "__eq__" = some (some (.ref f))) (hf : PySem.W.isFn K (.ref f) = true)
    (h : wpAny (model prog w) A.in1 (call (.ref f) [.ref x, b]) (fun v s' => ∃ r, v = .bool r ∧ Q (.bool (!r)) s') E s) : wpAny (model prog w) A (richCompare .NotEq (.ref x) b) Q E s := by
  have X := X₀.keeps hF.keep
  have ent : wpAny (model prog w) A.in1 (Builtin.«object.__ne__» ⟨[.ref x, b], []⟩) (fun fin s' => ∃ r, fin = .done (.ret (.bool r)) ∧ Q (.bool r) s') E s := by
    unfold Builtin.«object.__ne__»
    repeat (first
      | with_reducible refine wpAny_cRoomFor (A := A.in1) hu ?_
      | (refine wpAny_bind (m := callSpecialIfBound? (.ref x) (Str.ofString "__eq__") [b])
          (PySem.W.ifBound_K X I hs hf (wpAny_mono h (fun r s' hr => by
            obtain ⟨r, rfl, hq⟩ := hr
            have hq : ∃ r', Fin.done (.ret (.bool (!r))) = Fin.done (.ret (.bool r')) ∧ Q (.bool r') s' := ⟨_, rfl, hq⟩
            repeat (first | exact hq | exact wpAny_pure hq | exact wpAny_truthy_bool hq | (refine wpAny_bind (m := truthy (.bool _)) (wpAny_truthy_bool ?_)) | wp_step)) fun _ _ e => e)))
      | wp_step)
  have one : wpAny (model prog w) A (tryCompare (.ref x) "__ne__" b) (fun r s' => ∃ v, r = some v ∧ Q v s') E s := by
    unfold tryCompare
    refine wpAny_bind (neBound_K X I c (wpAny_call (codeAny_call_builtin F.cmp_object.ne.plain F.cmpEntry_ne (checkNe_K X I c (F.cmpArgs_ne _ _) (wpAny_mono ent (fun fin s' z => ?_) fun _ _ e => e)))))
    obtain ⟨r, rfl, hq⟩ := z
    exact wpAny_pure ⟨_, rfl, hq⟩
  unfold richCompare
  simp only [oneThing_ref]
  refine wpAny_holding (wpAny_bind (wpAny_cRoomFor (by omega) ?_))
  refine wpAny_bind (I.type.here (wpAny_bind (hb.here ?_)))
  rw [cmpInfo_NotEq]
  dsimp only
  rw [show (Value.ref C != Value.ref C) = false from by simp]
  simp only [Bool.false_eq_true, if_false]
  refine wpAny_bind (wpAny_pure ?_)
  simp only [Bool.false_eq_true, if_false]
  refine wpAny_bind (wpAny_mono one (fun r s' z => ?_) fun _ _ e => e)
  obtain ⟨v, rfl, hq⟩ := z
  exact wpAny_pure hq
end
def tBinNe (C : Addr) (sp : Sp) (E : L2.St → XK) (ta tb : TE) : TE := fun σ H Q => ta σ H fun x H1 => tb σ H1 fun y H2 => ∃ a dx fs b dy gs, x = .ref a ∧ y = .ref b ∧ H2 a = some (.ins C dx fs) ∧ H2 b = some (.ins C dy gs) ∧ sp [x, y] H2 (fun v H3 => ∃ r, v = .bl r ∧ Q (.bl (!r)) H3) (E σ)
section
variable {X : Cx} {CX : CXT} {C g : Addr} {fd : FuncData} {ps : List Str} {sp : Sp} {E : L2.St → XK} {k : Nat} {a b : Expr} {ta tb : TE} {pos : Pos}
theorem pe_neS (c : CmO X.K C "__eq__" g) (n : NeO X.K C) (F : FnR X.prog X.w X.K X.mg X.base CX k g sp) (hr : Room (k + 1) X.A) (hx : ∀ σ, PassesAt CX X σ (E σ)) (ha : PE X a ta) (hb : PE X b tb) (hm : behindInMarks .NotEq b = false) : PE X (.Compare a [.NotEq] [b] pos) (tBinNe C sp E ta tb) := by
  refine ⟨fun pins s σ H Q I h => ?_⟩
  refine wpAny_Compare1 (binT ha hb I h fun v u s2 x y H2 I2 rx ry q => ?_) hm
  obtain ⟨a, dx, fs, b, dy, gs, rfl, rfl, ea, eb, q⟩ := q
  cases (show v = Value.ref a from rx)
  cases (show u = Value.ref b from ry)
  obtain ⟨ox, od, J⟩ := ins_at I2 ea
  obtain ⟨ox', od', J'⟩ := ins_at I2 eb
  obtain ⟨m, hF⟩ := I2.fr
  show wpAny _ _ (richCompare .NotEq (.ref a) (.ref b)) _ _ _
  refine ne_K (by have := hr.un; omega) hF I2.ok.mod.kin J J'.type n c.at_ c.fn ?_
  have e0 := I2.env0
  refine wpAny_mono (wpAny_call (run_S (A := X.A.in1) (us := [.ref a, .ref b]) (vs := [.ref a, .ref b]) F ⟨hr.hd, by have := hr.dp; show X.A.depth + 3 * k + 5 < _; omega, by have := hr.un; show X.A.units + 1 + 16 * k + 200 < _; omega⟩ e0.in1 (hx σ) I2 (.cons rfl (.cons rfl .nil)) q)) (fun w s' z => ?_) fun _ _ x => x
  obtain ⟨z', H', I', rz, r, ez, qz⟩ := z
  subst ez
  obtain rfl : w = .bool r := rz
  exact ⟨r, rfl, .bl (!r), H', I', rfl, qz⟩
end
def qBinNe {W : Wrl} (C : Addr) (pf : PSp W) (qa qb : QT W) : QT W := fun ω ρ Q E => qa ω ρ (fun ω1 x => qb ω1 ρ (fun ω2 y => kBin C x y (pf ω2 [x, y] (fun ω' d => ∃ b, d = .bl b ∧ Q ω' (.bl (!b))) E)) E) E
section
variable {X : Cx} {W : Wrl} {Wo : WX} {m1 m2 : Md} {C f : Addr} {k : Nat} {pf : PSp W} {a b : Expr} {qa qb : QT W} {pos : Pos} {ω : W.Ω} {ρ : List Sl} {Q : W.Ω → D → Prop} {E : W.Ω → Exn → Prop}
theorem qe_neO (c : CmO X.K C "__eq__" f) (n : NeO X.K C) (F : FnR X.prog X.w X.K X.mg X.base (L2N.CX X.prog X.w) k f (spM .A X.K W pf)) (hr : Room (k + 1) X.A) (hx : ∀ σ, PassesAt (L2N.CX X.prog X.w) X σ (WE Wo σ)) (ha : QE X m1 W Wo a qa) (hb : QE X m2 W Wo b qb) (hm : behindInMarks .NotEq b = false) : QE X .A W Wo (.Compare a [.NotEq] [b] pos) (qBinNe C pf qa qb) := PE.imp (pe_neS c n F hr hx ha hb hm) fun σ H Q ⟨F, T, ω, ρ, Qp, Ep, R, q, hx, k⟩ =>
  ⟨F, T, ω, ρ, _, Ep, R, q, hx, fun T1 ω1 d v H1 R1 e1 r1 q1 => ⟨F, T1, ω1, ρ, _, Ep, R1, q1, hx, fun T2 ω2 d2 v2 H2 R2 e2 r2 ⟨ns, ds, ns', ds', z, z', q2⟩ => by
    subst z z'
    obtain ⟨a, dx, xs, rfl, h1, ra⟩ := (R1.ext_RC e2 r1.c).insR
    obtain ⟨a', dx', xs', rfl, h1', ra'⟩ := r2.c.insR
    exact ⟨a, dx, _, a', dx', _, rfl, rfl, h1, h1', sp_at R2 (e1.trans e2) hx (.cons ra (.cons ra' .nil)) q2 fun T' ω' d v H' R' e' rr ⟨b, eb, qq⟩ => by
      subst eb
      exact ⟨b, rr.c.bl, k T' ω' _ _ H' R' e' (.bl _) qq⟩⟩⟩⟩
theorem v_binNe (h : qa ω ρ (fun ω1 x => qb ω1 ρ (fun ω2 y => kBin C x y (pf ω2 [x, y] (fun ω' d => ∃ b, d = .bl b ∧ Q ω' (.bl (!b))) E)) E) E) : qBinNe C pf qa qb ω ρ Q E := h
end
end LW
namespace LW
open PySem PySem.Spec PyProof.Rows L2
def fLtT (d e : D) (Q : D → Prop) : Prop := ∃ ns ms : List Int, d = .tup (dInts ns) ∧ e = .tup (dInts ms) ∧ Q (.bl (HT.lexLt ns ms))
theorem opLtTP {K : PySem.W.Frag} : OpP .A K (rLtT K) fLtT := fun S os H d e v w Q Qp hS r1 r2 ⟨ns, ms, hd, he, h⟩ k => by
  subst hd he
  obtain ⟨l, xs, rfl, hl, hr⟩ := r1.tup
  obtain ⟨l2, ys, rfl, hl2, hr2⟩ := r2.tup
  rw [hr.ints] at hl
  rw [hr2.ints] at hl2
  exact ⟨l, l2, ns, ms, rfl, rfl, hl, hl2, k _ _ H (GrP.refl _ _) (.bl _) h⟩
theorem v_ltT {ns ms : List Int} {Q1 : D → Prop} (h : Q1 (.bl (HT.lexLt ns ms))) : fLtT (.tup (dInts ns)) (.tup (dInts ms)) Q1 := ⟨ns, ms, rfl, rfl, h⟩
def pf_Numbering___lt__ (K : PySem.W.Frag) : PSp W0 := fun _ ds Q _ => ∃ ps qs : List Int, ds = [numD K ps, numD K qs] ∧ Q () (.bl (HT.lexLt ps qs))
theorem v_numLt {K : PySem.W.Frag} {ps qs : List Int} {Q : Unit → D → Prop} {E : Unit → Exn → Prop} (h : Q () (.bl (HT.lexLt ps qs))) : pf_Numbering___lt__ K () [numD K ps, numD K qs] Q E := ⟨ps, qs, rfl, h⟩
end LW

namespace LW
open PySem PySem.Spec PyProof.Rows L2
local macro_rules | `(tactic| walk_at "pos") => `(tactic| first | decide | omega | assumption)
local macro_rules | `(tactic| walk_at "ne") => `(tactic| first
  | assumption
  | (refine Ne.symm ?_; assumption)
  | (refine' ne_of_none ?h1 ?h2; (case h2 => assumption); (case h1 => walk_at "at"))
  | (refine' Ne.symm (ne_of_none ?h1 ?h2); (case h2 => assumption); (case h1 => walk_at "at")))
local macro_rules | `(tactic| walk_at "nin") => `(tactic| first
  | exact nin0
  | (refine nin1 ?_; walk_at "ne")
  | (refine nin2 ?_ ?_ <;> walk_at "ne")
  | (refine nin3 ?_ ?_ ?_ <;> walk_at "ne"))
local macro_rules | `(tactic| walk_at "at") => `(tactic| first
  | assumption
  | (refine' Gr.get0 ?h1 ?h2; (case h1 => assumption); (case h2 => walk_at "at"))
  | (refine' Gr.keepB ?h1 ?h2 ?h3; (case h1 => assumption); (case h2 => walk_at "at"); (case h3 => first | exact Or.inl rfl | (refine Or.inr ?_; walk_at "nin"))))
local macro_rules | `(tactic| walk_at "sql") => `(tactic| first
  | assumption
  | (refine' sql_of ?h1; (case h1 => walk_at "at"))
  | (refine' sql_frz ?h1; (case h1 => walk_at "at"))
  | (refine' Gr.sql0 ?h1 ?h2; (case h1 => assumption); (case h2 => walk_at "sql"))
  | (refine' Gr.sqlB ?h1 ?h2 ?h3; (case h1 => assumption); (case h2 => walk_at "sql"); (case h3 => walk_at "nin")))
local macro_rules | `(tactic| walk_at "tx") => `(tactic| first
  | assumption
  | (refine' TupX.gr ?tx1 ?tx2; (case tx2 => assumption); (case tx1 => walk_at "tx")))
local macro_rules | `(tactic| walk_at "sqt") => `(tactic| first
  | assumption
  | (refine' TupX.sqt ?tx1; (case tx1 => walk_at "tx"))
  | (refine' sqt_of ?h1; (case h1 => walk_at "at"))
  | (refine' Gr.sqt ?h1 ?h2; (case h1 => assumption); (case h2 => walk_at "sqt")))
local macro_rules | `(tactic| walk_at "sq") => `(tactic| first
  | assumption
  | (refine Or.inl ?_; walk_at "sql")
  | (refine Or.inr ?_; walk_at "sqt"))
local macro_rules | `(tactic| walk_at "fre") => `(tactic| first
  | assumption
  | (refine' Gr.free0 ?h1 ?h2; (case h2 => assumption); (case h1 => assumption))
  | (refine' Gr.free1 ?h1 ?h2 ?h3; (case h2 => assumption); (case h1 => assumption); (case h3 => walk_at "ne")))
local macro_rules | `(tactic| walk_at "sub") => `(tactic| first
  | exact sub0
  | (refine sub1 ?_; first | (refine Or.inl ?_; simp; done) | (refine Or.inr ?_; walk_at "fre"))
  | (refine sub2 ?_ ?_ <;> first | (refine Or.inl ?_; simp; done) | (refine Or.inr ?_; walk_at "fre")))
local macro_rules | `(tactic| walk_at "gr") => `(tactic| first
  | assumption
  | exact Gr.refl _
  | (refine' Gr.same1 ?h1 ?h2; (case h1 => walk_at "at"); (case h2 => exact rfl))
  | (refine' Gr.step ?h1 ?h2 ?h3; (case h1 => assumption); (case h2 => walk_at "gr"); (case h3 => walk_at "sub")))
local macro_rules | `(tactic| walk_at "ix") => `(tactic| first
  | exact rfl
  | (refine' atI_nat ?h1; (case h1 => assumption)))
local macro_rules | `(tactic| walk_at "w1") => `(tactic| first
  | with_reducible refine w_seq ?_
  | ((with_reducible refine' w_var ?h1 ?h2); (case h1 => exact rfl))
  | with_reducible refine w_c ?_
  | with_reducible refine w_op ?_
  | with_reducible refine w_asg ?_
  | with_reducible refine w_cons ?_
  | with_reducible refine w_nil ?_
  | with_reducible refine w_rI0 ?_
  | with_reducible refine w_exb ?_
  | with_reducible refine w_test ?_
  | with_reducible refine w_ifS ?_
  | with_reducible refine w_ret ?_
  | with_reducible refine w_cb ?_
  | ((with_reducible refine w_gname ?_); try dsimp only [List.set])
  | ((with_reducible refine w_eq ?h1 ?h2); (case h1 => exact rfl))
  | ((with_reducible refine w_ne ?h1 ?h2); (case h1 => exact rfl))
  | with_reducible refine w_drop ?_
  | with_reducible refine w_call ?_
  | with_reducible refine w_callD ?_
  | with_reducible refine w_call1 ?_
  | with_reducible refine w_callN ?_
  | with_reducible refine w_callNS ?_
  | with_reducible refine w_and ?_
  | with_reducible refine w_or ?_
  | with_reducible refine w_not ?_
  | with_reducible refine w_T ?_
  | with_reducible refine w_F ?_
  | with_reducible refine w_nT ?_
  | with_reducible refine w_nF ?_
  | with_reducible refine w_un ?_
  | with_reducible refine w_rU ?_
  | with_reducible refine w_tLst ?_
  | with_reducible refine w_tTup ?_
  | with_reducible refine w_gsub ?_
  | with_reducible refine w_bm ?_
  | with_reducible refine w_bm0 ?_
  | with_reducible refine w_abs ?_
  | with_reducible refine w_int ?_
  | with_reducible refine w_chain ?_
  | with_reducible refine w_tB ?_
  | with_reducible refine w_exV ?_
  | with_reducible refine w_andV ?_
  | with_reducible refine w_orV ?_
  | with_reducible refine w_notV ?_
  | with_reducible refine w_ifE ?_
  | with_reducible refine w_retN ?_
  | with_reducible refine w_for ?_
  | with_reducible refine w_iRng1 ?_
  | with_reducible refine w_iRng2 ?_
  | with_reducible refine w_iRng3 ?_
  | with_reducible refine w_iList ?_
  | with_reducible refine w_iTup ?_
  | with_reducible refine w_next ?_
  | ((with_reducible refine w_ends ?_); dsimp only [List.set]))
local macro_rules | `(tactic| walk_at "h1") => `(tactic| first
  | ((with_reducible refine' w_ixL ?h1 ?h2 ?h3); (case h1 => walk_at "sql"); (case h2 => walk_at "ix"))
  | ((with_reducible refine' w_ixT ?h1 ?h2 ?h3); (case h1 => walk_at "sqt"); (case h2 => walk_at "ix"))
  | ((with_reducible refine' w_tupOfT ?h1 ?h2); (case h1 => walk_at "sqt"))
  | ((with_reducible refine' w_tupOfL ?h1 ?h2); (case h1 => walk_at "sql"); intro _ _ _ _ _)
  | ((with_reducible refine' w_len ?h1 ?h2); (case h1 => walk_at "sq"))
  | ((with_reducible refine' w_ty ?h1 ?h2); (case h1 => walk_at "sql"))
  | ((with_reducible refine' w_setL ?h1 ?h2 ?h3); (case h1 => walk_at "at"); (case h2 => exact rfl); intro _ _ _; try dsimp only [List.set])
  | ((with_reducible refine' w_lst ?h1 ?h2); (case h1 => first | exact small (by decide) | exact small (by simp)); intro _ _ _ _ _)
  | ((with_reducible refine' w_tup ?h1 ?h2); (case h1 => first | exact small (by decide) | exact small (by simp)); intro _ _ _ _ _))
local macro_rules | `(tactic| walk_at "j1") => `(tactic| first
  | ((with_reducible refine' w_rItL ?h1 ?h2); (case h1 => walk_at "sql"))
  | ((with_reducible refine' w_rItT ?h1 ?h2); (case h1 => walk_at "sqt"))
  | ((with_reducible refine' w_ixSL ?h1 ?h2 ?h3); (case h1 => walk_at "sql"); (case h2 => walk_at "ix"))
  | ((with_reducible refine' w_ixST ?h1 ?h2 ?h3); (case h1 => walk_at "sqt"); (case h2 => walk_at "ix")))
local macro_rules | `(tactic| walk_at "rep") => `(tactic| first
  | assumption
  | exact Rep.int _
  | exact Rep.bl _
  | exact Rep.str _
  | exact Rep.non
  | (refine' rep_tupI ?h1; (case h1 => walk_at "sqt"))
  | (refine' rep_lstI ?h1; (case h1 => walk_at "sql"))
  | (refine' Rep.gr0 ?h1 ?h2; (case h1 => assumption); (case h2 => walk_at "rep"))
  | (refine' Rep.grB ?h1 ?h2 ?h3; (case h1 => assumption); (case h2 => walk_at "rep"); (case h3 => first | exact rfl | assumption)))
local macro_rules | `(tactic| walk_at "i1") => `(tactic| first
  | ((with_reducible refine' w_isiTT ?is1 ?is2); (case is1 => walk_at "sqt"))
  | ((with_reducible refine' w_isiLL ?is1 ?is2); (case is1 => walk_at "sql"))
  | ((with_reducible refine' w_isE ?ie1 ?ie2 ?ie3); (case ie2 => assumption); (case ie1 => assumption))
  | ((with_reducible refine' w_isi_tuple ?h1 ?h2 ?h3); (case h1 => walk_at "rep"); (case h2 => exact rfl); dsimp only [D.isTup])
  | ((with_reducible refine' w_isi_list ?h1 ?h2 ?h3); (case h1 => walk_at "rep"); (case h2 => exact rfl); dsimp only [D.isLst])
  | ((with_reducible refine' w_isi_bool ?h1 ?h2 ?h3); (case h1 => walk_at "rep"); (case h2 => exact rfl); dsimp only [D.isBl])
  | ((with_reducible refine' w_isi_int ?h1 ?h2 ?h3); (case h1 => walk_at "rep"); (case h2 => exact rfl); dsimp only [D.isInt])
  | ((with_reducible refine' w_isi_str ?h1 ?h2 ?h3); (case h1 => walk_at "rep"); (case h2 => exact rfl); dsimp only [D.isStr]))
local macro_rules | `(tactic| walk_at "w") => `(tactic| repeat (first | walk_at "w1" | walk_at "h1" | walk_at "c1" | walk_at "n1" | walk_at "i1" | walk_at "j1"))
local macro_rules | `(tactic| walk_at "c1") => `(tactic| first
  | with_reducible refine w_fld ?_
  | with_reducible refine w_put ?_
  | with_reducible refine w_kRef ?_
  | with_reducible refine w_makeS ?_
  | with_reducible refine w_cmethS ?_
  | with_reducible refine w_binS ?_
  | with_reducible refine w_binI ?_
  | with_reducible refine w_invS ?_
  | with_reducible refine w_callOS ?_
  | with_reducible refine w_methS ?_
  | with_reducible refine w_cval ?_
  | with_reducible refine w_lstRg ?_
  | with_reducible refine w_tupRg ?_
  | with_reducible refine w_tRg1 ?_
  | with_reducible refine w_kRg1 ?_
  | with_reducible refine w_lc ?_
  | (with_reducible refine w_trn ?_; dsimp only [wipe, List.set])
  | ((with_reducible refine' w_rCVal ?rc1 ?rc2 ?rc3); (case rc2 => assumption); (case rc1 => assumption)))
local macro_rules | `(tactic| walk_at "num") => `(tactic| first
  | assumption
  | (refine' Num.gr ?h1 ?h2; (case h2 => assumption); (case h1 => walk_at "num")))
local macro_rules | `(tactic| walk_at "n1") => `(tactic| first
  | ((with_reducible refine' w_places ?nm1 ?nm2 ?nm3); (case nm2 => walk_at "num"); (case nm1 => assumption); intro _ _))
local macro_rules | `(tactic| walk_at "n1") => `(tactic| first
  | ((with_reducible refine' w_isiNum ?nm1 ?nm2 ?nm3 ?nm4); (case nm3 => walk_at "num"); (case nm1 => assumption); (case nm2 => assumption))
  | ((with_reducible refine' w_numLen ?nm1 ?nm2); (case nm1 => walk_at "num"))
  | with_reducible refine w_numCal ?_
  | with_reducible refine w_bmX ?_
  | ((with_reducible refine' w_kTupX ?nm1 ?nm2); (case nm1 => walk_at "tx")))
local macro_rules | `(tactic| walk_at "len") => `(tactic| first | decide | (simp only [List.length_cons, List.length_nil, List.length_append, List.length_map, List.length_range, List.length_set, dInts]; omega) | omega)
local macro_rules | `(tactic| walk_at "v1") => `(tactic| first
  | with_reducible refine v_seq ?_
  | ((with_reducible refine' v_Va ?h1 ?h2); (case h1 => exact rfl))
  | ((with_reducible refine' v_V ?h1 ?h2); (case h1 => exact rfl))
  | with_reducible refine v_C ?_
  | with_reducible refine v_op ?_
  | with_reducible refine v_cons ?_
  | with_reducible refine v_nil ?_
  | with_reducible refine v_ca ?_
  | with_reducible refine v_un ?_
  | with_reducible refine v_fI0 ?_
  | with_reducible refine v_te ?_
  | with_reducible refine v_exb ?_
  | with_reducible refine v_exi ?_
  | with_reducible refine v_if ?_
  | with_reducible refine v_ret ?_
  | with_reducible refine v_call ?_
  | ((with_reducible refine v_set ?_))
  | with_reducible refine v_asg ?_
  | ((with_reducible refine v_gnm ?_); try dsimp only [List.set])
  | ((with_reducible refine' v_gtp ?h1 ?h2); (case h1 => exact rfl))
  | with_reducible refine v_gsc ?_
  | with_reducible refine v_gsn ?_
  | with_reducible refine v_setO ?_
  | ((with_reducible refine v_kSetO ?_); intro _; try dsimp only [List.set])
  | ((with_reducible refine' v_app ?h1 ?h2 ?h3); (case h1 => exact rfl); (case h2 => walk_at "len"))
  | with_reducible refine v_put ?_
  | ((with_reducible refine' v_kPut ?h1 ?h2); (case h1 => exact rfl))
  | ((with_reducible refine v_frz ?_); try dsimp only [frz, List.getElem?_cons_zero, List.getElem?_cons_succ, List.set])
  | with_reducible refine v_drop ?_
  | with_reducible refine v_nx ?_
  | with_reducible refine v_inW ?_
  | with_reducible refine v_pureP ?_
  | with_reducible refine v_eqI ?_
  | with_reducible refine v_neI ?_
  | with_reducible refine v_eqS ?_
  | with_reducible refine v_neS ?_
  | with_reducible refine v_eqB ?_
  | with_reducible refine v_neB ?_
  | with_reducible refine v_isN ?_
  | with_reducible refine v_neg ?_
  | with_reducible refine v_notT ?_
  | with_reducible refine v_andT ?_
  | with_reducible refine v_orT ?_
  | with_reducible refine v_yes ?_
  | with_reducible refine v_andV ?_
  | with_reducible refine v_orV ?_
  | with_reducible refine v_notV ?_
  | with_reducible refine v_chain ?_
  | with_reducible refine v_ifE ?_
  | with_reducible refine w_T ?_
  | with_reducible refine w_F ?_
  | with_reducible refine w_nT ?_
  | with_reducible refine w_nF ?_)
local macro_rules | `(tactic| walk_at "v2") => `(tactic| first
  | with_reducible refine v_lenL ?_
  | with_reducible refine v_lenT ?_
  | with_reducible refine v_listL ?_
  | with_reducible refine v_listT ?_
  | with_reducible refine v_tupleL ?_
  | with_reducible refine v_tupleT ?_
  | with_reducible refine v_absI ?_
  | with_reducible refine v_intI ?_
  | with_reducible refine v_intB ?_
  | ((with_reducible refine' v_fLst ?h1 ?h2); (case h1 => walk_at "len"))
  | ((with_reducible refine' v_fTup ?h1 ?h2); (case h1 => walk_at "len"))
  | ((with_reducible refine' v_ixL ?h1 ?h2); (case h1 => exact rfl))
  | ((with_reducible refine' v_ixT ?h1 ?h2); (case h1 => exact rfl))
  | ((with_reducible refine' v_catL ?h1 ?h2); (case h1 => walk_at "len"))
  | ((with_reducible refine' v_catT ?h1 ?h2); (case h1 => walk_at "len"))
  | with_reducible refine v_sl ?_
  | with_reducible refine v_pn ?_
  | with_reducible refine v_ps ?_
  | with_reducible refine v_slL ?_
  | with_reducible refine v_slT ?_
  | ((with_reducible refine' v_fld ?h1 ?h2); (case h1 => exact rfl))
  | with_reducible refine v_meth ?_
  | ((with_reducible refine' v_kIns ?h1 ?h2); (case h1 => decide))
  | with_reducible refine v_obj ?_
  | with_reducible refine v_kObj ?_
  | with_reducible refine v_bin ?_
  | with_reducible refine v_kBin ?_
  | with_reducible refine v_binI ?_
  | with_reducible refine v_kBinI ?_
  | with_reducible refine v_inv ?_
  | with_reducible refine v_make ?_
  | with_reducible refine v_kAdr ?_
  | with_reducible refine v_cmeth ?_
  | with_reducible refine v_lenO ?_
  | with_reducible refine v_kLenO ?_
  | with_reducible refine v_raise ?_
  | with_reducible refine v_retN ?_
  | ((with_reducible refine' v_retO ?h1 ?h2); (case h1 => exact rfl))
  | with_reducible refine v_brk ?_
  | with_reducible refine v_cnt ?_
  | with_reducible refine v_for ?_
  | with_reducible refine v_iSeq ?_
  | with_reducible refine v_iTupl ?_
  | with_reducible refine v_exl ?_
  | with_reducible refine v_ext ?_
  | with_reducible refine v_iRg1 ?_
  | with_reducible refine v_iRg2 ?_
  | ((with_reducible refine' v_kRg ?h1 ?h2); (case h1 => refine rgB ?_ ?_ <;> omega))
  | ((with_reducible refine' v_kRg2 ?h1 ?h2 ?h3); (case h1 => refine rgB ?_ ?_ <;> omega); (case h2 => refine rgB ?_ ?_ <;> omega))
  | with_reducible refine v_lc ?_
  | with_reducible refine v_star ?_
  | with_reducible refine v_sta ?_
  | with_reducible refine v_stb ?_
  | with_reducible refine v_tru ?_
  | with_reducible refine v_truL ?_
  | with_reducible refine v_truT ?_
  | with_reducible refine v_truB ?_
  | with_reducible refine v_truN ?_
  | with_reducible refine v_listRg ?_
  | with_reducible refine v_tupRg ?_
  | with_reducible refine v_rg1 ?_
  | with_reducible refine v_rg2 ?_
  | with_reducible refine v_kTwo ?_
  | ((with_reducible refine' v_aug ?h1 ?h2); (case h1 => exact rfl))
  | ((with_reducible refine v_kAug ?_); try dsimp only [List.set])
  | with_reducible refine v_exl ?_)
local macro_rules | `(tactic| walk_at "v3") => `(tactic| first
  | with_reducible refine v_isiO' ?_
  | with_reducible refine v_lenSc ?_
  | with_reducible refine v_tcount ?_
  | with_reducible refine v_lcount ?_
  | with_reducible refine v_isT ?_
  | with_reducible refine v_try ?_
  | with_reducible refine v_sm ?_
  | with_reducible refine v_iEnumQ ?_
  | with_reducible refine v_cvI ?_
  | with_reducible refine v_fset ?_
  | with_reducible refine v_iOwn ?_
  | with_reducible refine v_raiseX ?_
  | ((with_reducible refine' v_kN63 ?h1 ?h2 ?h3); (case h1 => omega); (case h2 => omega))
  | ((with_reducible refine' v_kN6 ?h1 ?h2 ?h3); (case h1 => omega); (case h2 => omega))
  | ((with_reducible refine' v_fI ?h1 ?h2); (case h1 => first | omega | (refine ⟨?_, ?_, ?_⟩ <;> omega) | (refine .inl ⟨?_, ?_⟩ <;> omega) | (refine .inr ⟨?_, ?_⟩ <;> omega) | decide))
  | with_reducible refine v_puB ?_
  | with_reducible refine v_puI ?_
  | with_reducible refine v_puS ?_
  | with_reducible refine v_puN ?_
  | ((with_reducible refine' v_kOwn ?h1 ?h2); (case h1 => exact rfl))
  | with_reducible refine v_prop ?_
  | with_reducible refine v_listO ?_
  | ((with_reducible refine' v_kListO ?h1 ?h2 ?h3); (case h1 => exact rfl); (case h2 => simp only [length_dInts, length_dStrs]; omega))
  | with_reducible refine v_exs ?_
  | with_reducible refine v_ends ?_
  | ((with_reducible refine' v_kIsT ?h1 ?h2 ?h3); (case h1 => exact rfl); (case h2 => decide +kernel))
  | with_reducible refine v_mtT ?_
  | with_reducible refine v_mtL ?_)
local macro_rules | `(tactic| walk_at "v") => `(tactic| ((repeat (first | walk_at "v1" | walk_at "v2" | walk_at "v3")); (try dsimp only [List.set])))
local macro_rules | `(tactic| walk_at "v3") => `(tactic| with_reducible refine v_lc2 ?_)
local macro_rules | `(tactic| walk_at "v3") => `(tactic| with_reducible refine v_lcG ?_)
local macro_rules | `(tactic| walk_at "v3") => `(tactic| first
  | ((with_reducible refine' v_rem ?h1 ?h2); (case h1 => exact rfl)))
local macro_rules | `(tactic| walk_at "v3") => `(tactic| first
  | with_reducible refine v_pureL ?_)
local macro_rules | `(tactic| walk_at "v3") => `(tactic| first
  | with_reducible refine v_inB ?_
  | with_reducible refine v_eqLB ?_)
local macro_rules | `(tactic| walk_at "v3") => `(tactic| first
  | with_reducible refine v_opS ?_
  | with_reducible refine v_caS ?_
  | with_reducible refine v_new ?_
  | with_reducible refine v_fldS ?_
  | with_reducible refine v_fstS ?_
  | with_reducible refine v_appS ?_
  | with_reducible refine v_putS ?_
  | with_reducible refine v_ders0 ?_
  | with_reducible refine v_ders ?_
  | ((with_reducible refine' v_derL ?ds1 ?ds2); (case ds1 => walk_at "sto"))
  | with_reducible refine v_der0 ?_
  | ((with_reducible refine' v_kFldS ?ds1 ?ds2 ?ds3); (case ds1 => walk_at "sto"); (case ds2 => exact rfl)))
local macro_rules | `(tactic| walk_at "sto") => `(tactic| first
  | assumption
  | exact Sto.same
  | (refine' Sto.ne ?so1 ?so2; (case so2 => walk_at "sto"); (case so1 => walk_at "sne")))
local macro_rules | `(tactic| walk_at "sne") => `(tactic| first
  | assumption
  | (refine Ne.symm ?_; assumption))
local macro_rules | `(tactic| walk_at "v3") => `(tactic| first
  | with_reducible refine v_inN ?_
  | with_reducible refine v_getN ?_
  | with_reducible refine v_setN ?_
  | with_reducible refine v_exa ?_
  | with_reducible refine v_dispN ?_)
local macro_rules | `(tactic| walk_at "v3") => `(tactic| first
  | with_reducible refine v_makeZS ?_)
local macro_rules | `(tactic| walk_at "v3") => `(tactic| first
  | with_reducible refine v_callK ?_)
local macro_rules | `(tactic| walk_at "v3") => `(tactic| first
  | with_reducible refine v_isInt ?_
  | with_reducible refine v_isIntB ?_
  | with_reducible refine v_isTup ?_
  | with_reducible refine v_isLst ?_
  | with_reducible refine v_isBl ?_
  | with_reducible refine v_isStr ?_
  | with_reducible refine v_gmeth ?_
  | with_reducible refine v_gcall ?_
  | with_reducible refine v_listG ?_
  | with_reducible refine v_forG ?_
  | with_reducible refine v_iAny ?_)
local macro_rules | `(tactic| walk_at "v3") => `(tactic| with_reducible refine v_forZ0 ?_)
local macro_rules | `(tactic| walk_at "v3") => `(tactic| with_reducible refine v_binNe ?_)
theorem sc__law_begin : FnScope N__law_begin ["_law_script"] (defScope s__law_begin) := ⟨rfl, rfl, rfl, by decide +kernel, rfl, by decide +kernel, by decide +kernel⟩
theorem sc__law_draw : FnScope N__law_draw ["_law_tape", "_law_many"] (defScope s__law_draw) := ⟨rfl, rfl, rfl, by decide +kernel, rfl, by decide +kernel, by decide +kernel⟩
theorem sc__law_all : FnScope N__law_all ["_law_cells"] (defScope s__law_all) := ⟨rfl, rfl, rfl, by decide +kernel, rfl, by decide +kernel, by decide +kernel⟩
theorem sc_Numbering___init__ : FnScope N_Numbering___init__ ["self", "places"] (defScope s_Numbering___init__) := ⟨rfl, rfl, rfl, by decide +kernel, rfl, by decide +kernel, by decide +kernel⟩
theorem sc_every_numbering : GScope N_every_numbering ["cells"] (defScope s_every_numbering) := ⟨rfl, rfl, rfl, by decide +kernel, rfl, by decide +kernel, by decide +kernel⟩
theorem sc__law_same : FnScope N__law_same ["_law_actual", "_law_expected"] (defScope s__law_same) := ⟨rfl, rfl, rfl, by decide +kernel, rfl, by decide +kernel, by decide +kernel⟩
theorem sc_NoCell___init__ : SScope N_NoCell___init__ ["self", "cell"] (defScope s_NoCell___init__) := ⟨rfl, rfl, rfl, by decide +kernel, rfl, by decide +kernel, by decide +kernel, SScope.free_of (by decide +kernel), rfl, rfl⟩
theorem sc_Numbering___call__ : FnScope N_Numbering___call__ ["self", "k"] (defScope s_Numbering___call__) := ⟨rfl, rfl, rfl, by decide +kernel, rfl, by decide +kernel, by decide +kernel⟩
theorem sc__law_shuffled : FnScope N__law_shuffled ["_law_tape", "_law_cells"] (defScope s__law_shuffled) := ⟨rfl, rfl, rfl, by decide +kernel, rfl, by decide +kernel, by decide +kernel⟩
theorem sc_Numbering___lt__ : FnScope N_Numbering___lt__ ["self", "other"] (defScope s_Numbering___lt__) := ⟨rfl, rfl, rfl, by decide +kernel, rfl, by decide +kernel, by decide +kernel⟩
theorem sc_Numbering___eq__ : FnScope N_Numbering___eq__ ["self", "other"] (defScope s_Numbering___eq__) := ⟨rfl, rfl, rfl, by decide +kernel, rfl, by decide +kernel, by decide +kernel⟩
theorem sc__law_refused : FnScope N__law_refused ["_law_cells"] (defScope s__law_refused) := ⟨rfl, rfl, rfl, by decide +kernel, rfl, by decide +kernel, by decide +kernel⟩
theorem sc__law_waits : FnScope N__law_waits ["_law_cells"] (defScope s__law_waits) := ⟨rfl, rfl, rfl, by decide +kernel, rfl, by decide +kernel, by decide +kernel⟩
theorem sc_law : FnScope N_law ["_law_script"] (defScope s_law) := ⟨rfl, rfl, rfl, by decide +kernel, rfl, by decide +kernel, by decide +kernel⟩
structure Ctx (K : PySem.W.Frag) (mg : Str → Option Value) : Prop where
  says : SaysW fa fn exB K
  glo : ∀ {x : Str}, (He.Fa.glo x).ok K = true → mg x = some (.ref (He.ga K x))
  free : ∀ {x : Str}, (He.Fa.free x).ok K = true → mg x = none
  int : ∀ {x : Str} {i : Int}, (He.Fa.int x i).ok K = true → ∃ t, mg x = some (.int i t)
  str : ∀ {x z : Str}, (He.Fa.str x z).ok K = true → ∃ t, mg x = some (.str z t)
section
variable {K : PySem.W.Frag} {mg : Str → Option Value}
theorem Ctx.b (c : Ctx K mg) (i : Nat) {b : Bool} (h : (exB K)[i]? = some b) : b = true := c.says.exs i h
theorem F__law_begin (c : Ctx K mg) : FunD K "_law_begin" "_law_begin" (defArgs s__law_begin) (defBody s__law_begin) (defScope s__law_begin) [] [] (A__law_begin K) (fdA K (A__law_begin K)) := fdA_of (c.says.def_ 0 (d := d__law_begin) rfl)
theorem b__law_begin (c : Ctx K mg) : Binds K (fdA K (A__law_begin K)) ["_law_script"] [] := (F__law_begin c).bindsN fun _ _ _ _ _ _ us hl => match us, hl with | [_], _ => rfl
theorem F__law_draw (c : Ctx K mg) : FunD K "_law_draw" "_law_draw" (defArgs s__law_draw) (defBody s__law_draw) (defScope s__law_draw) [] [] (A__law_draw K) (fdA K (A__law_draw K)) := fdA_of (c.says.def_ 1 (d := d__law_draw) rfl)
theorem b__law_draw (c : Ctx K mg) : Binds K (fdA K (A__law_draw K)) ["_law_tape", "_law_many"] [] := (F__law_draw c).bindsN fun _ _ _ _ _ _ us hl => match us, hl with | [_, _], _ => rfl
theorem F__law_all (c : Ctx K mg) : FunD K "_law_all" "_law_all" (defArgs s__law_all) (defBody s__law_all) (defScope s__law_all) [] [] (A__law_all K) (fdA K (A__law_all K)) := fdA_of (c.says.def_ 2 (d := d__law_all) rfl)
theorem b__law_all (c : Ctx K mg) : Binds K (fdA K (A__law_all K)) ["_law_cells"] [] := (F__law_all c).bindsN fun _ _ _ _ _ _ us hl => match us, hl with | [_], _ => rfl
theorem F_Numbering___init__ (c : Ctx K mg) : FunD K "__init__" "Numbering.__init__" (defArgs s_Numbering___init__) (defBody s_Numbering___init__) (defScope s_Numbering___init__) [] [] (A_Numbering___init__ K) (fdA K (A_Numbering___init__ K)) := fdA_of (c.says.def_ 3 (d := d_Numbering___init__) rfl)
theorem b_Numbering___init__ (c : Ctx K mg) : Binds K (fdA K (A_Numbering___init__ K)) ["self", "places"] [] := (F_Numbering___init__ c).bindsN fun _ _ _ _ _ _ us hl => match us, hl with | [_, _], _ => rfl
theorem F_every_numbering (c : Ctx K mg) : FunD K "every_numbering" "every_numbering" (defArgs s_every_numbering) (defBody s_every_numbering) (defScope s_every_numbering) [] [] (A_every_numbering K) (fdA K (A_every_numbering K)) := fdA_of (c.says.def_ 4 (d := d_every_numbering) rfl)
theorem b_every_numbering (c : Ctx K mg) : Binds K (fdA K (A_every_numbering K)) ["cells"] [] := (F_every_numbering c).bindsN fun _ _ _ _ _ _ us hl => match us, hl with | [_], _ => rfl
theorem F__law_same (c : Ctx K mg) : FunD K "_law_same" "_law_same" (defArgs s__law_same) (defBody s__law_same) (defScope s__law_same) [] [] (A__law_same K) (fdA K (A__law_same K)) := fdA_of (c.says.def_ 5 (d := d__law_same) rfl)
theorem b__law_same (c : Ctx K mg) : Binds K (fdA K (A__law_same K)) ["_law_actual", "_law_expected"] [] := (F__law_same c).bindsN fun _ _ _ _ _ _ us hl => match us, hl with | [_, _], _ => rfl
theorem F_NoCell___init__ (c : Ctx K mg) : ∃ cda cc, SupD K "/claim/cut.py" "__init__" "NoCell.__init__" (defArgs s_NoCell___init__) (defBody s_NoCell___init__) (defScope s_NoCell___init__) (A_NoCell___init__ K) (He.ga K "NoCell") cda cc (fdA K (A_NoCell___init__ K)) := SupD.fdA_of (DefW.supD (d := d_NoCell___init__) rfl rfl (c.says.defS 6 (d := d_NoCell___init__) rfl).1 (c.says.defS 6 (d := d_NoCell___init__) rfl).2)
theorem b_NoCell___init__ (c : Ctx K mg) : Binds K (fdA K (A_NoCell___init__ K)) ["self", "cell"] [] := by
  obtain ⟨_, _, F⟩ := F_NoCell___init__ c
  exact F.bindsN fun _ _ _ _ _ _ _ us hl => match us, hl with | [_, _], _ => rfl
theorem F_Numbering___call__ (c : Ctx K mg) : FunD K "__call__" "Numbering.__call__" (defArgs s_Numbering___call__) (defBody s_Numbering___call__) (defScope s_Numbering___call__) [] [] (A_Numbering___call__ K) (fdA K (A_Numbering___call__ K)) := fdA_of (c.says.def_ 7 (d := d_Numbering___call__) rfl)
theorem b_Numbering___call__ (c : Ctx K mg) : Binds K (fdA K (A_Numbering___call__ K)) ["self", "k"] [] := (F_Numbering___call__ c).bindsN fun _ _ _ _ _ _ us hl => match us, hl with | [_, _], _ => rfl
theorem F__law_shuffled (c : Ctx K mg) : FunD K "_law_shuffled" "_law_shuffled" (defArgs s__law_shuffled) (defBody s__law_shuffled) (defScope s__law_shuffled) [] [] (A__law_shuffled K) (fdA K (A__law_shuffled K)) := fdA_of (c.says.def_ 8 (d := d__law_shuffled) rfl)
theorem b__law_shuffled (c : Ctx K mg) : Binds K (fdA K (A__law_shuffled K)) ["_law_tape", "_law_cells"] [] := (F__law_shuffled c).bindsN fun _ _ _ _ _ _ us hl => match us, hl with | [_, _], _ => rfl
theorem F_Numbering___lt__ (c : Ctx K mg) : FunD K "__lt__" "Numbering.__lt__" (defArgs s_Numbering___lt__) (defBody s_Numbering___lt__) (defScope s_Numbering___lt__) [] [] (A_Numbering___lt__ K) (fdA K (A_Numbering___lt__ K)) := fdA_of (c.says.def_ 9 (d := d_Numbering___lt__) rfl)
theorem b_Numbering___lt__ (c : Ctx K mg) : Binds K (fdA K (A_Numbering___lt__ K)) ["self", "other"] [] := (F_Numbering___lt__ c).bindsN fun _ _ _ _ _ _ us hl => match us, hl with | [_, _], _ => rfl
theorem F_Numbering___eq__ (c : Ctx K mg) : FunD K "__eq__" "Numbering.__eq__" (defArgs s_Numbering___eq__) (defBody s_Numbering___eq__) (defScope s_Numbering___eq__) [] [] (A_Numbering___eq__ K) (fdA K (A_Numbering___eq__ K)) := fdA_of (c.says.def_ 10 (d := d_Numbering___eq__) rfl)
theorem b_Numbering___eq__ (c : Ctx K mg) : Binds K (fdA K (A_Numbering___eq__ K)) ["self", "other"] [] := (F_Numbering___eq__ c).bindsN fun _ _ _ _ _ _ us hl => match us, hl with | [_, _], _ => rfl
theorem F__law_refused (c : Ctx K mg) : FunD K "_law_refused" "_law_refused" (defArgs s__law_refused) (defBody s__law_refused) (defScope s__law_refused) [] [] (A__law_refused K) (fdA K (A__law_refused K)) := fdA_of (c.says.def_ 11 (d := d__law_refused) rfl)
theorem b__law_refused (c : Ctx K mg) : Binds K (fdA K (A__law_refused K)) ["_law_cells"] [] := (F__law_refused c).bindsN fun _ _ _ _ _ _ us hl => match us, hl with | [_], _ => rfl
theorem F__law_waits (c : Ctx K mg) : FunD K "_law_waits" "_law_waits" (defArgs s__law_waits) (defBody s__law_waits) (defScope s__law_waits) [] [] (A__law_waits K) (fdA K (A__law_waits K)) := fdA_of (c.says.def_ 12 (d := d__law_waits) rfl)
theorem b__law_waits (c : Ctx K mg) : Binds K (fdA K (A__law_waits K)) ["_law_cells"] [] := (F__law_waits c).bindsN fun _ _ _ _ _ _ us hl => match us, hl with | [_], _ => rfl
theorem F_law (c : Ctx K mg) : FunD K "law" "law" (defArgs s_law) (defBody s_law) (defScope s_law) [] [] (A_law K) (fdA K (A_law K)) := fdA_of (c.says.def_ 13 (d := d_law) rfl)
theorem b_law (c : Ctx K mg) : Binds K (fdA K (A_law K)) ["_law_script"] [] := (F_law c).bindsN fun _ _ _ _ _ _ us hl => match us, hl with | [_], _ => rfl
theorem n_abs (c : Ctx K mg) : mg "abs" = none := c.free (c.says.fact 0 rfl)
theorem n_bool (c : Ctx K mg) : mg "bool" = none := c.free (c.says.fact 1 rfl)
theorem n_int (c : Ctx K mg) : mg "int" = none := c.free (c.says.fact 2 rfl)
theorem n_isinstance (c : Ctx K mg) : mg "isinstance" = none := c.free (c.says.fact 3 rfl)
theorem n_len (c : Ctx K mg) : mg "len" = none := c.free (c.says.fact 4 rfl)
theorem n_list (c : Ctx K mg) : mg "list" = none := c.free (c.says.fact 5 rfl)
theorem n_range (c : Ctx K mg) : mg "range" = none := c.free (c.says.fact 6 rfl)
theorem n_sorted (c : Ctx K mg) : mg "sorted" = none := c.free (c.says.fact 7 rfl)
theorem n_str (c : Ctx K mg) : mg "str" = none := c.free (c.says.fact 8 rfl)
theorem n_super (c : Ctx K mg) : mg "super" = none := c.free (c.says.fact 9 rfl)
theorem n_tuple (c : Ctx K mg) : mg "tuple" = none := c.free (c.says.fact 10 rfl)
theorem n_zip (c : Ctx K mg) : mg "zip" = none := c.free (c.says.fact 11 rfl)
theorem g__law_begin (c : Ctx K mg) : mg "_law_begin" = some (.ref (A__law_begin K)) := c.glo (c.says.fact 12 rfl)
theorem g__law_draw (c : Ctx K mg) : mg "_law_draw" = some (.ref (A__law_draw K)) := c.glo (c.says.fact 13 rfl)
theorem g__law_all (c : Ctx K mg) : mg "_law_all" = some (.ref (A__law_all K)) := c.glo (c.says.fact 14 rfl)
theorem g_every_numbering (c : Ctx K mg) : mg "every_numbering" = some (.ref (A_every_numbering K)) := c.glo (c.says.fact 15 rfl)
theorem g__law_same (c : Ctx K mg) : mg "_law_same" = some (.ref (A__law_same K)) := c.glo (c.says.fact 16 rfl)
theorem g__law_shuffled (c : Ctx K mg) : mg "_law_shuffled" = some (.ref (A__law_shuffled K)) := c.glo (c.says.fact 17 rfl)
theorem g__law_refused (c : Ctx K mg) : mg "_law_refused" = some (.ref (A__law_refused K)) := c.glo (c.says.fact 18 rfl)
theorem g__law_waits (c : Ctx K mg) : mg "_law_waits" = some (.ref (A__law_waits K)) := c.glo (c.says.fact 19 rfl)
theorem g_law (c : Ctx K mg) : mg "law" = some (.ref (A_law K)) := c.glo (c.says.fact 20 rfl)
theorem g_BadNumbering (c : Ctx K mg) : mg "BadNumbering" = some (.ref (He.ga K "BadNumbering")) := c.glo (c.says.fact 21 rfl)
theorem g_BadSize (c : Ctx K mg) : mg "BadSize" = some (.ref (He.ga K "BadSize")) := c.glo (c.says.fact 22 rfl)
theorem g_HallError (c : Ctx K mg) : mg "HallError" = some (.ref (He.ga K "HallError")) := c.glo (c.says.fact 23 rfl)
theorem g_NoCell (c : Ctx K mg) : mg "NoCell" = some (.ref (He.ga K "NoCell")) := c.glo (c.says.fact 24 rfl)
theorem g_Numbering (c : Ctx K mg) : mg "Numbering" = some (.ref (He.ga K "Numbering")) := c.glo (c.says.fact 25 rfl)
theorem x_BadNumbering (c : Ctx K mg) : XcOk K (He.ga K "BadNumbering") := He.exc_ok (K := K) (x := "BadNumbering") (c.says.fact 26 rfl)
theorem x_BadSize (c : Ctx K mg) : XcOk K (He.ga K "BadSize") := He.exc_ok (K := K) (x := "BadSize") (c.says.fact 27 rfl)
theorem mk_Numbering (c : Ctx K mg) : Mk K (He.ga K "Numbering") (He.ma K (He.ga K "Numbering") "__init__") := He.mkr_ok (c.says.fact 28 rfl)
theorem cl_Numbering (c : Ctx K mg) : Cls K (He.ga K "Numbering") := He.cls_ok (c.says.fact 29 rfl)
theorem xm_BadNumbering_BadSize (c : Ctx K mg) : PySem.W.exmOne K (.ref (He.ga K "BadNumbering")) (.ref (He.ga K "BadSize")) = some false := He.exm_ok (c.says.fact 30 rfl)
theorem xm_BadNumbering_HallError (c : Ctx K mg) : PySem.W.exmOne K (.ref (He.ga K "BadNumbering")) (.ref (He.ga K "HallError")) = some true := He.exm_ok (c.says.fact 31 rfl)
theorem xm_BadSize_BadSize (c : Ctx K mg) : PySem.W.exmOne K (.ref (He.ga K "BadSize")) (.ref (He.ga K "BadSize")) = some true := He.exm_ok (c.says.fact 32 rfl)
theorem xm_BadSize_HallError (c : Ctx K mg) : PySem.W.exmOne K (.ref (He.ga K "BadSize")) (.ref (He.ga K "HallError")) = some true := He.exm_ok (c.says.fact 33 rfl)
theorem xm_NoCell_BadSize (c : Ctx K mg) : PySem.W.exmOne K (.ref (He.ga K "NoCell")) (.ref (He.ga K "BadSize")) = some false := He.exm_ok (c.says.fact 34 rfl)
theorem xm_NoCell_HallError (c : Ctx K mg) : PySem.W.exmOne K (.ref (He.ga K "NoCell")) (.ref (He.ga K "HallError")) = some true := He.exm_ok (c.says.fact 35 rfl)
theorem na_Numbering_places (c : Ctx K mg) : NoAttr K (He.ga K "Numbering") "places" := He.noat_ok (c.says.fact 36 rfl)
theorem stp_BadSize (c : Ctx K mg) : (PySem.W.subIn K (.ref (He.ga K "BadSize")) (.type "StopIteration") == some false) = true := c.b 0 rfl
theorem cmo_Numbering___eq__ (c : Ctx K mg) : CmO K (He.ga K "Numbering") "__eq__" (He.ma K (He.ga K "Numbering") "__eq__") := cmoB_ok (c.b 1 rfl)
theorem cmo_Numbering___lt__ (c : Ctx K mg) : CmO K (He.ga K "Numbering") "__lt__" (He.ma K (He.ga K "Numbering") "__lt__") := cmoB_ok (c.b 2 rfl)
theorem co_Numbering (c : Ctx K mg) : StX.CallO K (He.ga K "Numbering") (He.ma K (He.ga K "Numbering") "__call__") := calB_ok (c.b 3 rfl)
theorem cr_Numbering (c : Ctx K mg) : ClX.CRead K (He.ga K "Numbering") (.type "type") := crdB_ok (c.b 4 rfl)
theorem cv_Numbering_MOST (c : Ctx K mg) : ∃ u, ClX.CVal K (He.ga K "Numbering") (.type "type") "MOST" (.int 12) u := cvlB_ok (c.b 5 rfl)
theorem exC_BadSize (c : Ctx K mg) : ExcC K (He.ga K "BadSize") := excCB_ok (c.b 6 rfl)
theorem isi_Numbering (c : Ctx K mg) : IsiC K (He.ga K "Numbering") := isiB_ok (c.b 7 rfl)
theorem kit_BadSize_BadNumbering (c : Ctx K mg) : PySem.W.kitOne K (.ref (He.ga K "BadSize")) (.ref (He.ga K "BadNumbering")) = some false := of_decide_eq_true (c.b 8 rfl)
theorem kit_BadSize_HallError (c : Ctx K mg) : PySem.W.kitOne K (.ref (He.ga K "BadSize")) (.ref (He.ga K "HallError")) = some true := of_decide_eq_true (c.b 9 rfl)
theorem kit_Numbering_Numbering (c : Ctx K mg) : PySem.W.kitOne K (.ref (He.ga K "Numbering")) (.ref (He.ga K "Numbering")) = some true := of_decide_eq_true (c.b 10 rfl)
theorem neo_Numbering (c : Ctx K mg) : NeO K (He.ga K "Numbering") := neoB_ok (c.b 11 rfl)
theorem spx_NoCell (c : Ctx K mg) : SupXF K (He.ga K "NoCell") (He.ma K (He.ga K "NoCell") "__init__") "cell" := supxB_ok (c.b 12 rfl)
end
local macro_rules | `(tactic| walk_at "tape") => `(tactic| first
  | assumption
  | (refine' Tape.gr0 ?h1 ?h2; (case h2 => assumption); (case h1 => walk_at "tape"))
  | (refine' Tape.gr1 ?h1 ?h2 ?h3; (case h2 => assumption); (case h1 => walk_at "tape"); (case h3 => first | assumption | (refine Ne.symm ?_; assumption) | walk_at "ne" | (refine' Tape.ne ?a1 ?a2; (case a2 => assumption); (case a1 => walk_at "tape")))))
local macro_rules | `(tactic| walk_at "ne") => `(tactic| first
  | (refine' Tape.ne ?h1 ?h2; (case h2 => assumption); (case h1 => walk_at "tape"))
  | (refine' Ne.symm (Tape.ne ?h1 ?h2); (case h2 => assumption); (case h1 => walk_at "tape")))

def sp__law_begin (K : PySem.W.Frag) : Sp := fun vs H Q _ => ∃ (a : Addr) (ns : List Int), vs = [.ref a] ∧ SqL K H a (ns.map V.int) ∧ ns.length ≤ 63 ∧ ∀ t H', H t = none → Gr [] H H' → Tape 0 H' t → Q (.ref t) H'
theorem w_begin {K : PySem.W.Frag} {H : Hp} {Q : VK} {E : XK} {a : Addr} {ns : List Int} (h : SqL K H a (ns.map V.int)) (hl : ns.length ≤ 63) (k : ∀ t H', H t = none → Gr [] H H' → Tape 0 H' t → Q (.ref t) H') : sp__law_begin K [.ref a] H Q E := ⟨a, ns, rfl, h, hl, k⟩
section
variable {P : Program} [PG P] {w : World} {K : PySem.W.Frag} {mg : Str → Option Value} {base : Heap}
theorem ok0__law_begin (c : Ctx K mg) : FnOk P w K mg base (L2N.CX P w) 1 (A__law_begin K) (fdA K (A__law_begin K)) ["_law_script"]
    (fun vs H Q _ => ∃ (a : Addr) (ns : List Int), vs = [.ref a] ∧ SqL K H a (ns.map V.int) ∧ ∀ t l H1 H', H l = none → Gr [] H H1 → H1 l = some (.lst (ns.map V.int)) → H1 t = none → Gr [] H1 H' → H' t = some (.lst [.ref l, .int 0, .int 0, .int 0]) → Q (.ref t) H') := by
  refine okT (F__law_begin c) sc__law_begin (fun vs H Q E h => ?_) (fun cdv A outer s H vs Q E hr h tk pown => ?_)
  · obtain ⟨_, _, rfl, _⟩ := h; rfl
  · refine ⟨_, (pss_one (ps_ret (pe_lstN (pa_cons (pe_callTy cr_list rfl (n_list c) (by decide +kernel) (pa_cons (pv 0) pa_nil)) (pa_cons pe_int (pa_cons pe_int (pa_cons pe_int pa_nil))))))), ?_⟩
    obtain ⟨a, ns, rfl, hS, k⟩ := h
    walk_at "w"
    refine w_listOf (.inl hS) fun l H1 n1 g1 h1 => ?_
    walk_at "w"
    rename_i t H2 n2 g2 h2
    exact k t l H1 H2 n1 g1 h1 n2 g2 h2
theorem ok__law_begin (c : Ctx K mg) : FnOk P w K mg base (L2N.CX P w) 1 (A__law_begin K) (fdA K (A__law_begin K)) ["_law_script"] (sp__law_begin K) := by
  refine (fnOk_frz (ok0__law_begin c)).imp fun vs H Q E h => ?_
  obtain ⟨a, ns, rfl, hS, hl, k⟩ := h
  refine ⟨a, ns, rfl, hS, fun t l H1 H' n1 g1 h1 n2 g2 h2 => ⟨l, _, g2.get0 h1, fun o => ?_⟩⟩
  have ne : t ≠ l := (ne_of_none h1 n2).symm
  refine k t _ (g1.free0 n2) ((g1.trans0 g2).transN (Gr.frz (g2.get0 h1)) n1) ⟨l, o, ns, 0, 0, 0, ?_, upd_same, hl, by decide, by decide, by decide, by decide⟩
  rw [upd_ne ne]
  exact h2
theorem okp__law_begin (c : Ctx K mg) : FnOk P w K mg base (L2N.CX P w) 1 (A__law_begin K) (fdA K (A__law_begin K)) ["_law_script"] (spM .A K (WT K) (pf__law_begin K)) := (ok__law_begin c).imp fun _ _ _ _ h => from_begin h
end
def sp__law_draw (K : PySem.W.Frag) : Sp := fun vs H Q _ => ∃ (t : Addr) (m : Int) (b : Nat), vs = [.ref t, .int m] ∧ Tape b H t ∧ b < 1000000000 ∧ 0 < m ∧ m < 2 ^ 256 ∧ ∀ (r : Int) H', 0 ≤ r → r < m → Gr [t] H H' → Tape (b + 1) H' t → Q (.int r) H'
theorem w_draw {K : PySem.W.Frag} {H : Hp} {Q : VK} {E : XK} {t : Addr} {m : Int} {b : Nat} (h : Tape b H t) (hb : b < 1000000000) (hm : 0 < m) (hm2 : m < 2 ^ 256) (k : ∀ (r : Int) H', 0 ≤ r → r < m → Gr [t] H H' → Tape (b + 1) H' t → Q (.int r) H') : sp__law_draw K [.ref t, .int m] H Q E := ⟨t, m, b, rfl, h, hb, hm, hm2, k⟩
section
variable {P : Program} [PG P] {w : World} {K : PySem.W.Frag} {mg : Str → Option Value} {base : Heap}
theorem ok__law_draw (c : Ctx K mg) : FnOk P w K mg base (L2N.CX P w) 1 (A__law_draw K) (fdA K (A__law_draw K)) ["_law_tape", "_law_many"] (sp__law_draw K) := by
  refine okT (F__law_draw c) sc__law_draw (fun vs H Q E h => ?_) (fun cdv A outer s H vs Q E hr h tk pown => ?_)
  · first | (obtain ⟨rfl, _⟩ := h; rfl) | (obtain ⟨_, rfl, _⟩ := h; rfl) | (obtain ⟨_, _, rfl, _⟩ := h; rfl) | (obtain ⟨_, _, _, rfl, _⟩ := h; rfl) | (obtain ⟨_, _, _, _, rfl, _⟩ := h; rfl) | (obtain ⟨_, _, _, _, _, rfl, _⟩ := h; rfl) | (obtain ⟨_, _, _, _, _, _, rfl, _⟩ := h; rfl) | (obtain ⟨_, _, _, _, _, _, _, rfl, _⟩ := h; rfl)
  · skip
    refine ⟨_, (pss_cut (ps_if (PW.pt (pw_and (pt_cmpR op_eq (pe_ix ix_list (pv 0) pe_int (fun _ _ => rfl)) pe_int (nomark _)) (pw_and1 (pt_cmpR op_lt (pe_ix ix_list (pv 0) pe_int (fun _ _ => rfl)) (pe_callB cr_len rfl (n_len c) (by decide +kernel) (pa_cons (pe_ix ix_list (pv 0) pe_int (fun _ _ => rfl)) pa_nil)) (nomark _)))))
    (pss_cons (ps_asg (pe_callB cr_abs rfl (n_abs c) (by decide +kernel) (pa_cons (pe_ix ix_list (pe_ix ix_list (pv 0) pe_int (fun _ _ => rfl)) (pe_ix ix_list (pv 0) pe_int (fun _ _ => rfl)) (fun _ _ => rfl)) pa_nil)) (pg_sub (pv 0) pe_int set_list))
    (pss_one (ps_asg (pe_op op_add (pe_ix ix_list (pv 0) pe_int (fun _ _ => rfl)) pe_int) (pg_sub (pv 0) pe_int set_list))))
    (pss_one (ps_if (pt_cmpR op_eq (pe_ix ix_list (pv 0) pe_int (fun _ _ => rfl)) pe_int (nomark _))
      (pss_cons (ps_asg (pe_op op_add (pe_ix ix_list (pv 0) pe_int (fun _ _ => rfl)) pe_int) (pg_sub (pv 0) pe_int set_list))
      (pss_cons (ps_if (pt_cmpR (op_eqD hr.units) (pe_ix ix_list (pv 0) pe_int (fun _ _ => rfl)) (pe_lstN pa_nil) (nomark _))
        (pss_one (ps_ret pe_int))
        pss_nil)
      (pss_cons (ps_set (i := 2) sc__law_draw.nd rfl (Or.inl rfl) (pe_ix ix_list (pe_ix ix_list (pv 0) pe_int (fun _ _ => rfl)) (pe_op op_mod (pe_callTy cr_int rfl (n_int c) (by decide +kernel) (pa_cons (pe_ix ix_list (pv 0) pe_int (fun _ _ => rfl)) pa_nil)) (pe_callB cr_len rfl (n_len c) (by decide +kernel) (pa_cons (pe_ix ix_list (pv 0) pe_int (fun _ _ => rfl)) pa_nil))) (fun _ _ => rfl)))
      (pss_one (ps_ret (pe_op op_mod (pe_callTy cr_int rfl (n_int c) (by decide +kernel) (pa_cons (pe_op op_add (pe_op op_mul (pv 2) (pe_op op_add (pe_ix ix_list (pv 0) pe_int (fun _ _ => rfl)) pe_int)) (pe_op op_mul (pe_ix ix_list (pv 0) pe_int (fun _ _ => rfl)) (pe_ix ix_list (pv 0) pe_int (fun _ _ => rfl)))) pa_nil)) (pv 1)))))))
      pss_nil)))
  (pss_cons (ps_set (i := 3) sc__law_draw.nd rfl (Or.inl rfl) (pe_op op_mod (pe_callTy cr_int rfl (n_int c) (by decide +kernel) (pa_cons (pe_ix ix_list (pv 0) pe_int (fun _ _ => rfl)) pa_nil)) (pv 1)))
  (pss_cons (ps_asg (pe_op op_fdivW (pe_ix ix_list (pv 0) pe_int (fun _ _ => rfl)) (pv 1)) (pg_sub (pv 0) pe_int set_list))
  (pss_one (ps_ret (pv 3)))))), ?_⟩
    clear tk pown hr
    have h_nc : NumC K := ⟨cl_Numbering c, na_Numbering_places c⟩
    obtain ⟨t, m, b, rfl, ⟨a, o, ns, i, n, k, h1, h2, hlen, hi, hn, hk, hkb⟩, hb, hm, hm2, Qk⟩ := h
    dsimp only [L2.start, N__law_draw, cxOf, Cx.tr, Cx.suite, List.map, List.length, Nat.reduceAdd, Nat.reduceSub, List.replicate, List.cons_append, List.nil_append, List.append_nil]
    have wd : ∀ j : Int, CDivW j m := fun j => wide_div hm (by omega : m.natAbs < 2 ^ 256) (by decide) (by decide)
    refine w_cut (fun σ' H' => ∃ i' n' : Int, σ' = [some (.ref t), some (.int m), none, none] ∧ Gr [t] H H' ∧ 0 ≤ i' ∧ 0 ≤ n' ∧ H' t = some (.lst [.ref a, .int i', .int n', .int k])) ?_ ?_
    · walk_at "w"
      refine w_iteI (fun e0 => ?_) (fun e0 => ?_)
      · walk_at "w"
        refine w_iteP (fun e1 => ?_) (fun e1 => ?_)
        · rw [List.length_map] at e1
          obtain ⟨x, hx, _⟩ := ints_at (ns := ns) hi e1
          walk_at "w"
          refine w_ixL (by walk_at "sql") hx ?_
          walk_at "w"
          refine ⟨i + 1, _, rfl, by walk_at "gr", by omega, ?_, by assumption⟩
          split <;> omega
        · walk_at "w"
          refine w_iteI (fun _ => ?_) (fun e2 => absurd e0 e2)
          walk_at "w"
          refine w_eqD (d := .lst (dInts ns)) (e := .lst (dInts [])) 1 ?_ ?_ (dep_ints ns 0) rfl (by decide) (fun e2 => ?_) (fun e2 => ?_)
          · exact rep_lstI (by walk_at "sql")
          · exact rep_lstI (by walk_at "sql")
          · walk_at "w"
            exact Qk 0 _ (by decide) hm (by walk_at "gr") ⟨a, o, ns, i, n, k + 1, by walk_at "at", by walk_at "at", hlen, hi, hn, by omega, by omega⟩
          · have hl0 : 0 < ns.length := by
              cases ns with
              | nil => exact absurd rfl e2
              | cons x xs => exact Nat.succ_pos _
            have hl1 : (0 : Int) < ((ns.map V.int).length : Nat) := by rw [List.length_map]; omega
            have m0 : 0 ≤ (k + 1) % ((ns.map V.int).length : Int) := Int.emod_nonneg _ (by omega)
            have m1 : (k + 1) % ((ns.map V.int).length : Int) < ns.length := by
              have z := Int.emod_lt_of_pos (k + 1) hl1
              rw [List.length_map] at z ⊢
              exact z
            obtain ⟨x, hx, _⟩ := ints_at (ns := ns) m0 m1
            walk_at "w"
            refine w_rI hl1 ?_
            walk_at "w"
            refine w_ixL (by walk_at "sql") hx ?_
            walk_at "w"
            refine w_rI (.inr ⟨by omega, by omega⟩) ?_
            walk_at "w"
            refine w_rI (.inr ⟨by omega, by omega⟩) ?_
            walk_at "w"
            refine w_rI hm ?_
            exact Qk _ _ (Int.emod_nonneg _ (by omega)) (Int.emod_lt_of_pos _ hm) (by walk_at "gr") ⟨a, o, ns, i, n, k + 1, by walk_at "at", by walk_at "at", hlen, hi, hn, by omega, by omega⟩
      · walk_at "w"
        refine w_iteI (fun e1 => absurd e1 e0) (fun _ => ?_)
        walk_at "w"
        exact ⟨i, n, rfl, by walk_at "gr", hi, hn, h1⟩
    · rintro σ' H' ⟨i', n', rfl, g, hi', hn', ht⟩
      walk_at "w"
      refine w_rI hm ?_
      walk_at "w"
      refine w_rI (wd _) ?_
      walk_at "w"
      exact Qk _ _ (Int.emod_nonneg _ (by omega)) (Int.emod_lt_of_pos _ hm) (by walk_at "gr") ⟨a, o, ns, i', _, k, by walk_at "at", by walk_at "at", hlen, hi', Int.ediv_nonneg hn' (by omega), hk, by omega⟩
theorem okp__law_draw (c : Ctx K mg) : FnOk P w K mg base (L2N.CX P w) 1 (A__law_draw K) (fdA K (A__law_draw K)) ["_law_tape", "_law_many"] (spM .A K (WT K) (pf__law_draw K)) := (ok__law_draw c).imp fun _ _ _ _ h => from_draw h
end
abbrev oLL (o : List Int) : D := .lst (dInts o)
abbrev oTT (o : List Int) : D := .tup (dInts o)
def ltoT (d : D) : D := match d with | .lst x => .tup x | _ => .non
theorem ltoT_map {os : List (List Int)} : List.map ltoT (List.map oLL os) = os.map oTT := by
  rw [List.map_map] <;> rfl
def pf__law_all : PSp W0 := fun _ ds Q _ => ∃ n : Nat, ds = [.int n] ∧ n ≤ 6 ∧ Q () (.lst ((allP n).map oTT))
theorem v_lawAll {n : Nat} {Q : Unit → D → Prop} {E : Unit → Exn → Prop} (h1 : n ≤ 6) (q : Q () (.lst ((allP n).map oTT))) : pf__law_all () [.int n] Q E := ⟨n, rfl, h1, q⟩
section
variable {P : Program} [PG P] {w : World} {K : PySem.W.Frag} {mg : Str → Option Value} {base : Heap}
theorem ok__law_all (c : Ctx K mg) : FnOk P w K mg base (L2N.CX P w) 1 (A__law_all K) (fdA K (A__law_all K)) ["_law_cells"] (spM .F K W0 (pf__law_all)) := by
  refine okQ (F__law_all c) sc__law_all (fun ω ds Q E h => ?_) (fun cdv A outer s0 H E hr tk pown => (qss_cons (qs_set (i := 1) sc__law_all.nd rfl (Or.inl rfl) (qe_lst (qa_cons (qe_lst qa_nil) qa_nil)))
  (qss_cons (qs_for pown rfl (qi_rg1 rfl (n_range c) (qe_va (pv 0))) (qg_name (i := 2) sc__law_all.nd rfl (Or.inl rfl))
    (qss_cons (qs_setO (i := 3) sc__law_all.nd rfl (Or.inl rfl) (qe_lst qa_nil))
    (qss_cons (qs_for pown rfl (qi_lst (qe_va (pv 1))) (qg_name (i := 4) sc__law_all.nd rfl (Or.inl rfl))
      (qss_one (qs_for pown rfl (qi_rg1 rfl (n_range c) (qe_va (pv 0))) (qg_name (i := 5) sc__law_all.nd rfl (Or.inl rfl))
        (qss_one (qs_if (qb_cmp op_notIn_seq opInP (qe_va (pv 5)) (qe_va (pv 4)) (by rfl))
          (qss_one (qs_app (i := 3) rfl (pv 3) (qe_op op_catR opCatP (qe_va (pv 4)) (qe_lst (qa_cons (qe_va (pv 5)) qa_nil)))))
          qss_nil)))))
    (qss_one (qs_set (i := 1) sc__law_all.nd rfl (Or.inl rfl) (qe_cT cr_list listP rfl (n_list c) (by decide +kernel) (qa_cons (qe_v (pv 3)) qa_nil)))))))
  (qss_one (qs_retF (qe_lc (own := [("_law_row", 4)]) rfl sc__law_all.nd (qi_lst (qe_va (pv 1))) (blkOk_by (N := N__law_all) (sc := defScope s__law_all) (by decide +kernel)) (fun _ _ _ _ _ => (qg_name (i := 4) sc__law_all.nd rfl (Or.inl rfl))) (fun _ _ _ _ _ => qts_nil) (fun _ _ _ _ _ => (qe_cT cr_tuple tupleP rfl (n_tuple c) (by decide +kernel) (qa_cons (qe_va (pv 4)) qa_nil))))))))) (fun ω ds Q E h => ?_)
  · first | (obtain ⟨rfl, _⟩ := h; rfl) | (obtain ⟨_, rfl, _⟩ := h; rfl) | (obtain ⟨_, _, rfl, _⟩ := h; rfl) | (obtain ⟨_, _, _, rfl, _⟩ := h; rfl) | (obtain ⟨_, _, _, _, rfl, _⟩ := h; rfl) | (obtain ⟨_, _, _, _, _, rfl, _⟩ := h; rfl) | (obtain ⟨_, _, _, _, _, _, rfl, _⟩ := h; rfl) | (obtain ⟨_, _, _, _, _, _, _, rfl, _⟩ := h; rfl)
  · skip
    obtain ⟨n, rfl, n6, Qk⟩ := h
    walk_at "v"
    refine v_kForR (fun i ω' ρ => ω' = () ∧ ∃ o2 o3 o4 o5, (o4 = .no ∨ ∃ d, o4 = .va d) ∧ ρ = [.va (.int n), .va (.lst ((rowsP n i).map oLL)), o2, o3, o4, o5]) ⟨rfl, .no, .no, .no, .no, .inl rfl, rfl⟩ ?_ ?_
    · rintro i ω' ρ hi ⟨rfl, o2, o3, o4, o5, h4, rfl⟩
      have hlen : (rowsP n i).length ≤ 46656 := by
        exact Nat.le_trans (rowsP_len n6 i) (pow6 (by omega))
      walk_at "v"
      rename_i l
      refine v_kFor (fun a ω' ρ => ω' = () ∧ ∃ o4 o5, (o4 = .no ∨ ∃ d, o4 = .va d) ∧ ρ = [.va (.int n), .va (.lst ((rowsP n i).map oLL)), .va (.int i), .ow l ((((rowsP n i).take a).flatMap (nextR n)).map oLL), o4, o5]) ⟨rfl, o4, o5, h4, rfl⟩ ?_ ?_
      · rintro a d ω' ρ hd ⟨rfl, o4, o5, h4, rfl⟩
        rw [List.getElem?_map] at hd
        obtain ⟨b, hb, rfl⟩ := Option.map_eq_some_iff.mp hd
        have hbl : b.length = i := by
          exact (rowsP_ok (List.mem_of_getElem? hb)).len
        have hfl : (((rowsP n i).take a).flatMap (nextR n)).length ≤ 46656 * 6 := Nat.le_trans (flatMap_len (n := 6) (fun a => Nat.le_trans nextR_len n6) _) (Nat.mul_le_mul (by rw [List.length_take]; omega) (Nat.le_refl _))
        walk_at "v"
        refine v_kForR (fun j ω' ρ => ω' = () ∧ ∃ o5, ρ = [.va (.int n), .va (.lst ((rowsP n i).map oLL)), .va (.int i), .ow l (((((rowsP n i).take a).flatMap (nextR n)) ++ (((rg j).filter fun p => !decide (p ∈ b)).map fun p => b ++ [p])).map oLL), .va (oLL b), o5]) ⟨rfl, o5, ?_⟩ ?_ ?_
        · have : rg 0 = [] := rfl
          rw [this]
          simp
        · rintro j ω' ρ hj ⟨rfl, o5, rfl⟩
          have et : rg (j + 1) = rg j ++ [(j : Int)] := by
            unfold rg
            rw [List.range_succ, List.map_append] <;> rfl
          have hfj : (((rg j).filter fun p => !decide (p ∈ b)).map fun p => b ++ [p]).length ≤ 6 := by
            rw [List.length_map]
            refine Nat.le_trans (List.length_filter_le _ _) ?_
            rw [length_rg]
            omega
          walk_at "v"
          refine v_ninLI ?_
          refine ⟨_, rfl, ?_⟩
          by_cases hp : (j : Int) ∈ b
          · rw [if_neg (by simpa using hp)]
            walk_at "v"
            refine ⟨rfl, .va (.int (j : Int)), ?_⟩
            rw [et, List.filter_append, List.filter_cons_of_neg (by simpa using hp)]
            simp
          · rw [if_pos (by simpa using hp)]
            walk_at "v"
            refine v_app rfl (by rw [List.length_map, List.length_append]; omega) ?_
            walk_at "v"
            refine ⟨rfl, .va (.int (j : Int)), ?_⟩
            rw [et, List.filter_append, List.filter_cons_of_pos (by simpa using hp)]
            simp [dInts]
        · rintro ω' ρ ⟨rfl, o5, rfl⟩
          simp only [flatMap_take hb]
          exact ⟨trivial, _, o5, .inr ⟨_, rfl⟩, rfl⟩
      · rintro ω' ρ ⟨rfl, o4, o5, h4, rfl⟩
        rw [List.length_map, List.take_of_length_le (Nat.le_refl _)]
        walk_at "v"
        exact ⟨rfl, _, _, _, _, h4, rfl⟩
    · rintro ω' ρ ⟨rfl, o2, o3, o4, o5, h4, rfl⟩
      walk_at "v"
      refine v_kLcM ltoT (by rw [List.length_map]; exact Nat.le_trans (rowsP_len n6 n) (Nat.le_trans (pow6 n6) (by decide))) (by rcases h4 with rfl | ⟨d, rfl⟩ <;> rfl) (fun j d Q' hd hq => ?_) ?_
      · rw [List.getElem?_map] at hd
        obtain ⟨o, ho, rfl⟩ := Option.map_eq_some_iff.mp hd
        walk_at "v"
        refine ⟨rfl, ?_⟩
        walk_at "v"
        exact hq
      rw [ltoT_map]
      walk_at "v"
      exact Qk
end
section
variable {P : Program} [PG P] {w : World} {K : PySem.W.Frag} {mg : Str → Option Value} {base : Heap}
theorem ok_Numbering___init__ (c : Ctx K mg) : FnOk P w K mg base (L2N.CX P w) 1 (A_Numbering___init__ K) (fdA K (A_Numbering___init__ K)) ["self", "places"] (sp_Numbering___init__ K) := by
  refine okT (F_Numbering___init__ c) sc_Numbering___init__ (fun vs H Q E h => ?_) (fun cdv A outer s H vs Q E hr h tk pown => ?_)
  · first | (obtain ⟨rfl, _⟩ := h; rfl) | (obtain ⟨_, rfl, _⟩ := h; rfl) | (obtain ⟨_, _, rfl, _⟩ := h; rfl) | (obtain ⟨_, _, _, rfl, _⟩ := h; rfl) | (obtain ⟨_, _, _, _, rfl, _⟩ := h; rfl) | (obtain ⟨_, _, _, _, _, rfl, _⟩ := h; rfl) | (obtain ⟨_, _, _, _, _, _, rfl, _⟩ := h; rfl) | (obtain ⟨_, _, _, _, _, _, _, rfl, _⟩ := h; rfl)
  · skip
    refine ⟨_, (pss_cons (ps_set (i := 2) sc_Numbering___init__.nd rfl (Or.inl rfl) (pe_callB cr_len rfl (n_len c) (by decide +kernel) (pa_cons (pv 1) pa_nil)))
  (pss_cons (ps_if (PW.pt (pw_or (pt_not (pt_chain op_le op_le pe_int (pv 2) (ClX.pe_cval (pe_glob (v := .ref (He.ga K "Numbering")) rfl (g_Numbering c) rfl)))) (pw_or1 (pt_cmpR (op_neD hr.units) (pe_callB cr_sortedA rfl (n_sorted c) (by decide +kernel) (pa_cons (pv 1) pa_nil)) (pe_listRg rfl rfl (n_list c) (prg_1 rfl (n_range c) (pv 2))) (nomark _)))))
    (pss_one (L2N.ps_raise rfl tk (L2N.pmk_own PySem.F.excBase_ValueError (x_BadNumbering c).1 (g_BadNumbering c) (x_BadNumbering c).2.1 (raises_own (x_BadNumbering c).2.2.1 (x_BadNumbering c).2.2.2) rfl)))
    pss_nil)
  (pss_one (ps_fld (pv 0) (pe_callTy cr_tuple rfl (n_tuple c) (by decide +kernel) (pa_cons (pv 1) pa_nil)) rfl)))), ?_⟩
    clear tk pown hr
    have h_cr_Numbering := cr_Numbering c
    have h_cv_Numbering_MOST := cv_Numbering_MOST c
    have h_nc : NumC K := ⟨cl_Numbering c, na_Numbering_places c⟩
    obtain ⟨x, dx, p, ns, rfl, hx, hp, Qk⟩ := h
    dsimp only [L2.start, N_Numbering___init__, cxOf, Cx.tr, Cx.suite, List.map, List.length, Nat.reduceAdd, Nat.reduceSub, List.replicate, List.cons_append, List.nil_append, List.append_nil]
    have cr := cr_Numbering c
    have cv := cv_Numbering_MOST c
    have nc : NumC K := ⟨cl_Numbering c, na_Numbering_places c⟩
    have bad : ∀ H', Gr [] H H' → ¬ IsNum ns → E (.ref (He.ga K "BadNumbering")) none H' := fun H' g n => by
      rcases Qk with ⟨_, q⟩ | ⟨q, _⟩
      · exact q H' g
      · exact absurd q n
    have hp2 : SqL K H p (ns.map V.int) ∨ SqT K H p (ns.map V.int) := hp.imp id (·.sqt)
    walk_at "w"
    rw [List.length_map]
    refine w_iteP (fun e1 => ?_) (fun e1 => ?_)
    · walk_at "w"
      refine w_iteNP (fun e2 => ?_) (fun e2 => ?_)
      · walk_at "w"
        exact bad _ (Gr.refl _) fun z => e2 (by have := z.2.1; omega)
      · walk_at "w"
        refine w_sorted hp2 (by omega) fun ns' q H1 n1 g1 h1 hp1 hp3 => ?_
        walk_at "w"
        refine w_kLstRg (by omega) fun q2 H2 n2 g2 h2 => ?_
        refine w_neD (d := .lst (dInts ns')) (e := .lst (dInts (rg ns.length))) 1 (by walk_at "rep") (by walk_at "rep") (dep_ints _ 0) (dep_ints _ 0) (by decide) (fun e => ?_) (fun e => ?_)
        · have e3 : ns' = rg ns.length := dInts_inj (D.lst.inj e)
          have hn : IsNum ns := ⟨by omega, by omega, (sorted_iff hp1 hp3).mp e3⟩
          have Qk : ∀ t H', Gr [x] H H' → H' x = some (.ins (NC K) dx [("places", .ref t)]) → TupX H' t (ns.map V.int) → Q .non H' := by
            rcases Qk with ⟨q, _⟩ | ⟨_, q⟩
            · exact absurd hn q
            · exact q
          walk_at "w"
          rcases hp with hp | hp
          · refine w_tupOfL (by walk_at "sql") fun t H3 n3 g3 h3 => ?_
            walk_at "w"
            refine w_rPut (by walk_at "at") nc.cls nc.na (by decide) rfl fun H4 g4 h4 => ?_
            exact Qk t H4 (by walk_at "gr") h4 (by walk_at "tx")
          · refine w_tupOfT (by walk_at "sqt") ?_
            walk_at "w"
            refine w_rPut (by walk_at "at") nc.cls nc.na (by decide) rfl fun H4 g4 h4 => ?_
            exact Qk p H4 (by walk_at "gr") h4 (by walk_at "tx")
        · walk_at "w"
          exact bad _ (by walk_at "gr") fun z => e (congrArg (fun l => D.lst (dInts l)) ((sorted_iff hp1 hp3).mpr z.2.2))
    · walk_at "w"
      exact bad _ (Gr.refl _) fun z => e1 (by have := z.1; omega)
theorem mkp_Numbering (c : Ctx K mg) : MkP K (He.ga K "Numbering") (sp_Numbering___init__ K) (pf_Numbering K) := mkp_num
end
section
variable {P : Program} [PG P] {w : World} {K : PySem.W.Frag} {mg : Str → Option Value} {base : Heap}
theorem ok_every_numbering (c : Ctx K mg) : GFnZ P w K mg base 3 (A_every_numbering K) (fdA K (A_every_numbering K)) ["cells"] (pf_every_numbering K) := by
  refine okG (F_every_numbering c) sc_every_numbering (fun ds ys fin h => ?_) (fun cdv A outer L fin hr => (gss_cons (gs_plain fun ys i tk pown => (qs_if (qb_not (qb_chain op_le op_le opI0_bl opI0_bl qe_int (qe_va (pv 0)) qe_int))
    (qss_one (qs_raise (L2N.ps_raise rfl tk (L2N.pmk_own PySem.F.excBase_ValueError (x_BadSize c).1 (g_BadSize c) (x_BadSize c).2.1 (raises_own (x_BadSize c).2.2.1 (x_BadSize c).2.2.2) rfl))))
    qss_nil))
  (gss_cons (gs_plain fun ys i tk pown => (qs_set (i := 1) sc_every_numbering.nd rfl (Or.inl rfl) (qe_lst (qa_cons (qe_lst qa_nil) qa_nil))))
  (gss_cons (gs_plain fun ys i tk pown => (qs_for pown rfl (qi_rg1 rfl (n_range c) (qe_va (pv 0))) (qg_name (i := 2) sc_every_numbering.nd rfl (Or.inl rfl))
    (qss_one (qs_setLc2 (i := 1) (own := [("begun", 4), ("place", 5)]) (vs1 := [5]) rfl sc_every_numbering.nd rfl rfl (sw_true rfl rfl rfl (by decide +kernel)) (qi_lst (qe_va (pv 1))) (blkOk_by (N := N_every_numbering) (sc := defScope s_every_numbering) (by decide +kernel)) (fun _ _ _ _ _ => (qg_name (i := 4) sc_every_numbering.nd rfl (Or.inl rfl))) (fun _ _ _ _ _ => (qi_rg1 rfl (n_range c) (qe_va (pv 0)))) (fun _ _ _ _ _ => (qg_name (i := 5) sc_every_numbering.nd rfl (Or.inl rfl))) (fun _ _ _ _ _ => (qts_one (qb_cmp op_notIn_seq opInP (qe_va (pv 5)) (qe_va (pv 4)) (by rfl)))) (fun _ _ _ _ _ => (qe_FA (qe_op op_catR opCatP (qe_va (pv 4)) (qe_lst (qa_cons (qe_va (pv 5)) qa_nil)))))))))
  (gss_one (gs_for (fun ys i tk pown => (qi_lst (qe_va (pv 1)))) (fun ys i => (qg_name (i := 3) sc_every_numbering.nd rfl (Or.inl rfl)))
    (gss_one (gs_yield fun ys i tk pown => (qe_make (qe_adr (pe_glob (v := .ref (He.ga K "Numbering")) rfl (g_Numbering c) rfl)) (mk_Numbering c) (rawF (ok_Numbering___init__ (P := P) c) (b_Numbering___init__ c)) (mkp_Numbering c) (hr.mono (by decide)) (fun σ => L2N.passAt tk σ) (qa_cons (qe_va (pv 3)) qa_nil)))))))))) (fun ds ys fin h => ?_)
  · (obtain ⟨n, rfl, _⟩ := h; rfl)
  · skip
    obtain ⟨n, rfl, hq⟩ := h
    refine v_gSeq ?_
    refine v_gPl ?_
    rcases hq with ⟨h1, h2, rfl, rfl⟩ | ⟨hn, rfl, rfl⟩
    · walk_at "v"
      rw [if_pos (decide_eq_true h1)]
      walk_at "v"
      rw [if_neg (by simpa using h2)]
      walk_at "v"
      refine v_gSeq ?_
      refine v_gPl ?_
      walk_at "v"
      refine v_gSeq ?_
      refine v_gPl ?_
      walk_at "v"
      refine v_kFor (fun i _ ρ => ∃ o2, allVa [o2] = true ∧ ρ = [.va (.int n), .va (.lst ((rowsP n.toNat i).map fun r => .lst (dInts r))), o2, .no, .no, .no]) ⟨_, rfl, rfl⟩ (fun i d ω ρ hd ⟨o2, ho2, hρ⟩ => ?_) (fun ω ρ ⟨o2, ho2, hρ⟩ => ?_)
      · subst hρ
        have en : rgI 0 n = rg n.toNat := by rw [← rgI_rg, show ((n.toNat : Nat) : Int) = n by omega]
        have hi : i < n.toNat := by
          have z := (List.getElem?_eq_some_iff.mp hd).1
          rw [length_dInts, en, length_rg] at z
          omega
        walk_at "v"
        refine v_kLc2 (fun a _ acc => acc = (((rowsP n.toNat i).take a).flatMap (nextR n.toNat)).map fun r => .lst (dInts r)) rfl rfl (fun a d ω acc hd hacc => ?_) (fun ω acc hacc => ?_)
        · subst hacc
          rw [List.getElem?_map] at hd
          obtain ⟨b, hb, rfl⟩ := Option.map_eq_some_iff.mp hd
          walk_at "v"
          refine ⟨rfl, ?_⟩
          walk_at "v"
          have hlen : ((rowsP n.toNat i).take a).length ≤ 46656 := by
            rw [List.length_take]
            exact Nat.le_trans (Nat.min_le_right _ _) (Nat.le_trans (rowsP_len (by omega) i) (pow6 (by omega)))
          refine v_kLc2i (fun j _ acc => acc = ((((rowsP n.toNat i).take a).flatMap (nextR n.toNat)) ++ ((((rg n.toNat).take j).filter fun p => !decide (p ∈ b)).map fun p => b ++ [p])).map fun r => .lst (dInts r)) (by simp) (fun j e ω acc he hacc => ?_) (fun ω acc hacc => ?_)
          · subst hacc
            rw [en] at he
            unfold dInts at he
            rw [List.getElem?_map] at he
            obtain ⟨p, hp, rfl⟩ := Option.map_eq_some_iff.mp he
            refine ⟨?_, ?_⟩
            · have z1 := flatMap_len (n := 6) (f := nextR n.toNat) (fun a => Nat.le_trans nextR_len (by omega)) ((rowsP n.toNat i).take a)
              have z2 := List.length_filter_le (fun p => !decide (p ∈ b)) ((rg n.toNat).take j)
              rw [List.length_take, length_rg] at z2
              rw [List.length_map, List.length_append, List.length_map]
              omega
            · walk_at "v"
              refine ⟨rfl, ?_⟩
              walk_at "v"
              refine v_ninLI ?_
              refine ⟨_, rfl, ?_⟩
              have et : (rg n.toNat).take (j + 1) = (rg n.toNat).take j ++ [p] := by rw [List.take_add_one, hp] <;> rfl
              by_cases hpb : p ∈ b
              · rw [if_neg (by simpa using hpb), et, List.filter_append, List.filter_cons_of_neg (by simpa using hpb)]
                simp
              · rw [if_pos (by simpa using hpb)]
                walk_at "v"
                have rb := rowsP_ok (List.mem_of_getElem? hb)
                refine v_catL (by rw [length_dInts, rb.len]; simp; omega) ?_
                rw [et, List.filter_append, List.filter_cons_of_pos (by simpa using hpb)]
                simp [dInts]
          · subst hacc
            rw [length_dInts, en, length_rg, List.take_of_length_le (l := rg n.toNat) (by rw [length_rg]; exact Nat.le_refl _), flatMap_take hb]
            rfl
        · subst hacc
          walk_at "v"
          refine ⟨.va d, rfl, ?_⟩
          rw [List.length_map, List.take_of_length_le (Nat.le_refl _)]
          rfl
      · subst hρ
        rw [length_dInts, show rgI 0 n = rg n.toNat by rw [← rgI_rg, show ((n.toNat : Nat) : Int) = n by omega], length_rg]
        dsimp only
        refine v_gFor ?_
        walk_at "v"
        refine v_kGFor (fun k ys ρ => ys = ((allP n.toNat).drop k).map (numD K) ∧ ∃ o2 o3, allVa [o2, o3] = true ∧ ρ = [.va (.int n), .va (.lst ((allP n.toNat).map fun r => .lst (dInts r))), o2, o3, .no, .no]) ?_ (fun k d ys ρ hd hI => ?_) (fun ys ρ hI => ?_)
        · exact ⟨by rw [List.drop_zero], o2, .no, by cases o2 <;> first | rfl | exact ho2, rfl⟩
        · obtain ⟨hys, o2, o3, ho, rfl⟩ := hI
          rw [List.getElem?_map] at hd
          obtain ⟨b, hb, rfl⟩ := Option.map_eq_some_iff.mp hd
          have hb : (allP n.toNat)[k]? = some b := hb
          have ho2 : allVa [o2] = true := by cases o2 <;> first | rfl | exact ho
          obtain ⟨hnum, _⟩ := allP_num (n := n.toNat) (by omega) (by omega) (List.mem_of_getElem? hb)
          walk_at "v"
          refine v_gYield (by cases o2 <;> first | rfl | exact ho2) ?_
          walk_at "v"
          refine v_num hnum ?_
          refine ⟨pure_num _, ?_⟩
          have hk := (List.getElem?_eq_some_iff.mp hb).1
          have ed : (allP n.toNat).drop k = b :: (allP n.toNat).drop (k + 1) := by
            rw [List.drop_eq_getElem_cons hk, (List.getElem?_eq_some_iff.mp hb).2]
          rw [hys, ed]
          refine v_kYd ?_
          exact ⟨rfl, o2, .va (.lst (dInts b)), by cases o2 <;> first | rfl | exact ho2, rfl⟩
        · obtain ⟨hys, o2, o3, ho, rfl⟩ := hI
          rw [hys, List.length_map, show (rowsP n.toNat n.toNat) = allP n.toNat from rfl, List.drop_length]
          exact ⟨rfl, rfl⟩
    · walk_at "v"
      by_cases h1 : 1 ≤ n
      · rw [if_pos (decide_eq_true h1)]
        walk_at "v"
        rw [if_pos (by simpa using fun h => hn ⟨h1, h⟩)]
        walk_at "v"
        exact ⟨rfl, rfl⟩
      · rw [if_neg (by simpa using h1)]
        walk_at "v"
        exact ⟨rfl, rfl⟩
end
def spS : Nat → PySem.W.Frag → Sp
  | 0, _ => fun _ _ _ _ => False
  | n + 1, K => fun vs H Q _ => (∃ (v w : V) (d : D), vs = [v, w] ∧ Rep K H d v ∧ Rep K H d w ∧ d.lev n = true ∧ Q (.bl true) H) ∨ ∃ x y : Str, vs = [.str x, .str y] ∧ x ≠ y ∧ Q (.bl false) H
abbrev sp__law_same (K : PySem.W.Frag) : Sp := spS 9 K
theorem w_same {K : PySem.W.Frag} {H : Hp} {Q : VK} {E : XK} {v w : V} (d : D) (hv : Rep K H d v) (hw : Rep K H d w) (hd : d.lev 8 = true) (k : Q (.bl true) H) : sp__law_same K [v, w] H Q E := .inl ⟨v, w, d, rfl, hv, hw, hd, k⟩
theorem w_sameI {K : PySem.W.Frag} {H : Hp} {Q : VK} {E : XK} {i j : Int} (e : i = j) (k : Q (.bl true) H) : sp__law_same K [.int i, .int j] H Q E := w_same (.int j) (by rw [e]; exact .int j) (.int j) rfl k
theorem w_sameT {K : PySem.W.Frag} {H : Hp} {Q : VK} {E : XK} {a b : Addr} {ns : List Int} (ha : SqT K H a (ns.map V.int)) (hb : SqT K H b (ns.map V.int)) (hl : ns.length ≤ 1000000) (k : Q (.bl true) H) : sp__law_same K [.ref a, .ref b] H Q E := w_same (.tup (dInts ns)) (rep_tupI ha) (rep_tupI hb) (lev_tupI hl) k
theorem w_sameL {K : PySem.W.Frag} {H : Hp} {Q : VK} {E : XK} {a b : Addr} {ns : List Int} (ha : SqL K H a (ns.map V.int)) (hb : SqL K H b (ns.map V.int)) (hl : ns.length ≤ 1000000) (k : Q (.bl true) H) : sp__law_same K [.ref a, .ref b] H Q E := w_same (.lst (dInts ns)) (rep_lstI ha) (rep_lstI hb) (lev_lstI hl) k
theorem w_sameB {K : PySem.W.Frag} {H : Hp} {Q : VK} {E : XK} {b c : Bool} (e : b = c) (k : Q (.bl true) H) : sp__law_same K [.bl b, .bl c] H Q E := w_same (.bl c) (by rw [e]; exact .bl c) (.bl c) rfl k
section
variable {P : Program} [PG P] {w : World} {K : PySem.W.Frag} {mg : Str → Option Value} {base : Heap}
theorem okS (c : Ctx K mg) : ∀ n : Nat, FnOk P w K mg base (L2N.CX P w) n (A__law_same K) (fdA K (A__law_same K)) ["_law_actual", "_law_expected"] (spS n K) := by
  intro n
  induction n with
  | zero => exact ⟨fun _ _ _ _ h => h.elim, fun _ _ _ _ _ _ _ _ _ _ _ _ _ h => h.elim⟩
  | succ n ih =>
    refine okT (F__law_same c) sc__law_same (fun vs H Q E h => ?_) (fun cdv A outer s H vs Q E hr h tk pown => ?_)
    · rcases h with ⟨_, _, _, rfl, _⟩ | ⟨_, _, rfl, _⟩ <;> rfl
    · refine ⟨_, (pss_cons (ps_if (PW.pt (pw_and (pt_val (pe_callB call_isi rfl (n_isinstance c) (by decide +kernel) (pa_cons (pv 1) (pa_cons (pe_bltn (v := .ty "tuple") (u := .type "tuple") rfl (n_tuple c) (by decide +kernel) rfl) pa_nil)))) (pw_and1 (pt_not (pt_val (pe_callB call_isi rfl (n_isinstance c) (by decide +kernel) (pa_cons (pv 0) (pa_cons (pe_bltn (v := .ty "tuple") (u := .type "tuple") rfl (n_tuple c) (by decide +kernel) rfl) pa_nil))))))))
    (pss_one (ps_ret pe_bl))
    pss_nil)
  (pss_cons (ps_if (PW.pt (pw_and (pt_val (pe_callB call_isi rfl (n_isinstance c) (by decide +kernel) (pa_cons (pv 1) (pa_cons (pe_bltn (v := .ty "list") (u := .type "list") rfl (n_list c) (by decide +kernel) rfl) pa_nil)))) (pw_and1 (pt_not (pt_val (pe_callB call_isi rfl (n_isinstance c) (by decide +kernel) (pa_cons (pv 0) (pa_cons (pe_bltn (v := .ty "list") (u := .type "list") rfl (n_list c) (by decide +kernel) rfl) pa_nil))))))))
    (pss_one (ps_ret pe_bl))
    pss_nil)
  (pss_cons (ps_if (PW.pt (pw_or (pt_val (pe_callB call_isi rfl (n_isinstance c) (by decide +kernel) (pa_cons (pv 1) (pa_cons (pe_bltn (v := .ty "tuple") (u := .type "tuple") rfl (n_tuple c) (by decide +kernel) rfl) pa_nil)))) (pw_or1 (pt_val (pe_callB call_isi rfl (n_isinstance c) (by decide +kernel) (pa_cons (pv 1) (pa_cons (pe_bltn (v := .ty "list") (u := .type "list") rfl (n_list c) (by decide +kernel) rfl) pa_nil)))))))
    (pss_cons (ps_if (pt_cmpR op_ne (pe_callB cr_len rfl (n_len c) (by decide +kernel) (pa_cons (pv 0) pa_nil)) (pe_callB cr_len rfl (n_len c) (by decide +kernel) (pa_cons (pv 1) pa_nil)) (nomark _))
      (pss_one (ps_ret pe_bl))
      pss_nil)
    (pss_cons (ps_for pown rfl (pi_range1 rfl (n_range c) (pa_cons (pe_callB cr_len rfl (n_len c) (by decide +kernel) (pa_cons (pv 1) pa_nil)) pa_nil)) (pg_name (i := 2) sc__law_same.nd rfl (Or.inl rfl))
      (pss_one (ps_if (pt_not (pt_val (pe_callS ih hr rfl (g__law_same c) (F__law_same c).kp (b__law_same c) (fun σ => L2N.passAt tk σ) (pa_cons (pe_ix ix_seq (pv 0) (pv 2) (fun _ _ => rfl)) (pa_cons (pe_ix ix_seq (pv 1) (pv 2) (fun _ _ => rfl)) pa_nil)))))
        (pss_one (ps_ret pe_bl))
        pss_nil)))
    (pss_one (ps_ret pe_bl))))
    pss_nil)
  (pss_cons (ps_if (pt_val (pe_callB call_isi rfl (n_isinstance c) (by decide +kernel) (pa_cons (pv 1) (pa_cons (pe_bltn (v := .ty "bool") (u := .type "bool") rfl (n_bool c) (by decide +kernel) rfl) pa_nil))))
    (pss_one (ps_ret (pe_and (pe_callB call_isi rfl (n_isinstance c) (by decide +kernel) (pa_cons (pv 0) (pa_cons (pe_bltn (v := .ty "bool") (u := .type "bool") rfl (n_bool c) (by decide +kernel) rfl) pa_nil))) (pe_one (pe_cmpR op_eq (pv 0) (pv 1) (nomark _))))))
    pss_nil)
  (pss_cons (ps_if (pt_val (pe_callB call_isi rfl (n_isinstance c) (by decide +kernel) (pa_cons (pv 1) (pa_cons (pe_bltn (v := .ty "int") (u := .type "int") rfl (n_int c) (by decide +kernel) rfl) pa_nil))))
    (pss_one (ps_ret (pe_and (pe_callB call_isi rfl (n_isinstance c) (by decide +kernel) (pa_cons (pv 0) (pa_cons (pe_bltn (v := .ty "int") (u := .type "int") rfl (n_int c) (by decide +kernel) rfl) pa_nil))) (pe_and (pe_not (pe_callB call_isi rfl (n_isinstance c) (by decide +kernel) (pa_cons (pv 0) (pa_cons (pe_bltn (v := .ty "bool") (u := .type "bool") rfl (n_bool c) (by decide +kernel) rfl) pa_nil)))) (pe_one (pe_cmpR op_eq (pv 0) (pv 1) (nomark _)))))))
    pss_nil)
  (pss_cons (ps_if (pt_val (pe_callB call_isi rfl (n_isinstance c) (by decide +kernel) (pa_cons (pv 1) (pa_cons (pe_bltn (v := .ty "str") (u := .type "str") rfl (n_str c) (by decide +kernel) rfl) pa_nil))))
    (pss_one (ps_ret (pe_and (pe_callB call_isi rfl (n_isinstance c) (by decide +kernel) (pa_cons (pv 0) (pa_cons (pe_bltn (v := .ty "str") (u := .type "str") rfl (n_str c) (by decide +kernel) rfl) pa_nil))) (pe_one (pe_cmpR op_eq (pv 0) (pv 1) (nomark _))))))
    pss_nil)
  (pss_one (ps_ret (pe_cmpR op_isN (pv 0) pe_non (nomark _)))))))))), ?_⟩
      clear tk pown hr
      obtain ⟨v, w, d, rfl, hv, hw, hd, k⟩ | ⟨x, y, rfl, hne, k⟩ := h
      case inr =>
        dsimp only [L2.start, N__law_same, cxOf, List.map, List.length, Nat.reduceAdd, Nat.reduceSub, List.replicate, List.cons_append, List.nil_append, List.append_nil]
        walk_at "w"
        exact w_bF (Q := Q) (decide_eq_false fun e => hne (V.str.inj e)) k
      dsimp only [L2.start, N__law_same, cxOf, List.map, List.length, Nat.reduceAdd, Nat.reduceSub, List.replicate, List.cons_append, List.nil_append, List.append_nil]
      cases d with
      | ins C ns ds => cases n <;> cases hd
      | adr a => cases n <;> cases hd
      | int i =>
        cases hv
        cases hw
        walk_at "w"
        exact w_bT (Q := Q) (decide_eq_true rfl) k
      | bl i =>
        cases hv
        cases hw
        walk_at "w"
        exact w_bT (Q := Q) (decide_eq_true rfl) k
      | str i =>
        cases hv
        cases hw
        walk_at "w"
        exact w_bT (Q := Q) (decide_eq_true rfl) k
      | non =>
        cases hv
        cases hw
        walk_at "w"
        exact ⟨rfl, k⟩
      | tup ds =>
        cases n with
        | zero => cases hd
        | succ n =>
        have hd0 : (decide (ds.length ≤ 1000000) && ds.all (D.lev n)) = true := hd
        obtain ⟨hdl, hd'⟩ := Bool.and_eq_true_iff.mp hd0
        have hdl := of_decide_eq_true hdl
        have hv0 := hv
        have hw0 := hw
        cases hv with
        | tup q1 r1 =>
        cases hw with
        | tup q2 r2 =>
        rename_i a xs a2 xs2
        have l1 := Reps.len r1
        have l2 := Reps.len r2
        walk_at "w"
        refine w_iteIN (fun e => absurd (by rw [l1, l2]) e) (fun _ => ?_)
        walk_at "w"
        refine w_rRng1N (by omega) ?_
        refine f_rng (fun i σ' H' => ∃ o, σ' = [some (.ref a), some (.ref a2), o] ∧ H' = H) ⟨none, rfl, rfl⟩ ?_ ?_
        · rintro i σ' H' hi ⟨o, rfl, rfl⟩
          rw [Int.zero_add]
          obtain ⟨d, hdi⟩ : ∃ d, ds[i]? = some d := ⟨_, List.getElem?_eq_getElem (by omega)⟩
          obtain ⟨v, hv1, hv2⟩ := reps_get r1 hdi
          obtain ⟨w, hw1, hw2⟩ := reps_get r2 hdi
          walk_at "w"
          refine .inl ⟨v, w, d, rfl, hv2, hw2, List.all_eq_true.mp hd' d (List.mem_of_getElem? hdi), ?_⟩
          walk_at "w"
          exact ⟨_, rfl, rfl⟩
        · rintro σ' H' ⟨o, rfl, rfl⟩
          walk_at "w"
          exact k
      | lst ds =>
        cases n with
        | zero => cases hd
        | succ n =>
        have hd0 : (decide (ds.length ≤ 1000000) && ds.all (D.lev n)) = true := hd
        obtain ⟨hdl, hd'⟩ := Bool.and_eq_true_iff.mp hd0
        have hdl := of_decide_eq_true hdl
        have hv0 := hv
        have hw0 := hw
        cases hv with
        | lst q1 r1 =>
        cases hw with
        | lst q2 r2 =>
        rename_i a xs a2 xs2
        have l1 := Reps.len r1
        have l2 := Reps.len r2
        walk_at "w"
        refine w_iteIN (fun e => absurd (by rw [l1, l2]) e) (fun _ => ?_)
        walk_at "w"
        refine w_rRng1N (by omega) ?_
        refine f_rng (fun i σ' H' => ∃ o, σ' = [some (.ref a), some (.ref a2), o] ∧ H' = H) ⟨none, rfl, rfl⟩ ?_ ?_
        · rintro i σ' H' hi ⟨o, rfl, rfl⟩
          rw [Int.zero_add]
          obtain ⟨d, hdi⟩ : ∃ d, ds[i]? = some d := ⟨_, List.getElem?_eq_getElem (by omega)⟩
          obtain ⟨v, hv1, hv2⟩ := reps_get r1 hdi
          obtain ⟨w, hw1, hw2⟩ := reps_get r2 hdi
          walk_at "w"
          refine .inl ⟨v, w, d, rfl, hv2, hw2, List.all_eq_true.mp hd' d (List.mem_of_getElem? hdi), ?_⟩
          walk_at "w"
          exact ⟨_, rfl, rfl⟩
        · rintro σ' H' ⟨o, rfl, rfl⟩
          walk_at "w"
          exact k
theorem ok__law_same (c : Ctx K mg) : FnOk P w K mg base (L2N.CX P w) 9 (A__law_same K) (fdA K (A__law_same K)) ["_law_actual", "_law_expected"] (sp__law_same K) := okS c 9
theorem okp__law_same (c : Ctx K mg) : FnOk P w K mg base (L2N.CX P w) 9 (A__law_same K) (fdA K (A__law_same K)) ["_law_actual", "_law_expected"] (spM .A K W0 pf__law_same) := (ok__law_same c).imp fun _ _ _ _ h => from_same h
end
section
variable {P : Program} [PG P] {w : World} {K : PySem.W.Frag} {mg : Str → Option Value} {base : Heap}
theorem ok_NoCell___init__ (c : Ctx K mg) : FnOk P w K mg base (L2N.CX P w) 1 (A_NoCell___init__ K) (fdA K (A_NoCell___init__ K)) ["self", "cell"] (spXI (He.ga K "NoCell") "cell") := by
  obtain ⟨cda, cc, F⟩ := F_NoCell___init__ c
  exact xinit_ok F sc_NoCell___init__ (n_super c) rfl rfl (spx_NoCell c).sx (spx_NoCell c).no fun A outer s H E a SE => pssA_supI SE (spx_NoCell c).sx rfl (pa_cons pe_str pa_nil) (pss_one (ps_ost (pv 0) (pv 1)))
end
section
variable {P : Program} [PG P] {w : World} {K : PySem.W.Frag} {mg : Str → Option Value} {base : Heap}
theorem ok_Numbering___call__ (c : Ctx K mg) : FnOk P w K mg base (L2N.CX P w) 3 (A_Numbering___call__ K) (fdA K (A_Numbering___call__ K)) ["self", "k"] (spM .A K W0 (pf_Numbering___call__ K)) := by
  refine okQ (F_Numbering___call__ c) sc_Numbering___call__ (fun ω ds Q E h => ?_) (fun cdv A outer s0 H E hr tk pown => (qss_cons (qs_if (qb_not (qb_chain op_le op_lt opI0_bl opI0_bl qe_int (qe_va (pv 1)) (qe_cB cr_len lenP rfl (n_len c) (by decide +kernel) (qa_cons (qe_fld (qe_va (pv 0)) (cl_Numbering c) (na_Numbering_places c)) qa_nil))))
    (qss_one (qs_raiseX rfl tk (spx_NoCell c).sx.oex (spx_NoCell c).iC (spx_NoCell c).tI (ok_NoCell___init__ (P := P) c) (hr.mono (by decide)) (b_NoCell___init__ c) rfl (g_NoCell c) (qe_va (pv 1))))
    qss_nil)
  (qss_one (qs_ret (qe_ix ix_tup ixTP (qe_fld (qe_va (pv 0)) (cl_Numbering c) (na_Numbering_places c)) (qe_va (pv 1)) (fun _ _ => rfl)))))) (fun ω ds Q E h => ?_)
  · first | (obtain ⟨rfl, _⟩ := h; rfl) | (obtain ⟨_, rfl, _⟩ := h; rfl) | (obtain ⟨_, _, rfl, _⟩ := h; rfl) | (obtain ⟨_, _, _, rfl, _⟩ := h; rfl) | (obtain ⟨_, _, _, _, rfl, _⟩ := h; rfl) | (obtain ⟨_, _, _, _, _, rfl, _⟩ := h; rfl) | (obtain ⟨_, _, _, _, _, _, rfl, _⟩ := h; rfl) | (obtain ⟨_, _, _, _, _, _, _, rfl, _⟩ := h; rfl)
  · skip
    obtain ⟨ps, k, rfl, h⟩ := h
    have hk : (0 ≤ k ∧ k < ps.length → Q () (.int (atP ps k))) ∧ (¬ (0 ≤ k ∧ k < ps.length) → E () ⟨He.ga K "NoCell", some ("cell", .int k)⟩) := by
      rcases h with ⟨h0, h1, h⟩ | ⟨h0, h⟩
      · exact ⟨fun _ => h, fun z => absurd ⟨h0, h1⟩ z⟩
      · exact ⟨fun z => absurd z h0, fun _ => h⟩
    clear h
    walk_at "v"
    refine w_iteP (fun h0 => ?_) (fun h0 => ?_)
    · walk_at "v"
      rw [length_dInts]
      refine w_iteNP (fun h1 => ?_) (fun h1 => ?_)
      · walk_at "v"
        exact hk.2 fun z => h1 z.2
      · walk_at "v"
        have h1 : k < ps.length := by simpa using h1
        exact v_ixT (atI_ints h0 h1) (hk.1 ⟨h0, h1⟩)
    · walk_at "v"
      exact hk.2 fun z => h0 z.1
end
def sp__law_shuffled (K : PySem.W.Frag) : Sp := fun vs H Q _ => ∃ (t : Addr) (m b : Nat), vs = [.ref t, .int m] ∧ Tape b H t ∧ b < 100000000 ∧ 1 ≤ m ∧ m ≤ 12 ∧ ∀ l ps H', H l = none → Gr [t] H H' → H' l = some (.lst (ps.map V.int)) → IsNum ps → ps.length = m → Tape (b + 12) H' t → Q (.ref l) H'
theorem w_shuffled {K : PySem.W.Frag} {H : Hp} {Q : VK} {E : XK} {t : Addr} {m b : Nat} (h : Tape b H t) (hb : b < 100000000) (m1 : 1 ≤ m) (m2 : m ≤ 12) (k : ∀ l ps H', H l = none → Gr [t] H H' → H' l = some (.lst (ps.map V.int)) → IsNum ps → ps.length = m → Tape (b + 12) H' t → Q (.ref l) H') : sp__law_shuffled K [.ref t, .int m] H Q E := ⟨t, m, b, rfl, h, hb, m1, m2, k⟩
section
variable {P : Program} [PG P] {w : World} {K : PySem.W.Frag} {mg : Str → Option Value} {base : Heap}
theorem ok__law_shuffled (c : Ctx K mg) : FnOk P w K mg base (L2N.CX P w) 2 (A__law_shuffled K) (fdA K (A__law_shuffled K)) ["_law_tape", "_law_cells"] (sp__law_shuffled K) := by
  refine okT (F__law_shuffled c) sc__law_shuffled (fun vs H Q E h => ?_) (fun cdv A outer s H vs Q E hr h tk pown => ?_)
  · first | (obtain ⟨rfl, _⟩ := h; rfl) | (obtain ⟨_, rfl, _⟩ := h; rfl) | (obtain ⟨_, _, rfl, _⟩ := h; rfl) | (obtain ⟨_, _, _, rfl, _⟩ := h; rfl) | (obtain ⟨_, _, _, _, rfl, _⟩ := h; rfl) | (obtain ⟨_, _, _, _, _, rfl, _⟩ := h; rfl) | (obtain ⟨_, _, _, _, _, _, rfl, _⟩ := h; rfl) | (obtain ⟨_, _, _, _, _, _, _, rfl, _⟩ := h; rfl)
  · skip
    refine ⟨_, (pss_cons (ps_set (i := 2) sc__law_shuffled.nd rfl (Or.inl rfl) (pe_listRg rfl rfl (n_list c) (prg_1 rfl (n_range c) (pv 1))))
  (pss_cons (ps_set (i := 3) sc__law_shuffled.nd rfl (Or.inl rfl) (pe_lstN pa_nil))
  (pss_cons (ps_for pown rfl (pi_range1 rfl (n_range c) (pa_cons (pv 1) pa_nil)) (pg_name (i := 4) sc__law_shuffled.nd rfl (Or.inl rfl))
    (pss_one (ps_expr (pe_bm PySem.F.plainAttrs_list PySem.F.slot_list_append PySem.F.type_list_append mt_append (pv 3) (pa_cons (pe_bm PySem.F.plainAttrs_list PySem.F.slot_list_pop PySem.F.type_list_pop mt_popAt (pv 2) (pa_cons (pe_callS (ok__law_draw (P := P) c) (hr.mono (by decide)) rfl (g__law_draw c) (F__law_draw c).kp (b__law_draw c) (fun σ => L2N.passAt tk σ) (pa_cons (pv 0) (pa_cons (pe_callB cr_len rfl (n_len c) (by decide +kernel) (pa_cons (pv 2) pa_nil)) pa_nil))) pa_nil)) pa_nil)))))
  (pss_one (ps_ret (pv 3)))))), ?_⟩
    clear tk pown hr
    have h_nc : NumC K := ⟨cl_Numbering c, na_Numbering_places c⟩
    obtain ⟨t, m, b, rfl, ht, hb, m1, m2, Qk⟩ := h
    dsimp only [L2.start, N__law_shuffled, cxOf, Cx.tr, Cx.suite, List.map, List.length, Nat.reduceAdd, Nat.reduceSub, List.replicate, List.cons_append, List.nil_append, List.append_nil]
    walk_at "w"
    refine w_kLstRg (by omega) fun q H1 n1 g1 h1 => ?_
    walk_at "w"
    rename_i l H2 n2 g2 h2
    refine w_rRng1N (by omega) ?_
    have nl : H l = none := g1.free0 n2
    have qt : t ≠ q := ht.ne n1
    have lt : t ≠ l := ht.ne nl
    have ql : q ≠ l := ne_of_none h1 n2
    refine f_rng (fun i σ' H' => ∃ (acc left : List Int) (o : Option V), σ' = [some (.ref t), some (.int m), some (.ref q), some (.ref l), o] ∧ Gr [t] H H' ∧ H' q = some (.lst (left.map V.int)) ∧ H' l = some (.lst (acc.map V.int)) ∧ acc.length = i ∧ (left ++ acc).Perm (rg m) ∧ Tape (b + i) H' t) ⟨[], rg m, _, rfl, (g1.trans0 g2).weak (fun a ha => ?_), g2.get0 h1, h2, rfl, by rw [List.append_nil], (ht.gr0 g1).gr0 g2⟩ ?_ ?_
    · have e : a = t := by simpa using ha
      subst e
      obtain ⟨_, h⟩ := ht.at
      exact ⟨_, h, rfl⟩
    · rintro i σ' H3 hi ⟨acc, left, o, rfl, g3, hq, hl, ha, hp, ht3⟩
      have ll : left.length = m - i := by
        have e := hp.length_eq
        rw [List.length_append, length_rg] at e
        omega
      walk_at "w"
      rw [List.length_map, ll]
      refine w_draw ht3 (by omega) (by omega) (by omega) fun r H4 r0 r1 g4 ht4 => ?_
      walk_at "w"
      obtain ⟨v, hv⟩ : ∃ v, left[r.toNat]? = some v := ⟨_, List.getElem?_eq_getElem (by omega)⟩
      refine w_popAt (p := q) (xs := left.map V.int) (v := .int v) (n := r.toNat) (by walk_at "at") r0 (by omega) rfl (by rw [List.getElem?_map, hv] <;> rfl) fun H5 g5 h5 => ?_
      walk_at "w"
      refine w_app (p := l) (xs := acc.map V.int) (by walk_at "at") (by rw [List.length_map]; exact smallLt (by omega)) fun H6 g6 h6 => ?_
      walk_at "w"
      refine ⟨acc ++ [v], left.eraseIdx r.toNat, _, rfl, ?_, ?_, by rw [h6, List.map_append] <;> rfl, by rw [List.length_append, ha] <;> rfl, ?_, ?_⟩
      · exact ((g3.trans g4 (sub1 (.inl (by simp)))).trans g5 (sub1 (.inr n1))).trans g6 (sub1 (.inr nl))
      · have z : H6 q = some (.lst ((left.map V.int).eraseIdx r.toNat)) := by walk_at "at"
        rw [z]
        congr 2
        exact eraseIdx_mapL _ _ _
      · have z := eraseIdx_permL hv
        refine .trans ?_ hp
        rw [← List.append_assoc]
        refine (List.perm_append_comm (l₁ := _ ++ acc) (l₂ := [v])).trans ?_
        rw [← List.append_assoc]
        exact z.append_right acc
      · have z : Tape (b + i + 1) H6 t := by walk_at "tape"
        exact z
    · rintro σ' H3 ⟨acc, left, o, rfl, g3, hq, hl, ha, hp, ht3⟩
      have e : left = [] := by
        have e := hp.length_eq
        rw [List.length_append, length_rg] at e
        exact List.eq_nil_of_length_eq_zero (by omega)
      subst e
      walk_at "w"
      refine Qk l acc H3 nl g3 hl ⟨by omega, by omega, by rw [ha]; exact hp⟩ ha (ht3.mono (by omega))
theorem okp__law_shuffled (c : Ctx K mg) : FnOk P w K mg base (L2N.CX P w) 2 (A__law_shuffled K) (fdA K (A__law_shuffled K)) ["_law_tape", "_law_cells"] (spM .F K (WT K) (pf__law_shuffled K)) := (ok__law_shuffled c).imp fun _ _ _ _ h => from_shuffled h
end
section
variable {P : Program} [PG P] {w : World} {K : PySem.W.Frag} {mg : Str → Option Value} {base : Heap}
theorem ok_Numbering___lt__ (c : Ctx K mg) : FnOk P w K mg base (L2N.CX P w) 1 (A_Numbering___lt__ K) (fdA K (A_Numbering___lt__ K)) ["self", "other"] (spM .A K W0 (pf_Numbering___lt__ K)) := by
  refine okQ (F_Numbering___lt__ c) sc_Numbering___lt__ (fun ω ds Q E h => ?_) (fun cdv A outer s0 H E hr tk pown => (qss_cons (qs_if (qb_not (qb_val (qe_isiO (isi_Numbering c) (kit_Numbering_Numbering c) rfl (n_isinstance c) (qe_va (pv 1)) (pe_glob (v := .ref (He.ga K "Numbering")) rfl (g_Numbering c) rfl))))
    (qss_one qs_dead)
    qss_nil)
  (qss_one (qs_ret (qe_cmp (op_ltT hr.units0) opLtTP (qe_fld (qe_va (pv 0)) (cl_Numbering c) (na_Numbering_places c)) (qe_fld (qe_va (pv 1)) (cl_Numbering c) (na_Numbering_places c)) (nomark _)))))) (fun ω ds Q E h => ?_)
  · first | (obtain ⟨rfl, _⟩ := h; rfl) | (obtain ⟨_, rfl, _⟩ := h; rfl) | (obtain ⟨_, _, rfl, _⟩ := h; rfl) | (obtain ⟨_, _, _, rfl, _⟩ := h; rfl) | (obtain ⟨_, _, _, _, rfl, _⟩ := h; rfl) | (obtain ⟨_, _, _, _, _, rfl, _⟩ := h; rfl) | (obtain ⟨_, _, _, _, _, _, rfl, _⟩ := h; rfl) | (obtain ⟨_, _, _, _, _, _, _, rfl, _⟩ := h; rfl)
  · skip
    obtain ⟨ps, qs, rfl, h⟩ := h
    walk_at "v"
    refine v_ltT ?_
    exact h
end
section
variable {P : Program} [PG P] {w : World} {K : PySem.W.Frag} {mg : Str → Option Value} {base : Heap}
theorem ok_Numbering___eq__ (c : Ctx K mg) : FnOk P w K mg base (L2N.CX P w) 1 (A_Numbering___eq__ K) (fdA K (A_Numbering___eq__ K)) ["self", "other"] (spM .A K W0 (pf_Numbering___eq__ K)) := by
  refine okQ (F_Numbering___eq__ c) sc_Numbering___eq__ (fun ω ds Q E h => ?_) (fun cdv A outer s0 H E hr tk pown => (qss_one (qs_ret (qe_and (qe_isiO (isi_Numbering c) (kit_Numbering_Numbering c) rfl (n_isinstance c) (qe_va (pv 1)) (pe_glob (v := .ref (He.ga K "Numbering")) rfl (g_Numbering c) rfl)) (qe_one (qe_cmp (op_eqD hr.units) opEqDP (qe_fld (qe_va (pv 0)) (cl_Numbering c) (na_Numbering_places c)) (qe_fld (qe_va (pv 1)) (cl_Numbering c) (na_Numbering_places c)) (nomark _))))))) (fun ω ds Q E h => ?_)
  · first | (obtain ⟨rfl, _⟩ := h; rfl) | (obtain ⟨_, rfl, _⟩ := h; rfl) | (obtain ⟨_, _, rfl, _⟩ := h; rfl) | (obtain ⟨_, _, _, rfl, _⟩ := h; rfl) | (obtain ⟨_, _, _, _, rfl, _⟩ := h; rfl) | (obtain ⟨_, _, _, _, _, rfl, _⟩ := h; rfl) | (obtain ⟨_, _, _, _, _, _, rfl, _⟩ := h; rfl) | (obtain ⟨_, _, _, _, _, _, _, rfl, _⟩ := h; rfl)
  · skip
    obtain ⟨ps, qs, rfl, h⟩ := h
    walk_at "v"
    refine v_eqD 1 (by decide) (dep_tupI _ 0) (dep_tupI _ 0) ?_
    rw [deq_tupI]
    exact h
end
def pf__law_refused (K : PySem.W.Frag) : PSp W0 := fun _ ds Q _ => ∃ n : Int, ds = [.int n] ∧ ¬ (1 ≤ n ∧ n ≤ 6) ∧ Q () (.bl true)
theorem v_refusedN {K : PySem.W.Frag} {n : Int} {Q : Unit → D → Prop} {E : Unit → Exn → Prop} (h1 : ¬ (1 ≤ n ∧ n ≤ 6)) (h : Q () (.bl true)) : pf__law_refused K () [.int n] Q E := ⟨n, rfl, h1, h⟩
section
variable {P : Program} [PG P] {w : World} {K : PySem.W.Frag} {mg : Str → Option Value} {base : Heap}
theorem ok__law_refused (c : Ctx K mg) : FnOk P w K mg base (L2N.CX P w) 7 (A__law_refused K) (fdA K (A__law_refused K)) ["_law_cells"] (spM .A K W0 (pf__law_refused K)) := by
  refine okQ (F__law_refused c) sc__law_refused (fun ω ds Q E h => ?_) (fun cdv A outer s0 H E hr tk pown => (qss_cons (qs_set (i := 1) sc__law_refused.nd rfl (Or.inl rfl) qe_non)
  (qss_cons (qs_try (K := K) rfl rfl rfl tk (fun W pn xe tk pown => (qss_one (qs_set (i := 1) sc__law_refused.nd rfl (Or.inl rfl) (qe_listGX (K := K) rfl tk (qg_call (ok_every_numbering (P := P) c) (hr.mono (by decide)) rfl (g_every_numbering c) (F_every_numbering c).kp (b_every_numbering c) (qa_cons (qe_va (pv 0)) qa_nil)) (hr.mono (by decide)) rfl (n_list c)))))
    (QHd.as_ (i := 2) sc__law_refused.nd rfl rfl ⟨rfl, by decide, Or.inl (g_BadSize c)⟩ (fun a oe d pn x hz hf => (qss_one (qs_ret (qe_and (qe_isE (K := K) rfl (i := 2) hz hf rfl (n_isinstance c) (pv 2) (pe_glob (v := .ref (He.ga K "HallError")) rfl (g_HallError c) rfl)) (qe_and (qe_not (qe_isE (K := K) rfl (i := 2) hz hf rfl (n_isinstance c) (pv 2) (pe_glob (v := .ref (He.ga K "BadNumbering")) rfl (g_BadNumbering c) rfl))) (qe_one (qe_cmp op_isN opIsP (qe_va (pv 1)) qe_non (nomark _))))))))
    (QHd.only ⟨rfl, by decide, Or.inl (g_HallError c)⟩ (fun a oe d pn x hz hf => (qss_one (qs_ret qe_bl)))
    QHd.nil)))
  (qss_one (qs_ret qe_bl))))) (fun ω ds Q E h => ?_)
  · first | (obtain ⟨rfl, _⟩ := h; rfl) | (obtain ⟨_, rfl, _⟩ := h; rfl) | (obtain ⟨_, _, rfl, _⟩ := h; rfl) | (obtain ⟨_, _, _, rfl, _⟩ := h; rfl) | (obtain ⟨_, _, _, _, rfl, _⟩ := h; rfl) | (obtain ⟨_, _, _, _, _, rfl, _⟩ := h; rfl) | (obtain ⟨_, _, _, _, _, _, rfl, _⟩ := h; rfl) | (obtain ⟨_, _, _, _, _, _, _, rfl, _⟩ := h; rfl)
  · skip
    obtain ⟨n, rfl, hn, Qk⟩ := h
    walk_at "v"
    refine v_everyX hn ?_
    refine v_kLGX (by decide) (by simpa using stp_BadSize c) ?_
    refine v_hd (xm_BadSize_BadSize c) fun a dd => ?_
    walk_at "v"
    refine v_isE rfl (exC_BadSize c) (kit_BadSize_HallError c) ?_
    walk_at "v"
    refine v_isE rfl (exC_BadSize c) (kit_BadSize_BadNumbering c) ?_
    walk_at "v"
    exact Qk
end
def pf__law_waits : PSp W0 := fun _ ds Q _ => ∃ n : Int, ds = [.int n] ∧ ¬ (1 ≤ n ∧ n ≤ 6) ∧ Q () (.bl true)
theorem v_waits {n : Int} {Q : Unit → D → Prop} {E : Unit → Exn → Prop} (h1 : ¬ (1 ≤ n ∧ n ≤ 6)) (h : Q () (.bl true)) : pf__law_waits () [.int n] Q E := ⟨n, rfl, h1, h⟩
section
variable {P : Program} [PG P] {w : World} {K : PySem.W.Frag} {mg : Str → Option Value} {base : Heap}
theorem ok__law_waits (c : Ctx K mg) : FnOk P w K mg base (L2N.CX P w) 7 (A__law_waits K) (fdA K (A__law_waits K)) ["_law_cells"] (spM .A K W0 (pf__law_waits)) := by
  refine okQ (F__law_waits c) sc__law_waits (fun ω ds Q E h => ?_) (fun cdv A outer s0 H E hr tk pown => (qss_cons (qs_try (K := K) rfl rfl rfl tk (fun W pn xe tk pown => (qss_one (qs_forZip0 pown rfl (hr.mono (by decide)) rfl (n_zip c) (qg_call (ok_every_numbering (P := P) c) (hr.mono (by decide)) rfl (g_every_numbering c) (F_every_numbering c).kp (b_every_numbering c) (qa_cons (qe_va (pv 0)) qa_nil)))))
    (QHd.only ⟨rfl, by decide, Or.inl (g_HallError c)⟩ (fun a oe d pn x hz hf => (qss_one (qs_ret qe_bl)))
    QHd.nil))
  (qss_one (qs_ret qe_bl)))) (fun ω ds Q E h => ?_)
  · first | (obtain ⟨rfl, _⟩ := h; rfl) | (obtain ⟨_, rfl, _⟩ := h; rfl) | (obtain ⟨_, _, rfl, _⟩ := h; rfl) | (obtain ⟨_, _, _, rfl, _⟩ := h; rfl) | (obtain ⟨_, _, _, _, rfl, _⟩ := h; rfl) | (obtain ⟨_, _, _, _, _, rfl, _⟩ := h; rfl) | (obtain ⟨_, _, _, _, _, _, rfl, _⟩ := h; rfl) | (obtain ⟨_, _, _, _, _, _, _, rfl, _⟩ := h; rfl)
  · skip
    obtain ⟨n, rfl, hn, Qk⟩ := h
    walk_at "v"
    refine v_everyX hn ?_
    walk_at "v"
    exact Qk
end
def plcN (d : D) : D := match d with | .ins _ _ [x] => x | _ => .non
theorem plcN_map {K : PySem.W.Frag} {os : List (List Int)} : List.map plcN (List.map (numD K) os) = os.map oTT := by
  rw [List.map_map] <;> rfl
theorem levTq {ds : List D} {n : Nat} (hl : ds.length ≤ 1000000) (h : ∀ d ∈ ds, d.lev n = true) : (D.tup ds).lev (n + 1) = true := by
  show (decide (_ ≤ _) && ds.all (D.lev n)) = true
  rw [Bool.and_eq_true]
  exact ⟨decide_eq_true hl, List.all_eq_true.mpr h⟩
theorem levLq {ds : List D} {n : Nat} (hl : ds.length ≤ 1000000) (h : ∀ d ∈ ds, d.lev n = true) : (D.lst ds).lev (n + 1) = true := by
  show (decide (_ ≤ _) && ds.all (D.lev n)) = true
  rw [Bool.and_eq_true]
  exact ⟨decide_eq_true hl, List.all_eq_true.mpr h⟩
theorem lev_intq {n : Nat} {ns : List Int} : ∀ d ∈ dInts ns, d.lev n = true := fun d hd => by
  obtain ⟨i, _, rfl⟩ := List.mem_map.mp hd
  cases n <;> rfl
theorem lev_rowsT {os : List (List Int)} (hl : os.length ≤ 1000000) (h : ∀ o ∈ os, o.length ≤ 1000000) : (D.lst (os.map oTT)).lev 8 = true := by
  refine levLq (n := 7) (by rw [List.length_map]; exact hl) fun d hd => ?_
  obtain ⟨o, ho, rfl⟩ := List.mem_map.mp hd
  exact levTq (n := 6) (by rw [length_dInts]; exact h o ho) lev_intq
theorem cutTq {f : List Int} {p : Int} (p0 : 0 ≤ p) : cutD (dInts f) none (some p) = dInts (f.take p.toNat) := by
  obtain ⟨k, rfl⟩ : ∃ k : Nat, p = k := ⟨p.toNat, by omega⟩
  unfold cutD dInts
  rw [HT.sIx_nat, HT.sIx_none, List.drop_zero, Nat.sub_zero, Int.toNat_natCast, List.map_take]
  exact List.take_eq_take_iff.mpr (by omega)
theorem lex_self : ∀ f : List Int, HT.lexLt f f = false
  | [] => rfl
  | x :: f => by
    unfold HT.lexLt
    simp [lex_self f]
theorem mixP {f s : List Int} {k : Nat} (hf : IsNum f) (hs : IsNum s) (hl : s.length = f.length) (hk : k ≤ f.length) : IsNum (f.take k ++ s.filter fun p => !decide (p ∈ f.take k)) := by
  have nt : (f.take k).Nodup := hf.nodup.sublist (List.take_sublist _ _)
  have lt : (f.take k).length = k := by rw [List.length_take]; omega
  have hfl : (s.filter fun p => decide (p ∈ f.take k)).length = k := by
    have p : (s.filter fun p => decide (p ∈ f.take k)).Perm (f.take k) := by
      refine (List.perm_ext_iff_of_nodup (hs.nodup.filter _) nt).mpr fun x => ?_
      rw [List.mem_filter]
      refine ⟨fun h => of_decide_eq_true h.2, fun h => ⟨hs.mem.mpr ?_, decide_eq_true h⟩⟩
      have := hf.mem.mp (List.mem_of_mem_take h)
      omega
    rw [p.length_eq, lt]
  have hle : (s.filter fun p => decide (p ∈ f.take k)).length + (s.filter fun p => !decide (p ∈ f.take k)).length = s.length := by
    have := List.length_eq_countP_add_countP (fun p => decide (p ∈ f.take k)) (l := s)
    rw [List.countP_eq_length_filter, List.countP_eq_length_filter] at this
    rw [this]
    congr 2
    refine List.filter_congr fun x _ => ?_
    by_cases q : x ∈ f.take k <;> simp [q]
  refine IsNum.of (n := f.length) hf.1 hf.2.1 (by rw [List.length_append, lt]; omega) ?_ fun x hx => ?_
  · rw [List.nodup_append]
    refine ⟨nt, hs.nodup.filter _, fun x hx y hy e => ?_⟩
    have := (List.mem_filter.mp hy).2
    rw [← e] at this
    simp [hx] at this
  · rcases List.mem_append.mp hx with h | h
    · exact hf.mem.mp (List.mem_of_mem_take h)
    · have := hs.mem.mp (List.mem_filter.mp h).1
      omega
section
variable {P : Program} [PG P] {w : World} {K : PySem.W.Frag} {mg : Str → Option Value} {base : Heap}
theorem ok_law (c : Ctx K mg) : FnOk P w K mg base (L2N.CX P w) 10 (A_law K) (fdA K (A_law K)) ["_law_script"] (spM .A K (WT K) (pf_law K)) := by
  refine okQ (F_law c) sc_law (fun ω ds Q E h => ?_) (fun cdv A outer s0 H E hr tk pown => (qss_cons (qs_set (i := 1) sc_law.nd rfl (Or.inl rfl) (qe_call (okp__law_begin (P := P) c) (hr.mono (by decide)) rfl (g__law_begin c) (F__law_begin c).kp (b__law_begin c) (fun σ => L2N.passAt tk σ) (qa_cons (qe_va (pv 0)) qa_nil)))
  (qss_cons (qs_set (i := 2) sc_law.nd rfl (Or.inl rfl) (qe_op op_add opI0_int qe_int (qe_call (okp__law_draw (P := P) c) (hr.mono (by decide)) rfl (g__law_draw c) (F__law_draw c).kp (b__law_draw c) (fun σ => L2N.passAt tk σ) (qa_cons (qe_va (pv 1)) (qa_cons qe_int qa_nil)))))
  (qss_cons (qs_set (i := 3) sc_law.nd rfl (Or.inl rfl) (qe_call (FnOk.inW (ok__law_all (P := P) c) (WT K)) (hr.mono (by decide)) rfl (g__law_all c) (F__law_all c).kp (b__law_all c) (fun σ => L2N.passAt tk σ) (qa_cons (qe_va (pv 2)) qa_nil)))
  (qss_cons (qs_for pown rfl (qi_rg1 rfl (n_range c) qe_int) (qg_name (i := 4) sc_law.nd rfl (Or.inl rfl))
    (qss_one (qs_if (qb_not (qb_val (qe_call (FnOk.inW (okp__law_same (P := P) c) (WT K)) (hr.mono (by decide)) rfl (g__law_same c) (F__law_same c).kp (b__law_same c) (fun σ => L2N.passAt tk σ) (qa_cons (qe_lcG' (own := [("_law_numbering", 14)]) rfl sc_law.nd (qg_call (ok_every_numbering (P := P) c) (hr.mono (by decide)) rfl (g_every_numbering c) (F_every_numbering c).kp (b_every_numbering c) (qa_cons (qe_va (pv 2)) qa_nil)) (hr.mono (by decide)) (blkOk_by (N := N_law) (sc := defScope s_law) (by decide +kernel)) (by decide +kernel) (fun _ _ _ _ _ => (qg_name (i := 14) sc_law.nd rfl (Or.inl rfl))) (fun _ _ _ _ _ => (qe_fld (qe_va (pv 14)) (cl_Numbering c) (na_Numbering_places c)))) (qa_cons (qe_va (pv 3)) qa_nil)))))
      (qss_one (qs_ret qe_bl))
      qss_nil)))
  (qss_cons (qs_set (i := 5) sc_law.nd rfl (Or.inl rfl) (qe_listG' (K := K) rfl (qg_call (ok_every_numbering (P := P) c) (hr.mono (by decide)) rfl (g_every_numbering c) (F_every_numbering c).kp (b_every_numbering c) (qa_cons (qe_va (pv 2)) qa_nil)) (hr.mono (by decide)) rfl (n_list c)))
  (qss_cons (qs_if (qb_not (qb_val (qe_call (FnOk.inW (okp__law_same (P := P) c) (WT K)) (hr.mono (by decide)) rfl (g__law_same c) (F__law_same c).kp (b__law_same c) (fun σ => L2N.passAt tk σ) (qa_cons (qe_lc (own := [("_law_numbering", 14)]) rfl sc_law.nd (qi_lst (qe_va (pv 5))) (blkOk_by (N := N_law) (sc := defScope s_law) (by decide +kernel)) (fun _ _ _ _ _ => (qg_name (i := 14) sc_law.nd rfl (Or.inl rfl))) (fun _ _ _ _ _ => qts_nil) (fun _ _ _ _ _ => (qe_fld (qe_va (pv 14)) (cl_Numbering c) (na_Numbering_places c)))) (qa_cons (qe_va (pv 3)) qa_nil)))))
    (qss_one (qs_ret qe_bl))
    qss_nil)
  (qss_cons (qs_for pown rfl (qi_rg1 rfl (n_range c) (qe_cB cr_len lenP rfl (n_len c) (by decide +kernel) (qa_cons (qe_va (pv 3)) qa_nil))) (qg_name (i := 6) sc_law.nd rfl (Or.inl rfl))
    (qss_one (qs_if (QW.toB (qw_or (qb_not (qb_val (qe_isiO (isi_Numbering c) (kit_Numbering_Numbering c) rfl (n_isinstance c) (qe_ix ix_list ixLP (qe_va (pv 5)) (qe_va (pv 6)) (fun _ _ => rfl)) (pe_glob (v := .ref (He.ga K "Numbering")) rfl (g_Numbering c) rfl)))) (qw_or1 (qb_not (qb_val (qe_call (FnOk.inW (okp__law_same (P := P) c) (WT K)) (hr.mono (by decide)) rfl (g__law_same c) (F__law_same c).kp (b__law_same c) (fun σ => L2N.passAt tk σ) (qa_cons (qe_obj (qe_ix ix_list ixLP (qe_va (pv 5)) (qe_va (pv 6)) (fun _ _ => rfl)) (co_Numbering c) (FnR.inW (rawF (ok_Numbering___call__ (P := P) c) (b_Numbering___call__ c)) (WT K)) (hr.mono (by decide)) (fun σ => L2N.passAt tk σ) (qa_cons (qe_op op_sub opI0_int (qe_va (pv 2)) qe_int) qa_nil)) (qa_cons (qe_ix ix_tup ixTP (qe_ix ix_list ixLP (qe_va (pv 3)) (qe_va (pv 6)) (fun _ _ => rfl)) (qe_op op_sub opI0_int (qe_va (pv 2)) qe_int) (fun _ _ => rfl)) qa_nil))))))))
      (qss_one (qs_ret qe_bl))
      qss_nil)))
  (qss_cons (qs_set (i := 7) sc_law.nd rfl (Or.inr rfl) (qe_call (okp__law_shuffled (P := P) c) (hr.mono (by decide)) rfl (g__law_shuffled c) (F__law_shuffled c).kp (b__law_shuffled c) (fun σ => L2N.passAt tk σ) (qa_cons (qe_va (pv 1)) (qa_cons (qe_op op_add opI0_int qe_int (qe_call (okp__law_draw (P := P) c) (hr.mono (by decide)) rfl (g__law_draw c) (F__law_draw c).kp (b__law_draw c) (fun σ => L2N.passAt tk σ) (qa_cons (qe_va (pv 1)) (qa_cons qe_int qa_nil)))) qa_nil))))
  (qss_cons (qs_set (i := 8) sc_law.nd rfl (Or.inl rfl) (qe_call (okp__law_shuffled (P := P) c) (hr.mono (by decide)) rfl (g__law_shuffled c) (F__law_shuffled c).kp (b__law_shuffled c) (fun σ => L2N.passAt tk σ) (qa_cons (qe_va (pv 1)) (qa_cons (qe_op op_add opI0_int qe_int (qe_call (okp__law_draw (P := P) c) (hr.mono (by decide)) rfl (g__law_draw c) (F__law_draw c).kp (b__law_draw c) (fun σ => L2N.passAt tk σ) (qa_cons (qe_va (pv 1)) (qa_cons qe_int qa_nil)))) qa_nil))))
  (qss_cons (qs_set (i := 9) sc_law.nd rfl (Or.inl rfl) (qe_call (okp__law_draw (P := P) c) (hr.mono (by decide)) rfl (g__law_draw c) (F__law_draw c).kp (b__law_draw c) (fun σ => L2N.passAt tk σ) (qa_cons (qe_va (pv 1)) (qa_cons qe_int qa_nil))))
  (qss_cut (qs_if (qb_cmp op_lt opI0_bl (qe_va (pv 9)) qe_int (nomark _))
    (qss_one (qs_set (i := 8) sc_law.nd rfl (Or.inl rfl) (qe_call (okp__law_shuffled (P := P) c) (hr.mono (by decide)) rfl (g__law_shuffled c) (F__law_shuffled c).kp (b__law_shuffled c) (fun σ => L2N.passAt tk σ) (qa_cons (qe_va (pv 1)) (qa_cons (qe_cB cr_len lenP rfl (n_len c) (by decide +kernel) (qa_cons (qe_va (pv 7)) qa_nil)) qa_nil)))))
    qss_nil)
  (qss_cut (qs_if (qb_cmp op_eq opEqP (qe_va (pv 9)) qe_int (nomark _))
    (qss_cons (qs_set (i := 10) sc_law.nd rfl (Or.inr rfl) (qe_call (okp__law_draw (P := P) c) (hr.mono (by decide)) rfl (g__law_draw c) (F__law_draw c).kp (b__law_draw c) (fun σ => L2N.passAt tk σ) (qa_cons (qe_va (pv 1)) (qa_cons (qe_cB cr_len lenP rfl (n_len c) (by decide +kernel) (qa_cons (qe_va (pv 7)) qa_nil)) qa_nil))))
    (qss_one (qs_set (i := 8) sc_law.nd rfl (Or.inl rfl) (qe_op op_catR opCatP (qe_sl sl_list slLP (qe_va (pv 7)) qo_none (qo_some (qe_va (pv 10)))) (qe_lc (own := [("_law_place", 15)]) rfl sc_law.nd (qi_lst (qe_va (pv 8))) (blkOk_by (N := N_law) (sc := defScope s_law) (by decide +kernel)) (fun _ _ _ _ _ => (qg_name (i := 15) sc_law.nd rfl (Or.inl rfl))) (fun _ _ _ _ _ => (qts_one (qb_cmp op_notIn_seq opInP (qe_va (pv 15)) (qe_sl sl_list slLP (qe_va (pv 7)) qo_none (qo_some (qe_va (pv 10)))) (by rfl)))) (fun _ _ _ _ _ => (qe_va (pv 15))))))))
    qss_nil)
  (qss_cons (qs_set (i := 11) sc_law.nd rfl (Or.inl rfl) (qe_make (qe_adr (pe_glob (v := .ref (He.ga K "Numbering")) rfl (g_Numbering c) rfl)) (mk_Numbering c) (rawF (ok_Numbering___init__ (P := P) c) (b_Numbering___init__ c)) (mkp_Numbering c) (hr.mono (by decide)) (fun σ => L2N.passAt tk σ) (qa_cons (qe_cT cr_list listP rfl (n_list c) (by decide +kernel) (qa_cons (qe_va (pv 7)) qa_nil)) qa_nil)))
  (qss_cons (qs_set (i := 12) sc_law.nd rfl (Or.inl rfl) (qe_make (qe_adr (pe_glob (v := .ref (He.ga K "Numbering")) rfl (g_Numbering c) rfl)) (mk_Numbering c) (rawF (ok_Numbering___init__ (P := P) c) (b_Numbering___init__ c)) (mkp_Numbering c) (hr.mono (by decide)) (fun σ => L2N.passAt tk σ) (qa_cons (qe_cT cr_list listP rfl (n_list c) (by decide +kernel) (qa_cons (qe_va (pv 8)) qa_nil)) qa_nil)))
  (qss_cons (qs_if (QW.toB (qw_or (qb_not (qb_val (qe_call (FnOk.inW (okp__law_same (P := P) c) (WT K)) (hr.mono (by decide)) rfl (g__law_same c) (F__law_same c).kp (b__law_same c) (fun σ => L2N.passAt tk σ) (qa_cons (qe_cmpO (cmo_Numbering___lt__ c) (fun _ _ => rfl) (FnR.inW (rawF (ok_Numbering___lt__ (P := P) c) (b_Numbering___lt__ c)) (WT K)) (hr.mono (by decide)) (fun σ => L2N.passAt tk σ) (qe_va (pv 11)) (qe_va (pv 12)) (nomark _)) (qa_cons (qe_cmp (op_ltT hr.units0) opLtTP (qe_cT cr_tuple tupleP rfl (n_tuple c) (by decide +kernel) (qa_cons (qe_va (pv 7)) qa_nil)) (qe_cT cr_tuple tupleP rfl (n_tuple c) (by decide +kernel) (qa_cons (qe_va (pv 8)) qa_nil)) (nomark _)) qa_nil))))) (qw_or1 (qb_not (qb_val (qe_call (FnOk.inW (okp__law_same (P := P) c) (WT K)) (hr.mono (by decide)) rfl (g__law_same c) (F__law_same c).kp (b__law_same c) (fun σ => L2N.passAt tk σ) (qa_cons (qe_cmpO (cmo_Numbering___lt__ c) (fun _ _ => rfl) (FnR.inW (rawF (ok_Numbering___lt__ (P := P) c) (b_Numbering___lt__ c)) (WT K)) (hr.mono (by decide)) (fun σ => L2N.passAt tk σ) (qe_va (pv 12)) (qe_va (pv 11)) (nomark _)) (qa_cons (qe_cmp (op_ltT hr.units0) opLtTP (qe_cT cr_tuple tupleP rfl (n_tuple c) (by decide +kernel) (qa_cons (qe_va (pv 8)) qa_nil)) (qe_cT cr_tuple tupleP rfl (n_tuple c) (by decide +kernel) (qa_cons (qe_va (pv 7)) qa_nil)) (nomark _)) qa_nil))))))))
    (qss_one (qs_ret qe_bl))
    qss_nil)
  (qss_cons (qs_if (QW.toB (qw_or (qb_not (qb_val (qe_call (FnOk.inW (okp__law_same (P := P) c) (WT K)) (hr.mono (by decide)) rfl (g__law_same c) (F__law_same c).kp (b__law_same c) (fun σ => L2N.passAt tk σ) (qa_cons (qe_cmpO (cmo_Numbering___eq__ c) (fun _ _ => rfl) (FnR.inW (rawF (ok_Numbering___eq__ (P := P) c) (b_Numbering___eq__ c)) (WT K)) (hr.mono (by decide)) (fun σ => L2N.passAt tk σ) (qe_va (pv 11)) (qe_va (pv 12)) (nomark _)) (qa_cons (qe_cmp (op_eqD hr.units) opEqDP (qe_va (pv 7)) (qe_va (pv 8)) (nomark _)) qa_nil))))) (qw_or1 (qb_not (qb_val (qe_call (FnOk.inW (okp__law_same (P := P) c) (WT K)) (hr.mono (by decide)) rfl (g__law_same c) (F__law_same c).kp (b__law_same c) (fun σ => L2N.passAt tk σ) (qa_cons (qe_neO (cmo_Numbering___eq__ c) (neo_Numbering c) (FnR.inW (rawF (ok_Numbering___eq__ (P := P) c) (b_Numbering___eq__ c)) (WT K)) (hr.mono (by decide)) (fun σ => L2N.passAt tk σ) (qe_va (pv 11)) (qe_va (pv 12)) (nomark _)) (qa_cons (qe_cmp (op_neD hr.units) opNeDP (qe_va (pv 7)) (qe_va (pv 8)) (nomark _)) qa_nil))))))))
    (qss_one (qs_ret qe_bl))
    qss_nil)
  (qss_cons (qs_if (QW.toB (qw_or (qb_not (qb_val (qe_call (FnOk.inW (okp__law_same (P := P) c) (WT K)) (hr.mono (by decide)) rfl (g__law_same c) (F__law_same c).kp (b__law_same c) (fun σ => L2N.passAt tk σ) (qa_cons (qe_cmpO (cmo_Numbering___lt__ c) (fun _ _ => rfl) (FnR.inW (rawF (ok_Numbering___lt__ (P := P) c) (b_Numbering___lt__ c)) (WT K)) (hr.mono (by decide)) (fun σ => L2N.passAt tk σ) (qe_va (pv 11)) (qe_va (pv 11)) (nomark _)) (qa_cons qe_bl qa_nil))))) (qw_or1 (qb_not (qb_val (qe_call (FnOk.inW (okp__law_same (P := P) c) (WT K)) (hr.mono (by decide)) rfl (g__law_same c) (F__law_same c).kp (b__law_same c) (fun σ => L2N.passAt tk σ) (qa_cons (qe_cmpO (cmo_Numbering___eq__ c) (fun _ _ => rfl) (FnR.inW (rawF (ok_Numbering___eq__ (P := P) c) (b_Numbering___eq__ c)) (WT K)) (hr.mono (by decide)) (fun σ => L2N.passAt tk σ) (qe_va (pv 11)) (qe_make (qe_adr (pe_glob (v := .ref (He.ga K "Numbering")) rfl (g_Numbering c) rfl)) (mk_Numbering c) (rawF (ok_Numbering___init__ (P := P) c) (b_Numbering___init__ c)) (mkp_Numbering c) (hr.mono (by decide)) (fun σ => L2N.passAt tk σ) (qa_cons (qe_cT cr_tuple tupleP rfl (n_tuple c) (by decide +kernel) (qa_cons (qe_va (pv 7)) qa_nil)) qa_nil)) (nomark _)) (qa_cons qe_bl qa_nil))))))))
    (qss_one (qs_ret qe_bl))
    qss_nil)
  (qss_cons (qs_for pown rfl (qi_lst (qe_lst (qa_cons qe_int (qa_cons qe_int (qa_cons (qe_op op_sub opI0_int (qe_un un_neg un_negP qe_int) (qe_call (okp__law_draw (P := P) c) (hr.mono (by decide)) rfl (g__law_draw c) (F__law_draw c).kp (b__law_draw c) (fun σ => L2N.passAt tk σ) (qa_cons (qe_va (pv 1)) (qa_cons qe_int qa_nil)))) (qa_cons (qe_op op_add opI0_int qe_int (qe_call (okp__law_draw (P := P) c) (hr.mono (by decide)) rfl (g__law_draw c) (F__law_draw c).kp (b__law_draw c) (fun σ => L2N.passAt tk σ) (qa_cons (qe_va (pv 1)) (qa_cons (qe_op op_pow opI_int qe_int qe_int) qa_nil)))) qa_nil)))))) (qg_name (i := 13) sc_law.nd rfl (Or.inl rfl))
    (qss_one (qs_if (QW.toB (qw_or (qb_not (qb_val (qe_call (FnOk.inW (ok__law_refused (P := P) c) (WT K)) (hr.mono (by decide)) rfl (g__law_refused c) (F__law_refused c).kp (b__law_refused c) (fun σ => L2N.passAt tk σ) (qa_cons (qe_va (pv 13)) qa_nil)))) (qw_or1 (qb_not (qb_val (qe_call (FnOk.inW (ok__law_waits (P := P) c) (WT K)) (hr.mono (by decide)) rfl (g__law_waits c) (F__law_waits c).kp (b__law_waits c) (fun σ => L2N.passAt tk σ) (qa_cons (qe_va (pv 13)) qa_nil)))))))
      (qss_one (qs_ret qe_bl))
      qss_nil)))
  (qss_one (qs_ret (qe_call (FnOk.inW (okp__law_same (P := P) c) (WT K)) (hr.mono (by decide)) rfl (g__law_same c) (F__law_same c).kp (b__law_same c) (fun σ => L2N.passAt tk σ) (qa_cons (qe_lst (qa_cons (qe_fld (qe_va (pv 11)) (cl_Numbering c) (na_Numbering_places c)) (qa_cons (qe_fld (qe_va (pv 12)) (cl_Numbering c) (na_Numbering_places c)) qa_nil))) (qa_cons (qe_lst (qa_cons (qe_cT cr_tuple tupleP rfl (n_tuple c) (by decide +kernel) (qa_cons (qe_va (pv 7)) qa_nil)) (qa_cons (qe_cT cr_tuple tupleP rfl (n_tuple c) (by decide +kernel) (qa_cons (qe_va (pv 8)) qa_nil)) qa_nil))) qa_nil)))))))))))))))))))))))) (fun ω ds Q E h => ?_)
  · first | (obtain ⟨rfl, _⟩ := h; rfl) | (obtain ⟨_, rfl, _⟩ := h; rfl) | (obtain ⟨_, _, rfl, _⟩ := h; rfl) | (obtain ⟨_, _, _, rfl, _⟩ := h; rfl) | (obtain ⟨_, _, _, _, rfl, _⟩ := h; rfl) | (obtain ⟨_, _, _, _, _, rfl, _⟩ := h; rfl) | (obtain ⟨_, _, _, _, _, _, rfl, _⟩ := h; rfl) | (obtain ⟨_, _, _, _, _, _, _, rfl, _⟩ := h; rfl)
  · skip
    have cc := c
    obtain ⟨a, ns, rfl, rfl, Qk⟩ := h
    walk_at "v"
    refine v_begin fun t => ?_
    walk_at "v"
    refine v_draw (by omega) (by decide) (by decide) fun z0 z00 z01 => ?_
    walk_at "v"
    obtain ⟨n, en⟩ : ∃ n : Nat, 1 + z0 = n := ⟨(1 + z0).toNat, by omega⟩
    rw [en]
    have n1 : 1 ≤ n := by omega
    have n6 : n ≤ 6 := by omega
    have al : (allP n).length ≤ 46656 := Nat.le_trans (rowsP_len n6 n) (pow6 n6)
    have am : ∀ o ∈ allP n, o.length ≤ 1000000 := fun o ho => by
      have := (allP_num n1 (by omega) ho).2
      omega
    have lv := lev_rowsT (by omega) am
    refine v_lawAll n6 ?_
    walk_at "v"
    refine v_kForR (fun i ω' ρ => ω' = TS.tape t 1 ∧ ∃ o4, ρ = [.va (.adr a), .va (.adr t), .va (.int n), .va (.lst ((allP n).map oTT)), o4, .no, .no, .no, .no, .no, .no, .no, .no, .no, .no, .no]) ⟨rfl, _, rfl⟩ ?_ ?_
    · rintro i ω' ρ hi ⟨rfl, o4, rfl⟩
      walk_at "v"
      refine v_every n1 n6 ?_
      refine v_kLcG ?_
      refine v_kLcM plcN (by rw [List.length_map]; omega) rfl (fun j d Q' hd hq => ?_) ?_
      · rw [List.getElem?_map] at hd
        obtain ⟨o, ho, rfl⟩ := Option.map_eq_some_iff.mp hd
        walk_at "v"
        refine ⟨rfl, ?_⟩
        walk_at "v"
        exact hq
      rw [plcN_map]
      walk_at "v"
      refine v_same rfl lv ?_
      walk_at "v"
      exact ⟨rfl, _, rfl⟩
    rintro ω' ρ ⟨rfl, o4, rfl⟩
    walk_at "v"
    refine v_every n1 n6 ?_
    refine v_kLG (by rw [List.length_map]; omega) ?_
    walk_at "v"
    refine v_kLcM plcN (by rw [List.length_map]; omega) rfl (fun j d Q' hd hq => ?_) ?_
    · rw [List.getElem?_map] at hd
      obtain ⟨o, ho, rfl⟩ := Option.map_eq_some_iff.mp hd
      walk_at "v"
      refine ⟨rfl, ?_⟩
      walk_at "v"
      exact hq
    rw [plcN_map]
    walk_at "v"
    refine v_same rfl lv ?_
    walk_at "v"
    rw [List.length_map]
    walk_at "v"
    refine v_kForR (fun i ω' ρ => ω' = TS.tape t 1 ∧ ∃ o6, ρ = [.va (.adr a), .va (.adr t), .va (.int n), .va (.lst ((allP n).map oTT)), o4, .va (.lst ((allP n).map (numD K))), o6, .no, .no, .no, .no, .no, .no, .no, .no, .no]) ⟨rfl, _, rfl⟩ ?_ ?_
    · rintro i ω' ρ hi ⟨rfl, o6, rfl⟩
      have hm := List.getElem_mem hi
      have hnum := allP_num n1 (by omega) hm
      generalize ho : (allP n)[i] = o at hm hnum
      have hg : (allP n)[i]? = some o := by rw [List.getElem?_eq_getElem hi, ho]
      have e1 : atI ((allP n).map (numD K)) (i : Int) = some (numD K o) := atI_of (by omega) (by rw [List.getElem?_map, Int.toNat_natCast, hg] <;> rfl)
      have e2 : atI ((allP n).map oTT) (i : Int) = some (oTT o) := atI_of (by omega) (by rw [List.getElem?_map, Int.toNat_natCast, hg] <;> rfl)
      walk_at "v"
      refine v_ixL e1 ?_
      walk_at "v"
      refine v_ixL e1 ?_
      walk_at "v"
      refine v_numCall (by omega) (by omega) ?_
      walk_at "v"
      refine v_ixL e2 ?_
      walk_at "v"
      refine v_ixT (atI_ints (ns := o) (k := (n : Int) - 1) (by omega) (by omega)) ?_
      walk_at "v"
      refine v_same rfl rfl ?_
      walk_at "v"
      exact ⟨rfl, _, rfl⟩
    rintro ω' ρ ⟨rfl, o6, rfl⟩
    walk_at "v"
    refine v_draw (by omega) (by decide) (by decide) fun z1 z10 z11 => ?_
    walk_at "v"
    obtain ⟨fl, efl⟩ : ∃ k : Nat, 1 + z1 = k := ⟨(1 + z1).toNat, by omega⟩
    rw [efl]
    refine v_shuffled (by omega) (by omega) (by omega) fun f hf hfl => ?_
    walk_at "v"
    refine v_draw (by omega) (by decide) (by decide) fun z2 z20 z21 => ?_
    walk_at "v"
    obtain ⟨sl, esl⟩ : ∃ k : Nat, 1 + z2 = k := ⟨(1 + z2).toNat, by omega⟩
    rw [esl]
    refine v_shuffled (by omega) (by omega) (by omega) fun s0 hs0 hsl => ?_
    walk_at "v"
    refine v_draw (by omega) (by decide) (by decide) fun kd kd0 kd1 => ?_
    walk_at "v"
    have f1 := hf.1
    have f12 := hf.2.1
    refine ⟨fun ω' ρ => ∃ (b : Nat) (s : List Int), b ≤ 60 ∧ IsNum s ∧ (kd < 2 → s.length = f.length) ∧ ω' = TS.tape t b ∧ ρ = [.va (.adr a), .va (.adr t), .va (.int n), .va (.lst ((allP n).map oTT)), o4, .va (.lst ((allP n).map (numD K))), o6, .va (.lst (dInts f)), .va (.lst (dInts s)), .va (.int kd), .no, .no, .no, .no, .no, .no], ?_, ?_⟩
    · walk_at "v"
      refine w_iteP (fun e => ?_) (fun e => ?_)
      · walk_at "v"
        rw [length_dInts]
        refine v_shuffled (by omega) f1 f12 fun s1 hs1 hsl1 => ?_
        walk_at "v"
        exact ⟨_, s1, by omega, hs1, fun _ => hsl1, rfl, rfl⟩
      · walk_at "v"
        exact ⟨_, s0, by omega, hs0, fun h => absurd h e, rfl, rfl⟩
    rintro ω' ρ ⟨b, s, hb, hs, hsf, rfl, rfl⟩
    refine ⟨fun ω' ρ => ∃ (b : Nat) (s : List Int) (o10 : Sl), b ≤ 61 ∧ IsNum s ∧ ω' = TS.tape t b ∧ ρ = [.va (.adr a), .va (.adr t), .va (.int n), .va (.lst ((allP n).map oTT)), o4, .va (.lst ((allP n).map (numD K))), o6, .va (.lst (dInts f)), .va (.lst (dInts s)), .va (.int kd), o10, .no, .no, .no, .no, .no], ?_, ?_⟩
    · walk_at "v"
      refine w_iteP (fun e => ?_) (fun e => ?_)
      · walk_at "v"
        rw [length_dInts]
        refine v_draw (by omega) (by omega) (by omega) fun at_ at0 at1 => ?_
        walk_at "v"
        rw [cutTq at0]
        refine v_kLcF (fun d => match d with | .int x => !decide (x ∈ f.take at_.toNat) | _ => false) (fun d => d) (by rw [length_dInts]; have := hs.2.1; omega) rfl (fun j d Qy Qn hd qy qn => ?_) ?_
        · unfold dInts at hd
          rw [List.getElem?_map] at hd
          obtain ⟨x, hx, rfl⟩ := Option.map_eq_some_iff.mp hd
          walk_at "v"
          refine ⟨rfl, ?_⟩
          walk_at "v"
          rw [cutTq at0]
          refine v_ninLI ?_
          refine ⟨_, rfl, ?_⟩
          by_cases q : x ∈ f.take at_.toNat
          · rw [if_neg (by simpa using q)]
            exact qn (by simpa using q)
          · rw [if_pos (by simpa using q)]
            walk_at "v"
            exact qy (by simpa using q)
        have ef : ((dInts s).filter (fun d => match d with | .int x => !decide (x ∈ f.take at_.toNat) | _ => false)).map (fun d => d) = dInts (s.filter fun x => !decide (x ∈ f.take at_.toNat)) := by
          rw [List.map_id']
          unfold dInts
          rw [List.filter_map] <;> rfl
        rw [ef]
        have mx := mixP hf hs (hsf (by omega)) (k := at_.toNat) (by omega)
        refine v_catL (by rw [length_dInts, length_dInts, ← List.length_append]; have := mx.2.1; omega) ?_
        walk_at "v"
        have ea : dInts (f.take at_.toNat) ++ dInts (s.filter fun x => !decide (x ∈ f.take at_.toNat)) = dInts (f.take at_.toNat ++ s.filter fun x => !decide (x ∈ f.take at_.toNat)) := by
          unfold dInts
          rw [List.map_append]
        rw [ea]
        exact ⟨_, _, _, by omega, mx, rfl, rfl⟩
      · walk_at "v"
        exact ⟨_, s, .no, by omega, hs, rfl, rfl⟩
    rintro ω' ρ ⟨b2, s, o10, hb2, hs, rfl, rfl⟩
    walk_at "v"
    refine v_num hf ?_
    refine ⟨pure_num _, ?_⟩
    walk_at "v"
    refine v_num hs ?_
    refine ⟨pure_num _, ?_⟩
    walk_at "v"
    refine v_numLt ?_
    walk_at "v"
    refine v_ltT ?_
    walk_at "v"
    refine v_same rfl rfl ?_
    walk_at "v"
    refine v_numLt ?_
    walk_at "v"
    refine v_ltT ?_
    walk_at "v"
    refine v_same rfl rfl ?_
    walk_at "v"
    refine v_numEq ?_
    walk_at "v"
    refine v_eqD 1 (by decide) (dep_lstI _ 0) (dep_lstI _ 0) ?_
    rw [deq_lstI]
    walk_at "v"
    refine v_same rfl rfl ?_
    walk_at "v"
    refine v_numEq ?_
    refine ⟨_, rfl, ?_⟩
    walk_at "v"
    refine v_neD 1 (by decide) (dep_lstI _ 0) (dep_lstI _ 0) ?_
    rw [deq_lstI]
    walk_at "v"
    refine v_same rfl rfl ?_
    walk_at "v"
    refine v_numLt ?_
    rw [lex_self]
    walk_at "v"
    refine v_same rfl rfl ?_
    walk_at "v"
    refine v_numT hf ?_
    refine ⟨pure_num _, ?_⟩
    walk_at "v"
    refine v_numEq ?_
    rw [decide_eq_true rfl]
    walk_at "v"
    refine v_same rfl rfl ?_
    walk_at "v"
    refine v_draw (by omega) (by decide) (by decide) fun u0 u00 u01 => ?_
    walk_at "v"
    refine v_draw (by omega) (by decide) (by decide) fun u1 u10 u11 => ?_
    walk_at "v"
    refine v_kFor (fun i ω' ρ => ω' = TS.tape t (b2 + 2) ∧ ∃ o13, ρ = [.va (.adr a), .va (.adr t), .va (.int n), .va (.lst ((allP n).map oTT)), o4, .va (.lst ((allP n).map (numD K))), o6, .va (.lst (dInts f)), .va (.lst (dInts s)), .va (.int kd), o10, .va (numD K f), .va (numD K s), o13, .no, .no]) ⟨rfl, _, rfl⟩ ?_ ?_
    · rintro i d ω' ρ hd ⟨rfl, o13, rfl⟩
      obtain ⟨z, rfl, hz⟩ : ∃ z : Int, d = .int z ∧ ¬ (1 ≤ z ∧ z ≤ 6) := by
        have := List.mem_of_getElem? hd
        rcases List.mem_cons.mp this with e | this
        · exact ⟨_, e, by omega⟩
        rcases List.mem_cons.mp this with e | this
        · exact ⟨_, e, by omega⟩
        rcases List.mem_cons.mp this with e | this
        · exact ⟨_, e, by omega⟩
        rcases List.mem_cons.mp this with e | this
        · exact ⟨_, e, by omega⟩
        · cases this
      walk_at "v"
      refine v_refusedN hz ?_
      walk_at "v"
      refine v_waits hz ?_
      walk_at "v"
      exact ⟨rfl, _, rfl⟩
    rintro ω' ρ ⟨rfl, o13, rfl⟩
    walk_at "v"
    refine v_same rfl ?_ ?_
    · refine levLq (n := 7) (by show 2 ≤ 1000000; decide) fun d hd => ?_
      rcases List.mem_cons.mp hd with rfl | hd
      · exact levTq (n := 6) (by rw [length_dInts]; omega) lev_intq
      · rw [List.mem_singleton.mp hd]
        have := hs.2.1
        exact levTq (n := 6) (by rw [length_dInts]; omega) lev_intq
    walk_at "v"
    exact Qk _
end
end LW
set_option maxHeartbeats 0
namespace LW
open PySem PySem.Spec PyProof.Rows L2
theorem ctx_of {K : PySem.W.Frag} {h : Heap} {mg : Str → Option Value} (X : K.In h) (G : h.Ns mainGlobals mg) (q : SaysW fa fn exB K) : Ctx K mg :=
  ⟨q, He.glo_ok X G, He.free_ok X G, He.int_ok X G, He.str_ok X G⟩
end LW
open PySem PySem.W PySem.Calls PyProof.Rows
instance : LW.PG (PySem.W.OpenLaw.prog PySem.Challenge.rw_ownlabels_k07_all_numberings_in_order) := ⟨by decide +kernel, by decide +kernel⟩
theorem PySem.Challenge.cw_ownlabels_k07_all_numberings_in_order_holds : PySem.Challenge.rw_ownlabels_k07_all_numberings_in_order.Holds := by
  w_on; o_law
  refine HandSHeadRun.head_any (r := OpenLaw.row PySem.Challenge.rw_ownlabels_k07_all_numberings_in_order) (q := view (OpenLaw.row PySem.Challenge.rw_ownlabels_k07_all_numberings_in_order).prog [17]) (H := LW.hkW) (ob := LW.obT LW.fa LW.fn LW.exB) (M := 8000) (loose := LW.looseN) (d := HandSHeadRun.topDef (OpenLaw.row PySem.Challenge.rw_ownlabels_k07_all_numberings_in_order).prog 17) (kwd := []) LW.obT_eq
    (by kernel_rfl) (fun s => by kernel_rfl) LW.runW (by kernel_rfl) (by kernel_rfl) (by kernel_rfl) (by rfl) (by first | assumption | decide +kernel) (by decide +kernel) ⟨rfl, rfl, rfl, rfl, rfl, by decide +kernel⟩ ?hw ?hc
  case hw => w_witness2
  case hc =>
    refine LW.walkW (l := PySem.Challenge.rw_ownlabels_k07_all_numberings_in_order) (n := 63) (k := 10) (x := "_law_script") rfl (by decide) (by kernel_rfl) ⟨rfl, by decide, by decide⟩ ?F
    case F =>
      intro w mg fa h Y G hmg0
      obtain ⟨K, KX, q⟩ := Y
      have c := LW.ctx_of KX G q
      have hmg : mg ("law" : PySem.Str) = some (.ref fa) := by
        have e : (HandSHeadRun.topDef (OpenLaw.row PySem.Challenge.rw_ownlabels_k07_all_numberings_in_order).prog 17).name = ("law" : PySem.Str) := by kernel_rfl
        rw [← e]
        exact hmg0
      have ef : fa = LW.A_law K := Value.ref.inj (Option.some.inj (hmg.symm.trans (LW.g_law c)))
      subst ef
      exact ⟨K, _, LW.spM .A K (LW.WT K) (LW.pf_law K), KX, fun s v => (LW.F_law c).bindsA (ps := ["_law_script"]) (fun _ _ _ _ _ _ us hl => match us, hl with | [_], _ => rfl) s [v] rfl, fun H a ns hl hO hS => LW.sp_law_of hl hO hS, fun base _ _ => LW.ok_law c⟩
#print axioms PySem.Challenge.cw_ownlabels_k07_all_numberings_in_order_holds
