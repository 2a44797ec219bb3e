import PyProof.Rows.All
import Wide.All
import OpenK.AllK
import Wide.FinOn
import KE.KStateDown
import HandS.ForMost
import HandS.Exc
import HandS.TryOnly
import HandS.TryMany
import HandS.ExcOwn
import HandS.WordsExc
import HandS.CallSlots
import HandS.ExcIs
import HandS.ExcField
import HandS.HotCalls
import HandS.IsInst
import HandS.Wide
import HandS.Defaults
import HandS.Head0
import HandS.Head1
import HandS.Head2
import HandS.HeadEnd
import HandS.HeadHook1
import HandS.HeadHook2
import HandS.ClsMeth
import HandS.SlotsOwn
import HandS.Star
import HandS.SortInts
import HandS.Conv
import HandS.CallLocal
import KE.KOpsOwn
import PyProof.TupleOfSeq
import HandS.Strs
import HandS.TupAny
import HandS.GenList
import HandS.ExcValue
import HandS.SetFor
import KE.KExcIs
import HandS.StrMore
import HandS.FStr
import KE.KDictKeyed
import KE.KDictDisplayH
import KE.GoesEnum
import KE.GoesEnumKw
import HandS.OwnIter
import HandS.IterVal
import HandS.Property
import KE.KExcSuper
import HandS.ExcInit
import KE.KSuper
import HandS.SetBool
import HandS.ReplaceLit
import HandS.MakeKw
import KE.KWithOwn
import HandS.Finally
import HandS.Codes
import HandS.NoneIn
import PySem.Challenge.RW_ownlabels_k19_visits
set_option Elab.async false
set_option linter.all false
set_option maxRecDepth 100000
set_option maxHeartbeats 4000000
namespace LW
open PySem PySem.Spec PyProof.Rows L2
inductive D where
  | non | bl (b : Bool) | int (i : Int) | str (s : Str)
  | tup (ds : List D) | lst (ds : List D) | ins (C : Addr) (ns : List Str) (ds : List D) | adr (a : Addr)
mutual
def D.py : D → PyData
  | .non => .none
  | .bl b => .bool b
  | .int i => .int i
  | .str s => .str s
  | .tup ds => .tuple (D.pys ds)
  | .lst ds => .list (D.pys ds)
  | .ins _ _ _ => .none
  | .adr _ => .none
def D.pys : List D → List PyData
  | [] => []
  | d :: ds => d.py :: D.pys ds
end
def excCB (K : PySem.W.Frag) (D : Addr) : Bool := decide (PySem.W.findIn K (.ref D) "__getattribute__" = some (some (.builtin "BaseException.__getattribute__"))) && (decide (PySem.W.findIn K (.ref D) "__getattr__" = some none) && (decide (PySem.W.subIn K (.ref D) (.type "BaseException") = some true) &&
  (PySem.W.hasDictIn K D && (decide (PySem.W.findIn K (.ref D) "__class__" = some (some (.builtin "object.__class__"))) && (decide (PySem.W.specialIn K (.builtin "object.__class__") "__get__" = some (some (.builtin "getset_descriptor.__get__"))) &&
  (decide (PySem.W.takesIn K (.builtin "object.__class__") = some true) && decide (PySem.W.mroIn K D (.type "object") = some true)))))))
structure DefW where
  at_ : PySem.W.Frag → Addr
  name : Str
  qual : Str
  params : Arguments
  body : List Stmt
  scope : Scope
  dfl : List He.Dv
  /-- it says super(); its class -/
  sup : Option Str := none
def fnWA (K : PySem.W.Frag) (sup : Option Str) (a : Addr) : He.FnW := match K.lookup a with
  | some ⟨_, _, .func fd, _⟩ => some (fd.name, fd.qualname, fd.params, fd.body, fd.scope, fd.globals, (match sup with | some _ => fd.closure.map fun p => (p.1, 0) | none => fd.closure), fd.builtins)
  | _ => none
def DefW.val (d : DefW) : He.FnW := some (d.name, d.qual, d.params, .stmts d.body, d.scope, mainGlobals, (match d.sup with | some _ => [("__class__", 0)] | none => []), builtinsNs)
def supB (K : PySem.W.Frag) (D : Addr) (fd : FuncData) : Bool := (match fd.closure with
  | [(_, cc)] => (match K.lookup cc with
    | some ⟨_, _, .cell (some (.ref D')), _⟩ => decide (D' = D)
    | _ => false)
  | _ => false) && ((match fd.code with
  | .ref cda => (match K.lookup cda with
    | some ⟨_, _, .fields vs, _⟩ => (match vs[2]? with
      | some (Value.str file _) => decide (file = "/claim/cut.py")
      | _ => false)
    | _ => false)
  | _ => false) && (PySem.W.clsIn K D).isSome)
def DefW.dvs (K : PySem.W.Frag) (d : DefW) : List V := d.dfl.map (He.Dv.v K)
def DefW.ok (K : PySem.W.Frag) (d : DefW) : Bool := PySem.W.keepIn K (.ref (d.at_ K)) && (match K.lookup (d.at_ K) with
  | some ⟨_, _, .func fd, _⟩ => PySem.W.codeIn K fd.code d.qual && He.dflB K fd.defaults (d.dvs K) && (match d.sup with
    | some C => supB K (He.ga K C) fd
    | none => true)
  | _ => false)
abbrev AlW : Type := Bool × List He.FnW
def obsW (fa : List He.Fa) (fn : List DefW) (ex : PySem.W.Frag → List Bool) (K : PySem.W.Frag) : AlW := ((fa.all fun f => f.ok K) && ((fn.all fun d => d.ok K) && (ex K).all id), fn.map fun d => fnWA K d.sup (d.at_ K))
def valW (fn : List DefW) : AlW := (true, fn.map DefW.val)
def SaysW (fa : List He.Fa) (fn : List DefW) (ex : PySem.W.Frag → List Bool) (K : PySem.W.Frag) : Prop := obsW fa fn ex K = valW fn
def levM (k : Nat → List Addr → List Addr) : List Addr → Nat → List Addr → List Addr
  | [], m, new => k m new
  | a :: r, m, new => bif Nat.beq (Nat.mod (Nat.shiftRight m a) 2) 1 then levM k r m new else levM k r (Nat.add m (Nat.pow 2 a)) (a :: new)
def asM (g : Addr → Option Obj) : Nat → Nat → List Addr → List Addr
  | 0, _, fr => fr
  | n + 1, m, fr => fr ++ levM (asM g n) (fr.flatMap fun a => match g a with
    | some o => He.refsD o
    | none => []) m []
def asW (g : Addr → Option Obj) : List Addr := asM g 5 (2 ^ mainGlobals) [mainGlobals] ++ [cStatics]
def hookW (fa : List He.Fa) (fn : List DefW) (ex : PySem.W.Frag → List Bool) : PySem.W.Hook where
  α := AlW
  obs := fun s => obsW fa fn ex (He.frG s.heap.get? (asW s.heap.get?))
  val := fun _ => valW fn
  says := fun _ h => ∃ K : PySem.W.Frag, K.In h ∧ SaysW fa fn ex K
  of := fun _ _ e => ⟨_, He.frG_in, e⟩
  keeps := fun _ _ _ ⟨K, hK, q⟩ k => ⟨K, PySem.W.Frag.In.keeps hK k, q⟩
def obT (fa : List He.Fa) (fn : List DefW) (ex : PySem.W.Frag → List Bool) (s : PySem.W.SharedT) : AlW := obsW fa fn ex (He.frG (HandSHeadRun.getT s) (asW (HandSHeadRun.getT s)))
theorem obT_eq {fa : List He.Fa} {fn : List DefW} {ex : PySem.W.Frag → List Bool} (s : PySem.W.SharedT) : obT fa fn ex s = (hookW fa fn ex).obs s.abs := by
  have e : HandSHeadRun.getT s = s.abs.heap.get? := funext (HandSHeadRun.getT_eq s)
  show obsW fa fn ex (He.frG (HandSHeadRun.getT s) (asW (HandSHeadRun.getT s))) = obsW fa fn ex (He.frG s.abs.heap.get? (asW s.abs.heap.get?))
  rw [e]
section
variable {fa : List He.Fa} {fn : List DefW} {ex : PySem.W.Frag → List Bool} {K : PySem.W.Frag}
theorem SaysW.all (c : SaysW fa fn ex K) : (fa.all fun f => f.ok K) = true ∧ (fn.all fun d => d.ok K) = true ∧ (ex K).all id = true := by
  have z := Bool.and_eq_true_iff.mp (show ((fa.all fun f => f.ok K) && ((fn.all fun d => d.ok K) && (ex K).all id)) = true from congrArg (fun z : AlW => z.1) c)
  exact ⟨z.1, Bool.and_eq_true_iff.mp z.2⟩
end
def recAd (T : String) (K : PySem.W.Frag) (x m : Str) : Addr := match PySem.W.recIn K (He.ma K (He.ga K x) m) T with
  | some (.ref g :: _) => g
  | _ => 0
end LW
namespace LW
open PySem PySem.Spec PyProof.Rows L2
section
variable {K : PySem.W.Frag} {x m : Str}
def cmoB (K : PySem.W.Frag) (x m : Str) : Bool := decide (PySem.W.findIn K (.ref (He.ga K x)) m = some (some (.ref (He.ma K (He.ga K x) m)))) && PySem.W.isFn K (.ref (He.ma K (He.ga K x) m))
def crdB (K : PySem.W.Frag) (x : Str) : Bool := PySem.W.readsIn K (He.ga K x) (.type "type") && decide (PySem.W.specialIn K (.ref (He.ga K x)) "__getattribute__" = some (some (.builtin "type.__getattribute__")))
def recB (K : PySem.W.Frag) (T : String) (p g : Addr) : Bool := match PySem.W.recIn K p T with
  | some (.ref a :: _) => decide (a = g)
  | _ => false
def cvlB (K : PySem.W.Frag) (x m : Str) (i : Int) : Bool := match PySem.W.findCls K (.ref (He.ga K x)) (.type "type") m with
  | some (.val (.int j _)) => decide (j = i)
  | _ => false
end
end LW
namespace LW
open PySem PySem.Spec PyProof.Rows L2
def xfB2 (K : PySem.W.Frag) (C : Addr) (n : Str) : Bool := xfB K C && decide (PySem.W.findIn K (.ref C) n = some none)
end LW
namespace LW
open PySem PySem.Spec PyProof.Rows L2
def prpB (K : PySem.W.Frag) (x m : Str) : Bool := decide (PySem.W.findIn K (.ref (He.ga K x)) m = some (some (.ref (He.ma K (He.ga K x) m)))) && (decide (PySem.W.specialIn K (.ref (He.ma K (He.ga K x) m)) "__get__" = some (some (.builtin "property.__get__"))) && (decide (PySem.W.takesIn K (.ref (He.ma K (He.ga K x) m)) = some true) && recB K "property" (He.ma K (He.ga K x) m) (recAd "property" K x m)))
end LW
namespace LW
open PySem PySem.Spec PyProof.Rows L2
def oexB (K : PySem.W.Frag) (C : Addr) : Bool := (match K.lookup C with
  | some ⟨.type "type", _, .cls cd, sl⟩ => (match cd.mro, sl.toList with
    | .ref C' :: bm, [_, _, _, _, some (Value.builtin n), _] => decide (C' = C) && (decide (n = "ValueError.__new__") && (!cd.hasDel && (cd.hasDict && PySem.HandSPX.refsVE bm)))
    | _, _ => false)
  | _ => false) && (decide (PySem.W.findIn K (.ref C) "__setattr__" = some (some (.builtin "object.__setattr__"))) && (decide (PySem.W.subIn K (.ref C) (.type "BaseException") = some true) && (decide (PySem.W.typeIn K (.ref C) = some (.type "type")) && PySem.W.keepIn K (.ref C))))
def supxB (K : PySem.W.Frag) (x f : Str) : Bool := oexB K (He.ga K x) && (decide (PySem.W.ks_superIn K (He.ga K x) (He.ga K x) "__init__" = some (some (.builtin "ValueError.__init__"))) && (decide (PySem.W.nsIn K cStatics "thirdparty.any" = some none) && (decide (PySem.W.mroIn K (He.ga K x) (.ref (He.ga K x)) = some true) && (decide (PySem.W.subIn K (.ref (He.ga K x)) (.type "ValueError") = some true) &&
  (decide (PySem.W.findIn K (.ref (He.ga K x)) f = some none) && (decide (PySem.W.findIn K (.ref (He.ga K x)) "__init__" = some (some (.ref (He.ma K (He.ga K x) "__init__")))) && decide (PySem.W.typeIn K (.ref (He.ma K (He.ga K x) "__init__")) = some (.type "function"))))))))
end LW
namespace LW
open PySem PySem.Spec PyProof.Rows L2
def setAd (K : PySem.W.Frag) (x m : Str) : Addr := match PySem.W.recIn K (He.ma K (He.ga K x) m) "property" with
  | some (_ :: .ref g :: _) => g
  | _ => 0
def getOB (K : PySem.W.Frag) (x : Str) : Bool := decide (PySem.W.findIn K (.ref (He.ga K x)) "__getitem__" = some (some (.ref (He.ma K (He.ga K x) "__getitem__")))) && (PySem.W.fnIn K (He.ma K (He.ga K x) "__getitem__") && PySem.W.isFn K (.ref (He.ma K (He.ga K x) "__getitem__")))
def setOB (K : PySem.W.Frag) (x : Str) : Bool := decide (PySem.W.findIn K (.ref (He.ga K x)) "__setitem__" = some (some (.ref (He.ma K (He.ga K x) "__setitem__")))) && (PySem.W.noSeq K (He.ga K x) && PySem.W.isFn K (.ref (He.ma K (He.ga K x) "__setitem__")))
def prsB (K : PySem.W.Frag) (x m : Str) : Bool := decide (PySem.W.takerIn K (He.ga K x) m = some (some (.ref (He.ma K (He.ga K x) m)))) && (decide (PySem.W.typeIn K (.ref (He.ma K (He.ga K x) m)) = some (.type "property")) && (match PySem.W.recIn K (He.ma K (He.ga K x) m) "property" with
  | some (_ :: .ref _ :: _) => true
  | _ => false))
end LW
namespace LW
open PySem PySem.Spec PyProof.Rows L2
def withB (K : PySem.W.Frag) (x : Str) : Bool :=
  decide (PySem.W.findIn K (.ref (He.ga K x)) "__enter__" = some (some (.ref (He.ma K (He.ga K x) "__enter__")))) && PySem.W.isFn K (.ref (He.ma K (He.ga K x) "__enter__")) &&
  decide (PySem.W.findIn K (.ref (He.ga K x)) "__exit__" = some (some (.ref (He.ma K (He.ga K x) "__exit__")))) && PySem.W.isFn K (.ref (He.ma K (He.ga K x) "__exit__"))
end LW

namespace LW
open PySem PySem.Spec PyProof.Rows L2
end LW
namespace LW
open PySem PySem.Spec PyProof.Rows L2
def top (i : Nat) : Stmt := PySem.Challenge.pw_ownlabels_k19_visits.main.body.getD i (.Pass ⟨0, 0, 0, 0⟩)
abbrev s__law_begin : Stmt := top 21
abbrev N__law_begin : List Str := ["_law_script"]
def d__law_begin : DefW := ⟨fun K => He.ga K "_law_begin", "_law_begin", "_law_begin", defArgs s__law_begin, defBody s__law_begin, defScope s__law_begin, [], none⟩
abbrev A__law_begin (K : PySem.W.Frag) : Addr := He.ga K "_law_begin"
abbrev s__law_draw : Stmt := top 22
abbrev N__law_draw : List Str := ["_law_tape", "_law_many", "_law_cell", "_law_number"]
def d__law_draw : DefW := ⟨fun K => He.ga K "_law_draw", "_law_draw", "_law_draw", defArgs s__law_draw, defBody s__law_draw, defScope s__law_draw, [], none⟩
abbrev A__law_draw (K : PySem.W.Frag) : Addr := He.ga K "_law_draw"
abbrev s_Hall___init__ : Stmt := inClass (top 13) 0
abbrev N_Hall___init__ : List Str := ["self", "cells", "capacity", "_"]
def d_Hall___init__ : DefW := ⟨fun K => He.ma K (He.ga K "Hall") "__init__", "__init__", "Hall.__init__", defArgs s_Hall___init__, defBody s_Hall___init__, defScope s_Hall___init__, [.int 1], none⟩
abbrev A_Hall___init__ (K : PySem.W.Frag) : Addr := He.ma K (He.ga K "Hall") "__init__"
abbrev s__law_shuffled : Stmt := top 24
abbrev N__law_shuffled : List Str := ["_law_tape", "_law_cells", "_law_left", "_law_places", "_law_k"]
def d__law_shuffled : DefW := ⟨fun K => He.ga K "_law_shuffled", "_law_shuffled", "_law_shuffled", defArgs s__law_shuffled, defBody s__law_shuffled, defScope s__law_shuffled, [], none⟩
abbrev A__law_shuffled (K : PySem.W.Frag) : Addr := He.ga K "_law_shuffled"
abbrev s_Numbering___len__ : Stmt := inClass (top 19) 11
abbrev N_Numbering___len__ : List Str := ["self"]
def d_Numbering___len__ : DefW := ⟨fun K => He.ma K (He.ga K "Numbering") "__len__", "__len__", "Numbering.__len__", defArgs s_Numbering___len__, defBody s_Numbering___len__, defScope s_Numbering___len__, [], none⟩
abbrev A_Numbering___len__ (K : PySem.W.Frag) : Addr := He.ma K (He.ga K "Numbering") "__len__"
abbrev s_Desk___init__ : Stmt := inClass (top 14) 0
abbrev N_Desk___init__ : List Str := ["self", "hall", "number", "numbering"]
def d_Desk___init__ : DefW := ⟨fun K => He.ma K (He.ga K "Desk") "__init__", "__init__", "Desk.__init__", defArgs s_Desk___init__, defBody s_Desk___init__, defScope s_Desk___init__, [], none⟩
abbrev A_Desk___init__ (K : PySem.W.Frag) : Addr := He.ma K (He.ga K "Desk") "__init__"
abbrev s_Hall_add_worker : Stmt := inClass (top 13) 1
abbrev N_Hall_add_worker : List Str := ["self", "numbering", "desk"]
def d_Hall_add_worker : DefW := ⟨fun K => He.ma K (He.ga K "Hall") "add_worker", "add_worker", "Hall.add_worker", defArgs s_Hall_add_worker, defBody s_Hall_add_worker, defScope s_Hall_add_worker, [], none⟩
abbrev A_Hall_add_worker (K : PySem.W.Frag) : Addr := He.ma K (He.ga K "Hall") "add_worker"
abbrev s_Numbering___init__ : Stmt := inClass (top 19) 1
abbrev N_Numbering___init__ : List Str := ["self", "places", "many"]
def d_Numbering___init__ : DefW := ⟨fun K => He.ma K (He.ga K "Numbering") "__init__", "__init__", "Numbering.__init__", defArgs s_Numbering___init__, defBody s_Numbering___init__, defScope s_Numbering___init__, [], none⟩
abbrev A_Numbering___init__ (K : PySem.W.Frag) : Addr := He.ma K (He.ga K "Numbering") "__init__"
abbrev s_Desk_leave : Stmt := inClass (top 14) 11
abbrev N_Desk_leave : List Str := ["self"]
def d_Desk_leave : DefW := ⟨fun K => He.ma K (He.ga K "Desk") "leave", "leave", "Desk.leave", defArgs s_Desk_leave, defBody s_Desk_leave, defScope s_Desk_leave, [], none⟩
abbrev A_Desk_leave (K : PySem.W.Frag) : Addr := He.ma K (He.ga K "Desk") "leave"
abbrev s_Hall_capacity : Stmt := inClass (top 13) 5
abbrev N_Hall_capacity : List Str := ["self"]
def d_Hall_capacity : DefW := ⟨fun K => recAd "property" K "Hall" "capacity", "capacity", "Hall.capacity", defArgs s_Hall_capacity, defBody s_Hall_capacity, defScope s_Hall_capacity, [], none⟩
abbrev A_Hall_capacity (K : PySem.W.Frag) : Addr := recAd "property" K "Hall" "capacity"
abbrev s_Desk_share : Stmt := inClass (top 14) 7
abbrev N_Desk_share : List Str := ["self"]
def d_Desk_share : DefW := ⟨fun K => recAd "property" K "Desk" "share", "share", "Desk.share", defArgs s_Desk_share, defBody s_Desk_share, defScope s_Desk_share, [], none⟩
abbrev A_Desk_share (K : PySem.W.Frag) : Addr := recAd "property" K "Desk" "share"
abbrev s_Desk_enough : Stmt := inClass (top 14) 8
abbrev N_Desk_enough : List Str := ["self"]
def d_Desk_enough : DefW := ⟨fun K => recAd "property" K "Desk" "enough", "enough", "Desk.enough", defArgs s_Desk_enough, defBody s_Desk_enough, defScope s_Desk_enough, [], none⟩
abbrev A_Desk_enough (K : PySem.W.Frag) : Addr := recAd "property" K "Desk" "enough"
abbrev s_Hall_occupants : Stmt := inClass (top 13) 4
abbrev N_Hall_occupants : List Str := ["self", "desk"]
def d_Hall_occupants : DefW := ⟨fun K => recAd "property" K "Hall" "occupants", "occupants", "Hall.occupants", defArgs s_Hall_occupants, defBody s_Hall_occupants, defScope s_Hall_occupants, [], none⟩
abbrev A_Hall_occupants (K : PySem.W.Frag) : Addr := recAd "property" K "Hall" "occupants"
abbrev s_Desk_enter : Stmt := inClass (top 14) 10
abbrev N_Desk_enter : List Str := ["self"]
def d_Desk_enter : DefW := ⟨fun K => He.ma K (He.ga K "Desk") "enter", "enter", "Desk.enter", defArgs s_Desk_enter, defBody s_Desk_enter, defScope s_Desk_enter, [], none⟩
abbrev A_Desk_enter (K : PySem.W.Frag) : Addr := He.ma K (He.ga K "Desk") "enter"
abbrev s_Hall_capacity__set : Stmt := inClass (top 13) 6
abbrev N_Hall_capacity__set : List Str := ["self", "capacity"]
def d_Hall_capacity__set : DefW := ⟨fun K => setAd K "Hall" "capacity", "capacity", "Hall.capacity", defArgs s_Hall_capacity__set, defBody s_Hall_capacity__set, defScope s_Hall_capacity__set, [], none⟩
abbrev A_Hall_capacity__set (K : PySem.W.Frag) : Addr := setAd K "Hall" "capacity"
abbrev s_Hall_change_capacity : Stmt := inClass (top 13) 7
abbrev N_Hall_change_capacity : List Str := ["self", "capacity"]
def d_Hall_change_capacity : DefW := ⟨fun K => He.ma K (He.ga K "Hall") "change_capacity", "change_capacity", "Hall.change_capacity", defArgs s_Hall_change_capacity, defBody s_Hall_change_capacity, defScope s_Hall_change_capacity, [], none⟩
abbrev A_Hall_change_capacity (K : PySem.W.Frag) : Addr := He.ma K (He.ga K "Hall") "change_capacity"
abbrev s_NoCell___init__ : Stmt := inClass (top 10) 0
abbrev N_NoCell___init__ : List Str := ["self", "cell"]
def d_NoCell___init__ : DefW := ⟨fun K => He.ma K (He.ga K "NoCell") "__init__", "__init__", "NoCell.__init__", defArgs s_NoCell___init__, defBody s_NoCell___init__, defScope s_NoCell___init__, [], some "NoCell"⟩
abbrev A_NoCell___init__ (K : PySem.W.Frag) : Addr := He.ma K (He.ga K "NoCell") "__init__"
abbrev s_Desk__place : Stmt := inClass (top 14) 1
abbrev N_Desk__place : List Str := ["self", "k", "places"]
def d_Desk__place : DefW := ⟨fun K => He.ma K (He.ga K "Desk") "_place", "_place", "Desk._place", defArgs s_Desk__place, defBody s_Desk__place, defScope s_Desk__place, [], none⟩
abbrev A_Desk__place (K : PySem.W.Frag) : Addr := He.ma K (He.ga K "Desk") "_place"
abbrev s_Held___init__ : Stmt := inClass (top 11) 0
abbrev N_Held___init__ : List Str := ["self", "holder"]
def d_Held___init__ : DefW := ⟨fun K => He.ma K (He.ga K "Held") "__init__", "__init__", "Held.__init__", defArgs s_Held___init__, defBody s_Held___init__, defScope s_Held___init__, [], some "Held"⟩
abbrev A_Held___init__ (K : PySem.W.Frag) : Addr := He.ma K (He.ga K "Held") "__init__"
abbrev s_Desk___setitem__ : Stmt := inClass (top 14) 4
abbrev N_Desk___setitem__ : List Str := ["self", "at", "worth", "place", "holder"]
def d_Desk___setitem__ : DefW := ⟨fun K => He.ma K (He.ga K "Desk") "__setitem__", "__setitem__", "Desk.__setitem__", defArgs s_Desk___setitem__, defBody s_Desk___setitem__, defScope s_Desk___setitem__, [], none⟩
abbrev A_Desk___setitem__ (K : PySem.W.Frag) : Addr := He.ma K (He.ga K "Desk") "__setitem__"
abbrev s__law_text : Stmt := top 26
abbrev N__law_text : List Str := ["_law_tape", "_law_signs", "_law_words", "_law_text_here", "_law_k", "_law_at", "_law_sign"]
def d__law_text : DefW := ⟨fun K => He.ga K "_law_text", "_law_text", "_law_text", defArgs s__law_text, defBody s__law_text, defScope s__law_text, [], none⟩
abbrev A__law_text (K : PySem.W.Frag) : Addr := He.ga K "_law_text"
abbrev s__law_due : Stmt := top 29
abbrev N__law_due : List Str := ["_law_contents", "_law_places", "_law_inside", "_law_capacity", "_law_worker", "_law_deeds", "_law_results", "_law_word", "_law_k", "_law_holder"]
def d__law_due : DefW := ⟨fun K => He.ga K "_law_due", "_law_due", "_law_due", defArgs s__law_due, defBody s__law_due, defScope s__law_due, [], none⟩
abbrev A__law_due (K : PySem.W.Frag) : Addr := He.ga K "_law_due"
abbrev s_Stay___init__ : Stmt := inClass (top 15) 0
abbrev N_Stay___init__ : List Str := ["self", "desk"]
def d_Stay___init__ : DefW := ⟨fun K => He.ma K (He.ga K "Stay") "__init__", "__init__", "Stay.__init__", defArgs s_Stay___init__, defBody s_Stay___init__, defScope s_Stay___init__, [], none⟩
abbrev A_Stay___init__ (K : PySem.W.Frag) : Addr := He.ma K (He.ga K "Stay") "__init__"
abbrev s_Stay___enter__ : Stmt := inClass (top 15) 1
abbrev N_Stay___enter__ : List Str := ["self"]
def d_Stay___enter__ : DefW := ⟨fun K => He.ma K (He.ga K "Stay") "__enter__", "__enter__", "Stay.__enter__", defArgs s_Stay___enter__, defBody s_Stay___enter__, defScope s_Stay___enter__, [], none⟩
abbrev A_Stay___enter__ (K : PySem.W.Frag) : Addr := He.ma K (He.ga K "Stay") "__enter__"
abbrev s_Stay___exit__ : Stmt := inClass (top 15) 2
abbrev N_Stay___exit__ : List Str := ["self", "kind", "value", "trace"]
def d_Stay___exit__ : DefW := ⟨fun K => He.ma K (He.ga K "Stay") "__exit__", "__exit__", "Stay.__exit__", defArgs s_Stay___exit__, defBody s_Stay___exit__, defScope s_Stay___exit__, [], none⟩
abbrev A_Stay___exit__ (K : PySem.W.Frag) : Addr := He.ma K (He.ga K "Stay") "__exit__"
abbrev s_Desk_take : Stmt := inClass (top 14) 5
abbrev N_Desk_take : List Str := ["self", "k"]
def d_Desk_take : DefW := ⟨fun K => He.ma K (He.ga K "Desk") "take", "take", "Desk.take", defArgs s_Desk_take, defBody s_Desk_take, defScope s_Desk_take, [], none⟩
abbrev A_Desk_take (K : PySem.W.Frag) : Addr := He.ma K (He.ga K "Desk") "take"
abbrev s_Desk_give : Stmt := inClass (top 14) 6
abbrev N_Desk_give : List Str := ["self", "k"]
def d_Desk_give : DefW := ⟨fun K => He.ma K (He.ga K "Desk") "give", "give", "Desk.give", defArgs s_Desk_give, defBody s_Desk_give, defScope s_Desk_give, [], none⟩
abbrev A_Desk_give (K : PySem.W.Frag) : Addr := He.ma K (He.ga K "Desk") "give"
abbrev s_Desk___getitem__ : Stmt := inClass (top 14) 3
abbrev N_Desk___getitem__ : List Str := ["self", "at", "content"]
def d_Desk___getitem__ : DefW := ⟨fun K => He.ma K (He.ga K "Desk") "__getitem__", "__getitem__", "Desk.__getitem__", defArgs s_Desk___getitem__, defBody s_Desk___getitem__, defScope s_Desk___getitem__, [], none⟩
abbrev A_Desk___getitem__ (K : PySem.W.Frag) : Addr := He.ma K (He.ga K "Desk") "__getitem__"
abbrev s_BadInstruction___init__ : Stmt := inClass (top 9) 0
abbrev N_BadInstruction___init__ : List Str := ["self", "instruction"]
def d_BadInstruction___init__ : DefW := ⟨fun K => He.ma K (He.ga K "BadInstruction") "__init__", "__init__", "BadInstruction.__init__", defArgs s_BadInstruction___init__, defBody s_BadInstruction___init__, defScope s_BadInstruction___init__, [], some "BadInstruction"⟩
abbrev A_BadInstruction___init__ (K : PySem.W.Frag) : Addr := He.ma K (He.ga K "BadInstruction") "__init__"
abbrev s__done : Stmt := top 16
abbrev N__done : List Str := ["desk", "word", "k"]
def d__done : DefW := ⟨fun K => He.ga K "_done", "_done", "_done", defArgs s__done, defBody s__done, defScope s__done, [], none⟩
abbrev A__done (K : PySem.W.Frag) : Addr := He.ga K "_done"
abbrev s_visit : Stmt := top 17
abbrev N_visit : List Str := ["desk", "deeds", "results", "inside", "word", "k"]
def d_visit : DefW := ⟨fun K => He.ga K "visit", "visit", "visit", defArgs s_visit, defBody s_visit, defScope s_visit, [], none⟩
abbrev A_visit (K : PySem.W.Frag) : Addr := He.ga K "visit"
abbrev s__law_visit : Stmt := top 27
abbrev N__law_visit : List Str := ["_law_desk", "_law_deeds"]
def d__law_visit : DefW := ⟨fun K => He.ga K "_law_visit", "_law_visit", "_law_visit", defArgs s__law_visit, defBody s__law_visit, defScope s__law_visit, [], none⟩
abbrev A__law_visit (K : PySem.W.Frag) : Addr := He.ga K "_law_visit"
abbrev s__law_told : Stmt := top 28
abbrev N__law_told : List Str := ["_law_desk", "_law_deeds", "e"]
def d__law_told : DefW := ⟨fun K => He.ga K "_law_told", "_law_told", "_law_told", defArgs s__law_told, defBody s__law_told, defScope s__law_told, [], none⟩
abbrev A__law_told (K : PySem.W.Frag) : Addr := He.ga K "_law_told"
abbrev s__law_same : Stmt := top 23
abbrev N__law_same : List Str := ["_law_actual", "_law_expected", "_law_k"]
def d__law_same : DefW := ⟨fun K => He.ga K "_law_same", "_law_same", "_law_same", defArgs s__law_same, defBody s__law_same, defScope s__law_same, [], none⟩
abbrev A__law_same (K : PySem.W.Frag) : Addr := He.ga K "_law_same"
abbrev s_Hall_contents : Stmt := inClass (top 13) 2
abbrev N_Hall_contents : List Str := ["self"]
def d_Hall_contents : DefW := ⟨fun K => recAd "property" K "Hall" "contents", "contents", "Hall.contents", defArgs s_Hall_contents, defBody s_Hall_contents, defScope s_Hall_contents, [], none⟩
abbrev A_Hall_contents (K : PySem.W.Frag) : Addr := recAd "property" K "Hall" "contents"
abbrev s_Hall_free : Stmt := inClass (top 13) 3
abbrev N_Hall_free : List Str := ["self"]
def d_Hall_free : DefW := ⟨fun K => recAd "property" K "Hall" "free", "free", "Hall.free", defArgs s_Hall_free, defBody s_Hall_free, defScope s_Hall_free, [], none⟩
abbrev A_Hall_free (K : PySem.W.Frag) : Addr := recAd "property" K "Hall" "free"
abbrev s_Desk_behind : Stmt := inClass (top 14) 9
abbrev N_Desk_behind : List Str := ["self", "desk"]
def d_Desk_behind : DefW := ⟨fun K => recAd "property" K "Desk" "behind", "behind", "Desk.behind", defArgs s_Desk_behind, defBody s_Desk_behind, defScope s_Desk_behind, [], none⟩
abbrev A_Desk_behind (K : PySem.W.Frag) : Addr := recAd "property" K "Desk" "behind"
abbrev s__law_looks : Stmt := top 25
abbrev N__law_looks : List Str := ["_law_hall", "_law_desks", "_law_contents", "_law_inside", "_law_capacity", "_law_shares", "_law_k", "_law_enough"]
def d__law_looks : DefW := ⟨fun K => He.ga K "_law_looks", "_law_looks", "_law_looks", defArgs s__law_looks, defBody s__law_looks, defScope s__law_looks, [], none⟩
abbrev A__law_looks (K : PySem.W.Frag) : Addr := He.ga K "_law_looks"
abbrev s_law : Stmt := top 30
abbrev N_law : List Str := ["_law_script", "_law_tape", "_law_cells", "_law_capacity", "_law_hall", "_law_orders", "_law_desks", "_law_contents", "_law_inside", "_law_kept", "_law_turn", "_law_worker", "_law_desk", "_law_places", "_law_kind", "_law_k", "_law_deeds", "_law_spoiled", "_law_word", "_law_at", "_law_expected", "_law_told_here"]
def d_law : DefW := ⟨fun K => He.ga K "law", "law", "law", defArgs s_law, defBody s_law, defScope s_law, [], none⟩
abbrev A_law (K : PySem.W.Frag) : Addr := He.ga K "law"
def fn : List DefW := [d__law_begin, d__law_draw, d_Hall___init__, d__law_shuffled, d_Numbering___len__, d_Desk___init__, d_Hall_add_worker, d_Numbering___init__, d_Desk_leave, d_Hall_capacity, d_Desk_share, d_Desk_enough, d_Hall_occupants, d_Desk_enter, d_Hall_capacity__set, d_Hall_change_capacity, d_NoCell___init__, d_Desk__place, d_Held___init__, d_Desk___setitem__, d__law_text, d__law_due, d_Stay___init__, d_Stay___enter__, d_Stay___exit__, d_Desk_take, d_Desk_give, d_Desk___getitem__, d_BadInstruction___init__, d__done, d_visit, d__law_visit, d__law_told, d__law_same, d_Hall_contents, d_Hall_free, d_Desk_behind, d__law_looks, d_law]
def fa : List He.Fa := [.free "abs", .free "bool", .free "int", .free "isinstance", .free "len", .free "list", .free "max", .free "range", .free "sorted", .free "str", .free "super", .free "tuple", .glo "_law_begin", .glo "_law_draw", .glo "_law_shuffled", .glo "_law_text", .glo "_law_due", .glo "_done", .glo "visit", .glo "_law_visit", .glo "_law_told", .glo "_law_same", .glo "_law_looks", .glo "law", .glo "AlreadyInside", .glo "BadInstruction", .glo "Desk", .glo "Hall", .glo "HallError", .glo "Held", .glo "NoCell", .glo "NotEnough", .glo "Numbering", .glo "RoomFull", .glo "Stay", .glo "BadNumbering", .glo "BadSize", .glo "NotInside", .exc "AlreadyInside", .exc "BadNumbering", .exc "BadSize", .exc "NotEnough", .exc "NotInside", .exc "RoomFull", .mkr "Desk", .mkr "Hall", .mkr "Numbering", .mkr "Stay", .meth "Desk" "_place", .meth "Desk" "enter", .meth "Desk" "give", .meth "Desk" "leave", .meth "Desk" "take", .meth "Hall" "add_worker", .meth "Hall" "change_capacity", .cls "Desk", .cls "Hall", .cls "Numbering", .cls "Stay", .exm "AlreadyInside" "AlreadyInside" true, .exm "AlreadyInside" "BadInstruction" false, .exm "AlreadyInside" "HallError" true, .exm "AlreadyInside" "Held" false, .exm "AlreadyInside" "NoCell" false, .exm "AlreadyInside" "NotEnough" false, .exm "AlreadyInside" "RoomFull" false, .exm "BadInstruction" "AlreadyInside" false, .exm "BadInstruction" "BadInstruction" true, .exm "BadInstruction" "HallError" true, .exm "BadInstruction" "Held" false, .exm "BadInstruction" "NoCell" false, .exm "BadInstruction" "NotEnough" false, .exm "BadInstruction" "RoomFull" false, .exm "BadNumbering" "AlreadyInside" false, .exm "BadNumbering" "BadInstruction" false, .exm "BadNumbering" "HallError" true, .exm "BadNumbering" "Held" false, .exm "BadNumbering" "NoCell" false, .exm "BadNumbering" "NotEnough" false, .exm "BadNumbering" "RoomFull" false, .exm "BadSize" "AlreadyInside" false, .exm "BadSize" "BadInstruction" false, .exm "BadSize" "HallError" true, .exm "BadSize" "Held" false, .exm "BadSize" "NoCell" false, .exm "BadSize" "NotEnough" false, .exm "BadSize" "RoomFull" false, .exm "Held" "AlreadyInside" false, .exm "Held" "BadInstruction" false, .exm "Held" "HallError" true, .exm "Held" "Held" true, .exm "Held" "NoCell" false, .exm "Held" "NotEnough" false, .exm "Held" "RoomFull" false, .exm "NoCell" "AlreadyInside" false, .exm "NoCell" "BadInstruction" false, .exm "NoCell" "HallError" true, .exm "NoCell" "Held" false, .exm "NoCell" "NoCell" true, .exm "NoCell" "NotEnough" false, .exm "NoCell" "RoomFull" false, .exm "NotEnough" "AlreadyInside" false, .exm "NotEnough" "BadInstruction" false, .exm "NotEnough" "HallError" true, .exm "NotEnough" "Held" false, .exm "NotEnough" "NoCell" false, .exm "NotEnough" "NotEnough" true, .exm "NotEnough" "RoomFull" false, .exm "NotInside" "AlreadyInside" false, .exm "NotInside" "BadInstruction" false, .exm "NotInside" "HallError" true, .exm "NotInside" "Held" false, .exm "NotInside" "NoCell" false, .exm "NotInside" "NotEnough" false, .exm "NotInside" "RoomFull" false, .exm "RoomFull" "AlreadyInside" false, .exm "RoomFull" "BadInstruction" false, .exm "RoomFull" "HallError" true, .exm "RoomFull" "Held" false, .exm "RoomFull" "NoCell" false, .exm "RoomFull" "NotEnough" false, .exm "RoomFull" "RoomFull" true, .noat "Desk" "hall", .noat "Desk" "number", .noat "Desk" "numbering", .noat "Desk" "is_inside", .noat "Hall" "held", .noat "Hall" "desks", .noat "Hall" "_capacity", .noat "Numbering" "places", .noat "Stay" "desk"]
def exB (K : PySem.W.Frag) : List Bool := [(cmoB K "Numbering" "__len__"), (crdB K "Numbering"), (cvlB K "Numbering" "MOST" 12), (excCB K (He.ga K "AlreadyInside")), (excCB K (He.ga K "NotEnough")), (excCB K (He.ga K "RoomFull")), (getOB K "Desk"), (decide (PySem.W.kitOne K (.ref (He.ga K "AlreadyInside")) (.ref (He.ga K "HallError")) = some true)), (decide (PySem.W.kitOne K (.ref (He.ga K "NotEnough")) (.ref (He.ga K "HallError")) = some true)), (decide (PySem.W.kitOne K (.ref (He.ga K "RoomFull")) (.ref (He.ga K "HallError")) = some true)), (prpB K "Desk" "behind"), (prpB K "Desk" "enough"), (prpB K "Desk" "share"), (prpB K "Hall" "capacity"), (prpB K "Hall" "contents"), (prpB K "Hall" "free"), (prpB K "Hall" "occupants"), (prsB K "Hall" "capacity"), (setOB K "Desk"), (supxB K "BadInstruction" "instruction"), (supxB K "Held" "holder"), (supxB K "NoCell" "cell"), (withB K "Stay"), (xfB2 K (He.ga K "BadInstruction") "instruction"), (xfB2 K (He.ga K "Held") "holder"), (xfB2 K (He.ga K "NoCell") "cell")]
abbrev RRow : PySem.W.OpenRow := PySem.W.OpenLaw.row PySem.Challenge.rw_ownlabels_k19_visits
abbrev hkW : PySem.W.Hook := hookW fa fn exB
def looseN : List PySem.Str := (["_wall", "HallError", "BadNumbering", "BadSize", "NotEnough", "RoomFull", "AlreadyInside", "NotInside", "BadInstruction", "NoCell", "Held", "Hall", "Desk", "Stay", "_done", "visit", "Numbering", "_law_begin", "_law_draw", "_law_same", "_law_shuffled", "_law_looks", "_law_text", "_law_visit", "_law_told", "_law_due"] : List PySem.Str)
set_option maxHeartbeats 0 in
theorem runW (w : World) : HandSHeadRun.RunEq RRow (PySem.W.view RRow.prog [30]) hkW (obT fa fn exB) 12000 looseN w := by
  intro os
  kernel_rfl
end LW
section
open PySem PySem.W PySem.Calls PyProof.Rows
set_option maxHeartbeats 0 in
theorem LW.headed (hc : WalkO (view (OpenLaw.row PySem.Challenge.rw_ownlabels_k19_visits).prog [30]) LW.looseN (XL (view (OpenLaw.row PySem.Challenge.rw_ownlabels_k19_visits).prog [30]) []) (LW.hkW).says (OpenLaw.row PySem.Challenge.rw_ownlabels_k19_visits).toRowW (HandSHeadRun.topDef (OpenLaw.row PySem.Challenge.rw_ownlabels_k19_visits).prog 30) [] (fun f vs => PySem.call f vs)) : PySem.Challenge.rw_ownlabels_k19_visits.Holds := by
  w_on; o_law
  refine HandSHeadRun.head_any (r := OpenLaw.row PySem.Challenge.rw_ownlabels_k19_visits) (q := view (OpenLaw.row PySem.Challenge.rw_ownlabels_k19_visits).prog [30]) (H := LW.hkW) (ob := LW.obT LW.fa LW.fn LW.exB) (M := 12000) (loose := LW.looseN) (d := HandSHeadRun.topDef (OpenLaw.row PySem.Challenge.rw_ownlabels_k19_visits).prog 30) (kwd := []) obT_eq
    (by kernel_rfl) (fun s => by kernel_rfl) LW.runW (by kernel_rfl) (by kernel_rfl) (by kernel_rfl) (by rfl) (by first | assumption | decide +kernel) (by decide +kernel) ⟨rfl, rfl, rfl, rfl, rfl, by decide +kernel⟩ ?hw hc
  w_witness2
end
namespace LW
open PySem PySem.Spec PyProof.Rows L2

end LW
namespace LW
open PySem PySem.Spec PyProof.Rows L2
def immNames : List (List Str) := [["places"], ["instructions", "rows"], ["program", "numberings", "workers", "cells", "capacity"], ["system", "system"], ["system", "schedule", "system"], ["system", "schedule", "cycle", "system"], ["system", "states", "ranks", "levels", "helpers", "system"]]
def imm (ns : List Str) : Bool := decide (ns ∈ immNames)
def pers : HO → Bool
  | .lst _ => false
  | .dK _ => false
  | .dT _ => false
  | .set _ _ => false
  | .ext _ => false
  | .ins _ _ fs => imm (fs.map (·.1))
  | _ => true
mutual
inductive Rep (K : PySem.W.Frag) (H : Hp) : D → V → Prop
  | non : Rep K H .non .non
  | bl (b : Bool) : Rep K H (.bl b) (.bl b)
  | int (i : Int) : Rep K H (.int i) (.int i)
  | str (s : Str) : Rep K H (.str s) (.str s)
  | adr (a : Addr) : Rep K H (.adr a) (.ref a)
  | tup {a : Addr} {xs : List V} {ds : List D} : SqT K H a xs → Reps K H ds xs → Rep K H (.tup ds) (.ref a)
  | lst {a : Addr} {xs : List V} {ds : List D} : SqL K H a xs → Reps K H ds xs → Rep K H (.lst ds) (.ref a)
  | ins {a C dx : Addr} {ns : List Str} {xs : List V} {ds : List D} : H a = some (.ins C dx (ns.zip xs)) → imm ns = true → ns.length = ds.length → Reps K H ds xs → Rep K H (.ins C ns ds) (.ref a)
inductive Reps (K : PySem.W.Frag) (H : Hp) : List D → List V → Prop
  | nil : Reps K H [] []
  | cons {d : D} {ds : List D} {v : V} {vs : List V} : Rep K H d v → Reps K H ds vs → Reps K H (d :: ds) (v :: vs)
end
mutual
def D.pure : D → Bool
  | .tup ds => D.pures ds
  | .lst _ => false
  | .ins _ _ ds => D.pures ds
  | _ => true
def D.pures : List D → Bool
  | [] => true
  | d :: ds => d.pure && D.pures ds
end
structure Gr (S : List Addr) (H H' : Hp) : Prop where
  keep : ∀ a o, H a = some o → a ∉ S → H' a = some o
  mu : ∀ a, a ∈ S → ∃ o, H a = some o ∧ pers o = false
section
variable {K : PySem.W.Frag} {H H' H1 H2 : Hp} {S S' : List Addr} {a l p : Addr} {o : HO} {xs ys : List V}
theorem Gr.refl (H : Hp) : Gr [] H H := ⟨fun _ _ h _ => h, fun _ h => by cases h⟩
theorem Gr.get (g : Gr S H H') (h : H a = some o) (hp : pers o = true) : H' a = some o := g.keep a o h fun m => by
  obtain ⟨u, h1, h2⟩ := g.mu a m
  rw [h] at h1
  cases h1
  rw [hp] at h2
  cases h2
theorem Gr.get0 (g : Gr [] H H') (h : H a = some o) : H' a = some o := g.keep a o h (by simp)
theorem Gr.trans (g : Gr S H H1) (g' : Gr S' H1 H2) (hs : ∀ a, a ∈ S' → a ∈ S ∨ H a = none) : Gr S H H2 :=
  ⟨fun a o h m => g'.keep a o (g.keep a o h m) fun m' => by
    rcases hs a m' with q | q
    · exact m q
    · exact absurd (h.symm.trans q) (by simp), g.mu⟩
theorem Gr.trans0 (g : Gr S H H1) (g' : Gr [] H1 H2) : Gr S H H2 := g.trans g' fun _ h => by cases h
theorem Gr.transN (g : Gr S H H1) (g' : Gr [l] H1 H2) (h : H l = none) : Gr S H H2 := g.trans g' fun a m => by
  have e : a = l := by simpa using m
  subst e
  exact .inr h
theorem Gr.weak (g : Gr [] H H') (h : ∀ a, a ∈ S → ∃ o, H a = some o ∧ pers o = false) : Gr S H H' := ⟨fun a o e _ => g.keep a o e (by simp), h⟩
theorem Gr.new (h : H p = none) : Gr [] H (upd H p o) := ⟨fun a u e _ => by rw [upd_ne (ne_of_none e h)]; exact e, fun _ m => by cases m⟩
theorem Gr.wr (h : H l = some (.lst xs)) : Gr [l] H (upd H l o) := ⟨fun a u e m => by
    rw [upd_ne (by simpa using m)]
    exact e, fun a m => by
    have e : a = l := by simpa using m
    subst e
    exact ⟨_, h, rfl⟩⟩
theorem Gr.free (g : Gr S H H') (h : H' p = none) (hp : p ∉ S) : H p = none := by
  cases q : H p with
  | none => rfl
  | some u =>
    rw [g.keep p u q hp] at h
    cases h
theorem Gr.free0 (g : Gr [] H H') (h : H' p = none) : H p = none := g.free h (by simp)
theorem Gr.free1 (g : Gr [l] H H') (h : H' p = none) (ne : p ≠ l) : H p = none := g.free h (by simpa using ne)
theorem Gr.sqt (g : Gr S H H') (h : SqT K H a xs) : SqT K H' a xs := by
  rcases h with (h | ⟨u, h⟩) | h
  · exact .inl (.inl (g.get h rfl))
  · exact .inl (.inr ⟨u, g.get h rfl⟩)
  · exact .inr h
theorem Gr.sql0 (g : Gr [] H H') (h : SqL K H a xs) : SqL K H' a xs := by
  rcases h with (h | ⟨u, h⟩) | h
  · exact .inl (.inl (g.get0 h))
  · exact .inl (.inr ⟨u, g.get0 h⟩)
  · exact .inr h
theorem Gr.sql (g : Gr S H H') (h : SqL K H a xs) (hn : a ∉ S) : SqL K H' a xs := by
  rcases h with (h | ⟨u, h⟩) | h
  · exact .inl (.inl (g.keep _ _ h hn))
  · exact .inl (.inr ⟨u, g.keep _ _ h hn⟩)
  · exact .inr h
end
mutual
theorem Rep.gr {K : PySem.W.Frag} {H H' : Hp} {S : List Addr} (g : Gr S H H') : ∀ {d : D} {v : V}, Rep K H d v → d.pure = true → Rep K H' d v
  | _, _, .non, _ => .non
  | _, _, .bl b, _ => .bl b
  | _, _, .int b, _ => .int b
  | _, _, .str b, _ => .str b
  | _, _, .adr b, _ => .adr b
  | _, _, .tup h r, q => .tup (g.sqt h) (Reps.gr g r q)
  | _, _, .lst h r, q => nomatch (show false = true from q)
  | _, _, .ins (ns := ns) (xs := xs) (ds := ds) h i l r, q => .ins (g.get h (by
      have e : xs.length = ds.length := Reps.len r
      show imm ((ns.zip xs).map (·.1)) = true
      rw [List.map_fst_zip (by omega)]
      exact i)) i l (Reps.gr g r q)
theorem Reps.gr {K : PySem.W.Frag} {H H' : Hp} {S : List Addr} (g : Gr S H H') : ∀ {ds : List D} {vs : List V}, Reps K H ds vs → D.pures ds = true → Reps K H' ds vs
  | _, _, .nil, _ => .nil
  | _, _, .cons h r, q => by
    have q2 := Bool.and_eq_true_iff.mp q
    exact .cons (Rep.gr g h q2.1) (Reps.gr g r q2.2)
theorem Reps.len {K : PySem.W.Frag} {H : Hp} : ∀ {ds : List D} {vs : List V}, Reps K H ds vs → vs.length = ds.length
  | _, _, .nil => rfl
  | _, _, .cons _ r => congrArg Nat.succ (Reps.len r)
end
mutual
theorem Rep.gr0 {K : PySem.W.Frag} {H H' : Hp} (g : Gr [] H H') : ∀ {d : D} {v : V}, Rep K H d v → Rep K H' d v
  | _, _, .non => .non
  | _, _, .bl b => .bl b
  | _, _, .int b => .int b
  | _, _, .str b => .str b
  | _, _, .adr b => .adr b
  | _, _, .tup h r => .tup (g.sqt h) (Reps.gr0 g r)
  | _, _, .lst h r => .lst (g.sql0 h) (Reps.gr0 g r)
  | _, _, .ins h i l r => .ins (g.get0 h) i l (Reps.gr0 g r)
theorem Reps.gr0 {K : PySem.W.Frag} {H H' : Hp} (g : Gr [] H H') : ∀ {ds : List D} {vs : List V}, Reps K H ds vs → Reps K H' ds vs
  | _, _, .nil => .nil
  | _, _, .cons h r => .cons (Rep.gr0 g h) (Reps.gr0 g r)
end
def noFd : FuncData := PySem.W.fnOf Str.empty Str.empty ⟨[], [], none, [], [], none, []⟩ [] ⟨.function, [], false, false, []⟩ .none .none .none .none none .none .none
def fdA (K : PySem.W.Frag) (a : Addr) : FuncData := match K.lookup a with
  | some ⟨_, _, .func fd, _⟩ => fd
  | _ => noFd
theorem fdA_of {K : PySem.W.Frag} {x qual : Str} {params : Arguments} {body : List Stmt} {scope : Scope} {dvs : List V} {kws : List (Str × V)} {f : Addr} (h : ∃ fd, FunD K x qual params body scope dvs kws f fd) : FunD K x qual params body scope dvs kws f (fdA K f) := by
  obtain ⟨fd, h⟩ := h
  have e : fdA K f = fd := by
    obtain ⟨oc, od, dV, kV, doc, pm, an, cdv, ct, osl, _, lk, _⟩ := h.ex
    unfold fdA
    rw [lk]
  rw [e]
  exact h
theorem okT {P : Program} {w : World} {K : PySem.W.Frag} {mg : Str → Option Value} {base : Heap} {x qual : Str} {params : Arguments} {body : List Stmt} {scope : Scope} {dvs : List V} {kws : List (Str × V)} {f : Addr} {fd : FuncData} {N ps : List Str} {k : Nat} {sp : Sp}
    (F : FunD K x qual params body scope dvs kws f fd) (S : FnScope N ps scope) (len : ∀ vs H Q E, sp vs H Q E → vs.length = ps.length)
    (hbody : ∀ (cdv : Value) (A : Around) (outer : List Env) (s : Shared) (H : Hp) (vs : List V) (Q : VK) (E : XK), Room k (A.deeper (envOfC qual scope s.heap.objs.size f cdv)) → sp vs H Q E →
      L2N.Takes (cxOf (L2N.CX P w) P w K mg base N qual scope f cdv A outer s H E) (fun cls d _ H' => E cls d H') →
      PassesOwn (model P w) (cxOf (L2N.CX P w) P w K mg base N qual scope f cdv A outer s H E).A (cxOf (L2N.CX P w) P w K mg base N qual scope f cdv A outer s H E).env (cxOf (L2N.CX P w) P w K mg base N qual scope f cdv A outer s H E).xe →
      ∃ t, PSs (cxOf (L2N.CX P w) P w K mg base N qual scope f cdv A outer s H E) body t ∧ t { nx := fun _ H' => Q .non H', rt := Q } (start N vs) H) : FnOk P w K mg base (L2N.CX P w) (k + 1) f fd ps sp :=
  F.ok S len fun cdv A outer s H vs Q E hr h => hbody cdv A outer s H vs Q E hr h (L2N.takes_of rfl rfl rfl rfl) (passes_of rfl)
abbrev TSu := Addr → Value → Option Addr → TS
abbrev TSv := Addr → Value → Option Addr → Obj → List (Addr × Obj) → TS
def oeZ : Obj := ⟨.none, none, .plain, #[]⟩
abbrev xeZ : Value → Shared → Prop := fun _ _ => True
def endsNo (i : Nat) (D : Ends) : Ends := { nx := fun σ H => D.nx (σ.set i none) H, rt := D.rt, bk := fun σ H => D.bk (σ.set i none) H, ct := fun σ H => D.ct (σ.set i none) H }
def wHds (K : PySem.W.Frag) (Wo : WX) (D : Ends) : List (Value × Option Nat × TSu) → WX
  | [] => Wo
  | (c, o, ts) :: r => fun cls d σ H => ∃ b, PySem.W.exmOne K cls c = some b ∧
      (b = true → ∀ a, H a = none → match o with
        | some i => ts a cls d (endsNo i D) (σ.set i (some (.ref a))) H
        | none => ts a cls d D σ H) ∧ (b = false → wHds K Wo D r cls d σ H)
inductive HdsE (X : Cx) : List ExceptHandler → List (Value × Option Nat × TSu) → Prop
  | nil : HdsE X [] []
  | only {x : Str} {c : Value} {ts : TSv} {b0 : Stmt} {su : List Stmt} {np p : Pos} {hds : List ExceptHandler} {l : List (Value × Option Nat × TSu)} (hc : Names X x c)
      (hsu : ∀ (a : Addr) (oe : Obj) (cls : Value) (d : Option Addr) (pn : List (Addr × Obj)), L2N.Zn cls d oe → (∃ vs, oe.data = .fields vs) → PSs (X.suite a ((a, oe) :: pn)) (b0 :: su) (ts a cls d oe pn)) (r : HdsE X hds l)
      (he : ∀ a oe cls d pn, ts a cls d oe pn = ts a cls d oeZ [] := by intros; rfl) :
      HdsE X (.ExceptHandler (some (.Name x np)) none (b0 :: su) p :: hds) ((c, none, fun a cls d => ts a cls d oeZ []) :: l)
  | as_ {x n : Str} {i : Nat} {c : Value} {ts : TSv} {b0 : Stmt} {su : List Stmt} {np p : Pos} {hds : List ExceptHandler} {l : List (Value × Option Nat × TSu)} (hN : X.N.Nodup) (hi : X.N[i]? = some n) (hln : X.env.kindOf n = some .local) (hc : Names X x c)
      (hsu : ∀ (a : Addr) (oe : Obj) (cls : Value) (d : Option Addr) (pn : List (Addr × Obj)), L2N.Zn cls d oe → (∃ vs, oe.data = .fields vs) → PSs (X.suite a ((a, oe) :: pn)) (b0 :: su) (ts a cls d oe pn)) (r : HdsE X hds l)
      (he : ∀ a oe cls d pn, ts a cls d oe pn = ts a cls d oeZ [] := by intros; rfl) :
      HdsE X (.ExceptHandler (some (.Name x np)) (some n) (b0 :: su) p :: hds) ((c, some i, fun a cls d => ts a cls d oeZ []) :: l)
section
variable {X : Cx} {body : List Stmt} {h0 : ExceptHandler} {hds : List ExceptHandler} {l : List (Value × Option Nat × TSu)} {pos : Pos} {tb : WX → List (Addr × Obj) → (Value → Shared → Prop) → TS} {Wo : WX}
theorem hds_run (hs : X.stack = X.env :: X.outer) (hf : X.env.frame = some X.env.locals) (tk : L2N.Takes X Wo) {pins : List (Addr × Obj)} {D : Ends} {a : Addr} {B : Heap} {sI s' : Shared} {σ : L2.St} {H : Hp} {cls : Value} {d : Option Addr} {h3 : Heap}
    (J : Inv X pins σ H sI) (nb : ∀ b o, sI.heap.get? b = some o → b ∉ frs X.stack → B.get? b = some o) (up : sI.heap.UpToSlots s'.heap) (na : H a = none) (os : s'.os = sI.os) (ag : AllBare s'.gens)
    (fl3 : HandSPX.FlyingZ B (X.env :: X.outer) a (L2N.Zn cls d) h3) (up3 : s'.heap.UpToSlots h3) : ∀ {hds : List ExceptHandler} {l : List (Value × Option Nat × TSu)}, HdsE X hds l → wHds X.K Wo D l cls d σ H →
    wpAny (model X.prog X.w) X.A (handleBy (.ref a) X.env hds) (SP X pins D) X.xe { s' with heap := h3 } := by
  have ok := J.ok
  have nfr : a ∉ frs (X.env :: X.outer) := fun hm => by
    obtain ⟨oe, vs, he, _, hd⟩ := fl3.there
    obtain ⟨_, o', e', hnf⟩ := fl3.2.2.1.mem hm
    rw [he] at e'
    cases e'
    exact hnf _ hd
  have nL : a ≠ X.env.locals := fun z => nfr (List.mem_filterMap.mpr ⟨X.env, List.mem_cons_self, by rw [hf, z]⟩)
  have nF : a ∉ X.fs := fun hm => by
    obtain ⟨e, he, q⟩ := List.mem_filterMap.mp hm
    exact nfr (List.mem_filterMap.mpr ⟨e, List.mem_cons_of_mem _ he, q⟩)
  have lands : ∀ {h4 : Heap}, HandSPX.FlyingZ B (X.env :: X.outer) a (L2N.Zn cls d) h4 → sI.heap.UpToSlots h4 → Inv X pins σ H { s' with heap := h4 } ∧ ∃ oe vs, h4.get? a = some oe ∧ L2N.Zn cls d oe ∧ oe.data = .fields vs ∧ Inv (X.suite a ((a, oe) :: (X.pn ++ pins))) [] σ H { s' with heap := h4 } := fun {h4} fl4 u4 => by
    have J4 : Inv X pins σ H { s' with heap := h4 } := J.landed nb fl4.1 u4 os ag
    obtain ⟨oe4, vs4, he4, hz4, hd4⟩ := fl4.there
    exact ⟨J4, oe4, vs4, he4, hz4, hd4, J4.suite he4 hd4 na nL nF⟩
  have ask : ∀ {x : Str} {c : Value} {np : Pos} {b : Bool} {R : Bool → Shared → Prop} {E1 E2 : Value → Shared → Prop}, Names X x c → PySem.W.exmOne X.K cls c = some b → R b { s' with heap := h3 } →
      wpAny (model X.prog X.w) (X.A.mark (some (.ref a))) (eval (.Name x np) X.env) (fun v s1 => wpAny (model X.prog X.w) (X.A.mark (some (.ref a))) (excMatches (.ref a) v) R E2 s1) E1 { s' with heap := h3 } := fun {x c np b R E1 E2} hc hb q => by
    obtain ⟨J3, oe3, vs3, he3, hz3, hd3, S3⟩ := lands fl3 (up.trans up3)
    have LT : PySem.W.Looks (model X.prog X.w) h3 (typeOf (.ref a)) cls := fun A Q E s k q => wpAny_typeOf_ref (k _ _ he3) (by rw [hz3.1]; exact q)
    have LM := PySem.W.exm_one (M := model X.prog X.w) J3.kIn LT hb
    have fin : wpAny (model X.prog X.w) (X.A.mark (some (.ref a))) (excMatches (.ref a) c) R E2 { s' with heap := h3 } := LM.here q
    obtain ⟨hg, hdbg, hm | ⟨hm, hv, hnn⟩⟩ := hc
    · exact ld_glob (X := X.suite a ((a, oe3) :: (X.pn ++ pins))) S3 hg hm fin hdbg
    · exact ld_blt (X := X.suite a ((a, oe3) :: (X.pn ++ pins))) S3 hg hm hv fin hnn hdbg
  intro hds l hk
  induction hk with
  | nil =>
    intro w
    refine wpAny_handleBy_nil ?_
    obtain ⟨k1, k2, k3, oe, vs, T, oT, ts', he, hz, hd, h1, hr⟩ := id fl3
    unfold PySem.passOn
    refine wpAny_bind (wpAny_field he hd h1 ?_)
    rw [if_neg (by simp)]
    have fin : wpAny (model X.prog X.w) X.A (setFlight (.ref a) X.env.frame) (fun _ s4 => wpAny (model X.prog X.w) X.A (throw (.ref a) : Sem Flow) (SP X pins D) X.xe s4) X.xe { s' with heap := h3 } := by
      rw [hf]
      exact HandSPX.setFlight_upZ fl3 fun h4 hh4 up4 => wpAny_throw (tk _ _ ⟨a, B, sI, pins, σ, H, cls, d, rfl, J, nb, (up.trans up3).trans up4, .inr (.inr (by rw [hs]; exact hh4)), na, os, ag, w⟩)
    first
      | exact wpAny_bind (wpAny_pure (wpAny_bind fin))
      | exact wpAny_bind fin
  | only hc hsu r he ih =>
    intro w
    obtain ⟨b, hb, hy, hn⟩ := w
    refine wpAny_handleBy_cons (codeAny_handlers_test (ask hc hb ?_)) (by intro q; cases q)
    cases b with
    | false => exact ih (hn rfl)
    | true =>
      refine codeAny_handlers_suite (HandSPX.lands_againZ fl3 fun h4 fl4 up4 => ?_)
      obtain ⟨J4, oe4, vs4, he4, hz4, hd4, S4⟩ := lands fl4 ((up.trans up3).trans up4)
      have hh := hsu a oe4 cls d (X.pn ++ pins) hz4 ⟨_, hd4⟩
      rw [he] at hh
      refine wpAny_mono (hh.run [] _ _ H _ S4 (hy rfl a na)) (fun f s6 hsp => ?_) fun _ _ z => False.elim z
      cases f with
      | ret u =>
        obtain ⟨v6, σ6, H6, S6, r6, q6⟩ := hsp
        exact ⟨_, _, _, S6.unsuite ok, r6, q6⟩
      | _ =>
        obtain ⟨σ6, H6, S6, q6⟩ := hsp
        exact ⟨_, _, S6.unsuite ok, q6⟩
  | as_ hN hi hln hc hsu r he ih =>
    rename_i x n i c ts b0 su np p hds l
    intro w
    obtain ⟨b, hb, hy, hn⟩ := w
    refine wpAny_handleBy_cons (codeAny_handlers_test (ask hc hb ?_)) (by intro q; cases q)
    cases b with
    | false => exact ih (hn rfl)
    | true =>
      refine codeAny_handlers_suite_as (HandSPX.lands_againZ fl3 fun h4 fl4 up4 => ?_)
      obtain ⟨J4, oe4, vs4, he4, hz4, hd4, S4⟩ := lands fl4 ((up.trans up3).trans up4)
      refine store_ok (X := X.suite a ((a, oe4) :: (X.pn ++ pins))) (v := .ref a) S4 hN hi (.inl hln) rfl (fun s5 S5 => ?_) (.inr hln)
      have hh := hsu a oe4 cls d (X.pn ++ pins) hz4 ⟨_, hd4⟩
      rw [he] at hh
      refine wpAny_mono (hh.run [] s5 _ H _ S5 (hy rfl a na)) (fun f s6 hsp => ?_) fun _ _ z => False.elim z
      have gone : ∀ {σ6 : L2.St} {H6 : Hp} {Q : Shared → Prop}, Inv (X.suite a ((a, oe4) :: (X.pn ++ pins))) [] σ6 H6 s6 → (∀ s7, Inv X pins (σ6.set i none) H6 s7 → Q s7) →
          wpAny (model X.prog X.w) X.A (do bindName X.env n .none; unbindBehindTheSuite X.env n p) (fun _ s7 => Q s7) X.xe s6 := fun {σ6 H6 Q} S6 hq => gone_ok (S6.unsuite ok) hN hi hln hq
      cases f with
      | ret u =>
        obtain ⟨v6, σ6, H6, S6, r6, q6⟩ := hsp
        exact gone S6 fun s7 J7 => ⟨_, _, _, J7, r6, q6⟩
      | _ =>
        obtain ⟨σ6, H6, S6, q6⟩ := hsp
        exact gone S6 fun s7 J7 => ⟨_, _, J7, q6⟩
theorem ps_tryE (hs : X.stack = X.env :: X.outer) (hf : X.env.frame = some X.env.locals) (tk : L2N.Takes X Wo)
    (hb : ∀ (W : WX) (pn : List (Addr × Obj)) (xe : Value → Shared → Prop), L2N.Takes (X.tr pn xe) W → PassesOwn (model X.prog X.w) X.A X.env xe → PSs (X.tr pn xe) body (tb W pn xe))
    (hh : HdsE X (h0 :: hds) l) (he : ∀ W pn xe, tb W pn xe = tb W [] xeZ := by intros; rfl) : PS X (.Try body (h0 :: hds) [] [] pos) (fun D σ H => tb (wHds X.K Wo D l) [] xeZ D σ H) := by
  refine ⟨fun pins s σ H D I h => ?_⟩
  have ok := I.ok
  have hfr : X.A.frames = some (X.env :: X.outer) := by rw [ok.frames, hs]
  rw [← he (wHds X.K Wo D l) (X.pn ++ pins) (fun e s₁ => wpAny (model X.prog X.w) X.A (noteFrame e X.env) (fun _ s₂ => wpAny (model X.prog X.w) X.A (setFlight e none) (fun _ s₃ =>
    wpAny (model X.prog X.w) X.A (handleBy e X.env (h0 :: hds)) (SP X pins D) X.xe s₃) X.xe s₂) X.xe s₁)] at h
  refine wpAny_Try_except (wpAny_mono ((hb (wHds X.K Wo D l) (X.pn ++ pins) (fun e s₁ => wpAny (model X.prog X.w) X.A (noteFrame e X.env) (fun _ s₂ => wpAny (model X.prog X.w) X.A (setFlight e none) (fun _ s₃ =>
    wpAny (model X.prog X.w) X.A (handleBy e X.env (h0 :: hds)) (SP X pins D) X.xe s₃) X.xe s₂) X.xe s₁) (fun u s' xx => ?_) PassesOwn.looking).run [] s σ H D (I.toTry _) h) (fun f s1 hsp => ?_) fun e s1 he => he)
  · obtain ⟨a, B, sI, pins', σ', H', cls, d, rfl, J', nb, up, sky, na, os, ag, w⟩ := xx
    have J : Inv X pins σ' H' sI := J'.ofTry ok
    refine L2N.Sky.land L2N.Zn.steady hfr hf (by rw [← hs]; exact sky) fun h3 fl3 up3 => ?_
    exact hds_run hs hf tk J nb up na os ag fl3 up3 hh w
  · cases f with
    | ret u =>
      obtain ⟨v, σ', H', J', r, q⟩ := hsp
      exact ⟨v, σ', H', J'.ofTry ok, r, q⟩
    | next =>
      obtain ⟨σ', H', J', q⟩ := hsp
      exact wpAny_execs_nil ⟨σ', H', J'.ofTry ok, q⟩
    | _ =>
      obtain ⟨σ', H', J', q⟩ := hsp
      exact ⟨σ', H', J'.ofTry ok, q⟩
end
def rLenA (K : PySem.W.Frag) : List V → Hp → VK → Prop := fun xs H Q => ∃ p ys, xs = [.ref p] ∧ (SqL K H p ys ∨ SqT K H p ys) ∧ Q (.int ys.length) H
theorem cr_len {X : Cx} : CallR X (.builtin "len") (rLenA X.K) := call_len_seq
def rListOf (K : PySem.W.Frag) : List V → Hp → VK → Prop := fun xs H Q => ∃ p ys, xs = [.ref p] ∧ (SqL K H p ys ∨ SqT K H p ys) ∧ ∀ l, H l = none → Q (.ref l) (upd H l (.lst ys))
theorem cr_list {X : Cx} : CallR X (.type "list") (rListOf X.K) := call_list_of
def TupX (H : Hp) (a : Addr) (xs : List V) : Prop := ∃ o : Obj, H a = some (.frz o (.tup xs)) ∧ o.dict = none
theorem TupX.sqt {K : PySem.W.Frag} {H : Hp} {a : Addr} {xs : List V} (h : TupX H a xs) : SqT K H a xs := by
  obtain ⟨o, h, _⟩ := h
  exact .inl (.inr ⟨o, h⟩)
theorem TupX.gr {H H' : Hp} {S : List Addr} {a : Addr} {xs : List V} (h : TupX H a xs) (g : Gr S H H') : TupX H' a xs := by
  obtain ⟨o, h, d⟩ := h
  exact ⟨o, g.get h rfl, d⟩
def rTupleOf (K : PySem.W.Frag) : List V → Hp → VK → Prop := fun xs H Q => ∃ p ys, xs = [.ref p] ∧ ((SqL K H p ys ∧ ∀ (l : Addr) (o : Obj), H l = none → o.dict = none → Q (.ref l) (upd H l (.frz o (.tup ys)))) ∨ (SqT K H p ys ∧ Q (.ref p) H))
theorem cr_tuple {X : Cx} : CallR X (.type "tuple") (rTupleOf X.K) := by
  intro pins s σ H xs us Q I r h
  obtain ⟨p, ys, rfl, h⟩ := h
  obtain ⟨u, rfl, ru⟩ := r.one
  cases (show u = Value.ref p from ru)
  rcases h with ⟨hs, q⟩ | ⟨hs, q⟩
  · obtain ⟨its, rv, pl, hz⟩ := I.list hs
    refine call_tuple_list pl.isList (fun h' hk => ?_) (by rw [List.size_toArray, ← rv.length]; exact hz)
    have I1 : Inv X pins σ H { s with heap := h' } := I.kept (t' := s.toks) hk
    refine ⟨.ref h'.objs.size, _, I1.laid (t' := s.toks) (o := .frz { cls := .type "tuple", data := .seq its.toArray } (.tup ys)) (fun b o e => Heap.get?_push_of_some _ e) (Nat.le_refl _) ⟨Heap.get?_push_size _ rfl, hz, its, rv, IsTup.new _ _⟩, rfl, q _ _ (I1.hok.fresh (Nat.le_refl _)) rfl⟩
  · obtain ⟨its, rv, pl, hz⟩ := I.tuple hs
    exact call_tuple_tup pl ⟨.ref p, H, I, rfl, q⟩
def rAbs : List V → Hp → VK → Prop := fun xs H Q => ∃ i, xs = [.int i] ∧ Q (.int (if i < 0 then -i else i)) H
theorem cr_abs {X : Cx} : CallR X (.builtin "abs") rAbs := call_abs
def rInt1 : List V → Hp → VK → Prop := fun xs H Q => (∃ i, xs = [.int i] ∧ Q (.int i) H) ∨ ∃ k, xs = [.bl k] ∧ Q (.int (if k then 1 else 0)) H
theorem cr_int {X : Cx} : CallR X (.type "int") rInt1 := call_int1
def rNewL : List V → Hp → VK → Prop := fun xs H Q => xs.length ≤ sizeLine ∧ ∀ p, H p = none → Q (.ref p) (upd H p (.lst xs))
def rNewT : List V → Hp → VK → Prop := fun xs H Q => xs.length ≤ sizeLine ∧ ∀ p, H p = none → Q (.ref p) (upd H p (.tup xs))
def tLstN (t : TA) : TE := fun σ H Q => t σ H fun xs H1 => rNewL xs H1 Q
def tTupN (t : TA) : TE := fun σ H Q => t σ H fun xs H1 => rNewT xs H1 Q
theorem pe_lstN {X : Cx} {es : List Expr} {t : TA} {pos : Pos} (h : PA X es t) : PE X (.List es pos) (tLstN t) := pe_lst h
section
variable {K : PySem.W.Frag} {σ : L2.St} {H : Hp} {Q : VK} {D : Ends} {ta tb tc te : TE} {tA tr : TA} {c t u' : TT} {ts us : TS} {i j : Int} {v x y : V} {QA : List V → Hp → Prop} {QB : Bool → Hp → Prop}
theorem w_seq (h : ts { D with nx := us D } σ H) : tSeq ts us D σ H := h
theorem w_asg {g : TG} (h : te σ H fun x H1 => g x σ H1 D.nx) : tAsg te g D σ H := h
theorem w_gname {n : Nat} {QS : L2.St → Hp → Prop} (h : QS (σ.set n (some v)) H) : gName n v σ H QS := h
theorem w_drop (h : te σ H fun _ H1 => D.nx σ H1) : tDrop te D σ H := h
theorem w_ret (h : te σ H D.rt) : tRet te D σ H := h
theorem w_retN (h : D.rt .non H) : tRetN D σ H := h
theorem w_next (h : D.nx σ H) : tNext D σ H := h
theorem w_ifS (h : c σ H fun b H1 => if b = true then ts D σ H1 else us D σ H1) : tIfS c ts us D σ H := h
theorem w_var {n : Nat} (h1 : σ[n]? = some (some v)) (h : Q v H) : tVar n σ H Q := ⟨v, h1, h⟩
theorem w_c (h : Q v H) : tC v σ H Q := h
theorem w_op {r : R2} (h : ta σ H fun x H1 => tb σ H1 fun y H2 => r x y H2 Q) : tOp r ta tb σ H Q := h
theorem w_un {r : V → Hp → VK → Prop} (h : ta σ H fun x H1 => r x H1 Q) : tUn r ta σ H Q := h
theorem w_rU {g : Int → V} (h : Q (g i) H) : rU g (.int i) H Q := ⟨i, rfl, h⟩
theorem w_cons (h : te σ H fun x H1 => tr σ H1 fun xs H2 => QA (x :: xs) H2) : tCons te tr σ H QA := h
theorem w_nil (h : QA [] H) : tNil σ H QA := h
theorem w_cb {r : List V → Hp → VK → Prop} (h : tA σ H fun vs H1 => r vs H1 Q) : tCB r tA σ H Q := h
theorem w_rI0 {g : Int → Int → V} (h : Q (g i j) H) : rI0 g (.int i) (.int j) H Q := ⟨i, j, rfl, rfl, h⟩
theorem w_rI {C : Int → Int → Prop} {g : Int → Int → V} (hc : C i j) (h : Q (g i j) H) : rI C g (.int i) (.int j) H Q := ⟨i, j, rfl, rfl, hc, h⟩
theorem w_eq (h0 : scal x y = true) (h : Q (.bl (decide (x = y))) H) : rEq x y H Q := ⟨h0, h⟩
theorem w_ne (h0 : scal x y = true) (h : Q (.bl (!decide (x = y))) H) : rNe x y H Q := ⟨h0, h⟩
theorem w_test (h : te σ H fun x H1 => ∃ k, x = .bl k ∧ QB k H1) : tTest te σ H QB := h
theorem w_tB (h : te σ H fun x H1 => ∃ k, x = .bl k ∧ QB k H1) : tB te σ H QB := h
theorem w_exb {k : Bool} (h : QB k H) : ∃ k', V.bl k = .bl k' ∧ QB k' H := ⟨k, rfl, h⟩
theorem w_and (h : c σ H fun b H1 => if b = true then t σ H1 QB else QB false H1) : tAnd c t σ H QB := h
theorem w_or (h : c σ H fun b H1 => if b = true then QB true H1 else t σ H1 QB) : tOr c t σ H QB := h
theorem w_not (h : c σ H fun b H1 => QB (!b) H1) : tNot c σ H QB := h
theorem w_andV (h : ta σ H fun x H1 => ∃ k, x = .bl k ∧ if k = true then tb σ H1 Q else Q (.bl false) H1) : tAndV ta tb σ H Q := h
theorem w_orV (h : ta σ H fun x H1 => ∃ k, x = .bl k ∧ if k = true then Q (.bl true) H1 else tb σ H1 Q) : tOrV ta tb σ H Q := h
theorem w_notV (h : ta σ H fun x H1 => ∃ k, x = .bl k ∧ Q (.bl (!k)) H1) : tNotV ta σ H Q := h
theorem w_exV {k : Bool} {R : Bool → Prop} (h : R k) : ∃ k', V.bl k = .bl k' ∧ R k' := ⟨k, rfl, h⟩
theorem w_chain {r r' : R2} (h : ta σ H fun x H1 => tb σ H1 fun y H2 => r x y H2 fun z H3 => ∃ k, z = .bl k ∧ if k = true then tc σ H3 (fun w' H4 => r' y w' H4 Q) else Q (.bl false) H3) : tChain r r' ta tb tc σ H Q := h
theorem w_ifE (h : c σ H fun b H1 => if b = true then ta σ H1 Q else tb σ H1 Q) : tIf c ta tb σ H Q := h
theorem w_tLst (h : tA σ H fun xs H1 => rNewL xs H1 Q) : tLstN tA σ H Q := h
theorem w_tTup (h : tA σ H fun xs H1 => rNewT xs H1 Q) : tTupN tA σ H Q := h
theorem w_lst {xs : List V} (h0 : xs.length ≤ sizeLine) (h : ∀ p H', H p = none → Gr [] H H' → H' p = some (.lst xs) → Q (.ref p) H') : rNewL xs H Q := ⟨h0, fun p hp => h p _ hp (Gr.new hp) upd_same⟩
theorem w_tup {xs : List V} (h0 : xs.length ≤ sizeLine) (h : ∀ p H', H p = none → Gr [] H H' → H' p = some (.tup xs) → Q (.ref p) H') : rNewT xs H Q := ⟨h0, fun p hp => h p _ hp (Gr.new hp) upd_same⟩
theorem w_ixL {p : Addr} {xs : List V} {k : Int} (h0 : SqL K H p xs) (h1 : atI xs k = some v) (h : Q v H) : rIxL K (.ref p) (.int k) H Q := ⟨p, xs, k, v, rfl, rfl, h0, h1, h⟩
theorem w_ixT {p : Addr} {xs : List V} {k : Int} (h0 : SqT K H p xs) (h1 : atI xs k = some v) (h : Q v H) : rIxT K (.ref p) (.int k) H Q := ⟨p, xs, k, v, rfl, rfl, h0, h1, h⟩
theorem w_setL {p : Addr} {xs : List V} {k : Int} {n : Nat} {w : V} {R : Hp → Prop} (h0 : H p = some (.lst xs)) (h1 : ixN xs.length k = some n) (h : ∀ H', Gr [p] H H' → H' p = some (.lst (xs.set n w)) → R H') : rSetL (.ref p) (.int k) w H R :=
  ⟨p, xs, k, n, rfl, rfl, h0, h1, h _ (Gr.wr h0) upd_same⟩
theorem w_gsub {to ti : TE} {t : TSet} {QS : L2.St → Hp → Prop} (h : to σ H fun o H1 => ti σ H1 fun i H2 => t o i v H2 fun H3 => QS σ H3) : gSub to ti t v σ H QS := h
theorem w_bm {T : String} {r : V → List V → Hp → VK → Prop} {to : TE} (h : to σ H fun x H1 => tyV K T x H1 ∧ tA σ H1 fun xs H2 => r x xs H2 Q) : tBM K T r to tA σ H Q := h
theorem w_bm0 {T : String} {r : V → List V → Hp → VK → Prop} {to : TE} (h : to σ H fun x H1 => tyV K T x H1 ∧ r x [] H1 Q) : tBM0 K T r to σ H Q := h
theorem w_ty {p : Addr} {xs : List V} {P : Prop} (h0 : SqL K H p xs) (h : P) : tyV K "list" (.ref p) H ∧ P := ⟨.inl ⟨rfl, _, h0⟩, h⟩
theorem w_app {p : Addr} {xs : List V} (h0 : H p = some (.lst xs)) (h1 : xs.length < sizeLine) (h : ∀ H', Gr [p] H H' → H' p = some (.lst (xs ++ [v])) → Q .non H') : rAppend (.ref p) [v] H Q :=
  ⟨p, xs, v, rfl, rfl, h0, h1, h _ (Gr.wr h0) upd_same⟩
theorem w_popAt {p : Addr} {xs : List V} {k : Int} {n : Nat} (h0 : H p = some (.lst xs)) (h1 : 0 ≤ k) (h2 : k < 2 ^ 63) (hn : k.toNat = n) (h3 : xs[n]? = some v) (h : ∀ H', Gr [p] H H' → H' p = some (.lst (xs.eraseIdx n)) → Q v H') : rPopAt (.ref p) [.int k] H Q := by
  have hl : n < xs.length := (List.getElem?_eq_some_iff.mp h3).1
  refine ⟨p, xs, k, n, v, rfl, rfl, h0, by omega, h2, ?_, h3, h _ (Gr.wr h0) upd_same⟩
  exact (ixN_seq (show ixN xs.length k = some n by unfold ixN; rw [if_pos h1, if_pos (by omega), hn])).1
theorem w_len {p : Addr} {xs : List V} (h0 : SqL K H p xs ∨ SqT K H p xs) (h : Q (.int xs.length) H) : rLenA K [.ref p] H Q := ⟨p, xs, rfl, h0, h⟩
theorem w_listOf {p : Addr} {xs : List V} (h0 : SqL K H p xs ∨ SqT K H p xs) (h : ∀ l H', H l = none → Gr [] H H' → H' l = some (.lst xs) → Q (.ref l) H') : rListOf K [.ref p] H Q :=
  ⟨p, xs, rfl, h0, fun l hl => h l _ hl (Gr.new hl) upd_same⟩
theorem w_tupOfL {p : Addr} {xs : List V} (h0 : SqL K H p xs) (h : ∀ l H', H l = none → Gr [] H H' → TupX H' l xs → Q (.ref l) H') : rTupleOf K [.ref p] H Q :=
  ⟨p, xs, rfl, .inl ⟨h0, fun l o hl ho => h l _ hl (Gr.new hl) ⟨o, upd_same, ho⟩⟩⟩
theorem w_tupOfT {p : Addr} {xs : List V} (h0 : SqT K H p xs) (h : Q (.ref p) H) : rTupleOf K [.ref p] H Q := ⟨p, xs, rfl, .inr ⟨h0, h⟩⟩
theorem w_abs (h : Q (.int (if i < 0 then -i else i)) H) : rAbs [.int i] H Q := ⟨i, rfl, h⟩
theorem w_int (h : Q (.int i) H) : rInt1 [.int i] H Q := .inl ⟨i, rfl, h⟩
theorem w_call {sp : Sp} {E : L2.St → XK} (h : tA σ H fun vs H1 => sp vs H1 Q (E σ)) : tCallS sp E tA σ H Q := h
theorem w_callD {sp : Sp} {dvs : List V} {E : L2.St → XK} (h : tA σ H fun vs H1 => sp (vs ++ dvs) H1 Q (E σ)) : tCallSD sp dvs E tA σ H Q := h
theorem w_call1 {sp : Sp} {dvs : List V} {E : XK} (h : tA σ H fun vs H1 => sp (vs ++ dvs) H1 Q E) : tCall sp dvs E tA σ H Q := h
theorem w_iteI {a b : Int} {A B : Prop} (h1 : a = b → A) (h2 : a ≠ b → B) : if decide (V.int a = V.int b) = true then A else B := by
  by_cases e : a = b
  · rw [if_pos (decide_eq_true (by rw [e]))]; exact h1 e
  · rw [if_neg (by simpa using e)]; exact h2 e
theorem w_iteIN {a b : Int} {A B : Prop} (h1 : a ≠ b → A) (h2 : a = b → B) : if (!decide (V.int a = V.int b)) = true then A else B := by
  by_cases e : a = b
  · rw [if_neg (by simpa using e)]; exact h2 e
  · rw [if_pos (by simpa using e)]; exact h1 e
theorem w_iteP {p : Prop} [Decidable p] {A B : Prop} (h1 : p → A) (h2 : ¬ p → B) : if decide p = true then A else B := by
  by_cases e : p
  · rw [if_pos (decide_eq_true e)]; exact h1 e
  · rw [if_neg (by simpa using e)]; exact h2 e
theorem w_iteNP {p : Prop} [Decidable p] {A B : Prop} (h1 : ¬ p → A) (h2 : p → B) : if (!decide p) = true then A else B := by
  by_cases e : p
  · rw [if_neg (by simpa using e)]; exact h2 e
  · rw [if_pos (by simpa using e)]; exact h1 e
theorem w_T {A B : Prop} (h : A) : if true = true then A else B := by rw [if_pos rfl]; exact h
theorem w_F {A B : Prop} (h : B) : if false = true then A else B := by rw [if_neg Bool.false_ne_true]; exact h
theorem w_nT {A B : Prop} (h : B) : if (!true) = true then A else B := by rw [if_neg (by decide)]; exact h
theorem w_nF {A B : Prop} (h : A) : if (!false) = true then A else B := by rw [if_pos (by decide)]; exact h
end
theorem sql_of {K : PySem.W.Frag} {H : Hp} {a : Addr} {xs : List V} (h : H a = some (.lst xs)) : SqL K H a xs := SqL.of h
theorem small {n : Nat} (h : n ≤ 100000) : n ≤ sizeLine := Nat.le_trans h (by decide)
theorem smallLt {n : Nat} (h : n < 100000) : n < sizeLine := Nat.lt_of_lt_of_le h (by decide)
theorem HOk.frzL {P : Program} {w : World} {H : Hp} {h : Heap} {a : Addr} {xs : List V} {o : Obj} (ok : HOk P w H h) (e : H a = some (.lst xs)) (ho : h.get? a = some o) : HOk P w (upd H a (.frz o (.lst xs))) h := fun b u q => by
  have ne : ∀ {b : Addr} {v : HO}, H b = some v → v ≠ .lst xs → b ≠ a := fun {b v} h1 h2 z => by
    subst z
    rw [e] at h1
    exact h2 (Option.some.inj h1).symm
  by_cases hb : b = a
  · subst hb
    rw [upd_same] at q
    cases q
    exact ⟨ho, ok b _ e⟩
  · rw [upd_ne hb] at q
    exact (ok b u q).stay (fun _ _ _ r => r) (fun c r => by rw [upd_ne (ne r (by intro z; cases z))]; exact r) fun c ys r => by rw [upd_ne (ne r (by intro z; cases z))]; exact r
theorem Un.frzL {fs ex : List Addr} {H H' : Hp} {h h' : Heap} {a : Addr} {xs : List V} {o : Obj} (u : Un fs ex H H' h h') (e : H' a = some (.lst xs)) : Un fs ex H (upd H' a (.frz o (.lst xs))) h h' := by
  have ne : ∀ {b : Addr} {v : HO}, H' b = some v → v ≠ .lst xs → b ≠ a := fun {b v} h1 h2 z => by
    subst z
    rw [e] at h1
    exact h2 (Option.some.inj h1).symm
  refine ⟨u.keep, u.slot, fun b ob q n hx => ?_, u.there, fun b ys q => ?_, fun b ob v q => ?_, fun b ps q => ?_⟩
  · have z := u.free b ob q n hx
    rw [upd_ne (ne_of_none e z).symm]
    exact z
  · have z := u.tups b ys q
    rw [upd_ne (ne z (by intro z; cases z))]
    exact z
  · have z := u.frzs b ob v q
    rw [upd_ne (ne z (by intro z; cases z))]
    exact z
  · obtain ⟨more, z⟩ := u.tbls b ps q
    exact ⟨more, by rw [upd_ne (ne z (by intro z; cases z))]; exact z⟩
theorem fnOk_frz {P : Program} {w : World} {K : PySem.W.Frag} {mg : Str → Option Value} {base : Heap} {CX : CXT} {k : Nat} {f : Addr} {fd : FuncData} {ps : List Str} {sp : Sp} (F : FnOk P w K mg base CX k f fd ps sp) :
    FnOk P w K mg base CX k f fd ps (fun vs H Q E => sp vs H (fun v H1 => ∃ a xs, H1 a = some (.lst xs) ∧ ∀ o, Q v (upd H1 a (.frz o (.lst xs)))) E) := by
  refine ⟨fun vs H Q E q => F.len vs H _ E q, fun A outer s H args us vs Q E hr he hb hv hs => codeAny_mono (F.run A outer s H args us vs _ E hr he hb hv hs) fun r s' hq => ?_⟩
  cases r with
  | error e => exact hq
  | ok fl =>
    cases fl with
    | ret u =>
      obtain ⟨v, H', os, bare, un, hok, rv, a, xs, ea, q⟩ := hq
      obtain ⟨_, its, n, _, ho⟩ := hok a _ ea
      exact ⟨v, _, os, bare, Un.frzL un ea, HOk.frzL hok ea ho, rv, q _⟩
    | next => exact False.elim hq
    | brk => exact False.elim hq
    | cont => exact False.elim hq
theorem Gr.frz {H : Hp} {a : Addr} {xs : List V} {o : Obj} (h : H a = some (.lst xs)) : Gr [a] H (upd H a (.frz o (.lst xs))) := Gr.wr h
section
variable {K : PySem.W.Frag} {H H' : Hp} {S : List Addr} {a l l2 l3 : Addr} {o : HO} {ob : Obj} {xs : List V}
theorem Gr.keepB (g : Gr (l :: S) H H') (h : H a = some o) (hn : pers o = true ∨ a ∉ l :: S) : H' a = some o := by
  rcases hn with hn | hn
  · exact g.get h hn
  · exact g.keep _ _ h hn
theorem nin0 : a ∉ ([] : List Addr) := by simp
theorem nin1 (h : a ≠ l) : a ∉ [l] := by simpa using h
theorem nin2 (h : a ≠ l) (h2 : a ≠ l2) : a ∉ [l, l2] := by simp [h, h2]
theorem nin3 (h : a ≠ l) (h2 : a ≠ l2) (h3 : a ≠ l3) : a ∉ [l, l2, l3] := by simp [h, h2, h3]
theorem sql_frz (h : H a = some (.frz ob (.lst xs))) : SqL K H a xs := .inl (.inr ⟨ob, h⟩)
theorem sqt_of (h : H a = some (.tup xs)) : SqT K H a xs := .inl (.inl h)
theorem Gr.sqlB (g : Gr (l :: S) H H') (h : SqL K H a xs) (hn : a ∉ l :: S) : SqL K H' a xs := g.sql h hn
end
def tCut (t u : TS) : TS := fun D σ H => ∃ R : L2.St → Hp → Prop, t { D with nx := R } σ H ∧ ∀ σ' H', R σ' H' → u D σ' H'
theorem pss_cut {X : Cx} {st : Stmt} {rest : List Stmt} {t u : TS} (h1 : PS X st t) (h2 : PSs X rest u) : PSs X (st :: rest) (tCut t u) := by
  refine ⟨fun pins s σ H D I h => ?_⟩
  obtain ⟨R, h, hk⟩ := h
  refine wpAny_execs_cons (thn (h1.run pins s σ H { D with nx := R } I h) fun f s1 q => ?_)
  cases f with
  | next =>
    obtain ⟨σ', H', I', q⟩ := q
    exact h2.run pins s1 σ' H' D I' (hk σ' H' q)
  | _ => exact q
theorem w_cut {ts us : TS} {D : Ends} {σ : L2.St} {H : Hp} (R : L2.St → Hp → Prop) (h : ts { D with nx := R } σ H) (k : ∀ σ' H', R σ' H' → us D σ' H') : tCut ts us D σ H := ⟨R, h, k⟩
section
variable {H H1 H2 : Hp} {S S' : List Addr} {l l2 : Addr} {xs : List V} {o : HO}
theorem Gr.step (g2 : Gr S' H1 H2) (g1 : Gr S H H1) (hs : ∀ a, a ∈ S' → a ∈ S ∨ H a = none) : Gr S H H2 := g1.trans g2 hs
theorem sub0 : ∀ a, a ∈ ([] : List Addr) → a ∈ S ∨ H a = none := fun _ h => by cases h
theorem sub1 (h : l ∈ S ∨ H l = none) : ∀ a, a ∈ [l] → a ∈ S ∨ H a = none := fun a m => by
  have e : a = l := by simpa using m
  subst e
  exact h
theorem sub2 (h : l ∈ S ∨ H l = none) (h2 : l2 ∈ S ∨ H l2 = none) : ∀ a, a ∈ [l, l2] → a ∈ S ∨ H a = none := fun a m => by
  rcases List.mem_cons.mp m with e | m
  · subst e; exact h
  · exact sub1 h2 a m
theorem Gr.same1 (h : H l = some o) (hp : pers o = false) : Gr [l] H H := (Gr.refl H).weak fun a m => by
  have e : a = l := by simpa using m
  subst e
  exact ⟨_, h, hp⟩
end
theorem atI_of {α : Type} {xs : List α} {i : Int} {v : α} (h0 : 0 ≤ i) (h : xs[i.toNat]? = some v) : atI xs i = some v := by
  have e := atI_nat h
  rw [Int.toNat_of_nonneg h0] at e
  exact e
theorem ints_at {ns : List Int} {i : Int} (h0 : 0 ≤ i) (h : i < ns.length) : ∃ x, atI (ns.map V.int) i = some (V.int x) ∧ ns[i.toNat]? = some x := by
  have hl : i.toNat < ns.length := by omega
  exact ⟨ns[i.toNat], atI_of h0 (by simp [hl]), by simp [hl]⟩
def D.dep : Nat → D → Bool
  | _, .int _ => true
  | _, .str s => (PyData.str s).canLay0
  | _, .non => true
  | _, .bl _ => false
  | _, .ins _ _ _ => false
  | _, .adr _ => false
  | 0, .tup _ => false
  | 0, .lst _ => false
  | n + 1, .tup ds => ds.all (D.dep n)
  | n + 1, .lst ds => ds.all (D.dep n)
theorem canLay_pys {n : Nat} (ih : ∀ d : D, d.dep n = true → d.py.canLay0 = true ∧ d.py.depth ≤ n) : ∀ ds : List D, ds.all (D.dep n) = true → PyData.canLayAll0 (D.pys ds) = true ∧ PyData.depthAll (D.pys ds) ≤ n
  | [], _ => ⟨rfl, Nat.zero_le _⟩
  | d :: ds, h => by
    rw [List.all_cons, Bool.and_eq_true] at h
    obtain ⟨a1, a2⟩ := ih d h.1
    obtain ⟨b1, b2⟩ := canLay_pys ih ds h.2
    simp only [D.pys, PyData.canLayAll0, PyData.depthAll, a1, b1, Bool.and_self, true_and]
    omega
theorem canLay_py : ∀ (n : Nat) (d : D), d.dep n = true → d.py.canLay0 = true ∧ d.py.depth ≤ n := by
  intro n
  induction n with
  | zero =>
    intro d h
    cases d with
    | tup ds => cases h
    | lst ds => cases h
    | ins C ns ds => cases h
    | adr a => cases h
    | bl b => cases h
    | str s => exact ⟨h, Nat.zero_le _⟩
    | _ => exact ⟨rfl, Nat.zero_le _⟩
  | succ n ih =>
    intro d h
    cases d with
    | tup ds =>
      obtain ⟨a, b⟩ := canLay_pys ih ds h
      exact ⟨a, Nat.succ_le_succ b⟩
    | lst ds =>
      obtain ⟨a, b⟩ := canLay_pys ih ds h
      exact ⟨a, Nat.succ_le_succ b⟩
    | ins C ns ds => cases h
    | adr a => cases h
    | bl b => cases h
    | str s => exact ⟨h, Nat.zero_le _⟩
    | _ => exact ⟨rfl, Nat.zero_le _⟩
theorem shaped_py {n : Nat} {d : D} (h : d.dep n = true) (hn : n ≤ 64) : SeqAt.shaped d.py = true := by
  obtain ⟨a, b⟩ := canLay_py n d h
  unfold SeqAt.shaped
  rw [a, Bool.true_and]
  exact decide_eq_true (by omega)
theorem eqv_pys {n : Nat} (ih : ∀ d e : D, d.dep n = true → e.dep n = true → (PyData.eqv d.py e.py = true ↔ d = e)) : ∀ ds es : List D, ds.all (D.dep n) = true → es.all (D.dep n) = true → (PyData.eqvAll (D.pys ds) (D.pys es) = true ↔ ds = es)
  | [], [], _, _ => by simp [D.pys, PyData.eqvAll]
  | [], e :: es, _, _ => by simp [D.pys, PyData.eqvAll]
  | d :: ds, [], _, _ => by simp [D.pys, PyData.eqvAll]
  | d :: ds, e :: es, h, h' => by
    rw [List.all_cons, Bool.and_eq_true] at h h'
    simp only [D.pys, PyData.eqvAll, Bool.and_eq_true, ih d e h.1 h'.1, eqv_pys ih ds es h.2 h'.2, List.cons.injEq]
theorem eqv_py : ∀ (n : Nat) (d e : D), d.dep n = true → e.dep n = true → (PyData.eqv d.py e.py = true ↔ d = e) := by
  intro n
  induction n with
  | zero =>
    intro d e h h'
    cases d <;> first | (cases h; done) | (cases e <;> first | (cases h'; done) | simp [D.py, PyData.eqv])
  | succ n ih =>
    intro d e h h'
    cases d <;> first | (cases h; done) | (cases e <;> first | (cases h'; done) | (simp only [D.py, PyData.eqv, D.tup.injEq, D.lst.injEq]; exact eqv_pys ih _ _ h h') | simp [D.py, PyData.eqv])
mutual
theorem dp_py {K : PySem.W.Frag} {H : Hp} : ∀ {d : D} {v : V}, Rep K H d v → ∀ n, d.dep n = true → Dp K H v d.py
  | _, _, .non, _, _ => .non
  | _, _, .bl b, _, _ => .bl b
  | _, _, .int i, _, _ => .int i
  | _, _, .str s, _, _ => .str s
  | _, _, .adr b, n, q => by cases n <;> cases q
  | _, _, .tup h r, n, q => by
    cases n with
    | zero => cases q
    | succ n => exact .tup h (dp_pys r n q)
  | _, _, .lst h r, n, q => by
    cases n with
    | zero => cases q
    | succ n => exact .lst h (dp_pys r n q)
  | _, _, .ins h i l r, n, q => by
    cases n <;> cases q
theorem dp_pys {K : PySem.W.Frag} {H : Hp} : ∀ {ds : List D} {vs : List V}, Reps K H ds vs → ∀ n, ds.all (D.dep n) = true → DpAll K H vs (D.pys ds)
  | _, _, .nil, _, _ => .nil
  | _, _, .cons h r, n, q => by
    rw [List.all_cons, Bool.and_eq_true] at q
    exact .cons (dp_py h n q.1) (dp_pys r n q.2)
end
section
variable {K : PySem.W.Frag} {H : Hp} {Q : VK} {d e : D} {v w : V}
theorem w_eqD (n : Nat) (hv : Rep K H d v) (hw : Rep K H e w) (hd : d.dep n = true) (he : e.dep n = true) (hn : n ≤ 64) (h1 : d = e → Q (.bl true) H) (h2 : d ≠ e → Q (.bl false) H) : rEqD K v w H Q := by
  refine ⟨d.py, e.py, dp_py hv n hd, dp_py hw n he, shaped_py hd hn, shaped_py he hn, ?_⟩
  by_cases c : d = e
  · rw [(eqv_py n d e hd he).mpr c]
    exact h1 c
  · have z : PyData.eqv d.py e.py = false := by
      cases q : PyData.eqv d.py e.py with
      | false => rfl
      | true => exact absurd ((eqv_py n d e hd he).mp q) c
    rw [z]
    exact h2 c
theorem w_neD (n : Nat) (hv : Rep K H d v) (hw : Rep K H e w) (hd : d.dep n = true) (he : e.dep n = true) (hn : n ≤ 64) (h1 : d = e → Q (.bl false) H) (h2 : d ≠ e → Q (.bl true) H) : rNeD K v w H Q := by
  refine ⟨d.py, e.py, dp_py hv n hd, dp_py hw n he, shaped_py hd hn, shaped_py he hn, ?_⟩
  by_cases c : d = e
  · rw [(eqv_py n d e hd he).mpr c]
    exact h1 c
  · have z : PyData.eqv d.py e.py = false := by
      cases q : PyData.eqv d.py e.py with
      | false => rfl
      | true => exact absurd ((eqv_py n d e hd he).mp q) c
    rw [z]
    exact h2 c
end
theorem Rep.grB {K : PySem.W.Frag} {H H' : Hp} {l : Addr} {S : List Addr} {d : D} {v : V} (g : Gr (l :: S) H H') (h : Rep K H d v) (q : d.pure = true) : Rep K H' d v := Rep.gr g h q
def dInts (ns : List Int) : List D := ns.map D.int
theorem reps_ints {K : PySem.W.Frag} {H : Hp} : ∀ ns : List Int, Reps K H (dInts ns) (ns.map V.int)
  | [] => .nil
  | n :: ns => .cons (.int n) (reps_ints ns)
theorem dep_ints (ns : List Int) (n : Nat) : (dInts ns).all (D.dep n) = true := by
  rw [List.all_eq_true]
  intro d hd
  obtain ⟨i, _, rfl⟩ := List.mem_map.mp hd
  cases n <;> rfl
theorem dInts_inj {ns ms : List Int} (h : dInts ns = dInts ms) : ns = ms := by
  unfold dInts at h
  exact List.map_inj_right (fun _ _ e => by injection e) |>.mp h
theorem pure_ints (ns : List Int) : D.pures (dInts ns) = true := by
  induction ns with
  | nil => rfl
  | cons n ns ih => exact ih
theorem rep_lstI {K : PySem.W.Frag} {H : Hp} {a : Addr} {ns : List Int} (h : SqL K H a (ns.map V.int)) : Rep K H (.lst (dInts ns)) (.ref a) := .lst h (reps_ints ns)
theorem rep_tupI {K : PySem.W.Frag} {H : Hp} {a : Addr} {ns : List Int} (h : SqT K H a (ns.map V.int)) : Rep K H (.tup (dInts ns)) (.ref a) := .tup h (reps_ints ns)
theorem w_callN {n m : Nat} {sp : Sp} {gV : List V → List V → List V} {E : XK} {t tk : TA} {σ : L2.St} {H : Hp} {Q : VK} (h : t σ H fun vs H1 => tk σ H1 fun zs H2 => vs.length = n ∧ zs.length = m ∧ sp (gV vs zs) H2 Q E) : tCallN n m sp gV E t tk σ H Q := h
def tCallNS (n m : Nat) (sp : Sp) (gV : List V → List V → List V) (E : L2.St → XK) (t tk : TA) : TE := fun σ H Q => t σ H fun vs H1 => tk σ H1 fun zs H2 => vs.length = n ∧ zs.length = m ∧ sp (gV vs zs) H2 Q (E σ)
section
variable {X : Cx} {CX : CXT} {k n : Nat} {f : Addr} {fd : FuncData} {ps ks : List Str} {sp : Sp} {E : L2.St → XK} {x : Str} {p pos : Pos} {e : Expr} {es : List Expr} {kws : List Keyword} {t tk : TA} {g : List Value → List Value → List Value} {gV : List V → List V → List V}
end
theorem w_callNS {n m : Nat} {sp : Sp} {gV : List V → List V → List V} {E : L2.St → XK} {t tk : TA} {σ : L2.St} {H : Hp} {Q : VK} (h : t σ H fun vs H1 => tk σ H1 fun zs H2 => vs.length = n ∧ zs.length = m ∧ sp (gV vs zs) H2 Q (E σ)) : tCallNS n m sp gV E t tk σ H Q := h
def D.tyn : D → String
  | .non => "NoneType"
  | .bl _ => "bool"
  | .int _ => "int"
  | .str _ => "str"
  | .tup _ => "tuple"
  | .lst _ => "list"
  | .ins _ _ _ => ""
  | .adr _ => ""
def D.isIns : D → Bool
  | .ins _ _ _ => true
  | .adr _ => true
  | _ => false
theorem tyx_of {K : PySem.W.Frag} {H : Hp} {d : D} {v : V} (h : Rep K H d v) (n : d.isIns = false) : TyX K H v (.type d.tyn) := by
  cases h with
  | non => exact .base .non
  | bl b => exact .base (.bl b)
  | int i => exact .base (.int i)
  | str s => exact .base (.str s)
  | tup h r =>
    rcases h with (h | ⟨o, h⟩) | ⟨o, its, k, h1, h2, _⟩
    · exact .base (.tup h)
    · exact .fTuple h
    · exact .kTuple h1 h2
  | lst h r =>
    rcases h with (h | ⟨o, h⟩) | ⟨o, its, k, h1, h2, _⟩
    · exact .base (.lst h)
    · exact .base (.frz h)
    · exact .kList h1 h2
  | ins h i l r => cases n
  | adr a => cases n
section
variable {K : PySem.W.Frag} {H : Hp} {Q : VK} {d : D} {v : V} {b : Bool} {T : String}
theorem w_isi (h : Rep K H d v) (n : d.isIns = false) (hk : kitB d.tyn T = some b) (q : Q (.bl b) H) : rIsi K [v, .ty T] H Q := ⟨v, .ty T, _, _, b, rfl, .ty T, tyx_of h n, kit_ty hk, q⟩
end
def XcOk (K : PySem.W.Frag) (C : Addr) : Prop := PySem.W.excIn K C He.veBase "ValueError.__new__" = true ∧ PySem.W.keepIn K (.ref C) = true ∧ PySem.W.subIn K (.ref C) (.type "BaseException") = some true ∧ PySem.W.typeIn K (.ref C) = some (.type "type")
def rIsEx (K : PySem.W.Frag) (a : Addr) (cls : Value) (d : Option Addr) : List V → Hp → VK → Prop := fun xs H Q => ∃ (D C : Addr) (b : Bool), cls = .ref D ∧ d = none ∧ ExcC K D ∧ xs = [.ref a, .ref C] ∧ PySem.W.kitOne K (.ref D) (.ref C) = some b ∧ Q (.bl b) H
theorem excCB_ok {K : PySem.W.Frag} {D : Addr} (h : excCB K D = true) : ExcC K D := by
  unfold excCB at h
  simp only [Bool.and_eq_true, decide_eq_true_eq] at h
  obtain ⟨h1, h2, h3, h4, h5, h6, h7, h8⟩ := h
  exact ⟨h1, h2, h3, h4, h5, h6, h7, h8⟩
theorem w_isE {K : PySem.W.Frag} {a D C : Addr} {b : Bool} {H : Hp} {Q : VK} (hC : ExcC K D) (hk : PySem.W.kitOne K (.ref D) (.ref C) = some b) (q : Q (.bl b) H) : rIsEx K a (.ref D) none [.ref a, .ref C] H Q := ⟨D, C, b, rfl, rfl, hC, rfl, hk, q⟩
theorem w_ends {i : Nat} {D : Ends} {σ : L2.St} {H : Hp} (h : D.nx (σ.set i none) H) : (endsNo i D).nx σ H := h
def D.lev : Nat → D → Bool
  | _, .int _ => true
  | _, .str _ => true
  | _, .non => true
  | _, .bl _ => true
  | _, .ins _ _ _ => false
  | _, .adr _ => false
  | 0, .tup _ => false
  | 0, .lst _ => false
  | n + 1, .tup ds => decide (ds.length ≤ 1000000) && ds.all (D.lev n)
  | n + 1, .lst ds => decide (ds.length ≤ 1000000) && ds.all (D.lev n)
theorem lev_ints (ns : List Int) (n : Nat) : (dInts ns).all (D.lev n) = true := by
  rw [List.all_eq_true]
  intro d hd
  obtain ⟨i, _, rfl⟩ := List.mem_map.mp hd
  cases n <;> rfl
theorem lev_tupI {ns : List Int} {n : Nat} (h : ns.length ≤ 1000000) : (D.tup (dInts ns)).lev (n + 1) = true := Bool.and_eq_true_iff.mpr ⟨decide_eq_true (by unfold dInts; rw [List.length_map]; exact h), lev_ints ns n⟩
theorem lev_lstI {ns : List Int} {n : Nat} (h : ns.length ≤ 1000000) : (D.lst (dInts ns)).lev (n + 1) = true := Bool.and_eq_true_iff.mpr ⟨decide_eq_true (by unfold dInts; rw [List.length_map]; exact h), lev_ints ns n⟩
theorem reps_get {K : PySem.W.Frag} {H : Hp} : ∀ {ds : List D} {vs : List V} {i : Nat} {d : D}, Reps K H ds vs → ds[i]? = some d → ∃ v, vs[i]? = some v ∧ Rep K H d v
  | _, _, _, _, .nil, e => by simp at e
  | _, _, 0, _, .cons h _, e => by
    simp at e
    subst e
    exact ⟨_, rfl, h⟩
  | _, _, i + 1, _, .cons _ r, e => by
    obtain ⟨v, h1, h2⟩ := reps_get (i := i) r (by simpa using e)
    exact ⟨v, by simpa using h1, h2⟩
@[reducible] def D.isTup : D → Bool
  | .tup _ => true
  | _ => false
theorem w_isi_tuple {K : PySem.W.Frag} {H : Hp} {Q : VK} {d : D} {v : V} (h : Rep K H d v) (n : d.isIns = false) (q : Q (.bl d.isTup) H) : rIsi K [v, .ty "tuple"] H Q :=
  w_isi h n (by cases d <;> first | (cases n; done) | (dsimp only [D.tyn, D.isTup]; decide +kernel)) q
@[reducible] def D.isLst : D → Bool
  | .lst _ => true
  | _ => false
theorem w_isi_list {K : PySem.W.Frag} {H : Hp} {Q : VK} {d : D} {v : V} (h : Rep K H d v) (n : d.isIns = false) (q : Q (.bl d.isLst) H) : rIsi K [v, .ty "list"] H Q :=
  w_isi h n (by cases d <;> first | (cases n; done) | (dsimp only [D.tyn, D.isLst]; decide +kernel)) q
@[reducible] def D.isBl : D → Bool
  | .bl _ => true
  | _ => false
theorem w_isi_bool {K : PySem.W.Frag} {H : Hp} {Q : VK} {d : D} {v : V} (h : Rep K H d v) (n : d.isIns = false) (q : Q (.bl d.isBl) H) : rIsi K [v, .ty "bool"] H Q :=
  w_isi h n (by cases d <;> first | (cases n; done) | (dsimp only [D.tyn, D.isBl]; decide +kernel)) q
@[reducible] def D.isInt : D → Bool
  | .int _ => true
  | .bl _ => true
  | _ => false
theorem w_isi_int {K : PySem.W.Frag} {H : Hp} {Q : VK} {d : D} {v : V} (h : Rep K H d v) (n : d.isIns = false) (q : Q (.bl d.isInt) H) : rIsi K [v, .ty "int"] H Q :=
  w_isi h n (by cases d <;> first | (cases n; done) | (dsimp only [D.tyn, D.isInt]; decide +kernel)) q
@[reducible] def D.isStr : D → Bool
  | .str _ => true
  | _ => false
theorem w_isi_str {K : PySem.W.Frag} {H : Hp} {Q : VK} {d : D} {v : V} (h : Rep K H d v) (n : d.isIns = false) (q : Q (.bl d.isStr) H) : rIsi K [v, .ty "str"] H Q :=
  w_isi h n (by cases d <;> first | (cases n; done) | (dsimp only [D.tyn, D.isStr]; decide +kernel)) q
theorem tyx_tup {K : PySem.W.Frag} {H : Hp} {a : Addr} {xs : List V} (h : SqT K H a xs) : TyX K H (.ref a) (.type "tuple") := by
  rcases h with (h | ⟨o, h⟩) | ⟨o, its, k, h1, h2, _⟩
  · exact .base (.tup h)
  · exact .fTuple h
  · exact .kTuple h1 h2
theorem tyx_lst {K : PySem.W.Frag} {H : Hp} {a : Addr} {xs : List V} (h : SqL K H a xs) : TyX K H (.ref a) (.type "list") := by
  rcases h with (h | ⟨o, h⟩) | ⟨o, its, k, h1, h2, _⟩
  · exact .base (.lst h)
  · exact .base (.frz h)
  · exact .kList h1 h2
theorem w_isiTT {K : PySem.W.Frag} {H : Hp} {Q : VK} {a : Addr} {xs : List V} (h : SqT K H a xs) (q : Q (.bl true) H) : rIsi K [.ref a, .ty "tuple"] H Q := ⟨.ref a, .ty "tuple", _, _, true, rfl, .ty _, tyx_tup h, kit_ty (by decide +kernel), q⟩
theorem w_isiLL {K : PySem.W.Frag} {H : Hp} {Q : VK} {a : Addr} {xs : List V} (h : SqL K H a xs) (q : Q (.bl true) H) : rIsi K [.ref a, .ty "list"] H Q := ⟨.ref a, .ty "list", _, _, true, rfl, .ty _, tyx_lst h, kit_ty (by decide +kernel), q⟩
def rRng1 : List V → Hp → (It → Hp → Prop) → Prop := fun vs H R => ∃ j : Int, vs = [.int j] ∧ -(2 ^ 62) ≤ j ∧ j < 2 ^ 62 ∧ R (Itr 0 j.toNat) H
def rRng2 : List V → Hp → (It → Hp → Prop) → Prop := fun vs H R => ∃ i j : Int, vs = [.int i, .int j] ∧ (-(2 ^ 62) ≤ i ∧ i < 2 ^ 62 ∧ -(2 ^ 62) ≤ j ∧ j < 2 ^ 62) ∧ R (Itr i (j - i).toNat) H
def rRng3 : List V → Hp → (It → Hp → Prop) → Prop := fun vs H R => ∃ (i j c : Int) (n : Nat), vs = [.int i, .int j, .int c] ∧ RgC i j c n ∧ R (Itc i c n) H
def rItL (K : PySem.W.Frag) : V → Hp → (It → Hp → Prop) → Prop := fun x H R => ∃ a, x = .ref a ∧ (∃ xs, SqL K H a xs) ∧ R (Itl K a) H
def rItT (K : PySem.W.Frag) : V → Hp → (It → Hp → Prop) → Prop := fun x H R => ∃ a, x = .ref a ∧ (∃ xs, SqT K H a xs) ∧ R (Itt K a) H
section
variable {K : PySem.W.Frag} {σ : L2.St} {H : Hp} {D : Ends} {ta : TA} {te : TE} {R : It → Hp → Prop} {g : TG} {tb : TS} {i j : Int} {n : Nat} {a : Addr} {xs : List V}
theorem w_iRng1 (h : ta σ H fun vs H1 => rRng1 vs H1 R) : iRng1 ta σ H R := h
theorem w_iRng2 (h : ta σ H fun vs H1 => rRng2 vs H1 R) : iRng2 ta σ H R := h
theorem w_iRng3 (h : ta σ H fun vs H1 => rRng3 vs H1 R) : iRng3 ta σ H R := h
theorem w_iList (h : te σ H fun x H1 => rItL K x H1 R) : iList K te σ H R := h
theorem w_iTup (h : te σ H fun x H1 => rItT K x H1 R) : iTup K te σ H R := h
theorem w_rRng1N (h0 : n ≤ 1000000000) (h : R (Itr 0 n) H) : rRng1 [.int n] H R := ⟨n, rfl, by omega, by omega, h⟩
theorem w_rItL (h0 : SqL K H a xs) (h : R (Itl K a) H) : rItL K (.ref a) H R := ⟨a, rfl, ⟨xs, h0⟩, h⟩
theorem w_rItT (h0 : SqT K H a xs) (h : R (Itt K a) H) : rItT K (.ref a) H R := ⟨a, rfl, ⟨xs, h0⟩, h⟩
def forK (g : TG) (tb : TS) (D : Ends) (σ : L2.St) : It → Hp → Prop := fun J H1 => ∃ W : Nat → Nat → L2.St → Hp → Prop, (∃ m, W 0 m σ H1) ∧ ∀ i m σ H, W i m σ H →
  (J.stop i H ∧ D.nx σ H) ∨ (J.go i H ∧ ∃ N : L2.St → Hp → Prop, (∀ σ' H', N σ' H' → ∃ m', m' < m ∧ W (i + 1) m' σ' H') ∧ ∀ x H', J.yld i H x H' → g x σ H' fun σ2 H2 => tb { D with nx := N, ct := N, bk := D.nx } σ2 H2)
theorem w_for {wi : TI} (h : wi σ H (forK g tb D σ)) : tFor wi g tb D σ H := h
theorem f_rng {lo : Int} (Pv : Nat → L2.St → Hp → Prop) (h0 : Pv 0 σ H)
    (hs : ∀ i σ H, i < n → Pv i σ H → g (.int (lo + i)) σ H fun σ2 H2 => tb { D with nx := Pv (i + 1), ct := Pv (i + 1), bk := D.nx } σ2 H2) (hd : ∀ σ H, Pv n σ H → D.nx σ H) : forK g tb D σ (Itr lo n) H := for_range Pv h0 hs hd
theorem w_bT {b : Bool} {Q : VK} (e : b = true) (h : Q (.bl true) H) : Q (.bl b) H := by rw [e]; exact h
theorem w_bF {b : Bool} {Q : VK} (e : b = false) (h : Q (.bl false) H) : Q (.bl b) H := by rw [e]; exact h
theorem w_ixSL {p : Addr} {k : Int} {v : V} {Q : VK} (h0 : SqL K H p xs) (h1 : atI xs k = some v) (h : Q v H) : rIx K (.ref p) (.int k) H Q := .inl ⟨p, xs, k, v, rfl, rfl, h0, h1, h⟩
theorem w_ixST {p : Addr} {k : Int} {v : V} {Q : VK} (h0 : SqT K H p xs) (h1 : atI xs k = some v) (h : Q v H) : rIx K (.ref p) (.int k) H Q := .inr (.inl ⟨p, xs, k, v, rfl, rfl, h0, h1, h⟩)
end
theorem DefW.funD {K : PySem.W.Frag} {d : DefW} (hs : d.sup = none) (e : fnWA K d.sup (d.at_ K) = d.val) (c : d.ok K = true) : ∃ fd, FunD K d.name d.qual d.params d.body d.scope (d.dvs K) [] (d.at_ K) fd := by
  obtain ⟨kp, c2⟩ := Bool.and_eq_true_iff.mp c
  unfold fnWA at e
  rcases q : K.lookup (d.at_ K) with _ | ⟨oc, od, dt, osl⟩
  · rw [q] at c2
    cases c2
  · rw [q] at c2 e
    cases dt with
    | func fd =>
      obtain ⟨n1, n2, n3, n4, n5, n6, n7, n8, n9, n10, n11, n12, n13, n14, n15⟩ := fd
      unfold DefW.val at e
      rw [hs] at e c2
      have e2 : (some (n1, n2, n3, n4, n5, n6, n7, n15) : He.FnW) = some (d.name, d.qual, d.params, .stmts d.body, d.scope, mainGlobals, [], builtinsNs) := e
      simp only [Option.some.injEq, Prod.mk.injEq] at e2
      obtain ⟨h1, h2, h3, h4, h5, h6, h7, h8⟩ := e2
      subst h1 h2 h3 h4 h5 h6 h7 h8
      obtain ⟨k1, k3⟩ := Bool.and_eq_true_iff.mp (Bool.and_eq_true_iff.mp (show (PySem.W.codeIn K n13 d.qual && He.dflB K n8 (d.dvs K) && true) = true from c2)).1
      exact ⟨_, ⟨oc, od, n8, n9, n10, n11, n12, n13, n14, osl, rfl, q, k1, He.dflB_ok k3, He.kwdB_ok rfl⟩, kp⟩
    | _ => cases c2
section
variable {fa : List He.Fa} {fn : List DefW} {ex : PySem.W.Frag → List Bool} {K : PySem.W.Frag}
theorem SaysW.fact (c : SaysW fa fn ex K) (i : Nat) {f : He.Fa} (h : fa[i]? = some f) : f.ok K = true := List.all_eq_true.mp c.all.1 f (List.mem_of_getElem? h)
theorem SaysW.exs (c : SaysW fa fn ex K) (i : Nat) {b : Bool} (h : (ex K)[i]? = some b) : b = true := List.all_eq_true.mp c.all.2.2 b (List.mem_of_getElem? h)
theorem SaysW.defS (c : SaysW fa fn ex K) (i : Nat) {d : DefW} (h : fn[i]? = some d) : fnWA K d.sup (d.at_ K) = d.val ∧ d.ok K = true := by
  have e : fn.map (fun d => fnWA K d.sup (d.at_ K)) = fn.map DefW.val := congrArg (fun z : AlW => z.2) c
  have e2 : (fn.map fun d => fnWA K d.sup (d.at_ K))[i]? = (fn.map DefW.val)[i]? := by rw [e]
  rw [List.getElem?_map, List.getElem?_map, h] at e2
  exact ⟨Option.some.inj e2, List.all_eq_true.mp c.all.2.1 d (List.mem_of_getElem? h)⟩
theorem SaysW.def_ (c : SaysW fa fn ex K) (i : Nat) {d : DefW} (h : fn[i]? = some d) (hs : d.sup = none := by rfl) : ∃ fd, FunD K d.name d.qual d.params d.body d.scope (d.dvs K) [] (d.at_ K) fd := by
  obtain ⟨h1, h2⟩ := c.defS i h
  exact DefW.funD hs h1 h2
end
def rFld (K : PySem.W.Frag) (f : Str) : V → Hp → VK → Prop := fun x H Q => ∃ a C dx fs v, x = .ref a ∧ H a = some (.ins C dx fs) ∧ Cls K C ∧ NoAttr K C f ∧ fs.lookup f = some v ∧ Q v H
theorem w_fld {K : PySem.W.Frag} {ta : TE} {f : Str} {σ : L2.St} {H : Hp} {Q : VK} (h : ta σ H fun x H1 => rFld K f x H1 Q) : tFld K ta f σ H Q := h
theorem w_rFld {K : PySem.W.Frag} {f : Str} {a C dx : Addr} {fs : List (Str × V)} {v : V} {H : Hp} {Q : VK} (h : H a = some (.ins C dx fs)) (c : Cls K C) (n : NoAttr K C f) (l : fs.lookup f = some v) (q : Q v H) : rFld K f (.ref a) H Q := ⟨a, C, dx, fs, v, rfl, h, c, n, l, q⟩
def rPut (K : PySem.W.Frag) (f : Str) (y : V) : V → Hp → (Hp → Prop) → Prop := fun x H R => ∃ a C dx fs, x = .ref a ∧ H a = some (.ins C dx fs) ∧ Cls K C ∧ NoAttr K C f ∧ fs.length < 1000 ∧ R (upd H a (.ins C dx (putF f y fs)))
theorem w_put {K : PySem.W.Frag} {ta tv : TE} {f : Str} {σ : L2.St} {H : Hp} {D : Ends} (h : tv σ H fun y H1 => ta σ H1 fun x H2 => rPut K f y x H2 fun H3 => D.nx σ H3) : sFld K ta tv f D σ H := h
theorem Gr.put {H : Hp} {a C dx : Addr} {fs : List (Str × V)} {o : HO} (h : H a = some (.ins C dx fs)) (hi : imm (fs.map (·.1)) = false) : Gr [a] H (upd H a o) := ⟨fun b u e m => by
    rw [upd_ne (by simpa using m)]
    exact e, fun b m => by
    have e : b = a := by simpa using m
    subst e
    exact ⟨_, h, hi⟩⟩
theorem w_rPut {K : PySem.W.Frag} {f : Str} {y : V} {a C dx : Addr} {fs : List (Str × V)} {H : Hp} {R : Hp → Prop} (h : H a = some (.ins C dx fs)) (c : Cls K C) (n : NoAttr K C f) (l : fs.length < 1000) (hi : imm (fs.map (·.1)) = false)
    (q : ∀ H', Gr [a] H H' → H' a = some (.ins C dx (putF f y fs)) → R H') : rPut K f y (.ref a) H R := ⟨a, C, dx, fs, rfl, h, c, n, l, q _ (Gr.put h hi) upd_same⟩
theorem walkW {l : PySem.W.OpenLaw} {n k : Nat} {q : Program} {loose : List Str} {XP : (Str → Option Value) → Heap → Prop} {YP : World → Heap → Prop} {d : DefRec} {x : Str}
    (hn : l.most = some n) (hn2 : n ≤ sizeLine) (hdf : d.params.defaults = []) (hr : Room k callerA)
    (F : ∀ (w : World) (mg : Str → Option Value) (fa : Addr) (h : Heap), YP w h → h.Ns mainGlobals mg → mg d.name = some (.ref fa) →
      ∃ (K : PySem.W.Frag) (fd : FuncData) (sp : Sp), K.In h ∧ (∀ (s : Shared) (u : Value), BindsTo s fd ⟨[u], []⟩ [(x, u)]) ∧
        (∀ (H : Hp) (a : Addr) (ns : List Int), ns.length ≤ n → Only H → SqL K H a (ns.map V.int) → sp [.ref a] H (fun v _ => v = .bl true) fun _ _ _ => False) ∧
        ∀ base : Heap, K.In base → base.Ns mainGlobals mg → FnOk l.prog w K mg base (L2N.CX l.prog w) k fa fd [x] sp) :
    PySem.W.WalkO q loose XP YP l.row.toRowW d [] (fun f vs => PySem.call f vs) := by
  refine Att.attach_call hn hdf fun w s₀ s₁ mg mb fa o pm cd doc a vs ns G Y ho hd hcd hmg hobj hints hlen hg => ?_
  obtain ⟨K, fd, sp, KX, hb, hsp, hF⟩ := F w mg fa _ Y G.T.g hmg
  refine law_call KX G.T.g G.T.b G.T.builtins G.T.nolimit hg hobj hints (Nat.le_trans hlen hn2) hr hF hb (fun H hO hS => hsp H a ns hlen hO hS) fun H e s' h => ?_
  obtain ⟨_, _, _, _, _, _, _, _, _, _, _, _, z⟩ := h
  exact z
end LW
namespace LW
open PySem PySem.Spec PyProof.Rows L2
abbrev E0S : L2.St → XK := fun _ _ _ _ => False
theorem passAt0 {X : Cx} (σ : L2.St) : PassesAt (L2N.CX X.prog X.w) X σ (E0S σ) := fun _ _ _ _ _ _ c => by
  obtain ⟨_, _, _, _, _, _, _, _, _, _, _, z⟩ := c
  exact z.2.elim
theorem rawF {P : Program} {w : World} {K : PySem.W.Frag} {mg : Str → Option Value} {base : Heap} {CX : CXT} {k : Nat} {f : Addr} {fd : FuncData} {ps : List Str} {sp : Sp} (F : FnOk P w K mg base CX k f fd ps sp) (hb : Binds K fd ps []) :
    FnR P w K mg base CX k f sp := (F.raw hb .nil).imp fun vs H Q E h => by rw [List.append_nil]; exact h
section
variable {X : Cx} {CX : CXT} {k : Nat} {C f g p : Addr} {mc : Value} {sp : Sp} {E : L2.St → XK} {pins : List (Addr × Obj)} {σ : L2.St} {H : Hp} {s : Shared} {Q : VK} {us : List Value} {vs : List V}
theorem run_S {A : Around} (F : FnR X.prog X.w X.K X.mg X.base CX k g sp) (hr : Room k A) (e0 : Env0 X.prog X.w X.K X.mg X.base A X.stack s H) (hx : PassesAt CX X σ (E σ)) (I : Inv X pins σ H s) (r : Vals vs us) (h : sp vs H Q (E σ)) :
    codeAny (model X.prog X.w) A (.call (.ref g) ⟨us, []⟩) (fun r s' => match r with | .ok (.ret v) => EP X pins σ Q v s' | .ok _ => False | .error e => X.xe e s') s := by
  refine codeAny_mono (F A X.stack s H us vs Q (E σ) hr e0 r h) fun r s' hq => ?_
  rcases r with e | fl
  · exact hx pins H s e s' I hq
  · cases fl <;> first | exact I.after hq | exact False.elim hq
def mkHp (H : Hp) (x dx C : Addr) : Hp := upd (upd H dx (.own x)) x (.ins C dx [])
def tMakeS (C : Addr) (sp : Sp) (E : L2.St → XK) (tf : TE) (t : TA) : TE := fun σ H Q => tf σ H fun y H0 => y = .ref C ∧ t σ H0 fun vs H1 => ∀ x dx, H1 x = Option.none → H1 dx = Option.none → dx ≠ x →
  sp (V.ref x :: vs) (mkHp H1 x dx C) (fun v H2 => v = .non ∧ Q (.ref x) H2) (E σ)
variable {o e fe : Expr} {es : List Expr} {m : Str} {pos apos : Pos} {ta tb tf : TE} {t : TA} {pl : Sem Bool}
theorem pe_makeS (hf : PE X fe tf) (M : Mk X.K C f) (F : FnR X.prog X.w X.K X.mg X.base CX k f sp) (hr : Room (k + 1) X.A) (hx : ∀ σ, PassesAt CX X σ (E σ)) (ha : PA X (e :: es) t)
    (ht : eval (.Call fe (e :: es) [] pos) X.env = (do callWith pos (← eval fe X.env) [] (backTo pos (starEach (e :: es) X.env)) (backToKw pos (keywordEach [] X.env))) := by rfl)
    (he : starEach (e :: es) X.env = (false, eval e X.env) :: starEach es X.env := by rfl) (hpl : (backTo pos (starEach es X.env)).any (·.1) = false := by rfl) : PE X (.Call fe (e :: es) [] pos) (tMakeS C sp E tf t) := by
  refine ⟨fun pins s σ H Q I h => ?_⟩
  refine Call_ (thn (hf.run pins s σ H _ I h) fun u s1 ⟨y, H0, I0, ry, ey, q0⟩ => ?_) ht
  subst ey
  obtain rfl : u = Value.ref C := ry
  refine PySem.W.callWith_K (h₀ := X.base) I0.ok.mod.kin M.kp (thn (ha.run pos pins s1 σ H0 _ I0 q0) fun us s2 ⟨vs, H1, I1, r, q⟩ => ⟨I1.kIn, ?_⟩) he hpl
  have hq := q (s2.heap.objs.size + 1) s2.heap.objs.size (I1.hok.fresh (Nat.le_succ _)) (I1.hok.fresh (Nat.le_refl _)) (Nat.ne_of_lt (Nat.lt_succ_self _))
  have I2 := Inv.made (C := C) I1
  refine wpAny_call (make_map (f := f) I1.kIn M.makes M.init (beq_iff_eq.mp M.fn) (codeAny_mono (run_S (us := Value.ref (s2.heap.objs.size + 1) :: us) (vs := V.ref (s2.heap.objs.size + 1) :: vs) F (hr.make C us []) (I2.env0.make C us []) (hx σ) I2 (.cons rfl r) hq) fun r s' hq' => ?_))
  rcases r with e | fl
  · exact hq'
  · cases fl with
    | ret u =>
      obtain ⟨v, H', I3, rv, ev, q3⟩ := hq'
      subst ev
      exact ⟨rv, ⟨V.ref (s2.heap.objs.size + 1), H', I3, rfl, q3⟩⟩
    | _ => exact False.elim hq'
def tCMethS (C : Addr) (sp : Sp) (E : L2.St → XK) (ta : TE) (t : TA) : TE := fun σ H Q => ta σ H fun x H1 => x = .ref C ∧ t σ H1 fun vs H2 => sp (.ref C :: vs) H2 Q (E σ)
def tMethSS (C : Addr) (m : Str) (sp : Sp) (E : L2.St → XK) (ta : TE) (t : TA) : TE := fun σ H Q => ta σ H fun x H1 => ∃ a dx fs, x = .ref a ∧ H1 a = some (.ins C dx fs) ∧ fs.lookup m = none ∧ t σ H1 fun vs H2 => sp (x :: vs) H2 Q (E σ)
theorem pe_methS (he : PE X o ta) (c : Cls X.K C) (hm : Meth X.K C m f) (F : FnR X.prog X.w X.K X.mg X.base CX k f sp) (hr : Room k X.A) (hx : ∀ σ, PassesAt CX X σ (E σ)) (ha : PA X (e :: es) t)
    (hst : starEach (e :: es) X.env = (false, eval e X.env) :: starEach es X.env := by rfl) (hpl : (backTo pos (starEach es X.env)).any (·.1) = false := by rfl)
    (ht : eval (.Call (.Attribute o m apos) (e :: es) [] pos) X.env = (do
      let ov ← eval o X.env
      standAt apos.atName
      let (f, first) ← holding [ov] (getMethod ov m pl)
      callWith pos f first (backTo pos (starEach (e :: es) X.env)) (backToKw pos (keywordEach [] X.env))) := by rfl) :
    PE X (.Call (.Attribute o m apos) (e :: es) [] pos) (tMethSS C m sp E ta t) := by
  refine ⟨fun pins s σ H Q I h => ?_⟩
  refine PySem.W.methodCall_KW (pl := pl) (thn (he.run pins s σ H _ I h) fun u s1 ⟨x, H1, I1, rx, a, dx, fs, ex, ea, l, q⟩ => ?_) ht
  subst ex
  obtain rfl : u = Value.ref a := rx
  refine getmeth_ok I1 ea c hm l ?_
  refine PySem.W.callWith_K (first := [.ref a]) (h₀ := X.base) I.ok.mod.kin hm.kp (thn (ha.run pos pins s1 σ H1 _ I1 q) fun us s2 ⟨vs, H2, I2, r, q2⟩ => ⟨I2.kIn, ?_⟩) hst hpl
  exact wpAny_call (run_S (us := .ref a :: us) (vs := .ref a :: vs) F hr I2.env0 (hx σ) I2 (.cons rfl r) q2)
theorem pe_methS0 (he : PE X o ta) (c : Cls X.K C) (hm : Meth X.K C m f) (F : FnR X.prog X.w X.K X.mg X.base CX k f sp) (hr : Room k X.A) (hx : ∀ σ, PassesAt CX X σ (E σ))
    (ht : eval (.Call (.Attribute o m apos) [] [] pos) X.env = (do
      let ov ← eval o X.env
      standAt apos.atName
      let (f, first) ← holding [ov] (getMethod ov m pl)
      callWith pos f first (backTo pos (starEach [] X.env)) (backToKw pos (keywordEach [] X.env))) := by rfl) :
    PE X (.Call (.Attribute o m apos) [] [] pos) (tMethSS C m sp E ta tNil) := by
  refine ⟨fun pins s σ H Q I h => ?_⟩
  refine PySem.W.methodCall_KW (pl := pl) (thn (he.run pins s σ H _ I h) fun u s1 ⟨x, H1, I1, rx, a, dx, fs, ex, ea, l, q⟩ => ?_) ht
  subst ex
  obtain rfl : u = Value.ref a := rx
  refine getmeth_ok I1 ea c hm l ?_
  exact PySem.W.callWith_K0 (first := [.ref a]) I1.kIn hm.kp (wpAny_call (run_S (us := [.ref a]) (vs := [.ref a]) F hr I1.env0 (hx σ) I1 (.cons rfl .nil) q))
def tCallOS (C : Addr) (sp : Sp) (E : L2.St → XK) (tf : TE) (t : TA) : TE := fun σ H Q => tf σ H fun y H1 => ∃ a, y = V.ref a ∧ t σ H1 fun vs H2 => (∃ dx fs, H2 a = some (.ins C dx fs)) ∧ sp (V.ref a :: vs) H2 Q (E σ)
def tBinS (C : Addr) (sp : Sp) (E : L2.St → XK) (ta tb : TE) : TE := fun σ H Q => ta σ H fun x H1 => tb σ H1 fun y H2 => ∃ a dx fs b dy gs, x = .ref a ∧ y = .ref b ∧ H2 a = some (.ins C dx fs) ∧ H2 b = some (.ins C dy gs) ∧ sp [x, y] H2 Q (E σ)
theorem ins_at (I : Inv X pins σ H s) {a dx : Addr} {fs : List (Str × V)} (h : H a = some (.ins C dx fs)) : ∃ ox od, PySem.W.InstAt s.heap a ox C od := by
  obtain ⟨ox, od, J, _⟩ := StX.insC_at I (.inr ⟨dx, fs, h⟩)
  exact ⟨ox, od, J⟩
structure CmO (K : PySem.W.Frag) (C : Addr) (m : Str) (g : Addr) : Prop where
  at_ : PySem.W.findIn K (.ref C) m = some (some (.ref g))
  fn : PySem.W.isFn K (.ref g) = true
def tBinI (C : Addr) (sp : Sp) (E : L2.St → XK) (ta tb : TE) : TE := fun σ H Q => ta σ H fun x H1 => tb σ H1 fun y H2 => ∃ a dx fs i, x = .ref a ∧ y = .int i ∧ H2 a = some (.ins C dx fs) ∧ sp [x, y] H2 Q (E σ)
def tInvS (C : Addr) (sp : Sp) (E : L2.St → XK) (ta : TE) : TE := fun σ H Q => ta σ H fun x H1 => ∃ a dx fs, x = .ref a ∧ H1 a = some (.ins C dx fs) ∧ sp [x] H1 Q (E σ)
def rLenO (C : Addr) (sp : Sp) : List V → Hp → VK → Prop := fun xs H Q => ∃ a dx fs, xs = [.ref a] ∧ H a = some (.ins C dx fs) ∧ sp [.ref a] H (fun v H' => ∃ n : Int, v = .int n ∧ 0 ≤ n ∧ n < 2 ^ 63 ∧ Q (.int n) H') (fun _ _ _ => False)
theorem cr_lenO (c : CmO X.K C "__len__" g) (F : FnR X.prog X.w X.K X.mg X.base (L2N.CX X.prog X.w) k g sp) (hr : Room (k + 1) X.A) : CallR X (.builtin "len") (rLenO C sp) := by
  intro pins s σ H xs us Q I r h
  obtain ⟨a, dx, fs, rfl, ea, q⟩ := h
  obtain ⟨u, rfl, ru⟩ := r.one
  cases (show u = Value.ref a from ru)
  obtain ⟨ox, od, J⟩ := ins_at I ea
  obtain ⟨m, hF⟩ := I.fr
  refine PySem.W.len_K hF I.ok.mod.kin J c.at_ c.fn (wpAny_mono (wpAny_call (run_S (E := E0S) (us := [.ref a]) (vs := [.ref a]) F hr.in1 I.env0.in1 (passAt0 σ) I (.cons rfl .nil) q)) (fun w s' z => ?_) fun _ _ x => x)
  obtain ⟨z', H', I', rz, n, ez, h0, h1, qz⟩ := z
  subst ez
  obtain ⟨t, e⟩ := (show ∃ t, w = Value.int n t from rz)
  cases e
  exact ⟨⟨h0, h1⟩, .int n, H', I'.tok _, ⟨_, rfl⟩, qz⟩
end
section
variable {K : PySem.W.Frag} {x m : Str}
theorem and2 {a b : Bool} (h : (a && b) = true) : a = true ∧ b = true := Bool.and_eq_true_iff.mp h
theorem cmoB_ok (h : cmoB K x m = true) : CmO K (He.ga K x) m (He.ma K (He.ga K x) m) := ⟨of_decide_eq_true (and2 h).1, (and2 h).2⟩
theorem crdB_ok (h : crdB K x = true) : ClX.CRead K (He.ga K x) (.type "type") := ⟨(and2 h).1, of_decide_eq_true (and2 h).2⟩
theorem recB_ok {T : String} {p g : Addr} (h : recB K T p g = true) : ∃ rest, PySem.W.recIn K p T = some (.ref g :: rest) := by
  unfold recB at h
  split at h
  · rename_i a r e
    rw [of_decide_eq_true h] at e
    exact ⟨_, e⟩
  · cases h
theorem cvlB_ok {i : Int} (h : cvlB K x m i = true) : ∃ u, ClX.CVal K (He.ga K x) (.type "type") m (.int i) u := by
  unfold cvlB at h
  split at h
  · rename_i j t e
    exact ⟨_, e, t, by rw [of_decide_eq_true h]⟩
  · cases h
structure IsiC (K : PySem.W.Frag) (C : Addr) : Prop where
  cls : Cls K C
  ca : PySem.W.findIn K (.ref C) "__class__" = some (some (.builtin "object.__class__"))
  cn : PySem.W.specialIn K (.builtin "object.__class__") "__get__" = some (some (.builtin "getset_descriptor.__get__"))
  ct : PySem.W.takesIn K (.builtin "object.__class__") = some true
  cm : PySem.W.mroIn K C (.type "object") = some true
theorem w_isiO {H : Hp} {Q : VK} {a C D dx : Addr} {fs : List (Str × V)} {b : Bool} (I : IsiC K C) (h : H a = some (.ins C dx fs)) (hk : PySem.W.kitOne K (.ref C) (.ref D) = some b) (q : Q (.bl b) H) : rIsi K [.ref a, .ref D] H Q :=
  ⟨.ref a, .ref D, .ref C, .ref D, b, rfl, .own D, .base (.ins h I.cls I.ca I.cn I.ct I.cm), hk, q⟩
end
section
variable {K : PySem.W.Frag} {C : Addr} {sp : Sp} {E : L2.St → XK} {ta tb tf : TE} {t : TA} {σ : L2.St} {H : Hp} {Q : VK} {m : Str}
def kMake (C : Addr) (sp : Sp) (E : XK) (vs : List V) (H1 : Hp) (Q : VK) : Prop := ∀ x dx, H1 x = Option.none → H1 dx = Option.none → dx ≠ x → sp (V.ref x :: vs) (mkHp H1 x dx C) (fun v H2 => v = .non ∧ Q (.ref x) H2) E
def kRef (C : Addr) (y : V) (P : Prop) : Prop := y = .ref C ∧ P
theorem w_kRef {P : Prop} (h : P) : kRef C (.ref C) P := ⟨rfl, h⟩
theorem w_makeS (h : tf σ H fun y H0 => kRef C y (t σ H0 fun vs H1 => kMake C sp (E σ) vs H1 Q)) : tMakeS C sp E tf t σ H Q := h
theorem w_cmethS (h : ta σ H fun y H0 => kRef C y (t σ H0 fun vs H1 => sp (.ref C :: vs) H1 Q (E σ))) : tCMethS C sp E ta t σ H Q := h
def rBinO (C : Addr) (sp : Sp) (E : XK) (x y : V) (H2 : Hp) (Q : VK) : Prop := ∃ a dx fs b dy gs, x = .ref a ∧ y = .ref b ∧ H2 a = some (.ins C dx fs) ∧ H2 b = some (.ins C dy gs) ∧ sp [x, y] H2 Q E
theorem w_binS (h : ta σ H fun x H1 => tb σ H1 fun y H2 => rBinO C sp (E σ) x y H2 Q) : tBinS C sp E ta tb σ H Q := h
def rBinI (C : Addr) (sp : Sp) (E : XK) (x y : V) (H2 : Hp) (Q : VK) : Prop := ∃ a dx fs i, x = .ref a ∧ y = .int i ∧ H2 a = some (.ins C dx fs) ∧ sp [x, y] H2 Q E
theorem w_binI (h : ta σ H fun x H1 => tb σ H1 fun y H2 => rBinI C sp (E σ) x y H2 Q) : tBinI C sp E ta tb σ H Q := h
def rInvO (C : Addr) (sp : Sp) (E : XK) (x : V) (H2 : Hp) (Q : VK) : Prop := ∃ a dx fs, x = .ref a ∧ H2 a = some (.ins C dx fs) ∧ sp [x] H2 Q E
theorem w_invS (h : ta σ H fun x H1 => rInvO C sp (E σ) x H1 Q) : tInvS C sp E ta σ H Q := h
def rCalO (C : Addr) (sp : Sp) (E : XK) (t : TA) (σ : L2.St) (y : V) (H1 : Hp) (Q : VK) : Prop := ∃ a, y = V.ref a ∧ t σ H1 fun vs H2 => (∃ dx fs, H2 a = some (.ins C dx fs)) ∧ sp (V.ref a :: vs) H2 Q E
theorem w_callOS (h : tf σ H fun y H1 => rCalO C sp (E σ) t σ y H1 Q) : tCallOS C sp E tf t σ H Q := h
def rMetO (C : Addr) (m : Str) (sp : Sp) (E : XK) (t : TA) (σ : L2.St) (y : V) (H1 : Hp) (Q : VK) : Prop := ∃ a dx fs, y = .ref a ∧ H1 a = some (.ins C dx fs) ∧ fs.lookup m = none ∧ t σ H1 fun vs H2 => sp (y :: vs) H2 Q E
theorem w_methS (h : ta σ H fun y H1 => rMetO C m sp (E σ) t σ y H1 Q) : tMethSS C m sp E ta t σ H Q := h
def rCVal (K : PySem.W.Frag) (f : Str) (x : V) (H : Hp) (Q : VK) : Prop := ∃ C mc v u, x = .ref C ∧ ClX.CRead K C mc ∧ ClX.CVal K C mc f v u ∧ Q v H
theorem w_cval {f : Str} (h : ta σ H fun x H1 => rCVal K f x H1 Q) : ClX.tCVal K ta f σ H Q := h
theorem w_rCVal {f : Str} {v : V} {mc : Value} (r : ClX.CRead K C mc) (k : ∃ u, ClX.CVal K C mc f v u) (q : Q v H) : rCVal K f (.ref C) H Q := by
  obtain ⟨u, k⟩ := k
  exact ⟨C, mc, v, u, rfl, r, k, q⟩
def kLstRg (a b : Int) (H1 : Hp) (Q : VK) : Prop := RgOk a b ∧ ∀ q, H1 q = none → Q (.ref q) (upd H1 q (.lst (rgV a b)))
def kTupRg (a b : Int) (H1 : Hp) (Q : VK) : Prop := RgOk a b ∧ ∀ q, H1 q = none → Q (.ref q) (upd H1 q (.tup (rgV a b)))
def kRg1 (x : V) (R : Int → Int → Hp → Prop) (H : Hp) : Prop := ∃ n, x = .int n ∧ R 0 n H
theorem w_lstRg {te : L2.St → Hp → (Int → Int → Hp → Prop) → Prop} (h : te σ H fun a b H1 => kLstRg a b H1 Q) : tLstRg te σ H Q := h
theorem w_tupRg {te : L2.St → Hp → (Int → Int → Hp → Prop) → Prop} (h : te σ H fun a b H1 => kTupRg a b H1 Q) : tTupRg te σ H Q := h
theorem w_tRg1 {R : Int → Int → Hp → Prop} (h : ta σ H fun x H1 => kRg1 x R H1) : tRg1 ta σ H R := h
theorem w_kRg1 {n : Int} {R : Int → Int → Hp → Prop} (h : R 0 n H) : kRg1 (.int n) R H := ⟨n, rfl, h⟩
def rg (n : Nat) : List Int := (List.range n).map fun (i : Nat) => (i : Int)
theorem rgV_eq (n : Nat) : rgV 0 n = (rg n).map V.int := by
  unfold rgV rg
  rw [List.map_map, show ((n : Int) - 0).toNat = n by omega]
  exact List.map_congr_left fun i _ => by show V.int (0 + (i : Nat)) = V.int (i : Int); rw [Int.zero_add]
theorem w_kLstRg {n : Nat} (hn : n ≤ 1000000) (h : ∀ q H', H q = none → Gr [] H H' → H' q = some (.lst ((rg n).map V.int)) → Q (.ref q) H') : kLstRg 0 n H Q :=
  ⟨.of_le (by omega) (by omega) (by omega) (by omega), fun q hq => h q _ hq (Gr.new hq) (by rw [rgV_eq]; exact upd_same)⟩
end
abbrev Blk (α : Type) : Type := Shared → Hp → Addr → List (Str × Addr) → List Addr → α
section
variable {X : Cx} {elt tg iter : Expr} {ifs : List Expr} {scope : Scope} {own : List (Str × Nat)} {pos spos : Pos} {wi : TI} {g : TG} {tt : Blk TT} {te : Blk TE} {i : Nat} {y : Str} {py : Pos}
end
def kLc (g : TG) (tt : TT) (te : TE) (vs : List Nat) (σ : L2.St) : It → Hp → VK → Prop := fun J H1 Q => ∀ D, H1 D = none → ∃ W : Nat → Nat → Hp → Prop, (∃ m, W 0 m (upd H1 D (.lst []))) ∧ ∀ i m H, W i m H →
  (J.stop i H ∧ Q (.ref D) H) ∨ (J.go i H ∧ ∃ Nx : Hp → Prop, (∀ H', Nx H' → ∃ m', m' < m ∧ W (i + 1) m' H') ∧ ∀ x H', J.yld i H x H' → g x (wipe σ vs) H' fun σ2 H2 => wipe σ2 vs = wipe σ vs ∧ tt σ2 H2 fun b H3 =>
    if b = true then te σ2 H3 fun y H4 => ∃ acc, H4 D = some (.lst acc) ∧ acc.length < sizeLine ∧ Nx (upd H4 D (.lst (acc ++ [y]))) else Nx H3)
section
variable {K : PySem.W.Frag} {σ : L2.St} {H H1 : Hp} {Q : VK} {wi : TI} {g : TG} {tt : TT} {te : TE} {vs : List Nat} {n : Nat} {lo : Int} {a : Addr} {xs : List V}
theorem w_lc (h : wi σ H fun J H1 => kLc g tt te vs σ J H1 Q) : tLc wi g tt te vs σ H Q := h
def rApp (D : Addr) (Nx : Hp → Prop) (y : V) (H4 : Hp) : Prop := ∃ acc, H4 D = some (.lst acc) ∧ acc.length < sizeLine ∧ Nx (upd H4 D (.lst (acc ++ [y])))
def kIf (b : Bool) (A B : Prop) : Prop := if b = true then A else B
def kTrn (g : TG) (tt : TT) (te : TE) (vs : List Nat) (σ : L2.St) (D : Addr) (Nx : Hp → Prop) (x : V) (H : Hp) : Prop := g x (wipe σ vs) H fun σ2 H2 => wipe σ2 vs = wipe σ vs ∧ tt σ2 H2 fun b H3 => kIf b (te σ2 H3 (rApp D Nx)) (Nx H3)
theorem w_trn {D : Addr} {Nx : Hp → Prop} {x : V} (h : g x (wipe σ vs) H fun σ2 H2 => wipe σ2 vs = wipe σ vs ∧ te σ2 H2 (rApp D Nx)) : kTrn g tYes te vs σ D Nx x H := h
end
end LW
namespace LW
open PySem PySem.Spec PyProof.Rows L2
theorem eraseIdx_mapL {α β : Type} (f : α → β) : ∀ (l : List α) (i : Nat), (l.map f).eraseIdx i = (l.eraseIdx i).map f
  | [], _ => rfl
  | _ :: _, 0 => rfl
  | a :: l, i + 1 => congrArg (f a :: ·) (eraseIdx_mapL f l i)
theorem eraseIdx_permL {α : Type} : ∀ {l : List α} {i : Nat} {v : α}, l[i]? = some v → (v :: l.eraseIdx i).Perm l
  | [], _, _, h => by simp at h
  | a :: l, 0, v, h => by
    have e : a = v := by simpa using h
    subst e
    exact .refl _
  | a :: l, i + 1, v, h => by
    have h : l[i]? = some v := by simpa using h
    exact (List.Perm.swap a v _).trans ((eraseIdx_permL h).cons a)
theorem nodup_part {α : Type} [BEq α] [LawfulBEq α] : ∀ {l m : List α}, l.Nodup → (∀ x ∈ l, x ∈ m) → ∃ r, m.Perm (l ++ r)
  | [], m, _, _ => ⟨m, .refl _⟩
  | a :: l, m, hn, hs => by
    obtain ⟨ha, hn⟩ := List.nodup_cons.mp hn
    have h1 : m.Perm (a :: m.erase a) := List.perm_cons_erase (hs a List.mem_cons_self)
    obtain ⟨r, hr⟩ := nodup_part (m := m.erase a) hn fun x hx => by
      have hm := hs x (List.mem_cons_of_mem _ hx)
      have hne : x ≠ a := fun e => ha (e ▸ hx)
      exact (List.mem_erase_of_ne hne).mpr hm
    exact ⟨r, h1.trans (hr.cons a)⟩
theorem perm_of {α : Type} [BEq α] [LawfulBEq α] {l m : List α} (hn : l.Nodup) (hs : ∀ x ∈ l, x ∈ m) (hl : m.length ≤ l.length) : l.Perm m := by
  obtain ⟨r, hr⟩ := nodup_part hn hs
  have e := hr.length_eq
  rw [List.length_append] at e
  have : r = [] := List.eq_nil_of_length_eq_zero (by omega)
  rw [this, List.append_nil] at hr
  exact hr.symm
theorem mem_rg {n : Nat} {x : Int} : x ∈ rg n ↔ 0 ≤ x ∧ x < n := by
  unfold rg
  rw [List.mem_map]
  refine ⟨fun ⟨i, hi, e⟩ => ?_, fun ⟨h0, h1⟩ => ⟨x.toNat, List.mem_range.mpr (by omega), by omega⟩⟩
  have := List.mem_range.mp hi
  omega
theorem length_rg (n : Nat) : (rg n).length = n := by unfold rg; rw [List.length_map, List.length_range]
theorem sorted_rg (n : Nat) : (rg n).Pairwise (· ≤ ·) := by
  unfold rg
  refine List.Pairwise.map _ (fun a b h => ?_) (List.pairwise_lt_range (n := n))
  exact Int.ofNat_le.mpr (Nat.le_of_lt h)
theorem rg_get {n i : Nat} (h : i < n) : (rg n)[i]? = some (i : Int) := by
  unfold rg
  simp [h]
def IsNum (ps : List Int) : Prop := 1 ≤ ps.length ∧ ps.length ≤ 12 ∧ ps.Perm (rg ps.length)
section
variable {ps qs : List Int} {n : Nat}
theorem IsNum.of (h1 : 1 ≤ n) (h2 : n ≤ 12) (hl : ps.length = n) (hn : ps.Nodup) (hb : ∀ x ∈ ps, 0 ≤ x ∧ x < n) : IsNum ps := by
  subst hl
  exact ⟨h1, h2, perm_of hn (fun x hx => mem_rg.mpr (hb x hx)) (by rw [length_rg]; omega)⟩
theorem IsNum.mem (h : IsNum ps) {x : Int} : x ∈ ps ↔ 0 ≤ x ∧ x < ps.length := by rw [h.2.2.mem_iff]; exact mem_rg
theorem IsNum.get (h : IsNum ps) {i : Nat} {x : Int} (e : ps[i]? = some x) : 0 ≤ x ∧ x < ps.length := h.mem.mp (List.mem_of_getElem? e)
theorem sorted_iff {ns : List Int} (h : ns.Perm ps) (hs : ns.Pairwise (· ≤ ·)) : ns = rg ps.length ↔ ps.Perm (rg ps.length) := by
  refine ⟨fun e => e ▸ h.symm, fun p => ?_⟩
  exact List.Perm.eq_of_pairwise (le := (· ≤ ·)) (fun a b _ _ h1 h2 => Int.le_antisymm h1 h2) hs (sorted_rg _) (h.trans p)
end
def rSortedA (K : PySem.W.Frag) : List V → Hp → VK → Prop := fun vs H Q => ∃ (a : Addr) (ns : List Int), vs = [V.ref a] ∧ (SqL K H a (ns.map V.int) ∨ SqT K H a (ns.map V.int)) ∧ ns.length < 64 ∧
  ∀ (ns' : List Int) (p : Addr), ns'.Perm ns → ns'.Pairwise (· ≤ ·) → H p = none → Q (.ref p) (upd H p (.lst (ns'.map V.int)))
section
variable {prog : Program} {w : World} {A : Around} {s : Shared} {E : Value → Shared → Prop}
theorem sorted_any {a : Addr} {T : String} {o : Obj} {n : Nat} {vs : List Value} {ns : List Int} {Q : Value → Shared → Prop} (hT : T = "list" ∨ T = "tuple") (ho : s.heap.get? a = some o) (hc : o.cls = .type T) (hd : o.data = .seq vs.toArray n) (hI : IntsAre vs ns) (h64 : vs.length < 64)
    (h : ∀ (h' h2 : Heap) (out : Array Value) (e : Nat) (ns' : List Int), (∀ b o', s.heap.get? b = some o' → h'.get? b = some o') → (∀ b o', h'.get? b = some o' → h2.get? b = some o') → h2.get? h'.objs.size = some (seqObj "list" out e) → IntsAre out.toList ns' → ns'.Perm ns → ns'.Pairwise (· ≤ ·) → Q (.ref h'.objs.size) { s with heap := h2 }) :
    wpAny (model prog w) A (call (.builtin "sorted") [.ref a]) Q E s := by
  refine Calls.call_function_entry kind_sorted plain_sorted entry_sorted (args_sorted1 _) ?_
  unfold Builtin.«sorted»
  refine wpAny_bind (m := checkCount "sorted" 1 1 _) (wpAny_pure ?_)
  refine wpAny_bind (wpAny_collect_seq a hT ho hc hd (fun h' hk => ?_) (by show vs.length ≤ sizeLine; rw [sizeLine_eq]; omega))
  refine wpAny_bind (wpAny_newList ?_)
  have e1 : vs.toArray.toList = vs := by simp
  rw [e1]
  have hoL : (h'.push (seqObj "list" vs.toArray 0)).get? h'.objs.size = some (seqObj "list" vs.toArray 0) := Heap.get?_push_size _ rfl
  refine wpAny_bind (wpAny_holding (wpAny_call_entry slot_list_sort ⟨_, hoL, rfl⟩ entry_list_sort (list_sort_tree hoL hI h64 fun out ns' a1 a2 a3 => ⟨_, rfl, ?_⟩) (args_list_sort _)))
  obtain ⟨e, he⟩ := sortedHeap_at (vs := vs) (out := out) (n := 0) hoL
  refine wpAny_pure ⟨_, rfl, h h' _ out e ns' hk (fun b o' q => ?_) he a1 a2 a3⟩
  have lt := Heap.lt_size q
  rw [sortedHeap_old (Nat.ne_of_lt lt) (by show b < (h'.push _).objs.size; rw [size_push']; exact Nat.lt_succ_of_lt lt)]
  exact Heap.get?_push_of_some _ q
end
theorem cr_sortedA {X : Cx} : CallR X (.builtin "sorted") (rSortedA X.K) := by
  intro pins s σ H vs us Q I r h
  obtain ⟨a, ns, rfl, hs, h64, q⟩ := h
  obtain ⟨u, rfl, ru⟩ := r.one
  cases (show u = Value.ref a from ru)
  have fin : ∀ {T : String} {o : Obj} {n : Nat} {its : List Value}, (T = "list" ∨ T = "tuple") → s.heap.get? a = some o → o.cls = .type T → o.data = .seq its.toArray n → Vals (ns.map V.int) its → wpAny (model X.prog X.w) X.A (call (.builtin "sorted") [.ref a]) (EP X pins σ Q) X.xe s := fun {T o n its} hT ho hc hd rv => by
    have hi := rv.ints
    refine sorted_any hT ho hc hd hi (by rw [hi.length]; exact h64) fun h' h2 out e ns' hk hk2 he h1 h2' h3 => ?_
    have I1 : Inv X pins σ H { s with heap := h' } := I.kept (t' := s.toks) hk
    have hlen : (ns'.map V.int).length ≤ sizeLine := by rw [List.length_map, h2'.length_eq]; exact small (by omega)
    exact ⟨.ref _, upd H h'.objs.size (.lst (ns'.map V.int)), I1.laid (t' := s.toks) hk2 (Nat.le_refl _) ⟨hlen, out.toList, e, vals_of_ints h1, he⟩, rfl, q ns' _ h2' h3 (I1.hok.fresh (Nat.le_refl _))⟩
  rcases hs with hs | hs
  · obtain ⟨its, rv, hl, _⟩ := I.list hs
    obtain ⟨o, ho, hc, n, hd⟩ := hl.isList
    exact fin (.inl rfl) ho hc hd rv
  · obtain ⟨its, rv, ⟨o, ho, hc, n, hd⟩, _⟩ := I.tuple hs
    exact fin (.inr rfl) ho hc hd rv
theorem w_sorted {K : PySem.W.Frag} {H : Hp} {Q : VK} {a : Addr} {ns : List Int} (h : SqL K H a (ns.map V.int) ∨ SqT K H a (ns.map V.int)) (hl : ns.length < 64)
    (k : ∀ (ns' : List Int) p H', H p = none → Gr [] H H' → H' p = some (.lst (ns'.map V.int)) → ns'.Perm ns → ns'.Pairwise (· ≤ ·) → Q (.ref p) H') : rSortedA K [.ref a] H Q :=
  ⟨a, ns, rfl, h, hl, fun ns' p hp hs h0 => k ns' p _ h0 (Gr.new h0) upd_same hp hs⟩
def kTupX (x : V) (H : Hp) (P : Prop) : Prop := (∃ p ys, x = .ref p ∧ TupX H p ys) ∧ P
def tBMX (r : V → List V → Hp → VK → Prop) (to : TE) (t : TA) : TE := fun σ H Q => to σ H fun x H1 => kTupX x H1 (t σ H1 fun xs H2 => r x xs H2 Q)
theorem w_bmX {r : V → List V → Hp → VK → Prop} {to : TE} {t : TA} {σ : L2.St} {H : Hp} {Q : VK} (h : to σ H fun x H1 => kTupX x H1 (t σ H1 fun xs H2 => r x xs H2 Q)) : tBMX r to t σ H Q := h
theorem w_kTupX {p : Addr} {ys : List V} {H : Hp} {P : Prop} (h0 : TupX H p ys) (h : P) : kTupX (.ref p) H P := ⟨⟨p, ys, rfl, h0⟩, h⟩
abbrev NC (K : PySem.W.Frag) : Addr := He.ga K "Numbering"
structure NumC (K : PySem.W.Frag) : Prop where
  cls : Cls K (NC K)
  na : NoAttr K (NC K) "places"
def Num (K : PySem.W.Frag) (H : Hp) (a : Addr) (ps : List Int) : Prop := IsNum ps ∧ ∃ dx t, H a = some (.ins (NC K) dx [("places", .ref t)]) ∧ TupX H t (ps.map V.int)
section
variable {K : PySem.W.Frag} {H H' H1 : Hp} {Q : VK} {E : XK} {a x p : Addr} {ps ns : List Int} {S : List Addr}
theorem Num.gr (h : Num K H a ps) (g : Gr S H H') : Num K H' a ps := by
  obtain ⟨h0, dx, t, h1, h2⟩ := h
  exact ⟨h0, dx, t, g.get h1 rfl, h2.gr g⟩
theorem Num.ins (h : Num K H a ps) : ∃ dx fs, H a = some (.ins (NC K) dx fs) := by
  obtain ⟨_, dx, t, h1, _⟩ := h
  exact ⟨_, _, h1⟩
theorem w_places (c : NumC K) (h : Num K H a ps) (q : ∀ t, TupX H t (ps.map V.int) → Q (.ref t) H) : rFld K "places" (.ref a) H Q := by
  obtain ⟨_, dx, t, h1, h2⟩ := h
  exact w_rFld h1 c.cls c.na rfl (q t h2)
theorem Gr.made {dx C : Addr} (hx : H x = none) (hd : H dx = none) : Gr [] H (mkHp H x dx C) := ⟨fun b u e _ => by
    unfold mkHp
    rw [upd_ne (ne_of_none e hx), upd_ne (ne_of_none e hd)]
    exact e, fun _ m => by cases m⟩
def sp_Numbering___init__ (K : PySem.W.Frag) : Sp := fun vs H Q E => ∃ (x dx p : Addr) (ns : List Int), vs = [.ref x, .ref p] ∧ H x = some (.ins (NC K) dx []) ∧ (SqL K H p (ns.map V.int) ∨ TupX H p (ns.map V.int)) ∧
  ((¬ IsNum ns ∧ ∀ H', Gr [] H H' → E (.ref (He.ga K "BadNumbering")) none H') ∨ (IsNum ns ∧ ∀ t H', Gr [x] H H' → H' x = some (.ins (NC K) dx [("places", .ref t)]) → TupX H' t (ns.map V.int) → Q .non H'))
def atP (ps : List Int) (k : Int) : Int := ps.getD k.toNat 0
theorem atP_mem {k : Int} (h0 : 0 ≤ k) (h : k < ps.length) : atP ps k ∈ ps := by
  have hl : k.toNat < ps.length := by omega
  unfold atP
  rw [List.getD_eq_getElem?_getD, List.getElem?_eq_getElem hl]
  exact List.getElem_mem hl
def sp_Numbering___len__ (K : PySem.W.Frag) : Sp := fun vs H Q _ => ∃ (a : Addr) (ps : List Int), vs = [.ref a] ∧ Num K H a ps ∧ Q (.int ps.length) H
theorem w_isiNum {b : Bool} {D : Addr} (hk : PySem.W.kitOne K (.ref (NC K)) (.ref D) = some b) (I : IsiC K (NC K)) (h : Num K H a ps) (q : Q (.bl b) H) : rIsi K [.ref a, .ref D] H Q := by
  obtain ⟨dx, fs, h1⟩ := h.ins
  exact w_isiO I h1 hk q
theorem w_numCal {sp : Sp} {t : TA} {σ : L2.St} {E : XK} (h : t σ H fun vs H2 => (∃ dx fs, H2 a = some (.ins (NC K) dx fs)) ∧ sp (V.ref a :: vs) H2 Q E) : rCalO (NC K) sp E t σ (.ref a) H Q := ⟨a, rfl, h⟩
theorem w_numLen {ps : List Int} (h : Num K H a ps) (q : Q (.int ps.length) H) : rLenO (NC K) (sp_Numbering___len__ K) [.ref a] H Q := by
  obtain ⟨dx, fs, h1⟩ := h.ins
  have := h.1.2.1
  exact ⟨a, dx, fs, rfl, h1, a, ps, rfl, h, ps.length, rfl, by omega, by omega, q⟩
theorem atP_lt (h : IsNum ps) {k : Int} (h0 : 0 ≤ k) (h1 : k < ps.length) : 0 ≤ atP ps k ∧ atP ps k < ps.length := h.mem.mp (atP_mem h0 h1)
end
end LW
namespace LW
open PySem PySem.Spec PyProof.Rows L2
section
variable {ps qs : List Int} {n m : Nat} {k : Int}
end
section
variable {K : PySem.W.Frag} {H : Hp} {Q : VK} {E : XK} {a : Addr} {ps : List Int}
end
end LW
namespace LW
open PySem PySem.Spec PyProof.Rows L2
abbrev ASet := Addr → Prop
def nop : ASet := fun _ => False
structure GrP (T : ASet) (H H' : Hp) : Prop where
  keep : ∀ a o, H a = some o → (pers o = true ∨ ¬ T a) → H' a = some o
  live : ∀ a, H' a = none → H a = none
section
variable {T T' U : ASet} {H H' H1 H2 : Hp} {a l p : Addr} {o : HO}
theorem GrP.refl (T : ASet) (H : Hp) : GrP T H H := ⟨fun _ _ h _ => h, fun _ h => h⟩
theorem GrP.mono (g : GrP U H H') (h : ∀ a, U a → T a) : GrP T H H' := ⟨fun a o e q => g.keep a o e (q.imp id fun n u => n (h a u)), g.live⟩
theorem GrP.trans (g : GrP T H H1) (g' : GrP T' H1 H2) (h : ∀ a, T' a → T a ∨ H a = none) : GrP T H H2 :=
  ⟨fun a o e q => g'.keep a o (g.keep a o e q) (q.imp id fun n t => (h a t).elim n fun z => by rw [e] at z; cases z), fun a e => g.live a (g'.live a e)⟩
theorem GrP.trans0 (g : GrP T H H1) (g' : GrP nop H1 H2) : GrP T H H2 := g.trans g' fun _ h => h.elim
theorem GrP.new (h : H p = none) : GrP nop H (upd H p o) := ⟨fun a u e _ => by rw [upd_ne (ne_of_none e h)]; exact e, fun a e => by
  by_cases z : a = p
  · rw [z, upd_same] at e; cases e
  · rw [upd_ne z] at e; exact e⟩
theorem GrP.wr (h : T p) (h2 : ∀ u, H p = some u → pers u = false) : GrP T H (upd H p o) := ⟨fun a u e q => by
  by_cases z : a = p
  · subst z
    rcases q with q | q
    · rw [h2 u e] at q; cases q
    · exact absurd h q
  · rw [upd_ne z]; exact e, fun a e => by
  by_cases z : a = p
  · rw [z, upd_same] at e; cases e
  · rw [upd_ne z] at e; exact e⟩
theorem Gr.p0 (g : Gr [] H H') : GrP nop H H' := ⟨fun a o e _ => g.get0 e, fun a e => by
  cases q : H a with
  | none => rfl
  | some u => rw [g.get0 q] at e; cases e⟩
theorem GrP.g0 (g : GrP nop H H') : Gr [] H H' := ⟨fun a o e _ => g.keep a o e (.inr fun h => h), fun a h => by cases h⟩
theorem Gr.p1 (g : Gr [l] H H') (e : ∃ o, H' l = some o) : GrP (fun a => a = l) H H' := ⟨fun a o e q => by
  rcases q with q | q
  · exact g.get e q
  · exact g.keep a o e (by simpa using q), fun a e' => by
  obtain ⟨o, e⟩ := e
  cases q : H a with
  | none => rfl
  | some u =>
    by_cases z : a = l
    · rw [z, e] at e'; cases e'
    · rw [g.keep a u q (by simpa using z)] at e'; cases e'⟩
end
def TupN (K : PySem.W.Frag) (H : Hp) (a : Addr) (xs : List V) : Prop := TupX H a xs
theorem TupN.sqt {K : PySem.W.Frag} {H : Hp} {a : Addr} {xs : List V} (h : TupN K H a xs) : SqT K H a xs := TupX.sqt h
theorem TupN.ext {K : PySem.W.Frag} {T : ASet} {H H' : Hp} {a : Addr} {xs : List V} (h : TupN K H a xs) (g : GrP T H H') : TupN K H' a xs := by
  obtain ⟨o, h, d⟩ := h
  exact ⟨o, g.keep _ _ h (.inl rfl), d⟩
mutual
inductive RepA (K : PySem.W.Frag) (H : Hp) (S : ASet) : D → V → Prop
  | non : RepA K H S .non .non
  | bl (b : Bool) : RepA K H S (.bl b) (.bl b)
  | int (i : Int) : RepA K H S (.int i) (.int i)
  | str (s : Str) : RepA K H S (.str s) (.str s)
  | adr (a : Addr) : RepA K H S (.adr a) (.ref a)
  | tup {a : Addr} {xs : List V} {ds : List D} : TupN K H a xs → RepsA K H S ds xs → RepA K H S (.tup ds) (.ref a)
  | lst {a : Addr} {xs : List V} {ds : List D} : H a = some (.lst xs) → ¬ S a → RepsA K H S ds xs → RepA K H S (.lst ds) (.ref a)
  | lsf {a : Addr} {o : Obj} {xs : List V} {ds : List D} : H a = some (.frz o (.lst xs)) → RepsA K H S ds xs → RepA K H S (.lst ds) (.ref a)
  | ins {a C dx : Addr} {ns : List Str} {xs : List V} {ds : List D} : H a = some (.ins C dx (ns.zip xs)) → imm ns = true → ns.length = ds.length → RepsA K H S ds xs → RepA K H S (.ins C ns ds) (.ref a)
inductive RepsA (K : PySem.W.Frag) (H : Hp) (S : ASet) : List D → List V → Prop
  | nil : RepsA K H S [] []
  | cons {d : D} {ds : List D} {v : V} {vs : List V} : RepA K H S d v → RepsA K H S ds vs → RepsA K H S (d :: ds) (v :: vs)
end
theorem RepsA.len {K : PySem.W.Frag} {H : Hp} {S : ASet} : ∀ {ds : List D} {vs : List V}, RepsA K H S ds vs → vs.length = ds.length
  | _, _, .nil => rfl
  | _, _, .cons _ r => congrArg Nat.succ (RepsA.len r)
theorem pers_ins {C dx : Addr} {ns : List Str} {xs : List V} (i : imm ns = true) (l : ns.length = xs.length) : pers (.ins C dx (ns.zip xs)) = true := by
  show imm ((ns.zip xs).map (·.1)) = true
  rw [List.map_fst_zip (by omega)]
  exact i
mutual
theorem RepA.ext {K : PySem.W.Frag} {T S S' : ASet} {H H' : Hp} (g : GrP T H H') (hT : ∀ a, T a → S a ∨ H a = none) (hS : ∀ a, S' a → S a ∨ H a = none) : ∀ {d : D} {v : V}, RepA K H S d v → RepA K H' S' d v
  | _, _, .non => .non
  | _, _, .bl b => .bl b
  | _, _, .int b => .int b
  | _, _, .str b => .str b
  | _, _, .adr b => .adr b
  | _, _, .tup h r => .tup (h.ext g) (RepsA.ext g hT hS r)
  | _, _, .lst h n r => .lst (g.keep _ _ h (.inr fun t => (hT _ t).elim n fun z => by rw [h] at z; cases z)) (fun s => (hS _ s).elim n fun z => by rw [h] at z; cases z) (RepsA.ext g hT hS r)
  | _, _, .lsf h r => .lsf (g.keep _ _ h (.inl rfl)) (RepsA.ext g hT hS r)
  | _, _, .ins h i l r => .ins (g.keep _ _ h (.inl (pers_ins i (by have := RepsA.len r; omega)))) i l (RepsA.ext g hT hS r)
theorem RepsA.ext {K : PySem.W.Frag} {T S S' : ASet} {H H' : Hp} (g : GrP T H H') (hT : ∀ a, T a → S a ∨ H a = none) (hS : ∀ a, S' a → S a ∨ H a = none) : ∀ {ds : List D} {vs : List V}, RepsA K H S ds vs → RepsA K H' S' ds vs
  | _, _, .nil => .nil
  | _, _, .cons h r => .cons (RepA.ext g hT hS h) (RepsA.ext g hT hS r)
end
theorem RepA.less {K : PySem.W.Frag} {S S' : ASet} {H : Hp} {d : D} {v : V} (h : RepA K H S d v) (hS : ∀ a, S' a → S a) : RepA K H S' d v := h.ext (GrP.refl nop H) (fun _ z => z.elim) fun a s => .inl (hS a s)
theorem RepsA.less {K : PySem.W.Frag} {S S' : ASet} {H : Hp} {ds : List D} {vs : List V} (h : RepsA K H S ds vs) (hS : ∀ a, S' a → S a) : RepsA K H S' ds vs := h.ext (GrP.refl nop H) (fun _ z => z.elim) fun a s => .inl (hS a s)
mutual
theorem RepA.any {K : PySem.W.Frag} {S S' : ASet} {H : Hp} : ∀ {d : D} {v : V}, RepA K H S d v → d.pure = true → RepA K H S' d v
  | _, _, .non, _ => .non
  | _, _, .bl b, _ => .bl b
  | _, _, .int b, _ => .int b
  | _, _, .str b, _ => .str b
  | _, _, .adr b, _ => .adr b
  | _, _, .tup h r, q => .tup h (RepsA.any r q)
  | _, _, .lst h n r, q => nomatch (show false = true from q)
  | _, _, .lsf h r, q => nomatch (show false = true from q)
  | _, _, .ins h i l r, q => .ins h i l (RepsA.any r q)
theorem RepsA.any {K : PySem.W.Frag} {S S' : ASet} {H : Hp} : ∀ {ds : List D} {vs : List V}, RepsA K H S ds vs → D.pures ds = true → RepsA K H S' ds vs
  | _, _, .nil, _ => .nil
  | _, _, .cons h r, q => by
    have q2 := Bool.and_eq_true_iff.mp q
    exact .cons (RepA.any h q2.1) (RepsA.any r q2.2)
end
mutual
theorem RepA.rep {K : PySem.W.Frag} {S : ASet} {H : Hp} : ∀ {d : D} {v : V}, RepA K H S d v → Rep K H d v
  | _, _, .non => .non
  | _, _, .bl b => .bl b
  | _, _, .int b => .int b
  | _, _, .str b => .str b
  | _, _, .adr b => .adr b
  | _, _, .tup h r => .tup h.sqt (RepsA.rep r)
  | _, _, .lst h _ r => .lst (sql_of h) (RepsA.rep r)
  | _, _, .lsf h r => .lst (sql_frz h) (RepsA.rep r)
  | _, _, .ins h i l r => .ins h i l (RepsA.rep r)
theorem RepsA.rep {K : PySem.W.Frag} {S : ASet} {H : Hp} : ∀ {ds : List D} {vs : List V}, RepsA K H S ds vs → Reps K H ds vs
  | _, _, .nil => .nil
  | _, _, .cons h r => .cons (RepA.rep h) (RepsA.rep r)
end
theorem RepsA.get {K : PySem.W.Frag} {S : ASet} {H : Hp} : ∀ {ds : List D} {vs : List V} {i : Nat} {d : D}, RepsA K H S ds vs → ds[i]? = some d → ∃ v, vs[i]? = some v ∧ RepA K H S d v
  | _, _, _, _, .nil, e => by simp at e
  | _, _, 0, _, .cons h _, e => by
    simp at e
    subst e
    exact ⟨_, rfl, h⟩
  | _, _, i + 1, _, .cons _ r, e => by
    obtain ⟨v, h1, h2⟩ := RepsA.get (i := i) r (by simpa using e)
    exact ⟨v, by simpa using h1, h2⟩
theorem RepsA.append {K : PySem.W.Frag} {S : ASet} {H : Hp} {es : List D} {ws : List V} (h' : RepsA K H S es ws) : ∀ {ds : List D} {vs : List V}, RepsA K H S ds vs → RepsA K H S (ds ++ es) (vs ++ ws)
  | _, _, .nil => h'
  | _, _, .cons h r => .cons h (RepsA.append h' r)
theorem RepsA.set {K : PySem.W.Frag} {S : ASet} {H : Hp} {d : D} {v : V} (h' : RepA K H S d v) : ∀ {ds : List D} {vs : List V} (i : Nat), RepsA K H S ds vs → RepsA K H S (ds.set i d) (vs.set i v)
  | _, _, _, .nil => .nil
  | _, _, 0, .cons _ r => .cons h' r
  | _, _, i + 1, .cons h r => .cons h (RepsA.set h' i r)
theorem RepsA.take {K : PySem.W.Frag} {S : ASet} {H : Hp} : ∀ {ds : List D} {vs : List V} (i : Nat), RepsA K H S ds vs → RepsA K H S (ds.take i) (vs.take i)
  | _, _, 0, _ => .nil
  | _, _, _ + 1, .nil => .nil
  | _, _, i + 1, .cons h r => .cons h (RepsA.take i r)
theorem RepsA.drop {K : PySem.W.Frag} {S : ASet} {H : Hp} : ∀ {ds : List D} {vs : List V} (i : Nat), RepsA K H S ds vs → RepsA K H S (ds.drop i) (vs.drop i)
  | _, _, 0, h => h
  | _, _, _ + 1, .nil => .nil
  | _, _, i + 1, .cons _ r => RepsA.drop i r
theorem RepsA.eraseIdx {K : PySem.W.Frag} {S : ASet} {H : Hp} : ∀ {ds : List D} {vs : List V} (i : Nat), RepsA K H S ds vs → RepsA K H S (ds.eraseIdx i) (vs.eraseIdx i)
  | _, _, _, .nil => .nil
  | _, _, 0, .cons _ r => r
  | _, _, i + 1, .cons h r => .cons h (RepsA.eraseIdx i r)
theorem RepsA.reverse {K : PySem.W.Frag} {S : ASet} {H : Hp} : ∀ {ds : List D} {vs : List V}, RepsA K H S ds vs → RepsA K H S ds.reverse vs.reverse
  | _, _, .nil => .nil
  | _, _, .cons h r => by
    rw [List.reverse_cons, List.reverse_cons]
    exact RepsA.append (.cons h .nil) (RepsA.reverse r)
theorem repsA_ints {K : PySem.W.Frag} {H : Hp} {S : ASet} : ∀ ns : List Int, RepsA K H S (dInts ns) (ns.map V.int)
  | [] => .nil
  | n :: ns => .cons (.int n) (repsA_ints ns)
theorem RepsA.ints {K : PySem.W.Frag} {H : Hp} {S : ASet} : ∀ {ns : List Int} {vs : List V}, RepsA K H S (dInts ns) vs → vs = ns.map V.int
  | [], _, .nil => rfl
  | _ :: _, _, .cons (.int _) r => congrArg _ (RepsA.ints r)
structure Exn where
  C : Addr
  f : Option (Str × D)
def XDict (K : PySem.W.Frag) (H : Hp) (x : Exn) (dd : Option Addr) : Prop := match x.f with
  | none => dd = none
  | some (f, d) => ∃ a v, dd = some a ∧ H a = some (.xd [(f, v)]) ∧ RepA K H (fun _ => True) d v
def XRep (K : PySem.W.Frag) (H : Hp) (x : Exn) (cls : Value) (dd : Option Addr) : Prop := cls = .ref x.C ∧ XDict K H x dd
theorem XDict.ext {K : PySem.W.Frag} {T : ASet} {H H' : Hp} {x : Exn} {dd : Option Addr} (h : XDict K H x dd) (g : GrP T H H') : XDict K H' x dd := by
  unfold XDict at h ⊢
  split at h
  · exact h
  · obtain ⟨a, v, e, h1, h2⟩ := h
    exact ⟨a, v, e, g.keep _ _ h1 (.inl rfl), h2.ext g (fun _ _ => .inl trivial) fun _ _ => .inl trivial⟩
inductive Sl
  | no | va (d : D) | ow (l : Addr) (ds : List D) | ex (a : Addr) (dd : Option Addr) (x : Exn)
def owns : List Sl → List Addr
  | [] => []
  | .ow l _ :: r => l :: owns r
  | .no :: r => owns r
  | .va _ :: r => owns r
  | .ex _ _ _ :: r => owns r
inductive SlsR (K : PySem.W.Frag) (H : Hp) (S : ASet) : List Sl → L2.St → Prop
  | nil : SlsR K H S [] []
  | no {ρ : List Sl} {σ : L2.St} {o : Option V} : SlsR K H S ρ σ → SlsR K H S (.no :: ρ) (o :: σ)
  | va {ρ : List Sl} {σ : L2.St} {d : D} {v : V} : RepA K H S d v → SlsR K H S ρ σ → SlsR K H S (.va d :: ρ) (some v :: σ)
  | ex {ρ : List Sl} {σ : L2.St} {a : Addr} {dd : Option Addr} {x : Exn} : XDict K H x dd → SlsR K H S ρ σ → SlsR K H S (.ex a dd x :: ρ) (some (.ref a) :: σ)
  | ow {ρ : List Sl} {σ : L2.St} {l : Addr} {ds : List D} {xs : List V} : H l = some (.lst xs) → RepsA K H S ds xs → SlsR K H S ρ σ → SlsR K H S (.ow l ds :: ρ) (some (.ref l) :: σ)
section
variable {K : PySem.W.Frag} {H H' : Hp} {S S' T : ASet} {ρ : List Sl} {σ : L2.St} {d : D} {v : V} {l : Addr} {ds : List D} {xs : List V}
theorem SlsR.len : ∀ {ρ : List Sl} {σ : L2.St}, SlsR K H S ρ σ → ρ.length = σ.length
  | _, _, .nil => rfl
  | _, _, .no r => congrArg Nat.succ r.len
  | _, _, .va _ r => congrArg Nat.succ r.len
  | _, _, .ex _ r => congrArg Nat.succ r.len
  | _, _, .ow _ _ r => congrArg Nat.succ r.len
theorem SlsR.get_va : ∀ {ρ : List Sl} {σ : L2.St} {i : Nat}, SlsR K H S ρ σ → ρ[i]? = some (.va d) → ∃ v, σ[i]? = some (some v) ∧ RepA K H S d v
  | _, _, _, .nil, e => by simp at e
  | _, _, 0, .no r, e => by simp at e
  | _, _, 0, .va h r, e => by
    simp at e
    subst e
    exact ⟨_, rfl, h⟩
  | _, _, 0, .ow h _ r, e => by simp at e
  | _, _, i + 1, .no r, e => SlsR.get_va (i := i) r (by simpa using e)
  | _, _, i + 1, .va _ r, e => SlsR.get_va (i := i) r (by simpa using e)
  | _, _, 0, .ex _ r, e => by simp at e
  | _, _, i + 1, .ex _ r, e => SlsR.get_va (i := i) r (by simpa using e)
  | _, _, i + 1, .ow _ _ r, e => SlsR.get_va (i := i) r (by simpa using e)
theorem SlsR.get_ow : ∀ {ρ : List Sl} {σ : L2.St} {i : Nat}, SlsR K H S ρ σ → ρ[i]? = some (.ow l ds) → σ[i]? = some (some (.ref l)) ∧ ∃ xs, H l = some (.lst xs) ∧ RepsA K H S ds xs
  | _, _, _, .nil, e => by simp at e
  | _, _, 0, .no r, e => by simp at e
  | _, _, 0, .va h r, e => by simp at e
  | _, _, 0, .ow h h2 r, e => by
    simp at e
    obtain ⟨e1, e2⟩ := e
    subst e1 e2
    exact ⟨rfl, _, h, h2⟩
  | _, _, i + 1, .no r, e => SlsR.get_ow (i := i) r (by simpa using e)
  | _, _, i + 1, .va _ r, e => SlsR.get_ow (i := i) r (by simpa using e)
  | _, _, 0, .ex _ r, e => by simp at e
  | _, _, i + 1, .ex _ r, e => SlsR.get_ow (i := i) r (by simpa using e)
  | _, _, i + 1, .ow _ _ r, e => SlsR.get_ow (i := i) r (by simpa using e)
theorem SlsR.set_va (h : RepA K H S d v) : ∀ {ρ : List Sl} {σ : L2.St} (i : Nat), SlsR K H S ρ σ → SlsR K H S (ρ.set i (.va d)) (σ.set i (some v))
  | _, _, _, .nil => .nil
  | _, _, 0, .no r => .va h r
  | _, _, 0, .va _ r => .va h r
  | _, _, 0, .ow _ _ r => .va h r
  | _, _, i + 1, .no r => .no (r.set_va h i)
  | _, _, i + 1, .va q r => .va q (r.set_va h i)
  | _, _, 0, .ex _ r => .va h r
  | _, _, i + 1, .ex q r => .ex q (r.set_va h i)
  | _, _, i + 1, .ow q q2 r => .ow q q2 (r.set_va h i)
theorem SlsR.set_no (o : Option V) : ∀ {ρ : List Sl} {σ : L2.St} (i : Nat), SlsR K H S ρ σ → SlsR K H S (ρ.set i .no) (σ.set i o)
  | _, _, _, .nil => .nil
  | _, _, 0, .no r => .no r
  | _, _, 0, .va _ r => .no r
  | _, _, 0, .ow _ _ r => .no r
  | _, _, i + 1, .no r => .no (r.set_no o i)
  | _, _, i + 1, .va q r => .va q (r.set_no o i)
  | _, _, 0, .ex _ r => .no r
  | _, _, i + 1, .ex q r => .ex q (r.set_no o i)
  | _, _, i + 1, .ow q q2 r => .ow q q2 (r.set_no o i)
theorem SlsR.set_ex {x : Exn} {dd : Option Addr} {a : Addr} (h : XDict K H x dd) : ∀ {ρ : List Sl} {σ : L2.St} (i : Nat), SlsR K H S ρ σ → SlsR K H S (ρ.set i (.ex a dd x)) (σ.set i (some (.ref a)))
  | _, _, _, .nil => .nil
  | _, _, 0, .no r => .ex h r
  | _, _, 0, .va _ r => .ex h r
  | _, _, 0, .ex _ r => .ex h r
  | _, _, 0, .ow _ _ r => .ex h r
  | _, _, i + 1, .no r => .no (r.set_ex h i)
  | _, _, i + 1, .va q r => .va q (r.set_ex h i)
  | _, _, i + 1, .ex q r => .ex q (r.set_ex h i)
  | _, _, i + 1, .ow q q2 r => .ow q q2 (r.set_ex h i)
theorem SlsR.get_ex {x : Exn} {dd : Option Addr} {a : Addr} : ∀ {ρ : List Sl} {σ : L2.St} {i : Nat}, SlsR K H S ρ σ → ρ[i]? = some (.ex a dd x) → σ[i]? = some (some (.ref a)) ∧ XDict K H x dd
  | _, _, _, .nil, e => by simp at e
  | _, _, 0, .no r, e => by simp at e
  | _, _, 0, .va h r, e => by simp at e
  | _, _, 0, .ow h _ r, e => by simp at e
  | _, _, 0, .ex h r, e => by
    simp at e
    obtain ⟨e1, e2, e3⟩ := e
    subst e1 e2 e3
    exact ⟨rfl, h⟩
  | _, _, i + 1, .no r, e => SlsR.get_ex (i := i) r (by simpa using e)
  | _, _, i + 1, .va _ r, e => SlsR.get_ex (i := i) r (by simpa using e)
  | _, _, i + 1, .ow _ _ r, e => SlsR.get_ex (i := i) r (by simpa using e)
  | _, _, i + 1, .ex _ r, e => SlsR.get_ex (i := i) r (by simpa using e)
theorem SlsR.set_ow (h : H l = some (.lst xs)) (h2 : RepsA K H S ds xs) : ∀ {ρ : List Sl} {σ : L2.St} (i : Nat), SlsR K H S ρ σ → SlsR K H S (ρ.set i (.ow l ds)) (σ.set i (some (.ref l)))
  | _, _, _, .nil => .nil
  | _, _, 0, .no r => .ow h h2 r
  | _, _, 0, .va _ r => .ow h h2 r
  | _, _, 0, .ow _ _ r => .ow h h2 r
  | _, _, i + 1, .no r => .no (r.set_ow h h2 i)
  | _, _, i + 1, .va q r => .va q (r.set_ow h h2 i)
  | _, _, 0, .ex _ r => .ow h h2 r
  | _, _, i + 1, .ex q r => .ex q (r.set_ow h h2 i)
  | _, _, i + 1, .ow q q2 r => .ow q q2 (r.set_ow h h2 i)
theorem SlsR.ext (g : GrP T H H') (hT : ∀ a, T a → S a ∨ H a = none) (hS : ∀ a, S' a → S a ∨ H a = none) : ∀ {ρ : List Sl} {σ : L2.St}, (∀ l, l ∈ owns ρ → ¬ T l) → SlsR K H S ρ σ → SlsR K H' S' ρ σ
  | _, _, _, .nil => .nil
  | _, _, ho, .no r => .no (r.ext g hT hS ho)
  | _, _, ho, .va q r => .va (q.ext g hT hS) (r.ext g hT hS ho)
  | _, _, ho, .ex q r => .ex (q.ext g) (r.ext g hT hS ho)
  | _, _, ho, .ow q q2 r => .ow (g.keep _ _ q (.inr (ho _ List.mem_cons_self))) (q2.ext g hT hS) (r.ext g hT hS fun l hl => ho l (List.mem_cons_of_mem _ hl))
theorem owns_mem : ∀ {ρ : List Sl} {i : Nat} {ds : List D}, ρ[i]? = some (Sl.ow l ds) → l ∈ owns ρ
  | [], _, _, e => by simp at e
  | .ow _ _ :: _, 0, _, e => by
    simp at e
    rw [← e.1]
    exact List.mem_cons_self
  | .no :: _, 0, _, e => by simp at e
  | .va _ :: _, 0, _, e => by simp at e
  | .ow _ _ :: r, i + 1, _, e => List.mem_cons_of_mem _ (owns_mem (ρ := r) (i := i) (by simpa using e))
  | .no :: r, i + 1, _, e => owns_mem (ρ := r) (i := i) (by simpa using e)
  | .va _ :: r, i + 1, _, e => owns_mem (ρ := r) (i := i) (by simpa using e)
  | .ex _ _ _ :: _, 0, _, e => by simp at e
  | .ex _ _ _ :: r, i + 1, _, e => owns_mem (ρ := r) (i := i) (by simpa using e)
theorem SlsR.wr (h2 : RepsA K H S ds xs) (hS : S l) {i : Nat} {ds0 : List D} (r : SlsR K H S ρ σ) (e : ρ[i]? = some (.ow l ds0)) (n : (owns ρ).Nodup) : SlsR K (upd H l (.lst xs)) S (ρ.set i (.ow l ds)) σ := by
  obtain ⟨-, xs0, e0, -⟩ := r.get_ow e
  have g : GrP (fun a => a = l) H (upd H l (.lst xs)) := GrP.wr rfl fun u hu => by rw [e0] at hu; cases hu; rfl
  have hT : ∀ a, a = l → S a ∨ H a = none := fun a z => by rw [z]; exact .inl hS
  have hS' : ∀ a, S a → S a ∨ H a = none := fun a z => .inl z
  clear e0
  induction r generalizing i with
  | nil => simp at e
  | no r ih =>
    cases i with
    | zero => simp at e
    | succ i => exact .no (ih (by simpa using e) n)
  | va q r ih =>
    cases i with
    | zero => simp at e
    | succ i => exact .va (q.ext g hT hS') (ih (by simpa using e) n)
  | ex q r ih =>
    cases i with
    | zero => simp at e
    | succ i => exact .ex (q.ext g) (ih (by simpa using e) n)
  | ow q q2 r ih =>
    obtain ⟨n1, n2⟩ := List.nodup_cons.mp n
    cases i with
    | zero =>
      simp at e
      obtain ⟨e1, e2⟩ := e
      subst e1
      exact .ow upd_same (h2.ext g hT hS') (r.ext g hT hS' fun b hb z => n1 (z ▸ hb))
    | succ i =>
      have m : l ∈ owns _ := owns_mem (ds := ds0) (i := i) (by simpa using e)
      refine .ow ?_ (q2.ext g hT hS') (ih (by simpa using e) n2)
      rw [upd_ne (fun z => n1 (by rw [z]; exact m))]
      exact q
theorem owns_at : ∀ {ρ : List Sl} {l : Addr}, l ∈ owns ρ → ∃ (i : Nat) (ds : List D), ρ[i]? = some (Sl.ow l ds)
  | [], _, h => by cases h
  | .ow k ds :: r, l, h => by
    rcases List.mem_cons.mp h with z | z
    · exact ⟨0, ds, by rw [z]; rfl⟩
    · obtain ⟨i, ds, e⟩ := owns_at (ρ := r) z
      exact ⟨i + 1, ds, by simpa using e⟩
  | .no :: r, l, h => by
    obtain ⟨i, ds, e⟩ := owns_at (ρ := r) h
    exact ⟨i + 1, ds, by simpa using e⟩
  | .va _ :: r, l, h => by
    obtain ⟨i, ds, e⟩ := owns_at (ρ := r) h
    exact ⟨i + 1, ds, by simpa using e⟩
  | .ex _ _ _ :: r, l, h => by
    obtain ⟨i, ds, e⟩ := owns_at (ρ := r) h
    exact ⟨i + 1, ds, by simpa using e⟩
def Sl.plain : Sl → Bool
  | .ow _ _ => false
  | _ => true
theorem owns_set_sub {s : Sl} (hs : s.plain = true) : ∀ {ρ : List Sl} (i : Nat), (owns (ρ.set i s)).Sublist (owns ρ)
  | [], _ => List.Sublist.refl _
  | .ow k ds :: r, 0 => by
    cases s with
    | ow a b => cases hs
    | no => show (owns r).Sublist (k :: owns r); exact List.sublist_cons_self _ _
    | va d => show (owns r).Sublist (k :: owns r); exact List.sublist_cons_self _ _
    | ex a dd x => show (owns r).Sublist (k :: owns r); exact List.sublist_cons_self _ _
  | .no :: r, 0 => by
    cases s with
    | ow a b => cases hs
    | no => show (owns r).Sublist (owns r); exact List.Sublist.refl _
    | va d => show (owns r).Sublist (owns r); exact List.Sublist.refl _
    | ex a dd x => show (owns r).Sublist (owns r); exact List.Sublist.refl _
  | .va _ :: r, 0 => by
    cases s with
    | ow a b => cases hs
    | no => show (owns r).Sublist (owns r); exact List.Sublist.refl _
    | va d => show (owns r).Sublist (owns r); exact List.Sublist.refl _
    | ex a dd x => show (owns r).Sublist (owns r); exact List.Sublist.refl _
  | .ex _ _ _ :: r, 0 => by
    cases s with
    | ow a b => cases hs
    | no => show (owns r).Sublist (owns r); exact List.Sublist.refl _
    | va d => show (owns r).Sublist (owns r); exact List.Sublist.refl _
    | ex a dd x => show (owns r).Sublist (owns r); exact List.Sublist.refl _
  | .ow k ds :: r, i + 1 => (owns_set_sub hs (ρ := r) i).cons₂ k
  | .no :: r, i + 1 => owns_set_sub hs (ρ := r) i
  | .va _ :: r, i + 1 => owns_set_sub hs (ρ := r) i
  | .ex _ _ _ :: r, i + 1 => owns_set_sub hs (ρ := r) i
theorem owns_set_same {ds' : List D} : ∀ {ρ : List Sl} {i : Nat} {ds : List D}, ρ[i]? = some (Sl.ow l ds) → owns (ρ.set i (.ow l ds')) = owns ρ
  | [], _, _, e => by simp at e
  | .ow k ds :: r, 0, _, e => by
    simp at e
    rw [e.1] <;> rfl
  | .no :: r, 0, _, e => by simp at e
  | .va _ :: r, 0, _, e => by simp at e
  | .ow k ds :: r, i + 1, _, e => congrArg (k :: ·) (owns_set_same (ρ := r) (i := i) (by simpa using e))
  | .no :: r, i + 1, _, e => owns_set_same (ρ := r) (i := i) (by simpa using e)
  | .va _ :: r, i + 1, _, e => owns_set_same (ρ := r) (i := i) (by simpa using e)
  | .ex _ _ _ :: r, 0, _, e => by simp at e
  | .ex _ _ _ :: r, i + 1, _, e => owns_set_same (ρ := r) (i := i) (by simpa using e)
theorem owns_set_mem {ds : List D} : ∀ {ρ : List Sl} {i : Nat} {k : Addr}, k ∈ owns (ρ.set i (.ow l ds)) → k = l ∨ k ∈ owns ρ
  | [], _, _, h => by cases h
  | .ow a _ :: r, 0, k, h => (List.mem_cons.mp h).imp id fun z => List.mem_cons_of_mem _ z
  | .no :: r, 0, k, h => List.mem_cons.mp h
  | .va _ :: r, 0, k, h => List.mem_cons.mp h
  | .ex _ _ _ :: r, 0, k, h => List.mem_cons.mp h
  | .ow a _ :: r, i + 1, k, h => by
    rcases List.mem_cons.mp h with z | z
    · exact .inr (z ▸ List.mem_cons_self)
    · exact (owns_set_mem (ρ := r) (i := i) z).imp id fun z => List.mem_cons_of_mem _ z
  | .no :: r, i + 1, k, h => owns_set_mem (ρ := r) (i := i) h
  | .va _ :: r, i + 1, k, h => owns_set_mem (ρ := r) (i := i) h
  | .ex _ _ _ :: r, i + 1, k, h => owns_set_mem (ρ := r) (i := i) h
theorem owns_set_nodup {ds : List D} : ∀ {ρ : List Sl} {i : Nat}, (owns ρ).Nodup → l ∉ owns ρ → (owns (ρ.set i (.ow l ds))).Nodup
  | [], _, n, _ => n
  | .ow a _ :: r, 0, n, m => List.nodup_cons.mpr ⟨fun h => m (List.mem_cons_of_mem _ h), (List.nodup_cons.mp n).2⟩
  | .no :: r, 0, n, m => List.nodup_cons.mpr ⟨m, n⟩
  | .va _ :: r, 0, n, m => List.nodup_cons.mpr ⟨m, n⟩
  | .ex _ _ _ :: r, 0, n, m => List.nodup_cons.mpr ⟨m, n⟩
  | .ow a _ :: r, i + 1, n, m => by
    refine List.nodup_cons.mpr ⟨fun h => ?_, owns_set_nodup (ρ := r) (i := i) (List.nodup_cons.mp n).2 fun h => m (List.mem_cons_of_mem _ h)⟩
    rcases owns_set_mem (ρ := r) (i := i) h with z | z
    · exact m (z ▸ List.mem_cons_self)
    · exact (List.nodup_cons.mp n).1 z
  | .no :: r, i + 1, n, m => owns_set_nodup (ρ := r) (i := i) n m
  | .va _ :: r, i + 1, n, m => owns_set_nodup (ρ := r) (i := i) n m
  | .ex _ _ _ :: r, i + 1, n, m => owns_set_nodup (ρ := r) (i := i) n m
end
structure Wrl where
  Ω : Type
  inv : Ω → ASet → Hp → Prop
  st : ∀ {ω : Ω} {T U : ASet} {H H' : Hp}, inv ω T H → GrP U H H' → (∀ a, U a → ¬ T a) → inv ω T H'
  lv : ∀ {ω : Ω} {T : ASet} {H : Hp} {a : Addr}, inv ω T H → T a → ∃ o, H a = some o ∧ pers o = false
@[reducible] def W0 : Wrl where
  Ω := Unit
  inv _ T _ := ∀ a, ¬ T a
  st h _ _ := h
  lv h t := absurd t (h _)
structure Frm where
  H : Hp
  S : ASet
  T : ASet
  hid : List (D × V)
def Frm.add (F : Frm) (h : List (D × V)) : Frm := { F with hid := h ++ F.hid }
def Spr (F : Frm) (T : ASet) (ρ : List Sl) : ASet := fun a => F.S a ∨ T a ∨ a ∈ owns ρ
structure Rel (K : PySem.W.Frag) (W : Wrl) (F : Frm) (T : ASet) (ω : W.Ω) (ρ : List Sl) (σ : L2.St) (H : Hp) : Prop where
  gr : GrP F.T F.H H
  inv : W.inv ω T H
  tn : ∀ a, T a → F.T a ∨ F.H a = none
  own : ∀ l, l ∈ owns ρ → F.H l = none ∧ ¬ T l ∧ ¬ F.S l
  nd : (owns ρ).Nodup
  s0 : ∀ a, F.S a → H a ≠ none ∧ ¬ T a
  hd : ∀ p, p ∈ F.hid → RepA K H (Spr F T ρ) p.1 p.2
  sl : SlsR K H (Spr F T ρ) ρ σ
structure Ext (T : ASet) (H : Hp) (T' : ASet) (H' : Hp) : Prop where
  gr : GrP T H H'
  tn : ∀ a, T' a → T a ∨ H a = none
section
variable {K : PySem.W.Frag} {W : Wrl} {F : Frm} {T T' T2 U : ASet} {ω ω' : W.Ω} {ρ ρ' : List Sl} {σ σ' : L2.St} {H H' H2 : Hp} {d : D} {v : V} {l : Addr} {ds : List D} {xs : List V} {i : Nat}
theorem Ext.refl : Ext T H T H := ⟨GrP.refl T H, fun _ h => .inl h⟩
theorem Ext.trans (e : Ext T H T' H') (e2 : Ext T' H' T2 H2) : Ext T H T2 H2 := ⟨e.gr.trans e2.gr e.tn, fun a h => (e2.tn a h).elim (e.tn a) fun z => .inr (e.gr.live a z)⟩
theorem Ext.of0 (g : GrP nop H H') : Ext T H T H' := ⟨g.mono fun _ h => h.elim, fun _ h => .inl h⟩
theorem Rel.spl (R : Rel K W F T ω ρ σ H) : ∀ a, Spr F T ρ a → H a ≠ none := fun a h e => by
  rcases h with h | h | h
  · exact (R.s0 a h).1 e
  · obtain ⟨o, q, _⟩ := W.lv R.inv h
    rw [q] at e; cases e
  · obtain ⟨i, ds, q⟩ := owns_at h
    obtain ⟨_, xs, q, _⟩ := R.sl.get_ow q
    rw [q] at e; cases e
theorem Rel.fresh (R : Rel K W F T ω ρ σ H) (h : H l = none) : ¬ Spr F T ρ l := fun s => R.spl l s h
theorem Spr.ext (e : Ext T H T' H') : ∀ a, Spr F T' ρ a → Spr F T ρ a ∨ H a = none := fun a s => by
  rcases s with s | s | s
  · exact .inl (.inl s)
  · exact (e.tn a s).imp (fun z => .inr (.inl z)) id
  · exact .inl (.inr (.inr s))
theorem Rel.ext_rep (R : Rel K W F T ω ρ σ H) (e : Ext T H T' H') (h : RepA K H (Spr F T ρ) d v) : RepA K H' (Spr F T' ρ) d v := h.ext e.gr (fun a t => .inl (.inr (.inl t))) (Spr.ext e)
theorem Rel.ext_reps (R : Rel K W F T ω ρ σ H) (e : Ext T H T' H') (h : RepsA K H (Spr F T ρ) ds xs) : RepsA K H' (Spr F T' ρ) ds xs := h.ext e.gr (fun a t => .inl (.inr (.inl t))) (Spr.ext e)
theorem Rel.world (R : Rel K W F T ω ρ σ H) (e : Ext T H T' H') (i : W.inv ω' T' H') : Rel K W F T' ω' ρ σ H' where
  gr := R.gr.trans e.gr R.tn
  inv := i
  tn := fun a h => (e.tn a h).elim (R.tn a) fun z => .inr (R.gr.live a z)
  own := fun l h => ⟨(R.own l h).1, fun t => (e.tn l t).elim (R.own l h).2.1 fun z => R.spl l (.inr (.inr h)) z, (R.own l h).2.2⟩
  nd := R.nd
  s0 := fun a s => ⟨fun z => (R.s0 a s).1 (e.gr.live a z), fun t => (e.tn a t).elim (R.s0 a s).2 (R.s0 a s).1⟩
  hd := fun p hp => R.ext_rep e (R.hd p hp)
  sl := R.sl.ext e.gr (fun a t => .inl (.inr (.inl t))) (Spr.ext e) fun l h => (R.own l h).2.1
theorem Rel.grow (R : Rel K W F T ω ρ σ H) (g : GrP nop H H') : Rel K W F T ω ρ σ H' := R.world (Ext.of0 g) (W.st R.inv g fun _ h => h.elim)
theorem Spr.less (hs : (owns ρ').Sublist (owns ρ)) : ∀ a, Spr F T ρ' a → Spr F T ρ a := fun a s => by
  rcases s with s | s | s
  · exact .inl s
  · exact .inr (.inl s)
  · exact .inr (.inr (hs.subset s))
theorem Rel.less (R : Rel K W F T ω ρ σ H) (hs : (owns ρ').Sublist (owns ρ)) (s : SlsR K H (Spr F T ρ') ρ' σ') : Rel K W F T ω ρ' σ' H :=
  ⟨R.gr, R.inv, R.tn, fun l h => R.own l (hs.subset h), R.nd.sublist hs, R.s0, fun p hp => (R.hd p hp).less (Spr.less hs), s⟩
theorem SlsR.less {S S' : ASet} (h : SlsR K H S ρ σ) (hS : ∀ a, S' a → S a) : SlsR K H S' ρ σ := h.ext (GrP.refl nop H) (fun _ z => z.elim) (fun a s => .inl (hS a s)) fun _ _ z => z
theorem Rel.set_va (R : Rel K W F T ω ρ σ H) (h : RepA K H (Spr F T ρ) d v) (i : Nat) : Rel K W F T ω (ρ.set i (.va d)) (σ.set i (some v)) H :=
  R.less (owns_set_sub rfl i) ((R.sl.set_va h i).less (Spr.less (owns_set_sub rfl i)))
theorem Rel.set_no (R : Rel K W F T ω ρ σ H) (o : Option V) (i : Nat) : Rel K W F T ω (ρ.set i .no) (σ.set i o) H :=
  R.less (owns_set_sub rfl i) ((R.sl.set_no o i).less (Spr.less (owns_set_sub rfl i)))
theorem Rel.set_ex (R : Rel K W F T ω ρ σ H) {x : Exn} {dd : Option Addr} {a : Addr} (h : XDict K H x dd) (i : Nat) : Rel K W F T ω (ρ.set i (.ex a dd x)) (σ.set i (some (.ref a))) H :=
  R.less (owns_set_sub rfl i) ((R.sl.set_ex h i).less (Spr.less (owns_set_sub rfl i)))
theorem Rel.drop {h : List (D × V)} (R : Rel K W (F.add h) T ω ρ σ H) : Rel K W F T ω ρ σ H :=
  ⟨R.gr, R.inv, R.tn, R.own, R.nd, R.s0, fun p hp => R.hd p (List.mem_append_right _ hp), R.sl⟩
theorem Rel.put {h : List (D × V)} (R : Rel K W F T ω ρ σ H) (hh : ∀ p, p ∈ h → RepA K H (Spr F T ρ) p.1 p.2) : Rel K W (F.add h) T ω ρ σ H :=
  ⟨R.gr, R.inv, R.tn, R.own, R.nd, R.s0, fun p hp => (List.mem_append.mp hp).elim (hh p) (R.hd p), R.sl⟩
theorem Rel.kept {h : List (D × V)} (R : Rel K W (F.add h) T ω ρ σ H) {p : D × V} (hp : p ∈ h) : RepA K H (Spr F T ρ) p.1 p.2 := R.hd p (List.mem_append_left _ hp)
theorem Rel.set_ow {T0 : ASet} {ω0 : W.Ω} {H0 : Hp} (R0 : Rel K W F T0 ω0 ρ σ H0) (R : Rel K W F T ω ρ σ H) (e : Ext T0 H0 T H) (h0 : H0 l = none) (hs : ¬ Spr F T ρ l) (h : H l = some (.lst xs)) (hr : RepsA K H (fun a => Spr F T ρ a ∨ a = l) ds xs) (i : Nat) : Rel K W F T ω (ρ.set i (.ow l ds)) (σ.set i (some (.ref l))) H := by
  have sub : ∀ a, Spr F T (ρ.set i (.ow l ds)) a → Spr F T ρ a ∨ a = l := fun a s => by
    rcases s with s | s | s
    · exact .inl (.inl s)
    · exact .inl (.inr (.inl s))
    · exact (owns_set_mem s).elim .inr fun z => .inl (.inr (.inr z))
  have ee : ∀ a, (Spr F T ρ a ∨ a = l) → Spr F T0 ρ a ∨ H0 a = none := fun a z => z.elim (Spr.ext e a) fun z => by rw [z]; exact .inr h0
  have sl' : SlsR K H (fun a => Spr F T ρ a ∨ a = l) ρ σ := R0.sl.ext e.gr (fun a t => .inl (.inr (.inl t))) ee fun l h => (R0.own l h).2.1
  refine ⟨R.gr, R.inv, R.tn, fun k hk => ?_, owns_set_nodup R.nd fun z => hs (.inr (.inr z)), R.s0, fun p hp => ?_, (sl'.set_ow h hr i).less sub⟩
  · rcases owns_set_mem hk with z | z
    · rw [z]
      exact ⟨R0.gr.live l h0, fun t => hs (.inr (.inl t)), fun t => hs (.inl t)⟩
    · exact R.own k z
  · exact ((R0.hd p hp).ext e.gr (fun a t => .inl (.inr (.inl t))) ee).less sub
theorem Rel.wr (R : Rel K W F T ω ρ σ H) {ds0 : List D} (e : ρ[i]? = some (.ow l ds0)) (hr : RepsA K H (Spr F T ρ) ds xs) : Rel K W F T ω (ρ.set i (.ow l ds)) σ (upd H l (.lst xs)) := by
  obtain ⟨-, xs0, e0, -⟩ := R.sl.get_ow e
  have m := owns_mem e
  have g : GrP (fun a => a = l) H (upd H l (.lst xs)) := GrP.wr rfl fun u hu => by rw [e0] at hu; cases hu; rfl
  have es : owns (ρ.set i (.ow l ds)) = owns ρ := owns_set_same e
  have eS : Spr F T (ρ.set i (.ow l ds)) = Spr F T ρ := by unfold Spr; rw [es]
  refine ⟨R.gr.trans g fun a z => ?_, W.st R.inv g fun a z => ?_, R.tn, fun k hk => R.own k (es ▸ hk), by rw [es]; exact R.nd, fun a s => ⟨fun z => (R.s0 a s).1 (g.live a z), (R.s0 a s).2⟩, fun p hp => ?_, ?_⟩
  · rw [z]; exact .inr (R.own l m).1
  · rw [z]; exact (R.own l m).2.1
  · rw [eS]
    exact (R.hd p hp).ext g (fun a z => by rw [z]; exact .inl (.inr (.inr m))) fun a z => .inl z
  · rw [eS]
    exact R.sl.wr hr (.inr (.inr m)) e R.nd
theorem Rel.wrS (R : Rel K W F T ω ρ σ H) {o : HO} (hl : F.S l) (h0 : F.H l = none) (hm : ∀ u, H l = some u → pers u = false) : Rel K W F T ω ρ σ (upd H l o) := by
  have g : GrP (fun a => a = l) H (upd H l o) := GrP.wr rfl hm
  refine ⟨R.gr.trans g fun a z => ?_, W.st R.inv g fun a z => ?_, R.tn, R.own, R.nd, fun a s => ⟨fun z => (R.s0 a s).1 (g.live a z), (R.s0 a s).2⟩, fun p hp => ?_, ?_⟩
  · rw [z]; exact .inr h0
  · rw [z]; exact (R.s0 l hl).2
  · exact (R.hd p hp).ext g (fun a z => by rw [z]; exact .inl (.inl hl)) fun a z => .inl z
  · exact R.sl.ext g (fun a z => by rw [z]; exact .inl (.inl hl)) (fun a z => .inl z) fun k hk z => (R.own k hk).2.2 (z ▸ hl)
def frz (ρ : List Sl) (i : Nat) : List Sl := match ρ[i]? with
  | some (.ow _ ds) => ρ.set i (.va (.lst ds))
  | _ => ρ
theorem Rel.frz (R : Rel K W F T ω ρ σ H) (i : Nat) : Rel K W F T ω (frz ρ i) σ H := by
  unfold LW.frz
  split
  · rename_i l ds e
    obtain ⟨hv, xs, h1, r⟩ := R.sl.get_ow e
    have m := owns_mem e
    have key : ∀ {ρ : List Sl} {σ : L2.St} {i : Nat} {S : ASet}, SlsR K H S ρ σ → ρ[i]? = some (.ow l ds) → ¬ Spr F T (ρ.set i (.va (.lst ds))) l → True := fun _ _ _ => trivial
    have hσ : σ.set i (some (.ref l)) = σ := by
      refine List.ext_getElem? fun j => ?_
      rw [List.getElem?_set]
      split
      · rename_i z
        subst z
        rw [hv]
        split
        · rfl
        · rename_i z
          rw [List.getElem?_eq_none (by omega)] at hv
          cases hv
      · rfl
    have sub := owns_set_sub (s := .va (.lst ds)) rfl (ρ := ρ) i
    have nl : l ∉ owns (ρ.set i (.va (.lst ds))) := own_out e R.nd
    have nS : ¬ Spr F T (ρ.set i (.va (.lst ds))) l := fun z => by
      rcases z with z | z | z
      · exact (R.own l m).2.2 z
      · exact (R.own l m).2.1 z
      · exact nl z
    have s1 : SlsR K H (Spr F T (ρ.set i (.va (.lst ds)))) ρ σ := R.sl.less (Spr.less sub)
    have s2 := s1.set_va (d := .lst ds) (v := .ref l) (.lst h1 nS (r.less (Spr.less sub))) i
    rw [hσ] at s2
    exact R.less sub s2
  · exact R
where
  own_out : ∀ {ρ : List Sl} {i : Nat} {l : Addr} {ds : List D}, ρ[i]? = some (Sl.ow l ds) → (owns ρ).Nodup → l ∉ owns (ρ.set i (.va (.lst ds)))
  | [], _, _, _, e, _ => by simp at e
  | .ow k es :: r, 0, _, _, e, n => by
    simp at e
    rw [← e.1]
    exact (List.nodup_cons.mp n).1
  | .no :: r, 0, _, _, e, n => by simp at e
  | .va _ :: r, 0, _, _, e, n => by simp at e
  | .ex _ _ _ :: r, 0, _, _, e, n => by simp at e
  | .ow k es :: r, i + 1, l, ds, e, n => fun h => by
    have e' : r[i]? = some (Sl.ow l ds) := by simpa using e
    rcases List.mem_cons.mp h with z | z
    · exact (List.nodup_cons.mp n).1 (z ▸ owns_mem e')
    · exact own_out e' (List.nodup_cons.mp n).2 z
  | .no :: r, i + 1, l, ds, e, n => own_out (ρ := r) (i := i) (by simpa using e) n
  | .va _ :: r, i + 1, l, ds, e, n => own_out (ρ := r) (i := i) (by simpa using e) n
  | .ex _ _ _ :: r, i + 1, l, ds, e, n => own_out (ρ := r) (i := i) (by simpa using e) n
end
inductive Md
  | A | O | C | F
def RO (K : PySem.W.Frag) (H : Hp) (S : ASet) (os : List Addr) (d : D) (v : V) : Prop := RepA K H S d v ∨ ∃ l xs ds, v = .ref l ∧ d = .lst ds ∧ l ∈ os ∧ H l = some (.lst xs) ∧ RepsA K H S ds xs
def RC (K : PySem.W.Frag) (H : Hp) (S : ASet) (os : List Addr) (d : D) (v : V) : Prop := RO K H S os d v ∨ ∃ a xs ds, v = .ref a ∧ d = .tup ds ∧ SqT K H a xs ∧ RepsA K H S ds xs
def RF (K : PySem.W.Frag) (H H' : Hp) (S : ASet) (d : D) (v : V) : Prop := ∃ l xs ds, v = .ref l ∧ d = .lst ds ∧ H l = none ∧ ¬ S l ∧ H' l = some (.lst xs) ∧ RepsA K H' (fun a => S a ∨ a = l) ds xs
def RR (m : Md) (K : PySem.W.Frag) (H H' : Hp) (S : ASet) (os : List Addr) (d : D) (v : V) : Prop := match m with
  | .A => RepA K H' S d v
  | .O => RO K H' S os d v
  | .C => RC K H' S os d v
  | .F => RF K H H' S d v
section
variable {K : PySem.W.Frag} {W : Wrl} {F : Frm} {T T' T2 U S S' : ASet} {ω ω' : W.Ω} {ρ ρ' : List Sl} {σ σ' : L2.St} {H H' H2 : Hp} {d : D} {v : V} {l : Addr} {ds : List D} {xs : List V} {i : Nat} {os : List Addr}
theorem Rel.ext_RO (R : Rel K W F T ω ρ σ H) (e : Ext T H T' H') (h : RO K H (Spr F T ρ) (owns ρ) d v) : RO K H' (Spr F T' ρ) (owns ρ) d v := by
  rcases h with h | ⟨l, xs, ds, rfl, rfl, m, h, hr⟩
  · exact .inl (R.ext_rep e h)
  · exact .inr ⟨l, xs, ds, rfl, rfl, m, e.gr.keep _ _ h (.inr (R.own l m).2.1), R.ext_reps e hr⟩
theorem sqt_ext {a : Addr} (h : SqT K H a xs) (g : GrP T H H') : SqT K H' a xs := by
  rcases h with (h | ⟨o, h⟩) | h
  · exact .inl (.inl (g.keep _ _ h (.inl rfl)))
  · exact .inl (.inr ⟨o, g.keep _ _ h (.inl rfl)⟩)
  · exact .inr h
theorem Rel.ext_RC (R : Rel K W F T ω ρ σ H) (e : Ext T H T' H') (h : RC K H (Spr F T ρ) (owns ρ) d v) : RC K H' (Spr F T' ρ) (owns ρ) d v := by
  rcases h with h | ⟨a, xs, ds, rfl, rfl, h, hr⟩
  · exact .inl (R.ext_RO e h)
  · exact .inr ⟨a, xs, ds, rfl, rfl, sqt_ext h e.gr, R.ext_reps e hr⟩
theorem RF.a (h : RF K H H' S d v) : RepA K H' S d v := by
  obtain ⟨l, xs, ds, rfl, rfl, _, n, h, r⟩ := h
  exact .lst h n (r.less fun _ z => .inl z)
theorem RO.lst (h : RO K H S os (.lst ds) v) : ∃ l xs, v = .ref l ∧ SqL K H l xs ∧ RepsA K H S ds xs ∧ (H l = some (.lst xs) ∨ ∃ o, H l = some (.frz o (.lst xs))) := by
  rcases h with h | ⟨l, xs, ds', rfl, e, m, h, r⟩
  · cases h with
    | lst h n r => exact ⟨_, _, rfl, sql_of h, r, .inl h⟩
    | lsf h r => exact ⟨_, _, rfl, sql_frz h, r, .inr ⟨_, h⟩⟩
  · cases e
    exact ⟨l, xs, rfl, sql_of h, r, .inl h⟩
theorem RO.tup (h : RO K H S os (.tup ds) v) : ∃ l xs, v = .ref l ∧ TupN K H l xs ∧ RepsA K H S ds xs := by
  rcases h with h | ⟨l, xs, ds', rfl, e, m, h, r⟩
  · cases h with
    | tup h r => exact ⟨_, _, rfl, h, r⟩
  · cases e
theorem RC.tup (h : RC K H S os (.tup ds) v) : ∃ l xs, v = .ref l ∧ SqT K H l xs ∧ RepsA K H S ds xs := by
  rcases h with h | ⟨a, xs, ds', rfl, e, h, r⟩
  · obtain ⟨l, xs, e, h, r⟩ := h.tup
    exact ⟨l, xs, e, h.sqt, r⟩
  · cases e
    exact ⟨a, xs, rfl, h, r⟩
theorem RC.lst (h : RC K H S os (.lst ds) v) : ∃ l xs, v = .ref l ∧ SqL K H l xs ∧ RepsA K H S ds xs ∧ (H l = some (.lst xs) ∨ ∃ o, H l = some (.frz o (.lst xs))) := by
  rcases h with h | ⟨a, xs, ds', rfl, e, h, r⟩
  · exact h.lst
  · cases e
theorem RC.int {n : Int} (h : RC K H S os (.int n) v) : v = .int n := by
  rcases h with (h | ⟨l, xs, ds', rfl, e, m, h, r⟩) | ⟨a, xs, ds', rfl, e, h, r⟩
  · cases h; rfl
  · cases e
  · cases e
theorem RC.bl {n : Bool} (h : RC K H S os (.bl n) v) : v = .bl n := by
  rcases h with (h | ⟨l, xs, ds', rfl, e, m, h, r⟩) | ⟨a, xs, ds', rfl, e, h, r⟩
  · cases h; rfl
  · cases e
  · cases e
theorem RC.str {n : Str} (h : RC K H S os (.str n) v) : v = .str n := by
  rcases h with (h | ⟨l, xs, ds', rfl, e, m, h, r⟩) | ⟨a, xs, ds', rfl, e, h, r⟩
  · cases h; rfl
  · cases e
  · cases e
theorem RC.non (h : RC K H S os .non v) : v = .non := by
  rcases h with (h | ⟨l, xs, ds', rfl, e, m, h, r⟩) | ⟨a, xs, ds', rfl, e, h, r⟩
  · cases h; rfl
  · cases e
  · cases e
theorem RC.rep (h : RC K H S os d v) : Rep K H d v := by
  rcases h with (h | ⟨l, xs, ds', rfl, rfl, m, h, r⟩) | ⟨a, xs, ds', rfl, rfl, h, r⟩
  · exact h.rep
  · exact .lst (sql_of h) r.rep
  · exact .tup h r.rep
theorem RC.isNon (h : RC K H S os d v) : v = .non ↔ d = .non := by
  rcases h with (h | ⟨l, xs, ds', rfl, rfl, m, h, r⟩) | ⟨a, xs, ds', rfl, rfl, h, r⟩
  · cases h <;> simp
  · simp
  · simp
theorem RC.ins {C : Addr} {ns : List Str} (h : RC K H S os (.ins C ns ds) v) : ∃ a dx xs, v = .ref a ∧ H a = some (.ins C dx (ns.zip xs)) ∧ ns.length = ds.length ∧ RepsA K H S ds xs := by
  rcases h with (h | ⟨l, xs, ds', rfl, e, m, h, r⟩) | ⟨a, xs, ds', rfl, e, h, r⟩
  · cases h with
    | ins h i l r => exact ⟨_, _, _, rfl, h, l, r⟩
  · cases e
  · cases e
end
abbrev QT (W : Wrl) := W.Ω → List Sl → (W.Ω → D → Prop) → (W.Ω → Exn → Prop) → Prop
abbrev QTT (W : Wrl) := W.Ω → List Sl → (W.Ω → Bool → Prop) → (W.Ω → Exn → Prop) → Prop
abbrev QTA (W : Wrl) := W.Ω → List Sl → (W.Ω → List D → Prop) → (W.Ω → Exn → Prop) → Prop
def XOk (K : PySem.W.Frag) (W : Wrl) (Wo : WX) (F : Frm) (ρ : List Sl) (σ : L2.St) (Ep : W.Ω → Exn → Prop) : Prop :=
  ∀ T ω x cls dd H, Rel K W F T ω ρ σ H → XRep K H x cls dd → Ep ω x → Wo cls dd σ H
def lfE (m : Md) (K : PySem.W.Frag) (W : Wrl) (Wo : WX) (q : QT W) : TE := fun σ H Q => ∃ (F : Frm) (T : ASet) (ω : W.Ω) (ρ : List Sl) (Qp : W.Ω → D → Prop) (Ep : W.Ω → Exn → Prop), Rel K W F T ω ρ σ H ∧ q ω ρ Qp Ep ∧ XOk K W Wo F ρ σ Ep ∧
  ∀ T' ω' d v H', Rel K W F T' ω' ρ σ H' → Ext T H T' H' → RR m K H H' (Spr F T' ρ) (owns ρ) d v → Qp ω' d → Q v H'
def lfT (K : PySem.W.Frag) (W : Wrl) (Wo : WX) (q : QTT W) : TT := fun σ H Q => ∃ (F : Frm) (T : ASet) (ω : W.Ω) (ρ : List Sl) (Qp : W.Ω → Bool → Prop) (Ep : W.Ω → Exn → Prop), Rel K W F T ω ρ σ H ∧ q ω ρ Qp Ep ∧ XOk K W Wo F ρ σ Ep ∧
  ∀ T' ω' b H', Rel K W F T' ω' ρ σ H' → Ext T H T' H' → Qp ω' b → Q b H'
inductive ROs (m : Md) (K : PySem.W.Frag) (H : Hp) (S : ASet) (os : List Addr) : List D → List V → Prop
  | nil : ROs m K H S os [] []
  | cons {d : D} {ds : List D} {v : V} {vs : List V} : RR m K H H S os d v → ROs m K H S os ds vs → ROs m K H S os (d :: ds) (v :: vs)
def lfA (m : Md) (K : PySem.W.Frag) (W : Wrl) (Wo : WX) (q : QTA W) : TA := fun σ H Q => ∃ (F : Frm) (T : ASet) (ω : W.Ω) (ρ : List Sl) (Qp : W.Ω → List D → Prop) (Ep : W.Ω → Exn → Prop), Rel K W F T ω ρ σ H ∧ q ω ρ Qp Ep ∧ XOk K W Wo F ρ σ Ep ∧
  ∀ T' ω' ds vs H', Rel K W F T' ω' ρ σ H' → Ext T H T' H' → ROs m K H' (Spr F T' ρ) (owns ρ) ds vs → Qp ω' ds → Q vs H'
def QE (X : Cx) (m : Md) (W : Wrl) (Wo : WX) (e : Expr) (q : QT W) : Prop := PE X e (lfE m X.K W Wo q)
def QB (X : Cx) (W : Wrl) (Wo : WX) (e : Expr) (q : QTT W) : Prop := PT X e (lfT X.K W Wo q)
def QA (X : Cx) (m : Md) (W : Wrl) (Wo : WX) (es : List Expr) (q : QTA W) : Prop := PA X es (lfA m X.K W Wo q)
structure PEn (W : Wrl) where
  nx : W.Ω → List Sl → Prop
  rt : W.Ω → D → Prop
  bk : W.Ω → List Sl → Prop := fun _ _ => False
  ct : W.Ω → List Sl → Prop := fun _ _ => False
  ex : W.Ω → Exn → List Sl → Prop := fun _ _ _ => False
abbrev QTS (W : Wrl) := PEn W → W.Ω → List Sl → Prop
def RT (mr : Md) (K : PySem.W.Frag) (F : Frm) (T : ASet) (H : Hp) (d : D) (v : V) : Prop := match mr with
  | .F => RF K F.H H (fun a => F.S a ∨ T a) d v
  | _ => RepA K H (fun a => F.S a ∨ T a) d v
structure Sim (mr : Md) (K : PySem.W.Frag) (W : Wrl) (Wo : WX) (F : Frm) (P : PEn W) (D : Ends) : Prop where
  nx : ∀ T ω ρ σ H, Rel K W F T ω ρ σ H → P.nx ω ρ → D.nx σ H
  bk : ∀ T ω ρ σ H, Rel K W F T ω ρ σ H → P.bk ω ρ → D.bk σ H
  ct : ∀ T ω ρ σ H, Rel K W F T ω ρ σ H → P.ct ω ρ → D.ct σ H
  rt : ∀ T ω ρ σ H d v, Rel K W F T ω ρ σ H → RT mr K F T H d v → P.rt ω d → D.rt v H
  ex : ∀ T ω ρ σ H x cls dd, Rel K W F T ω ρ σ H → XRep K H x cls dd → P.ex ω x ρ → Wo cls dd σ H
def lfS (mr : Md) (K : PySem.W.Frag) (W : Wrl) (Wo : WX) (q : QTS W) : TS := fun D σ H => ∃ (F : Frm) (T : ASet) (ω : W.Ω) (ρ : List Sl) (P : PEn W), Rel K W F T ω ρ σ H ∧ q P ω ρ ∧ Sim mr K W Wo F P D
def QS (X : Cx) (mr : Md) (W : Wrl) (Wo : WX) (st : Stmt) (q : QTS W) : Prop := PS X st (lfS mr X.K W Wo q)
def QSs (X : Cx) (mr : Md) (W : Wrl) (Wo : WX) (st : List Stmt) (q : QTS W) : Prop := PSs X st (lfS mr X.K W Wo q)
theorem PE.imp {X : Cx} {e : Expr} {t t' : TE} (h : PE X e t) (k : ∀ σ H Q, t' σ H Q → t σ H Q) : PE X e t' := ⟨fun pins s σ H Q I q => h.run pins s σ H Q I (k σ H Q q)⟩
theorem PT.imp {X : Cx} {e : Expr} {t t' : TT} (h : PT X e t) (k : ∀ σ H Q, t' σ H Q → t σ H Q) : PT X e t' := ⟨fun pins s σ H Q I q => h.run pins s σ H Q I (k σ H Q q)⟩
theorem PW.imp {X : Cx} {e : Expr} {t t' : TT} (h : PW X e t) (k : ∀ σ H Q, t' σ H Q → t σ H Q) : PW X e t' := ⟨fun wh pins s σ H Q I q => h.run wh pins s σ H Q I (k σ H Q q)⟩
theorem PA.imp {X : Cx} {e : List Expr} {t t' : TA} (h : PA X e t) (k : ∀ σ H Q, t' σ H Q → t σ H Q) : PA X e t' := ⟨fun p pins s σ H Q I q => h.run p pins s σ H Q I (k σ H Q q)⟩
theorem PS.imp {X : Cx} {e : Stmt} {t t' : TS} (h : PS X e t) (k : ∀ D σ H, t' D σ H → t D σ H) : PS X e t' := ⟨fun pins s σ H D I q => h.run pins s σ H D I (k D σ H q)⟩
theorem PSs.imp {X : Cx} {e : List Stmt} {t t' : TS} (h : PSs X e t) (k : ∀ D σ H, t' D σ H → t D σ H) : PSs X e t' := ⟨fun pins s σ H D I q => h.run pins s σ H D I (k D σ H q)⟩
end LW
namespace LW
open PySem PySem.Spec PyProof.Rows L2
section
variable {K : PySem.W.Frag} {W : Wrl} {Wo : WX} {F : Frm} {T T' T2 U S S' : ASet} {ω ω' : W.Ω} {ρ ρ' : List Sl} {σ σ' : L2.St} {H H' H2 : Hp} {d : D} {v : V} {l : Addr} {ds : List D} {xs : List V} {i : Nat} {os : List Addr} {m m1 m2 m3 : Md}
theorem RR.c : ∀ {m : Md}, RR m K H H' S os d v → RC K H' S os d v
  | .A, h => .inl (.inl h)
  | .O, h => .inl h
  | .C, h => h
  | .F, h => .inl (.inl (RF.a h))
def Md.st : Md → Bool
  | .A => true
  | .F => true
  | _ => false
theorem RR.a : ∀ {m : Md}, m.st = true → RR m K H H' S os d v → RepA K H' S d v
  | .A, _, h => h
  | .F, _, h => RF.a h
def Md.ow : Md → Bool
  | .C => false
  | _ => true
theorem RR.o : ∀ {m : Md}, m.ow = true → RR m K H H' S os d v → RO K H' S os d v
  | .A, _, h => .inl h
  | .O, _, h => h
  | .F, _, h => .inl (RF.a h)
def Md.le (m m' : Md) : Bool := match m' with
  | .A => m.st
  | .O => m.ow
  | .C => true
  | .F => match m with
    | .F => true
    | _ => false
theorem RR.up : ∀ {m m' : Md}, m.le m' = true → RR m K H H' S os d v → RR m' K H H' S os d v
  | _, .A, q, h => h.a q
  | _, .O, q, h => h.o q
  | _, .C, _, h => h.c
  | .F, .F, _, h => h
  | .A, .F, q, h => nomatch q
  | .O, .F, q, h => nomatch q
  | .C, .F, q, h => nomatch q
theorem RR.at : ∀ {m : Md}, m ≠ .F → RR m K H H' S os d v → RR m K H' H' S os d v
  | .A, _, h => h
  | .O, _, h => h
  | .C, _, h => h
  | .F, n, h => absurd rfl n
theorem RR.back (g : ∀ a, H' a = none → H a = none) : ∀ {m : Md}, RR m K H' H2 S os d v → RR m K H H2 S os d v
  | .A, h => h
  | .O, h => h
  | .C, h => h
  | .F, ⟨l, xs, ds, h1, h2, h3, h4, h5, h6⟩ => ⟨l, xs, ds, h1, h2, g l h3, h4, h5, h6⟩
def Md.sta : Md → Bool
  | .F => false
  | _ => true
theorem Rel.ext_RR (R : Rel K W F T ω ρ σ H) (e : Ext T H T' H') : ∀ {m : Md}, m.sta = true → RR m K H H (Spr F T ρ) (owns ρ) d v → RR m K H' H' (Spr F T' ρ) (owns ρ) d v
  | .A, _, h => R.ext_rep e h
  | .O, _, h => R.ext_RO e h
  | .C, _, h => R.ext_RC e h
theorem ROs.reps : ∀ {ds : List D} {vs : List V}, ROs .A K H S os ds vs → RepsA K H S ds vs
  | _, _, .nil => .nil
  | _, _, .cons h r => .cons h r.reps
theorem ROs.one (h : ROs m K H S os [d] xs) : ∃ v, xs = [v] ∧ RR m K H H S os d v := by
  cases h with
  | cons h r => cases r; exact ⟨_, rfl, h⟩
theorem ROs.two {e : D} (h : ROs m K H S os [d, e] xs) : ∃ v w, xs = [v, w] ∧ RR m K H H S os d v ∧ RR m K H H S os e w := by
  cases h with
  | cons h r => cases r with
    | cons h2 r => cases r; exact ⟨_, _, rfl, h, h2⟩
theorem ROs.off (hS : ∀ a, S' a → S a) (ho : ∀ l, l ∈ os → ¬ S' l) : ∀ {ds : List D} {vs : List V}, ROs .O K H S os ds vs → RepsA K H S' ds vs
  | _, _, .nil => .nil
  | _, _, .cons h r => .cons (by
    rcases h with h | ⟨l, xs, ds, rfl, rfl, m, h, q⟩
    · exact h.less hS
    · exact .lst h (ho l m) (q.less hS)) (r.off hS ho)
end
section
variable {X : Cx} {W : Wrl} {Wo : WX} {m m1 m2 m3 : Md} {e a b c : Expr} {es : List Expr} {i : Nat} {pos : Pos} {q qa qb qc : QT W} {qs : QTA W} {qt : QTT W}
def slD : Option Sl → Option D
  | some (.va d) => some d
  | some (.ow _ ds) => some (.lst ds)
  | _ => none
def qV (i : Nat) : QT W := fun ω ρ Q _ => ∃ d, slD ρ[i]? = some d ∧ Q ω d
def qVa (i : Nat) : QT W := fun ω ρ Q _ => ∃ d, ρ[i]? = some (.va d) ∧ Q ω d
theorem qe_v (h : PE X e (tVar i)) : QE X .O W Wo e (qV i) := PE.imp h fun σ H Q ⟨F, T, ω, ρ, Qp, Ep, R, ⟨d, hd, q⟩, hx, k⟩ => by
  cases e : ρ[i]? with
  | none => rw [e] at hd; cases hd
  | some s =>
    rw [e] at hd
    cases s with
    | no => cases hd
    | ex a dd x => cases hd
    | va d' =>
      cases hd
      obtain ⟨v, hv, r⟩ := R.sl.get_va e
      exact ⟨v, hv, k T ω _ v H R .refl (.inl r) q⟩
    | ow l ds =>
      cases hd
      obtain ⟨hv, xs, h1, r⟩ := R.sl.get_ow e
      exact ⟨_, hv, k T ω _ _ H R .refl (.inr ⟨l, xs, ds, rfl, rfl, owns_mem e, h1, r⟩) q⟩
theorem qe_va (h : PE X e (tVar i)) : QE X .A W Wo e (qVa i) := PE.imp h fun σ H Q ⟨F, T, ω, ρ, Qp, Ep, R, ⟨d, hd, q⟩, hx, k⟩ => by
  obtain ⟨v, hv, r⟩ := R.sl.get_va hd
  exact ⟨v, hv, k T ω _ v H R .refl r q⟩
def qC (d : D) : QT W := fun ω _ Q _ => Q ω d
theorem qe_c {d : D} {v : V} (h : PE X e (tC v)) (r : ∀ H S, RepA X.K H S d v) : QE X .A W Wo e (qC d) := PE.imp h fun σ H Q ⟨F, T, ω, ρ, Qp, Ep, R, q, hx, k⟩ => k T ω d v H R .refl (r _ _) q
theorem qe_int {n : Int} {j} : QE X .A W Wo (.Constant (.int n) j pos) (qC (.int n)) := qe_c pe_int fun _ _ => .int n
theorem qe_str {n : Str} {j} : QE X .A W Wo (.Constant (.str n) j pos) (qC (.str n)) := qe_c pe_str fun _ _ => .str n
theorem qe_bl {n : Bool} {j} : QE X .A W Wo (.Constant (.bool n) j pos) (qC (.bl n)) := qe_c pe_bl fun _ _ => .bl n
theorem qe_non {j} : QE X .A W Wo (.Constant .none j pos) (qC .non) := qe_c pe_non fun _ _ => .non
def OpP (m : Md) (K : PySem.W.Frag) (r : R2) (f : D → D → (D → Prop) → Prop) : Prop := ∀ (S : ASet) (os : List Addr) (H : Hp) (d e : D) (v w : V) (Q : VK) (Qp : D → Prop), (∀ a, S a → H a ≠ none) → RC K H S os d v → RC K H S os e w → f d e Qp →
  (∀ x u H', GrP nop H H' → RR m K H H' S os x u → Qp x → Q u H') → r v w H Q
def UnP (m : Md) (K : PySem.W.Frag) (r : V → Hp → VK → Prop) (f : D → (D → Prop) → Prop) : Prop := ∀ (S : ASet) (os : List Addr) (H : Hp) (d : D) (v : V) (Q : VK) (Qp : D → Prop), (∀ a, S a → H a ≠ none) → RC K H S os d v → f d Qp →
  (∀ x u H', GrP nop H H' → RR m K H H' S os x u → Qp x → Q u H') → r v H Q
def CaP (ma m : Md) (K : PySem.W.Frag) (r : List V → Hp → VK → Prop) (f : List D → (D → Prop) → Prop) : Prop := ∀ (S : ASet) (os : List Addr) (H : Hp) (ds : List D) (vs : List V) (Q : VK) (Qp : D → Prop), (∀ a, S a → H a ≠ none) → ROs ma K H S os ds vs → f ds Qp →
  (∀ x u H', GrP nop H H' → RR m K H H' S os x u → Qp x → Q u H') → r vs H Q
def qOp (f : D → D → (D → Prop) → Prop) (qa qb : QT W) : QT W := fun ω ρ Q E => qa ω ρ (fun ω1 x => qb ω1 ρ (fun ω2 y => f x y (Q ω2)) E) E
def qUn (f : D → (D → Prop) → Prop) (qa : QT W) : QT W := fun ω ρ Q E => qa ω ρ (fun ω1 x => f x (Q ω1)) E
def qCa (f : List D → (D → Prop) → Prop) (qs : QTA W) : QT W := fun ω ρ Q E => qs ω ρ (fun ω1 xs => f xs (Q ω1)) E
theorem lf_op {K : PySem.W.Frag} {r : R2} {f : D → D → (D → Prop) → Prop} (hp : OpP m K r f) (σ : L2.St) (H : Hp) (Q : VK) (h : lfE m K W Wo (qOp f qa qb) σ H Q) : tOp r (lfE m1 K W Wo qa) (lfE m2 K W Wo qb) σ H Q := by
  obtain ⟨F, T, ω, ρ, Qp, Ep, R, q, hx, k⟩ := h
  refine ⟨F, T, ω, ρ, _, Ep, R, q, hx, fun T1 ω1 d v H1 R1 e1 r1 q1 => ?_⟩
  refine ⟨F, T1, ω1, ρ, _, Ep, R1, q1, hx, fun T2 ω2 e w H2 R2 e2 r2 q2 => ?_⟩
  refine hp _ _ H2 d e v w Q _ R2.spl (R1.ext_RC e2 r1.c) r2.c q2 fun x u H' g rr qq => ?_
  exact k T2 ω2 x u H' (R2.grow g) ((e1.trans e2).trans (Ext.of0 g)) (rr.back fun a z => e1.gr.live a (e2.gr.live a z)) qq
theorem lf_un {K : PySem.W.Frag} {r : V → Hp → VK → Prop} {f : D → (D → Prop) → Prop} (hp : UnP m K r f) (σ : L2.St) (H : Hp) (Q : VK) (h : lfE m K W Wo (qUn f qa) σ H Q) : tUn r (lfE m1 K W Wo qa) σ H Q := by
  obtain ⟨F, T, ω, ρ, Qp, Ep, R, q, hx, k⟩ := h
  refine ⟨F, T, ω, ρ, _, Ep, R, q, hx, fun T1 ω1 d v H1 R1 e1 r1 q1 => ?_⟩
  refine hp _ _ H1 d v Q _ R1.spl r1.c q1 fun x u H' g rr qq => ?_
  exact k T1 ω1 x u H' (R1.grow g) (e1.trans (Ext.of0 g)) (rr.back fun a z => e1.gr.live a z) qq
theorem lf_ca {K : PySem.W.Frag} {ma : Md} {r : List V → Hp → VK → Prop} {f : List D → (D → Prop) → Prop} (hp : CaP ma m K r f) (σ : L2.St) (H : Hp) (Q : VK) (h : lfE m K W Wo (qCa f qs) σ H Q) : tCB r (lfA ma K W Wo qs) σ H Q := by
  obtain ⟨F, T, ω, ρ, Qp, Ep, R, q, hx, k⟩ := h
  refine ⟨F, T, ω, ρ, _, Ep, R, q, hx, fun T1 ω1 ds vs H1 R1 e1 r1 q1 => ?_⟩
  refine hp _ _ H1 ds vs Q _ R1.spl r1 q1 fun x u H' g rr qq => ?_
  exact k T1 ω1 x u H' (R1.grow g) (e1.trans (Ext.of0 g)) (rr.back fun a z => e1.gr.live a z) qq
theorem qe_op {op : Operator} {r : R2} {f : D → D → (D → Prop) → Prop} (ho : OpR X (binaryOp op) r) (hp : OpP m X.K r f) (ha : QE X m1 W Wo a qa) (hb : QE X m2 W Wo b qb) : QE X m W Wo (.BinOp a op b pos) (qOp f qa qb) := PE.imp (pe_op ho ha hb) (lf_op hp)
theorem qe_un {op : UnaryOp} {r : V → Hp → VK → Prop} {f : D → (D → Prop) → Prop} (ho : UnR X (unaryOp op) r) (hp : UnP m X.K r f) (ha : QE X m1 W Wo a qa) : QE X m W Wo (.UnaryOp op a pos) (qUn f qa) := PE.imp (pe_un ho ha) (lf_un hp)
theorem qe_cmp {op : CmpOp} {r : R2} {f : D → D → (D → Prop) → Prop} (ho : OpR X (compareOp op) r) (hp : OpP m X.K r f) (ha : QE X m1 W Wo a qa) (hb : QE X m2 W Wo b qb) (hm : behindInMarks op b = false) : QE X m W Wo (.Compare a [op] [b] pos) (qOp f qa qb) := PE.imp (pe_cmpR ho ha hb hm) (lf_op hp)
theorem qe_ix {r : R2} {f : D → D → (D → Prop) → Prop} (hr : IxR X r) (hp : OpP m X.K r f) (ha : QE X m1 W Wo a qa) (hb : QE X m2 W Wo b qb) (hs : PlainIx b) : QE X m W Wo (.Subscript a b pos) (qOp f qa qb) := PE.imp (pe_ix hr ha hb hs) (lf_op hp)
def fI0 (g : Int → Int → D) : D → D → (D → Prop) → Prop
  | .int i, .int j, Q => Q (g i j)
  | _, _, _ => False
def fI (C : Int → Int → Prop) (g : Int → Int → D) : D → D → (D → Prop) → Prop
  | .int i, .int j, Q => C i j ∧ Q (g i j)
  | _, _, _ => False
theorem fI0_inv {g : Int → Int → D} {d e : D} {Q : D → Prop} (h : fI0 g d e Q) : ∃ i j, d = .int i ∧ e = .int j ∧ Q (g i j) := by
  cases d <;> cases e <;> first | exact ⟨_, _, rfl, rfl, h⟩ | exact h.elim
theorem fI_inv {C : Int → Int → Prop} {g : Int → Int → D} {d e : D} {Q : D → Prop} (h : fI C g d e Q) : ∃ i j, d = .int i ∧ e = .int j ∧ C i j ∧ Q (g i j) := by
  cases d <;> cases e <;> first | exact ⟨_, _, rfl, rfl, h⟩ | exact h.elim
theorem opI0_int {K : PySem.W.Frag} {g : Int → Int → Int} : OpP .A K (rI0 fun i j => .int (g i j)) (fI0 fun i j => .int (g i j)) := fun S os H d e v w Q Qp hS r1 r2 h k => by
  obtain ⟨i, j, rfl, rfl, h⟩ := fI0_inv h
  exact ⟨i, j, r1.int, r2.int, k _ _ H (GrP.refl _ _) (.int _) h⟩
theorem opI0_bl {K : PySem.W.Frag} {g : Int → Int → Bool} : OpP .A K (rI0 fun i j => .bl (g i j)) (fI0 fun i j => .bl (g i j)) := fun S os H d e v w Q Qp hS r1 r2 h k => by
  obtain ⟨i, j, rfl, rfl, h⟩ := fI0_inv h
  exact ⟨i, j, r1.int, r2.int, k _ _ H (GrP.refl _ _) (.bl _) h⟩
theorem opI_int {K : PySem.W.Frag} {C : Int → Int → Prop} {g : Int → Int → Int} : OpP .A K (rI C fun i j => .int (g i j)) (fI C fun i j => .int (g i j)) := fun S os H d e v w Q Qp hS r1 r2 h k => by
  obtain ⟨i, j, rfl, rfl, hc, h⟩ := fI_inv h
  exact ⟨i, j, r1.int, r2.int, hc, k _ _ H (GrP.refl _ _) (.int _) h⟩
def fNeg : D → (D → Prop) → Prop
  | .int i, Q => Q (.int (-i))
  | _, _ => False
theorem un_negP {K : PySem.W.Frag} : UnP .A K (rU fun i => .int (-i)) fNeg := fun S os H d v Q Qp hS r1 h k => by
  cases d <;> first | exact ⟨_, r1.int, k _ _ H (GrP.refl _ _) (.int _) h⟩ | exact h.elim
def fEq : D → D → (D → Prop) → Prop
  | .int i, .int j, Q => Q (.bl (decide (i = j)))
  | .str i, .str j, Q => Q (.bl (decide (i = j)))
  | .bl i, .bl j, Q => Q (.bl (decide (i = j)))
  | .non, .non, Q => Q (.bl true)
  | _, _, _ => False
def fNe : D → D → (D → Prop) → Prop
  | .int i, .int j, Q => Q (.bl (!decide (i = j)))
  | .str i, .str j, Q => Q (.bl (!decide (i = j)))
  | .bl i, .bl j, Q => Q (.bl (!decide (i = j)))
  | .non, .non, Q => Q (.bl false)
  | _, _, _ => False
theorem opEqP {K : PySem.W.Frag} : OpP .A K rEq fEq := fun S os H d e v w Q Qp hS r1 r2 h k => by
  cases d <;> cases e <;> first
    | exact h.elim
    | (rw [r1.non, r2.non]; exact ⟨rfl, k _ _ H (GrP.refl _ _) (.bl _) h⟩)
    | (rw [r1.bl, r2.bl]; exact ⟨rfl, k _ _ H (GrP.refl _ _) (.bl _) (by simpa [fEq] using h)⟩)
    | (rw [r1.int, r2.int]; exact ⟨rfl, k _ _ H (GrP.refl _ _) (.bl _) (by simpa [fEq] using h)⟩)
    | (rw [r1.str, r2.str]; exact ⟨rfl, k _ _ H (GrP.refl _ _) (.bl _) (by simpa [fEq] using h)⟩)
theorem opNeP {K : PySem.W.Frag} : OpP .A K rNe fNe := fun S os H d e v w Q Qp hS r1 r2 h k => by
  cases d <;> cases e <;> first
    | exact h.elim
    | (rw [r1.non, r2.non]; exact ⟨rfl, k _ _ H (GrP.refl _ _) (.bl _) h⟩)
    | (rw [r1.bl, r2.bl]; exact ⟨rfl, k _ _ H (GrP.refl _ _) (.bl _) (by simpa [fNe] using h)⟩)
    | (rw [r1.int, r2.int]; exact ⟨rfl, k _ _ H (GrP.refl _ _) (.bl _) (by simpa [fNe] using h)⟩)
    | (rw [r1.str, r2.str]; exact ⟨rfl, k _ _ H (GrP.refl _ _) (.bl _) (by simpa [fNe] using h)⟩)
def D.isNon : D → Bool
  | .non => true
  | _ => false
def fIsN (neg : Bool) (d e : D) (Q : D → Prop) : Prop := e = .non ∧ Q (.bl (if neg then !d.isNon else d.isNon))
def fSS (C : Str → Str → Prop) (g : Str → Str → D) : D → D → (D → Prop) → Prop
  | .str i, .str j, Q => C i j ∧ Q (g i j)
  | _, _, _ => False
theorem fSS_inv {C : Str → Str → Prop} {g : Str → Str → D} {d e : D} {Q : D → Prop} (h : fSS C g d e Q) : ∃ i j, d = .str i ∧ e = .str j ∧ C i j ∧ Q (g i j) := by
  cases d <;> cases e <;> first | exact ⟨_, _, rfl, rfl, h⟩ | exact h.elim
abbrev fAddS : D → D → (D → Prop) → Prop := fSS (fun i j => i.length + j.length ≤ sizeLine) (fun i j => .str (i ++ j))
theorem opAddSP {K : PySem.W.Frag} : OpP .A K (fun x y H Q => ∃ i j, x = .str i ∧ y = .str j ∧ i.length + j.length ≤ sizeLine ∧ Q (.str (i ++ j)) H) fAddS := fun S os H d e v w Q Qp hS r1 r2 h k => by
  obtain ⟨i, j, rfl, rfl, hc, h⟩ := fSS_inv h
  exact ⟨i, j, r1.str, r2.str, hc, k _ _ H (GrP.refl _ _) (.str _) h⟩
theorem RepsA.atI {K : PySem.W.Frag} {H : Hp} {S : ASet} {ds : List D} {vs : List V} {i : Int} {d : D} (r : RepsA K H S ds vs) (h : L2.atI ds i = some d) : ∃ v, L2.atI vs i = some v ∧ RepA K H S d v := by
  unfold L2.atI at h ⊢
  rw [r.len]
  cases e : ixN ds.length i with
  | none => rw [e] at h; cases h
  | some j =>
    rw [e] at h
    exact r.get (show ds[j]? = some d from h)
def fIxL : D → D → (D → Prop) → Prop
  | .lst ds, .int i, Q => ∃ d, atI ds i = some d ∧ Q d
  | _, _, _ => False
def fIxT : D → D → (D → Prop) → Prop
  | .tup ds, .int i, Q => ∃ d, atI ds i = some d ∧ Q d
  | _, _, _ => False
theorem ixLP {K : PySem.W.Frag} : OpP .A K (rIxL K) fIxL := fun S os H d e v w Q Qp hS r1 r2 h k => by
  cases d <;> cases e <;> first | (exact h.elim) | skip
  obtain ⟨d, ha, h⟩ := h
  obtain ⟨l, xs, rfl, hl, hr, _⟩ := r1.lst
  obtain ⟨u, hu, ru⟩ := hr.atI ha
  exact ⟨l, xs, _, u, rfl, r2.int, hl, hu, k _ _ H (GrP.refl _ _) ru h⟩
theorem ixTP {K : PySem.W.Frag} : OpP .A K (rIxT K) fIxT := fun S os H d e v w Q Qp hS r1 r2 h k => by
  cases d <;> cases e <;> first | (exact h.elim) | skip
  obtain ⟨d, ha, h⟩ := h
  obtain ⟨l, xs, rfl, hl, hr⟩ := r1.tup
  obtain ⟨u, hu, ru⟩ := hr.atI ha
  exact ⟨l, xs, _, u, rfl, r2.int, hl, hu, k _ _ H (GrP.refl _ _) ru h⟩
def fIxS : D → D → (D → Prop) → Prop
  | .str z, .int i, Q => z.length ≤ sizeLine ∧ ∃ c, atI z.cps.toList i = some c ∧ Q (.str ⟨#[c]⟩)
  | _, _, _ => False
theorem ixSP {K : PySem.W.Frag} : OpP .A K rIxS fIxS := fun S os H d e v w Q Qp hS r1 r2 h k => by
  cases d <;> cases e <;> first | (exact h.elim) | skip
  obtain ⟨hz, c, hc, h⟩ := h
  exact ⟨_, _, c, r1.str, r2.int, hz, hc, k _ _ H (GrP.refl _ _) (.str _) h⟩
def D.flat : D → Bool
  | .int _ => true
  | .str _ => true
  | _ => false
def D.same : D → D → Bool
  | .int i, .int j => decide (i = j)
  | .str i, .str j => decide (i = j)
  | _, _ => false
def fIn (neg : Bool) (d e : D) (Q : D → Prop) : Prop := ∃ ds, (e = .lst ds ∨ e = .tup ds) ∧ d.flat = true ∧ ds.all D.flat = true ∧ Q (.bl (if neg then !(ds.any fun x => x.same d) else ds.any fun x => x.same d))
theorem flat_V {K : PySem.W.Frag} {H : Hp} {S : ASet} {d : D} {v : V} (h : d.flat = true) (r : RepA K H S d v) : flatV v = true := by
  cases r <;> first | rfl | (cases h; done)
theorem same_V {K : PySem.W.Frag} {H : Hp} {S : ASet} {d e : D} {v w : V} (h : d.flat = true) (h2 : e.flat = true) (r : RepA K H S d v) (r2 : RepA K H S e w) : eqV v w = d.same e := by
  cases r <;> first | (cases h; done) | (cases r2 <;> first | (cases h2; done) | rfl)
theorem flats_V {K : PySem.W.Frag} {H : Hp} {S : ASet} : ∀ {ds : List D} {vs : List V}, ds.all D.flat = true → RepsA K H S ds vs → vs.all flatV = true
  | _, _, _, .nil => rfl
  | _, _, q, .cons h r => by
    rw [List.all_cons, Bool.and_eq_true] at q ⊢
    exact ⟨flat_V q.1 h, flats_V q.2 r⟩
theorem any_V {K : PySem.W.Frag} {H : Hp} {S : ASet} {e : D} {w : V} (h2 : e.flat = true) (r2 : RepA K H S e w) : ∀ {ds : List D} {vs : List V}, ds.all D.flat = true → RepsA K H S ds vs → inV w vs = ds.any fun x => x.same e
  | _, _, _, .nil => rfl
  | _, _, q, .cons h r => by
    rw [List.all_cons, Bool.and_eq_true] at q
    rw [List.any_cons, ← any_V h2 r2 q.2 r, ← same_V q.1 h2 h r2]
    rfl
theorem RC.flat {K : PySem.W.Frag} {H : Hp} {S : ASet} {os : List Addr} {d : D} {v : V} (h : d.flat = true) (r : RC K H S os d v) : RepA K H S d v := by
  rcases r with (r | ⟨l, xs, ds', rfl, rfl, m, h', r⟩) | ⟨a, xs, ds', rfl, rfl, h', r⟩
  · exact r
  · exact nomatch (show false = true from h)
  · exact nomatch (show false = true from h)
theorem opInP {K : PySem.W.Frag} {neg : Bool} : OpP .A K (rIn K neg) (fIn neg) := fun S os H d e v w Q Qp hS r1 r2 ⟨ds, he, h1, h2, h⟩ k => by
  have ra := r1.flat h1
  have fin : ∀ {p : Addr} {xs : List V}, RepsA K H S ds xs → (SqL K H p xs ∨ SqT K H p xs) → rIn K neg v (.ref p) H Q := fun {p xs} hr hq => by
    refine ⟨p, xs, rfl, hq, flat_V h1 ra, flats_V h2 hr, ?_⟩
    rw [any_V h1 ra h2 hr]
    exact k _ _ H (GrP.refl _ _) (.bl _) h
  rcases he with rfl | rfl
  · obtain ⟨l, xs, rfl, hl, hr, _⟩ := r2.lst
    exact fin hr (.inl hl)
  · obtain ⟨l, xs, rfl, hl, hr⟩ := r2.tup
    exact fin hr (.inr hl)
def fCat : D → D → (D → Prop) → Prop
  | .lst ds, .lst es, Q => ds.length + es.length ≤ 1000000 ∧ Q (.lst (ds ++ es))
  | _, _, _ => False
theorem small6 {n : Nat} (h : n ≤ 1000000) : n ≤ sizeLine := Nat.le_trans h (by decide)
theorem rf_new {K : PySem.W.Frag} {H : Hp} {S : ASet} {l : Addr} {ds : List D} {xs : List V} (hS : ∀ a, S a → H a ≠ none) (hl : H l = none) (r : RepsA K H S ds xs) : RF K H (upd H l (.lst xs)) S (.lst ds) (.ref l) :=
  ⟨l, xs, ds, rfl, rfl, hl, fun s => hS l s hl, upd_same, r.ext (GrP.new hl) (fun _ z => z.elim) fun a z => z.imp id fun z => by rw [z]; exact hl⟩
def qPart : Option (QT W) → W.Ω → List Sl → (W.Ω → Option Int → Prop) → (W.Ω → Exn → Prop) → Prop
  | none => fun ω _ k _ => k ω none
  | some q => fun ω ρ k E => q ω ρ (fun ω' y => ∃ i, y = .int i ∧ k ω' (some i)) E
def qSl (f : D → Option Int → Option Int → (D → Prop) → Prop) (qa : QT W) (lo hi : Option (QT W)) : QT W := fun ω ρ Q E => qa ω ρ (fun ω1 x => qPart lo ω1 ρ (fun ω2 l => qPart hi ω2 ρ (fun ω3 u => f x l u (Q ω3)) E) E) E
def SlP (m : Md) (K : PySem.W.Frag) (r : V → Option Int → Option Int → Hp → VK → Prop) (f : D → Option Int → Option Int → (D → Prop) → Prop) : Prop := ∀ (S : ASet) (os : List Addr) (H : Hp) (d : D) (v : V) (lo hi : Option Int) (Q : VK) (Qp : D → Prop), (∀ a, S a → H a ≠ none) → RC K H S os d v → f d lo hi Qp →
  (∀ x u H', GrP nop H H' → RR m K H H' S os x u → Qp x → Q u H') → r v lo hi H Q
def lfO (K : PySem.W.Frag) (W : Wrl) (Wo : WX) (q : Option (QT W)) : TO := fun σ H Q => ∃ (F : Frm) (T : ASet) (ω : W.Ω) (ρ : List Sl) (Qp : W.Ω → Option Int → Prop) (Ep : W.Ω → Exn → Prop), Rel K W F T ω ρ σ H ∧ qPart q ω ρ Qp Ep ∧ XOk K W Wo F ρ σ Ep ∧
  ∀ T' ω' o H', Rel K W F T' ω' ρ σ H' → Ext T H T' H' → Qp ω' o → Q o H'
def QO (X : Cx) (W : Wrl) (Wo : WX) (e : Option Expr) (q : Option (QT W)) : Prop := PO X e (lfO X.K W Wo q)
theorem PO.imp {X : Cx} {e : Option Expr} {t t' : TO} (h : PO X e t) (k : ∀ σ H Q, t' σ H Q → t σ H Q) : PO X e t' := ⟨fun pins s σ H Q I q => h.run pins s σ H Q I (k σ H Q q)⟩
theorem qo_none : QO X W Wo none none := PO.imp po_none fun σ H Q ⟨F, T, ω, ρ, Qp, Ep, R, q, hx, k⟩ => k T ω none H R .refl q
theorem qo_some (h : QE X m W Wo e q) : QO X W Wo (some e) (some q) := PO.imp (po_some h) fun σ H Q ⟨F, T, ω, ρ, Qp, Ep, R, q, hx, k⟩ =>
  ⟨F, T, ω, ρ, _, Ep, R, q, hx, fun T' ω' d v H' R' e r ⟨i, z, q'⟩ => by subst z; exact ⟨i, r.c.int, k T' ω' _ H' R' e q'⟩⟩
theorem qe_sl {r : V → Option Int → Option Int → Hp → VK → Prop} {f : D → Option Int → Option Int → (D → Prop) → Prop} {lo hi : Option Expr} {ql qh : Option (QT W)} {p2 : Pos} (hr : SlR X r) (hp : SlP m X.K r f) (ha : QE X m1 W Wo a qa) (hl : QO X W Wo lo ql) (hh : QO X W Wo hi qh) :
    QE X m W Wo (.Subscript a (.Slice lo hi none p2) pos) (qSl f qa ql qh) := PE.imp (pe_slice hr ha hl hh) fun σ H Q ⟨F, T, ω, ρ, Qp, Ep, R, q, hx, k⟩ => by
  refine ⟨F, T, ω, ρ, _, Ep, R, q, hx, fun T1 ω1 d v H1 R1 e1 r1 q1 => ?_⟩
  refine ⟨F, T1, ω1, ρ, _, Ep, R1, q1, hx, fun T2 ω2 l H2 R2 e2 q2 => ?_⟩
  refine ⟨F, T2, ω2, ρ, _, Ep, R2, q2, hx, fun T3 ω3 u H3 R3 e3 q3 => ?_⟩
  refine hp _ _ H3 d v l u Q _ R3.spl (R1.ext_RC (e2.trans e3) r1.c) q3 fun x w H' g rr qq => ?_
  exact k T3 ω3 x w H' (R3.grow g) ((e1.trans (e2.trans e3)).trans (Ext.of0 g)) (rr.back fun a z => e1.gr.live a (e2.gr.live a (e3.gr.live a z))) qq
def cutD (xs : List D) (lo hi : Option Int) : List D := (xs.drop (HT.sIx xs.length 0 lo)).take (HT.sIx xs.length xs.length hi - HT.sIx xs.length 0 lo)
theorem RepsA.cut {K : PySem.W.Frag} {H : Hp} {S : ASet} {ds : List D} {vs : List V} {lo hi : Option Int} (r : RepsA K H S ds vs) : RepsA K H S (cutD ds lo hi) (cutV vs lo hi) := by
  unfold cutD cutV
  rw [r.len]
  exact (r.drop _).take _
def fSlL : D → Option Int → Option Int → (D → Prop) → Prop
  | .lst ds, lo, hi, Q => Q (.lst (cutD ds lo hi))
  | _, _, _, _ => False
def fSlT : D → Option Int → Option Int → (D → Prop) → Prop
  | .tup ds, lo, hi, Q => Q (.tup (cutD ds lo hi))
  | _, _, _, _ => False
def fCatT : D → D → (D → Prop) → Prop
  | .tup ds, .tup es, Q => ds.length + es.length ≤ 1000000 ∧ Q (.tup (ds ++ es))
  | _, _, _ => False
def qTe (qa : QT W) : QTT W := fun ω ρ Q E => qa ω ρ (fun ω1 d => ∃ b, d = .bl b ∧ Q ω1 b) E
theorem qb_val (ha : QE X m W Wo a qa) (he : ∀ whole, isTrue a X.env whole = (do let v ← whole; standAt a.pos; holding [v] (truthy v)) := by intro _; rfl) : QB X W Wo a (qTe qa) := PT.imp (pt_val ha he) fun σ H Q ⟨F, T, ω, ρ, Qp, Ep, R, q, hx, k⟩ =>
  ⟨F, T, ω, ρ, _, Ep, R, q, hx, fun T' ω' d v H' R' e r ⟨b, z, q'⟩ => by subst z; exact ⟨b, r.c.bl, k T' ω' b H' R' e q'⟩⟩
theorem qb_cmp {op : CmpOp} {r : R2} {f : D → D → (D → Prop) → Prop} (ho : OpR X (compareOp op) r) (hp : OpP .A X.K r f) (ha : QE X m1 W Wo a qa) (hb : QE X m2 W Wo b qb) (hm : behindInMarks op b = false) : QB X W Wo (.Compare a [op] [b] pos) (qTe (qOp f qa qb)) := PT.imp (pt_cmpR ho ha hb hm) fun σ H Q ⟨F, T, ω, ρ, Qp, Ep, R, q, hx, k⟩ =>
  lf_op hp σ H _ ⟨F, T, ω, ρ, _, Ep, R, q, hx, fun T' ω' d v H' R' e r ⟨b, z, q'⟩ => by subst z; exact ⟨b, (RR.c r).bl, k T' ω' b H' R' e q'⟩⟩
def D.tru : D → (Bool → Prop) → Prop
  | .non, Q => Q false
  | .bl b, Q => Q b
  | .int i, Q => Q (i != 0)
  | .lst ds, Q => Q (!ds.isEmpty)
  | .tup ds, Q => Q (!ds.isEmpty)
  | _, _ => False
def qTru (qa : QT W) : QTT W := fun ω ρ Q E => qa ω ρ (fun ω1 d => d.tru (Q ω1)) E
def qNotT (qt : QTT W) : QTT W := fun ω ρ Q E => qt ω ρ (fun ω1 b => Q ω1 (!b)) E
theorem qb_not (ha : QB X W Wo a qt) : QB X W Wo (.UnaryOp .Not a pos) (qNotT qt) := PT.imp (pt_not ha) fun σ H Q ⟨F, T, ω, ρ, Qp, Ep, R, q, hx, k⟩ =>
  ⟨F, T, ω, ρ, _, Ep, R, q, hx, fun T' ω' b H' R' e q' => k T' ω' (!b) H' R' e q'⟩
def QW (X : Cx) (W : Wrl) (Wo : WX) (e : Expr) (q : QTT W) : Prop := PW X e (lfT X.K W Wo q)
theorem QW.toB (h : QW X W Wo e qt) : QB X W Wo e qt := PW.pt h
def qAndT (qt qu : QTT W) : QTT W := fun ω ρ Q E => qt ω ρ (fun ω1 b => if b = true then qu ω1 ρ Q E else Q ω1 false) E
def qOrT (qt qu : QTT W) : QTT W := fun ω ρ Q E => qt ω ρ (fun ω1 b => if b = true then Q ω1 true else qu ω1 ρ Q E) E
variable {qu : QTT W} {rest : List Expr}
theorem qw_and1 (ha : QB X W Wo a qt) : QW X W Wo (.BoolOp .And [a] pos) qt := pw_and1 ha
theorem qw_or1 (ha : QB X W Wo a qt) : QW X W Wo (.BoolOp .Or [a] pos) qt := pw_or1 ha
theorem qw_and (ha : QB X W Wo a qt) (hb : QW X W Wo (.BoolOp .And (b :: rest) pos) qu) : QW X W Wo (.BoolOp .And (a :: b :: rest) pos) (qAndT qt qu) := PW.imp (pw_and ha hb) fun σ H Q ⟨F, T, ω, ρ, Qp, Ep, R, q, hx, k⟩ =>
  ⟨F, T, ω, ρ, _, Ep, R, q, hx, fun T' ω' b H' R' e q' => by
    cases b with
    | true => exact ⟨F, T', ω', ρ, _, Ep, R', q', hx, fun T2 ω2 b2 H2 R2 e2 q2 => k T2 ω2 b2 H2 R2 (e.trans e2) q2⟩
    | false => exact k T' ω' false H' R' e q'⟩
theorem qw_or (ha : QB X W Wo a qt) (hb : QW X W Wo (.BoolOp .Or (b :: rest) pos) qu) : QW X W Wo (.BoolOp .Or (a :: b :: rest) pos) (qOrT qt qu) := PW.imp (pw_or ha hb) fun σ H Q ⟨F, T, ω, ρ, Qp, Ep, R, q, hx, k⟩ =>
  ⟨F, T, ω, ρ, _, Ep, R, q, hx, fun T' ω' b H' R' e q' => by
    cases b with
    | false => exact ⟨F, T', ω', ρ, _, Ep, R', q', hx, fun T2 ω2 b2 H2 R2 e2 q2 => k T2 ω2 b2 H2 R2 (e.trans e2) q2⟩
    | true => exact k T' ω' true H' R' e q'⟩
def qAndV (qa qb : QT W) : QT W := fun ω ρ Q E => qa ω ρ (fun ω1 d => ∃ b, d = .bl b ∧ if b = true then qb ω1 ρ Q E else Q ω1 (.bl false)) E
def qOrV (qa qb : QT W) : QT W := fun ω ρ Q E => qa ω ρ (fun ω1 d => ∃ b, d = .bl b ∧ if b = true then Q ω1 (.bl true) else qb ω1 ρ Q E) E
def qNotV (qa : QT W) : QT W := fun ω ρ Q E => qa ω ρ (fun ω1 d => ∃ b, d = .bl b ∧ Q ω1 (.bl (!b))) E
def qChain (f g : D → D → (D → Prop) → Prop) (qa qb qc : QT W) : QT W := fun ω ρ Q E => qa ω ρ (fun ω1 x => qb ω1 ρ (fun ω2 y => f x y fun z => ∃ b, z = .bl b ∧ if b = true then qc ω2 ρ (fun ω3 w => g y w (Q ω3)) E else Q ω2 (.bl false)) E) E
theorem lf_chain {K : PySem.W.Frag} {r r' : R2} {f g : D → D → (D → Prop) → Prop} (hp : OpP .A K r f) (hp' : OpP .A K r' g) (σ : L2.St) (H : Hp) (Q : VK) (h : lfE .A K W Wo (qChain f g qa qb qc) σ H Q) : tChain r r' (lfE m1 K W Wo qa) (lfE m2 K W Wo qb) (lfE m3 K W Wo qc) σ H Q := by
  obtain ⟨F, T, ω, ρ, Qp, Ep, R, q, hx, k⟩ := h
  refine ⟨F, T, ω, ρ, _, Ep, R, q, hx, fun T1 ω1 d v H1 R1 e1 r1 q1 => ?_⟩
  refine ⟨F, T1, ω1, ρ, _, Ep, R1, q1, hx, fun T2 ω2 e w H2 R2 e2 r2 q2 => ?_⟩
  refine hp _ _ H2 d e v w _ _ R2.spl (R1.ext_RC e2 r1.c) r2.c q2 fun x u H3 g3 rr ⟨b, z, qq⟩ => ?_
  subst z
  refine ⟨b, (RR.c (m := .A) rr).bl, ?_⟩
  have R3 := R2.grow g3
  have e3 := (e1.trans e2).trans (Ext.of0 (T := T2) g3)
  cases b with
  | false => exact k T2 ω2 _ _ H3 R3 e3 (.bl false) qq
  | true =>
    refine ⟨F, T2, ω2, ρ, _, Ep, R3, qq, hx, fun T4 ω4 e' w' H4 R4 e4 r4 q4 => ?_⟩
    refine hp' _ _ H4 _ e' _ w' _ _ R4.spl (R3.ext_RC e4 (R2.ext_RC (Ext.of0 g3) r2.c)) r4.c q4 fun x' u' H5 g5 rr' qq' => ?_
    exact k T4 ω4 x' u' H5 (R4.grow g5) ((e3.trans e4).trans (Ext.of0 g5)) rr' qq'
theorem qb_chain {op op' : CmpOp} {r r' : R2} {f g : D → D → (D → Prop) → Prop} (ho : OpR X (compareOp op) r) (ho' : OpR X (compareOp op') r') (hp : OpP .A X.K r f) (hp' : OpP .A X.K r' g) (ha : QE X m1 W Wo a qa) (hb : QE X m2 W Wo b qb) (hc : QE X m3 W Wo c qc) (hm : lastMarks [op, op'] [b, c] = false := by with_unfolding_all rfl) :
    QB X W Wo (.Compare a [op, op'] [b, c] pos) (qTe (qChain f g qa qb qc)) := PT.imp (pt_chain ho ho' ha hb hc hm) fun σ H Q ⟨F, T, ω, ρ, Qp, Ep, R, q, hx, k⟩ =>
  lf_chain hp hp' σ H _ ⟨F, T, ω, ρ, _, Ep, R, q, hx, fun T' ω' d v H' R' e r ⟨b, z, q'⟩ => by subst z; exact ⟨b, (RR.c r).bl, k T' ω' b H' R' e q'⟩⟩
def qIfE (qt : QTT W) (qa qb : QT W) : QT W := fun ω ρ Q E => qt ω ρ (fun ω1 b => if b = true then qa ω1 ρ Q E else qb ω1 ρ Q E) E
theorem qe_ifE (ht : QB X W Wo c qt) (ha : QE X m1 W Wo a qa) (hb : QE X m2 W Wo b qb) (l1 : m1.le m = true := by rfl) (l2 : m2.le m = true := by rfl) : QE X m W Wo (.IfExp c a b pos) (qIfE qt qa qb) := PE.imp (pe_ifExp ht ha hb) fun σ H Q ⟨F, T, ω, ρ, Qp, Ep, R, q, hx, k⟩ =>
  ⟨F, T, ω, ρ, _, Ep, R, q, hx, fun T' ω' b H' R' e q' => by
    cases b with
    | true => exact ⟨F, T', ω', ρ, _, Ep, R', q', hx, fun T2 ω2 b2 v2 H2 R2 e2 r2 q2 => k T2 ω2 b2 v2 H2 R2 (e.trans e2) ((r2.up l1).back e.gr.live) q2⟩
    | false => exact ⟨F, T', ω', ρ, _, Ep, R', q', hx, fun T2 ω2 b2 v2 H2 R2 e2 r2 q2 => k T2 ω2 b2 v2 H2 R2 (e.trans e2) ((r2.up l2).back e.gr.live) q2⟩⟩
def qNil : QTA W := fun ω _ Q _ => Q ω []
def qCons (qa : QT W) (qs : QTA W) : QTA W := fun ω ρ Q E => qa ω ρ (fun ω1 d => qs ω1 ρ (fun ω2 ds => Q ω2 (d :: ds)) E) E
theorem qa_nil : QA X m W Wo [] qNil := PA.imp pa_nil fun σ H Q ⟨F, T, ω, ρ, Qp, Ep, R, q, hx, k⟩ => k T ω [] [] H R .refl .nil q
theorem qa_cons (ha : QE X m1 W Wo e qa) (hr : QA X m W Wo es qs) (hm : m.sta = true := by rfl) (l : m1.le m = true := by rfl) (hs : starEach (e :: es) X.env = (false, eval e X.env) :: starEach es X.env := by rfl) : QA X m W Wo (e :: es) (qCons qa qs) := PA.imp (pa_cons ha hr hs) fun σ H Q ⟨F, T, ω, ρ, Qp, Ep, R, q, hx, k⟩ =>
  ⟨F, T, ω, ρ, _, Ep, R, q, hx, fun T1 ω1 d v H1 R1 e1 r1 q1 => ⟨F, T1, ω1, ρ, _, Ep, R1, q1, hx, fun T2 ω2 ds vs H2 R2 e2 r2 q2 =>
    k T2 ω2 (d :: ds) (v :: vs) H2 R2 (e1.trans e2) (.cons (R1.ext_RR e2 hm ((r1.up l).at (by intro z; subst z; cases hm))) r2) q2⟩⟩
def qStar (qa : QT W) (qs : QTA W) : QTA W := fun ω ρ Q E => qa ω ρ (fun ω1 d => ∃ ds, (d = .lst ds ∨ d = .tup ds) ∧ qs ω1 ρ (fun ω2 es => Q ω2 (ds ++ es)) E) E
theorem ROs.of {K : PySem.W.Frag} {H : Hp} {S : ASet} {os : List Addr} {m : Md} (h : ∀ d v, RepA K H S d v → RR m K H H S os d v) : ∀ {ds : List D} {vs : List V}, RepsA K H S ds vs → ROs m K H S os ds vs
  | _, _, .nil => .nil
  | _, _, .cons q r => .cons (h _ _ q) (ROs.of h r)
theorem ROs.append {K : PySem.W.Frag} {H : Hp} {S : ASet} {os : List Addr} {m : Md} {es : List D} {ws : List V} (h' : ROs m K H S os es ws) : ∀ {ds : List D} {vs : List V}, ROs m K H S os ds vs → ROs m K H S os (ds ++ es) (vs ++ ws)
  | _, _, .nil => h'
  | _, _, .cons h r => .cons h (ROs.append h' r)
def fLst (ds : List D) (Q : D → Prop) : Prop := ds.length ≤ 1000000 ∧ Q (.lst ds)
def fTup (ds : List D) (Q : D → Prop) : Prop := ds.length ≤ 1000000 ∧ Q (.tup ds)
theorem lstP {K : PySem.W.Frag} : CaP .A .F K rNewL fLst := fun S os H ds vs Q Qp hS r ⟨hl, h⟩ k => by
  have r := r.reps
  exact ⟨by rw [r.len]; exact small6 hl, fun p hp => k _ _ _ (GrP.new hp) (rf_new hS hp r) h⟩
theorem qe_lst (h : QA X .A W Wo es qs) : QE X .F W Wo (.List es pos) (qCa fLst qs) := PE.imp (pe_lstN h) (lf_ca lstP)
def rNewX : List V → Hp → VK → Prop := fun xs H Q => xs.length ≤ sizeLine ∧ ∀ p o, H p = none → o.dict = none → Q (.ref p) (upd H p (.frz o (.tup xs)))
theorem pe_tupX {X : Cx} {es : List Expr} {t : TA} {pos : Pos} {k : Nat} (h : PA X es t) : PE X (.Tuple es k pos) (tCB rNewX t) := by
  refine ⟨fun pins s σ H Q I hq => ?_⟩
  refine wpAny_Tuple_spliced (thn (h.run pos pins s σ H _ I hq) fun us s1 ⟨xs, H1, I1, r, z, q⟩ => ⟨by rw [← r.length]; exact z, ?_⟩)
  have hf : H1 s1.heap.objs.size = none := I1.hok.fresh (Nat.le_refl _)
  have hg : (s1.heap.push { cls := .type "tuple", data := .seq us.toArray }).get? s1.heap.objs.size = some { cls := .type "tuple", data := .seq us.toArray } := Heap.get?_push_size _ rfl
  refine ⟨.ref s1.heap.objs.size, upd H1 s1.heap.objs.size (.frz { cls := .type "tuple", data := .seq us.toArray } (.tup xs)), I1.laid (t' := s1.toks) (fun b u e => Heap.get?_push_of_some _ e) (Nat.le_refl _) ?_, rfl, q _ _ hf rfl⟩
  exact ⟨hg, z, us, r, ⟨_, hg, rfl, _, rfl⟩⟩
theorem tupP {K : PySem.W.Frag} : CaP .A .A K rNewX fTup := fun S os H ds vs Q Qp hS r ⟨hl, h⟩ k => by
  have r := r.reps
  exact ⟨by rw [r.len]; exact small6 hl, fun p o hp ho => k _ _ _ (GrP.new hp) (.tup ⟨o, upd_same, ho⟩ (r.ext (GrP.new hp) (fun _ z => z.elim) fun a z => .inl z)) h⟩
theorem qe_tup {n : Nat} (h : QA X .A W Wo es qs) : QE X .A W Wo (.Tuple es n pos) (qCa fTup qs) := PE.imp (pe_tupX h) (lf_ca tupP)
end
end LW
namespace LW
open PySem PySem.Spec PyProof.Rows L2
section
variable {X : Cx} {W : Wrl} {Wo : WX} {m m1 m2 m3 : Md} {e a b c : Expr} {es : List Expr} {i : Nat} {pos : Pos} {q qa qb qc : QT W} {qs : QTA W} {qt : QTT W}
theorem qe_cB {ma : Md} {r : List V → Hp → VK → Prop} {f : List D → (D → Prop) → Prop} {x : Str} {id : String} {p : Pos} (hc : CallR X (.builtin id) r) (hp : CaP ma m X.K r f) (hg : Gl X x) (hm : X.mg x = none) (hv : bootBuiltins x = some (.builtin id)) (ha : QA X ma W Wo (e :: es) qs)
    (hn : x ≠ "__name__" := by decide) (hdb : (x == ("__debug__" : Str)) = false := by decide) (h1 : starEach (e :: es) X.env = (false, eval e X.env) :: starEach es X.env := by rfl) (h2 : (backTo pos (starEach es X.env)).any (·.1) = false := by rfl) :
    QE X m W Wo (.Call (.Name x p) (e :: es) [] pos) (qCa f qs) := PE.imp (pe_callB hc hg hm hv ha hn hdb h1 h2) (lf_ca hp)
theorem qe_cT {ma : Md} {r : List V → Hp → VK → Prop} {f : List D → (D → Prop) → Prop} {x : Str} {T : String} {p : Pos} (hc : CallR X (.type T) r) (hp : CaP ma m X.K r f) (hg : Gl X x) (hm : X.mg x = none) (hv : bootBuiltins x = some (.type T)) (ha : QA X ma W Wo (e :: es) qs)
    (hn : x ≠ "__name__" := by decide) (hdb : (x == ("__debug__" : Str)) = false := by decide) (h1 : starEach (e :: es) X.env = (false, eval e X.env) :: starEach es X.env := by rfl) (h2 : (backTo pos (starEach es X.env)).any (·.1) = false := by rfl) :
    QE X m W Wo (.Call (.Name x p) (e :: es) [] pos) (qCa f qs) := PE.imp (pe_callTy hc hg hm hv ha hn hdb h1 h2) (lf_ca hp)
def fLen : List D → (D → Prop) → Prop
  | [.lst ds], Q => Q (.int ds.length)
  | [.tup ds], Q => Q (.int ds.length)
  | _, _ => False
theorem lenP {K : PySem.W.Frag} : CaP .C .A K (rLenA K) fLen := fun S os H ds vs Q Qp hS r h k => by
  unfold fLen at h
  split at h
  · obtain ⟨v, rfl, rv⟩ := r.one
    obtain ⟨l, xs, rfl, hl, hr, _⟩ := rv.c.lst
    rw [← hr.len] at h
    exact ⟨l, xs, rfl, .inl hl, k _ _ H (GrP.refl _ _) (.int _) h⟩
  · obtain ⟨v, rfl, rv⟩ := r.one
    obtain ⟨l, xs, rfl, hl, hr⟩ := rv.c.tup
    rw [← hr.len] at h
    exact ⟨l, xs, rfl, .inr hl, k _ _ H (GrP.refl _ _) (.int _) h⟩
  · exact h.elim
def fLenS : List D → (D → Prop) → Prop
  | [.str z], Q => z.length ≤ sizeLine ∧ Q (.int z.length)
  | _, _ => False
def rLenS : List V → Hp → VK → Prop := fun xs H Q => ∃ z, xs = [.str z] ∧ z.length ≤ sizeLine ∧ Q (.int z.length) H
theorem cr_lenS {X : Cx} : CallR X (.builtin "len") rLenS := call_len_str
theorem lenSP {K : PySem.W.Frag} : CaP .C .A K rLenS fLenS := fun S os H ds vs Q Qp hS r h k => by
  unfold fLenS at h
  split at h
  · obtain ⟨v, rfl, rv⟩ := r.one
    rw [rv.c.str]
    exact ⟨_, rfl, h.1, k _ _ H (GrP.refl _ _) (.int _) h.2⟩
  · exact h.elim
def fList : List D → (D → Prop) → Prop
  | [.lst ds], Q => Q (.lst ds)
  | [.tup ds], Q => Q (.lst ds)
  | _, _ => False
theorem listP {K : PySem.W.Frag} : CaP .C .F K (rListOf K) fList := fun S os H ds vs Q Qp hS r h k => by
  unfold fList at h
  split at h
  · obtain ⟨v, rfl, rv⟩ := r.one
    obtain ⟨l, xs, rfl, hl, hr, _⟩ := rv.c.lst
    exact ⟨l, xs, rfl, .inl hl, fun p hp => k _ _ _ (GrP.new hp) (rf_new hS hp hr) h⟩
  · obtain ⟨v, rfl, rv⟩ := r.one
    obtain ⟨l, xs, rfl, hl, hr⟩ := rv.c.tup
    exact ⟨l, xs, rfl, .inr hl, fun p hp => k _ _ _ (GrP.new hp) (rf_new hS hp hr) h⟩
  · exact h.elim
def fTuple : List D → (D → Prop) → Prop
  | [.lst ds], Q => Q (.tup ds)
  | [.tup ds], Q => Q (.tup ds)
  | _, _ => False
theorem ra_tup {K : PySem.W.Frag} {H : Hp} {S : ASet} {p : Addr} {o : Obj} {xs : List V} {ds : List D} (hp : H p = none) (ho : o.dict = none) (r : RepsA K H S ds xs) : RepA K (upd H p (.frz o (.tup xs))) S (.tup ds) (.ref p) :=
  .tup ⟨o, upd_same, ho⟩ (r.ext (GrP.new hp) (fun _ z => z.elim) fun a z => .inl z)
theorem tupleP {K : PySem.W.Frag} : CaP .O .A K (rTupleOf K) fTuple := fun S os H ds vs Q Qp hS r h k => by
  unfold fTuple at h
  split at h
  · obtain ⟨v, rfl, rv⟩ := r.one
    obtain ⟨l, xs, rfl, hl, hr, _⟩ := RO.lst rv
    exact ⟨l, xs, rfl, .inl ⟨hl, fun p o hp ho => k _ _ _ (GrP.new hp) (ra_tup hp ho hr) h⟩⟩
  · obtain ⟨v, rfl, rv⟩ := r.one
    obtain ⟨l, xs, rfl, hl, hr⟩ := RO.tup rv
    exact ⟨l, xs, rfl, .inr ⟨hl.sqt, k _ _ H (GrP.refl _ _) (.tup hl hr) h⟩⟩
  · exact h.elim
def fAbs : List D → (D → Prop) → Prop
  | [.int i], Q => Q (.int (if i < 0 then -i else i))
  | _, _ => False
def fInt : List D → (D → Prop) → Prop
  | [.int i], Q => Q (.int i)
  | [.bl b], Q => Q (.int (if b then 1 else 0))
  | _, _ => False
def fMax (ds : List D) (Q : D → Prop) : Prop := ∃ ns : List Int, ds = [.lst (dInts ns)] ∧ 0 < ns.length ∧ ∀ m, m ∈ ns → (∀ y, y ∈ ns → y ≤ m) → Q (.int m)
theorem maxP {K : PySem.W.Frag} : CaP .C .A K (rMax K) fMax := fun S os H ds vs Q Qp hS r ⟨ns, e, h0, h⟩ k => by
  subst e
  obtain ⟨v, rfl, rv⟩ := r.one
  obtain ⟨l, xs, rfl, hl, hr, _⟩ := rv.c.lst
  rw [hr.ints] at hl
  exact ⟨l, ns, rfl, hl, h0, fun m h1 h2 => k _ _ H (GrP.refl _ _) (.int _) (h m h1 h2)⟩
def rgI (a b : Int) : List Int := (List.range (b - a).toNat).map fun (i : Nat) => a + (i : Int)
theorem rgI_rg (n : Nat) : rgI 0 n = rg n := by
  unfold rgI rg
  rw [show ((n : Int) - 0).toNat = n by omega]
  exact List.map_congr_left fun i _ => Int.zero_add _
def qRg1 (qa : QT W) : W.Ω → List Sl → (W.Ω → Int → Int → Prop) → (W.Ω → Exn → Prop) → Prop := fun ω ρ k E => qa ω ρ (fun ω1 x => ∃ n, x = .int n ∧ k ω1 0 n) E
def qRg2 (qa qb : QT W) : W.Ω → List Sl → (W.Ω → Int → Int → Prop) → (W.Ω → Exn → Prop) → Prop := fun ω ρ k E => qa ω ρ (fun ω1 x => qb ω1 ρ (fun ω2 y => ∃ n k', x = .int n ∧ y = .int k' ∧ k ω2 n k') E) E
abbrev QTR (W : Wrl) := W.Ω → List Sl → (W.Ω → Int → Int → Prop) → (W.Ω → Exn → Prop) → Prop
def qListRg (qr : QTR W) : QT W := fun ω ρ Q E => qr ω ρ (fun ω1 i j => RgOk i j ∧ Q ω1 (.lst (dInts (rgI i j)))) E
def qTupRg (qr : QTR W) : QT W := fun ω ρ Q E => qr ω ρ (fun ω1 i j => RgOk i j ∧ Q ω1 (.tup (dInts (rgI i j)))) E
theorem PRg.imp {X : Cx} {e : Expr} {t t' : L2.St → Hp → (Int → Int → Hp → Prop) → Prop} (h : PRg X e t) (k : ∀ σ H Q, t' σ H Q → t σ H Q) : PRg X e t' := fun pins s σ H Q I q => h pins s σ H Q I (k σ H Q q)
end
abbrev PSp (W : Wrl) := W.Ω → List D → (W.Ω → D → Prop) → (W.Ω → Exn → Prop) → Prop
def spM (mr : Md) (K : PySem.W.Frag) (W : Wrl) (pf : PSp W) : Sp := fun vs H Q E => ∃ (S T : ASet) (ω : W.Ω) (ds : List D) (Qp : W.Ω → D → Prop) (Ep : W.Ω → Exn → Prop), (∀ a, S a → H a ≠ none ∧ ¬ T a) ∧ W.inv ω T H ∧ RepsA K H (fun a => S a ∨ T a) ds vs ∧ pf ω ds Qp Ep ∧
  (∀ T' ω' d v H', Ext T H T' H' → W.inv ω' T' H' → RT mr K ⟨H, S, T, []⟩ T' H' d v → Qp ω' d → Q v H') ∧ ∀ T' ω' x cls dd H', Ext T H T' H' → W.inv ω' T' H' → XRep K H' x cls dd → Ep ω' x → E cls dd H'
def inW (W : Wrl) (pf : PSp W0) : PSp W := fun ω ds Q E => pf () ds (fun _ d => Q ω d) fun _ x => E ω x
def pureP {W : Wrl} (pf : PSp W) : PSp W := fun ω ds Q E => pf ω ds (fun ω' d => d.pure = true ∧ Q ω' d) E
section
variable {K : PySem.W.Frag} {W : Wrl} {Wo : WX} {mr m : Md} {pf : PSp W} {qs : QTA W}
theorem spM_inW {pf : PSp W0} {vs : List V} {H : Hp} {Q : VK} {E : XK} (h : spM mr K W (inW W pf) vs H Q E) : spM mr K W0 pf vs H Q E := by
  obtain ⟨S, T, ω, ds, Qp, Ep, hS, hi, r, q, k, kx⟩ := h
  refine ⟨fun a => S a ∨ T a, nop, (), ds, _, _, fun a z => ⟨fun e => ?_, fun z => z⟩, fun a z => z, r.less fun a z => z.elim id fun z => z.elim, q, fun T' ω' d v H' e i' rt q' => ?_, fun T' ω' x cls dd H' e i' xr q' => ?_⟩
  · rcases z with z | z
    · exact (hS a z).1 e
    · obtain ⟨o, h, _⟩ := W.lv hi z
      rw [h] at e; cases e
  · have e' : Ext T H T H' := Ext.of0 e.gr
    refine k T ω d v H' e' (W.st hi e.gr fun _ z => z.elim) ?_ q'
    cases mr with
    | F =>
      obtain ⟨l, xs, es, h1, h2, h3, h4, h5, h6⟩ := rt
      exact ⟨l, xs, es, h1, h2, h3, fun z => h4 (.inl z), h5, h6.less fun a z => z.imp (fun z => .inl z) id⟩
    | A => exact RepA.less (show RepA K H' _ d v from rt) fun a z => .inl z
    | O => exact RepA.less (show RepA K H' _ d v from rt) fun a z => .inl z
    | C => exact RepA.less (show RepA K H' _ d v from rt) fun a z => .inl z
  · exact kx T ω x cls dd H' (Ext.of0 e.gr) (W.st hi e.gr fun _ z => z.elim) xr q'
theorem FnOk.inW {P : Program} {w : World} {mg : Str → Option Value} {base : Heap} {CX : CXT} {k : Nat} {f : Addr} {fd : FuncData} {ps : List Str} {pf : PSp W0} (F : FnOk P w K mg base CX k f fd ps (spM mr K W0 pf)) (W : Wrl) : FnOk P w K mg base CX k f fd ps (spM mr K W (inW W pf)) := F.imp fun _ _ _ _ => spM_inW
theorem FnR.inW {P : Program} {w : World} {mg : Str → Option Value} {base : Heap} {CX : CXT} {k : Nat} {f : Addr} {pf : PSp W0} (F : FnR P w K mg base CX k f (spM mr K W0 pf)) (W : Wrl) : FnR P w K mg base CX k f (spM mr K W (inW W pf)) := F.imp fun _ _ _ _ => spM_inW
def qCall (pf : PSp W) (qs : QTA W) : QT W := fun ω ρ Q E => qs ω ρ (fun ω1 ds => pf ω1 ds Q E) E
theorem rt_rr {F : Frm} {T T' : ASet} {ρ : List Sl} {H H1 H' : Hp} {d : D} {v : V} (live : ∀ a, H1 a = none → H a = none) (h : RT mr K ⟨H1, fun a => F.S a ∨ a ∈ owns ρ, T, []⟩ T' H' d v) : RR mr K H H' (Spr F T' ρ) (owns ρ) d v := by
  have hs : ∀ a, Spr F T' ρ a → (F.S a ∨ a ∈ owns ρ) ∨ T' a := fun a z => by
    rcases z with z | z | z
    · exact .inl (.inl z)
    · exact .inr z
    · exact .inl (.inr z)
  cases mr with
  | F =>
    obtain ⟨l, xs, es, h1, h2, h3, h4, h5, h6⟩ := h
    exact ⟨l, xs, es, h1, h2, live l h3, fun z => h4 (hs l z), h5, h6.less fun a z => z.imp (hs a) id⟩
  | A => exact RepA.less (show RepA K H' _ d v from h) hs
  | O => exact .inl (RepA.less (show RepA K H' _ d v from h) hs)
  | C => exact .inl (.inl (RepA.less (show RepA K H' _ d v from h) hs))
theorem sp_at {F : Frm} {T T1 : ASet} {ω1 : W.Ω} {ρ : List Sl} {σ : L2.St} {H H1 : Hp} {ds : List D} {vs : List V} {Qp : W.Ω → D → Prop} {Ep : W.Ω → Exn → Prop} {Q : VK} (R1 : Rel K W F T1 ω1 ρ σ H1) (e1 : Ext T H T1 H1) (hx : XOk K W Wo F ρ σ Ep) (r : RepsA K H1 (Spr F T1 ρ) ds vs) (q : pf ω1 ds Qp Ep)
    (k : ∀ T' ω' d v H', Rel K W F T' ω' ρ σ H' → Ext T H T' H' → RR mr K H H' (Spr F T' ρ) (owns ρ) d v → Qp ω' d → Q v H') : spM mr K W pf vs H1 Q (WE Wo σ) := by
  refine ⟨fun a => F.S a ∨ a ∈ owns ρ, T1, ω1, ds, Qp, Ep, fun a z => ⟨R1.spl a (z.imp id fun z => .inr z), z.elim (fun z => (R1.s0 a z).2) fun z => (R1.own a z).2.1⟩, R1.inv, r.less fun a z => ?_, q, fun T' ω' d v H' e i' rt q' => ?_, fun T' ω' x cls dd H' e i' xr q' => ?_⟩
  · rcases z with (z | z) | z
    · exact .inl z
    · exact .inr (.inr z)
    · exact .inr (.inl z)
  · exact k T' ω' d v H' (R1.world e i') (e1.trans e) (rt_rr e1.gr.live rt) q'
  · exact hx T' ω' x cls dd H' (R1.world e i') xr q'
theorem sp_atO {F : Frm} {T T1 : ASet} {ω1 : W.Ω} {ρ : List Sl} {σ : L2.St} {H H1 : Hp} {ds : List D} {vs : List V} {Qp : W.Ω → D → Prop} {Ep : W.Ω → Exn → Prop} {Q : VK} (R1 : Rel K W F T1 ω1 ρ σ H1) (e1 : Ext T H T1 H1) (hx : XOk K W Wo F ρ σ Ep) (r : ROs .O K H1 (Spr F T1 ρ) (owns ρ) ds vs) (q : pf ω1 ds (fun ω' d => d.pure = true ∧ Qp ω' d) Ep)
    (k : ∀ T' ω' d v H', Rel K W F T' ω' ρ σ H' → Ext T H T' H' → RepA K H' (Spr F T' ρ) d v → Qp ω' d → Q v H') : spM .A K W pf vs H1 Q (WE Wo σ) := by
  refine ⟨F.S, T1, ω1, ds, _, Ep, R1.s0, R1.inv, r.off (fun a z => z.imp id fun z => .inl z) (fun l h z => ?_), q, fun T' ω' d v H' e i' rt ⟨hp, q'⟩ => ?_, fun T' ω' x cls dd H' e i' xr q' => ?_⟩
  · rcases z with z | z
    · exact (R1.own l h).2.2 z
    · exact (R1.own l h).2.1 z
  · exact k T' ω' d v H' (R1.world e i') (e1.trans e) (RepA.any (show RepA K H' _ d v from rt) hp) q'
  · exact hx T' ω' x cls dd H' (R1.world e i') xr q'
end
section
variable {X : Cx} {W : Wrl} {Wo : WX} {mr m m1 m2 : Md} {pf : PSp W} {qs : QTA W} {qo : QT W} {k : Nat} {f C : Addr} {fd : FuncData} {ps : List Str} {x mn : Str} {p pos apos : Pos} {e o a b fe : Expr} {es : List Expr} {qa qb : QT W}
theorem qe_call (F : FnOk X.prog X.w X.K X.mg X.base (L2N.CX X.prog X.w) k f fd ps (spM mr X.K W pf)) (hr : Room k X.A) (hg : Gl X x) (hm : X.mg x = some (.ref f)) (hk : PySem.W.keepIn X.K (.ref f) = true) (hb : Binds X.K fd ps []) (hx : ∀ σ, PassesAt (L2N.CX X.prog X.w) X σ (WE Wo σ))
    (ha : QA X .A W Wo (e :: es) qs) (hdb : (x == ("__debug__" : Str)) = false := by decide) (he : starEach (e :: es) X.env = (false, eval e X.env) :: starEach es X.env := by rfl) (hpl : (backTo pos (starEach es X.env)).any (·.1) = false := by rfl) :
    QE X mr W Wo (.Call (.Name x p) (e :: es) [] pos) (qCall pf qs) := PE.imp (pe_callS F hr hg hm hk hb hx ha hdb he hpl) fun σ H Q ⟨F, T, ω, ρ, Qp, Ep, R, q, hx, k⟩ =>
  ⟨F, T, ω, ρ, _, Ep, R, q, hx, fun T1 ω1 ds vs H1 R1 e1 r1 q1 => sp_at R1 e1 hx r1.reps q1 k⟩
theorem qe_callO (F : FnOk X.prog X.w X.K X.mg X.base (L2N.CX X.prog X.w) k f fd ps (spM .A X.K W pf)) (hr : Room k X.A) (hg : Gl X x) (hm : X.mg x = some (.ref f)) (hk : PySem.W.keepIn X.K (.ref f) = true) (hb : Binds X.K fd ps []) (hx : ∀ σ, PassesAt (L2N.CX X.prog X.w) X σ (WE Wo σ))
    (ha : QA X .O W Wo (e :: es) qs) (hdb : (x == ("__debug__" : Str)) = false := by decide) (he : starEach (e :: es) X.env = (false, eval e X.env) :: starEach es X.env := by rfl) (hpl : (backTo pos (starEach es X.env)).any (·.1) = false := by rfl) :
    QE X .A W Wo (.Call (.Name x p) (e :: es) [] pos) (qCall (pureP pf) qs) := PE.imp (pe_callS F hr hg hm hk hb hx ha hdb he hpl) fun σ H Q ⟨F, T, ω, ρ, Qp, Ep, R, q, hx, k⟩ =>
  ⟨F, T, ω, ρ, _, Ep, R, q, hx, fun T1 ω1 ds vs H1 R1 e1 r1 q1 => sp_atO R1 e1 hx r1 q1 k⟩
def qMeth (C : Addr) (mn : Str) (pf : PSp W) (qo : QT W) (qs : QTA W) : QT W := fun ω ρ Q E => qo ω ρ (fun ω1 d => ∃ ns ds, d = .ins C ns ds ∧ mn ∉ ns ∧ qs ω1 ρ (fun ω2 es => pf ω2 (d :: es) Q E) E) E
theorem RC.insR {K : PySem.W.Frag} {H : Hp} {S : ASet} {os : List Addr} {ns : List Str} {ds : List D} {v : V} (h : RC K H S os (.ins C ns ds) v) : ∃ a dx xs, v = .ref a ∧ H a = some (.ins C dx (ns.zip xs)) ∧ RepA K H S (.ins C ns ds) (.ref a) := by
  rcases h with (h | ⟨l, xs, ds', rfl, e, m, h, r⟩) | ⟨a, xs, ds', rfl, e, h, r⟩
  · have h' := h
    cases h with
    | ins h i l r => exact ⟨_, _, _, rfl, h, h'⟩
  · cases e
  · cases e
def qObj (C : Addr) (pf : PSp W) (qo : QT W) (qs : QTA W) : QT W := fun ω ρ Q E => qo ω ρ (fun ω1 d => ∃ ns ds, d = .ins C ns ds ∧ qs ω1 ρ (fun ω2 es => pf ω2 (d :: es) Q E) E) E
def qBin (C : Addr) (pf : PSp W) (qa qb : QT W) : QT W := fun ω ρ Q E => qa ω ρ (fun ω1 x => qb ω1 ρ (fun ω2 y => ∃ ns ds ns' ds', x = .ins C ns ds ∧ y = .ins C ns' ds' ∧ pf ω2 [x, y] Q E) E) E
def qBinI (C : Addr) (pf : PSp W) (qa qb : QT W) : QT W := fun ω ρ Q E => qa ω ρ (fun ω1 x => qb ω1 ρ (fun ω2 y => ∃ ns ds i, x = .ins C ns ds ∧ y = .int i ∧ pf ω2 [x, y] Q E) E) E
def qInv (C : Addr) (pf : PSp W) (qa : QT W) : QT W := fun ω ρ Q E => qa ω ρ (fun ω1 x => ∃ ns ds, x = .ins C ns ds ∧ pf ω1 [x] Q E) E
structure MkP (K : PySem.W.Frag) (C : Addr) (sp : Sp) (pf : PSp W0) : Prop where
  run : ∀ (S T : ASet) (ds : List D) (vs : List V) (H : Hp) (Q : VK) (E : XK) (Qp : Unit → D → Prop) (Ep : Unit → Exn → Prop), (∀ a, S a → H a ≠ none) → RepsA K H S ds vs → pf () ds Qp Ep → (∀ d v H', GrP nop H H' → RepA K H' S d v → Qp () d → Q v H') →
    (∀ x cls dd H', GrP nop H H' → XRep K H' x cls dd → Ep () x → E cls dd H') → ∀ x dx, H x = none → H dx = none → dx ≠ x → sp (V.ref x :: vs) (mkHp H x dx C) (fun v H2 => v = .non ∧ Q (.ref x) H2) E
def qMake (C : Addr) (pf : PSp W0) (qf : QT W) (qs : QTA W) : QT W := fun ω ρ Q E => qf ω ρ (fun ω0 d => d = .adr C ∧ qs ω0 ρ (fun ω1 ds => inW W pf ω1 ds Q E) E) E
theorem RC.adr {K : PySem.W.Frag} {H : Hp} {S : ASet} {os : List Addr} {a : Addr} {v : V} (h : RC K H S os (.adr a) v) : v = .ref a := by
  rcases h with (h | ⟨l, xs, ds', rfl, e, m, h, r⟩) | ⟨a, xs, ds', rfl, e, h, r⟩
  · cases h; rfl
  · cases e
  · cases e
theorem qe_adr {v : Addr} (h : PE X e (tC (.ref v))) : QE X .A W Wo e (qC (.adr v)) := qe_c h fun _ _ => .adr v
theorem qe_make {sp : Sp} {pf : PSp W0} {qf : QT W} (hf : QE X m W Wo fe qf) (M : Mk X.K C f) (F : FnR X.prog X.w X.K X.mg X.base (L2N.CX X.prog X.w) k f sp) (mk : MkP X.K C sp pf) (hr : Room (k + 1) X.A) (hx : ∀ σ, PassesAt (L2N.CX X.prog X.w) X σ (WE Wo σ)) (ha : QA X .O W Wo (e :: es) qs)
    (ht : eval (.Call fe (e :: es) [] pos) X.env = (do callWith pos (← eval fe X.env) [] (backTo pos (starEach (e :: es) X.env)) (backToKw pos (keywordEach [] X.env))) := by rfl)
    (he : starEach (e :: es) X.env = (false, eval e X.env) :: starEach es X.env := by rfl) (hpl : (backTo pos (starEach es X.env)).any (·.1) = false := by rfl) : QE X .A W Wo (.Call fe (e :: es) [] pos) (qMake C (pureP pf) qf qs) := PE.imp (pe_makeS hf M F hr hx ha ht he hpl) fun σ H Q ⟨F, T, ω, ρ, Qp, Ep, R, q, hx, k⟩ =>
  ⟨F, T, ω, ρ, _, Ep, R, q, hx, fun T0 ω0 d v H0 R0 e0 r0 ⟨z, q0⟩ => by
    subst z
    refine ⟨r0.c.adr, F, T0, ω0, ρ, _, Ep, R0, q0, hx, fun T1 ω1 ds vs H1 R1 e1 r1 q1 x dx nx ndx ne => ?_⟩
    refine mk.run F.S nop ds vs H1 Q _ _ _ (fun a z => R1.spl a (.inl z)) (r1.off (fun a z => .inl z) fun l h z => (R1.own l h).2.2 z) q1 (fun d v H' g r ⟨hp, q⟩ => ?_) (fun y cls dd H' g r q => ?_) x dx nx ndx ne
    · exact k T1 ω1 d v H' (R1.grow g) ((e0.trans e1).trans (Ext.of0 g)) (RepA.any r hp) q
    · exact hx T1 ω1 y cls dd H' (R1.grow g) r q⟩
def qCMeth (C : Addr) (pf : PSp W) (qf : QT W) (qs : QTA W) : QT W := fun ω ρ Q E => qf ω ρ (fun ω0 d => d = .adr C ∧ qs ω0 ρ (fun ω1 ds => pf ω1 (.adr C :: ds) Q E) E) E
def qLenO (C : Addr) (pf : PSp W) (qs : QTA W) : QT W := fun ω ρ Q E => qs ω ρ (fun ω1 ds => ∃ ns es, ds = [.ins C ns es] ∧ pf ω1 ds (fun ω' d => ∃ n : Int, d = .int n ∧ 0 ≤ n ∧ n < 2 ^ 63 ∧ Q ω' d) (fun _ _ => False)) E
theorem qe_lenO {ma : Md} (c : CmO X.K C "__len__" f) (F : FnR X.prog X.w X.K X.mg X.base (L2N.CX X.prog X.w) k f (spM .A X.K W pf)) (hr : Room (k + 1) X.A) (hg : Gl X "len") (hm : X.mg "len" = none) (ha : QA X ma W Wo (e :: es) qs)
    (h1 : starEach (e :: es) X.env = (false, eval e X.env) :: starEach es X.env := by rfl) (h2 : (backTo pos (starEach es X.env)).any (·.1) = false := by rfl) :
    QE X .A W Wo (.Call (.Name "len" p) (e :: es) [] pos) (qLenO C pf qs) := PE.imp (pe_callB (cr_lenO c F hr) hg hm (by decide +kernel) ha (by decide) (by decide) h1 h2) fun σ H Q ⟨F, T, ω, ρ, Qp, Ep, R, q, hx, k⟩ =>
  ⟨F, T, ω, ρ, _, Ep, R, q, hx, fun T1 ω1 ds vs H1 R1 e1 r1 ⟨ns, es', z, q1⟩ => by
    subst z
    obtain ⟨v, rfl, r⟩ := r1.one
    obtain ⟨a, dx, xs, rfl, h1, ra⟩ := r.c.insR
    refine ⟨a, dx, _, rfl, h1, ?_⟩
    have hz : spM .A X.K W pf [.ref a] H1 (fun v H' => ∃ n : Int, v = .int n ∧ 0 ≤ n ∧ n < 2 ^ 63 ∧ Q (.int n) H') (WE (fun _ _ _ _ => False) σ) := sp_at R1 e1 (fun _ _ _ _ _ _ _ _ z => z) (.cons ra .nil) q1 fun T' ω' d v H' R' e' r' ⟨n, z, h0, h9, q'⟩ => by
      subst z
      exact ⟨n, (RR.c (m := .A) r').int, h0, h9, by rw [← (RR.c (m := .A) r').int]; exact k T' ω' _ v H' R' e' r' q'⟩
    exact hz⟩
def fFld (C : Addr) (fn : Str) (d : D) (Q : D → Prop) : Prop := ∃ ns ds x, d = .ins C ns ds ∧ (ns.zip ds).lookup fn = some x ∧ Q x
theorem lookup_rep {K : PySem.W.Frag} {H : Hp} {S : ASet} {fn : Str} : ∀ {ns : List Str} {ds : List D} {xs : List V} {x : D}, RepsA K H S ds xs → (ns.zip ds).lookup fn = some x → ∃ v, (ns.zip xs).lookup fn = some v ∧ RepA K H S x v
  | [], _, _, _, _, h => by simp at h
  | _ :: _, _, _, _, .nil, h => by simp at h
  | n :: ns, _, _, _, .cons r rs, h => by
    rw [List.zip_cons_cons, List.lookup_cons] at h ⊢
    split at h
    · cases h
      exact ⟨_, rfl, r⟩
    · exact lookup_rep rs h
theorem qe_fld {fn : Str} (ha : QE X m W Wo a qa) (c : Cls X.K C) (n : NoAttr X.K C fn) (hb : attributeBase a fn X.env (eval a X.env) = eval a X.env := by rfl) : QE X .A W Wo (.Attribute a fn pos) (qUn (fFld C fn) qa) := PE.imp (pe_fld ha hb) fun σ H Q ⟨F, T, ω, ρ, Qp, Ep, R, q, hx, k⟩ =>
  ⟨F, T, ω, ρ, _, Ep, R, q, hx, fun T1 ω1 d v H1 R1 e1 r1 ⟨ns, ds, x, z, hl, q1⟩ => by
    subst z
    obtain ⟨a, dx, xs, rfl, h1, hlen, ra⟩ := r1.c.ins
    obtain ⟨u, hu, ru⟩ := lookup_rep ra hl
    exact ⟨a, C, dx, _, u, rfl, h1, c, n, hu, k T1 ω1 x u H1 R1 e1 ru q1⟩⟩
end
end LW
namespace LW
open PySem PySem.Spec PyProof.Rows L2
section
variable {K : PySem.W.Frag} {W : Wrl} {Wo : WX} {F : Frm} {mr : Md} {P : PEn W} {D : Ends} {T : ASet} {ω : W.Ω} {ρ : List Sl} {σ : L2.St} {H : Hp}
theorem Sim.xok (S : Sim mr K W Wo F P D) : XOk K W Wo F ρ σ (fun ω x => P.ex ω x ρ) := fun T ω x cls dd H R xr e => S.ex T ω ρ σ H x cls dd R xr e
theorem Sim.drop {h : List (LW.D × V)} (S : Sim mr K W Wo F P D) : Sim mr K W Wo (F.add h) P D where
  nx T ω ρ σ H R q := S.nx T ω ρ σ H R.drop q
  bk T ω ρ σ H R q := S.bk T ω ρ σ H R.drop q
  ct T ω ρ σ H R q := S.ct T ω ρ σ H R.drop q
  rt T ω ρ σ H d v R r q := S.rt T ω ρ σ H d v R.drop r q
  ex T ω ρ σ H x cls dd R r q := S.ex T ω ρ σ H x cls dd R.drop r q
end
section
variable {X : Cx} {W : Wrl} {Wo : WX} {mr m m1 m2 : Md} {e a b c : Expr} {st : Stmt} {sts ss ts : List Stmt} {es : List Expr} {i : Nat} {x : Str} {pos pos' : Pos} {q qa qb qc : QT W} {qs : QTA W} {qt : QTT W} {s u : QTS W}
def sNx : QTS W := fun P ω ρ => P.nx ω ρ
def sSeq (s u : QTS W) : QTS W := fun P ω ρ => s { P with nx := u P } ω ρ
theorem qss_nil : QSs X mr W Wo [] sNx := PSs.imp pss_nil fun D σ H ⟨F, T, ω, ρ, P, R, q, S⟩ => S.nx T ω ρ σ H R q
theorem qss_one (h : QS X mr W Wo st s) : QSs X mr W Wo [st] s := pss_one h
theorem qss_cons (h : QS X mr W Wo st s) (h2 : QSs X mr W Wo sts u) : QSs X mr W Wo (st :: sts) (sSeq s u) := PSs.imp (pss_cons h h2) fun D σ H ⟨F, T, ω, ρ, P, R, q, S⟩ =>
  ⟨F, T, ω, ρ, _, R, q, ⟨fun T ω ρ σ H R q => ⟨F, T, ω, ρ, P, R, q, S⟩, S.bk, S.ct, S.rt, S.ex⟩⟩
def sCut (s u : QTS W) : QTS W := fun P ω ρ => ∃ R : W.Ω → List Sl → Prop, s { P with nx := R } ω ρ ∧ ∀ ω ρ, R ω ρ → u P ω ρ
theorem qss_cut (h : QS X mr W Wo st s) (h2 : QSs X mr W Wo sts u) : QSs X mr W Wo (st :: sts) (sCut s u) := PSs.imp (pss_cons h h2) fun D σ H ⟨F, T, ω, ρ, P, R, ⟨N, q, k⟩, S⟩ =>
  ⟨F, T, ω, ρ, _, R, q, ⟨fun T ω ρ σ H R q => ⟨F, T, ω, ρ, P, R, k ω ρ q, S⟩, S.bk, S.ct, S.rt, S.ex⟩⟩
def sFrz (i : Nat) (s : QTS W) : QTS W := fun P ω ρ => s P ω (frz ρ i)
theorem qs_frz (i : Nat) (h : QS X mr W Wo st s) : QS X mr W Wo st (sFrz i s) := PS.imp h fun D σ H ⟨F, T, ω, ρ, P, R, q, S⟩ => ⟨F, T, ω, frz ρ i, P, R.frz i, q, S⟩
def sDrop (qa : QT W) : QTS W := fun P ω ρ => qa ω ρ (fun ω1 _ => P.nx ω1 ρ) fun ω1 x => P.ex ω1 x ρ
theorem qs_expr (he : QE X m W Wo e qa) (hs : swapsWith e none pos.line X.env = pure false := by rfl) : QS X mr W Wo (.Expr e pos) (sDrop qa) := PS.imp (ps_expr he hs) fun D σ H ⟨F, T, ω, ρ, P, R, q, S⟩ =>
  ⟨F, T, ω, ρ, _, _, R, q, S.xok, fun T' ω' d v H' R' e r q' => S.nx T' ω' ρ σ H' R' q'⟩
def sRet (qa : QT W) : QTS W := fun P ω ρ => qa ω ρ (fun ω1 d => P.rt ω1 d) fun ω1 x => P.ex ω1 x ρ
theorem rt_of {K : PySem.W.Frag} {F : Frm} {T T' : ASet} {ω ω' : W.Ω} {ρ : List Sl} {σ : L2.St} {H H' : Hp} {d : D} {v : V} (R : Rel K W F T' ω' ρ σ H') (hm : m.ow = true) (r : RR m K H H' (Spr F T' ρ) (owns ρ) d v) : RepA K H' (fun a => F.S a ∨ T' a) d v := by
  rcases r.o hm with r | ⟨l, xs, ds, rfl, rfl, mem, h, r⟩
  · exact r.less fun a z => z.imp id .inl
  · exact .lst h (fun z => z.elim (R.own l mem).2.2 (R.own l mem).2.1) (r.less fun a z => z.imp id .inl)
theorem qs_ret (he : QE X m W Wo e qa) (hm : m.ow = true := by rfl) : QS X .A W Wo (.Return (some e) pos) (sRet qa) := PS.imp (ps_ret he) fun D σ H ⟨F, T, ω, ρ, P, R, q, S⟩ =>
  ⟨F, T, ω, ρ, _, _, R, q, S.xok, fun T' ω' d v H' R' e r q' => S.rt T' ω' ρ σ H' d v R' (rt_of (ω := ω) (T := T) R' hm r) q'⟩
theorem qs_retF (he : QE X .F W Wo e qa) : QS X .F W Wo (.Return (some e) pos) (sRet qa) := PS.imp (ps_ret he) fun D σ H ⟨F, T, ω, ρ, P, R, q, S⟩ =>
  ⟨F, T, ω, ρ, _, _, R, q, S.xok, fun T' ω' d v H' R' e ⟨l, xs, ds, h1, h2, h3, h4, h5, h6⟩ q' => S.rt T' ω' ρ σ H' d v R' ⟨l, xs, ds, h1, h2, R.gr.live l h3, fun z => h4 (z.imp id .inl), h5, h6.less fun a z => z.imp (fun z => z.imp id .inl) id⟩ q'⟩
def sRetO (i : Nat) : QTS W := fun P ω ρ => ∃ l ds, ρ[i]? = some (.ow l ds) ∧ P.rt ω (.lst ds)
theorem qs_retO (he : PE X e (tVar i)) : QS X .F W Wo (.Return (some e) pos) (sRetO i) := PS.imp (ps_ret he) fun D σ H ⟨F, T, ω, ρ, P, R, ⟨l, ds, hi, q⟩, S⟩ => by
  obtain ⟨hv, xs, h1, r⟩ := R.sl.get_ow hi
  have m := owns_mem hi
  refine ⟨_, hv, S.rt T ω ρ σ H _ _ R ⟨l, xs, ds, rfl, rfl, (R.own l m).1, fun z => z.elim (R.own l m).2.2 (R.own l m).2.1, h1, r.less fun a z => ?_⟩ q⟩
  rcases z with (z | z) | z
  · exact .inl z
  · exact .inr (.inl z)
  · rw [z]; exact .inr (.inr m)
def sRetN : QTS W := fun P ω _ => P.rt ω .non
def sBrk : QTS W := fun P ω ρ => P.bk ω ρ
def sCnt : QTS W := fun P ω ρ => P.ct ω ρ
def sIf (qt : QTT W) (s u : QTS W) : QTS W := fun P ω ρ => qt ω ρ (fun ω1 b => if b = true then s P ω1 ρ else u P ω1 ρ) fun ω1 x => P.ex ω1 x ρ
theorem qs_if (hc : QB X W Wo c qt) (ha : QSs X mr W Wo ss s) (hb : QSs X mr W Wo ts u) : QS X mr W Wo (.If c ss ts pos) (sIf qt s u) := PS.imp (ps_if hc ha hb) fun D σ H ⟨F, T, ω, ρ, P, R, q, S⟩ =>
  ⟨F, T, ω, ρ, _, _, R, q, S.xok, fun T' ω' b H' R' e q' => by
    cases b with
    | true => exact ⟨F, T', ω', ρ, P, R', q', S⟩
    | false => exact ⟨F, T', ω', ρ, P, R', q', S⟩⟩
def sSet (i : Nat) (qa : QT W) : QTS W := fun P ω ρ => qa ω ρ (fun ω1 d => P.nx ω1 (ρ.set i (.va d))) fun ω1 x => P.ex ω1 x ρ
theorem qs_set (hN : X.N.Nodup) (hi : X.N[i]? = some x) (hx : Loc X.env.scope x) (he : QE X m W Wo e qa) (hm : m.st = true := by rfl) (hs : swapsWith e (some (.Name x pos')) pos.line X.env = pure false := by rfl) (hf : X.fn x = true ∨ X.env.scope.names.lookup x = some .local := by first | exact .inl rfl | exact .inr rfl | assumption) :
    QS X mr W Wo (.Assign [.Name x pos'] e pos) (sSet i qa) := PS.imp (ps_set hN hi hx he hs hf) fun D σ H ⟨F, T, ω, ρ, P, R, q, S⟩ =>
  ⟨F, T, ω, ρ, _, _, R, q, S.xok, fun T' ω' d v H' R' e r q' => S.nx T' ω' _ _ H' (R'.set_va (r.a hm) i) q'⟩
def sSetO (i : Nat) (qa : QT W) : QTS W := fun P ω ρ => qa ω ρ (fun ω1 d => ∃ ds, d = .lst ds ∧ ∀ l, P.nx ω1 (ρ.set i (.ow l ds))) fun ω1 x => P.ex ω1 x ρ
theorem qs_setO (hN : X.N.Nodup) (hi : X.N[i]? = some x) (hx : Loc X.env.scope x) (he : QE X .F W Wo e qa) (hs : swapsWith e (some (.Name x pos')) pos.line X.env = pure false := by rfl) (hf : X.fn x = true ∨ X.env.scope.names.lookup x = some .local := by first | exact .inl rfl | exact .inr rfl | assumption) :
    QS X mr W Wo (.Assign [.Name x pos'] e pos) (sSetO i qa) := PS.imp (ps_set hN hi hx he hs hf) fun D σ H ⟨F, T, ω, ρ, P, R, q, S⟩ =>
  ⟨F, T, ω, ρ, _, _, R, q, S.xok, fun T' ω' d v H' R' e ⟨l, xs, ds, h1, h2, h3, h4, h5, h6⟩ ⟨ds', z, q'⟩ => by
    subst h1 h2
    cases z
    exact S.nx T' ω' _ _ H' (R.set_ow R' e h3 h4 h5 h6 i) (q' l)⟩
def sAug (i : Nat) (g : Int → Int → Int) (qa : QT W) : QTS W := fun P ω ρ => ∃ n, ρ[i]? = some (.va (.int n)) ∧ qa ω ρ (fun ω1 d => ∃ k, d = .int k ∧ P.nx ω1 (ρ.set i (.va (.int (g n k))))) fun ω1 x => P.ex ω1 x ρ
abbrev QTG := D → List Sl → (List Sl → Prop) → Prop
abbrev QTGs := List D → List Sl → (List Sl → Prop) → Prop
def lfG (m : Md) (K : PySem.W.Frag) (W : Wrl) (ts : List Nat) (g : QTG) : TG := fun v σ H Q => ∃ (F : Frm) (T : ASet) (ω : W.Ω) (ρ : List Sl) (d : D) (k : List Sl → Prop), Rel K W F T ω ρ σ H ∧ RR m K H H (Spr F T ρ) (owns ρ) d v ∧ g d ρ k ∧ ∀ ρ' σ', Rel K W F T ω ρ' σ' H → σ'.length = σ.length → (∀ j, j ∉ ts → σ'[j]? = σ[j]?) → k ρ' → Q σ' H
def lfGs (K : PySem.W.Frag) (W : Wrl) (ts : List Nat) (g : QTGs) : TGs := fun vs σ H Q => ∃ (F : Frm) (T : ASet) (ω : W.Ω) (ρ : List Sl) (ds : List D) (k : List Sl → Prop), Rel K W F T ω ρ σ H ∧ RepsA K H (Spr F T ρ) ds vs ∧ g ds ρ k ∧ ∀ ρ' σ', Rel K W F T ω ρ' σ' H → σ'.length = σ.length → (∀ j, j ∉ ts → σ'[j]? = σ[j]?) → k ρ' → Q σ' H
def QG (X : Cx) (m : Md) (W : Wrl) (e : Expr) (ts : List Nat) (g : QTG) : Prop := PG X e (lfG m X.K W ts g)
def QGs (X : Cx) (W : Wrl) (es : List Expr) (ts : List Nat) (g : QTGs) : Prop := PGs X es (lfGs X.K W ts g)
theorem PG.imp {X : Cx} {e : Expr} {t t' : TG} (h : PG X e t) (k : ∀ v σ H Q, t' v σ H Q → t v σ H Q) : PG X e t' := ⟨fun pins s σ H v u Q I r q => h.run pins s σ H v u Q I r (k v σ H _ q)⟩
theorem PGs.imp {X : Cx} {e : List Expr} {t t' : TGs} (h : PGs X e t) (k : ∀ v σ H Q, t' v σ H Q → t v σ H Q) : PGs X e t' := ⟨fun pins s σ H v u Q I r q => h.run pins s σ H v u Q I r (k v σ H _ q)⟩
def gnm (i : Nat) : QTG := fun d ρ k => k (ρ.set i (.va d))
def gtp (n : Nat) (g : QTGs) : QTG := fun d ρ k => ∃ ds, d = .tup ds ∧ ds.length = n ∧ g ds ρ k
def gsn : QTGs := fun ds ρ k => ds = [] ∧ k ρ
def gsc (g : QTG) (gs : QTGs) : QTGs := fun ds ρ k => ∃ d ds', ds = d :: ds' ∧ g d ρ fun ρ' => gs ds' ρ' k
theorem set_ne {σ : L2.St} {i : Nat} {o : Option V} : ∀ j, j ∉ [i] → (σ.set i o)[j]? = σ[j]? := fun j hj => List.getElem?_set_ne (fun z => hj (by rw [z]; exact List.mem_cons_self))
theorem qg_name (hN : X.N.Nodup) (hi : X.N[i]? = some x) (hx : Loc X.env.scope x) (hf : X.fn x = true ∨ X.env.scope.names.lookup x = some .local := by first | exact .inl rfl | exact .inr rfl | assumption) : QG X .A W (.Name x pos) [i] (gnm i) := PG.imp (pg_name hN hi hx hf) fun v σ H Q ⟨F, T, ω, ρ, d, k, R, r, g, kk⟩ =>
  kk _ _ (R.set_va r i) (List.length_set ..) set_ne g
theorem RepsA.pairs {K : PySem.W.Frag} {H : Hp} {S : ASet} : ∀ {ds : List D} {vs : List V}, RepsA K H S ds vs → ∀ p, p ∈ ds.zip vs → RepA K H S p.1 p.2
  | _, _, .nil, p, h => by cases h
  | _, _, .cons q r, p, h => by
    rcases List.mem_cons.mp h with z | z
    · rw [z]; exact q
    · exact r.pairs p z
theorem RepsA.ofPairs {K : PySem.W.Frag} {H : Hp} {S : ASet} : ∀ {ds : List D} {vs : List V}, ds.length = vs.length → (∀ p, p ∈ ds.zip vs → RepA K H S p.1 p.2) → RepsA K H S ds vs
  | [], [], _, _ => .nil
  | [], _ :: _, h, _ => by cases h
  | _ :: _, [], h, _ => by cases h
  | d :: ds, v :: vs, h, hp => .cons (hp (d, v) List.mem_cons_self) (RepsA.ofPairs (Nat.succ.inj h) fun p q => hp p (List.mem_cons_of_mem _ q))
theorem qgs_nil : QGs X W [] [] gsn := PGs.imp pgs_nil fun v σ H Q ⟨F, T, ω, ρ, d, k, R, r, ⟨z, g⟩, kk⟩ => by
  subst z
  cases r
  exact ⟨rfl, kk ρ σ R rfl (fun _ _ => rfl) g⟩
theorem qgs_cons {t1 t2 : List Nat} {g : QTG} {gs : QTGs} (h1 : QG X .A W e t1 g) (h2 : QGs X W es t2 gs) (hs : (assignEach (e :: es) X.env).map (·.2) = assign e X.env :: (assignEach es X.env).map (·.2) := by rfl) : QGs X W (e :: es) (t1 ++ t2) (gsc g gs) := PGs.imp (pgs_cons h1 h2 hs) fun v σ H Q ⟨F, T, ω, ρ, ds, k, R, r, ⟨d, ds', z, g⟩, kk⟩ => by
  subst z
  cases r with
  | cons r rs =>
    refine ⟨_, _, rfl, F.add (ds'.zip _), T, ω, ρ, d, _, R.put rs.pairs, r, g, fun ρ1 σ1 R1 l1 f1 g1 => ?_⟩
    refine ⟨F, T, ω, ρ1, ds', k, R1.drop, RepsA.ofPairs rs.len.symm fun p hp => R1.kept hp, g1, fun ρ2 σ2 R2 l2 f2 g2 => ?_⟩
    exact kk ρ2 σ2 R2 (l2.trans l1) (fun j hj => (f2 j fun z => hj (List.mem_append_right _ z)).trans (f1 j fun z => hj (List.mem_append_left _ z))) g2
theorem qg_tup {n k : Nat} {t : List Nat} {gs : QTGs} (hc : X.calm = true) (h : QGs X W es t gs) (hn : (assignEach es X.env).length = n := by rfl) (hst : (assignEach es X.env).findIdx? (·.1) = none := by rfl) : QG X .C W (.Tuple es k pos) t (gtp n gs) := PG.imp (pg_tup hc h hn hst) fun v σ H Q ⟨F, T, ω, ρ, d, k, R, r, ⟨ds, z, hl, g⟩, kk⟩ => by
  subst z
  obtain ⟨a, xs, rfl, hq, rs⟩ := RC.tup r
  exact ⟨a, xs, rfl, hq, by rw [rs.len, hl], F, T, ω, ρ, ds, k, R, rs, g, kk⟩
def sAsg (g : QTG) (qa : QT W) : QTS W := fun P ω ρ => qa ω ρ (fun ω1 d => g d ρ fun ρ' => P.nx ω1 ρ') fun ω1 x => P.ex ω1 x ρ
def sApp (i : Nat) (qa : QT W) : QTS W := fun P ω ρ => ∃ l ds, ρ[i]? = some (.ow l ds) ∧ ds.length < 1000000 ∧ qa ω ρ (fun ω1 d => P.nx ω1 (ρ.set i (.ow l (ds ++ [d])))) fun ω1 x => P.ex ω1 x ρ
theorem qs_app {to : TE} {o : Expr} {apos : Pos} (hto : to = tVar i) (ho : PE X o to) (ha : QE X m W Wo e qa) (hm : m.st = true := by rfl)
    (hbase : attributeBase o "append" X.env (eval o X.env) = eval o X.env := by rfl)
    (hfew : ((backTo pos' (starEach [e] X.env)).all (fun x => !x.1) && (backToKw pos' (keywordEach [] X.env)).all (fun x => x.1.isSome)
      && decide ([e].length + ([] : List Keyword).length + (if ([] : List Keyword).isEmpty then 0 else 1) < 30)) = true := by rfl)
    (hline : (apos.endLine == pos'.line) = true := by rfl) (hst : starEach [e] X.env = (false, eval e X.env) :: starEach [] X.env := by rfl) (hplain : (backTo pos' (starEach [] X.env)).any (·.1) = false := by rfl)
    (hs : swapsWith (.Call (.Attribute o "append" apos) [e] [] pos') none pos.line X.env = pure false := by rfl) :
    QS X mr W Wo (.Expr (.Call (.Attribute o "append" apos) [e] [] pos') pos) (sApp i qa) := PS.imp (ps_expr (pe_bm PySem.F.plainAttrs_list PySem.F.slot_list_append PySem.F.type_list_append mt_append ho (pa_cons ha pa_nil hst) hbase hfew hline hst hplain) hs) fun D σ H ⟨F, T, ω, ρ, P, R, ⟨l, ds, hi, hl, q⟩, S⟩ => by
  subst hto
  obtain ⟨hv, xs, h1, r⟩ := R.sl.get_ow hi
  refine ⟨.ref l, hv, .inl ⟨rfl, xs, sql_of h1⟩, F, T, ω, ρ, _, _, R, q, S.xok, fun T' ω' d v H' R' e r' q' => ?_⟩
  obtain ⟨_, xs', h1', rr⟩ := R'.sl.get_ow hi
  exact ⟨l, xs', v, rfl, rfl, h1', Nat.lt_of_lt_of_le (by rw [rr.len]; exact hl) (by decide), S.nx T' ω' _ _ _ (R'.wr hi (RepsA.append (.cons (r'.a hm) .nil) rr)) q'⟩
def sPut (i : Nat) (qk qa : QT W) : QTS W := fun P ω ρ => qa ω ρ (fun ω1 d => ∃ l ds, ρ[i]? = some (.ow l ds) ∧ qk ω1 ρ (fun ω2 y => ∃ n j, y = .int n ∧ ixN ds.length n = some j ∧ P.nx ω2 (ρ.set i (.ow l (ds.set j d)))) fun ω1 x => P.ex ω1 x ρ) fun ω1 x => P.ex ω1 x ρ
def sRaise (x : Exn) : QTS W := fun P ω ρ => P.ex ω x ρ
theorem qs_raise {C : Addr} (h : PS X st (fun _ σ H => Wo (.ref C) none σ H)) : QS X mr W Wo st (sRaise ⟨C, none⟩) := PS.imp h fun D σ H ⟨F, T, ω, ρ, P, R, q, S⟩ => S.ex T ω ρ σ H ⟨C, none⟩ _ _ R ⟨rfl, rfl⟩ q
abbrev QTI (W : Wrl) := W.Ω → List Sl → (W.Ω → List D → Prop) → (W.Ω → Exn → Prop) → Prop
def ItOk (mi : Md) (K : PySem.W.Frag) (W : Wrl) (h : List (D × V)) (ds : List D) (J : It) : Prop := ∀ F T ω ρ σ H, (∀ p, p ∈ h → p ∈ F.hid) → Rel K W F T ω ρ σ H → ∀ i, (i < ds.length → J.go i H) ∧ (ds.length ≤ i → J.stop i H) ∧ ∀ d x H2, ds[i]? = some d → J.yld i H x H2 → GrP nop H H2 ∧ RR mi K H2 H2 (Spr F T ρ) (owns ρ) d x
def lfI (mi : Md) (K : PySem.W.Frag) (W : Wrl) (Wo : WX) (q : QTI W) : TI := fun σ H Rj => ∃ (F : Frm) (T : ASet) (ω : W.Ω) (ρ : List Sl) (Qp : W.Ω → List D → Prop) (Ep : W.Ω → Exn → Prop), Rel K W F T ω ρ σ H ∧ q ω ρ Qp Ep ∧ XOk K W Wo F ρ σ Ep ∧
  ∀ T' ω' h ds J H', Rel K W (F.add h) T' ω' ρ σ H' → Ext T H T' H' → ItOk mi K W h ds J → Qp ω' ds → Rj J H'
def QI (X : Cx) (mi : Md) (W : Wrl) (Wo : WX) (tg iter : Expr) (q : QTI W) : Prop := PI X tg iter (lfI mi X.K W Wo q)
theorem PI.imp {X : Cx} {tg e : Expr} {t t' : TI} (h : PI X tg e t) (k : ∀ σ H R, t' σ H R → t σ H R) : PI X tg e t' := ⟨fun pins s σ H R I q => h.run pins s σ H R I (k σ H R q)⟩
def iSeq (qa : QT W) : QTI W := fun ω ρ Q E => qa ω ρ (fun ω1 d => ∃ ds, d = .lst ds ∧ Q ω1 ds) E
def iTupl (qa : QT W) : QTI W := fun ω ρ Q E => qa ω ρ (fun ω1 d => ∃ ds, d = .tup ds ∧ Q ω1 ds) E
theorem repA_lst {K : PySem.W.Frag} {H : Hp} {S : ASet} {ds : List D} {v : V} (h : RepA K H S (.lst ds) v) : ∃ l xs, v = .ref l ∧ SqL K H l xs ∧ RepsA K H S ds xs := by
  cases h with
  | lst h n r => exact ⟨_, _, rfl, sql_of h, r⟩
  | lsf h r => exact ⟨_, _, rfl, sql_frz h, r⟩
theorem repA_tup {K : PySem.W.Frag} {H : Hp} {S : ASet} {ds : List D} {v : V} (h : RepA K H S (.tup ds) v) : ∃ l xs, v = .ref l ∧ SqT K H l xs ∧ RepsA K H S ds xs := by
  cases h with
  | tup h r => exact ⟨_, _, rfl, h.sqt, r⟩
theorem qi_lst {tg : Expr} (ha : QE X m W Wo a qa) (hm : m.st = true := by rfl) : QI X .A W Wo tg a (iSeq qa) := PI.imp (pi_list ha) fun σ H Rj ⟨F, T, ω, ρ, Qp, Ep, R, q, hx, k⟩ =>
  ⟨F, T, ω, ρ, _, Ep, R, q, hx, fun T1 ω1 d v H1 R1 e1 r1 ⟨ds, z, q1⟩ => by
    subst z
    have ra := r1.a hm
    obtain ⟨l, xs, rfl, hl, _⟩ := repA_lst ra
    refine ⟨l, rfl, ⟨xs, hl⟩, k T1 ω1 [(.lst ds, .ref l)] ds _ H1 (R1.put fun p hp => ?_) e1 (fun F T ω ρ σ H hh R i => ?_) q1⟩
    · have : p = (.lst ds, .ref l) := by simpa using hp
      rw [this]; exact ra
    · obtain ⟨l', xs', e', hl', rr⟩ := repA_lst (R.hd _ (hh (.lst ds, .ref l) List.mem_cons_self))
      cases e'
      refine ⟨fun hi => ?_, fun hi => ⟨xs', hl', by rw [rr.len]; exact hi⟩, fun d x H2 hd hy => ?_⟩
      · obtain ⟨v, hv, _⟩ := rr.get (List.getElem?_eq_getElem hi)
        exact ⟨xs', v, hl', hv⟩
      · obtain ⟨z, hx⟩ := hy
        subst z
        obtain ⟨v, hv, rv⟩ := rr.get hd
        have := hx xs' hl'
        rw [hv] at this
        cases this
        exact ⟨GrP.refl _ _, rv⟩⟩
theorem qi_tup {tg : Expr} (ha : QE X m W Wo a qa) (hm : m.st = true := by rfl) : QI X .A W Wo tg a (iTupl qa) := PI.imp (pi_tup ha) fun σ H Rj ⟨F, T, ω, ρ, Qp, Ep, R, q, hx, k⟩ =>
  ⟨F, T, ω, ρ, _, Ep, R, q, hx, fun T1 ω1 d v H1 R1 e1 r1 ⟨ds, z, q1⟩ => by
    subst z
    have ra := r1.a hm
    obtain ⟨l, xs, rfl, hl, _⟩ := repA_tup ra
    refine ⟨l, rfl, ⟨xs, hl⟩, k T1 ω1 [(.tup ds, .ref l)] ds _ H1 (R1.put fun p hp => ?_) e1 (fun F T ω ρ σ H hh R i => ?_) q1⟩
    · have : p = (.tup ds, .ref l) := by simpa using hp
      rw [this]; exact ra
    · obtain ⟨l', xs', e', hl', rr⟩ := repA_tup (R.hd _ (hh (.tup ds, .ref l) List.mem_cons_self))
      cases e'
      refine ⟨fun hi => ?_, fun hi => ⟨xs', hl', by rw [rr.len]; exact hi⟩, fun d x H2 hd hy => ?_⟩
      · obtain ⟨v, hv, _⟩ := rr.get (List.getElem?_eq_getElem hi)
        exact ⟨xs', v, hl', hv⟩
      · obtain ⟨z, hx⟩ := hy
        subst z
        obtain ⟨v, hv, rv⟩ := rr.get hd
        have := hx xs' hl'
        rw [hv] at this
        cases this
        exact ⟨GrP.refl _ _, rv⟩⟩
theorem itr_ok {K : PySem.W.Frag} {lo : Int} {n : Nat} : ItOk .A K W [] (dInts (rgI lo (lo + n))) (Itr lo n) := fun F T ω ρ σ H _ R i => by
  have hl : (dInts (rgI lo (lo + n))).length = n := by unfold dInts rgI; rw [List.length_map, List.length_map, List.length_range]; omega
  refine ⟨fun h => by rw [hl] at h; exact h, fun h => by rw [hl] at h; exact h, fun d x H2 hd hy => ?_⟩
  obtain ⟨z, hx⟩ := hy
  subst z hx
  have hi : i < n := by rw [← hl]; exact (List.getElem?_eq_some_iff.mp hd).1
  unfold dInts rgI at hd
  rw [List.getElem?_map, List.getElem?_map, List.getElem?_range (by omega)] at hd
  cases hd
  exact ⟨GrP.refl _ _, .int _⟩
def RgB (i : Int) : Prop := -(2 ^ 62) ≤ i ∧ i < 2 ^ 62
def iRg1 (qa : QT W) : QTI W := fun ω ρ Q E => qa ω ρ (fun ω1 d => ∃ n, d = .int n ∧ RgB n ∧ Q ω1 (dInts (rgI 0 n))) E
def iRg2 (qa qb : QT W) : QTI W := fun ω ρ Q E => qa ω ρ (fun ω1 d => qb ω1 ρ (fun ω2 d2 => ∃ n k, d = .int n ∧ d2 = .int k ∧ RgB n ∧ RgB k ∧ Q ω2 (dInts (rgI n k))) E) E
theorem rgI_nat {lo hi : Int} : rgI lo (lo + ((hi - lo).toNat : Nat)) = rgI lo hi := by
  unfold rgI
  rw [show (lo + ((hi - lo).toNat : Nat) - lo).toNat = (hi - lo).toNat by omega]
theorem qi_rg1 {tg : Expr} {p : Pos} (hg : Gl X "range") (hm : X.mg "range" = none) (ha : QE X m W Wo a qa) (h1 : starEach [a] X.env = (false, eval a X.env) :: starEach [] X.env := by rfl) (hs : starEach [a] X.env = [(false, eval a X.env)] := by rfl) : QI X .A W Wo tg (.Call (.Name "range" p) [a] [] pos) (iRg1 qa) := PI.imp (pi_range1 hg hm (pa_cons ha pa_nil h1) hs) fun σ H Rj ⟨F, T, ω, ρ, Qp, Ep, R, q, hx, k⟩ =>
  ⟨F, T, ω, ρ, _, Ep, R, q, hx, fun T1 ω1 d v H1 R1 e1 r1 ⟨n, z, hb, q1⟩ => by
    subst z
    refine ⟨n, by rw [r1.c.int], hb.1, hb.2, k T1 ω1 [] _ _ H1 R1 e1 itr_ok ?_⟩
    have := rgI_nat (lo := 0) (hi := n)
    rw [Int.sub_zero] at this
    rw [this]
    exact q1⟩
def sFor (qi : QTI W) (g : QTG) (s : QTS W) : QTS W := fun P ω ρ => qi ω ρ (fun ω1 ds => ∃ I : Nat → W.Ω → List Sl → Prop, I 0 ω1 ρ ∧ (∀ i d ω ρ, ds[i]? = some d → I i ω ρ → g d ρ fun ρ' => s { P with nx := I (i + 1), ct := I (i + 1), bk := P.nx } ω ρ') ∧ ∀ ω ρ, I ds.length ω ρ → P.nx ω ρ) fun ω1 x => P.ex ω1 x ρ
theorem qs_for {tg iter : Expr} {t : List Nat} {qi : QTI W} {g : QTG} {body : List Stmt} (hp : PassesOwn (model X.prog X.w) X.A X.env X.xe) (hc : X.calm = true) (hi : QI X m W Wo tg iter qi) (hg : QG X m W tg t g) (hb : QSs X mr W Wo body s)
    (hs : ∀ x, foldedSetIterable iter X.env x = pure x := by intro _; rfl) : QS X mr W Wo (.For tg iter body [] pos) (sFor qi g s) := PS.imp (ps_for hp hc hi hg hb hs) fun D σ H ⟨F, T, ω, ρ, P, R, q, S⟩ =>
  ⟨F, T, ω, ρ, _, _, R, q, S.xok, fun T1 ω1 h ds J H1 R1 e1 it ⟨I, i0, hs, hd⟩ => by
    refine ⟨fun i n σ H => i + n = ds.length ∧ ∃ T ω ρ, Rel X.K W (F.add h) T ω ρ σ H ∧ I i ω ρ, ⟨ds.length, by omega, T1, ω1, ρ, R1, i0⟩, fun i n σ H ⟨hn, T2, ω2, ρ2, R2, q2⟩ => ?_⟩
    obtain ⟨h1, h2, h3⟩ := it _ T2 ω2 ρ2 σ H (fun p hp => List.mem_append_left _ hp) R2 i
    rcases Nat.lt_or_ge i ds.length with hi | hi
    · refine .inr ⟨h1 hi, fun σ H => ∃ T ω ρ, Rel X.K W (F.add h) T ω ρ σ H ∧ I (i + 1) ω ρ, fun σ' H' q => ⟨n - 1, by omega, by omega, q⟩, fun x H2 hy => ?_⟩
      obtain ⟨g2, rx⟩ := h3 ds[i] x H2 (List.getElem?_eq_getElem hi) hy
      have R3 := R2.grow g2
      refine ⟨F.add h, T2, ω2, ρ2, ds[i], _, R3, rx, hs i _ ω2 ρ2 (List.getElem?_eq_getElem hi) q2, fun ρ4 σ4 R4 _ _ q4 => ?_⟩
      exact ⟨F.add h, T2, ω2, ρ4, _, R4, q4, ⟨fun T ω ρ σ H R q => ⟨T, ω, ρ, R, q⟩, fun T ω ρ σ H R q => S.nx T ω ρ σ H R.drop q, fun T ω ρ σ H R q => ⟨T, ω, ρ, R, q⟩, fun T ω ρ σ H d v R r q => S.rt T ω ρ σ H d v R.drop r q, fun T ω ρ σ H x cls dd R r q => S.ex T ω ρ σ H x cls dd R.drop r q⟩⟩
    · have : i = ds.length := by omega
      subst this
      exact .inl ⟨h2 hi, S.nx T2 ω2 ρ2 σ H R2.drop (hd ω2 ρ2 q2)⟩⟩
end
end LW
namespace LW
open PySem PySem.Spec PyProof.Rows L2
def wipeP (ρ : List Sl) : List Nat → List Sl
  | [] => ρ
  | v :: vs => (wipeP ρ vs).set v .no
def Sl.pv : Sl → Bool
  | .no => true
  | .va _ => true
  | _ => false
def still (ρ : List Sl) : List Nat → Bool
  | [] => true
  | v :: vs => (match (wipeP ρ vs)[v]? with
    | some s => s.pv
    | none => true) && still ρ vs
section
variable {K : PySem.W.Frag} {W : Wrl} {F : Frm} {T T' T2 U : ASet} {ω ω' : W.Ω} {ρ ρ' : List Sl} {σ σ' : L2.St} {H H' H2 : Hp} {d : D} {v : V} {l : Addr} {ds : List D} {xs : List V} {i : Nat}
theorem Rel.wipe (R : Rel K W F T ω ρ σ H) : ∀ vs : List Nat, Rel K W F T ω (wipeP ρ vs) (L2.wipe σ vs) H
  | [] => R
  | v :: vs => (R.wipe vs).set_no none v
theorem set_set_self {α : Type} {xs : List α} {i : Nat} {a b : α} (h : xs[i]? = some a) : (xs.set i b).set i a = xs := by
  rw [List.set_set]
  refine List.ext_getElem? fun j => ?_
  rw [List.getElem?_set]
  split
  · rename_i z
    subst z
    rw [h]
    split
    · rfl
    · rename_i z
      rw [List.getElem?_eq_none (by omega)] at h
      cases h
  · rfl
theorem set_out {α : Type} {xs : List α} {i : Nat} {b : α} (h : xs[i]? = none) : xs.set i b = xs := List.set_eq_of_length_le (List.getElem?_eq_none_iff.mp h)
theorem wipeHid : ∀ (vs : List Nat), still ρ vs = true → Rel K W F T ω ρ σ H → ∃ hv : List (D × V), Rel K W (F.add hv) T ω (wipeP ρ vs) (L2.wipe σ vs) H ∧ ∀ F2 T2 ω2 H2, (∀ p, p ∈ hv → p ∈ F2.hid) → Rel K W F2 T2 ω2 (wipeP ρ vs) (L2.wipe σ vs) H2 → Rel K W F2 T2 ω2 ρ σ H2
  | [], _, R => ⟨[], R, fun F2 T2 ω2 H2 _ R2 => R2⟩
  | v :: vs, h, R => by
    have h' : ((match (wipeP ρ vs)[v]? with | some s => s.pv | none => true) && still ρ vs) = true := h
    obtain ⟨h1, h2⟩ := Bool.and_eq_true_iff.mp h'
    obtain ⟨hv, R1, back⟩ := wipeHid vs h2 R
    have R2 := R1.set_no none v
    cases e : (wipeP ρ vs)[v]? with
    | none =>
      refine ⟨hv, R2, fun F2 T2 ω2 H2 hh Rb => back F2 T2 ω2 H2 hh ?_⟩
      have e2 : (L2.wipe σ vs)[v]? = none := by
        rw [List.getElem?_eq_none_iff, ← R1.sl.len]
        exact List.getElem?_eq_none_iff.mp e
      have Rb' : Rel K W F2 T2 ω2 ((wipeP ρ vs).set v .no) ((L2.wipe σ vs).set v none) H2 := Rb
      rw [set_out e, set_out e2] at Rb'
      exact Rb'
    | some s =>
      rw [e] at h1
      obtain ⟨o, e2⟩ : ∃ o, (L2.wipe σ vs)[v]? = some o := by
        have := (List.getElem?_eq_some_iff.mp e).1
        rw [R1.sl.len] at this
        exact ⟨_, List.getElem?_eq_getElem this⟩
      cases s with
      | no =>
        refine ⟨hv, R2, fun F2 T2 ω2 H2 hh Rb => back F2 T2 ω2 H2 hh ?_⟩
        have Rb' : Rel K W F2 T2 ω2 ((wipeP ρ vs).set v .no) ((L2.wipe σ vs).set v none) H2 := Rb
        have Rc := Rb'.set_no o v
        rw [set_set_self e, set_set_self e2] at Rc
        exact Rc
      | va d =>
        obtain ⟨x, hx, rx⟩ := R1.sl.get_va e
        rw [e2] at hx
        cases hx
        refine ⟨(d, x) :: hv, ?_, fun F2 T2 ω2 H2 hh Rb => back F2 T2 ω2 H2 (fun p hp => hh p (List.mem_cons_of_mem _ hp)) ?_⟩
        · have : Rel K W ((F.add hv).add [(d, x)]) T ω (wipeP ρ vs) (L2.wipe σ vs) H := R1.put fun p hp => by
            have : p = (d, x) := by simpa using hp
            rw [this]; exact rx
          exact this.set_no none v
        · have Rb' : Rel K W F2 T2 ω2 ((wipeP ρ vs).set v .no) ((L2.wipe σ vs).set v none) H2 := Rb
          have Rc := Rb'.set_va (Rb'.hd _ (hh (d, x) List.mem_cons_self)) v
          rw [set_set_self e, set_set_self e2] at Rc
          exact Rc
      | ow l ds => cases h1
      | ex a dd x => cases h1
theorem owns_set_pv : ∀ {ρ : List Sl} {v : Nat}, (match ρ[v]? with | some s => s.pv | none => true) = true → owns (ρ.set v .no) = owns ρ
  | [], _, _ => rfl
  | .ow k ds :: r, 0, h => nomatch (show false = true from h)
  | .ex a b c :: r, 0, h => nomatch (show false = true from h)
  | .no :: r, 0, _ => rfl
  | .va _ :: r, 0, _ => rfl
  | .ow k ds :: r, v + 1, h => congrArg (k :: ·) (owns_set_pv (ρ := r) (v := v) (by simpa using h))
  | .no :: r, v + 1, h => owns_set_pv (ρ := r) (v := v) (by simpa using h)
  | .va _ :: r, v + 1, h => owns_set_pv (ρ := r) (v := v) (by simpa using h)
  | .ex _ _ _ :: r, v + 1, h => owns_set_pv (ρ := r) (v := v) (by simpa using h)
theorem owns_wipe : ∀ {vs : List Nat}, still ρ vs = true → owns (wipeP ρ vs) = owns ρ
  | [], _ => rfl
  | v :: vs, h => by
    have h' : ((match (wipeP ρ vs)[v]? with | some s => s.pv | none => true) && still ρ vs) = true := h
    obtain ⟨h1, h2⟩ := Bool.and_eq_true_iff.mp h'
    exact (owns_set_pv h1).trans (owns_wipe h2)
theorem owns_wipe_sub : ∀ vs : List Nat, (owns (wipeP ρ vs)).Sublist (owns ρ)
  | [] => List.Sublist.refl _
  | v :: vs => (owns_set_sub rfl v).trans (owns_wipe_sub vs)
theorem wipe_get {σ : L2.St} {j : Nat} : ∀ {vs : List Nat}, (L2.wipe σ vs)[j]? = if j ∈ vs then (if j < σ.length then some none else none) else σ[j]?
  | [] => by simp [L2.wipe]
  | v :: vs => by
    unfold L2.wipe
    rw [List.getElem?_set]
    by_cases h : v = j
    · subst h
      rw [if_pos rfl, wipe_length, if_pos List.mem_cons_self]
    · rw [if_neg h, wipe_get (vs := vs)]
      by_cases h2 : j ∈ vs
      · rw [if_pos h2, if_pos (List.mem_cons_of_mem _ h2)]
      · rw [if_neg h2, if_neg (by simp [h2]; exact fun z => h z.symm)]
theorem wipe_same {σ σ4 : L2.St} {vs ts : List Nat} (hl : σ4.length = (L2.wipe σ vs).length) (hf : ∀ j, j ∉ ts → σ4[j]? = (L2.wipe σ vs)[j]?) (ht : ∀ j, j ∈ ts → j ∈ vs) : L2.wipe σ4 vs = L2.wipe σ vs := by
  rw [wipe_length] at hl
  refine List.ext_getElem? fun j => ?_
  rw [wipe_get, wipe_get, hl]
  by_cases h : j ∈ vs
  · rw [if_pos h, if_pos h]
  · rw [if_neg h, if_neg h, hf j fun z => h (ht j z), wipe_get, if_neg h]
def Frm.grd (F : Frm) (l : Addr) : Frm := { F with S := fun a => F.S a ∨ a = l }
theorem Spr.grd {F : Frm} : ∀ a, Spr (F.grd l) T ρ a → Spr F T ρ a ∨ a = l := fun a z => by
  rcases z with (z | z) | z | z
  · exact .inl (.inl z)
  · exact .inr z
  · exact .inl (.inr (.inl z))
  · exact .inl (.inr (.inr z))
theorem Spr.ungrd {F : Frm} : ∀ a, Spr F T ρ a → Spr (F.grd l) T ρ a := fun a z => by
  rcases z with z | z | z
  · exact .inl (.inl z)
  · exact .inr (.inl z)
  · exact .inr (.inr z)
theorem Rel.guard (R : Rel K W F T ω ρ σ H) (h : H l = none) (o : HO) : Rel K W (F.grd l) T ω ρ σ (upd H l o) := by
  have g : GrP nop H (upd H l o) := GrP.new h
  have R1 := R.grow g
  have ee : ∀ a, Spr (F.grd l) T ρ a → Spr F T ρ a ∨ H a = none := fun a z => (Spr.grd a z).imp id fun z => by rw [z]; exact h
  refine ⟨R1.gr, R1.inv, R1.tn, fun k hk => ⟨(R1.own k hk).1, (R1.own k hk).2.1, fun z => Or.elim (show F.S k ∨ k = l from z) (R1.own k hk).2.2 fun z => R.spl k (.inr (.inr hk)) (by rw [z]; exact h)⟩, R1.nd, fun a z => ?_, fun p hp => (R.hd p hp).ext g (fun _ z => z.elim) ee, R.sl.ext g (fun _ z => z.elim) ee fun _ _ z => z⟩
  rcases z with z | z
  · exact R1.s0 a z
  · rw [z]
    exact ⟨fun z => (by rw [upd_same] at z; cases z), fun t => R.spl l (.inr (.inl t)) h⟩
theorem Rel.unguard (R : Rel K W (F.grd l) T ω ρ σ H) : Rel K W F T ω ρ σ H :=
  ⟨R.gr, R.inv, R.tn, fun k hk => ⟨(R.own k hk).1, (R.own k hk).2.1, fun z => (R.own k hk).2.2 (.inl z)⟩, R.nd, fun a z => R.s0 a (.inl z), fun p hp => (R.hd p hp).less Spr.ungrd, R.sl.less Spr.ungrd⟩
end
abbrev Wo0 : WX := fun _ _ _ _ => False
section
variable {X : Cx} {W : Wrl} {Wo : WX} {mi m : Md} {qi : QTI W} {g : QTG} {qt : QTT W} {qe : QT W} {vs ts : List Nat} {c : Expr} {ifs : List Expr}
def qLc (qi : QTI W) (g : QTG) (qt : QTT W) (qe : QT W) (vs : List Nat) : QT W := fun ω ρ Q E => qi ω ρ (fun ω1 ds => still ρ vs = true ∧ ds.length ≤ 1000000 ∧ ∃ I : Nat → W.Ω → List D → Prop, I 0 ω1 [] ∧
  (∀ i d ω acc, ds[i]? = some d → I i ω acc → acc.length ≤ i → g d (wipeP ρ vs) fun ρ2 => wipeP ρ2 vs = wipeP ρ vs ∧ qt ω ρ2 (fun ω2 b => if b = true then qe ω2 ρ2 (fun ω3 y => I (i + 1) ω3 (acc ++ [y])) (fun _ _ => False) else I (i + 1) ω2 acc) (fun _ _ => False)) ∧
  ∀ ω acc, I ds.length ω acc → Q ω (.lst acc)) E
def qYes : QTT W := fun ω _ Q _ => Q ω true
theorem PTs.imp {t t' : TT} (h : PTs X ifs t) (k : ∀ σ H Q, t' σ H Q → t σ H Q) : PTs X ifs t' := ⟨fun pins s σ H Q I q => h.run pins s σ H Q I (k σ H Q q)⟩
def QTs (X : Cx) (W : Wrl) (Wo : WX) (ifs : List Expr) (q : QTT W) : Prop := PTs X ifs (lfT X.K W Wo q)
theorem qts_nil : QTs X W Wo [] qYes := PTs.imp pts_nil fun σ H Q ⟨F, T, ω, ρ, Qp, Ep, R, q, hx, k⟩ => k T ω true H R .refl q
theorem qts_one (h : QB X W Wo c qt) : QTs X W Wo [c] qt := pts_one h
theorem lf_lc {K : PySem.W.Frag} (hts : ∀ j, j ∈ ts → j ∈ vs) (σ : L2.St) (H : Hp) (Q : VK) (h : lfE .F K W Wo (qLc qi g qt qe vs) σ H Q) : tLc (lfI mi K W Wo qi) (lfG mi K W ts g) (lfT K W Wo0 qt) (lfE .A K W Wo0 qe) vs σ H Q := by
  obtain ⟨F, T, ω, ρ, Qp, Ep, R, q, hx, k⟩ := h
  refine ⟨F, T, ω, ρ, _, Ep, R, q, hx, fun T1 ω1 h ds J H1 R1 e1 it ⟨hst, hlen, I, i0, hstep, hend⟩ D hD => ?_⟩
  obtain ⟨hv, Rw, back⟩ := wipeHid vs hst R1
  have F1D : F.H D = none := R1.gr.live D hD
  have Rg := Rw.guard hD (.lst [])
  have eD : Ext T1 H1 T1 (upd H1 D (.lst [])) := Ext.of0 (GrP.new hD)
  have hh : ∀ p, p ∈ h → p ∈ (((F.add h).add hv).grd D).hid := fun p hp => List.mem_append_right _ (List.mem_append_left _ hp)
  have hhv : ∀ p, p ∈ hv → p ∈ ((F.add h).add hv).hid := fun p hp => List.mem_append_left _ hp
  refine ⟨fun i n H => i + n = ds.length ∧ ∃ T ω acc xs, Rel K W (((F.add h).add hv).grd D) T ω (wipeP ρ vs) (L2.wipe σ vs) H ∧ Ext T1 H1 T H ∧ H D = some (.lst xs) ∧ RepsA K H (Spr (((F.add h).add hv).grd D) T (wipeP ρ vs)) acc xs ∧ acc.length ≤ i ∧ I i ω acc, ⟨ds.length, by omega, T1, ω1, [], [], Rg, eD, upd_same, .nil, Nat.le_refl _, i0⟩, fun i n H2 ⟨hn, T2, ω2, acc, xs, R2, e2, hD2, ra, hl, q2⟩ => ?_⟩
  obtain ⟨h1, h2, h3⟩ := it _ T2 ω2 _ _ H2 hh R2 i
  rcases Nat.lt_or_ge i ds.length with hi | hi
  · refine .inr ⟨h1 hi, fun H' => ∃ T ω acc xs, Rel K W (((F.add h).add hv).grd D) T ω (wipeP ρ vs) (L2.wipe σ vs) H' ∧ Ext T1 H1 T H' ∧ H' D = some (.lst xs) ∧ RepsA K H' (Spr (((F.add h).add hv).grd D) T (wipeP ρ vs)) acc xs ∧ acc.length ≤ i + 1 ∧ I (i + 1) ω acc, fun H' q => ⟨n - 1, by omega, by omega, q⟩, fun x H3 hy => ?_⟩
    obtain ⟨g3, rx⟩ := h3 ds[i] x H3 (List.getElem?_eq_getElem hi) hy
    have R3 := R2.grow g3
    have x3 : Ext T2 H2 T2 H3 := Ext.of0 g3
    refine ⟨_, T2, ω2, _, ds[i], _, R3, rx, hstep i _ ω2 acc (List.getElem?_eq_getElem hi) q2 hl, fun ρ4 σ4 R4 l4 f4 ⟨w4, q4⟩ => ⟨wipe_same l4 f4 hts, _, T2, ω2, ρ4, _, _, R4, q4, fun _ _ _ _ _ _ _ _ z => z, fun T5 ω5 b H5 R5 e5 q5 => ?_⟩⟩
    have sw : L2.wipe σ4 vs = L2.wipe σ vs := wipe_same l4 f4 hts
    have done : ∀ T6 ω6 H6, Rel K W (((F.add h).add hv).grd D) T6 ω6 ρ4 σ4 H6 → Ext T2 H3 T6 H6 → Rel K W (((F.add h).add hv).grd D) T6 ω6 (wipeP ρ vs) (L2.wipe σ vs) H6 ∧ Ext T1 H1 T6 H6 ∧ H6 D = some (.lst xs) ∧ RepsA K H6 (Spr (((F.add h).add hv).grd D) T6 (wipeP ρ vs)) acc xs := fun T6 ω6 H6 R6 e6 => by
      have z := R6.wipe vs
      rw [w4, sw] at z
      refine ⟨z, e2.trans (x3.trans e6), (x3.trans e6).gr.keep _ _ hD2 (.inr (R2.s0 D (.inr rfl)).2), R2.ext_reps (x3.trans e6) ra⟩
    cases b with
    | false =>
      obtain ⟨z1, z2, z3, z4⟩ := done T5 ω5 H5 R5 e5
      exact ⟨T5, ω5, acc, xs, z1, z2, z3, z4, by omega, q5⟩
    | true =>
      refine ⟨_, T5, ω5, ρ4, _, _, R5, q5, fun _ _ _ _ _ _ _ _ z => z, fun T6 ω6 y w H6 R6 e6 r6 q6 => ?_⟩
      obtain ⟨z1, z2, z3, z4⟩ := done T6 ω6 H6 R6 (e5.trans e6)
      have gD : GrP (fun a => a = D) H6 (upd H6 D (.lst (xs ++ [w]))) := GrP.wr rfl fun u hu => by rw [z3] at hu; cases hu; rfl
      have ry : RepA K H6 (Spr (((F.add h).add hv).grd D) T6 (wipeP ρ vs)) y w := RepA.less r6 fun a z => by
        rcases z with z | z | z
        · exact .inl z
        · exact .inr (.inl z)
        · exact .inr (.inr ((owns_wipe_sub vs).subset (by rw [w4]; exact z)))
      have hxl : xs.length ≤ 1000000 := by have := z4.len; omega
      refine ⟨xs, z3, Nat.lt_of_le_of_lt hxl (by decide), T6, ω6, acc ++ [y], xs ++ [w], z1.wrS (.inr rfl) F1D (fun u hu => by rw [z3] at hu; cases hu; rfl), ⟨z2.gr.trans gD fun a z => by rw [z]; exact .inr hD, z2.tn⟩, upd_same, ?_, by rw [List.length_append]; show acc.length + 1 ≤ i + 1; omega, q6⟩
      exact (RepsA.append (.cons ry .nil) z4).ext gD (fun a z => by rw [z]; exact .inl (.inl (.inr rfl))) fun a z => .inl z
  · have : i = ds.length := by omega
    subst this
    refine .inl ⟨h2 hi, ?_⟩
    have Rf : Rel K W F T2 ω2 ρ σ H2 := (back _ T2 ω2 H2 hhv R2.unguard).drop.drop
    refine k T2 ω2 (.lst acc) (.ref D) H2 Rf (e1.trans e2) ⟨D, xs, acc, rfl, rfl, e1.gr.live D hD, fun z => ?_, hD2, ra.less fun a z => ?_⟩ (hend ω2 acc q2)
    · rcases z with z | z | z
      · exact (R1.s0 D z).1 hD
      · exact (R2.s0 D (.inr rfl)).2 z
      · exact R1.spl D (.inr (.inr z)) hD
    · rcases z with (z | z | z) | z
      · exact .inl (.inl z)
      · exact .inr (.inl z)
      · exact .inr (.inr (by rw [owns_wipe hst]; exact z))
      · exact .inl (.inr z)
variable {elt tg iter : Expr} {scope : Scope} {own : List (Str × Nat)} {pos spos py : Pos} {i : Nat} {y : Str}
theorem qe_lc (hc : X.calm = true) (hN : X.N.Nodup) (hi : QI X mi W Wo tg iter qi) (ok : BlkOk X.N X.env.scope scope own)
    (hg : ∀ (s : Shared) (H : Hp) (C : Addr) (cl : List (Str × Addr)) (fp : List Addr), QG (X.blk s H scope (compEnvC scope cl C X.env) fp) mi W tg ts g) (ht : ∀ (s : Shared) (H : Hp) (C : Addr) (cl : List (Str × Addr)) (fp : List Addr), QTs (X.blk s H scope (compEnvC scope cl C X.env) fp) W Wo0 ifs qt)
    (he : ∀ (s : Shared) (H : Hp) (C : Addr) (cl : List (Str × Addr)) (fp : List Addr), QE (X.blk s H scope (compEnvC scope cl C X.env) fp) .A W Wo0 elt qe) (hts : ∀ j, j ∈ ts → j ∈ own.map (·.2) := by decide) (hs : ∀ x, foldedSetIterable iter X.env x = pure x := by intro _; rfl) :
    QE X .F W Wo (.ListComp elt [⟨tg, iter, ifs, 0⟩] scope pos) (qLc qi g qt qe (own.map (·.2))) := PE.imp (pe_lc (g := lfG mi X.K W ts g) (tt := lfT X.K W Wo0 qt) (te := lfE .A X.K W Wo0 qe) hc hN hi ok hg ht he hs) (lf_lc hts)
theorem ps_setQ (hc : X.calm = true) (hN : X.N.Nodup) (hy : X.N[i]? = some y) (hyl : X.env.scope.names.lookup y = some .local)
    (hsw : swapsWith (.ListComp elt [⟨tg, iter, ifs, 0⟩] scope pos) (some (.Name y py)) spos.line X.env = pure true) (hi : QI X mi W Wo tg iter qi) (ok : BlkOk X.N X.env.scope scope own)
    (hg : ∀ (s : Shared) (H : Hp) (C : Addr) (cl : List (Str × Addr)) (fp : List Addr), QG (X.blk s H scope (compEnvC scope cl C X.env) fp) mi W tg ts g) (ht : ∀ (s : Shared) (H : Hp) (C : Addr) (cl : List (Str × Addr)) (fp : List Addr), QTs (X.blk s H scope (compEnvC scope cl C X.env) fp) W Wo0 ifs qt)
    (he : ∀ (s : Shared) (H : Hp) (C : Addr) (cl : List (Str × Addr)) (fp : List Addr), QE (X.blk s H scope (compEnvC scope cl C X.env) fp) .A W Wo0 elt qe) (hts : ∀ j, j ∈ ts → j ∈ own.map (·.2)) (hs : ∀ x, foldedSetIterable iter X.env x = pure x) :
    PS X (.Assign [.Name y py] (.ListComp elt [⟨tg, iter, ifs, 0⟩] scope pos) spos) (tAsg (lfE .F X.K W Wo (qLc qi g qt qe (own.map (·.2)))) (gName i)) := PS.imp (ps_setLc (g := lfG mi X.K W ts g) (tt := lfT X.K W Wo0 qt) (te := lfE .A X.K W Wo0 qe) hc hN hy hyl hsw hi ok hg ht he hs) fun D σ H h => lf_lc hts σ H _ h
variable {mr : Md}
theorem qs_setLc (hc : X.calm = true) (hN : X.N.Nodup) (hy : X.N[i]? = some y) (hyl : X.env.scope.names.lookup y = some .local)
    (hsw : swapsWith (.ListComp elt [⟨tg, iter, ifs, 0⟩] scope pos) (some (.Name y py)) spos.line X.env = pure true) (hi : QI X mi W Wo tg iter qi) (ok : BlkOk X.N X.env.scope scope own)
    (hg : ∀ (s : Shared) (H : Hp) (C : Addr) (cl : List (Str × Addr)) (fp : List Addr), QG (X.blk s H scope (compEnvC scope cl C X.env) fp) mi W tg ts g) (ht : ∀ (s : Shared) (H : Hp) (C : Addr) (cl : List (Str × Addr)) (fp : List Addr), QTs (X.blk s H scope (compEnvC scope cl C X.env) fp) W Wo0 ifs qt)
    (he : ∀ (s : Shared) (H : Hp) (C : Addr) (cl : List (Str × Addr)) (fp : List Addr), QE (X.blk s H scope (compEnvC scope cl C X.env) fp) .A W Wo0 elt qe) (hts : ∀ j, j ∈ ts → j ∈ own.map (·.2) := by decide) (hs : ∀ x, foldedSetIterable iter X.env x = pure x := by intro _; rfl) :
    QS X mr W Wo (.Assign [.Name y py] (.ListComp elt [⟨tg, iter, ifs, 0⟩] scope pos) spos) (sSet i (qLc qi g qt qe (own.map (·.2)))) := PS.imp (ps_setQ hc hN hy hyl hsw hi ok hg ht he hts hs) fun D σ H ⟨F, T, ω, ρ, P, R, q, S⟩ =>
  ⟨F, T, ω, ρ, _, _, R, q, S.xok, fun T' ω' d v H' R' e r q' => S.nx T' ω' _ _ H' (R'.set_va (RF.a r) i) q'⟩
theorem qs_setLcO (hc : X.calm = true) (hN : X.N.Nodup) (hy : X.N[i]? = some y) (hyl : X.env.scope.names.lookup y = some .local)
    (hsw : swapsWith (.ListComp elt [⟨tg, iter, ifs, 0⟩] scope pos) (some (.Name y py)) spos.line X.env = pure true) (hi : QI X mi W Wo tg iter qi) (ok : BlkOk X.N X.env.scope scope own)
    (hg : ∀ (s : Shared) (H : Hp) (C : Addr) (cl : List (Str × Addr)) (fp : List Addr), QG (X.blk s H scope (compEnvC scope cl C X.env) fp) mi W tg ts g) (ht : ∀ (s : Shared) (H : Hp) (C : Addr) (cl : List (Str × Addr)) (fp : List Addr), QTs (X.blk s H scope (compEnvC scope cl C X.env) fp) W Wo0 ifs qt)
    (he : ∀ (s : Shared) (H : Hp) (C : Addr) (cl : List (Str × Addr)) (fp : List Addr), QE (X.blk s H scope (compEnvC scope cl C X.env) fp) .A W Wo0 elt qe) (hts : ∀ j, j ∈ ts → j ∈ own.map (·.2) := by decide) (hs : ∀ x, foldedSetIterable iter X.env x = pure x := by intro _; rfl) :
    QS X mr W Wo (.Assign [.Name y py] (.ListComp elt [⟨tg, iter, ifs, 0⟩] scope pos) spos) (sSetO i (qLc qi g qt qe (own.map (·.2)))) := PS.imp (ps_setQ hc hN hy hyl hsw hi ok hg ht he hts hs) fun D σ H ⟨F, T, ω, ρ, P, R, q, S⟩ =>
  ⟨F, T, ω, ρ, _, _, R, q, S.xok, fun T' ω' d v H' R' e ⟨l, xs, ds, h1, h2, h3, h4, h5, h6⟩ ⟨ds', z, q'⟩ => by
    subst h1 h2
    cases z
    exact S.nx T' ω' _ _ H' (R.set_ow R' e h3 h4 h5 h6 i) (q' l)⟩
end
end LW
namespace LW
open PySem PySem.Spec PyProof.Rows L2
def startP (N : List Str) (ds : List D) : List Sl := ds.map .va ++ List.replicate (N.length - ds.length) .no
theorem owns_start (N : List Str) (ds : List D) : owns (startP N ds) = [] := by
  unfold startP
  induction ds with
  | nil =>
    have : ∀ n, owns (List.replicate n Sl.no) = [] := fun n => by
      induction n with
      | zero => rfl
      | succ n ih => exact ih
    exact this _
  | cons d ds ih =>
    have : ∀ (a b : List Sl), owns (Sl.va d :: a ++ b) = owns (a ++ b) := fun a b => rfl
    have h2 : ∀ (ds : List D) (n : Nat), owns (ds.map Sl.va ++ List.replicate n Sl.no) = [] := fun ds n => by
      induction ds with
      | nil =>
        induction n with
        | zero => rfl
        | succ n ih => exact ih
      | cons d ds ih => exact ih
    exact h2 _ _
theorem slsR_start {K : PySem.W.Frag} {H : Hp} {S : ASet} (N : List Str) : ∀ {ds : List D} {vs : List V}, RepsA K H S ds vs → ∀ n, SlsR K H S (ds.map .va ++ List.replicate n .no) (vs.map some ++ List.replicate n none)
  | _, _, .nil, n => by
    induction n with
    | zero => exact .nil
    | succ n ih => exact .no ih
  | _, _, .cons h r, n => .va h (slsR_start N r n)
def endP (mr : Md) (W : Wrl) (Q : W.Ω → D → Prop) (E : W.Ω → Exn → Prop) : PEn W := { nx := fun ω _ => (match mr with | .F => False | _ => Q ω .non), rt := Q, ex := fun ω x _ => E ω x }
theorem okQ {P : Program} {w : World} {K : PySem.W.Frag} {mg : Str → Option Value} {base : Heap} {x qual : Str} {params : Arguments} {body : List Stmt} {scope : Scope} {dvs : List V} {kws : List (Str × V)} {f : Addr} {fd : FuncData} {N ps : List Str} {k : Nat} {mr : Md} {W : Wrl} {pf : PSp W} {s : QTS W}
    (F : FunD K x qual params body scope dvs kws f fd) (S : FnScope N ps scope) (hl : ∀ ω ds Q E, pf ω ds Q E → ds.length = ps.length)
    (hb : ∀ (cdv : Value) (A : Around) (outer : List Env) (s0 : Shared) (H : Hp) (E : XK), Room k (A.deeper (envOfC qual scope s0.heap.objs.size f cdv)) →
      L2N.Takes (cxOf (L2N.CX P w) P w K mg base N qual scope f cdv A outer s0 H E) (fun cls d _ H' => E cls d H') →
      PassesOwn (model P w) (cxOf (L2N.CX P w) P w K mg base N qual scope f cdv A outer s0 H E).A (cxOf (L2N.CX P w) P w K mg base N qual scope f cdv A outer s0 H E).env (cxOf (L2N.CX P w) P w K mg base N qual scope f cdv A outer s0 H E).xe →
      QSs (cxOf (L2N.CX P w) P w K mg base N qual scope f cdv A outer s0 H E) mr W (fun cls d _ H' => E cls d H') body s)
    (hq : ∀ ω ds Q E, pf ω ds Q E → s (endP mr W Q E) ω (startP N ds)) : FnOk P w K mg base (L2N.CX P w) (k + 1) f fd ps (spM mr K W pf) := by
  refine okT F S (fun vs H Q E h => ?_) fun cdv A outer s0 H vs Q E hr h tk pown => ⟨_, hb cdv A outer s0 H E hr tk pown, ?_⟩
  · obtain ⟨S', T, ω, ds, Qp, Ep, hS, hi, r, q, k, kx⟩ := h
    exact r.len.trans (hl _ _ _ _ q)
  · obtain ⟨S', T, ω, ds, Qp, Ep, hS, hi, r, q, k, kx⟩ := h
    have es : ∀ a, Spr ⟨H, S', T, []⟩ T (startP N ds) a → S' a ∨ T a := fun a z => by
      rcases z with z | z | z
      · exact .inl z
      · exact .inr z
      · rw [owns_start] at z; cases z
    have en : N.length - vs.length = N.length - ds.length := by rw [r.len]
    have R : Rel K W ⟨H, S', T, []⟩ T ω (startP N ds) (L2.start N vs) H := by
      refine ⟨GrP.refl _ _, hi, fun a z => .inl z, fun l hl => ?_, ?_, hS, fun p hp => ?_, ?_⟩
      · rw [owns_start] at hl; cases hl
      · rw [owns_start]; exact List.nodup_nil
      · cases hp
      · unfold L2.start startP
        rw [en]
        exact (slsR_start N (r.less es) _)
    refine ⟨⟨H, S', T, []⟩, T, ω, startP N ds, endP mr W Qp Ep, R, hq ω ds Qp Ep q, ⟨fun T' ω' ρ' σ' H' R' q' => ?_, fun _ _ _ _ _ _ z => z.elim, fun _ _ _ _ _ _ z => z.elim, fun T' ω' ρ' σ' H' d v R' rt q' => k T' ω' d v H' ⟨R'.gr, R'.tn⟩ R'.inv rt q', fun T' ω' ρ' σ' H' x cls dd R' xr q' => kx T' ω' x cls dd H' ⟨R'.gr, R'.tn⟩ R'.inv xr q'⟩⟩
    cases mr with
    | F => exact (show False from q').elim
    | A => exact k T' ω' .non .non H' ⟨R'.gr, R'.tn⟩ R'.inv (show RepA K H' _ .non .non from .non) q'
    | O => exact k T' ω' .non .non H' ⟨R'.gr, R'.tn⟩ R'.inv (show RepA K H' _ .non .non from .non) q'
    | C => exact k T' ω' .non .non H' ⟨R'.gr, R'.tn⟩ R'.inv (show RepA K H' _ .non .non from .non) q'
def endsNP {W : Wrl} (i : Nat) (P : PEn W) : PEn W := { nx := fun ω ρ => P.nx ω (ρ.set i .no), rt := P.rt, bk := fun ω ρ => P.bk ω (ρ.set i .no), ct := fun ω ρ => P.ct ω (ρ.set i .no), ex := fun _ _ _ => False }
def noEx {W : Wrl} (P : PEn W) : PEn W := { P with ex := fun _ _ _ => False }
abbrev Cls3 (W : Wrl) := List (Addr × Option Nat × (Exn → Addr → Option Addr → QTS W))
def hsel (K : PySem.W.Frag) {W : Wrl} : Cls3 W → PEn W → W.Ω → Exn → List Sl → Prop
  | [], P, ω, x, ρ => P.ex ω x ρ
  | (C, o, u) :: r, P, ω, x, ρ => ∃ b, PySem.W.exmOne K (.ref x.C) (.ref C) = some b ∧ if b = true then (match o with
    | some i => ∀ a dd, u x a dd (endsNP i P) ω (ρ.set i (.ex a dd x))
    | none => ∀ a dd, u x a dd (noEx P) ω ρ) else hsel K r P ω x ρ
def sTry (K : PySem.W.Frag) {W : Wrl} (s : QTS W) (hs : Cls3 W) : QTS W := fun P ω ρ => s { P with ex := fun ω x ρ => hsel K hs P ω x ρ } ω ρ
section
variable {X : Cx} {W : Wrl} {Wo : WX} {mr : Md} {s : QTS W} {body : List Stmt} {h0 : ExceptHandler} {hds : List ExceptHandler} {pos : Pos}
def lfX (mr : Md) (K : PySem.W.Frag) (W : Wrl) (u : Exn → Addr → Option Addr → QTS W) (a : Addr) (cls : Value) (d : Option Addr) : TS := fun D σ H => ∃ x, cls = .ref x.C ∧ XDict K H x d ∧ ∃ (F : Frm) (T : ASet) (ω : W.Ω) (ρ : List Sl) (P : PEn W), Rel K W F T ω ρ σ H ∧ u x a d P ω ρ ∧ Sim mr K W Wo0 F P D
inductive QHd (X : Cx) (mr : Md) (W : Wrl) : List ExceptHandler → Cls3 W → Prop
  | nil : QHd X mr W [] []
  | only {x : Str} {C : Addr} {u : Exn → Addr → Option Addr → QTS W} {b0 : Stmt} {su : List Stmt} {np p : Pos} {hds : List ExceptHandler} {l : Cls3 W} (hc : Names X x (.ref C))
      (hsu : ∀ (a : Addr) (oe : Obj) (d : Option Addr) (pn : List (Addr × Obj)) (x : Exn), L2N.Zn (.ref x.C) d oe → (∃ vs, oe.data = .fields vs) → QSs (X.suite a ((a, oe) :: pn)) mr W Wo0 (b0 :: su) (u x a d)) (r : QHd X mr W hds l) :
      QHd X mr W (.ExceptHandler (some (.Name x np)) none (b0 :: su) p :: hds) ((C, none, u) :: l)
  | as_ {x n : Str} {i : Nat} {C : Addr} {u : Exn → Addr → Option Addr → QTS W} {b0 : Stmt} {su : List Stmt} {np p : Pos} {hds : List ExceptHandler} {l : Cls3 W} (hN : X.N.Nodup) (hi : X.N[i]? = some n) (hln : X.env.kindOf n = some .local) (hc : Names X x (.ref C))
      (hsu : ∀ (a : Addr) (oe : Obj) (d : Option Addr) (pn : List (Addr × Obj)) (x : Exn), L2N.Zn (.ref x.C) d oe → (∃ vs, oe.data = .fields vs) → QSs (X.suite a ((a, oe) :: pn)) mr W Wo0 (b0 :: su) (u x a d)) (r : QHd X mr W hds l) :
      QHd X mr W (.ExceptHandler (some (.Name x np)) (some n) (b0 :: su) p :: hds) ((C, some i, u) :: l)
def toL (mr : Md) (K : PySem.W.Frag) {W : Wrl} : Cls3 W → List (Value × Option Nat × TSu)
  | [] => []
  | (C, o, u) :: r => (.ref C, o, fun a cls d => lfX mr K W u a cls d) :: toL mr K r
theorem QHd.to {hds : List ExceptHandler} {l : Cls3 W} (h : QHd X mr W hds l) : HdsE X hds (toL mr X.K l) := by
  induction h with
  | nil => exact .nil
  | only hc hsu r ih =>
    rename_i u _ _ _ _ _ _
    exact .only (ts := fun a cls d _ _ => lfX mr X.K W u a cls d) hc (fun a oe cls d pn hz hf => ⟨fun pins s σ H D I ⟨x, e, xd, F, T, ω, ρ, P, R, q, S⟩ => by
      subst e
      exact (hsu a oe d pn x hz hf).run pins s σ H D I ⟨F, T, ω, ρ, P, R, q, S⟩⟩) ih
  | as_ hN hi hln hc hsu r ih =>
    rename_i i _ u _ _ _ _ _ _
    exact .as_ (ts := fun a cls d _ _ => lfX mr X.K W u a cls d) hN hi hln hc (fun a oe cls d pn hz hf => ⟨fun pins s σ H D I ⟨x, e, xd, F, T, ω, ρ, P, R, q, S⟩ => by
      subst e
      exact (hsu a oe d pn x hz hf).run pins s σ H D I ⟨F, T, ω, ρ, P, R, q, S⟩⟩) ih
theorem hsel_ok {K : PySem.W.Frag} {F : Frm} {P : PEn W} {D : Ends} (S : Sim mr K W Wo F P D) : ∀ {l : Cls3 W} {T : ASet} {ω : W.Ω} {ρ : List Sl} {σ : L2.St} {H : Hp} {x : Exn} {d : Option Addr}, Rel K W F T ω ρ σ H → XDict K H x d → hsel K l P ω x ρ → wHds K Wo D (toL mr K l) (.ref x.C) d σ H
  | [], _, _, _, _, _, _, _, R, xd, q => S.ex _ _ _ _ _ _ _ _ R ⟨rfl, xd⟩ q
  | (C, o, u) :: r, T, ω, ρ, σ, H, x, d, R, xd, ⟨b, hb, q⟩ => by
    refine ⟨b, hb, fun hb1 a na => ?_, fun hb0 => ?_⟩
    · subst hb1
      rw [if_pos rfl] at q
      cases o with
      | none => exact ⟨x, rfl, xd, F, T, ω, ρ, noEx P, R, q a d, ⟨S.nx, S.bk, S.ct, S.rt, fun _ _ _ _ _ _ _ _ _ _ z => z⟩⟩
      | some i => exact ⟨x, rfl, xd, F, T, ω, ρ.set i (.ex a d x), endsNP i P, R.set_ex xd i, q a d, ⟨fun T ω ρ σ H R q => S.nx T ω _ _ H (R.set_no none i) q, fun T ω ρ σ H R q => S.bk T ω _ _ H (R.set_no none i) q, fun T ω ρ σ H R q => S.ct T ω _ _ H (R.set_no none i) q, S.rt, fun _ _ _ _ _ _ _ _ _ _ z => z⟩⟩
    · subst hb0
      rw [if_neg Bool.false_ne_true] at q
      exact hsel_ok S R xd q
theorem qs_try {K : PySem.W.Frag} {l : Cls3 W} (hK : X.K = K) (hs : X.stack = X.env :: X.outer) (hf : X.env.frame = some X.env.locals) (tk : L2N.Takes X Wo)
    (hb : ∀ (Wq : WX) (pn : List (Addr × Obj)) (xe : Value → Shared → Prop), L2N.Takes (X.tr pn xe) Wq → PassesOwn (model X.prog X.w) X.A X.env xe → QSs (X.tr pn xe) mr W Wq body s) (hh : QHd X mr W (h0 :: hds) l) :
    QS X mr W Wo (.Try body (h0 :: hds) [] [] pos) (sTry K s l) := by subst hK; exact PS.imp (ps_tryE (tb := fun Wq _ _ => lfS mr X.K W Wq s) hs hf tk hb hh.to) fun D σ H ⟨F, T, ω, ρ, P, R, q, S⟩ =>
  ⟨F, T, ω, ρ, _, R, q, ⟨S.nx, S.bk, S.ct, S.rt, fun T ω ρ σ H x cls dd R ⟨e, xd⟩ q => by
    subst e
    exact hsel_ok S R xd q⟩⟩
end
section
variable {X : Cx} {W : Wrl} {Wo : WX} {a C : Addr} {oe : Obj} {d : Option Addr} {pn : List (Addr × Obj)} {x : Exn} {i : Nat} {e e2 : Expr} {p pos : Pos}
def qIsE (K : PySem.W.Frag) (i : Nat) (x : Exn) (a : Addr) (d : Option Addr) (C : Addr) : QT W := fun ω ρ Q _ => ρ[i]? = some (.ex a d x) ∧ ExcC K x.C ∧ ∃ b, PySem.W.kitOne K (.ref x.C) (.ref C) = some b ∧ Q ω (.bl b)
end
end LW
namespace LW
open PySem PySem.Spec PyProof.Rows L2
section
variable {W : Wrl} {P : PEn W} {ω : W.Ω} {ρ : List Sl} {Q : W.Ω → D → Prop} {E : W.Ω → Exn → Prop} {QB : W.Ω → Bool → Prop} {QL : W.Ω → List D → Prop} {Q1 : D → Prop} {B1 : Bool → Prop} {q qa qb qc : QT W} {qt qu : QTT W} {qs : QTA W} {s u : QTS W} {i j : Int} {n : Nat} {d e : D} {ds es : List D} {g : QTG} {gs : QTGs} {qi : QTI W} {k : List Sl → Prop} {pf : PSp W} {C : Addr} {m : Str}
theorem v_seq (h : s { P with nx := u P } ω ρ) : sSeq s u P ω ρ := h
theorem v_nx (h : P.nx ω ρ) : sNx P ω ρ := h
theorem v_drop (h : qa ω ρ (fun ω1 _ => P.nx ω1 ρ) fun ω1 x => P.ex ω1 x ρ) : sDrop qa P ω ρ := h
theorem v_ret (h : qa ω ρ (fun ω1 d => P.rt ω1 d) fun ω1 x => P.ex ω1 x ρ) : sRet qa P ω ρ := h
theorem v_retO {l : Addr} (h1 : ρ[n]? = some (.ow l ds)) (h : P.rt ω (.lst ds)) : sRetO n P ω ρ := ⟨l, ds, h1, h⟩
theorem v_retN (h : P.rt ω .non) : sRetN P ω ρ := h
theorem v_brk (h : P.bk ω ρ) : sBrk P ω ρ := h
theorem v_cnt (h : P.ct ω ρ) : sCnt P ω ρ := h
theorem v_frz (h : s P ω (frz ρ n)) : sFrz n s P ω ρ := h
theorem v_if (h : qt ω ρ (fun ω1 b => if b = true then s P ω1 ρ else u P ω1 ρ) fun ω1 x => P.ex ω1 x ρ) : sIf qt s u P ω ρ := h
theorem v_set (h : qa ω ρ (fun ω1 d => P.nx ω1 (ρ.set n (.va d))) fun ω1 x => P.ex ω1 x ρ) : sSet n qa P ω ρ := h
def kSetO (n : Nat) (P : PEn W) (ω1 : W.Ω) (ρ : List Sl) (d : D) : Prop := ∃ ds, d = .lst ds ∧ ∀ l, P.nx ω1 (ρ.set n (.ow l ds))
theorem v_setO (h : qa ω ρ (fun ω1 d => kSetO n P ω1 ρ d) fun ω1 x => P.ex ω1 x ρ) : sSetO n qa P ω ρ := h
theorem v_kSetO (h : ∀ l, P.nx ω (ρ.set n (.ow l ds))) : kSetO n P ω ρ (.lst ds) := ⟨ds, rfl, h⟩
def kAug (n : Nat) (f : Int → Int → Int) (i : Int) (P : PEn W) (ω1 : W.Ω) (ρ : List Sl) (d : D) : Prop := ∃ k, d = .int k ∧ P.nx ω1 (ρ.set n (.va (.int (f i k))))
theorem v_aug {f : Int → Int → Int} (h1 : ρ[n]? = some (.va (.int i))) (h : qa ω ρ (fun ω1 d => kAug n f i P ω1 ρ d) fun ω1 x => P.ex ω1 x ρ) : sAug n f qa P ω ρ := ⟨i, h1, h⟩
theorem v_kAug {f : Int → Int → Int} (h : P.nx ω (ρ.set n (.va (.int (f i j))))) : kAug n f i P ω ρ (.int j) := ⟨j, rfl, h⟩
theorem v_asg (h : qa ω ρ (fun ω1 d => g d ρ fun ρ' => P.nx ω1 ρ') fun ω1 x => P.ex ω1 x ρ) : sAsg g qa P ω ρ := h
theorem v_gnm (h : k (ρ.set n (.va d))) : gnm n d ρ k := h
theorem v_gtp (h1 : ds.length = n) (h : gs ds ρ k) : gtp n gs (.tup ds) ρ k := ⟨ds, rfl, h1, h⟩
theorem v_gsn (h : k ρ) : gsn [] ρ k := ⟨rfl, h⟩
theorem v_gsc (h : g d ρ fun ρ' => gs ds ρ' k) : gsc g gs (d :: ds) ρ k := ⟨d, ds, rfl, h⟩
theorem v_app {l : Addr} (h1 : ρ[n]? = some (.ow l ds)) (h2 : ds.length < 1000000) (h : qa ω ρ (fun ω1 d => P.nx ω1 (ρ.set n (.ow l (ds ++ [d])))) fun ω1 x => P.ex ω1 x ρ) : sApp n qa P ω ρ := ⟨l, ds, h1, h2, h⟩
def kPut2 (n : Nat) (P : PEn W) (ω2 : W.Ω) (ρ : List Sl) (l : Addr) (ds : List D) (d y : D) : Prop := ∃ i j, y = .int i ∧ ixN ds.length i = some j ∧ P.nx ω2 (ρ.set n (.ow l (ds.set j d)))
def kPut (n : Nat) (qk : QT W) (P : PEn W) (ω1 : W.Ω) (ρ : List Sl) (d : D) : Prop := ∃ l ds, ρ[n]? = some (.ow l ds) ∧ qk ω1 ρ (fun ω2 y => kPut2 n P ω2 ρ l ds d y) fun ω1 x => P.ex ω1 x ρ
theorem v_put {qk : QT W} (h : qa ω ρ (fun ω1 d => kPut n qk P ω1 ρ d) fun ω1 x => P.ex ω1 x ρ) : sPut n qk qa P ω ρ := h
theorem v_kPut {qk : QT W} {l : Addr} (h1 : ρ[n]? = some (.ow l ds)) (h : qk ω ρ (fun ω2 y => kPut2 n P ω2 ρ l ds d y) fun ω1 x => P.ex ω1 x ρ) : kPut n qk P ω ρ d := ⟨l, ds, h1, h⟩
theorem ixN_nat {n : Nat} {i : Int} (h0 : 0 ≤ i) (h : i < n) : ixN n i = some i.toNat := by unfold ixN; rw [if_pos h0, if_pos h]
theorem v_raise {x : Exn} (h : P.ex ω x ρ) : sRaise x P ω ρ := h
def kFor (g : QTG) (s : QTS W) (P : PEn W) (ω1 : W.Ω) (ρ : List Sl) (ds : List D) : Prop := ∃ I : Nat → W.Ω → List Sl → Prop, I 0 ω1 ρ ∧ (∀ i d ω ρ, ds[i]? = some d → I i ω ρ → g d ρ fun ρ' => s { P with nx := I (i + 1), ct := I (i + 1), bk := P.nx } ω ρ') ∧ ∀ ω ρ, I ds.length ω ρ → P.nx ω ρ
theorem v_for (h : qi ω ρ (fun ω1 ds => kFor g s P ω1 ρ ds) fun ω1 x => P.ex ω1 x ρ) : sFor qi g s P ω ρ := h
theorem v_kFor (I : Nat → W.Ω → List Sl → Prop) (h0 : I 0 ω ρ) (hs : ∀ i d ω ρ, ds[i]? = some d → I i ω ρ → g d ρ fun ρ' => s { P with nx := I (i + 1), ct := I (i + 1), bk := P.nx } ω ρ') (hd : ∀ ω ρ, I ds.length ω ρ → P.nx ω ρ) : kFor g s P ω ρ ds := ⟨I, h0, hs, hd⟩
theorem v_kForI {ns : List Int} (I : Nat → W.Ω → List Sl → Prop) (h0 : I 0 ω ρ) (hs : ∀ i y ω ρ, ns[i]? = some y → I i ω ρ → g (.int y) ρ fun ρ' => s { P with nx := I (i + 1), ct := I (i + 1), bk := P.nx } ω ρ') (hd : ∀ ω ρ, I ns.length ω ρ → P.nx ω ρ) : kFor g s P ω ρ (dInts ns) := by
  refine ⟨I, h0, fun i d ω ρ hd => ?_, fun ω ρ h => hd ω ρ (by unfold dInts at h; rw [List.length_map] at h; exact h)⟩
  unfold dInts at hd
  rw [List.getElem?_map] at hd
  obtain ⟨y, hy, rfl⟩ := Option.map_eq_some_iff.mp hd
  exact hs i y ω ρ hy
theorem rg_iff {n i : Nat} {y : Int} : (rg n)[i]? = some y ↔ i < n ∧ y = i := by
  by_cases h : i < n
  · rw [rg_get h]
    simp [h]
    exact eq_comm
  · rw [List.getElem?_eq_none (by rw [length_rg]; omega)]
    simp [h]
theorem v_kForR {n : Nat} (I : Nat → W.Ω → List Sl → Prop) (h0 : I 0 ω ρ) (hs : ∀ (i : Nat) ω ρ, i < n → I i ω ρ → g (.int i) ρ fun ρ' => s { P with nx := I (i + 1), ct := I (i + 1), bk := P.nx } ω ρ') (hd : ∀ ω ρ, I n ω ρ → P.nx ω ρ) : kFor g s P ω ρ (dInts (rgI 0 n)) := by
  rw [rgI_rg]
  refine v_kForI I h0 (fun i y ω ρ hy => ?_) fun ω ρ h => hd ω ρ (by rw [length_rg] at h; exact h)
  obtain ⟨hi, rfl⟩ := rg_iff.mp hy
  exact hs i ω ρ hi
theorem v_iSeq (h : qa ω ρ (fun ω1 d => ∃ ds, d = .lst ds ∧ QL ω1 ds) E) : iSeq qa ω ρ QL E := h
theorem v_iTupl (h : qa ω ρ (fun ω1 d => ∃ ds, d = .tup ds ∧ QL ω1 ds) E) : iTupl qa ω ρ QL E := h
theorem v_exl {R : List D → Prop} (h : R ds) : ∃ ds', D.lst ds = .lst ds' ∧ R ds' := ⟨ds, rfl, h⟩
theorem v_ext {R : List D → Prop} (h : R ds) : ∃ ds', D.tup ds = .tup ds' ∧ R ds' := ⟨ds, rfl, h⟩
def kRg (x : D) (R : Int → Prop) : Prop := ∃ n, x = .int n ∧ RgB n ∧ R n
theorem v_iRg1 (h : qa ω ρ (fun ω1 d => kRg d fun n => QL ω1 (dInts (rgI 0 n))) E) : iRg1 qa ω ρ QL E := h
theorem v_kRg {R : Int → Prop} (h1 : RgB i) (h : R i) : kRg (.int i) R := ⟨i, rfl, h1, h⟩
def kRg2 (x y : D) (R : Int → Int → Prop) : Prop := ∃ n k, x = .int n ∧ y = .int k ∧ RgB n ∧ RgB k ∧ R n k
theorem v_iRg2 (h : qa ω ρ (fun ω1 d => qb ω1 ρ (fun ω2 d2 => kRg2 d d2 fun n k => QL ω2 (dInts (rgI n k))) E) E) : iRg2 qa qb ω ρ QL E := h
theorem v_kRg2 {R : Int → Int → Prop} (h1 : RgB i) (h2 : RgB j) (h : R i j) : kRg2 (.int i) (.int j) R := ⟨i, j, rfl, rfl, h1, h2, h⟩
theorem rgB (h0 : -1000000000 ≤ i) (h : i ≤ 1000000000) : RgB i := ⟨by omega, by omega⟩
def kLcQ (g : QTG) (qt : QTT W) (qe : QT W) (vs : List Nat) (ρ : List Sl) (Q : W.Ω → D → Prop) (ω1 : W.Ω) (ds : List D) : Prop := still ρ vs = true ∧ ds.length ≤ 1000000 ∧ ∃ I : Nat → W.Ω → List D → Prop, I 0 ω1 [] ∧
  (∀ i d ω acc, ds[i]? = some d → I i ω acc → acc.length ≤ i → g d (wipeP ρ vs) fun ρ2 => wipeP ρ2 vs = wipeP ρ vs ∧ qt ω ρ2 (fun ω2 b => if b = true then qe ω2 ρ2 (fun ω3 y => I (i + 1) ω3 (acc ++ [y])) (fun _ _ => False) else I (i + 1) ω2 acc) (fun _ _ => False)) ∧
  ∀ ω acc, I ds.length ω acc → Q ω (.lst acc)
variable {qe : QT W} {vs : List Nat}
theorem v_lc (h : qi ω ρ (fun ω1 ds => kLcQ g qt qe vs ρ Q ω1 ds) E) : qLc qi g qt qe vs ω ρ Q E := h
theorem v_kLcW (I : Nat → W.Ω → List D → Prop) (hl : ds.length ≤ 1000000) (h0 : I 0 ω []) (hst : still ρ vs = true)
    (hs : ∀ i d ω acc, ds[i]? = some d → I i ω acc → acc.length ≤ i → g d (wipeP ρ vs) fun ρ2 => wipeP ρ2 vs = wipeP ρ vs ∧ qe ω ρ2 (fun ω3 y => I (i + 1) ω3 (acc ++ [y])) (fun _ _ => False))
    (hd : ∀ ω acc, I ds.length ω acc → Q ω (.lst acc)) : kLcQ g qYes qe vs ρ Q ω ds := by
  refine ⟨hst, hl, I, h0, fun i d ω acc hd hi hl => ?_, hd⟩
  have z := hs i d ω acc hd hi hl
  exact z
theorem v_kLcM (f : D → D) (hl : ds.length ≤ 1000000) (hst : still ρ vs = true)
    (hs : ∀ (i : Nat) (d : D) (Q' : W.Ω → D → Prop), ds[i]? = some d → Q' ω (f d) → g d (wipeP ρ vs) fun ρ2 => wipeP ρ2 vs = wipeP ρ vs ∧ qe ω ρ2 Q' (fun _ _ => False))
    (hd : Q ω (.lst (ds.map f))) : kLcQ g qYes qe vs ρ Q ω ds := by
  refine v_kLcW (fun i ω' acc => ω' = ω ∧ acc = (ds.take i).map f) hl ⟨rfl, rfl⟩ hst (fun i d ω' acc hi ⟨e1, e2⟩ _ => ?_) (fun ω' acc ⟨e1, e2⟩ => by rw [e1, e2, List.take_length]; exact hd)
  subst e1 e2
  exact hs i d _ hi ⟨rfl, by rw [List.take_succ, hi, List.map_append] <;> rfl⟩
theorem v_kLcMI {ns : List Int} (f : Int → D) (hl : ns.length ≤ 1000000) (hst : still ρ vs = true)
    (hs : ∀ (i : Nat) (y : Int) (Q' : W.Ω → D → Prop), ns[i]? = some y → Q' ω (f y) → g (.int y) (wipeP ρ vs) fun ρ2 => wipeP ρ2 vs = wipeP ρ vs ∧ qe ω ρ2 Q' (fun _ _ => False))
    (hd : Q ω (.lst (ns.map f))) : kLcQ g qYes qe vs ρ Q ω (dInts ns) := by
  refine v_kLcM (fun d => match d with | .int y => f y | _ => .non) (by unfold dInts; rw [List.length_map]; exact hl) hst (fun i d Q' hi hq => ?_) (by unfold dInts; rw [List.map_map]; exact hd)
  unfold dInts at hi
  rw [List.getElem?_map] at hi
  obtain ⟨y, hy, rfl⟩ := Option.map_eq_some_iff.mp hi
  exact hs i y Q' hy hq
theorem v_V (h1 : slD ρ[n]? = some d) (h : Q ω d) : qV n ω ρ Q E := ⟨d, h1, h⟩
theorem v_Va (h1 : ρ[n]? = some (.va d)) (h : Q ω d) : qVa n ω ρ Q E := ⟨d, h1, h⟩
theorem v_C (h : Q ω d) : qC d ω ρ Q E := h
theorem v_op {f : D → D → (D → Prop) → Prop} (h : qa ω ρ (fun ω1 x => qb ω1 ρ (fun ω2 y => f x y (Q ω2)) E) E) : qOp f qa qb ω ρ Q E := h
theorem v_un {f : D → (D → Prop) → Prop} (h : qa ω ρ (fun ω1 x => f x (Q ω1)) E) : qUn f qa ω ρ Q E := h
theorem v_ca {f : List D → (D → Prop) → Prop} (h : qs ω ρ (fun ω1 xs => f xs (Q ω1)) E) : qCa f qs ω ρ Q E := h
theorem v_nil (h : QL ω []) : qNil ω ρ QL E := h
theorem v_cons (h : qa ω ρ (fun ω1 d => qs ω1 ρ (fun ω2 ds => QL ω2 (d :: ds)) E) E) : qCons qa qs ω ρ QL E := h
theorem v_star (h : qa ω ρ (fun ω1 d => ∃ ds, (d = .lst ds ∨ d = .tup ds) ∧ qs ω1 ρ (fun ω2 es => QL ω2 (ds ++ es)) E) E) : qStar qa qs ω ρ QL E := h
theorem v_sta {R : List D → Prop} (h : R ds) : ∃ ds', (D.lst ds = .lst ds' ∨ D.lst ds = .tup ds') ∧ R ds' := ⟨ds, .inl rfl, h⟩
theorem v_stb {R : List D → Prop} (h : R ds) : ∃ ds', (D.tup ds = .lst ds' ∨ D.tup ds = .tup ds') ∧ R ds' := ⟨ds, .inr rfl, h⟩
theorem v_sl {f : D → Option Int → Option Int → (D → Prop) → Prop} {lo hi : Option (QT W)} (h : qa ω ρ (fun ω1 x => qPart lo ω1 ρ (fun ω2 l => qPart hi ω2 ρ (fun ω3 u => f x l u (Q ω3)) E) E) E) : qSl f qa lo hi ω ρ Q E := h
theorem v_pn {R : W.Ω → Option Int → Prop} (h : R ω none) : qPart none ω ρ R E := h
theorem v_ps {R : W.Ω → Option Int → Prop} (h : q ω ρ (fun ω' y => ∃ i, y = .int i ∧ R ω' (some i)) E) : qPart (some q) ω ρ R E := h
theorem v_exi {R : Int → Prop} (h : R i) : ∃ j, D.int i = .int j ∧ R j := ⟨i, rfl, h⟩
theorem v_te (h : qa ω ρ (fun ω1 d => ∃ b, d = .bl b ∧ QB ω1 b) E) : qTe qa ω ρ QB E := h
theorem v_exb {b : Bool} (h : B1 b) : ∃ b', D.bl b = .bl b' ∧ B1 b' := ⟨b, rfl, h⟩
theorem v_tru (h : qa ω ρ (fun ω1 d => d.tru (QB ω1)) E) : qTru qa ω ρ QB E := h
theorem v_truL (h : B1 (!ds.isEmpty)) : (D.lst ds).tru B1 := h
theorem v_truT (h : B1 (!ds.isEmpty)) : (D.tup ds).tru B1 := h
theorem v_truB {b : Bool} (h : B1 b) : (D.bl b).tru B1 := h
theorem v_truN (h : B1 false) : D.non.tru B1 := h
theorem v_notT (h : qt ω ρ (fun ω1 b => QB ω1 (!b)) E) : qNotT qt ω ρ QB E := h
theorem v_andT (h : qt ω ρ (fun ω1 b => if b = true then qu ω1 ρ QB E else QB ω1 false) E) : qAndT qt qu ω ρ QB E := h
theorem v_orT (h : qt ω ρ (fun ω1 b => if b = true then QB ω1 true else qu ω1 ρ QB E) E) : qOrT qt qu ω ρ QB E := h
theorem v_yes (h : QB ω true) : qYes ω ρ QB E := h
theorem v_andV (h : qa ω ρ (fun ω1 d => ∃ b, d = .bl b ∧ if b = true then qb ω1 ρ Q E else Q ω1 (.bl false)) E) : qAndV qa qb ω ρ Q E := h
theorem v_orV (h : qa ω ρ (fun ω1 d => ∃ b, d = .bl b ∧ if b = true then Q ω1 (.bl true) else qb ω1 ρ Q E) E) : qOrV qa qb ω ρ Q E := h
theorem v_notV (h : qa ω ρ (fun ω1 d => ∃ b, d = .bl b ∧ Q ω1 (.bl (!b))) E) : qNotV qa ω ρ Q E := h
theorem v_chain {f f' : D → D → (D → Prop) → Prop} (h : qa ω ρ (fun ω1 x => qb ω1 ρ (fun ω2 y => f x y fun z => ∃ b, z = .bl b ∧ if b = true then qc ω2 ρ (fun ω3 w => f' y w (Q ω3)) E else Q ω2 (.bl false)) E) E) : qChain f f' qa qb qc ω ρ Q E := h
theorem v_ifE (h : qt ω ρ (fun ω1 b => if b = true then qa ω1 ρ Q E else qb ω1 ρ Q E) E) : qIfE qt qa qb ω ρ Q E := h
theorem v_fI0 {f : Int → Int → D} (h : Q1 (f i j)) : fI0 f (.int i) (.int j) Q1 := h
theorem v_fI {c : Int → Int → Prop} {f : Int → Int → D} (hc : c i j) (h : Q1 (f i j)) : fI c f (.int i) (.int j) Q1 := ⟨hc, h⟩
theorem v_eqI (h : Q1 (.bl (decide (i = j)))) : fEq (.int i) (.int j) Q1 := h
theorem v_neI (h : Q1 (.bl (!decide (i = j)))) : fNe (.int i) (.int j) Q1 := h
theorem v_eqS {x y : Str} (h : Q1 (.bl (decide (x = y)))) : fEq (.str x) (.str y) Q1 := h
theorem v_neS {x y : Str} (h : Q1 (.bl (!decide (x = y)))) : fNe (.str x) (.str y) Q1 := h
theorem v_eqB {x y : Bool} (h : Q1 (.bl (decide (x = y)))) : fEq (.bl x) (.bl y) Q1 := h
theorem v_neB {x y : Bool} (h : Q1 (.bl (!decide (x = y)))) : fNe (.bl x) (.bl y) Q1 := h
theorem v_isN {b : Bool} (h : Q1 (.bl (if b then !d.isNon else d.isNon))) : fIsN b d .non Q1 := ⟨rfl, h⟩
theorem v_neg (h : Q1 (.int (-i))) : fNeg (.int i) Q1 := h
theorem v_lenL (h : Q1 (.int ds.length)) : fLen [.lst ds] Q1 := h
theorem v_lenT (h : Q1 (.int ds.length)) : fLen [.tup ds] Q1 := h
theorem v_listL (h : Q1 (.lst ds)) : fList [.lst ds] Q1 := h
theorem v_listT (h : Q1 (.lst ds)) : fList [.tup ds] Q1 := h
theorem v_tupleL (h : Q1 (.tup ds)) : fTuple [.lst ds] Q1 := h
theorem v_tupleT (h : Q1 (.tup ds)) : fTuple [.tup ds] Q1 := h
theorem v_absI (h : Q1 (.int (if i < 0 then -i else i))) : fAbs [.int i] Q1 := h
theorem v_intI (h : Q1 (.int i)) : fInt [.int i] Q1 := h
theorem v_intB {b : Bool} (h : Q1 (.int (if b then 1 else 0))) : fInt [.bl b] Q1 := h
theorem v_fLst (hl : ds.length ≤ 1000000) (h : Q1 (.lst ds)) : fLst ds Q1 := ⟨hl, h⟩
theorem v_fTup (hl : ds.length ≤ 1000000) (h : Q1 (.tup ds)) : fTup ds Q1 := ⟨hl, h⟩
theorem v_ixL (h1 : atI ds i = some d) (h : Q1 d) : fIxL (.lst ds) (.int i) Q1 := ⟨d, h1, h⟩
theorem v_ixT (h1 : atI ds i = some d) (h : Q1 d) : fIxT (.tup ds) (.int i) Q1 := ⟨d, h1, h⟩
theorem v_catL (hl : ds.length + es.length ≤ 1000000) (h : Q1 (.lst (ds ++ es))) : fCat (.lst ds) (.lst es) Q1 := ⟨hl, h⟩
theorem v_catT (hl : ds.length + es.length ≤ 1000000) (h : Q1 (.tup (ds ++ es))) : fCatT (.tup ds) (.tup es) Q1 := ⟨hl, h⟩
theorem v_slL {lo hi : Option Int} (h : Q1 (.lst (cutD ds lo hi))) : fSlL (.lst ds) lo hi Q1 := h
theorem v_slT {lo hi : Option Int} (h : Q1 (.tup (cutD ds lo hi))) : fSlT (.tup ds) lo hi Q1 := h
theorem v_addS {x y : Str} (hl : x.length + y.length ≤ sizeLine) (h : Q1 (.str (x ++ y))) : fSS (fun i j => i.length + j.length ≤ sizeLine) (fun i j => .str (i ++ j)) (.str x) (.str y) Q1 := ⟨hl, h⟩
theorem v_fld {f : Str} {ns : List Str} {x : D} (h1 : (ns.zip ds).lookup f = some x) (h : Q1 x) : fFld C f (.ins C ns ds) Q1 := ⟨ns, ds, x, rfl, h1, h⟩
theorem v_call (h : qs ω ρ (fun ω1 ds => pf ω1 ds Q E) E) : qCall pf qs ω ρ Q E := h
theorem v_inW {pf : PSp W0} (h : pf () ds (fun _ d => Q ω d) fun _ x => E ω x) : inW W pf ω ds Q E := h
theorem v_pureP (h : pf ω ds (fun ω' d => d.pure = true ∧ Q ω' d) E) : pureP pf ω ds Q E := h
def kIns (C : Addr) (m : Str) (d : D) (R : Prop) : Prop := ∃ ns ds, d = .ins C ns ds ∧ m ∉ ns ∧ R
theorem v_meth (h : q ω ρ (fun ω1 d => kIns C m d (qs ω1 ρ (fun ω2 es => pf ω2 (d :: es) Q E) E)) E) : qMeth C m pf q qs ω ρ Q E := by
  have e : qMeth C m pf q qs ω ρ Q E = q ω ρ (fun ω1 d => kIns C m d (qs ω1 ρ (fun ω2 es => pf ω2 (d :: es) Q E) E)) E := by
    unfold qMeth
    rfl
  rw [e]
  exact h
theorem v_kIns {ns : List Str} {R : Prop} (h1 : m ∉ ns) (h : R) : kIns C m (.ins C ns ds) R := ⟨ns, ds, rfl, h1, h⟩
def kObj (C : Addr) (d : D) (R : Prop) : Prop := ∃ ns ds, d = .ins C ns ds ∧ R
theorem v_kObj {ns : List Str} {R : Prop} (h : R) : kObj C (.ins C ns ds) R := ⟨ns, ds, rfl, h⟩
theorem v_obj (h : q ω ρ (fun ω1 d => kObj C d (qs ω1 ρ (fun ω2 es => pf ω2 (d :: es) Q E) E)) E) : qObj C pf q qs ω ρ Q E := h
def kBin (C : Addr) (x y : D) (R : Prop) : Prop := ∃ ns ds ns' ds', x = .ins C ns ds ∧ y = .ins C ns' ds' ∧ R
theorem v_kBin {ns ns' : List Str} {R : Prop} (h : R) : kBin C (.ins C ns ds) (.ins C ns' es) R := ⟨ns, ds, ns', es, rfl, rfl, h⟩
theorem v_bin (h : qa ω ρ (fun ω1 x => qb ω1 ρ (fun ω2 y => kBin C x y (pf ω2 [x, y] Q E)) E) E) : qBin C pf qa qb ω ρ Q E := h
def kBinI (C : Addr) (x y : D) (R : Prop) : Prop := ∃ ns ds i, x = .ins C ns ds ∧ y = .int i ∧ R
theorem v_kBinI {ns : List Str} {R : Prop} (h : R) : kBinI C (.ins C ns ds) (.int i) R := ⟨ns, ds, i, rfl, rfl, h⟩
theorem v_binI (h : qa ω ρ (fun ω1 x => qb ω1 ρ (fun ω2 y => kBinI C x y (pf ω2 [x, y] Q E)) E) E) : qBinI C pf qa qb ω ρ Q E := h
theorem v_inv (h : qa ω ρ (fun ω1 x => kObj C x (pf ω1 [x] Q E)) E) : qInv C pf qa ω ρ Q E := h
def kAdr (C : Addr) (d : D) (R : Prop) : Prop := d = .adr C ∧ R
theorem v_kAdr {R : Prop} (h : R) : kAdr C (.adr C) R := ⟨rfl, h⟩
theorem v_make {pf : PSp W0} (h : q ω ρ (fun ω0 d => kAdr C d (qs ω0 ρ (fun ω1 ds => inW W pf ω1 ds Q E) E)) E) : qMake C pf q qs ω ρ Q E := h
theorem v_cmeth (h : q ω ρ (fun ω0 d => kAdr C d (qs ω0 ρ (fun ω1 ds => pf ω1 (.adr C :: ds) Q E) E)) E) : qCMeth C pf q qs ω ρ Q E := h
def kLenO (C : Addr) (ds : List D) (R : Prop) : Prop := ∃ ns es, ds = [.ins C ns es] ∧ R
theorem v_kLenO {ns : List Str} {R : Prop} (h : R) : kLenO C [.ins C ns ds] R := ⟨ns, ds, rfl, h⟩
def kN63 (d : D) (R : Prop) : Prop := ∃ n : Int, d = .int n ∧ 0 ≤ n ∧ n < 2 ^ 63 ∧ R
theorem v_kN63 {R : Prop} (h0 : 0 ≤ i) (h1 : i < 1000000000) (h : R) : kN63 (.int i) R := ⟨i, rfl, h0, by omega, h⟩
theorem v_lenO (h : qs ω ρ (fun ω1 ds => kLenO C ds (pf ω1 ds (fun ω' d => kN63 d (Q ω' d)) (fun _ _ => False))) E) : qLenO C pf qs ω ρ Q E := h
theorem v_listRg {qr : QTR W} (h : qr ω ρ (fun ω1 i j => RgOk i j ∧ Q ω1 (.lst (dInts (rgI i j)))) E) : qListRg qr ω ρ Q E := h
theorem v_tupRg {qr : QTR W} (h : qr ω ρ (fun ω1 i j => RgOk i j ∧ Q ω1 (.tup (dInts (rgI i j)))) E) : qTupRg qr ω ρ Q E := h
theorem v_rg1 {R : W.Ω → Int → Int → Prop} (h : qa ω ρ (fun ω1 x => ∃ n, x = .int n ∧ R ω1 0 n) E) : qRg1 qa ω ρ R E := h
def kTwo (x y : D) (R : Int → Int → Prop) : Prop := ∃ n k', x = .int n ∧ y = .int k' ∧ R n k'
theorem v_kTwo {R : Int → Int → Prop} (h : R i j) : kTwo (.int i) (.int j) R := ⟨i, j, rfl, rfl, h⟩
theorem v_rg2 {R : W.Ω → Int → Int → Prop} (h : qa ω ρ (fun ω1 x => qb ω1 ρ (fun ω2 y => kTwo x y fun n k => R ω2 n k) E) E) : qRg2 qa qb ω ρ R E := h
end
theorem v_try {K : PySem.W.Frag} {W : Wrl} {s : QTS W} {l : Cls3 W} {P : PEn W} {ω : W.Ω} {ρ : List Sl} (h : s { P with ex := fun ω x ρ => hsel K l P ω x ρ } ω ρ) : sTry K s l P ω ρ := h
end LW
namespace LW
open PySem
open Sem (wp)
def deadK : Resume → Sem PySem.Fin := fun _ => .unsupported "asleep"
def NoG (fs : List Frame) : Prop := ∀ F ∈ fs, ∃ k h g l c p kp, F = .ret k h g l c p kp
theorem NoG.nil : NoG [] := fun _ h => by cases h
theorem NoG.cons {k h g l c p kp fs} (x : NoG fs) : NoG (.ret k h g l c p kp :: fs) := fun F hF => by
  rcases List.mem_cons.mp hF with rfl | hF
  · exact ⟨_, _, _, _, _, _, _, rfl⟩
  · exact x F hF
theorem NoG.append {a b : List Frame} (x : NoG a) (y : NoG b) : NoG (a ++ b) := fun F hF => (List.mem_append.mp hF).elim (x F) (y F)
theorem NoG.split : ∀ {fs : List Frame}, NoG fs → splitAtGen fs = none
  | [], _ => rfl
  | F :: fs, x => by
    obtain ⟨k, h, g, l, c, p, kp, rfl⟩ := x F List.mem_cons_self
    show (splitAtGen fs).map _ = none
    rw [NoG.split fun G hG => x G (List.mem_cons_of_mem _ hG)]
    rfl
structure OffG (O : Nat → Prop) (g0 G T : Array GenState) : Prop where
  size : G.size = T.size
  off : ∀ i, O i → G[i]? = g0[i]? ∧ ∃ k l c p fs cl, G[i]? = some (.suspended k l c p fs cl) ∧ T[i]? = some (.suspended deadK l c p fs cl)
  on : ∀ i, ¬ O i → G[i]? = T[i]? ∧ ∀ k l c p fs cl, T[i]? = some (.suspended k l c p fs cl) → NoG fs
def NoGS : GenState → Prop
  | .suspended _ _ _ _ fs _ => NoG fs
  | _ => True
def NoGE : End → Prop
  | .susp _ _ _ _ _ _ fs => NoG fs
  | _ => True
theorem NoGE.st {e : End} (h : NoGE e) : NoGS e.genState := by
  cases e with
  | ret r => trivial
  | susp v g l k c p fs => exact h
variable {O : Nat → Prop} {g0 G T : Array GenState} {M : Model}
theorem getSet {A : Array GenState} {g i : Nat} {x : GenState} : (A.setIfInBounds g x)[i]? = if i = g then (if g < A.size then some x else none) else A[i]? := by
  rw [Array.getElem?_setIfInBounds]
  by_cases h : g = i
  · subst h
    simp
  · rw [if_neg h, if_neg (fun z => h z.symm)]
theorem OffG.set {g : Nat} {x : GenState} (h : OffG O g0 G T) (hg : ¬ O g) (hx : NoGS x) : OffG O g0 (G.setIfInBounds g x) (T.setIfInBounds g x) where
  size := by rw [Array.size_setIfInBounds, Array.size_setIfInBounds]; exact h.size
  off i hi := by
    have hn : i ≠ g := fun z => hg (z ▸ hi)
    rw [getSet, if_neg hn, getSet, if_neg hn]
    exact h.off i hi
  on i hi := by
    rw [getSet (A := G), getSet (A := T), h.size]
    by_cases hn : i = g
    · rw [if_pos hn, if_pos hn]
      refine ⟨rfl, fun k l c p fs cl e => ?_⟩
      split at e
      · cases e; exact hx
      · cases e
    · rw [if_neg hn, if_neg hn]
      exact h.on i hi
theorem OffG.push {c : Code} (h : OffG O g0 G T) (hO : ∀ i, O i → i < G.size) : OffG O g0 (G.push (.fresh c)) (T.push (.fresh c)) where
  size := by rw [Array.size_push, Array.size_push, h.size]
  off i hi := by
    have h1 := hO i hi
    have h2 : i < T.size := by rw [← h.size]; exact h1
    have := h.off i hi
    rw [Array.getElem?_eq_getElem h1, Array.getElem?_eq_getElem h2] at this
    rw [Array.getElem?_push_lt h1, Array.getElem?_push_lt h2]
    exact this
  on i hi := by
    rw [Array.getElem?_push, Array.getElem?_push, h.size]
    split
    · exact ⟨rfl, fun k l c p fs cl e => by cases e⟩
    · exact h.on i hi
theorem OffG.lt {i : Nat} (h : OffG O g0 G T) (hi : O i) : i < G.size := by
  obtain ⟨_, k, l, c, p, fs, cl, e, _⟩ := h.off i hi
  exact (Array.getElem?_eq_some_iff.mp e).1
end LW
namespace LW
open PySem PySem.Spec PyProof.Rows L2 GenW
abbrev FinP := End → Shared → Prop
def Sg (M : Model) (A : Around) (Φ : FinP) (c : Code) (t : Sem PySem.Fin) (fs : List Frame) (s : Shared) : Prop :=
  ∀ (Γ : PySem.Ctx) (p : Pos), Γ.code = c → Γ.Woken A → ∃ e s', PySem.Runs M Γ p t fs s e s' ∧ Φ e s'
section
variable {M : Model} {A : Around} {Φ Ψ : FinP} {c : Code} {fs : List Frame} {s : Shared}
theorem Sg.mono {t : Sem PySem.Fin} (h : Sg M A Φ c t fs s) (k : ∀ e s, Φ e s → Ψ e s) : Sg M A Ψ c t fs s := fun Γ p h1 h2 => by
  obtain ⟨e, s', a, b⟩ := h Γ p h1 h2
  exact ⟨e, s', a, k e s' b⟩
end
section
variable {prog : Program} {w : World} {A : Around} {Φ : FinP} {c : Code} {fs : List Frame} {s : Shared} {env : Env} {K : Flow → Sem PySem.Fin} {J : Value → Sem PySem.Fin} {gd : Bool → Bool} {lv : List Value → List Value}
end
def GoesZ (M : Model) (A : Around) (Φ : FinP) (gs : GenState) (s : Shared) : Prop :=
  match gs with
  | .fresh c => Sg M A Φ c (M.den c) [] s
  | .suspended k _ c _ fs _ => Sg M A Φ c (k (.send .none)) fs s
  | _ => False
end LW
namespace LW
open PySem PySem.Spec PyProof.Rows L2
def celD (N : List Str) (env : Env) (σ : L2.St) (c : Addr) : Heap → Prop := fun h => (∃ v, h.IsCell c v) ∧ ∀ (j : Nat) (x : Str) (v : V), N[j]? = some x → σ[j]? = some (some v) → env.cells.lookup x = some c → Vis env.scope x → (env.kindOf x = some .cell ∨ env.kindOf x = some .free) → ∃ u, RelV v u ∧ h.IsCell c (some u)
theorem celD_stay {N : List Str} {env : Env} {σ : L2.St} {c : Addr} {h1 h2 : Heap} (x : celD N env σ c h1) (k : ∀ o, h1.get? c = some o → h2.get? c = some o) : celD N env σ c h2 :=
  ⟨let ⟨v, o, e1, e2⟩ := x.1; ⟨v, o, k o e1, e2⟩, fun j y v e1 e2 e3 e4 e5 => let ⟨u, r, o, q1, q2⟩ := x.2 j y v e1 e2 e3 e4 e5; ⟨u, r, o, k o q1, q2⟩⟩
abbrev CFn := Addr → Heap → Prop
def dnH (cs : List Addr) (H : Hp) : Hp := fun b => if b ∈ cs then none else H b
def upH (cs : List Addr) (φ : CFn) (H : Hp) : Hp := fun b => if b ∈ cs then some (.ext (φ b)) else H b
def Celd (cs : List Addr) (φ : CFn) (H : Hp) : Prop := ∀ c ∈ cs, H c = some (.ext (φ c))
abbrev onC (cs : List Addr) : ASet := fun a => a ∈ cs
section
variable {cs : List Addr} {φ ψ : CFn} {H H' : Hp} {h h' : Heap} {b c : Addr} {fs ex : List Addr} {P : Program} {w : World} {K : PySem.W.Frag} {S : ASet}
theorem dnH_in (m : b ∈ cs) : dnH cs H b = none := if_pos m
theorem dnH_out (m : b ∉ cs) : dnH cs H b = H b := if_neg m
theorem upH_in (m : b ∈ cs) : upH cs φ H b = some (.ext (φ b)) := if_pos m
theorem upH_out (m : b ∉ cs) : upH cs φ H b = H b := if_neg m
theorem dnH_none (n : H b = none) : dnH cs H b = none := by
  unfold dnH
  split
  · rfl
  · exact n
theorem upH_none (n : H b = none) (m : b ∉ cs) : upH cs φ H b = none := (upH_out m).trans n
theorem dnH_some {o : HO} (e : dnH cs H b = some o) : b ∉ cs ∧ H b = some o := by
  by_cases m : b ∈ cs
  · rw [dnH_in m] at e; cases e
  · rw [dnH_out m] at e; exact ⟨m, e⟩
theorem dnH_of_none (e : dnH cs H b = none) (m : b ∉ cs) : H b = none := by rw [dnH_out m] at e; exact e
theorem upH_celd : Celd cs φ (upH cs φ H) := fun c m => upH_in m
theorem Celd.ne (k : Celd cs φ H) {o : HO} (e : H b = some o) (d : ∀ φ, o ≠ .ext φ) : b ∉ cs := fun m => by
  rw [k b m] at e
  exact d _ (Option.some.inj e).symm
theorem Celd.none (k : Celd cs φ H) (e : H b = none) : b ∉ cs := fun m => by rw [k b m] at e; cases e
theorem grp_upH (n : ∀ c ∈ cs, H c = none) : GrP nop H (upH cs φ H) := ⟨fun a o e _ => by
  by_cases m : a ∈ cs
  · rw [n a m] at e; cases e
  · rw [upH_out m]; exact e, fun a e => by
  by_cases m : a ∈ cs
  · exact n a m
  · rw [upH_out m] at e; exact e⟩
theorem grp_up (k : Celd cs φ H) (g : GrP nop (dnH cs H) H') : GrP (onC cs) H (upH cs ψ H') := ⟨fun a o e q => by
  by_cases m : a ∈ cs
  · rw [k a m] at e
    cases e
    rcases q with q | q
    · cases q
    · exact absurd m q
  · rw [upH_out m]
    exact g.keep a o (by rw [dnH_out m]; exact e) (.inr fun z => z), fun a e => by
  by_cases m : a ∈ cs
  · rw [upH_in m] at e; cases e
  · rw [upH_out m] at e
    exact dnH_of_none (g.live a e) m⟩
theorem un_up (k : Celd cs φ H) (hc : ∀ c ∈ cs, h.get? c = none) (u : Un fs ex (dnH cs H) H' h h') : Un fs ex H (upH cs ψ H') h h' := by
  have out : ∀ {b o}, h.get? b = some o → b ∉ cs := fun {b o} e m => by rw [hc b m] at e; cases e
  refine ⟨fun b o e n hb hx => u.keep b o e (dnH_none n) hb hx, fun b o e n hb hx => u.slot b o e (dnH_none n) hb hx, fun b o e n hx => upH_none (u.free b o e (dnH_none n) hx) (out e), u.there, fun b xs e => ?_, fun b o x e => ?_, fun b ps e => ?_⟩
  · have m := k.ne e (fun φ z => by cases z)
    rw [upH_out m]
    exact u.tups b xs (by rw [dnH_out m]; exact e)
  · have m := k.ne e (fun φ z => by cases z)
    rw [upH_out m]
    exact u.frzs b o x (by rw [dnH_out m]; exact e)
  · have m := k.ne e (fun φ z => by cases z)
    rw [upH_out m]
    exact u.tbls b ps (by rw [dnH_out m]; exact e)
theorem hok_up (x : HOk P w H h) (n : ∀ c ∈ cs, H c = none ∧ ∃ v, h.IsCell c v) (hφ : ∀ c ∈ cs, φ c h ∧ ∀ h1 h2 : Heap, φ c h1 → (∀ o, h1.get? c = some o → h2.get? c = some o) → φ c h2) : HOk P w (upH cs φ H) h := fun a o e => by
  by_cases m : a ∈ cs
  · rw [upH_in m] at e
    cases e
    obtain ⟨_, v, oc, e1, e2⟩ := n a m
    exact ⟨(hφ a m).1, ⟨oc, e1⟩, (hφ a m).2⟩
  · rw [upH_out m] at e
    have ne : ∀ {b o}, H b = some o → b ∉ cs := fun {b o} e m => by rw [(n b m).1] at e; cases e
    exact (x a o e).stay (fun _ _ _ q => q) (fun b q => by rw [upH_out (ne q)]; exact q) fun b xs q => by rw [upH_out (ne q)]; exact q
theorem hok_dn (k : Celd cs φ H) (x : HOk P w H h) : HOk P w (dnH cs H) h := fun a o e => by
  obtain ⟨m, e⟩ := dnH_some e
  exact (x a o e).stay (fun _ _ _ q => q) (fun b q => by rw [dnH_out (k.ne q fun φ z => by cases z)]; exact q) fun b xs q => by rw [dnH_out (k.ne q fun φ z => by cases z)]; exact q
theorem Celd.cell (k : Celd cs φ H) (x : HOk P w H h) (m : c ∈ cs) : φ c h := (x c _ (k c m)).1
mutual
theorem rep_dn (k : Celd cs φ H) : ∀ {d : D} {v : V}, RepA K H S d v → RepA K (dnH cs H) S d v
  | _, _, .non => .non
  | _, _, .bl b => .bl b
  | _, _, .int b => .int b
  | _, _, .str b => .str b
  | _, _, .adr b => .adr b
  | _, _, .tup (ds := ds) h r => .tup (by
      obtain ⟨o, h, d⟩ := h
      exact ⟨o, by rw [dnH_out (k.ne h fun φ z => by cases z)]; exact h, d⟩) (reps_dn k r)
  | _, _, .lst h n r => .lst (by rw [dnH_out (k.ne h fun φ z => by cases z)]; exact h) n (reps_dn k r)
  | _, _, .lsf h r => .lsf (by rw [dnH_out (k.ne h fun φ z => by cases z)]; exact h) (reps_dn k r)
  | _, _, .ins h i l r => .ins (by rw [dnH_out (k.ne h fun φ z => by cases z)]; exact h) i l (reps_dn k r)
theorem reps_dn (k : Celd cs φ H) : ∀ {ds : List D} {vs : List V}, RepsA K H S ds vs → RepsA K (dnH cs H) S ds vs
  | _, _, .nil => .nil
  | _, _, .cons h r => .cons (rep_dn k h) (reps_dn k r)
end
theorem rep_up (n : ∀ c ∈ cs, H c = none) {d : D} {v : V} (r : RepA K H S d v) : RepA K (upH cs φ H) S d v := r.ext (grp_upH n) (fun _ z => z.elim) fun a s => .inl s
end
section
variable {K : PySem.W.Frag} {W : Wrl} {F : Frm} {T : ASet} {ω : W.Ω} {ρ : List Sl} {σ : L2.St} {H H' : Hp} {cs : List Addr} {φ : CFn}
end
end LW
namespace LW
open PySem PySem.Spec PyProof.Rows L2 GenW
def cutS (s : Shared) (n : Nat) : Shared := { s with heap := { s.heap with objs := s.heap.objs.extract 0 n } }
theorem cutS_get {s : Shared} {n b : Nat} (h : b < n) : (cutS s n).heap.get? b = s.heap.get? b := by
  show Heap.get? { s.heap with objs := s.heap.objs.extract 0 n } b = _
  unfold Heap.get?
  have e : (s.heap.objs.extract 0 n)[b]? = s.heap.objs[b]? := by
    rw [Array.getElem?_extract]
    split
    · rw [Nat.zero_add]
    · rename_i z
      rw [Array.getElem?_eq_none (by omega)]
  show (match (s.heap.objs.extract 0 n)[b]? with | some ⟨_, _, .freed, _⟩ => none | o => o) = _
  rw [e] <;> rfl
theorem cutS_none {s : Shared} {n b : Nat} (h : n ≤ b) : (cutS s n).heap.get? b = none := by
  show Heap.get? { s.heap with objs := s.heap.objs.extract 0 n } b = _
  unfold Heap.get?
  have e : (s.heap.objs.extract 0 n)[b]? = none := by
    rw [Array.getElem?_extract]
    split
    · omega
    · rfl
  show (match (s.heap.objs.extract 0 n)[b]? with | some ⟨_, _, .freed, _⟩ => none | o => o) = _
  rw [e]
theorem cutS_of {s : Shared} {n b : Nat} {o : Obj} (h : (cutS s n).heap.get? b = some o) : b < n ∧ s.heap.get? b = some o := by
  rcases Nat.lt_or_ge b n with z | z
  · rw [cutS_get z] at h; exact ⟨z, h⟩
  · rw [cutS_none z] at h; cases h
theorem cutS_size {s : Shared} {n : Nat} (h : n ≤ s.heap.objs.size) : (cutS s n).heap.objs.size = n := by
  show (s.heap.objs.extract 0 n).size = n
  rw [Array.size_extract]; omega
structure GZ where
  P : Program
  w : World
  K : PySem.W.Frag
  mg : Str → Option Value
  base : Heap
  N : List Str
  qual : Str
  scope : Scope
  f : Addr
  cd : Value
  A : Around
  outer : List Env
  L : Nat
  fin : Option Exn
structure GIx where
  s : Shared
  H : Hp
  S : ASet
  pn : List (Addr × Obj)
@[reducible] def GZ.env (Z : GZ) : Env := envOfC Z.qual Z.scope Z.L Z.f Z.cd
def csOf (scope : Scope) (L : Nat) : List Addr := (cellsFrom (L + 1) scope.names []).filterMap fun p => (cellsFrom (L + 1) scope.names []).lookup p.1
def GZ.cs (Z : GZ) : List Addr := csOf Z.scope Z.L
theorem GZ.mem_cs {Z : GZ} {c : Addr} : c ∈ Z.cs ↔ ∃ x, Z.env.cells.lookup x = some c := by
  show c ∈ (Z.env.cells.filterMap fun p => Z.env.cells.lookup p.1) ↔ _
  rw [List.mem_filterMap]
  constructor
  · rintro ⟨p, _, e⟩
    exact ⟨p.1, e⟩
  · rintro ⟨x, e⟩
    exact ⟨(x, c), PySem.mem_of_lookup e, e⟩
def GZ.EX (Z : GZ) (ys : List D) (i : GIx) : XK := fun cls dd H' => ys = [] ∧ GrP (onC Z.cs) i.H H' ∧ ∃ x, Z.fin = some x ∧ XRep Z.K H' x cls dd
@[reducible] def GZ.X (Z : GZ) (ys : List D) (i : GIx) : Cx where
  prog := Z.P
  w := Z.w
  K := Z.K
  mg := Z.mg
  base := Z.base
  A := Z.A.deeper Z.env
  N := Z.N
  s_0 := i.s
  H_0 := dnH Z.cs i.H
  env := Z.env
  outer := Z.outer
  stack := Z.env :: Z.outer
  ex := []
  calm := true
  fn := fun _ => true
  pn := i.pn
  xe := fun e s' => wpAny (model Z.P Z.w) (Z.A.deeper Z.env) (leaving Z.env e) (fun _ s'' => L2N.CX Z.P Z.w Z.outer i.H i.s (Z.EX ys i) e s'' ∧ ∀ p ∈ i.pn, s''.heap.get? p.1 = some p.2) (fun _ _ => False) s'
structure GZ.Left (Z : GZ) (i : GIx) (H : Hp) (s : Shared) : Prop where
  os : s.os = i.s.os
  bare : AllBare s.gens
  gr : GrP (onC Z.cs) i.H H
  un : Un (frs Z.outer) [] i.H H i.s.heap s.heap
  hok : HOk Z.P Z.w H s.heap
  pn : ∀ p ∈ i.pn, s.heap.get? p.1 = some p.2 ∧ H p.1 = none
def GZ.Own (Z : GZ) (gp : List (Addr × Obj)) (H : Hp) (s : Shared) : Prop := ∀ p ∈ gp, s.heap.get? p.1 = some p.2 ∧ H p.1 = none ∧ Z.L ≤ p.1 ∧ p.1 ∉ frs Z.outer ∧ ∀ v, p.2.data ≠ .cell v
structure GZ.Wake (Z : GZ) (gp : List (Addr × Obj)) (hv : List (D × V)) (φ : CFn) (i : GIx) (s : Shared) : Prop where
  ix : i.s = cutS s Z.L
  sz : Z.L ≤ s.heap.objs.size
  bare : AllBare s.gens
  hok : HOk Z.P Z.w i.H s.heap
  base : ∀ b o, Z.base.get? b = some o → s.heap.get? b = some o ∧ i.H b = none
  funs : s.heap.FunFrames Z.base Z.outer
  frf : ∀ b ∈ frs Z.outer, i.H b = none ∧ b < Z.L
  own : ∀ p ∈ gp, s.heap.get? p.1 = some p.2 ∧ i.H p.1 = none
  pn : ∀ p ∈ i.pn, s.heap.get? p.1 = some p.2 ∧ i.H p.1 = none ∧ p.1 ∉ frs Z.outer ∧ (∀ v, p.2.data ≠ .cell v) ∧ ∀ q ∈ gp, p.1 ≠ q.1
  s0 : ∀ a, i.S a → i.H a ≠ none
  cel : Celd Z.cs φ i.H
  cS : ∀ c ∈ Z.cs, ¬ i.S c
  hv : ∀ p ∈ hv, RepA Z.K i.H i.S p.1 p.2
def GZ.Phi (Z : GZ) : List D → GIx → FinP
  | [] => fun i e s => match e with
    | .ret r => ((r = .ok (.ret .none) ∨ r = .ok .next) ∧ Z.fin = none ∧ ∃ H, Z.Left i H s) ∨ ∃ x, r = .error x ∧ L2N.CX Z.P Z.w Z.outer i.H i.s (Z.EX [] i) x s ∧ ∀ p ∈ i.pn, s.heap.get? p.1 = some p.2
    | .susp _ _ _ _ _ _ _ => False
  | d :: ys => fun i e s => match e with
    | .ret _ => False
    | .susp v g l k c p fs => (End.susp v g l k c p fs).quiet = true ∧ ∃ (x : V) (H : Hp) (gp : List (Addr × Obj)) (hv : List (D × V)) (φ : CFn), RelV x v ∧ Z.Left i H s ∧ Celd Z.cs φ H ∧ Z.Own gp H s ∧ (∀ p ∈ i.pn, ∀ q ∈ gp, p.1 ≠ q.1) ∧ RepA Z.K H i.S d x ∧ (∀ p ∈ hv, RepA Z.K H i.S p.1 p.2) ∧
        ∀ i' s', Z.Wake gp hv φ i' s' → Sg (model Z.P Z.w) Z.A (Z.Phi ys i') c (k (.send .none)) fs s'
structure GSt (Z : GZ) (ip : List (Addr × Obj)) (hid : List (D × V)) (ys : List D) (i : GIx) (ρ : List Sl) (σ : L2.St) (H : Hp) (s : Shared) : Prop where
  inv : Inv (Z.X ys i) ip σ H s
  rel : ∃ T, Rel Z.K W0 ⟨dnH Z.cs i.H, i.S, nop, hid⟩ T () ρ σ H
  sz : i.s.heap.objs.size = Z.L
  dis : ∀ p ∈ i.pn, ∀ q ∈ ip, p.1 ≠ q.1
  big : ∀ q ∈ ip, Z.L ≤ q.1
  frl : ∀ b ∈ frs Z.outer, b < Z.L
  cel : (∃ φ, Celd Z.cs φ i.H) ∧ ∀ c ∈ Z.cs, ¬ i.S c
structure PGn where
  nx : List D → List Sl → Prop
  rt : List D → Prop
  bk : List D → List Sl → Prop := fun _ _ => False
  ct : List D → List Sl → Prop := fun _ _ => False
  ex : List D → Exn → Prop
abbrev QTGn := PGn → List D → List Sl → Prop
section
variable {Z : GZ} {st : Stmt} {rest : List Stmt} {q u : QTGn}
end
end LW
namespace LW
open PySem PySem.Spec PyProof.Rows L2 GenW
section
variable {Z : GZ} {st : Stmt} {rest : List Stmt} {q u : QTGn}
end
def slotPairs : List Sl → L2.St → List (D × V)
  | .va d :: ρ, some v :: σ => (d, v) :: slotPairs ρ σ
  | _ :: ρ, _ :: σ => slotPairs ρ σ
  | _, _ => []
def allVa : List Sl → Bool
  | [] => true
  | .va _ :: ρ => allVa ρ
  | .no :: ρ => allVa ρ
  | _ => false
theorem allVa_owns : ∀ {ρ : List Sl}, allVa ρ = true → owns ρ = []
  | [], _ => rfl
  | .va _ :: ρ, h => allVa_owns (ρ := ρ) h
  | .no :: ρ, h => allVa_owns (ρ := ρ) h
  | .ow _ _ :: _, h => nomatch (show false = true from h)
  | .ex _ _ _ :: _, h => nomatch (show false = true from h)
theorem slots_pairs {K : PySem.W.Frag} {H : Hp} {S : ASet} : ∀ {ρ : List Sl} {σ : L2.St}, SlsR K H S ρ σ → allVa ρ = true → ∀ p ∈ slotPairs ρ σ, RepA K H S p.1 p.2
  | _, _, .nil, _, p, hp => by cases hp
  | _, _, .no r, h, p, hp => slots_pairs r h p (by unfold slotPairs at hp; exact hp)
  | _, _, .va q r, h, p, hp => by
    unfold slotPairs at hp
    rcases List.mem_cons.mp hp with z | z
    · rw [z]; exact q
    · exact slots_pairs r h p z
  | _, _, .ex _ _, h, _, _ => nomatch (show false = true from h)
  | _, _, .ow _ _ _, h, _, _ => nomatch (show false = true from h)
theorem slots_back {K : PySem.W.Frag} {H H' : Hp} {S S' : ASet} : ∀ {ρ : List Sl} {σ : L2.St}, SlsR K H S ρ σ → allVa ρ = true → (∀ p ∈ slotPairs ρ σ, RepA K H' S' p.1 p.2) → SlsR K H' S' ρ σ
  | _, _, .nil, _, _ => .nil
  | _, _, .no r, h, k => .no (slots_back r h fun p hp => k p (by unfold slotPairs; exact hp))
  | _, _, .va q r, h, k => .va (k (_, _) (by unfold slotPairs; exact List.mem_cons_self)) (slots_back r h fun p hp => k p (by unfold slotPairs; exact List.mem_cons_of_mem _ hp))
  | _, _, .ex _ _, h, _ => nomatch (show false = true from h)
  | _, _, .ow _ _ _, h, _ => nomatch (show false = true from h)
theorem funFrames_cut {s : Shared} {n : Nat} {base : Heap} : ∀ {l : List Env}, (∀ b ∈ frs l, b < n) → s.heap.FunFrames base l → (cutS s n).heap.FunFrames base l
  | [], _, _ => trivial
  | env :: rest, hl, ⟨hk, ⟨L, o, hf, hn, ho, hd⟩, hr⟩ => by
    have hL : L ∈ frs (env :: rest) := by unfold frs; rw [List.filterMap_cons, hf]; exact List.mem_cons_self
    refine ⟨hk, ⟨L, o, hf, hn, (cutS_get (hl L hL)).trans ho, hd⟩, funFrames_cut (fun b hb => hl b ?_) hr⟩
    unfold frs at hb ⊢
    rw [List.filterMap_cons, hf]
    exact List.mem_cons_of_mem _ hb
theorem spr_va {F : Frm} {T : ASet} {ρ : List Sl} (hT : ∀ a, ¬ T a) (h : allVa ρ = true) : ∀ a, Spr F T ρ a → F.S a := fun a z => by
  rcases z with z | z | z
  · exact z
  · exact absurd z (hT a)
  · rw [allVa_owns h] at z; cases z
theorem GSt.obj {Z : GZ} {ip : List (Addr × Obj)} {hid : List (D × V)} {ys : List D} {i : GIx} {ρ : List Sl} {σ : L2.St} {H : Hp} {s : Shared} (h : GSt Z ip hid ys i ρ σ H s) : ∃ oL, s.heap.get? Z.L = some oL :=
  let ⟨_, ⟨oL, _, _, eL, _⟩, _⟩ := h.inv.loc
  ⟨oL, eL⟩
theorem inv_cs {Z : GZ} {ip : List (Addr × Obj)} {ys : List D} {i : GIx} {σ : L2.St} {H : Hp} {s : Shared} (I : Inv (Z.X ys i) ip σ H s) : ∀ c ∈ Z.cs, i.s.heap.objs.size ≤ c ∧ H c = none ∧ (∃ v, s.heap.IsCell c v) ∧ c ≠ Z.L := fun c m => by
  obtain ⟨x, e⟩ := GZ.mem_cs.mp m
  exact ⟨I.ok.cab x c rfl e, I.freeC x c e, I.cell x c e, I.cne x c e⟩
theorem inv_pin_cs {Z : GZ} {ip : List (Addr × Obj)} {ys : List D} {i : GIx} {σ : L2.St} {H : Hp} {s : Shared} (I : Inv (Z.X ys i) ip σ H s) {p : Addr × Obj} (hp : p ∈ i.pn ++ ip) : p.1 ∉ Z.cs := fun m => by
  obtain ⟨_, _, ⟨v, o, e1, e2⟩, _⟩ := inv_cs I p.1 m
  obtain ⟨q1, _, _, _, q2⟩ := I.pin p hp
  rw [q1] at e1
  cases e1
  exact q2 v e2
theorem GZ.left_of {Z : GZ} {ip : List (Addr × Obj)} {ys : List D} {i : GIx} {σ : L2.St} {H : Hp} {s : Shared} {φ ψ : CFn} (I : Inv (Z.X ys i) ip σ H s) (k : Celd Z.cs φ i.H) (g : GrP nop (dnH Z.cs i.H) H) (hψ : ∀ c ∈ Z.cs, ψ c s.heap ∧ ∀ h1 h2 : Heap, ψ c h1 → (∀ o, h1.get? c = some o → h2.get? c = some o) → ψ c h2) : Z.Left i (upH Z.cs ψ H) s := by
  refine ⟨I.os, I.bare, grp_up k g, un_up k (fun c m => Heap.get?_none_of_le (inv_cs I c m).1) I.base, hok_up I.hok (fun c m => ⟨(inv_cs I c m).2.1, (inv_cs I c m).2.2.1⟩) hψ, fun p hp => ?_⟩
  have hp' := List.mem_append_left ip hp
  obtain ⟨a, b, _⟩ := I.pin p hp'
  exact ⟨a, upH_none b (inv_pin_cs I hp')⟩
theorem inv_celD {Z : GZ} {ip : List (Addr × Obj)} {ys : List D} {i : GIx} {σ : L2.St} {H : Hp} {s : Shared} (I : Inv (Z.X ys i) ip σ H s) : ∀ c ∈ Z.cs, celD Z.N Z.env σ c s.heap ∧ ∀ h1 h2 : Heap, celD Z.N Z.env σ c h1 → (∀ o, h1.get? c = some o → h2.get? c = some o) → celD Z.N Z.env σ c h2 := fun c m => by
  refine ⟨⟨(inv_cs I c m).2.2.1, fun j x v e1 e2 e3 e4 e5 => ?_⟩, fun h1 h2 a b => celD_stay a b⟩
  obtain ⟨_, _, hloc⟩ := I.loc
  obtain ⟨u, r, lk⟩ := hloc j x v e1 e2 e4
  refine ⟨u, r, ?_⟩
  rcases lk with ⟨k, _⟩ | ⟨_, c', q1, q2⟩
  · have k : Z.env.kindOf x = some .local := k
    rcases e5 with z | z
    · rw [k] at z; cases z
    · rw [k] at z; cases z
  · have q1 : Z.env.cells.lookup x = some c' := q1
    rw [e3] at q1
    cases q1
    exact q2
theorem GSt.rest {Z : GZ} {ip : List (Addr × Obj)} {hid : List (D × V)} {ys : List D} {i : GIx} {ρ : List Sl} {σ : L2.St} {H : Hp} {s : Shared} {oL : Obj} (h : GSt Z ip hid ys i ρ σ H s) (hv : allVa ρ = true) (eo' : s.heap.get? Z.L = some oL) :
    Z.Left i (upH Z.cs (celD Z.N Z.env σ) H) s ∧ Celd Z.cs (celD Z.N Z.env σ) (upH Z.cs (celD Z.N Z.env σ) H) ∧ Z.Own ((Z.L, oL) :: ip) (upH Z.cs (celD Z.N Z.env σ) H) s ∧ (∀ p ∈ i.pn, ∀ q ∈ (Z.L, oL) :: ip, p.1 ≠ q.1) ∧ (∀ p ∈ hid ++ slotPairs ρ σ, RepA Z.K (upH Z.cs (celD Z.N Z.env σ) H) i.S p.1 p.2) ∧ ∀ ys' i' s', Z.Wake ((Z.L, oL) :: ip) (hid ++ slotPairs ρ σ) (celD Z.N Z.env σ) i' s' → GSt Z ip hid ys' i' ρ σ (dnH Z.cs i'.H) s' := by
  obtain ⟨I, ⟨T, R⟩, sz, dis, big, frl, ⟨⟨φ, cel⟩, cS⟩⟩ := h
  have hT : ∀ a, ¬ T a := R.inv
  obtain ⟨m, ⟨oL', es, ep, eL, dL, hk, hm⟩, hloc⟩ := id I.loc
  have e0 : s.heap.get? Z.L = some oL' := eL
  rw [eo'] at e0
  cases e0
  have cs0 := inv_cs I
  have cn : ∀ c ∈ Z.cs, H c = none := fun c m => (cs0 c m).2.1
  have less : ∀ a, i.S a → Spr ⟨dnH Z.cs i.H, i.S, nop, hid⟩ T ρ a := fun a z => .inl z
  have cellL : ∀ v, oL.data ≠ .cell v := fun v z => by rw [dL] at z; cases z
  have LnotF : Z.L ∉ frs Z.outer := fun z => Nat.lt_irrefl _ (frl _ z)
  refine ⟨GZ.left_of I cel R.gr (inv_celD I), upH_celd, fun p hp => ?_, fun p hp q hq => ?_, fun p hp => rep_up cn ?_, fun ys' i' s' wk => ?_⟩
  · rcases List.mem_cons.mp hp with rfl | hp
    · exact ⟨eL, upH_none I.free fun z => (cs0 _ z).2.2.2 rfl, Nat.le_refl _, LnotF, cellL⟩
    · obtain ⟨a, b, _, d, e⟩ := I.pin p (List.mem_append_right _ hp)
      exact ⟨a, upH_none b (inv_pin_cs I (List.mem_append_right _ hp)), big p hp, d, e⟩
  · rcases List.mem_cons.mp hq with rfl | hq
    · exact (I.pin p (List.mem_append_left _ hp)).2.2.1
    · exact dis p hp q hq
  · rcases List.mem_append.mp hp with hp | hp
    · exact (R.hd p hp).less less
    · exact (slots_pairs R.sl hv p hp).less less
  · have ok := I.ok
    obtain ⟨eo, hoL⟩ := wk.own (Z.L, oL) List.mem_cons_self
    have esz : i'.s.heap.objs.size = Z.L := by rw [wk.ix]; exact cutS_size wk.sz
    have bL : ∀ b o, Z.base.get? b = some o → b < Z.L := fun b o e => by
      have h2 : Z.base.objs.size ≤ i.s.heap.objs.size := ok.bsz
      rw [sz] at h2
      exact Nat.lt_of_lt_of_le (Heap.lt_size e) h2
    refine ⟨⟨⟨ok.mod, ok.kind, ok.glob, ok.blt, ?_, ok.inj, ok.has, fun x c hf e => ?_, ok.hd, ok.frames, ok.stk, (fun b hb => by cases hb), fun b o e => ?_, ?_, (fun b o e hb => by cases hb), (fun b hb => by cases hb), ?_, fun b hb => dnH_none (wk.frf b hb).1⟩, ?_, wk.bare, ?_, ⟨m, ⟨oL, es, ep, eo, dL, hk, hm⟩, fun j x v h1 h2 h3 => ?_⟩, fun x c e => (wk.cel.cell wk.hok (GZ.mem_cs.mpr ⟨x, e⟩)).1, dnH_none hoL, fun x c e => dnH_in (GZ.mem_cs.mpr ⟨x, e⟩), fun p hp => ?_, hok_dn wk.cel wk.hok, I.len⟩, ⟨nop, GrP.refl _ _, fun _ z => z, fun _ z => z.elim, fun l hl => ?_, ?_, fun a sa => ⟨?_, fun z => z⟩, fun p hp => ?_, ?_⟩, esz, fun p hp q hq => ?_, big, frl, ⟨⟨_, wk.cel⟩, wk.cS⟩⟩
    · show i'.s.heap.objs.size ≤ Z.L
      omega
    · show i'.s.heap.objs.size ≤ c
      have h1 := ok.cab x c hf e
      have h1 : i.s.heap.objs.size ≤ c := h1
      omega
    · refine ⟨?_, dnH_none (wk.base b o e).2⟩
      show i'.s.heap.get? b = some o
      rw [wk.ix, cutS_get (bL b o e)]
      exact (wk.base b o e).1
    · show Z.base.objs.size ≤ i'.s.heap.objs.size
      have h2 : Z.base.objs.size ≤ i.s.heap.objs.size := ok.bsz
      omega
    · show i'.s.heap.FunFrames Z.base Z.outer
      rw [wk.ix]
      exact funFrames_cut frl wk.funs
    · show s'.os = i'.s.os
      rw [wk.ix] <;> rfl
    · show Un (frs Z.outer) [] (dnH Z.cs i'.H) (dnH Z.cs i'.H) i'.s.heap s'.heap
      rw [wk.ix]
      exact Un.kept fun b o e => (cutS_of e).2
    · obtain ⟨u, ru, lk⟩ := hloc j x v h1 h2 h3
      rcases lk with lk | ⟨k, c, e, _⟩
      · exact ⟨u, ru, .inl lk⟩
      · obtain ⟨u', ru', ic⟩ := (wk.cel.cell wk.hok (GZ.mem_cs.mpr ⟨x, e⟩)).2 j x v h1 h2 e h3 k
        exact ⟨u', ru', .inr ⟨k, c, e, ic⟩⟩
    · rcases List.mem_append.mp hp with hp | hp
      · obtain ⟨a, b, c, d, e⟩ := wk.pn p hp
        exact ⟨a, dnH_none b, e (Z.L, oL) List.mem_cons_self, c, d⟩
      · obtain ⟨_, _, c, d, e⟩ := I.pin p (List.mem_append_right _ hp)
        obtain ⟨a, b⟩ := wk.own p (List.mem_cons_of_mem _ hp)
        exact ⟨a, dnH_none b, c, d, e⟩
    · rw [allVa_owns hv] at hl; cases hl
    · rw [allVa_owns hv]; exact List.nodup_nil
    · rw [dnH_out fun m => wk.cS a m sa]
      exact wk.s0 a sa
    · exact (rep_dn wk.cel (wk.hv p (List.mem_append_left _ hp))).less fun a z => spr_va (fun _ z => z) hv a z
    · exact slots_back R.sl hv fun p hp => (rep_dn wk.cel (wk.hv p (List.mem_append_right _ hp))).less fun a z => spr_va (fun _ z => z) hv a z
    · exact (wk.pn p hp).2.2.2.2 q (List.mem_cons_of_mem _ hq)
theorem GSt.unpin {Z : GZ} {ip pl : List (Addr × Obj)} {hid : List (D × V)} {ys : List D} {i : GIx} {ρ : List Sl} {σ : L2.St} {H : Hp} {s : Shared} (x : GSt Z (ip ++ pl) hid ys i ρ σ H s) : GSt Z ip hid ys i ρ σ H s :=
  ⟨x.inv.unpinned, x.rel, x.sz, fun p hp q hq => x.dis p hp q (List.mem_append_left _ hq), fun q hq => x.big q (List.mem_append_left _ hq), x.frl, x.cel⟩
end LW
namespace LW
open PySem PySem.Spec PyProof.Rows L2 GenW
abbrev PSpG := List D → List D → Option Exn → Prop
abbrev mkZ (P : Program) (w : World) (K : PySem.W.Frag) (mg : Str → Option Value) (base : Heap) (N : List Str) (qual : Str) (scope : Scope) (f : Addr) (cd : Value) (A : Around) (outer : List Env) (L : Nat) (fin : Option Exn) : GZ :=
  ⟨P, w, K, mg, base, N, qual, scope, f, cd, A, outer, L, fin⟩
structure GObj (go : Obj) (g : Nat) : Prop where
  cls : go.cls = .type "generator"
  data : ∃ nm qn, go.data = .fields #[.int g 0, nm, qn]
  slots : go.slots = #[]
theorem GObj.is {go : Obj} {g : Nat} {h : Heap} {a : Addr} (x : GObj go g) (e : h.get? a = some go) : h.IsGen a g :=
  let ⟨nm, qn, d⟩ := x.data
  ⟨go, nm, qn, e, x.cls, d, x.slots⟩
end LW
namespace LW
open PySem PySem.Spec PyProof.Rows L2 GenW
section
variable {X : Cx} {pins : List (Addr × Obj)} {σ : L2.St} {H H1 : Hp} {s s' : Shared} {L : Nat}
end
structure Rdy (P : Program) (w : World) (K : PySem.W.Frag) (base : Heap) (A : Around) (outer : List Env) (L : Nat) (fin : Option Exn) (a g : Nat) (go : Obj) (S : ASet) (ys : List D) (gp : List (Addr × Obj)) (hv : List (D × V)) (cs : List Addr) (φ : CFn) (gs : GenState) (H : Hp) (s : Shared) : Prop where
  obj : s.heap.get? a = some go
  ho : H a = none
  own : ∀ p ∈ gp, s.heap.get? p.1 = some p.2 ∧ H p.1 = none ∧ L ≤ p.1 ∧ p.1 ≠ a ∧ ∀ v, p.2.data ≠ .cell v
  hvr : ∀ p ∈ hv, RepA K H S p.1 p.2
  gsa : s.gens[g]? = some gs
  cel : Celd cs φ H
  goes : ∃ (mg : Str → Option Value) (N : List Str) (qual : Str) (scope : Scope) (f : Addr) (cd : Value), csOf scope L = cs ∧ ∀ i s2, (mkZ P w K mg base N qual scope f cd A outer L fin).Wake gp hv φ i s2 → GoesZ (model P w) A ((mkZ P w K mg base N qual scope f cd A outer L fin).Phi ys i) gs s2
theorem Rdy.keep {P : Program} {w : World} {K : PySem.W.Frag} {base : Heap} {A : Around} {outer : List Env} {L : Nat} {fin : Option Exn} {a g : Nat} {go : Obj} {S S' : ASet} {ys : List D} {gp : List (Addr × Obj)} {hv : List (D × V)} {cs : List Addr} {φ : CFn} {gs : GenState} {H H' : Hp} {s s' : Shared} (r : Rdy P w K base A outer L fin a g go S ys gp hv cs φ gs H s)
    (ho : s'.heap.get? a = some go ∧ H' a = none) (hp : ∀ p ∈ gp, s'.heap.get? p.1 = some p.2 ∧ H' p.1 = none) (hh : ∀ p ∈ hv, RepA K H' S' p.1 p.2) (hg : s'.gens[g]? = some gs) (hc : Celd cs φ H') : Rdy P w K base A outer L fin a g go S' ys gp hv cs φ gs H' s' :=
  ⟨ho.1, ho.2, fun p hp' => ⟨(hp p hp').1, (hp p hp').2, (r.own p hp').2.2⟩, hh, hg, hc, r.goes⟩
end LW
namespace LW
open PySem PySem.Spec PyProof.Rows L2 GenW
abbrev QTGen (W : Wrl) := W.Ω → List Sl → (W.Ω → List D → Option Exn → Prop) → (W.Ω → Exn → Prop) → Prop
section
variable {X : Cx} {W : Wrl} {Wo : WX} {mr m m1 m2 : Md} {pf : PSpG} {qs : QTA W} {qo : QT W} {k : Nat} {f C : Addr} {fd : FuncData} {ps : List Str} {x mn : Str} {p pos apos : Pos} {e o a b fe : Expr} {es : List Expr}
def qGMeth (C : Addr) (mn : Str) (pf : PSpG) (qo : QT W) (qs : QTA W) : QTGen W := fun ω ρ Q E => qo ω ρ (fun ω1 d => ∃ ns ds, d = .ins C ns ds ∧ mn ∉ ns ∧ qs ω1 ρ (fun ω2 es => ∃ ys fin, pf (d :: es) ys fin ∧ Q ω2 ys fin) E) E
def qGCall (pf : PSpG) (qs : QTA W) : QTGen W := fun ω ρ Q E => qs ω ρ (fun ω1 es => ∃ ys fin, pf es ys fin ∧ Q ω1 ys fin) E
end
def kForG {W : Wrl} (K : PySem.W.Frag) (g : QTG) (s : QTS W) (P : PEn W) (ω1 : W.Ω) (ρ : List Sl) (ys : List D) (fin : Option Exn) : Prop :=
  (∀ x, fin = some x → PySem.W.subIn K (.ref x.C) (.type "StopIteration") = some false) ∧ ∃ I : Nat → W.Ω → List Sl → Prop, I 0 ω1 ρ ∧
    (∀ i d ω ρ, ys[i]? = some d → I i ω ρ → g d ρ fun ρ' => s { P with nx := I (i + 1), ct := I (i + 1), bk := P.nx, ex := fun _ _ _ => False } ω ρ') ∧ ∀ ω ρ, I ys.length ω ρ → match fin with | none => P.nx ω ρ | some x => P.ex ω x ρ
def sForG {W : Wrl} (K : PySem.W.Frag) (qg : QTGen W) (g : QTG) (s : QTS W) : QTS W := fun P ω ρ => qg ω ρ (fun ω1 ys fin => kForG K g s P ω1 ρ ys fin) fun ω1 x => P.ex ω1 x ρ
end LW
namespace LW
open PySem PySem.Spec PyProof.Rows L2 GenW
section
variable {X : Cx} {pins : List (Addr × Obj)} {σ : L2.St} {H : Hp} {s : Shared} {S : Addr} {acc : Array Value} {c : Nat} {xs : List V}
end
def kLG (b : Bool) (K : PySem.W.Frag) (fin : Option Exn) (ys : List D) (R : Prop) (RX : Exn → Prop) : Prop := ys.length ≤ 1000000 ∧ match fin with | none => R | some x => b = true ∧ PySem.W.subIn K (.ref x.C) (.type "StopIteration") = some false ∧ RX x
def qListG {W : Wrl} (b : Bool) (K : PySem.W.Frag) (qg : QTGen W) : QT W := fun ω ρ Q E => qg ω ρ (fun ω1 ys fin => kLG b K fin ys (Q ω1 (.lst ys)) (E ω1)) E
end LW
namespace LW
open PySem PySem.Spec PyProof.Rows L2 GenW
def iAny {W : Wrl} (qa : QT W) : QTI W := fun ω ρ Q E => qa ω ρ (fun ω1 d => ∃ ds, (d = .lst ds ∨ d = .tup ds) ∧ Q ω1 ds) E
section
variable {W : Wrl} {P : PEn W} {ω : W.Ω} {ρ : List Sl} {Q : W.Ω → D → Prop} {E : W.Ω → Exn → Prop} {QL : W.Ω → List D → Prop} {qa qo : QT W} {qs : QTA W} {s : QTS W} {d : D} {ds ys : List D} {g : QTG} {pf : PSpG} {C : Addr} {m : Str} {qg : QTGen W} {K : PySem.W.Frag} {fin : Option Exn} {QG : W.Ω → List D → Option Exn → Prop}
theorem v_iAny (h : qa ω ρ (fun ω1 d => ∃ ds, (d = .lst ds ∨ d = .tup ds) ∧ QL ω1 ds) E) : iAny qa ω ρ QL E := h
theorem v_forG (h : qg ω ρ (fun ω1 ys fin => kForG K g s P ω1 ρ ys fin) fun ω1 x => P.ex ω1 x ρ) : sForG K qg g s P ω ρ := h
theorem v_gmeth (h : qo ω ρ (fun ω1 d => kIns C m d (qs ω1 ρ (fun ω2 es => ∃ ys fin, pf (d :: es) ys fin ∧ QG ω2 ys fin) E)) E) : qGMeth C m pf qo qs ω ρ QG E := h
theorem v_gcall (h : qs ω ρ (fun ω1 es => ∃ ys fin, pf es ys fin ∧ QG ω1 ys fin) E) : qGCall pf qs ω ρ QG E := h
theorem v_listG {b : Bool} (h : qg ω ρ (fun ω1 ys fin => kLG b K fin ys (Q ω1 (.lst ys)) (E ω1)) E) : qListG b K qg ω ρ Q E := h
end
section
variable {P : PGn} {ρ : List Sl} {ys ds : List D} {q u : QTGn} {s : QTS W0} {qa : QT W0} {qi : QTI W0} {g : QTG} {d : D}
end
end LW
namespace LW
open PySem PySem.Spec PyProof.Rows L2
section
variable {X : Cx} {W : Wrl} {Wo : WX} {mr m m1 m2 : Md} {a b e o : Expr} {es : List Expr} {st : Stmt} {sts : List Stmt} {pos p apos : Pos} {qa qb qo : QT W} {qs : QTA W} {C D : Addr} {k : Bool}
def qIsO (C : Addr) (k : Bool) (qa : QT W) : QT W := fun ω ρ Q E => qa ω ρ (fun ω1 d => kObj C d (Q ω1 (.bl k))) E
theorem v_isiO' {ω : W.Ω} {ρ : List Sl} {Q : W.Ω → LW.D → Prop} {E : W.Ω → Exn → Prop} (h : qa ω ρ (fun ω1 d => kObj C d (Q ω1 (.bl k))) E) : qIsO C k qa ω ρ Q E := h
def kIsT (T : String) (d : LW.D) (R : Bool → Prop) : Prop := d.isIns = false ∧ ∃ b, kitB d.tyn T = some b ∧ R b
def qIsT (T : String) (qa : QT W) : QT W := fun ω ρ Q E => qa ω ρ (fun ω1 d => kIsT T d fun b => Q ω1 (.bl b)) E
theorem v_isT {T : String} {ω : W.Ω} {ρ : List Sl} {Q : W.Ω → LW.D → Prop} {E : W.Ω → Exn → Prop} (h : qa ω ρ (fun ω1 d => kIsT T d fun b => Q ω1 (.bl b)) E) : qIsT T qa ω ρ Q E := h
theorem v_kIsT {T : String} {d : LW.D} {R : Bool → Prop} {b : Bool} (h1 : d.isIns = false) (h2 : kitB d.tyn T = some b) (h : R b) : kIsT T d R := ⟨h1, b, h2, h⟩
def MtQ (m : Md) (K : PySem.W.Frag) (r : V → List V → Hp → VK → Prop) (f : LW.D → List LW.D → (LW.D → Prop) → Prop) : Prop := ∀ (S : ASet) (os : List Addr) (H : Hp) (d : LW.D) (ds : List LW.D) (v : V) (vs : List V) (Q : VK) (Qp : LW.D → Prop), (∀ a, S a → H a ≠ none) → RC K H S os d v → ROs .C K H S os ds vs → f d ds Qp →
  (∀ x u H', GrP nop H H' → RR m K H H' S os x u → Qp x → Q u H') → r v vs H Q
def qMtT (f : LW.D → List LW.D → (LW.D → Prop) → Prop) (qo : QT W) (qs : QTA W) : QT W := fun ω ρ Q E => qo ω ρ (fun ω1 d => ∃ ds, d = .tup ds ∧ qs ω1 ρ (fun ω2 es => f d es (Q ω2)) E) E
def qMtL (f : LW.D → List LW.D → (LW.D → Prop) → Prop) (qo : QT W) (qs : QTA W) : QT W := fun ω ρ Q E => qo ω ρ (fun ω1 d => ∃ ds, d = .lst ds ∧ qs ω1 ρ (fun ω2 es => f d es (Q ω2)) E) E
theorem v_mtT {f : LW.D → List LW.D → (LW.D → Prop) → Prop} {ω : W.Ω} {ρ : List Sl} {Q : W.Ω → LW.D → Prop} {E : W.Ω → Exn → Prop} (h : qo ω ρ (fun ω1 d => ∃ ds, d = .tup ds ∧ qs ω1 ρ (fun ω2 es => f d es (Q ω2)) E) E) : qMtT f qo qs ω ρ Q E := h
theorem v_mtL {f : LW.D → List LW.D → (LW.D → Prop) → Prop} {ω : W.Ω} {ρ : List Sl} {Q : W.Ω → LW.D → Prop} {E : W.Ω → Exn → Prop} (h : qo ω ρ (fun ω1 d => ∃ ds, d = .lst ds ∧ qs ω1 ρ (fun ω2 es => f d es (Q ω2)) E) E) : qMtL f qo qs ω ρ Q E := h
def fSorted (ds : List LW.D) (Q : LW.D → Prop) : Prop := ∃ ns : List Int, (ds = [.lst (dInts ns)] ∨ ds = [.tup (dInts ns)]) ∧ ns.length < 64 ∧ ∀ ns' : List Int, ns'.Perm ns → ns'.Pairwise (· ≤ ·) → Q (.lst (dInts ns'))
theorem sortedP {K : PySem.W.Frag} : CaP .C .F K (rSortedA K) fSorted := fun S os H ds vs Q Qp hS r ⟨ns, hd, h64, h⟩ k => by
  rcases hd with rfl | rfl
  · obtain ⟨v, rfl, rv⟩ := r.one
    obtain ⟨l, xs, rfl, hl, hr, _⟩ := rv.c.lst
    rw [hr.ints] at hl
    exact ⟨l, ns, rfl, .inl hl, h64, fun ns' p h1 h2 hp => k _ _ _ (GrP.new hp) (rf_new hS hp (repsA_ints ns')) (h ns' h1 h2)⟩
  · obtain ⟨v, rfl, rv⟩ := r.one
    obtain ⟨l, xs, rfl, hl, hr⟩ := rv.c.tup
    rw [hr.ints] at hl
    exact ⟨l, ns, rfl, .inr hl, h64, fun ns' p h1 h2 hp => k _ _ _ (GrP.new hp) (rf_new hS hp (repsA_ints ns')) (h ns' h1 h2)⟩
theorem v_sorted {ns : List Int} {Q : LW.D → Prop} (h64 : ns.length < 64) (h : ∀ ns' : List Int, ns'.Perm ns → ns'.Pairwise (· ≤ ·) → Q (.lst (dInts ns'))) : fSorted [.lst (dInts ns)] Q := ⟨ns, .inl rfl, h64, h⟩
end
end LW
namespace LW
open PySem PySem.Spec PyProof.Rows L2
def rMax2 : List V → Hp → VK → Prop := fun xs H Q => ∃ i j, xs = [V.int i, V.int j] ∧ Q (.int (if j > i then j else i)) H
theorem cr_max2 {X : Cx} (hc : X.calm = true) : CallR X (.builtin "max") rMax2 := call_max2 hc
def fMax2 : List D → (D → Prop) → Prop
  | [.int i, .int j], Q => Q (.int (if j > i then j else i))
  | _, _ => False
theorem max2P {K : PySem.W.Frag} : CaP .C .A K rMax2 fMax2 := fun S os H ds vs Q Qp hS r h k => by
  unfold fMax2 at h
  split at h
  · obtain ⟨v, w, rfl, rv, rw'⟩ := r.two
    rw [rv.c.int, rw'.c.int]
    exact ⟨_, _, rfl, k _ _ H (GrP.refl _ _) (.int _) h⟩
  · exact h.elim
theorem v_max2 {i j : Int} {Q1 : D → Prop} (h : Q1 (.int (if j > i then j else i))) : fMax2 [.int i, .int j] Q1 := h
end LW
namespace LW
open PySem PySem.Spec PyProof.Rows L2
theorem repsI_of {K : PySem.W.Frag} {H : Hp} {S : ASet} : ∀ {ns : List Int} {xs : List V}, RepsA K H S (dInts ns) xs → xs = ns.map V.int
  | [], _, .nil => rfl
  | n :: ns, _, .cons r rs => by
    cases r with
    | int => rw [repsI_of (ns := ns) rs] <;> rfl
theorem repsI_mk {K : PySem.W.Frag} {H : Hp} {S : ASet} : ∀ (ns : List Int), RepsA K H S (dInts ns) (ns.map V.int)
  | [] => .nil
  | n :: ns => .cons (.int n) (repsI_mk ns)
theorem first_idx {ns : List Int} {k : Int} (h : k ∈ ns) : ∃ j, ns[j]? = some k ∧ (∀ m : Nat, m < j → ns[m]? ≠ some k) ∧ ns.eraseIdx j = ns.erase k := by
  induction ns with
  | nil => cases h
  | cons a r ih =>
    by_cases e : a = k
    · exact ⟨0, by rw [e] <;> rfl, fun m hm => absurd hm (Nat.not_lt_zero _), by rw [e, List.erase_cons_head] <;> rfl⟩
    · obtain ⟨j, h1, h2, h3⟩ := ih ((List.mem_cons.mp h).resolve_left fun z => e z.symm)
      refine ⟨j + 1, h1, fun m hm => ?_, ?_⟩
      · cases m with
        | zero => exact fun z => e (Option.some.inj z)
        | succ m => exact h2 m (by omega)
      · rw [List.erase_cons_tail (by simpa using e)]
        show a :: r.eraseIdx j = _
        rw [h3]
section
variable {X : Cx} {W : Wrl} {Wo : WX} {m mr : Md} {o e : Expr} {pos pos' : Pos} {i : Nat} {qa : QT W} {P : PEn W} {ω : W.Ω} {ρ : List Sl}
def sRem (i : Nat) (qa : QT W) : QTS W := fun P ω ρ => ∃ l ns, ρ[i]? = some (.ow l (dInts ns)) ∧ qa ω ρ (fun ω1 d => ∃ k : Int, d = .int k ∧ k ∈ ns ∧ P.nx ω1 (ρ.set i (.ow l (dInts (ns.erase k))))) fun ω1 x => P.ex ω1 x ρ
theorem v_rem {l : Addr} {ns : List Int} (h1 : ρ[i]? = some (.ow l (dInts ns))) (h : qa ω ρ (fun ω1 d => ∃ k : Int, d = .int k ∧ k ∈ ns ∧ P.nx ω1 (ρ.set i (.ow l (dInts (ns.erase k))))) fun ω1 x => P.ex ω1 x ρ) : sRem i qa P ω ρ := ⟨l, ns, h1, h⟩
theorem qs_rem {to : TE} {apos : Pos} (hto : to = tVar i) (ho : PE X o to) (ha : QE X m W Wo e qa) (hm : m.st = true := by rfl)
    (hbase : attributeBase o "remove" X.env (eval o X.env) = eval o X.env := by rfl)
    (hfew : ((backTo pos' (starEach [e] X.env)).all (fun x => !x.1) && (backToKw pos' (keywordEach [] X.env)).all (fun x => x.1.isSome)
      && decide ([e].length + ([] : List Keyword).length + (if ([] : List Keyword).isEmpty then 0 else 1) < 30)) = true := by rfl)
    (hline : (apos.endLine == pos'.line) = true := by rfl) (hst : starEach [e] X.env = (false, eval e X.env) :: starEach [] X.env := by rfl) (hplain : (backTo pos' (starEach [] X.env)).any (·.1) = false := by rfl)
    (hs : swapsWith (.Call (.Attribute o "remove" apos) [e] [] pos') none pos.line X.env = pure false := by rfl) :
    QS X mr W Wo (.Expr (.Call (.Attribute o "remove" apos) [e] [] pos') pos) (sRem i qa) := PS.imp (ps_expr (pe_bm PySem.F.plainAttrs_list PySem.F.slot_list_remove PySem.F.type_list_remove mt_remove ho (pa_cons ha pa_nil hst) hbase hfew hline hst hplain) hs) fun D σ H ⟨F, T, ω, ρ, P, R, ⟨l, ns, hi, q⟩, S⟩ => by
  subst hto
  obtain ⟨hv, xs, h1, r⟩ := R.sl.get_ow hi
  refine ⟨.ref l, hv, .inl ⟨rfl, xs, sql_of h1⟩, F, T, ω, ρ, _, _, R, q, S.xok, fun T' ω' d v H' R' e r' q' => ?_⟩
  obtain ⟨_, xs', h1', rr⟩ := R'.sl.get_ow hi
  obtain ⟨k, rfl, hk, nx⟩ := q'
  have ra := r'.a hm
  cases ra with
  | int =>
    obtain ⟨j, j1, j2, j3⟩ := first_idx hk
    have ex := repsI_of rr
    subst ex
    refine ⟨l, ns, k, j, rfl, rfl, h1', j1, j2, ?_⟩
    rw [j3]
    exact S.nx T' ω' _ _ _ (R'.wr hi (repsI_mk _)) nx
end
end LW
namespace LW
open PySem PySem.Spec PyProof.Rows L2
def rIsX (K : PySem.W.Frag) (a : Addr) (cls : Value) (d : Option Addr) : List V → Hp → VK → Prop := fun xs H Q => ∃ (D C : Addr) (b : Bool), cls = .ref D ∧ (d = none ∨ ∃ dd fs, d = some dd ∧ H dd = some (.xd fs)) ∧ ExcC K D ∧ xs = [.ref a, .ref C] ∧ PySem.W.kitOne K (.ref D) (.ref C) = some b ∧ Q (.bl b) H
theorem cr_isX {X : Cx} {a : Addr} {oe : Obj} {cls : Value} {d : Option Addr} {pn : List (Addr × Obj)} (hz : L2N.Zn cls d oe) (hf : ∃ vs, oe.data = .fields vs) : CallR (X.suite a ((a, oe) :: pn)) (.builtin "isinstance") (rIsX X.K a cls d) := by
  intro pins s σ H xs us Q I r h
  obtain ⟨D, C, b, e1, hd, hC, e3, hk, q⟩ := h
  subst e1 e3
  cases r with
  | cons rx rr =>
    cases rr with
    | cons rt rr =>
      cases rr
      obtain rfl : _ = Value.ref a := rx
      obtain rfl : _ = Value.ref C := rt
      obtain ⟨hget, _⟩ := I.pin (a, oe) (List.mem_append.mpr (.inl List.mem_cons_self))
      obtain ⟨vs, hv⟩ := hf
      have J : ∃ od, PySem.W.InstAt s.heap a oe D od := by
        have nc : PySem.W.notCls oe := by unfold PySem.W.notCls; rw [hv] <;> rfl
        rcases hd with hd | ⟨dd, fs, hd, hh⟩
        · subst hd
          exact ⟨none, hget, hz.1, nc, by rw [hz.2.1]; trivial⟩
        · subst hd
          obtain ⟨mA, hns, _⟩ := (I.hok dd _ hh : ObjOk X.prog X.w H s.heap dd (.xd fs))
          obtain ⟨od, ho, _⟩ := lookIn_ns hns
          exact ⟨some od, hget, hz.1, nc, by rw [hz.2.1]; exact ho⟩
      obtain ⟨od, J⟩ := J
      have hcl : (PySem.W.clsIn X.K D).isSome = true := by
        obtain ⟨cd, hc, _⟩ := PySem.W.any_some hC.hd
        rw [hc] <;> rfl
      exact PySem.W.kia_one (PySem.W.kitx_exc hcl hC.hg hC.hk hC.hs hC.ha hC.hn hC.ht hC.hm) I.kIn J hk (fun z => nomatch z) fun tk => ⟨.bl b, H, I.kept (t' := tk) fun _ _ z => z, rfl, q⟩
section
variable {X : Cx} {W : Wrl} {Wo : WX} {a C : Addr} {oe : Obj} {d : Option Addr} {pn : List (Addr × Obj)} {x : Exn} {i : Nat} {e b : Expr} {p pos : Pos}
theorem XDict.cs {K : PySem.W.Frag} {H : Hp} {x : Exn} {d : Option Addr} (h : XDict K H x d) : d = none ∨ ∃ dd fs, d = some dd ∧ H dd = some (.xd fs) := by
  unfold XDict at h
  split at h
  · exact .inl h
  · obtain ⟨a, v, e, hh, _⟩ := h
    exact .inr ⟨a, _, e, hh⟩
theorem qe_isE {K : PySem.W.Frag} (hK : X.K = K) {oe : Obj} (hz : L2N.Zn (.ref x.C) d oe) (hf : ∃ vs, oe.data = .fields vs) (hg : Gl X "isinstance") (hm : X.mg "isinstance" = none) (ha : PE (X.suite a ((a, oe) :: pn)) e (tVar i)) (hb : PE (X.suite a ((a, oe) :: pn)) b (tC (.ref C)))
    (h0 : starEach [e, b] X.env = (false, eval e X.env) :: starEach [b] X.env := by rfl) (h01 : starEach [b] X.env = (false, eval b X.env) :: starEach [] X.env := by rfl) (h2 : (backTo pos (starEach [b] X.env)).any (·.1) = false := by rfl) :
    QE (X.suite a ((a, oe) :: pn)) .A W Wo (.Call (.Name "isinstance" p) [e, b] [] pos) (qIsE K i x a d C) := by
  subst hK
  refine PE.imp (pe_callB (cr_isX hz hf) hg hm (by decide +kernel) (pa_cons ha (pa_cons hb pa_nil h01) h0) (by decide) (by decide) h0 h2) fun σ H Q ⟨F, T, ω, ρ, Qp, Ep, R, ⟨hi, hC, k, hk, q⟩, hx, kk⟩ => ?_
  obtain ⟨hs, xd⟩ := R.sl.get_ex hi
  exact ⟨.ref a, hs, x.C, C, k, rfl, xd.cs, hC, rfl, hk, kk T ω (.bl k) _ H R .refl (RepA.bl k) q⟩
def qFldE (i : Nat) (x : Exn) (a : Addr) (d : Option Addr) (C : Addr) (n : Str) : QT W := fun ω ρ Q _ => ρ[i]? = some (.ex a d x) ∧ x.C = C ∧ ∃ y, x.f = some (n, y) ∧ Q ω y
theorem qe_fldE {oe : Obj} {n : Str} (T : XfC X.K C) (hno : PySem.W.findIn X.K (.ref C) n = some none) (hz : L2N.Zn (.ref x.C) d oe) (hf : ∃ vs, oe.data = .fields vs) (he : PE (X.suite a ((a, oe) :: pn)) e (tVar i)) (hb : attributeBase e n X.env (eval e X.env) = eval e X.env := by rfl) :
    QE (X.suite a ((a, oe) :: pn)) .A W Wo (.Attribute e n pos) (qFldE i x a d C n) := PE.imp (pe_xf (pos := pos) T hno hz.zc hf he hb) fun σ H Q ⟨F, T, ω, ρ, Qp, Ep, R, ⟨hi, hc, y, hy, q⟩, hx, kk⟩ => by
  obtain ⟨hs, xd⟩ := R.sl.get_ex hi
  unfold XDict at xd
  rw [hy] at xd
  obtain ⟨dd, v, hd, hh, rv⟩ := xd
  refine ⟨.ref a, hs, rfl, by rw [hc], dd, _, v, hd, hh, by simp [List.lookup], kk T ω y v H R .refl (rv.less fun _ _ => trivial) q⟩
end
theorem v_isE {K : PySem.W.Frag} {W : Wrl} {i : Nat} {x : Exn} {a C : Addr} {d : Option Addr} {k : Bool} {ω : W.Ω} {ρ : List Sl} {Q : W.Ω → D → Prop} {E : W.Ω → Exn → Prop} (hi : ρ[i]? = some (.ex a d x)) (hC : ExcC K x.C) (hk : PySem.W.kitOne K (.ref x.C) (.ref C) = some k) (h : Q ω (.bl k)) : qIsE K i x a d C ω ρ Q E := ⟨hi, hC, k, hk, h⟩
theorem v_fldE {W : Wrl} {i : Nat} {x : Exn} {a C : Addr} {d : Option Addr} {n : Str} {y : D} {ω : W.Ω} {ρ : List Sl} {Q : W.Ω → D → Prop} {E : W.Ω → Exn → Prop} (hi : ρ[i]? = some (.ex a d x)) (hc : x.C = C) (hy : x.f = some (n, y)) (h : Q ω y) : qFldE i x a d C n ω ρ Q E := ⟨hi, hc, y, hy, h⟩
theorem v_hd {K : PySem.W.Frag} {W : Wrl} {C : Addr} {i : Nat} {u : Exn → Addr → Option Addr → QTS W} {r : Cls3 W} {P : PEn W} {ω : W.Ω} {x : Exn} {ρ : List Sl} (hm : PySem.W.exmOne K (.ref x.C) (.ref C) = some true) (h : ∀ a dd, u x a dd (endsNP i P) ω (ρ.set i (.ex a dd x))) : hsel K ((C, some i, u) :: r) P ω x ρ := ⟨true, hm, h⟩
theorem v_hdF {K : PySem.W.Frag} {W : Wrl} {C : Addr} {o : Option Nat} {u : Exn → Addr → Option Addr → QTS W} {r : Cls3 W} {P : PEn W} {ω : W.Ω} {x : Exn} {ρ : List Sl} (hm : PySem.W.exmOne K (.ref x.C) (.ref C) = some false) (h : hsel K r P ω x ρ) : hsel K ((C, o, u) :: r) P ω x ρ := ⟨false, hm, h⟩
theorem okTH {P : Program} {w : World} {K : PySem.W.Frag} {mg : Str → Option Value} {base : Heap} {x qual : Str} {params : Arguments} {body : List Stmt} {scope : Scope} {dvs : List V} {kws : List (Str × V)} {f : Addr} {fd : FuncData} {N ps : List Str} {k : Nat} {sp : Sp}
    (F : FunD K x qual params body scope dvs kws f fd) (S : FnScope N ps scope) (len : ∀ vs H Q E, sp vs H Q E → vs.length = ps.length)
    (hbody : ∀ (cdv : Value) (A : Around) (outer : List Env) (s : Shared) (H : Hp) (vs : List V) (Q : VK) (E : XK) (p : Addr × Obj), L2H.Hot1 A p → L2H.RoomH k (A.deeper (envOfC qual scope s.heap.objs.size f cdv)) → sp vs H Q E →
      L2N.Takes (L2H.cxH (L2N.CX P w) P w K mg base N qual scope f cdv A outer s H E p) (fun cls d _ H' => E cls d H') →
      PassesOwn (model P w) (L2H.cxH (L2N.CX P w) P w K mg base N qual scope f cdv A outer s H E p).A (L2H.cxH (L2N.CX P w) P w K mg base N qual scope f cdv A outer s H E p).env (L2H.cxH (L2N.CX P w) P w K mg base N qual scope f cdv A outer s H E p).xe →
      ∃ t, PSs (L2H.cxH (L2N.CX P w) P w K mg base N qual scope f cdv A outer s H E p) body t ∧ t { nx := fun _ H' => Q .non H', rt := Q } (start N vs) H) : L2H.FnH P w K mg base (L2N.CX P w) (k + 1) f fd ps sp := by
  obtain ⟨oc, od, dV, kV, doc, pm, an, cdv, ct, osl, rfl, lk, hcd, _, _⟩ := F.ex
  exact L2H.fn_ofH lk hcd S len fun A outer s H vs Q E p hot hr hsp => hbody cdv A outer s H vs Q E p hot hr hsp (L2N.takes_of rfl rfl rfl rfl) (passes_of rfl)
theorem FnH_imp {P : Program} {w : World} {K : PySem.W.Frag} {mg : Str → Option Value} {base : Heap} {CX : CXT} {k : Nat} {f : Addr} {fd : FuncData} {ps : List Str} {sp sp' : Sp} (F : L2H.FnH P w K mg base CX k f fd ps sp) (h : ∀ vs H Q E, sp' vs H Q E → sp vs H Q E) : L2H.FnH P w K mg base CX k f fd ps sp' :=
  ⟨fun vs H Q E q => F.len vs H Q E (h vs H Q E q), fun A outer s H args us vs Q E p hr hot hpin e0 hb r q => F.run A outer s H args us vs Q E p hr hot hpin e0 hb r (h vs H Q E q)⟩
theorem xfB2_ok {K : PySem.W.Frag} {C : Addr} {n : Str} (h : xfB2 K C n = true) : XfC K C ∧ PySem.W.findIn K (.ref C) n = some none := by
  obtain ⟨h1, h2⟩ := Bool.and_eq_true_iff.mp h
  exact ⟨xfB_ok h1, of_decide_eq_true h2⟩
theorem FnH.inW {P : Program} {w : World} {K : PySem.W.Frag} {mg : Str → Option Value} {base : Heap} {CX : CXT} {k : Nat} {f : Addr} {fd : FuncData} {ps : List Str} {mr : Md} {pf : PSp W0} (F : L2H.FnH P w K mg base CX k f fd ps (spM mr K W0 pf)) (W : Wrl) : L2H.FnH P w K mg base CX k f fd ps (spM mr K W (inW W pf)) := FnH_imp F fun _ _ _ _ h => spM_inW h
end LW
namespace LW
open PySem PySem.Spec PyProof.Rows L2
abbrev SpX := Obj → Addr → Hp → VK → XK → Prop
section
variable {X : Cx} {k : Nat} {f a : Addr} {oe : Obj} {fd : FuncData} {n fx : Str} {sp : SpX} {E : L2.St → XK} {q pos : Pos} {e : Expr} {ta : TE}
end
def spE (mr : Md) (K : PySem.W.Frag) (pf : Exn → (D → Prop) → Prop) : SpX := fun oe a H Q E => ∃ (x : Exn) (d : Option Addr), L2N.Zn (.ref x.C) d oe ∧ (∃ vs, oe.data = .fields vs) ∧ XDict K H x d ∧ spM mr K W0 (fun _ ds Qp _ => ds = [] ∧ pf x (Qp ())) [] H Q E
section
variable {X : Cx} {K : PySem.W.Frag} {W : Wrl} {Wo : WX} {a f : Addr} {oe : Obj} {d : Option Addr} {pn : List (Addr × Obj)} {x : Exn} {i k : Nat} {e b : Expr} {p pos : Pos} {mr : Md} {fd : FuncData} {n fx : Str} {pf : Exn → (D → Prop) → Prop}
end
section
variable {X : Cx} {W : Wrl} {Wo : WX} {a : Addr} {oe : Obj} {d : Option Addr} {x : Exn} {i : Nat} {e b : Expr} {p pos : Pos} {cv : V} {cu : Value}
end
end LW
namespace LW
open PySem PySem.Spec PyProof.Rows L2
def dStrs (ys : List Str) : List D := ys.map D.str
section
variable {X : Cx} {W : Wrl} {Wo : WX} {m m1 m2 : Md} {e o : Expr} {pos apos p : Pos} {qo qe : QT W}
def qSm (f : D → D → (D → Prop) → Prop) (qo qe : QT W) : QT W := fun ω ρ Q E => qo ω ρ (fun ω1 x => ∃ a, x = .str a ∧ qe ω1 ρ (fun ω2 y => f (.str a) y (Q ω2)) E) E
def fEnds : D → D → (D → Prop) → Prop
  | .str a, .str b, Q => Q (.bl (Txt.endswith a b))
  | _, _, _ => False
end
section
variable {W : Wrl} {f : D → D → (D → Prop) → Prop} {qo qe : QT W} {ω : W.Ω} {ρ : List Sl} {Q : W.Ω → D → Prop} {E : W.Ω → Exn → Prop} {Q1 : D → Prop} {a b : Str} {i : Int}
theorem v_sm (h : qo ω ρ (fun ω1 x => ∃ a, x = .str a ∧ qe ω1 ρ (fun ω2 y => f (.str a) y (Q ω2)) E) E) : qSm f qo qe ω ρ Q E := h
theorem v_exs {R : Str → Prop} (h : R a) : ∃ b, D.str a = .str b ∧ R b := ⟨a, rfl, h⟩
theorem v_ends (h : Q1 (.bl (Txt.endswith a b))) : fEnds (.str a) (.str b) Q1 := h
theorem any_strs {x : Str} : ∀ {ys : List Str}, ((dStrs ys).any fun y => y.same (.str x)) = decide (x ∈ ys)
  | [] => rfl
  | y :: ys => by
    show (decide (y = x) || (dStrs ys).any fun y => y.same (.str x)) = _
    rw [any_strs (ys := ys)]
    by_cases h : y = x
    · have h1 : x ∈ y :: ys := by rw [h]; exact List.mem_cons_self
      rw [decide_eq_true h, decide_eq_true h1] <;> rfl
    · rw [decide_eq_false h, Bool.false_or]
      by_cases h2 : x ∈ ys
      · have h1 : x ∈ y :: ys := List.mem_cons_of_mem _ h2
        rw [decide_eq_true h2, decide_eq_true h1]
      · have h1 : ¬ x ∈ y :: ys := fun z => (List.mem_cons.mp z).elim (fun q => h q.symm) h2
        rw [decide_eq_false h2, decide_eq_false h1]
theorem flat_strs : ∀ ys : List Str, (dStrs ys).all D.flat = true
  | [] => rfl
  | _ :: ys => flat_strs ys
theorem length_dStrs (ys : List Str) : (dStrs ys).length = ys.length := by unfold dStrs; rw [List.length_map]
end
end LW
namespace LW
open PySem PySem.Spec PyProof.Rows L2
def yes : ASet := fun _ => True
def invM (K : PySem.W.Frag) (x C dx : Addr) (ω : List (Str × D)) (T : ASet) (H : Hp) : Prop := (∀ y, T y ↔ (y = x ∧ imm (ω.map (·.1)) = false)) ∧ ∃ fs : List (Str × V), H x = some (.ins C dx fs) ∧ fs.map (·.1) = ω.map (·.1) ∧ RepsA K H yes (ω.map (·.2)) (fs.map (·.2))
@[reducible] def WM (K : PySem.W.Frag) (x C dx : Addr) : Wrl where
  Ω := List (Str × D)
  inv := invM K x C dx
  st := by
    intro ω T U H H' ⟨h1, fs, h2, h3, h4⟩ g hU
    refine ⟨h1, fs, g.keep _ _ h2 ?_, h3, h4.ext g (fun _ _ => .inl trivial) fun _ _ => .inl trivial⟩
    cases e : imm (ω.map (·.1)) with
    | true =>
      refine .inl ?_
      show imm (fs.map (·.1)) = true
      rw [h3]; exact e
    | false => exact .inr fun u => hU x u ((h1 x).mpr ⟨rfl, e⟩)
  lv := by
    intro ω T H a ⟨h1, fs, h2, h3, h4⟩ t
    obtain ⟨rfl, e⟩ := (h1 a).mp t
    exact ⟨_, h2, by show imm (fs.map (·.1)) = false; rw [h3]; exact e⟩
section
variable {X : Cx} {x C dx : Addr} {Wo : WX} {mr : Md} {o e : Expr} {f : Str} {i : Nat} {pos p' : Pos} {K : PySem.W.Frag}
def sFset (x : Addr) (i : Nat) (f : Str) (qa : QT (WM K x C dx)) : QTS (WM K x C dx) := fun P ω ρ => qa ω ρ (fun ω1 d => ρ[i]? = some (.va (.adr x)) ∧ d.pure = true ∧ f ∉ ω1.map (·.1) ∧ imm (ω1.map (·.1)) = false ∧ ω1.length < 1000 ∧ P.nx (ω1 ++ [(f, d)]) ρ) fun ω1 y => P.ex ω1 y ρ
end
section
variable {K : PySem.W.Frag} {x C dx : Addr} {f : Str} {i : Nat} {qa : QT (WM K x C dx)} {P : PEn (WM K x C dx)} {ω : List (Str × D)} {ρ : List Sl} {d : D}
def kFset (x : Addr) (i : Nat) (f : Str) (P : PEn (WM K x C dx)) (ρ : List Sl) (ω1 : List (Str × D)) (d : D) : Prop := ρ[i]? = some (.va (.adr x)) ∧ d.pure = true ∧ f ∉ ω1.map (·.1) ∧ imm (ω1.map (·.1)) = false ∧ ω1.length < 1000 ∧ P.nx (ω1 ++ [(f, d)]) ρ
theorem v_fset (h : qa ω ρ (fun ω1 d => kFset x i f P ρ ω1 d) fun ω1 y => P.ex ω1 y ρ) : sFset x i f qa P ω ρ := h
end
end LW
namespace LW
open PySem PySem.Spec PyProof.Rows L2
def pureL {W : Wrl} (pf : PSp W) : PSp W := fun ω ds Q E => pf ω ds (fun ω' d => (∃ es, d = .lst es ∧ D.pures es = true) ∧ Q ω' d) E
section
variable {K : PySem.W.Frag} {W : Wrl} {Wo : WX} {mr m : Md} {pf : PSp W} {qs : QTA W}
end
section
variable {X : Cx} {W : Wrl} {Wo : WX} {mr m m1 m2 : Md} {pf : PSp W} {qs : QTA W} {k : Nat} {f C : Addr} {fd : FuncData} {ps : List Str} {x mn : Str} {p pos apos : Pos} {e : Expr} {es : List Expr}
theorem v_pureL {ω : W.Ω} {ds : List D} {Q : W.Ω → D → Prop} {E : W.Ω → Exn → Prop} (h : pf ω ds (fun ω' d => (∃ es, d = .lst es ∧ D.pures es = true) ∧ Q ω' d) E) : pureL pf ω ds Q E := h
end
end LW
namespace LW
open PySem PySem.Spec PyProof.Rows L2
def dBls (bs : List Bool) : List D := bs.map D.bl
def fInB (d e : D) (Q : D → Prop) : Prop := ∃ (bs : List Bool) (b : Bool), d = .bl b ∧ e = .lst (dBls bs) ∧ Q (.bl (decide (b ∈ bs)))
theorem v_inB {bs : List Bool} {b : Bool} {Q1 : D → Prop} (h : Q1 (.bl (decide (b ∈ bs)))) : fInB (.bl b) (.lst (dBls bs)) Q1 := ⟨bs, b, rfl, rfl, h⟩
def fEqLB (d e : D) (Q : D → Prop) : Prop := ∃ a b : List Bool, d = .lst (dBls a) ∧ e = .lst (dBls b) ∧ Q (.bl (decide (a = b)))
theorem v_eqLB {a b : List Bool} {Q1 : D → Prop} (h : Q1 (.bl (decide (a = b)))) : fEqLB (.lst (dBls a)) (.lst (dBls b)) Q1 := ⟨a, b, rfl, rfl, h⟩
end LW
namespace LW
open PySem PySem.Spec PyProof.Rows L2
inductive MO
  | ml (ds : List D)
  | mk (kvs : List (Key × D))
  | mn (kvs : List (NestedKey × D))
  | mi (C : Addr) (fs : List (Str × D))
abbrev Sto := Addr → Option MO
def noSto : Sto := fun _ => none
def Sto.put (st : Sto) (a : Addr) (m : MO) : Sto := fun b => if b = a then some m else st b
section
variable {st : Sto} {a b : Addr} {m m' : MO} {o : Option MO}
theorem Sto.same : (st.put a m) a = some m := by unfold Sto.put; rw [if_pos rfl]
theorem Sto.ne (h : b ≠ a) (h2 : st b = o) : (st.put a m) b = o := by unfold Sto.put; rw [if_neg h]; exact h2
theorem Sto.putput : (st.put a m).put a m' = st.put a m' := by
  funext b
  unfold Sto.put
  split <;> rfl
theorem Sto.apart (h : st b = some m) (h2 : st a = none) : b ≠ a := fun e => by rw [e, h2] at h; cases h
end
def kD : NestedKey → D
  | .none => .non
  | .num i => .int i
  | .text x => .str x
  | .tup ks => .tup (kDs ks)
where kDs : List NestedKey → List D
  | [] => []
  | k :: ks => kD k :: kDs ks
def DN (P : Program) (w : World) (d : Addr) (es : List (NestedKey × Addr × V)) : Heap → Prop := fun h => es.length ≤ sizeLine ∧ (d == sysModules) = false ∧
  ∃ xs : List (NestedKey × Addr × Value), Paired (fun (p : NestedKey × Addr × V) (q : NestedKey × Addr × Value) => p.1 = q.1 ∧ p.2.1 = q.2.1 ∧ RelV p.2.2 q.2.2) es xs ∧
    ∃ o ents ep, h.get? d = some o ∧ o.ExactDict ∧ o.data = .dict ents ep ∧ ents.toList = xs.map (entryOfKey (nestedKind P w)) ∧ (xs.map (·.1)).Nodup
inductive AsR {κ : Type} (K : PySem.W.Frag) (H : Hp) : List (κ × D) → List (κ × V) → Prop
  | nil : AsR K H [] []
  | cons {n : κ} {d : D} {v : V} {fs : List (κ × D)} {gs : List (κ × V)} : RepA K H yes d v → AsR K H fs gs → AsR K H ((n, d) :: fs) ((n, v) :: gs)
def MOk (P : Program) (w : World) (K : PySem.W.Frag) (H : Hp) (a : Addr) : MO → Prop
  | .ml ds => ∃ xs, H a = some (.lst xs) ∧ RepsA K H yes ds xs
  | .mk kvs => ∃ vs : List (Key × V), H a = some (.dK vs) ∧ AsR K H kvs vs
  | .mn kvs => ∃ es : List (NestedKey × Addr × V), H a = some (.ext (DN P w a es)) ∧ AsR K H kvs (es.map fun e => (e.1, e.2.2)) ∧ ∀ e ∈ es, RepA K H yes (kD e.1) (.ref e.2.1) ∧ e.1.depth ≤ 8
  | .mi C fs => ∃ dx gs, H a = some (.ins C dx gs) ∧ imm (fs.map (·.1)) = false ∧ AsR K H fs gs
section
variable {P : Program} {w : World} {K : PySem.W.Frag} {H H' : Hp} {a : Addr} {m : MO} {U : ASet}
theorem RepA.extY {d : D} {v : V} (h : RepA K H yes d v) (g : GrP U H H') : RepA K H' yes d v := h.ext g (fun _ _ => .inl trivial) fun _ _ => .inl trivial
theorem RepsA.extY {ds : List D} {vs : List V} (h : RepsA K H yes ds vs) (g : GrP U H H') : RepsA K H' yes ds vs := h.ext g (fun _ _ => .inl trivial) fun _ _ => .inl trivial
theorem AsR.extY {κ : Type} {fs : List (κ × D)} {gs : List (κ × V)} (h : AsR K H fs gs) (g : GrP U H H') : AsR K H' fs gs := by
  induction h with
  | nil => exact .nil
  | cons r _ ih => exact .cons (r.extY g) ih
theorem AsR.keys {κ : Type} {fs : List (κ × D)} {gs : List (κ × V)} (h : AsR K H fs gs) : gs.map (·.1) = fs.map (·.1) := by
  induction h with
  | nil => rfl
  | cons r _ ih => rw [List.map_cons, List.map_cons, ih]
theorem AsR.len {κ : Type} {fs : List (κ × D)} {gs : List (κ × V)} (h : AsR K H fs gs) : gs.length = fs.length := by
  have := congrArg List.length h.keys
  rwa [List.length_map, List.length_map] at this
theorem AsR.lookup {fs : List (Str × D)} {gs : List (Str × V)} {f : Str} {d : D} (h : AsR K H fs gs) (e : fs.lookup f = some d) : ∃ v, gs.lookup f = some v ∧ RepA K H yes d v := by
  induction h with
  | nil => cases e
  | cons r _ ih =>
    rw [List.lookup_cons] at e ⊢
    split at e
    · cases e
      exact ⟨_, rfl, r⟩
    · exact ih e
theorem AsR.none {fs : List (Str × D)} {gs : List (Str × V)} {f : Str} (h : AsR K H fs gs) (e : fs.lookup f = none) : gs.lookup f = none := by
  induction h with
  | nil => rfl
  | cons r _ ih =>
    rw [List.lookup_cons] at e ⊢
    split at e
    · cases e
    · exact ih e
def putD (f : Str) (d : D) : List (Str × D) → List (Str × D)
  | [] => [(f, d)]
  | (g, x) :: r => if g = f then (g, d) :: r else (g, x) :: putD f d r
theorem AsR.put {fs : List (Str × D)} {gs : List (Str × V)} {f : Str} {d : D} {v : V} (h : AsR K H fs gs) (r : RepA K H yes d v) : AsR K H (putD f d fs) (putF f v gs) := by
  induction h with
  | nil => exact .cons r .nil
  | @cons n d' v' fs gs r' h ih =>
    show AsR K H (if n = f then (n, d) :: fs else (n, d') :: putD f d fs) (if n = f then (n, v) :: gs else (n, v') :: putF f v gs)
    by_cases z : n = f
    · rw [if_pos z, if_pos z]
      exact .cons r h
    · rw [if_neg z, if_neg z]
      exact .cons r' ih
theorem MOk.at (h : MOk P w K H a m) : ∃ o, H a = some o ∧ pers o = false := by
  cases m with
  | ml ds => obtain ⟨xs, h, _⟩ := h; exact ⟨_, h, rfl⟩
  | mk kvs => obtain ⟨vs, h, _⟩ := h; exact ⟨_, h, rfl⟩
  | mn kvs => obtain ⟨es, h, _⟩ := h; exact ⟨_, h, rfl⟩
  | mi C fs =>
    obtain ⟨dx, gs, h, h3, r⟩ := h
    refine ⟨_, h, ?_⟩
    show imm (gs.map (·.1)) = false
    rw [r.keys]
    exact h3
theorem MOk.ext (h : MOk P w K H a m) (g : GrP U H H') (hu : ¬ U a) : MOk P w K H' a m := by
  have k : ∀ o, H a = some o → H' a = some o := fun o e => g.keep a o e (.inr hu)
  cases m with
  | ml ds => obtain ⟨xs, h, r⟩ := h; exact ⟨xs, k _ h, r.extY g⟩
  | mk kvs => obtain ⟨vs, h, r⟩ := h; exact ⟨vs, k _ h, r.extY g⟩
  | mn kvs => obtain ⟨es, h, r, q⟩ := h; exact ⟨es, k _ h, r.extY g, fun x hx => ⟨(q x hx).1.extY g, (q x hx).2⟩⟩
  | mi C fs => obtain ⟨dx, gs, h, h3, r⟩ := h; exact ⟨dx, gs, k _ h, h3, r.extY g⟩
end
def invS (P : Program) (w : World) (K : PySem.W.Frag) (W : Wrl) (ω : W.Ω × Sto) (T : ASet) (H : Hp) : Prop := ∃ T1 : ASet, W.inv ω.1 T1 H ∧ (∀ a, T a ↔ (T1 a ∨ ∃ m, ω.2 a = some m)) ∧ (∀ a, T1 a → ω.2 a = none) ∧ ∀ a m, ω.2 a = some m → MOk P w K H a m
@[reducible] def WS (P : Program) (w : World) (K : PySem.W.Frag) (W : Wrl) : Wrl where
  Ω := W.Ω × Sto
  inv := invS P w K W
  st := by
    intro ω T U H H' ⟨T1, h1, h2, h3, h4⟩ g hU
    exact ⟨T1, W.st h1 g fun a u t => hU a u ((h2 a).mpr (.inl t)), h2, h3, fun a m e => (h4 a m e).ext g fun u => hU a u ((h2 a).mpr (.inr ⟨m, e⟩))⟩
  lv := by
    intro ω T H a ⟨T1, h1, h2, h3, h4⟩ t
    rcases (h2 a).mp t with t | ⟨m, e⟩
    · exact W.lv h1 t
    · exact (h4 a m e).at
section
variable {P : Program} {w : World} {K : PySem.W.Frag} {W : Wrl} {F : Frm} {T T0 : ASet} {ω ω0 : W.Ω × Sto} {ρ : List Sl} {σ : L2.St} {H H0 : Hp} {a l : Addr} {m m' : MO} {o : HO} {ds : List D}
theorem WS.ok (R : Rel K (WS P w K W) F T ω ρ σ H) (h : ω.2 a = some m) : MOk P w K H a m := R.inv.choose_spec.2.2.2 a m h
theorem WS.mem (R : Rel K (WS P w K W) F T ω ρ σ H) (h : ω.2 a = some m) : T a := (R.inv.choose_spec.2.1 a).mpr (.inr ⟨m, h⟩)
theorem WS.out (R : Rel K (WS P w K W) F T ω ρ σ H) (h : ¬ T a) : ω.2 a = none := by
  cases e : ω.2 a with
  | none => rfl
  | some m => exact absurd (WS.mem R e) h
theorem WS.write (R : Rel K (WS P w K W) F T ω ρ σ H) (h : ω.2 a = some m) (h' : MOk P w K (upd H a o) a m') : Rel K (WS P w K W) F T (ω.1, ω.2.put a m') ρ σ (upd H a o) ∧ Ext T H T (upd H a o) := by
  have ta := WS.mem R h
  obtain ⟨u, hu, pu⟩ := (WS.ok R h).at
  have g1 : GrP (fun b => b = a) H (upd H a o) := GrP.wr rfl fun v hv => by rw [hu] at hv; cases hv; exact pu
  have g : GrP T H (upd H a o) := g1.mono fun b z => by rw [z]; exact ta
  have e : Ext T H T (upd H a o) := ⟨g, fun b z => .inl z⟩
  obtain ⟨T1, h1, h2, h3, h4⟩ := R.inv
  refine ⟨R.world e ⟨T1, W.st h1 g1 fun b z t => ?_, fun b => ?_, fun b t => ?_, fun b n hb => ?_⟩, e⟩
  · rw [z] at t
    rw [h3 a t] at h; cases h
  · rw [h2 b]
    constructor
    · rintro (z | ⟨n, z⟩)
      · exact .inl z
      · by_cases q : b = a
        · exact .inr ⟨m', by rw [q]; exact Sto.same⟩
        · exact .inr ⟨n, Sto.ne q z⟩
    · rintro (z | ⟨n, z⟩)
      · exact .inl z
      · by_cases q : b = a
        · exact .inr ⟨m, by rw [q]; exact h⟩
        · exact .inr ⟨n, by rw [← z]; exact (Sto.ne q rfl).symm⟩
  · have q : b ≠ a := fun z => by rw [z] at t; rw [h3 a t] at h; cases h
    exact Sto.ne q (h3 b t)
  · by_cases q : b = a
    · subst q
      have := (Sto.same (st := ω.2) (a := b) (m := m')).symm.trans hb
      cases this
      exact h'
    · exact (h4 b n (by rw [← hb]; exact (Sto.ne q rfl).symm)).ext g1 q
theorem WS.inv_new (i : (WS P w K W).inv ω T H) (hl : ¬ T l) (h : MOk P w K H l m) : (WS P w K W).inv (ω.1, ω.2.put l m) (fun a => T a ∨ a = l) H := by
  obtain ⟨T1, h1, h2, h3, h4⟩ := i
  have nl : ¬ T1 l := fun t => hl ((h2 l).mpr (.inl t))
  refine ⟨T1, h1, fun b => ?_, fun b t => ?_, fun b n hb => ?_⟩
  · show (T b ∨ b = l) ↔ _
    rw [h2 b]
    constructor
    · rintro ((z | ⟨n, z⟩) | z)
      · exact .inl z
      · have q : b ≠ l := fun y => hl ((h2 l).mpr (.inr ⟨n, by rw [← y]; exact z⟩))
        exact .inr ⟨n, Sto.ne q z⟩
      · exact .inr ⟨m, by rw [z]; exact Sto.same⟩
    · rintro (z | ⟨n, z⟩)
      · exact .inl (.inl z)
      · by_cases q : b = l
        · exact .inr q
        · exact .inl (.inr ⟨n, by rw [← z]; exact (Sto.ne q rfl).symm⟩)
  · exact Sto.ne (fun z => nl (z ▸ t)) (h3 b t)
  · by_cases q : b = l
    · subst q
      have := (Sto.same (st := ω.2) (a := b) (m := m)).symm.trans hb
      cases this
      exact h
    · exact h4 b n (by rw [← hb]; exact (Sto.ne q rfl).symm)
theorem Rel.come {W : Wrl} {ω0 ω ω' : W.Ω} (R0 : Rel K W F T0 ω0 ρ σ H0) (R : Rel K W F T ω ρ σ H) (e : Ext T0 H0 T H) (h0 : H0 l = none) (hs : ¬ Spr F T ρ l) (i : W.inv ω' (fun a => T a ∨ a = l) H) : Rel K W F (fun a => T a ∨ a = l) ω' ρ σ H ∧ Ext T0 H0 (fun a => T a ∨ a = l) H := by
  have ee : ∀ a, Spr F (fun a => T a ∨ a = l) ρ a → Spr F T0 ρ a ∨ H0 a = none := fun a z => by
    rcases z with z | (z | z) | z
    · exact .inl (.inl z)
    · exact (e.tn a z).imp (fun z => .inr (.inl z)) id
    · rw [z]; exact .inr h0
    · exact .inl (.inr (.inr z))
  refine ⟨⟨R.gr, i, fun a z => ?_, fun k hk => ⟨(R.own k hk).1, fun z => ?_, (R.own k hk).2.2⟩, R.nd, fun a z => ⟨(R.s0 a z).1, fun t => ?_⟩, fun p hp => ?_, ?_⟩, ⟨e.gr, fun a z => ?_⟩⟩
  · rcases z with z | z
    · exact R.tn a z
    · rw [z]; exact .inr (R0.gr.live l h0)
  · rcases z with z | z
    · exact (R.own k hk).2.1 z
    · exact hs (.inr (.inr (z ▸ hk)))
  · rcases t with t | t
    · exact (R.s0 a z).2 t
    · exact hs (.inl (t ▸ z))
  · exact (R0.hd p hp).ext e.gr (fun a t => .inl (.inr (.inl t))) ee
  · exact R0.sl.ext e.gr (fun a t => .inl (.inr (.inl t))) ee fun l h => (R0.own l h).2.1
  · rcases z with z | z
    · exact e.tn a z
    · rw [z]; exact .inr h0
theorem WS.add (R : Rel K (WS P w K W) F T ω ρ σ H) (h0 : H l = none) (ho : MOk P w K (upd H l o) l m) : Rel K (WS P w K W) F (fun a => T a ∨ a = l) (ω.1, ω.2.put l m) ρ σ (upd H l o) ∧ Ext T H (fun a => T a ∨ a = l) (upd H l o) := by
  have g : GrP nop H (upd H l o) := GrP.new h0
  have R1 := R.grow g
  have hs := R.fresh h0
  exact Rel.come R R1 (Ext.of0 g) h0 hs (WS.inv_new R1.inv (fun t => hs (.inr (.inl t))) ho)
theorem set_self' {σ : L2.St} {i : Nat} {x : Option V} (h : σ[i]? = some x) : σ.set i x = σ := by
  refine List.ext_getElem? fun j => ?_
  rw [List.getElem?_set]
  split
  · rename_i z
    subst z
    split
    · rw [h]
    · rename_i z
      rw [List.getElem?_eq_none (by omega)] at h
      cases h
  · rfl
theorem WS.give {i : Nat} (R : Rel K (WS P w K W) F T ω ρ σ H) (e : ρ[i]? = some (.ow l ds)) (hp : D.pures ds = true) : ω.2 l = none ∧ Rel K (WS P w K W) F (fun a => T a ∨ a = l) (ω.1, ω.2.put l (.ml ds)) (ρ.set i (.va (.adr l))) σ H := by
  obtain ⟨hv, xs, h1, r⟩ := R.sl.get_ow e
  have mem := owns_mem e
  have nt := (R.own l mem).2.1
  have sub := owns_set_sub (s := .va (.adr l)) rfl (ρ := ρ) i
  have nl : l ∉ owns (ρ.set i (.va (.adr l))) := by
    have key : ∀ {ρ : List Sl} {i : Nat} {s : Sl}, s.plain = true → ρ[i]? = some (Sl.ow l ds) → (owns ρ).Nodup → l ∉ owns (ρ.set i s) := by
      intro ρ
      induction ρ with
      | nil => intro i s hs e n; simp at e
      | cons x r ih =>
        intro i s hs e n
        cases i with
        | zero =>
          simp at e
          subst e
          have n2 := List.nodup_cons.mp n
          cases s with
          | ow a b => cases hs
          | no => exact n2.1
          | va d => exact n2.1
          | ex a dd x => exact n2.1
        | succ i =>
          have e' : r[i]? = some (Sl.ow l ds) := by simpa using e
          cases x with
          | no => exact ih (i := i) hs e' n
          | va d => exact ih (i := i) hs e' n
          | ex a dd x => exact ih (i := i) hs e' n
          | ow k es =>
            have n2 := List.nodup_cons.mp n
            intro h
            rcases List.mem_cons.mp h with z | z
            · exact n2.1 (z ▸ owns_mem e')
            · exact ih (i := i) hs e' n2.2 z
    exact key rfl e R.nd
  have hσ : σ.set i (some (.ref l)) = σ := set_self' hv
  have eS : ∀ a, Spr F (fun a => T a ∨ a = l) (ρ.set i (.va (.adr l))) a → Spr F T ρ a := fun a z => by
    rcases z with z | (z | z) | z
    · exact .inl z
    · exact .inr (.inl z)
    · rw [z]; exact .inr (.inr mem)
    · exact .inr (.inr (sub.subset z))
  have s1 : SlsR K H (Spr F (fun a => T a ∨ a = l) (ρ.set i (.va (.adr l)))) ρ σ := R.sl.less eS
  have s2 := s1.set_va (d := .adr l) (v := .ref l) (.adr l) i
  rw [hσ] at s2
  refine ⟨WS.out R nt, ⟨R.gr, WS.inv_new R.inv nt ⟨xs, h1, r.any hp⟩, fun a z => ?_, fun k hk => ⟨(R.own k (sub.subset hk)).1, fun z => ?_, (R.own k (sub.subset hk)).2.2⟩, R.nd.sublist sub, fun a z => ⟨(R.s0 a z).1, fun t => ?_⟩, fun p hp => (R.hd p hp).less eS, s2⟩⟩
  · rcases z with z | z
    · exact R.tn a z
    · rw [z]; exact .inr (R.own l mem).1
  · rcases z with z | z
    · exact (R.own k (sub.subset hk)).2.1 z
    · exact nl (z ▸ hk)
  · rcases t with t | t
    · exact (R.s0 a z).2 t
    · exact (R.own l mem).2.2 (t ▸ z)
end
def inL (P : Program) (w : World) (K : PySem.W.Frag) {W : Wrl} (pf : PSp W) : PSp (WS P w K W) := fun ω ds Q E => pf ω.1 ds (fun ω' d => Q (ω', ω.2) d) fun ω' x => E (ω', ω.2) x
def inR (P : Program) (w : World) (K : PySem.W.Frag) (W : Wrl) (pf : PSp (WS P w K W0)) : PSp (WS P w K W) := fun ω ds Q E => pf ((), ω.2) ds (fun ω' d => Q (ω.1, ω'.2) d) fun ω' x => E (ω.1, ω'.2) x
def locP (P : Program) (w : World) (K : PySem.W.Frag) {W : Wrl} (pf : PSp W) : PSp (WS P w K W) := fun ω ds Q E => ω.2 = noSto ∧ pf ω.1 ds (fun ω' d => ∀ st, Q (ω', st) d) fun ω' x => ∀ st, E (ω', st) x
section
variable {P : Program} {w : World} {K : PySem.W.Frag} {W : Wrl} {mr : Md}
theorem rt_less {F F' : Frm} {T T' : ASet} {H : Hp} {d : D} {v : V} (e : F'.H = F.H) (hS : ∀ a, (F'.S a ∨ T' a) → (F.S a ∨ T a)) (h : RT mr K F T H d v) : RT mr K F' T' H d v := by
  cases mr with
  | F =>
    obtain ⟨l, xs, es, h1, h2, h3, h4, h5, h6⟩ := h
    exact ⟨l, xs, es, h1, h2, by rw [e]; exact h3, fun z => h4 (hS l z), h5, h6.less fun a z => z.imp (hS a) id⟩
  | A => exact RepA.less (show RepA K H _ d v from h) hS
  | O => exact RepA.less (show RepA K H _ d v from h) hS
  | C => exact RepA.less (show RepA K H _ d v from h) hS
theorem pf_id {pf : PSp W} {ω : W.Ω} {ds : List D} {Qp : W.Ω → D → Prop} {Ep : W.Ω → Exn → Prop} (q : pf ω ds Qp Ep) : pf ω ds (fun ω' d => ∀ st : Sto, (fun ω' d => Qp ω'.1 d) ((ω', st) : W.Ω × Sto) d) fun ω' x => ∀ st : Sto, (fun ω' x => Ep ω'.1 x) ((ω', st) : W.Ω × Sto) x := by
  have e1 : (fun (ω' : W.Ω) (d : D) => ∀ st : Sto, (fun ω' d => Qp ω'.1 d) ((ω', st) : W.Ω × Sto) d) = Qp := by
    funext ω' d
    exact propext ⟨fun h => h noSto, fun h _ => h⟩
  have e2 : (fun (ω' : W.Ω) (x : Exn) => ∀ st : Sto, (fun ω' x => Ep ω'.1 x) ((ω', st) : W.Ω × Sto) x) = Ep := by
    funext ω' d
    exact propext ⟨fun h => h noSto, fun h _ => h⟩
  rw [e1, e2]
  exact q
theorem spM_loc {pf : PSp W} {vs : List V} {H : Hp} {Q : VK} {E : XK} (h : spM mr K W pf vs H Q E) : spM mr K (WS P w K W) (locP P w K pf) vs H Q E := by
  obtain ⟨S, T, ω, ds, Qp, Ep, hS, hi, r, q, k, kx⟩ := h
  have back : ∀ {T' ω' H'}, Ext T H T' H' → (WS P w K W).inv ω' T' H' → ∃ T1, Ext T H T1 H' ∧ W.inv ω'.1 T1 H' ∧ ∀ a, T1 a → T' a := fun {T' ω' H'} e ⟨T1, h1, h2, h3, h4⟩ => ⟨T1, ⟨e.gr, fun a t => e.tn a ((h2 a).mpr (.inl t))⟩, h1, fun a t => (h2 a).mpr (.inl t)⟩
  refine ⟨S, T, (ω, noSto), ds, fun ω' d => Qp ω'.1 d, fun ω' x => Ep ω'.1 x, hS, ⟨T, hi, fun a => ⟨.inl, fun z => z.elim id fun ⟨m, z⟩ => nomatch z⟩, fun _ _ => rfl, fun a m z => nomatch z⟩, r, ⟨rfl, pf_id q⟩, fun T' ω' d v H' e i' rt q' => ?_, fun T' ω' x cls dd H' e i' xr q' => ?_⟩
  · obtain ⟨T1, e1, i1, sub⟩ := back e i'
    exact k T1 ω'.1 d v H' e1 i1 (rt_less rfl (fun a z => z.imp id (sub a)) rt) q'
  · obtain ⟨T1, e1, i1, sub⟩ := back e i'
    exact kx T1 ω'.1 x cls dd H' e1 i1 xr q'
theorem spM_inL {pf : PSp W} {vs : List V} {H : Hp} {Q : VK} {E : XK} (h : spM mr K (WS P w K W) (inL P w K pf) vs H Q E) : spM mr K W pf vs H Q E := by
  obtain ⟨S, T, ω, ds, Qp, Ep, hS, hi, r, q, k, kx⟩ := h
  obtain ⟨T1, h1, h2, h3, h4⟩ := hi
  have t1 : ∀ a, T1 a → T a := fun a t => (h2 a).mpr (.inl t)
  have eS : ∀ a, ((S a ∨ (T a ∧ ¬ T1 a)) ∨ T1 a) → (S a ∨ T a) := fun a z => by
    rcases z with (z | z) | z
    · exact .inl z
    · exact .inr z.1
    · exact .inr (t1 a z)
  have go : ∀ {T' ω' H'}, Ext T1 H T' H' → W.inv ω' T' H' → Ext T H (fun a => T' a ∨ ∃ m, ω.2 a = some m) H' ∧ (WS P w K W).inv (ω', ω.2) (fun a => T' a ∨ ∃ m, ω.2 a = some m) H' := fun {T' ω' H'} e i' => by
    have off : ∀ a m, ω.2 a = some m → ¬ T1 a := fun a m z t => by rw [h3 a t] at z; cases z
    refine ⟨⟨e.gr.mono t1, fun a z => ?_⟩, T', i', fun a => Iff.rfl, fun a t => ?_, fun a m z => (h4 a m z).ext e.gr (off a m z)⟩
    · rcases z with z | ⟨m, z⟩
      · exact (e.tn a z).imp (t1 a) id
      · exact .inl ((h2 a).mpr (.inr ⟨m, z⟩))
    · cases z : ω.2 a with
      | none => rfl
      | some m =>
        rcases e.tn a t with y | y
        · exact absurd y (off a m z)
        · obtain ⟨o, ho, _⟩ := (h4 a m z).at
          rw [y] at ho; cases ho
  have back : ∀ {T' : ASet}, ∀ a, (S a ∨ (T' a ∨ ∃ m, ω.2 a = some m)) → ((S a ∨ (T a ∧ ¬ T1 a)) ∨ T' a) := fun {T'} a z => by
    rcases z with z | z | ⟨m, z⟩
    · exact .inl (.inl z)
    · exact .inr z
    · exact .inl (.inr ⟨(h2 a).mpr (.inr ⟨m, z⟩), fun t => by rw [h3 a t] at z; cases z⟩)
  refine ⟨fun a => S a ∨ (T a ∧ ¬ T1 a), T1, ω.1, ds, _, _, fun a z => ?_, h1, r.less eS, q, fun T' ω' d v H' e i' rt q' => ?_, fun T' ω' x cls dd H' e i' xr q' => ?_⟩
  · rcases z with z | z
    · exact ⟨(hS a z).1, fun t => (hS a z).2 (t1 a t)⟩
    · refine ⟨fun y => ?_, z.2⟩
      obtain ⟨o, ho, _⟩ := (WS P w K W).lv ⟨T1, h1, h2, h3, h4⟩ z.1
      rw [y] at ho; cases ho
  · obtain ⟨e1, i1⟩ := go e i'
    exact k _ (ω', ω.2) d v H' e1 i1 (rt_less (F := ⟨H, fun a => S a ∨ (T a ∧ ¬ T1 a), T1, []⟩) rfl back rt) q'
  · obtain ⟨e1, i1⟩ := go e i'
    exact kx _ (ω', ω.2) x cls dd H' e1 i1 xr q'
theorem spM_inR {pf : PSp (WS P w K W0)} {vs : List V} {H : Hp} {Q : VK} {E : XK} (h : spM mr K (WS P w K W) (inR P w K W pf) vs H Q E) : spM mr K (WS P w K W0) pf vs H Q E := by
  obtain ⟨S, T, ω, ds, Qp, Ep, hS, hi, r, q, k, kx⟩ := h
  obtain ⟨T1, h1, h2, h3, h4⟩ := hi
  have t1 : ∀ a, T1 a → T a := fun a t => (h2 a).mpr (.inl t)
  have nT : ∀ a, T1 a → ¬ ∃ m, ω.2 a = some m := fun a t ⟨m, z⟩ => by rw [h3 a t] at z; cases z
  have go : ∀ {T' ω' H'}, Ext (fun a => ∃ m, ω.2 a = some m) H T' H' → (WS P w K W0).inv ω' T' H' → Ext T H (fun a => T1 a ∨ T' a) H' ∧ (WS P w K W).inv (ω.1, ω'.2) (fun a => T1 a ∨ T' a) H' ∧ ∀ a, T' a ↔ ∃ m, ω'.2 a = some m := fun {T' ω' H'} e ⟨T2, k1, k2, k3, k4⟩ => by
    have e2 : ∀ a, T' a ↔ ∃ m, ω'.2 a = some m := fun a => (k2 a).trans ⟨fun z => z.elim (fun z => absurd z (k1 a)) id, .inr⟩
    refine ⟨⟨e.gr.mono fun a z => (h2 a).mpr (.inr z), fun a z => ?_⟩, ⟨T1, W.st h1 e.gr fun a z t => nT a t z, fun a => ?_, fun a t => ?_, k4⟩, e2⟩
    · rcases z with z | z
      · exact .inl (t1 a z)
      · exact (e.tn a z).imp (fun z => (h2 a).mpr (.inr z)) id
    · exact ⟨fun z => z.imp id (e2 a).mp, fun z => z.imp id (e2 a).mpr⟩
    · cases z : ω'.2 a with
      | none => rfl
      | some m =>
        rcases e.tn a ((e2 a).mpr ⟨m, z⟩) with y | y
        · exact absurd y (nT a t)
        · obtain ⟨o, ho, _⟩ := W.lv h1 t
          rw [y] at ho; cases ho
  refine ⟨fun a => S a ∨ T1 a, fun a => ∃ m, ω.2 a = some m, ((), ω.2), ds, _, _, fun a z => ?_, ⟨nop, fun a z => z, fun a => ⟨.inr, fun z => z.elim (fun z => z.elim) id⟩, fun a z => z.elim, h4⟩, r.less fun a z => ?_, q, fun T' ω' d v H' e i' rt q' => ?_, fun T' ω' x cls dd H' e i' xr q' => ?_⟩
  · rcases z with z | z
    · exact ⟨(hS a z).1, fun y => (hS a z).2 ((h2 a).mpr (.inr y))⟩
    · refine ⟨fun y => ?_, nT a z⟩
      obtain ⟨o, ho, _⟩ := W.lv h1 z
      rw [y] at ho; cases ho
  · rcases z with (z | z) | z
    · exact .inl z
    · exact .inr (t1 a z)
    · exact .inr ((h2 a).mpr (.inr z))
  · obtain ⟨e1, i1, e2⟩ := go e i'
    refine k _ (ω.1, ω'.2) d v H' e1 i1 (rt_less (F := ⟨H, fun a => S a ∨ T1 a, fun a => ∃ m, ω.2 a = some m, []⟩) rfl (fun a z => ?_) rt) q'
    rcases z with z | z | z
    · exact .inl (.inl z)
    · exact .inl (.inr z)
    · exact .inr z
  · obtain ⟨e1, i1, e2⟩ := go e i'
    exact kx _ (ω.1, ω'.2) x cls dd H' e1 i1 xr q'
variable {mg : Str → Option Value} {base : Heap} {CX : CXT} {k : Nat} {f : Addr} {fd : FuncData} {ps : List Str}
theorem FnOk.loc {pf : PSp W} (F : FnOk P w K mg base CX k f fd ps (spM mr K (WS P w K W) (locP P w K pf))) : FnOk P w K mg base CX k f fd ps (spM mr K W pf) := F.imp fun _ _ _ _ => spM_loc
theorem FnOk.inL {pf : PSp W} (F : FnOk P w K mg base CX k f fd ps (spM mr K W pf)) : FnOk P w K mg base CX k f fd ps (spM mr K (WS P w K W) (LW.inL P w K pf)) := F.imp fun _ _ _ _ => spM_inL
theorem FnOk.inR {pf : PSp (WS P w K W0)} (F : FnOk P w K mg base CX k f fd ps (spM mr K (WS P w K W0) pf)) (W : Wrl) : FnOk P w K mg base CX k f fd ps (spM mr K (WS P w K W) (LW.inR P w K W pf)) := F.imp fun _ _ _ _ => spM_inR
theorem FnR.inL {pf : PSp W} (F : FnR P w K mg base CX k f (spM mr K W pf)) : FnR P w K mg base CX k f (spM mr K (WS P w K W) (LW.inL P w K pf)) := F.imp fun _ _ _ _ => spM_inL
theorem FnR.inR {pf : PSp (WS P w K W0)} (F : FnR P w K mg base CX k f (spM mr K (WS P w K W0) pf)) (W : Wrl) : FnR P w K mg base CX k f (spM mr K (WS P w K W) (LW.inR P w K W pf)) := F.imp fun _ _ _ _ => spM_inR
end
end LW
namespace LW
open PySem PySem.Spec PyProof.Rows L2
section
variable {X : Cx} {P : Program} {w : World} {K : PySem.W.Frag} {W : Wrl} {Wo : WX} {m m1 m2 m3 : Md} {mr : Md} {a b c e o : Expr} {es : List Expr} {i : Nat} {pos pos' p apos p' : Pos} {q qa qb qc qo qk : QT (WS P w K W)} {qs : QTA (WS P w K W)} {fn : Str} {C f : Addr} {k : Nat} {x mn : Str}
def kDer (st : Sto) (d : D) (R : D → Prop) : Prop := ∃ d', (d' = d ∨ ∃ l ds, d = .adr l ∧ st l = some (.ml ds) ∧ d' = .lst ds) ∧ R d'
theorem v_der0 {st : Sto} {d : D} {R : D → Prop} (h : R d) : kDer st d R := ⟨d, .inl rfl, h⟩
theorem v_derL {st : Sto} {l : Addr} {ds : List D} {R : D → Prop} (h1 : st l = some (.ml ds)) (h : R (.lst ds)) : kDer st (.adr l) R := ⟨_, .inr ⟨l, ds, rfl, h1, rfl⟩, h⟩
def derA : D → List Addr
  | .adr l => [l]
  | _ => []
def Der (st : Sto) (d d' : D) : Prop := d' = d ∨ ∃ l ds, d = .adr l ∧ st l = some (.ml ds) ∧ d' = .lst ds
section
variable {H : Hp} {S : ASet} {os os' : List Addr} {d d' : D} {v : V} {st : Sto}
theorem RO.up (h : ∀ a, a ∈ os → a ∈ os') (r : RO K H S os d v) : RO K H S os' d v := by
  rcases r with r | ⟨l, xs, ds, e1, e2, hl, r⟩
  · exact .inl r
  · exact .inr ⟨l, xs, ds, e1, e2, h l hl, r⟩
theorem RC.up (h : ∀ a, a ∈ os → a ∈ os') (r : RC K H S os d v) : RC K H S os' d v := by
  rcases r with r | r
  · exact .inl (RO.up h r)
  · exact .inr r
theorem RC.der (hs : ∀ l n, st l = some n → MOk P w K H l n) (h : Der st d d') (ha : ∀ l, l ∈ derA d → l ∈ os') (ho : ∀ a, a ∈ os → a ∈ os') (r : RC K H S os d v) : RC K H S os' d' v := by
  rcases h with rfl | ⟨l, ds, rfl, hl, rfl⟩
  · exact RC.up ho r
  · have := RC.adr r
    subst this
    obtain ⟨xs, h1, r1⟩ := hs l _ hl
    exact .inl (.inr ⟨l, xs, ds, rfl, rfl, ha l List.mem_cons_self, h1, r1.less fun _ _ => trivial⟩)
theorem RO.der (hs : ∀ l n, st l = some n → MOk P w K H l n) (h : Der st d d') (ha : ∀ l, l ∈ derA d → l ∈ os') (ho : ∀ a, a ∈ os → a ∈ os') (r : RO K H S os d v) : RO K H S os' d' v := by
  rcases h with rfl | ⟨l, ds, rfl, hl, rfl⟩
  · exact RO.up ho r
  · have := RC.adr (.inl r)
    subst this
    obtain ⟨xs, h1, r1⟩ := hs l _ hl
    exact .inr ⟨l, xs, ds, rfl, rfl, ha l List.mem_cons_self, h1, r1.less fun _ _ => trivial⟩
theorem RR.anyO {H' : Hp} : ∀ {m : Md}, m.st = true → RR m K H H' S os d v → RR m K H H' S os' d v
  | .A, _, h => h
  | .F, _, h => h
inductive Ders (st : Sto) : List D → List D → Prop
  | nil : Ders st [] []
  | cons {d d' : D} {ds ds' : List D} : Der st d d' → Ders st ds ds' → Ders st (d :: ds) (d' :: ds')
def dersA : List D → List Addr
  | [] => []
  | d :: ds => derA d ++ dersA ds
def Md.co (m : Md) : Bool := match m with
  | .O => true
  | .C => true
  | _ => false
theorem RR.der {m : Md} (hm : m.co = true) (hs : ∀ l n, st l = some n → MOk P w K H l n) (h : Der st d d') (ha : ∀ l, l ∈ derA d → l ∈ os') (ho : ∀ a, a ∈ os → a ∈ os') (r : RR m K H H S os d v) : RR m K H H S os' d' v := by
  cases m with
  | A => cases hm
  | F => cases hm
  | O => exact RO.der hs h ha ho r
  | C => exact RC.der hs h ha ho r
theorem ROs.der {m : Md} (hm : m.co = true) (hs : ∀ l n, st l = some n → MOk P w K H l n) {ds ds' : List D} (h : Ders st ds ds') : ∀ {vs : List V}, (∀ l, l ∈ dersA ds → l ∈ os') → (∀ a, a ∈ os → a ∈ os') → ROs m K H S os ds vs → ROs m K H S os' ds' vs := by
  induction h with
  | nil => intro vs _ _ r; cases r; exact .nil
  | @cons d d' ds ds' hd _ ih =>
    intro vs ha ho r
    cases r with
    | cons r1 r2 => exact .cons (RR.der hm hs hd (fun l hl => ha l (List.mem_append_left _ hl)) ho r1) (ih (fun l hl => ha l (List.mem_append_right _ hl)) ho r2)
end
def kDers (st : Sto) (ds : List D) (R : List D → Prop) : Prop := ∃ ds', Ders st ds ds' ∧ R ds'
theorem v_ders0 {st : Sto} {R : List D → Prop} (h : R []) : kDers st [] R := ⟨[], .nil, h⟩
theorem v_ders {st : Sto} {d : D} {ds : List D} {R : List D → Prop} (h : kDer st d fun d' => kDers st ds fun ds' => R (d' :: ds')) : kDers st (d :: ds) R := by
  obtain ⟨d', h1, ds', h2, h3⟩ := h
  exact ⟨d' :: ds', .cons h1 h2, h3⟩
def qOpS (f : D → D → (D → Prop) → Prop) (qa qb : QT (WS P w K W)) : QT (WS P w K W) := fun ω ρ Q E => qa ω ρ (fun ω1 x => qb ω1 ρ (fun ω2 y => kDer ω2.2 x fun x' => kDer ω2.2 y fun y' => f x' y' (Q ω2)) E) E
theorem lf_opS (hK : X.K = K) {r : R2} {f : D → D → (D → Prop) → Prop} (hm : m.st = true) (hp : OpP m X.K r f) (σ : L2.St) (H : Hp) (Q : VK) (h : lfE m X.K (WS P w K W) Wo (qOpS f qa qb) σ H Q) : tOp r (lfE m1 X.K (WS P w K W) Wo qa) (lfE m2 X.K (WS P w K W) Wo qb) σ H Q := by
  subst hK
  obtain ⟨F, T, ω, ρ, Qp, Ep, R, q, hx, k⟩ := h
  refine ⟨F, T, ω, ρ, _, Ep, R, q, hx, fun T1 ω1 d v H1 R1 e1 r1 q1 => ?_⟩
  refine ⟨F, T1, ω1, ρ, _, Ep, R1, q1, hx, fun T2 ω2 e w' H2 R2 e2 r2 ⟨d', hd, e', he, q2⟩ => ?_⟩
  have hs : ∀ l n, ω2.2 l = some n → MOk P w X.K H2 l n := fun l n h => WS.ok R2 h
  refine hp _ (derA d ++ (derA e ++ owns ρ)) H2 d' e' v w' Q _ R2.spl (RC.der hs hd (fun l hl => List.mem_append_left _ hl) (fun l hl => List.mem_append_right _ (List.mem_append_right _ hl)) (R1.ext_RC e2 r1.c)) (RC.der hs he (fun l hl => List.mem_append_right _ (List.mem_append_left _ hl)) (fun l hl => List.mem_append_right _ (List.mem_append_right _ hl)) r2.c) q2 fun x u H' g rr qq => ?_
  exact k T2 ω2 x u H' (R2.grow g) ((e1.trans e2).trans (Ext.of0 g)) (RR.anyO hm (rr.back fun a z => e1.gr.live a (e2.gr.live a z))) qq
theorem qe_ixS (hK : X.K = K) {r : R2} {f : D → D → (D → Prop) → Prop} (hr : IxR X r) (hp : OpP m X.K r f) (ha : QE X m1 (WS P w K W) Wo a qa) (hb : QE X m2 (WS P w K W) Wo b qb) (hs : PlainIx b) (hm : m.st = true := by rfl) : QE X m (WS P w K W) Wo (.Subscript a b pos) (qOpS f qa qb) := by
  subst hK
  exact PE.imp (pe_ix hr ha hb hs) (lf_opS rfl hm hp)
def qCaS (f : List D → (D → Prop) → Prop) (qs : QTA (WS P w K W)) : QT (WS P w K W) := fun ω ρ Q E => qs ω ρ (fun ω1 xs => kDers ω1.2 xs fun ys => f ys (Q ω1)) E
theorem lf_caS (hK : X.K = K) {ma : Md} {r : List V → Hp → VK → Prop} {f : List D → (D → Prop) → Prop} (hm : m.st = true) (hma : ma.co = true) (hp : CaP ma m X.K r f) (σ : L2.St) (H : Hp) (Q : VK) (h : lfE m X.K (WS P w K W) Wo (qCaS f qs) σ H Q) : tCB r (lfA ma X.K (WS P w K W) Wo qs) σ H Q := by
  subst hK
  obtain ⟨F, T, ω, ρ, Qp, Ep, R, q, hx, k⟩ := h
  refine ⟨F, T, ω, ρ, _, Ep, R, q, hx, fun T1 ω1 ds vs H1 R1 e1 r1 ⟨ds', hd, q1⟩ => ?_⟩
  have hs : ∀ l n, ω1.2 l = some n → MOk P w X.K H1 l n := fun l n h => WS.ok R1 h
  refine hp _ (dersA ds ++ owns ρ) H1 ds' vs Q _ R1.spl (ROs.der hma hs hd (fun l hl => List.mem_append_left _ hl) (fun l hl => List.mem_append_right _ hl) r1) q1 fun x u H' g rr qq => ?_
  exact k T1 ω1 x u H' (R1.grow g) (e1.trans (Ext.of0 g)) (RR.anyO hm (rr.back fun a z => e1.gr.live a z)) qq
theorem qe_cBS (hK : X.K = K) {ma : Md} {r : List V → Hp → VK → Prop} {f : List D → (D → Prop) → Prop} {id : String} (hc : CallR X (.builtin id) r) (hp : CaP ma m X.K r f) (hg : Gl X x) (hM : X.mg x = none) (hv : bootBuiltins x = some (.builtin id)) (ha : QA X ma (WS P w K W) Wo (e :: es) qs)
    (hm : m.st = true := by rfl) (hma : ma.co = true := by rfl) (hn : x ≠ "__name__" := by decide) (hdb : (x == ("__debug__" : Str)) = false := by decide) (h1 : starEach (e :: es) X.env = (false, eval e X.env) :: starEach es X.env := by rfl) (h2 : (backTo pos (starEach es X.env)).any (·.1) = false := by rfl) :
    QE X m (WS P w K W) Wo (.Call (.Name x p) (e :: es) [] pos) (qCaS f qs) := by
  subst hK
  exact PE.imp (pe_callB hc hg hM hv ha hn hdb h1 h2) (lf_caS rfl hm hma hp)
theorem qe_cTS (hK : X.K = K) {ma : Md} {r : List V → Hp → VK → Prop} {f : List D → (D → Prop) → Prop} {Ty : String} (hc : CallR X (.type Ty) r) (hp : CaP ma m X.K r f) (hg : Gl X x) (hM : X.mg x = none) (hv : bootBuiltins x = some (.type Ty)) (ha : QA X ma (WS P w K W) Wo (e :: es) qs)
    (hm : m.st = true := by rfl) (hma : ma.co = true := by rfl) (hn : x ≠ "__name__" := by decide) (hdb : (x == ("__debug__" : Str)) = false := by decide) (h1 : starEach (e :: es) X.env = (false, eval e X.env) :: starEach es X.env := by rfl) (h2 : (backTo pos (starEach es X.env)).any (·.1) = false := by rfl) :
    QE X m (WS P w K W) Wo (.Call (.Name x p) (e :: es) [] pos) (qCaS f qs) := by
  subst hK
  exact PE.imp (pe_callTy hc hg hM hv ha hn hdb h1 h2) (lf_caS rfl hm hma hp)
def qNew (q : QT (WS P w K W)) : QT (WS P w K W) := fun ω ρ Q E => q ω ρ (fun ω1 d => ∃ ds, d = .lst ds ∧ D.pures ds = true ∧ ∀ l, ω1.2 l = none → Q (ω1.1, ω1.2.put l (.ml ds)) (.adr l)) E
theorem qe_new (hK : X.K = K) (h : QE X .F (WS P w K W) Wo e q) : QE X .A (WS P w K W) Wo e (qNew q) := by
  subst hK
  exact PE.imp h fun σ H Q ⟨F, T, ω, ρ, Qp, Ep, R, q, hx, k⟩ =>
  ⟨F, T, ω, ρ, _, Ep, R, q, hx, fun T1 ω1 d v H1 R1 e1 ⟨l, xs, ds, h1, h2, h3, h4, h5, h6⟩ ⟨ds', z, hp, q1⟩ => by
    subst h1 h2
    cases z
    have nt : ¬ T1 l := fun t => h4 (.inr (.inl t))
    obtain ⟨R2, e2⟩ := Rel.come R R1 e1 h3 h4 (WS.inv_new (m := .ml ds) R1.inv nt ⟨xs, h5, h6.any hp⟩)
    exact k _ _ (.adr l) (.ref l) H1 R2 e2 (RepA.adr l) (q1 l (WS.out R1 nt))⟩
def kFldS (C : Addr) (fn : Str) (st : Sto) (d : D) (R : D → Prop) : Prop := ∃ a fs x, d = .adr a ∧ st a = some (.mi C fs) ∧ fs.lookup fn = some x ∧ R x
def qFldS (C : Addr) (fn : Str) (qa : QT (WS P w K W)) : QT (WS P w K W) := fun ω ρ Q E => qa ω ρ (fun ω1 d => kFldS C fn ω1.2 d (Q ω1)) E
theorem qe_fldS (hK : X.K = K) (ha : QE X m (WS P w K W) Wo a qa) (c : Cls X.K C) (n : NoAttr X.K C fn) (hb : attributeBase a fn X.env (eval a X.env) = eval a X.env := by rfl) : QE X .A (WS P w K W) Wo (.Attribute a fn pos) (qFldS C fn qa) := by
  subst hK
  exact PE.imp (pe_fld ha hb) fun σ H Q ⟨F, T, ω, ρ, Qp, Ep, R, q, hx, k⟩ =>
  ⟨F, T, ω, ρ, _, Ep, R, q, hx, fun T1 ω1 d v H1 R1 e1 r1 ⟨a, fs, x, z, hs, hl, q1⟩ => by
    subst z
    have := RC.adr r1.c
    subst this
    obtain ⟨dx, gs, h1, h2, r⟩ := WS.ok R1 hs
    obtain ⟨u, hu, ru⟩ := r.lookup hl
    exact ⟨a, C, dx, gs, u, rfl, h1, c, n, hu, k T1 ω1 x u H1 R1 e1 (RepA.less ru fun _ _ => trivial) q1⟩⟩
def kFstS (C : Addr) (fn : Str) (P' : PEn (WS P w K W)) (ρ : List Sl) (d : D) (ω2 : W.Ω × Sto) (x : D) : Prop := ∃ a fs, x = .adr a ∧ ω2.2 a = some (.mi C fs) ∧ d.pure = true ∧ imm ((putD fn d fs).map (·.1)) = false ∧ fs.length < 1000 ∧ P'.nx (ω2.1, ω2.2.put a (.mi C (putD fn d fs))) ρ
def sFstS (C : Addr) (fn : Str) (qo qa : QT (WS P w K W)) : QTS (WS P w K W) := fun P' ω ρ => qa ω ρ (fun ω1 d => qo ω1 ρ (fun ω2 x => kFstS C fn P' ρ d ω2 x) fun ω' y => P'.ex ω' y ρ) fun ω' y => P'.ex ω' y ρ
theorem qs_fstS (hK : X.K = K) (c : Cls X.K C) (n : NoAttr X.K C fn) (he : QE X m (WS P w K W) Wo e qa) (ho : QE X m2 (WS P w K W) Wo o qo) (hm : m.st = true := by rfl) (hs : swapsWith e (some (.Attribute o fn p')) pos.line X.env = pure false := by rfl) :
    QS X mr (WS P w K W) Wo (.Assign [.Attribute o fn p'] e pos) (sFstS C fn qo qa) := by
  subst hK
  exact PS.imp (ps_fld ho he hs) fun D σ H ⟨F, T, ω, ρ, P', R, q, S⟩ =>
  ⟨F, T, ω, ρ, _, _, R, q, S.xok, fun T1 ω1 d v H1 R1 e1 r1 q1 => ⟨F, T1, ω1, ρ, _, _, R1, q1, S.xok, fun T2 ω2 x u H2 R2 e2 r2 ⟨a, fs, z, hs, hp, hi, hl, q2⟩ => by
    subst z
    have := RC.adr r2.c
    subst this
    obtain ⟨dx, gs, h1, h2, r⟩ := WS.ok R2 hs
    have rv : RepA X.K H2 yes d v := (R1.ext_rep e2 (r1.a hm)).any hp
    have g1 : GrP (fun b => b = a) H2 (upd H2 a (.ins C dx (putF fn v gs))) := GrP.wr rfl fun y hy => by
      rw [h1] at hy
      cases hy
      show imm (gs.map (·.1)) = false
      rw [r.keys]; exact h2
    obtain ⟨R3, e3⟩ := WS.write (m' := .mi C (putD fn d fs)) R2 hs ⟨dx, _, upd_same, hi, (r.put rv).extY g1⟩
    exact ⟨a, C, dx, gs, rfl, h1, c, n, by rw [r.len]; exact hl, S.nx _ _ ρ σ _ R3 q2⟩⟩⟩
def kAppS (P' : PEn (WS P w K W)) (ρ : List Sl) (l : Addr) (ω2 : W.Ω × Sto) (d : D) : Prop := ∃ ds, ω2.2 l = some (.ml ds) ∧ d.pure = true ∧ ds.length < 1000000 ∧ P'.nx (ω2.1, ω2.2.put l (.ml (ds ++ [d]))) ρ
def sAppS (qo qa : QT (WS P w K W)) : QTS (WS P w K W) := fun P' ω ρ => qo ω ρ (fun ω1 x => ∃ l ds, x = .adr l ∧ ω1.2 l = some (.ml ds) ∧ qa ω1 ρ (fun ω2 d => kAppS P' ρ l ω2 d) fun ω' y => P'.ex ω' y ρ) fun ω' y => P'.ex ω' y ρ
theorem RepsA.snoc {K : PySem.W.Frag} {H : Hp} {S : ASet} {ds : List D} {vs : List V} {d : D} {v : V} (h : RepsA K H S ds vs) (r : RepA K H S d v) : RepsA K H S (ds ++ [d]) (vs ++ [v]) := RepsA.append (.cons r .nil) h
theorem qs_appS (hK : X.K = K) (ho : QE X m2 (WS P w K W) Wo o qo) (ha : QE X m (WS P w K W) Wo e qa) (hm : m.st = true := by rfl)
    (hbase : attributeBase o "append" X.env (eval o X.env) = eval o X.env := by rfl)
    (hfew : ((backTo pos' (starEach [e] X.env)).all (fun x => !x.1) && (backToKw pos' (keywordEach [] X.env)).all (fun x => x.1.isSome)
      && decide ([e].length + ([] : List Keyword).length + (if ([] : List Keyword).isEmpty then 0 else 1) < 30)) = true := by rfl)
    (hline : (apos.endLine == pos'.line) = true := by rfl) (hst : starEach [e] X.env = (false, eval e X.env) :: starEach [] X.env := by rfl) (hplain : (backTo pos' (starEach [] X.env)).any (·.1) = false := by rfl)
    (hs : swapsWith (.Call (.Attribute o "append" apos) [e] [] pos') none pos.line X.env = pure false := by rfl) :
    QS X mr (WS P w K W) Wo (.Expr (.Call (.Attribute o "append" apos) [e] [] pos') pos) (sAppS qo qa) := by
  subst hK
  exact PS.imp (ps_expr (pe_bm PySem.F.plainAttrs_list PySem.F.slot_list_append PySem.F.type_list_append mt_append ho (pa_cons ha pa_nil hst) hbase hfew hline hst hplain) hs) fun D σ H ⟨F, T, ω, ρ, P', R, q, S⟩ =>
  ⟨F, T, ω, ρ, _, _, R, q, S.xok, fun T1 ω1 x u H1 R1 e1 r1 ⟨l, ds, z, hs, q1⟩ => by
    subst z
    have := RC.adr r1.c
    subst this
    obtain ⟨xs, h1, _⟩ := WS.ok R1 hs
    refine ⟨.inl ⟨rfl, xs, sql_of h1⟩, F, T1, ω1, ρ, _, _, R1, q1, S.xok, fun T2 ω2 d v H2 R2 e2 r2 ⟨ds2, hs2, hp, hl, q2⟩ => ?_⟩
    obtain ⟨xs2, h2, rr⟩ := WS.ok R2 hs2
    have g1 : GrP (fun b => b = l) H2 (upd H2 l (.lst (xs2 ++ [v]))) := GrP.wr rfl fun y hy => by rw [h2] at hy; cases hy; rfl
    obtain ⟨R3, e3⟩ := WS.write (m' := .ml (ds2 ++ [d])) R2 hs2 ⟨_, upd_same, (RepsA.snoc rr ((r2.a hm).any hp)).extY g1⟩
    exact ⟨l, xs2, v, rfl, rfl, h2, Nat.lt_of_lt_of_le (by rw [rr.len]; exact hl) (by decide), S.nx _ _ ρ σ _ R3 q2⟩⟩
def kPutS (P' : PEn (WS P w K W)) (ρ : List Sl) (d : D) (l : Addr) (ω3 : W.Ω × Sto) (y : D) : Prop := ∃ ds n j, ω3.2 l = some (.ml ds) ∧ y = .int n ∧ ixN ds.length n = some j ∧ d.pure = true ∧ P'.nx (ω3.1, ω3.2.put l (.ml (ds.set j d))) ρ
def sPutS (qo qk qa : QT (WS P w K W)) : QTS (WS P w K W) := fun P' ω ρ => qa ω ρ (fun ω1 d => qo ω1 ρ (fun ω2 x => ∃ l, x = .adr l ∧ qk ω2 ρ (fun ω3 y => kPutS P' ρ d l ω3 y) fun ω' y => P'.ex ω' y ρ) fun ω' y => P'.ex ω' y ρ) fun ω' y => P'.ex ω' y ρ
theorem qs_putS (hK : X.K = K) {ke : Expr} {spos : Pos} (he : QE X m (WS P w K W) Wo e qa) (ho : QE X m2 (WS P w K W) Wo o qo) (hk : QE X m3 (WS P w K W) Wo ke qk) (hm : m.st = true := by rfl)
    (ha : ∀ v, assign (.Subscript o ke spos) X.env v = (do
      let ov ← holding [v] (eval o X.env)
      let iv ← holding [v, ov] (eval ke X.env)
      standAt spos
      holding [v, ov, iv] (setItem ov iv v)
      release [v, ov, iv] []) := by intro _; rfl)
    (hs : swapsWithSole [.Subscript o ke spos] e pos.line X.env = pure false := by rfl) (hw : swappedStores [.Subscript o ke spos] e X.env = pure none := by rfl) (h1 : (assignEach [.Subscript o ke spos] X.env).map (·.2) = [assign (.Subscript o ke spos) X.env] := by rfl) :
    QS X mr (WS P w K W) Wo (.Assign [.Subscript o ke spos] e pos) (sPutS qo qk qa) := by
  subst hK
  exact PS.imp (ps_asg he (pg_sub ho hk set_list ha) hs hw h1) fun D σ H ⟨F, T, ω, ρ, P', R, q, S⟩ =>
  ⟨F, T, ω, ρ, _, _, R, q, S.xok, fun T1 ω1 d v H1 R1 e1 r1 q1 => ⟨F, T1, ω1, ρ, _, _, R1, q1, S.xok, fun T2 ω2 x u H2 R2 e2 r2 ⟨l, z, q2⟩ => by
    subst z
    have := RC.adr r2.c
    subst this
    refine ⟨F, T2, ω2, ρ, _, _, R2, q2, S.xok, fun T3 ω3 y u H3 R3 e3 r3 ⟨ds, n, j, hs, z, hj, hp, q3⟩ => ?_⟩
    subst z
    obtain ⟨xs, h3, rr⟩ := WS.ok R3 hs
    have g1 : GrP (fun b => b = l) H3 (upd H3 l (.lst (xs.set j v))) := GrP.wr rfl fun y hy => by rw [h3] at hy; cases hy; rfl
    have rv : RepA X.K H3 yes d v := (R1.ext_rep (e2.trans e3) (r1.a hm)).any hp
    obtain ⟨R4, e4⟩ := WS.write (m' := .ml (ds.set j d)) R3 hs ⟨_, upd_same, (rr.set rv j).extY g1⟩
    exact ⟨l, xs, n, j, rfl, r3.c.int, h3, by rw [rr.len]; exact hj, S.nx _ _ ρ σ _ R4 q3⟩⟩⟩
def sGive (i : Nat) (s : QTS (WS P w K W)) : QTS (WS P w K W) := fun P' ω ρ => ∃ l ds, ρ[i]? = some (.ow l ds) ∧ D.pures ds = true ∧ (ω.2 l = none → s P' (ω.1, ω.2.put l (.ml ds)) (ρ.set i (.va (.adr l))))
theorem qs_give (hK : X.K = K) {st : Stmt} {s : QTS (WS P w K W)} (i : Nat) (h : QS X mr (WS P w K W) Wo st s) : QS X mr (WS P w K W) Wo st (sGive i s) := by
  subst hK
  exact PS.imp h fun D σ H ⟨F, T, ω, ρ, P', R, ⟨l, ds, hi, hp, q⟩, S⟩ => by
    obtain ⟨h0, R1⟩ := WS.give R hi hp
    exact ⟨F, _, _, _, P', R1, q h0, S⟩
def qMethS (C : Addr) (mn : Str) (pf : PSp (WS P w K W)) (qo : QT (WS P w K W)) (qs : QTA (WS P w K W)) : QT (WS P w K W) := fun ω ρ Q E => qo ω ρ (fun ω1 d => ∃ a fs, d = .adr a ∧ ω1.2 a = some (.mi C fs) ∧ fs.lookup mn = none ∧ qs ω1 ρ (fun ω2 es => pf ω2 (d :: es) Q E) E) E
theorem qe_methS (hK : X.K = K) {pf : PSp (WS P w K W)} (he : QE X m (WS P w K W) Wo o qo) (c : Cls X.K C) (hm : Meth X.K C mn f) (F : FnR X.prog X.w X.K X.mg X.base (L2N.CX X.prog X.w) k f (spM mr X.K (WS P w K W) pf)) (hr : Room k X.A) (hx : ∀ σ, PassesAt (L2N.CX X.prog X.w) X σ (WE Wo σ)) (ha : QA X .A (WS P w K W) Wo (e :: es) qs)
    (hst : starEach (e :: es) X.env = (false, eval e X.env) :: starEach es X.env := by rfl) (hpl : (backTo pos (starEach es X.env)).any (·.1) = false := by rfl)
    {pl : Sem Bool} (ht : eval (.Call (.Attribute o mn apos) (e :: es) [] pos) X.env = (do
      let ov ← eval o X.env
      standAt apos.atName
      let (f, first) ← holding [ov] (getMethod ov mn pl)
      callWith pos f first (backTo pos (starEach (e :: es) X.env)) (backToKw pos (keywordEach [] X.env))) := by rfl) :
    QE X mr (WS P w K W) Wo (.Call (.Attribute o mn apos) (e :: es) [] pos) (qMethS C mn pf qo qs) := by
  subst hK
  exact PE.imp (pe_methS he c hm F hr hx ha hst hpl ht) fun σ H Q ⟨F, T, ω, ρ, Qp, Ep, R, q, hx, k⟩ =>
  ⟨F, T, ω, ρ, _, Ep, R, q, hx, fun T1 ω1 d v H1 R1 e1 r1 ⟨a, fs, z, hs, hn, q1⟩ => by
    subst z
    have := RC.adr r1.c
    subst this
    obtain ⟨dx, gs, h1, _, rr⟩ := WS.ok R1 hs
    exact ⟨a, dx, gs, rfl, h1, rr.none hn, F, T1, ω1, ρ, _, Ep, R1, q1, hx, fun T2 ω2 es vs H2 R2 e2 r2 q2 => sp_at R2 (e1.trans e2) hx (.cons (.adr a) r2.reps) q2 k⟩⟩
theorem qe_methS0 (hK : X.K = K) {pf : PSp (WS P w K W)} (he : QE X m (WS P w K W) Wo o qo) (c : Cls X.K C) (hm : Meth X.K C mn f) (F : FnR X.prog X.w X.K X.mg X.base (L2N.CX X.prog X.w) k f (spM mr X.K (WS P w K W) pf)) (hr : Room k X.A) (hx : ∀ σ, PassesAt (L2N.CX X.prog X.w) X σ (WE Wo σ))
    {pl : Sem Bool} (ht : eval (.Call (.Attribute o mn apos) [] [] pos) X.env = (do
      let ov ← eval o X.env
      standAt apos.atName
      let (f, first) ← holding [ov] (getMethod ov mn pl)
      callWith pos f first (backTo pos (starEach [] X.env)) (backToKw pos (keywordEach [] X.env))) := by rfl) :
    QE X mr (WS P w K W) Wo (.Call (.Attribute o mn apos) [] [] pos) (qMethS C mn pf qo qNil) := by
  subst hK
  exact PE.imp (pe_methS0 he c hm F hr hx ht) fun σ H Q ⟨F, T, ω, ρ, Qp, Ep, R, q, hx, k⟩ =>
  ⟨F, T, ω, ρ, _, Ep, R, q, hx, fun T1 ω1 d v H1 R1 e1 r1 ⟨a, fs, z, hs, hn, q1⟩ => by
    subst z
    have := RC.adr r1.c
    subst this
    obtain ⟨dx, gs, h1, _, rr⟩ := WS.ok R1 hs
    exact ⟨a, dx, gs, rfl, h1, rr.none hn, sp_at R1 e1 hx (.cons (.adr a) .nil) q1 k⟩⟩
theorem mk_grow {H : Hp} {x dx C : Addr} (nx : H x = none) (ndx : H dx = none) : GrP nop H (mkHp H x dx C) := (Gr.made (C := C) nx ndx).p0
theorem WS.made {K : PySem.W.Frag} {F : Frm} {T : ASet} {ω : W.Ω × Sto} {ρ : List Sl} {σ : L2.St} {H : Hp} {x dx C : Addr} (R : Rel K (WS P w K W) F T ω ρ σ H) (nx : H x = none) (ndx : H dx = none) : ω.2 x = none ∧ Rel K (WS P w K W) F (fun a => T a ∨ a = x) (ω.1, ω.2.put x (.mi C [])) ρ σ (mkHp H x dx C) ∧ Ext T H (fun a => T a ∨ a = x) (mkHp H x dx C) := by
  have g := mk_grow (C := C) nx ndx
  have R1 := R.grow g
  have hs := R.fresh nx
  refine ⟨WS.out R fun t => hs (.inr (.inl t)), Rel.come R R1 (Ext.of0 g) nx hs (WS.inv_new R1.inv (fun t => hs (.inr (.inl t))) ⟨dx, [], upd_same, by decide, .nil⟩)⟩
def qMakeS (C : Addr) (pf : PSp (WS P w K W)) (qf : QT (WS P w K W)) (qs : QTA (WS P w K W)) : QT (WS P w K W) := fun ω ρ Q E => qf ω ρ (fun ω0 d => d = .adr C ∧ qs ω0 ρ (fun ω1 ds => ∀ x, ω1.2 x = none → pf (ω1.1, ω1.2.put x (.mi C [])) (.adr x :: ds) (fun ω2 d => d = .non ∧ Q ω2 (.adr x)) E) E) E
theorem qe_makeS (hK : X.K = K) {pf : PSp (WS P w K W)} {qf : QT (WS P w K W)} {fe : Expr} (hf : QE X m (WS P w K W) Wo fe qf) (M : Mk X.K C f) (F : FnR X.prog X.w X.K X.mg X.base (L2N.CX X.prog X.w) k f (spM .A X.K (WS P w K W) pf)) (hr : Room (k + 1) X.A) (hx : ∀ σ, PassesAt (L2N.CX X.prog X.w) X σ (WE Wo σ)) (ha : QA X .A (WS P w K W) Wo (e :: es) qs)
    (ht : eval (.Call fe (e :: es) [] pos) X.env = (do callWith pos (← eval fe X.env) [] (backTo pos (starEach (e :: es) X.env)) (backToKw pos (keywordEach [] X.env))) := by rfl)
    (he : starEach (e :: es) X.env = (false, eval e X.env) :: starEach es X.env := by rfl) (hpl : (backTo pos (starEach es X.env)).any (·.1) = false := by rfl) : QE X .A (WS P w K W) Wo (.Call fe (e :: es) [] pos) (qMakeS C pf qf qs) := by
  subst hK
  exact PE.imp (pe_makeS hf M F hr hx ha ht he hpl) fun σ H Q ⟨F, T, ω, ρ, Qp, Ep, R, q, hx, k⟩ =>
  ⟨F, T, ω, ρ, _, Ep, R, q, hx, fun T0 ω0 d v H0 R0 e0 r0 ⟨z, q0⟩ => by
    subst z
    refine ⟨r0.c.adr, F, T0, ω0, ρ, _, Ep, R0, q0, hx, fun T1 ω1 ds vs H1 R1 e1 r1 q1 x dx nx ndx ne => ?_⟩
    obtain ⟨hn, R2, e2⟩ := WS.made (C := C) R1 nx ndx
    refine sp_at R2 ((e0.trans e1).trans e2) hx (.cons (.adr x) (R1.ext_reps e2 r1.reps)) (q1 x hn) fun T' ω' d v H' R' e' r' ⟨z, q'⟩ => ?_
    subst z
    exact ⟨RC.non (RR.c (m := .A) r'), k T' ω' (.adr x) (.ref x) H' R' e' (RepA.adr x) q'⟩⟩
end
section
variable {P : Program} {w : World} {K : PySem.W.Frag} {W : Wrl} {q qa qb qc qo qk : QT (WS P w K W)} {qs : QTA (WS P w K W)} {ω : W.Ω × Sto} {ρ : List Sl} {Q : W.Ω × Sto → D → Prop} {E : W.Ω × Sto → Exn → Prop} {P' : PEn (WS P w K W)} {C : Addr} {fn mn : Str} {d x : D} {a l : Addr} {fs : List (Str × D)} {ds : List D} {R : D → Prop} {st : Sto}
theorem v_opS {f : D → D → (D → Prop) → Prop} (h : qa ω ρ (fun ω1 x => qb ω1 ρ (fun ω2 y => kDer ω2.2 x fun x' => kDer ω2.2 y fun y' => f x' y' (Q ω2)) E) E) : qOpS f qa qb ω ρ Q E := h
theorem v_caS {f : List D → (D → Prop) → Prop} (h : qs ω ρ (fun ω1 xs => kDers ω1.2 xs fun ys => f ys (Q ω1)) E) : qCaS f qs ω ρ Q E := h
theorem v_new (h : q ω ρ (fun ω1 d => ∃ ds, d = .lst ds ∧ D.pures ds = true ∧ ∀ l, ω1.2 l = none → Q (ω1.1, ω1.2.put l (.ml ds)) (.adr l)) E) : qNew q ω ρ Q E := h
theorem v_fldS (h : qa ω ρ (fun ω1 d => kFldS C fn ω1.2 d (Q ω1)) E) : qFldS C fn qa ω ρ Q E := h
theorem v_kFldS (h1 : st a = some (.mi C fs)) (h2 : fs.lookup fn = some x) (h : R x) : kFldS C fn st (.adr a) R := ⟨a, fs, x, rfl, h1, h2, h⟩
theorem v_fstS (h : qa ω ρ (fun ω1 d => qo ω1 ρ (fun ω2 x => kFstS C fn P' ρ d ω2 x) fun ω' y => P'.ex ω' y ρ) fun ω' y => P'.ex ω' y ρ) : sFstS C fn qo qa P' ω ρ := h
theorem v_kFstS (h1 : ω.2 a = some (.mi C fs)) (hp : d.pure = true) (hi : imm ((putD fn d fs).map (·.1)) = false) (hl : fs.length < 1000) (h : P'.nx (ω.1, ω.2.put a (.mi C (putD fn d fs))) ρ) : kFstS C fn P' ρ d ω (.adr a) := ⟨a, fs, rfl, h1, hp, hi, hl, h⟩
theorem v_appS (h : qo ω ρ (fun ω1 x => ∃ l ds, x = .adr l ∧ ω1.2 l = some (.ml ds) ∧ qa ω1 ρ (fun ω2 d => kAppS P' ρ l ω2 d) fun ω' y => P'.ex ω' y ρ) fun ω' y => P'.ex ω' y ρ) : sAppS qo qa P' ω ρ := h
theorem v_kAppS (h1 : ω.2 l = some (.ml ds)) (hp : d.pure = true) (hl : ds.length < 1000000) (h : P'.nx (ω.1, ω.2.put l (.ml (ds ++ [d]))) ρ) : kAppS P' ρ l ω d := ⟨ds, h1, hp, hl, h⟩
theorem v_putS (h : qa ω ρ (fun ω1 d => qo ω1 ρ (fun ω2 x => ∃ l, x = .adr l ∧ qk ω2 ρ (fun ω3 y => kPutS P' ρ d l ω3 y) fun ω' y => P'.ex ω' y ρ) fun ω' y => P'.ex ω' y ρ) fun ω' y => P'.ex ω' y ρ) : sPutS qo qk qa P' ω ρ := h
theorem v_kPutS {n : Int} {j : Nat} (h1 : ω.2 l = some (.ml ds)) (hj : ixN ds.length n = some j) (hp : d.pure = true) (h : P'.nx (ω.1, ω.2.put l (.ml (ds.set j d))) ρ) : kPutS P' ρ d l ω (.int n) := ⟨ds, n, j, h1, rfl, hj, hp, h⟩
end
end LW
namespace LW
open PySem PySem.Spec PyProof.Rows L2
def Sto.del (st : Sto) (a : Addr) : Sto := fun b => if b = a then none else st b
theorem Sto.delput2 {st : Sto} {a c : Addr} {m n : MO} (h : st a = none) (hn : a ≠ c) : ((st.put a m).put c n).del a = st.put c n := by
  funext b
  unfold Sto.del Sto.put
  by_cases e : b = a
  · rw [if_pos e, e, if_neg hn, h]
  · rw [if_neg e]
    by_cases e2 : b = c
    · rw [if_pos e2, if_pos e2]
    · rw [if_neg e2, if_neg e2, if_neg e]
theorem owns_set_ow {l k : Addr} {ds : List D} : ∀ {ρ : List Sl} {i : Nat}, k ∈ owns (ρ.set i (.ow l ds)) → k = l ∨ k ∈ owns ρ
  | [], i, h => .inr h
  | x :: r, 0, h => by
    rcases List.mem_cons.mp (show k ∈ l :: owns r from h) with z | z
    · exact .inl z
    · cases x with
      | no => exact .inr z
      | va d => exact .inr z
      | ex a b c => exact .inr z
      | ow a b => exact .inr (List.mem_cons_of_mem _ z)
  | x :: r, i + 1, h => by
    cases x with
    | no => exact owns_set_ow (ρ := r) (i := i) h
    | va d => exact owns_set_ow (ρ := r) (i := i) h
    | ex a b c => exact owns_set_ow (ρ := r) (i := i) h
    | ow a b =>
      rcases List.mem_cons.mp (show k ∈ a :: owns (r.set i (.ow l ds)) from h) with z | z
      · exact .inr (by rw [z]; exact List.mem_cons_self)
      · exact (owns_set_ow (ρ := r) (i := i) z).imp id fun z => List.mem_cons_of_mem _ z
theorem nodup_set_ow {l : Addr} {ds : List D} : ∀ {ρ : List Sl} {i : Nat}, l ∉ owns ρ → (owns ρ).Nodup → (owns (ρ.set i (.ow l ds))).Nodup
  | [], i, _, h => h
  | x :: r, 0, hl, h => by
    show (l :: owns r).Nodup
    cases x with
    | no => exact List.nodup_cons.mpr ⟨hl, h⟩
    | va d => exact List.nodup_cons.mpr ⟨hl, h⟩
    | ex a b c => exact List.nodup_cons.mpr ⟨hl, h⟩
    | ow a b => exact List.nodup_cons.mpr ⟨fun z => hl (List.mem_cons_of_mem _ z), (List.nodup_cons.mp h).2⟩
  | x :: r, i + 1, hl, h => by
    cases x with
    | no => exact nodup_set_ow (ρ := r) (i := i) hl h
    | va d => exact nodup_set_ow (ρ := r) (i := i) hl h
    | ex a b c => exact nodup_set_ow (ρ := r) (i := i) hl h
    | ow a b =>
      have h2 := List.nodup_cons.mp (show (a :: owns r).Nodup from h)
      refine List.nodup_cons.mpr ⟨fun z => ?_, nodup_set_ow (ρ := r) (i := i) (fun z => hl (List.mem_cons_of_mem _ z)) h2.2⟩
      rcases owns_set_ow (ρ := r) (i := i) z with z | z
      · exact hl (by rw [← z]; exact List.mem_cons_self)
      · exact h2.1 z
section
variable {P : Program} {w : World} {K : PySem.W.Frag} {W : Wrl} {F : Frm} {T : ASet} {ω : W.Ω × Sto} {ρ : List Sl} {σ : L2.St} {H : Hp} {l : Addr} {ds : List D} {i : Nat}
theorem WS.take (R : Rel K (WS P w K W) F T ω ρ σ H) (e : ρ[i]? = some (.va (.adr l))) (hs : ω.2 l = some (.ml ds)) (hp : D.pures ds = true) (h1 : F.H l = none) (h2 : ¬ F.S l) : Rel K (WS P w K W) F (fun a => T a ∧ a ≠ l) (ω.1, ω.2.del l) (ρ.set i (.ow l ds)) σ H := by
  obtain ⟨v, hv, rv⟩ := R.sl.get_va e
  have hv : σ[i]? = some (some (.ref l)) := by cases rv; exact hv
  have tl : T l := WS.mem R hs
  have nl : l ∉ owns ρ := fun z => (R.own l z).2.1 tl
  obtain ⟨xs, hx, rx⟩ := WS.ok R hs
  obtain ⟨T1, i1, i2, i3, i4⟩ := R.inv
  have nT1 : ¬ T1 l := fun t => by rw [i3 l t] at hs; cases hs
  have eS : ∀ a, Spr F (fun a => T a ∧ a ≠ l) (ρ.set i (.ow l ds)) a → Spr F T ρ a := fun a z => by
    rcases z with z | z | z
    · exact .inl z
    · exact .inr (.inl z.1)
    · rcases owns_set_ow z with z | z
      · exact .inr (.inl (by rw [z]; exact tl))
      · exact .inr (.inr z)
  have s1 : SlsR K H (Spr F (fun a => T a ∧ a ≠ l) (ρ.set i (.ow l ds))) ρ σ := R.sl.less eS
  have s2 := s1.set_ow (l := l) (ds := ds) hx (rx.any hp) i
  rw [set_self' hv] at s2
  have del_ne : ∀ {a : Addr}, a ≠ l → (ω.2.del l) a = ω.2 a := fun h => by unfold Sto.del; rw [if_neg h]
  have del_eq : (ω.2.del l) l = none := by unfold Sto.del; rw [if_pos rfl]
  refine ⟨R.gr, ⟨T1, i1, fun a => ?_, fun a t => ?_, fun a m hm => ?_⟩, fun a z => R.tn a z.1, fun k hk => ?_, nodup_set_ow nl R.nd, fun a z => ⟨(R.s0 a z).1, fun t => (R.s0 a z).2 t.1⟩, fun p hp => (R.hd p hp).less eS, s2⟩
  · constructor
    · rintro ⟨ta, na⟩
      rcases (i2 a).mp ta with z | ⟨m, z⟩
      · exact .inl z
      · exact .inr ⟨m, by rw [← z]; exact del_ne na⟩
    · rintro (z | ⟨m, z⟩)
      · exact ⟨(i2 a).mpr (.inl z), fun q => nT1 (q ▸ z)⟩
      · have na : a ≠ l := fun q => by
          have z : (ω.2.del l) a = some m := z
          rw [q, del_eq] at z; cases z
        exact ⟨(i2 a).mpr (.inr ⟨m, by rw [← z]; exact (del_ne na).symm⟩), na⟩
  · have na : a ≠ l := fun q => nT1 (q ▸ t)
    exact (del_ne na).trans (i3 a t)
  · have hm : (ω.2.del l) a = some m := hm
    have na : a ≠ l := fun q => by rw [q, del_eq] at hm; cases hm
    rw [del_ne na] at hm
    exact i4 a m hm
  · rcases owns_set_ow hk with z | z
    · rw [z]; exact ⟨h1, fun t => t.2 rfl, h2⟩
    · exact ⟨(R.own k z).1, fun t => (R.own k z).2.1 t.1, (R.own k z).2.2⟩
end
section
variable {X : Cx} {P : Program} {w : World} {K : PySem.W.Frag} {W : Wrl} {Wo : WX} {mr : Md}
def lendP (i : Nat) (l : Addr) (P' : PEn (WS P w K W)) : PEn (WS P w K W) := { P' with nx := fun ω ρ => ρ[i]? = some (.va (.adr l)) ∧ ∃ ds, ω.2 l = some (.ml ds) ∧ D.pures ds = true ∧ P'.nx (ω.1, ω.2.del l) (ρ.set i (.ow l ds)) }
def sLend (i : Nat) (s : QTS (WS P w K W)) : QTS (WS P w K W) := fun P' ω ρ => ∃ l ds, ρ[i]? = some (.ow l ds) ∧ D.pures ds = true ∧ (ω.2 l = none → s (lendP i l P') (ω.1, ω.2.put l (.ml ds)) (ρ.set i (.va (.adr l))))
theorem qs_lend (hK : X.K = K) {st : Stmt} {s : QTS (WS P w K W)} (i : Nat) (h : QS X mr (WS P w K W) Wo st s) : QS X mr (WS P w K W) Wo st (sLend i s) := by
  subst hK
  exact PS.imp h fun D σ H ⟨F, T, ω, ρ, P', R, ⟨l, ds, hi, hp, q⟩, S⟩ => by
    obtain ⟨h0, R1⟩ := WS.give R hi hp
    have ow := R.own l (owns_mem hi)
    exact ⟨F, _, _, _, lendP i l P', R1, q h0, ⟨fun T ω ρ σ H R ⟨e, ds, hs, hp, q⟩ => S.nx _ _ _ σ H (WS.take R e hs hp ow.1 ow.2.2) q, S.bk, S.ct, S.rt, S.ex⟩⟩
theorem qb_cmpS (hK : X.K = K) {m1 m2 : Md} {a b : Expr} {pos : Pos} {qa qb : QT (WS P w K W)} {op : CmpOp} {r : R2} {f : D → D → (D → Prop) → Prop} (ho : OpR X (compareOp op) r) (hp : OpP .A X.K r f) (ha : QE X m1 (WS P w K W) Wo a qa) (hb : QE X m2 (WS P w K W) Wo b qb) (hk : behindInMarks op b = false) : QB X (WS P w K W) Wo (.Compare a [op] [b] pos) (qTe (qOpS f qa qb)) := by
  subst hK
  exact PT.imp (pt_cmpR ho ha hb hk) fun σ H Q ⟨F, T, ω, ρ, Qp, Ep, R, q, hx, k⟩ => lf_opS (m := .A) rfl rfl hp σ H _ ⟨F, T, ω, ρ, _, Ep, R, q, hx, fun T' ω' d v H' R' e r ⟨b, z, q'⟩ => by subst z; exact ⟨b, (RR.c r).bl, k T' ω' b H' R' e q'⟩⟩
theorem v_lendP {i : Nat} {l : Addr} {P' : PEn (WS P w K W)} {ω : W.Ω × Sto} {ρ : List Sl} (h : ρ[i]? = some (.va (.adr l)) ∧ ∃ ds, ω.2 l = some (.ml ds) ∧ D.pures ds = true ∧ P'.nx (ω.1, ω.2.del l) (ρ.set i (.ow l ds))) : (lendP i l P').nx ω ρ := h
end
end LW
namespace LW
open PySem PySem.Spec PyProof.Rows L2
abbrev QTIP (W : Wrl) := W.Ω → List Sl → (W.Ω → List D → (W.Ω → List Sl → Prop) → Prop) → (W.Ω → Exn → Prop) → Prop
def ItOkP (mi : Md) (K : PySem.W.Frag) (W : Wrl) (inv : W.Ω → List Sl → Prop) (h : List (D × V)) (ds : List D) (J : It) : Prop := ∀ F T ω ρ σ H, (∀ p, p ∈ h → p ∈ F.hid) → Rel K W F T ω ρ σ H → inv ω ρ → ∀ i, (i < ds.length → J.go i H) ∧ (ds.length ≤ i → J.stop i H) ∧ ∀ d x H2, ds[i]? = some d → J.yld i H x H2 → GrP nop H H2 ∧ RR mi K H2 H2 (Spr F T ρ) (owns ρ) d x
def lfIP (mi : Md) (K : PySem.W.Frag) (W : Wrl) (Wo : WX) (q : QTIP W) : TI := fun σ H Rj => ∃ (F : Frm) (T : ASet) (ω : W.Ω) (ρ : List Sl) (Qp : W.Ω → List D → (W.Ω → List Sl → Prop) → Prop) (Ep : W.Ω → Exn → Prop), Rel K W F T ω ρ σ H ∧ q ω ρ Qp Ep ∧ XOk K W Wo F ρ σ Ep ∧
  ∀ T' ω' h ds inv J H', Rel K W (F.add h) T' ω' ρ σ H' → Ext T H T' H' → ItOkP mi K W inv h ds J → Qp ω' ds inv → Rj J H'
def QIP (X : Cx) (mi : Md) (W : Wrl) (Wo : WX) (tg iter : Expr) (q : QTIP W) : Prop := PI X tg iter (lfIP mi X.K W Wo q)
section
variable {X : Cx} {W : Wrl} {Wo : WX} {m m1 mi mr : Md} {a : Expr} {s : QTS W} {pos : Pos}
def sForP (qi : QTIP W) (g : QTG) (s : QTS W) : QTS W := fun P ω ρ => qi ω ρ (fun ω1 ds inv => ∃ I : Nat → W.Ω → List Sl → Prop, I 0 ω1 ρ ∧ (∀ i ω ρ, I i ω ρ → inv ω ρ) ∧ (∀ i d ω ρ, ds[i]? = some d → I i ω ρ → g d ρ fun ρ' => s { P with nx := I (i + 1), ct := I (i + 1), bk := P.nx } ω ρ') ∧ ∀ ω ρ, I ds.length ω ρ → P.nx ω ρ) fun ω1 x => P.ex ω1 x ρ
end
section
variable {X : Cx} {W : Wrl} {Wo : WX} {mi m : Md} {qi : QTIP W} {g : QTG} {qt : QTT W} {qe : QT W} {vs ts : List Nat} {c : Expr} {ifs : List Expr}
def qLcP (qi : QTIP W) (g : QTG) (qt : QTT W) (qe : QT W) (vs : List Nat) : QT W := fun ω ρ Q E => qi ω ρ (fun ω1 ds inv => still ρ vs = true ∧ ds.length ≤ 1000000 ∧ ∃ I : Nat → W.Ω → List D → Prop, I 0 ω1 [] ∧ (∀ i ω acc, I i ω acc → inv ω (wipeP ρ vs)) ∧
  (∀ i d ω acc, ds[i]? = some d → I i ω acc → acc.length ≤ i → g d (wipeP ρ vs) fun ρ2 => wipeP ρ2 vs = wipeP ρ vs ∧ qt ω ρ2 (fun ω2 b => if b = true then qe ω2 ρ2 (fun ω3 y => I (i + 1) ω3 (acc ++ [y])) (fun _ _ => False) else I (i + 1) ω2 acc) (fun _ _ => False)) ∧
  ∀ ω acc, I ds.length ω acc → Q ω (.lst acc)) E
theorem lf_lcP {K : PySem.W.Frag} (hts : ∀ j, j ∈ ts → j ∈ vs) (σ : L2.St) (H : Hp) (Q : VK) (h : lfE .F K W Wo (qLcP qi g qt qe vs) σ H Q) : tLc (lfIP mi K W Wo qi) (lfG mi K W ts g) (lfT K W Wo0 qt) (lfE .A K W Wo0 qe) vs σ H Q := by
  obtain ⟨F, T, ω, ρ, Qp, Ep, R, q, hx, k⟩ := h
  refine ⟨F, T, ω, ρ, _, Ep, R, q, hx, fun T1 ω1 h ds inv J H1 R1 e1 it ⟨hst, hlen, I, i0, hinv, hstep, hend⟩ D hD => ?_⟩
  obtain ⟨hv, Rw, back⟩ := wipeHid vs hst R1
  have F1D : F.H D = none := R1.gr.live D hD
  have Rg := Rw.guard hD (.lst [])
  have eD : Ext T1 H1 T1 (upd H1 D (.lst [])) := Ext.of0 (GrP.new hD)
  have hh : ∀ p, p ∈ h → p ∈ (((F.add h).add hv).grd D).hid := fun p hp => List.mem_append_right _ (List.mem_append_left _ hp)
  have hhv : ∀ p, p ∈ hv → p ∈ ((F.add h).add hv).hid := fun p hp => List.mem_append_left _ hp
  refine ⟨fun i n H => i + n = ds.length ∧ ∃ T ω acc xs, Rel K W (((F.add h).add hv).grd D) T ω (wipeP ρ vs) (L2.wipe σ vs) H ∧ Ext T1 H1 T H ∧ H D = some (.lst xs) ∧ RepsA K H (Spr (((F.add h).add hv).grd D) T (wipeP ρ vs)) acc xs ∧ acc.length ≤ i ∧ I i ω acc, ⟨ds.length, by omega, T1, ω1, [], [], Rg, eD, upd_same, .nil, Nat.le_refl _, i0⟩, fun i n H2 ⟨hn, T2, ω2, acc, xs, R2, e2, hD2, ra, hl, q2⟩ => ?_⟩
  obtain ⟨h1, h2, h3⟩ := it _ T2 ω2 _ _ H2 hh R2 (hinv i ω2 acc q2) i
  rcases Nat.lt_or_ge i ds.length with hi | hi
  · refine .inr ⟨h1 hi, fun H' => ∃ T ω acc xs, Rel K W (((F.add h).add hv).grd D) T ω (wipeP ρ vs) (L2.wipe σ vs) H' ∧ Ext T1 H1 T H' ∧ H' D = some (.lst xs) ∧ RepsA K H' (Spr (((F.add h).add hv).grd D) T (wipeP ρ vs)) acc xs ∧ acc.length ≤ i + 1 ∧ I (i + 1) ω acc, fun H' q => ⟨n - 1, by omega, by omega, q⟩, fun x H3 hy => ?_⟩
    obtain ⟨g3, rx⟩ := h3 ds[i] x H3 (List.getElem?_eq_getElem hi) hy
    have R3 := R2.grow g3
    have x3 : Ext T2 H2 T2 H3 := Ext.of0 g3
    refine ⟨_, T2, ω2, _, ds[i], _, R3, rx, hstep i _ ω2 acc (List.getElem?_eq_getElem hi) q2 hl, fun ρ4 σ4 R4 l4 f4 ⟨w4, q4⟩ => ⟨wipe_same l4 f4 hts, _, T2, ω2, ρ4, _, _, R4, q4, fun _ _ _ _ _ _ _ _ z => z, fun T5 ω5 b H5 R5 e5 q5 => ?_⟩⟩
    have sw : L2.wipe σ4 vs = L2.wipe σ vs := wipe_same l4 f4 hts
    have done : ∀ T6 ω6 H6, Rel K W (((F.add h).add hv).grd D) T6 ω6 ρ4 σ4 H6 → Ext T2 H3 T6 H6 → Rel K W (((F.add h).add hv).grd D) T6 ω6 (wipeP ρ vs) (L2.wipe σ vs) H6 ∧ Ext T1 H1 T6 H6 ∧ H6 D = some (.lst xs) ∧ RepsA K H6 (Spr (((F.add h).add hv).grd D) T6 (wipeP ρ vs)) acc xs := fun T6 ω6 H6 R6 e6 => by
      have z := R6.wipe vs
      rw [w4, sw] at z
      refine ⟨z, e2.trans (x3.trans e6), (x3.trans e6).gr.keep _ _ hD2 (.inr (R2.s0 D (.inr rfl)).2), R2.ext_reps (x3.trans e6) ra⟩
    cases b with
    | false =>
      obtain ⟨z1, z2, z3, z4⟩ := done T5 ω5 H5 R5 e5
      exact ⟨T5, ω5, acc, xs, z1, z2, z3, z4, by omega, q5⟩
    | true =>
      refine ⟨_, T5, ω5, ρ4, _, _, R5, q5, fun _ _ _ _ _ _ _ _ z => z, fun T6 ω6 y w H6 R6 e6 r6 q6 => ?_⟩
      obtain ⟨z1, z2, z3, z4⟩ := done T6 ω6 H6 R6 (e5.trans e6)
      have gD : GrP (fun a => a = D) H6 (upd H6 D (.lst (xs ++ [w]))) := GrP.wr rfl fun u hu => by rw [z3] at hu; cases hu; rfl
      have ry : RepA K H6 (Spr (((F.add h).add hv).grd D) T6 (wipeP ρ vs)) y w := RepA.less r6 fun a z => by
        rcases z with z | z | z
        · exact .inl z
        · exact .inr (.inl z)
        · exact .inr (.inr ((owns_wipe_sub vs).subset (by rw [w4]; exact z)))
      have hxl : xs.length ≤ 1000000 := by have := z4.len; omega
      refine ⟨xs, z3, Nat.lt_of_le_of_lt hxl (by decide), T6, ω6, acc ++ [y], xs ++ [w], z1.wrS (.inr rfl) F1D (fun u hu => by rw [z3] at hu; cases hu; rfl), ⟨z2.gr.trans gD fun a z => by rw [z]; exact .inr hD, z2.tn⟩, upd_same, ?_, by rw [List.length_append]; show acc.length + 1 ≤ i + 1; omega, q6⟩
      exact (RepsA.append (.cons ry .nil) z4).ext gD (fun a z => by rw [z]; exact .inl (.inl (.inr rfl))) fun a z => .inl z
  · have : i = ds.length := by omega
    subst this
    refine .inl ⟨h2 hi, ?_⟩
    have Rf : Rel K W F T2 ω2 ρ σ H2 := (back _ T2 ω2 H2 hhv R2.unguard).drop.drop
    refine k T2 ω2 (.lst acc) (.ref D) H2 Rf (e1.trans e2) ⟨D, xs, acc, rfl, rfl, e1.gr.live D hD, fun z => ?_, hD2, ra.less fun a z => ?_⟩ (hend ω2 acc q2)
    · rcases z with z | z | z
      · exact (R1.s0 D z).1 hD
      · exact (R2.s0 D (.inr rfl)).2 z
      · exact R1.spl D (.inr (.inr z)) hD
    · rcases z with (z | z | z) | z
      · exact .inl (.inl z)
      · exact .inr (.inl z)
      · exact .inr (.inr (by rw [owns_wipe hst]; exact z))
      · exact .inl (.inr z)
variable {elt tg iter : Expr} {scope : Scope} {own : List (Str × Nat)} {pos spos py : Pos} {i : Nat} {y : Str}
theorem qe_lcP (hc : X.calm = true) (hN : X.N.Nodup) (hi : QIP X mi W Wo tg iter qi) (ok : BlkOk X.N X.env.scope scope own)
    (hg : ∀ (s : Shared) (H : Hp) (C : Addr) (cl : List (Str × Addr)) (fp : List Addr), QG (X.blk s H scope (compEnvC scope cl C X.env) fp) mi W tg ts g) (ht : ∀ (s : Shared) (H : Hp) (C : Addr) (cl : List (Str × Addr)) (fp : List Addr), QTs (X.blk s H scope (compEnvC scope cl C X.env) fp) W Wo0 ifs qt)
    (he : ∀ (s : Shared) (H : Hp) (C : Addr) (cl : List (Str × Addr)) (fp : List Addr), QE (X.blk s H scope (compEnvC scope cl C X.env) fp) .A W Wo0 elt qe) (hts : ∀ j, j ∈ ts → j ∈ own.map (·.2) := by decide) (hs : ∀ x, foldedSetIterable iter X.env x = pure x := by intro _; rfl) :
    QE X .F W Wo (.ListComp elt [⟨tg, iter, ifs, 0⟩] scope pos) (qLcP qi g qt qe (own.map (·.2))) := PE.imp (pe_lc (g := lfG mi X.K W ts g) (tt := lfT X.K W Wo0 qt) (te := lfE .A X.K W Wo0 qe) hc hN hi ok hg ht he hs) (lf_lcP hts)
variable {mr : Md}
end
section
variable {X : Cx} {P : Program} {w : World} {K : PySem.W.Frag} {W : Wrl} {Wo : WX} {m : Md} {a tg : Expr}
def iSto (qo : QT (WS P w K W)) : QTIP (WS P w K W) := fun ω ρ Q E => qo ω ρ (fun ω1 d => ∃ l ds, d = .adr l ∧ ω1.2 l = some (.ml ds) ∧ Q ω1 ds (fun ω _ => ω.2 l = some (.ml ds))) E
theorem qip_sto {qo : QT (WS P w K W)} (hK : X.K = K) (ha : QE X m (WS P w K W) Wo a qo) : QIP X .A (WS P w K W) Wo tg a (iSto qo) := by
  subst hK
  exact PI.imp (pi_list ha) fun σ H Rj ⟨F, T, ω, ρ, Qp, Ep, R, q, hx, k⟩ =>
  ⟨F, T, ω, ρ, _, Ep, R, q, hx, fun T1 ω1 d v H1 R1 e1 r1 ⟨l, ds, z, hs, q1⟩ => by
    subst z
    have := RC.adr r1.c
    subst this
    obtain ⟨xs, h1, _⟩ := WS.ok R1 hs
    refine ⟨l, rfl, ⟨xs, sql_of h1⟩, k T1 ω1 [] ds _ _ H1 (R1.put fun p hp => by cases hp) e1 (fun F T ω ρ σ H hh R hinv i => ?_) q1⟩
    obtain ⟨xs', h2, rr⟩ := WS.ok R hinv
    have hl' := sql_of (K := X.K) h2
    refine ⟨fun hi => ?_, fun hi => ⟨xs', hl', by rw [rr.len]; exact hi⟩, fun d x H2 hd hy => ?_⟩
    · obtain ⟨v, hv, _⟩ := rr.get (List.getElem?_eq_getElem hi)
      exact ⟨xs', v, hl', hv⟩
    · obtain ⟨z, hx⟩ := hy
      subst z
      obtain ⟨v, hv, rv⟩ := rr.get hd
      have := hx xs' hl'
      rw [hv] at this
      cases this
      exact ⟨GrP.refl _ _, rv.less fun _ _ => trivial⟩⟩
end
section
variable {X : Cx} {W : Wrl} {Wo : WX} {a tg : Expr} {i : Nat}
def iOwP (i : Nat) : QTIP W := fun ω ρ Q _ => ∃ l ds, ρ[i]? = some (.ow l ds) ∧ Q ω ds (fun _ ρ => ρ[i]? = some (.ow l ds))
end
section
variable {W : Wrl} {P : PEn W} {ω : W.Ω} {ρ : List Sl} {Q : W.Ω → D → Prop} {E : W.Ω → Exn → Prop} {qi : QTIP W} {g : QTG} {qt : QTT W} {qe : QT W} {s : QTS W} {vs : List Nat} {ds : List D} {i : Nat} {l : Addr} {inv : W.Ω → List Sl → Prop}
def kForP (g : QTG) (s : QTS W) (P : PEn W) (ρ : List Sl) (ω1 : W.Ω) (ds : List D) (inv : W.Ω → List Sl → Prop) : Prop := ∃ I : Nat → W.Ω → List Sl → Prop, I 0 ω1 ρ ∧ (∀ i ω ρ, I i ω ρ → inv ω ρ) ∧ (∀ i d ω ρ, ds[i]? = some d → I i ω ρ → g d ρ fun ρ' => s { P with nx := I (i + 1), ct := I (i + 1), bk := P.nx } ω ρ') ∧ ∀ ω ρ, I ds.length ω ρ → P.nx ω ρ
theorem v_forP (h : qi ω ρ (fun ω1 ds inv => kForP g s P ρ ω1 ds inv) fun ω1 x => P.ex ω1 x ρ) : sForP qi g s P ω ρ := h
def kLcP (g : QTG) (qt : QTT W) (qe : QT W) (vs : List Nat) (ρ : List Sl) (Q : W.Ω → D → Prop) (ω1 : W.Ω) (ds : List D) (inv : W.Ω → List Sl → Prop) : Prop := still ρ vs = true ∧ ds.length ≤ 1000000 ∧ ∃ I : Nat → W.Ω → List D → Prop, I 0 ω1 [] ∧ (∀ i ω acc, I i ω acc → inv ω (wipeP ρ vs)) ∧
  (∀ i d ω acc, ds[i]? = some d → I i ω acc → acc.length ≤ i → g d (wipeP ρ vs) fun ρ2 => wipeP ρ2 vs = wipeP ρ vs ∧ qt ω ρ2 (fun ω2 b => if b = true then qe ω2 ρ2 (fun ω3 y => I (i + 1) ω3 (acc ++ [y])) (fun _ _ => False) else I (i + 1) ω2 acc) (fun _ _ => False)) ∧
  ∀ ω acc, I ds.length ω acc → Q ω (.lst acc)
theorem v_lcP (h : qi ω ρ (fun ω1 ds inv => kLcP g qt qe vs ρ Q ω1 ds inv) E) : qLcP qi g qt qe vs ω ρ Q E := h
theorem v_iOwP {QL : W.Ω → List D → (W.Ω → List Sl → Prop) → Prop} (h1 : ρ[i]? = some (.ow l ds)) (h : QL ω ds (fun _ ρ => ρ[i]? = some (.ow l ds))) : iOwP i ω ρ QL E := ⟨l, ds, h1, h⟩
end
section
variable {P : Program} {w : World} {K : PySem.W.Frag} {W : Wrl} {ω : W.Ω × Sto} {ρ : List Sl} {E : W.Ω × Sto → Exn → Prop} {qo : QT (WS P w K W)} {QL : W.Ω × Sto → List D → (W.Ω × Sto → List Sl → Prop) → Prop} {l : Addr} {ds : List D}
def kSto (QL : W.Ω × Sto → List D → (W.Ω × Sto → List Sl → Prop) → Prop) (ω1 : W.Ω × Sto) (d : D) : Prop := ∃ l ds, d = .adr l ∧ ω1.2 l = some (.ml ds) ∧ QL ω1 ds (fun ω _ => ω.2 l = some (.ml ds))
theorem v_iSto (h : qo ω ρ (fun ω1 d => kSto QL ω1 d) E) : iSto qo ω ρ QL E := h
theorem v_kSto (h1 : ω.2 l = some (.ml ds)) (h : QL ω ds (fun ω _ => ω.2 l = some (.ml ds))) : kSto QL ω (.adr l) := ⟨l, ds, rfl, h1, h⟩
end
end LW
namespace LW
open PySem PySem.Spec PyProof.Rows L2
section
variable {W : Wrl} {P : PEn W} {ω : W.Ω} {ρ : List Sl} {g : QTG} {s : QTS W} {ds : List D}
end
end LW
namespace LW
open PySem PySem.Spec PyProof.Rows L2
section
variable {P : Program} {w : World} {K : PySem.W.Frag} {H H' : Hp} {h : Heap} {S : ASet}
mutual
theorem nested_of : ∀ (k : NestedKey) {v : V} {u : Value}, RepA K H S (kD k) v → HOk P w H h → RelV v u → NestedIs h k u
  | .none, _, _, r, ok, ru => by cases r; cases ru; exact .none
  | .num i, _, _, r, ok, ru => by cases r; obtain ⟨t, rfl⟩ := ru; exact .int i t
  | .text x, _, _, r, ok, ru => by cases r; obtain ⟨t, rfl⟩ := ru; exact .text x t
  | .tup ks, _, _, r, ok, ru => by
    cases r with
    | @tup a xs _ ht rs =>
      cases (show _ = Value.ref a from ru)
      obtain ⟨o, ho, _⟩ := ht
      obtain ⟨h1, h2, its, rv, o', h3, h4, n, h5⟩ := ok a _ ho
      exact .tup h3 h4 h5 (by rw [List.toList_toArray]; exact nested_all ks rs ok rv)
theorem nested_all : ∀ (ks : List NestedKey) {vs : List V} {us : List Value}, RepsA K H S (kD.kDs ks) vs → HOk P w H h → Vals vs us → NestedAll h ks us
  | [], _, _, r, ok, ru => by cases r; cases ru; exact .nil
  | k :: ks, _, _, r, ok, ru => by
    cases r with
    | cons r1 r2 =>
      cases ru with
      | cons u1 u2 => exact .cons (nested_of k r1 ok u1) (nested_all ks r2 ok u2)
end
def KeyAt (K : PySem.W.Frag) (H : Hp) (k : NestedKey) (b : Addr) : Prop := RepA K H yes (kD k) (.ref b) ∧ k.depth ≤ 8
theorem KeyAt.is (P : Program) (w : World) {k : NestedKey} {b : Addr} (h' : KeyAt K H k b) (ok : HOk P w H h) : (nestedKind P w).is h k b := ⟨nested_of k h'.1 ok rfl, h'.2⟩
theorem KeyAt.ext {U : ASet} {k : NestedKey} {b : Addr} (h : KeyAt K H k b) (g : GrP U H H') : KeyAt K H' k b := ⟨h.1.extY g, h.2⟩
abbrev Ents := List (NestedKey × Addr × V)
abbrev EV : Ents → List (NestedKey × Addr × Value) → Prop := Paired fun p q => p.1 = q.1 ∧ p.2.1 = q.2.1 ∧ RelV p.2.2 q.2.2
def atE (es : Ents) (k : NestedKey) : Option V := (es.find? fun x => decide (x.1 = k)).map (·.2.2)
theorem EV.val {es : Ents} {xs : List (NestedKey × Addr × Value)} (r : EV es xs) (k : NestedKey) : RelO (atE es k) ((atKey xs k).map (·.2)) := by
  unfold EV at r
  induction r with
  | nil => exact trivial
  | @cons p q ps qs hh t ih =>
    obtain ⟨h1, h2, h3⟩ := hh
    unfold atE atKey at ih ⊢
    rw [List.find?_cons, List.find?_cons, ← h1]
    by_cases e : p.1 = k
    · simp only [e, decide_true, Option.map_some]
      exact h3
    · simp only [e, decide_false]
      exact ih
theorem EV.some {es : Ents} {xs : List (NestedKey × Addr × Value)} (r : EV es xs) (k : NestedKey) : (atE es k).isSome = (atKey xs k).isSome := by
  have := (EV.val r k).isSome_eq
  rwa [Option.isSome_map] at this
theorem EV.snoc {es : Ents} {xs : List (NestedKey × Addr × Value)} (r : EV es xs) (k : NestedKey) (a : Addr) {v : V} {u : Value} (ru : RelV v u) : EV (es ++ [(k, a, v)]) (xs ++ [(k, a, u)]) := by
  unfold EV at r ⊢
  induction r with
  | nil => exact .cons ⟨rfl, rfl, ru⟩ .nil
  | cons hh t ih => exact .cons hh ih
def valN {κ : Type} [DecidableEq κ] (kvs : List (κ × D)) (k : κ) : Option D := (kvs.find? fun x => decide (x.1 = k)).map (·.2)
def putN {κ : Type} [DecidableEq κ] (kvs : List (κ × D)) (k : κ) (d : D) : List (κ × D) := if (valN kvs k).isSome then kvs.map (fun x => if x.1 = k then (x.1, d) else x) else kvs ++ [(k, d)]
end
section
variable {X : Cx} {P : Program} {w : World} {K : PySem.W.Frag} {W : Wrl} {Wo : WX} {m m1 m2 m3 mr : Md} {a b c e o ke : Expr} {pos pos' spos : Pos} {qa qb qc qo qk : QT (WS P w K W)}
def kInN (neg : Bool) (st : Sto) (x y : D) (R : D → Prop) : Prop := ∃ d kvs ks, y = .adr d ∧ st d = some (.mn kvs) ∧ x = kD (.tup ks) ∧ (NestedKey.tup ks).depth ≤ 8 ∧ R (.bl (if neg then !(valN kvs (.tup ks)).isSome else (valN kvs (.tup ks)).isSome))
def qInN (neg : Bool) (qa qb : QT (WS P w K W)) : QT (WS P w K W) := fun ω ρ Q E => qa ω ρ (fun ω1 x => qb ω1 ρ (fun ω2 y => kInN neg ω2.2 x y (Q ω2)) E) E
def kGetN (st : Sto) (x y : D) (R : D → Prop) : Prop := ∃ d kvs ks z, x = .adr d ∧ st d = some (.mn kvs) ∧ y = kD (.tup ks) ∧ (NestedKey.tup ks).depth ≤ 8 ∧ valN kvs (.tup ks) = some z ∧ R z
def qGetN (qa qb : QT (WS P w K W)) : QT (WS P w K W) := fun ω ρ Q E => qa ω ρ (fun ω1 x => qb ω1 ρ (fun ω2 y => kGetN ω2.2 x y (Q ω2)) E) E
def kSetN (P' : PEn (WS P w K W)) (ρ : List Sl) (d : D) (l : Addr) (ω3 : W.Ω × Sto) (y : D) : Prop := ∃ kvs ks, ω3.2 l = some (.mn kvs) ∧ y = kD (.tup ks) ∧ (NestedKey.tup ks).depth ≤ 8 ∧ d.pure = true ∧ kvs.length < 1000000 ∧ P'.nx (ω3.1, ω3.2.put l (.mn (putN kvs (.tup ks) d))) ρ
def sSetN (qo qk qa : QT (WS P w K W)) : QTS (WS P w K W) := fun P' ω ρ => qa ω ρ (fun ω1 d => qo ω1 ρ (fun ω2 x => ∃ l, x = .adr l ∧ qk ω2 ρ (fun ω3 y => kSetN P' ρ d l ω3 y) fun ω' y => P'.ex ω' y ρ) fun ω' y => P'.ex ω' y ρ) fun ω' y => P'.ex ω' y ρ
def kDisp1 (Q : W.Ω × Sto → D → Prop) (p : Addr) (x : D) (ω2 : W.Ω × Sto) (y : D) : Prop := ∃ ks, x = kD (.tup ks) ∧ (NestedKey.tup ks).depth ≤ 8 ∧ y.pure = true ∧ ω2.2 p = some (.mn []) ∧ Q (ω2.1, ω2.2.put p (.mn [(.tup ks, y)])) (.adr p)
def qDispN (qk qv : QT (WS P w K W)) : QT (WS P w K W) := fun ω ρ Q E => ∀ p, ω.2 p = none → qk (ω.1, ω.2.put p (.mn [])) ρ (fun ω1 x => qv ω1 ρ (fun ω2 y => kDisp1 Q p x ω2 y) E) E
end
section
variable {P : Program} {w : World} {K : PySem.W.Frag} {W : Wrl} {q qa qb qc qo qk : QT (WS P w K W)} {ω : W.Ω × Sto} {ρ : List Sl} {Q : W.Ω × Sto → D → Prop} {E : W.Ω × Sto → Exn → Prop} {P' : PEn (WS P w K W)} {d x y : D} {l : Addr} {R : D → Prop} {st : Sto} {neg : Bool} {kvs : List (NestedKey × D)} {ks : List NestedKey}
theorem v_inN (h : qa ω ρ (fun ω1 x => qb ω1 ρ (fun ω2 y => kInN neg ω2.2 x y (Q ω2)) E) E) : qInN neg qa qb ω ρ Q E := h
theorem v_getN (h : qa ω ρ (fun ω1 x => qb ω1 ρ (fun ω2 y => kGetN ω2.2 x y (Q ω2)) E) E) : qGetN qa qb ω ρ Q E := h
theorem v_setN (h : qa ω ρ (fun ω1 d => qo ω1 ρ (fun ω2 x => ∃ l, x = .adr l ∧ qk ω2 ρ (fun ω3 y => kSetN P' ρ d l ω3 y) fun ω' y => P'.ex ω' y ρ) fun ω' y => P'.ex ω' y ρ) fun ω' y => P'.ex ω' y ρ) : sSetN qo qk qa P' ω ρ := h
theorem v_exa {R : Addr → Prop} (h : R l) : ∃ l', D.adr l = .adr l' ∧ R l' := ⟨l, rfl, h⟩
theorem v_dispN {qv : QT (WS P w K W)} (h : ∀ p, ω.2 p = none → qk (ω.1, ω.2.put p (.mn [])) ρ (fun ω1 x => qv ω1 ρ (fun ω2 y => kDisp1 Q p x ω2 y) E) E) : qDispN qk qv ω ρ Q E := h
end
end LW
namespace LW
open PySem PySem.Spec PyProof.Rows L2
section
variable {P : Program} {w : World} {K : PySem.W.Frag} {W : Wrl} {ω : W.Ω × Sto} {ds : List D} {Q : W.Ω × Sto → D → Prop} {E : W.Ω × Sto → Exn → Prop}
theorem v_wL {pf : PSp W} (h : pf ω.1 ds (fun ω' d => Q (ω', ω.2) d) fun ω' x => E (ω', ω.2) x) : inL P w K pf ω ds Q E := h
theorem v_wR {pf : PSp (WS P w K W0)} (h : pf ((), ω.2) ds (fun ω' d => Q (ω.1, ω'.2) d) fun ω' x => E (ω.1, ω'.2) x) : inR P w K W pf ω ds Q E := h
end
end LW
namespace LW
open PySem PySem.Spec PyProof.Rows L2
def IterB : Bool → Heap → Addr → Addr → Nat → Prop
  | true, h, it, a, i => h.IsTupleIter it a i
  | false, h, it, a, i => h.IsListIter it a i
def SeqB : Bool → Heap → Addr → Array Value → Prop
  | true, h, a, its => h.IsTuple a its
  | false, h, a, its => h.IsList a its
theorem IterB.ob {b : Bool} {h : Heap} {it a : Addr} {i : Nat} (x : IterB b h it a i) : ∃ o vs, h.get? it = some o ∧ o.data = .fields vs := by
  cases b with
  | true => obtain ⟨o, ho, _, hd⟩ := (x : h.IsTupleIter it a i); exact ⟨o, _, ho, hd⟩
  | false => obtain ⟨o, ho, _, hd⟩ := (x : h.IsListIter it a i); exact ⟨o, _, ho, hd⟩
theorem IterB.at {b : Bool} {h h' : Heap} {it a : Addr} {i : Nat} (x : IterB b h it a i) (k : ∀ o, h.get? it = some o → h'.get? it = some o) : IterB b h' it a i := by
  cases b with
  | true => obtain ⟨o, ho, r⟩ := (x : h.IsTupleIter it a i); exact ⟨o, k o ho, r⟩
  | false => obtain ⟨o, ho, r⟩ := (x : h.IsListIter it a i); exact ⟨o, k o ho, r⟩
theorem SeqB.ob {b : Bool} {h : Heap} {a : Addr} {its : Array Value} (x : SeqB b h a its) : ∃ o n, h.get? a = some o ∧ o.data = .seq its n := by
  cases b with
  | true => obtain ⟨o, ho, _, n, hd⟩ := (x : h.IsTuple a its); exact ⟨o, n, ho, hd⟩
  | false => obtain ⟨o, ho, _, n, hd⟩ := (x : h.IsList a its); exact ⟨o, n, ho, hd⟩
theorem SeqB.at {b : Bool} {h h' : Heap} {a : Addr} {its : Array Value} (x : SeqB b h a its) (k : ∀ o, h.get? a = some o → h'.get? a = some o) : SeqB b h' a its := by
  cases b with
  | true => obtain ⟨o, ho, r⟩ := (x : h.IsTuple a its); exact ⟨o, k o ho, r⟩
  | false => obtain ⟨o, ho, r⟩ := (x : h.IsList a its); exact ⟨o, k o ho, r⟩
section
variable {X : Cx} {pins : List (Addr × Obj)} {σ : L2.St} {H : Hp} {s : Shared} {a : Addr} {xs ys : List V} {b : Bool}
end
def enumD : Int → List D → List D
  | _, [] => []
  | k, d :: r => .tup [.int k, d] :: enumD (k + 1) r
section
variable {X : Cx} {W : Wrl} {Wo : WX} {m : Md} {a : Expr} {qa : QT W} {p pos tpos : Pos} {elts : List Expr} {kk : Nat}
def iEnumQ (k0 : Int) (qa : QT W) : QTI W := fun ω ρ Q E => qa ω ρ (fun ω1 d => ∃ ds, (d = .lst ds ∨ d = .tup ds) ∧ Q ω1 (enumD k0 ds)) E
theorem v_iEnumQ {k0 : Int} {ω : W.Ω} {ρ : List Sl} {QL : W.Ω → List D → Prop} {E : W.Ω → Exn → Prop} (h : qa ω ρ (fun ω1 d => ∃ ds, (d = .lst ds ∨ d = .tup ds) ∧ QL ω1 (enumD k0 ds)) E) : iEnumQ k0 qa ω ρ QL E := h
end
section
variable {X : Cx} {W : Wrl} {Wo : WX} {m : Md} {a : Expr} {qa : QT W} {pos : Pos} {C : Addr} {mc : Value} {f : Str} {i : Int}
def qCvI (C : Addr) (i : Int) (qa : QT W) : QT W := fun ω ρ Q E => qa ω ρ (fun ω1 d => kAdr C d (Q ω1 (.int i))) E
theorem v_cvI {ω : W.Ω} {ρ : List Sl} {Q : W.Ω → D → Prop} {E : W.Ω → Exn → Prop} (h : qa ω ρ (fun ω1 d => kAdr C d (Q ω1 (.int i))) E) : qCvI C i qa ω ρ Q E := h
end
section
variable {X : Cx} {W : Wrl} {Wo : WX} {mr : Md} {k : Nat} {f : Addr} {fd : FuncData} {ps : List Str} {fx : Str} {pf : PSp W} {p pos : Pos}
end
end LW
namespace LW
open PySem PySem.Spec PyProof.Rows L2
section
variable {X : Cx} {pins : List (Addr × Obj)} {σ : L2.St} {H : Hp} {s : Shared} {C g a dx p : Addr} {fs : List (Str × V)} {xs : List V} {f : Str} {k : Nat}
end
section
variable {X : Cx} {W : Wrl} {Wo : WX} {m : Md} {a tg : Expr} {qa : QT W} {C g : Addr} {f : Str} {k : Nat}
def kOwn (C : Addr) (f : Str) (d : D) (R : List D → Prop) : Prop := ∃ ns ds xs, d = .ins C ns ds ∧ (ns.zip ds).lookup f = some (.tup xs) ∧ R xs
def iOwnQ (C : Addr) (f : Str) (qa : QT W) : QTI W := fun ω ρ Q E => qa ω ρ (fun ω1 d => kOwn C f d fun xs => Q ω1 xs) E
theorem v_iOwn {ω : W.Ω} {ρ : List Sl} {QL : W.Ω → List D → Prop} {E : W.Ω → Exn → Prop} (h : qa ω ρ (fun ω1 d => kOwn C f d fun xs => QL ω1 xs) E) : iOwnQ C f qa ω ρ QL E := h
theorem v_kOwn {ns : List Str} {ds xs : List D} {R : List D → Prop} (h1 : (ns.zip ds).lookup f = some (.tup xs)) (h : R xs) : kOwn C f (.ins C ns ds) R := ⟨ns, ds, xs, rfl, h1, h⟩
end
section
variable {X : Cx} {pins : List (Addr × Obj)} {σ : L2.St} {C g gl a dx p q : Addr} {fs : List (Str × V)} {xs : List V} {f : Str} {k kl : Nat}
end
section
variable {K : PySem.W.Frag} {W : Wrl} {F : Frm} {T : ASet} {ω : W.Ω} {ρ : List Sl} {σ : L2.St} {H : Hp} {q : Addr} {o : HO}
end
section
variable {X : Cx} {W : Wrl} {Wo : WX} {m : Md} {e : Expr} {es : List Expr} {qs : QTA W} {C g gl : Addr} {f : Str} {k : Nat} {pf : PSp W} {p pos : Pos}
def kListO (C : Addr) (f : Str) (ds : List D) (R : List D → Prop) : Prop := ∃ ns es xs, ds = [.ins C ns es] ∧ (ns.zip es).lookup f = some (.tup xs) ∧ xs.length ≤ 1000000 ∧ R xs
def kN6 (d : D) (R : Prop) : Prop := ∃ n : Int, d = .int n ∧ 0 ≤ n ∧ n ≤ 1000000 ∧ R
def qListO (C : Addr) (f : Str) (pf : PSp W) (qs : QTA W) : QT W := fun ω ρ Q E => qs ω ρ (fun ω1 ds => kListO C f ds fun xs => pf ω1 ds (fun ω' d => kN6 d (Q ω' (.lst xs))) (fun _ _ => False)) E
end
theorem passNox {X : Cx} : Passes (L2N.CX X.prog X.w) X.nox (fun _ _ _ => False) := fun _ _ _ _ _ _ _ c => by
  obtain ⟨_, _, _, _, _, _, _, _, _, _, _, z⟩ := c
  exact z.2.elim
theorem prpB_ok {K : PySem.W.Frag} {x m : Str} (h : prpB K x m = true) : PropOf K (He.ga K x) m (He.ma K (He.ga K x) m) (recAd "property" K x m) := by
  obtain ⟨h1, h⟩ := and2 h
  obtain ⟨h2, h⟩ := and2 h
  obtain ⟨h3, h4⟩ := and2 h
  exact ⟨of_decide_eq_true h1, of_decide_eq_true h2, of_decide_eq_true h3, recB_ok h4⟩
section
variable {X : Cx} {W : Wrl} {Wo : WX} {m : Md} {a : Expr} {qa : QT W} {C p g : Addr} {f : Str} {k : Nat} {pf : PSp W} {fd : FuncData} {ps : List Str} {pos : Pos}
def qProp (C : Addr) (pf : PSp W) (qa : QT W) : QT W := fun ω ρ Q E => qa ω ρ (fun ω1 d => kObj C d (pf ω1 [d] Q (fun _ _ => False))) E
theorem v_prop {ω : W.Ω} {ρ : List Sl} {Q : W.Ω → D → Prop} {E : W.Ω → Exn → Prop} (h : qa ω ρ (fun ω1 d => kObj C d (pf ω1 [d] Q (fun _ _ => False))) E) : qProp C pf qa ω ρ Q E := h
theorem v_listO {qs : QTA W} {ω : W.Ω} {ρ : List Sl} {Q : W.Ω → D → Prop} {E : W.Ω → Exn → Prop} (h : qs ω ρ (fun ω1 ds => kListO C f ds fun xs => pf ω1 ds (fun ω' d => kN6 d (Q ω' (.lst xs))) (fun _ _ => False)) E) : qListO C f pf qs ω ρ Q E := h
end
theorem v_kListO {C : Addr} {f : Str} {ns : List Str} {es xs : List D} {R : List D → Prop} (h1 : (ns.zip es).lookup f = some (.tup xs)) (h2 : xs.length ≤ 1000000) (h : R xs) : kListO C f [.ins C ns es] R := ⟨ns, es, xs, rfl, h1, h2, h⟩
theorem v_kN6 {i : Int} {R : Prop} (h0 : 0 ≤ i) (h1 : i ≤ 1000000) (h : R) : kN6 (.int i) R := ⟨i, rfl, h0, h1, h⟩
theorem qe_FA {X : Cx} {W : Wrl} {Wo : WX} {e : Expr} {q : QT W} (h : QE X .F W Wo e q) : QE X .A W Wo e q := PE.imp h fun σ H Q ⟨F, T, ω, ρ, Qp, Ep, R, q, hx, k⟩ =>
  ⟨F, T, ω, ρ, Qp, Ep, R, q, hx, fun T' ω' d v H' R' e r q' => k T' ω' d v H' R' e (RR.a (m := .F) rfl r) q'⟩
theorem v_puB {b : Bool} {R : Prop} (h : R) : (D.bl b).pure = true ∧ R := ⟨rfl, h⟩
theorem v_puI {b : Int} {R : Prop} (h : R) : (D.int b).pure = true ∧ R := ⟨rfl, h⟩
theorem v_puS {b : Str} {R : Prop} (h : R) : (D.str b).pure = true ∧ R := ⟨rfl, h⟩
theorem v_puN {R : Prop} (h : R) : D.non.pure = true ∧ R := ⟨rfl, h⟩
end LW
namespace LW
open PySem PySem.Spec PyProof.Rows L2
abbrev envS (qual : Str) (scope : Scope) (L f : Addr) (cd : Value) (cc : Addr) : Env := PySem.W.ksEnv qual scope L f cd cc
structure SupD (K : PySem.W.Frag) (F0 : Str) (x qual : Str) (params : Arguments) (body : List Stmt) (scope : Scope) (f D cda cc : Addr) (fd : FuncData) : Prop where
  ex : ∃ (oc : Value) (od : Option Addr) (dV kV doc pm : Value) (an : Option Addr) (ct : Value) (osl : Array (Option Value)),
    fd = PySem.W.ksFn x qual params body scope dV kV doc pm an (.ref cda) ct cc ∧ K.lookup f = some ⟨oc, od, .func fd, osl⟩ ∧ dV = .none
  code : PySem.W.codeIn K (.ref cda) qual = true
  file : ∃ (ccl : Value) (cdd : Option Addr) (vs : Array Value) (ccs : Array (Option Value)) (tf : Tok), K.lookup cda = some ⟨ccl, cdd, .fields vs, ccs⟩ ∧ vs[2]? = some (.str F0 tf)
  cell : ∃ (cl : Value) (cld : Option Addr) (csl : Array (Option Value)), K.lookup cc = some ⟨cl, cld, .cell (some (.ref D)), csl⟩
  clsD : ∃ cd, PySem.W.clsIn K D = some cd
  kp : PySem.W.keepIn K (.ref f) = true
class PG (P : Program) : Prop where
  file : (P.main.file : Str) = "/claim/cut.py"
  sup : (P.main.scope.names.lookup ("super" : Str)).isSome = false
structure SScope (N P : List Str) (sc : Scope) : Prop where
  kind : sc.kind = .function
  co : sc.isCoroutine = false
  gen : sc.isGenerator = false
  nd : N.Nodup
  pre : N.take P.length = P
  par : ∀ x ∈ P, sc.names.lookup x = some .local
  nocell : ∀ y ∈ sc.names, y.2 ≠ .cell
  free : ∀ y, sc.names.lookup y = some .free → y = "__class__"
  cls : sc.names.lookup ("__class__" : Str) = some .free
  sup : sc.names.lookup ("super" : Str) = some .globalImplicit
theorem SScope.free_of {sc : Scope} (h : (sc.names.all fun p => (match p.2 with | .free => false | _ => true) || decide (p.1 = "__class__")) = true) : ∀ y, sc.names.lookup y = some .free → y = "__class__" := fun y hy => by
  have := List.all_eq_true.mp h _ (PySem.mem_of_lookup hy)
  simpa using this
def cxS (CX : CXT) (P : Program) (w : World) (K : PySem.W.Frag) (mg : Str → Option Value) (base : Heap) (N : List Str) (qual : Str) (scope : Scope) (f : Addr) (cda cc : Addr) (A : Around) (outer : List Env) (s : Shared) (H : Hp) (E : XK) : Cx :=
  { prog := P, w := w, K := K, mg := mg, base := base, A := A.deeper (envS qual scope s.heap.objs.size f (.ref cda) cc), N := N, s_0 := s, H_0 := H, env := envS qual scope s.heap.objs.size f (.ref cda) cc, outer := outer, stack := envS qual scope s.heap.objs.size f (.ref cda) cc :: outer,
    ex := [], fn := fun x => decide (x ≠ "__class__"), calm := true, pn := [],
    xe := fun e s' => wpAny (model P w) (A.deeper (envS qual scope s.heap.objs.size f (.ref cda) cc)) (leaving (envS qual scope s.heap.objs.size f (.ref cda) cc) e) (fun _ s'' => CX outer H s E e s'') (fun e' s'' => CX outer H s E e' s'') s' }
structure PSsAt (X : Cx) (full body : List Stmt) (t : TS) : Prop where
  run : ∀ (pins : List (Addr × Obj)) (s : Shared) (σ : L2.St) (H : Hp) (D : Ends), Inv X pins σ H s → t D σ H → PySem.wpAt (model X.prog X.w) X.A (.func full X.env) (execs body X.env) (SP X pins D) X.xe s
theorem zip_lookup {ps : List Str} {us : List Value} {i : Nat} {y : Str} {u : Value} (nd : ps.Nodup) (h1 : ps[i]? = some y) (h2 : us[i]? = some u) : (ps.zip us).reverse.lookup y = some u := by
  have key : ∀ (l : List (Str × Value)), (l.map (·.1)).Nodup → (y, u) ∈ l → l.lookup y = some u := fun l => by
    induction l with
    | nil => intro _ h; cases h
    | cons p l ih =>
      intro n h
      obtain ⟨a, b⟩ := p
      rw [List.lookup_cons]
      rcases List.mem_cons.mp h with z | z
      · cases z
        simp
      · have n' := List.nodup_cons.mp n
        have ne : (y == a) = false := by
          refine beq_eq_false_iff_ne.mpr fun e => n'.1 ?_
          subst e
          exact List.mem_map.mpr ⟨_, z, rfl⟩
        rw [ne]
        exact ih n'.2 z
  refine key _ ?_ ?_
  · rw [List.map_reverse]
    refine List.pairwise_reverse.mpr ?_
    suffices h : ((ps.zip us).map (·.1)).Nodup from List.Pairwise.imp (fun h => Ne.symm h) h
    have : ((ps.zip us).map (·.1)).Sublist ps := by
      clear h1 h2 key
      induction ps generalizing us with
      | nil => simp
      | cons a ps ih =>
        cases us with
        | nil => simp
        | cons b us => exact (ih (List.nodup_cons.mp nd).2).cons₂ a
    exact nd.sublist this
  · rw [List.mem_reverse]
    have e : (ps.zip us)[i]? = some (y, u) := by
      rw [List.getElem?_zip_eq_some]
      exact ⟨h1, h2⟩
    exact List.mem_of_getElem? e
section
variable {CX : CXT} {P : Program} {w : World} {K : PySem.W.Frag} {mg : Str → Option Value} {base : Heap} {N ps : List Str} {x qual : Str} {params : Arguments} {body : List Stmt} {scope : Scope} {f D cda cc : Addr} {fd : FuncData} {F0 : Str} {k : Nat} {sp : Sp}
theorem inv_startS {A : Around} {outer : List Env} {s : Shared} {h1 : Heap} {H : Hp} {E : XK} {us : List Value} {vs : List V} {tk : Nat} (F : SupD K F0 x qual params body scope f D cda cc fd)
    (S : SScope N ps scope) (hd : A.handled = none) (e0 : Env0 P w K mg base A outer s H) (hl : vs.length = ps.length) (r : Vals vs us)
    (hns : h1.Ns s.heap.objs.size (fun y => (ps.zip us).reverse.lookup y)) (hk : ∀ b o, s.heap.get? b = some o → h1.get? b = some o) :
    Inv (cxS CX P w K mg base N qual scope f cda cc A outer s H E) [] (start N vs) H { s with heap := h1, toks := tk } := by
  have hpl : ps.length ≤ N.length := by have := congrArg List.length S.pre; rw [List.length_take] at this; omega
  have noA : ∀ b : Addr, b ∉ (cxS CX P w K mg base N qual scope f cda cc A outer s H E).ex := fun b z => absurd (show b ∈ ([] : List Addr) from z) (by simp)
  obtain ⟨cl, cld, csl, hcc⟩ := F.cell
  have hcb : base.get? cc = some ⟨cl, cld, .cell (some (.ref D)), csl⟩ := e0.mod.kin _ _ hcc
  have onlyC : ∀ y c, (cxS CX P w K mg base N qual scope f cda cc A outer s H E).env.cells.lookup y = some c → y = "__class__" ∧ c = cc := fun y c h => by
    have h' : ([("__class__", cc)] : List (Str × Addr)).lookup y = some c := h
    rw [List.lookup_cons] at h'
    split at h'
    · rename_i e
      exact ⟨eq_of_beq e, (Option.some.inj h').symm⟩
    · cases h'
  refine ⟨⟨e0.mod, S.kind, rfl, rfl, Nat.le_refl _, fun y z c h1 h2 => ?_, fun y hy => ?_, fun y c hf h => ?_, fun _ => hd, Around.frames_deeper e0.frames, .inr ⟨rfl, rfl⟩, fun b z => absurd z (noA b), e0.bs, e0.bsz, fun b _ _ => noA b, fun b z => absurd z (noA b), e0.funs, e0.frf⟩,
    rfl, e0.bare, Un.kept hk, ⟨_, hns, fun i y v h1 h2 h3 => ?_⟩, fun y c h => ?_, e0.hok.fresh (Nat.le_refl _), fun y c h => ?_, fun p hp => absurd (show p ∈ ([] : List (Addr × Obj)) from hp) (by simp), e0.hok.kept hk, ?_⟩
  · rw [(onlyC y c h1).1, (onlyC z c h2).1]
  · have hy : scope.names.lookup y = some .cell ∨ scope.names.lookup y = some .free := hy
    rcases hy with hy | hy
    · exact absurd rfl (S.nocell _ (PySem.mem_of_lookup hy))
    · rw [S.free y hy]
      exact ⟨cc, rfl⟩
  · have e := (onlyC y c h).1
    subst e
    exact absurd (show decide (("__class__" : Str) ≠ "__class__") = true from hf) (by decide)
  · have hi : i < vs.length := by
      unfold L2.start at h2
      by_cases hi : i < vs.length
      · exact hi
      · rw [List.getElem?_append_right (by simpa using hi)] at h2
        rw [List.getElem?_replicate] at h2
        split at h2 <;> cases h2
    have ha : vs[i]? = some v := by
      unfold L2.start at h2
      rw [List.getElem?_append_left (by simpa using hi), List.getElem?_map] at h2
      cases e : vs[i]? with
      | none => rw [e] at h2; cases h2
      | some a => rw [e] at h2; cases h2; rfl
    obtain ⟨u, hu, rv⟩ := r.get ha
    have hp : ps[i]? = some y := by
      rw [← S.pre, List.getElem?_take_of_lt (by omega)]; exact h1
    have ndP : ps.Nodup := by rw [← S.pre]; exact S.nd.sublist (List.take_sublist _ _)
    exact ⟨u, rv, .inl ⟨S.par y (List.mem_of_getElem? hp), zip_lookup ndP hp hu⟩⟩
  · rw [(onlyC y c h).2]
    exact ⟨_, _, hk _ _ (e0.bs _ _ hcb).1, rfl⟩
  · rw [(onlyC y c h).2]
    exact (e0.bs _ _ hcb).2
  · unfold L2.start
    show _ = N.length
    rw [List.length_append, List.length_map, List.length_replicate]
    omega
theorem fn_ofS (F : SupD K F0 x qual params body scope f D cda cc fd) (S : SScope N ps scope) (len : ∀ vs H Q E, sp vs H Q E → vs.length = ps.length)
    (hbody : ∀ (A : Around) (outer : List Env) (s : Shared) (H : Hp) (vs : List V) (Q : VK) (E : XK), Room k (A.deeper (envS qual scope s.heap.objs.size f (.ref cda) cc)) → sp vs H Q E →
      ∃ t, PSsAt (cxS CX P w K mg base N qual scope f cda cc A outer s H E) body body t ∧ t { nx := fun _ H' => Q .non H', rt := Q } (start N vs) H) : FnOk P w K mg base CX (k + 1) f fd ps sp := by
  obtain ⟨oc, od, dV, kV, doc, pm, an, ct, osl, rfl, lk, edV⟩ := F.ex
  refine ⟨len, fun A outer s H args us vs Q E hr e0 hb r hsp => ?_⟩
  have hl := len _ _ _ _ hsp
  have KX : K.In s.heap := e0.mod.kin.keeps fun b o e => (e0.bs b o e).1
  have lim : s.heap.NoLimit := e0.mod.nolimit.keeps fun b o e => (e0.bs b o e).1
  refine PySem.ks_codeAny_call_defAt hr.depth (KX _ _ lk) rfl lim (PySem.W.codeRec_of KX F.code) rfl hb S.nocell (fun y hy => S.par _ (List.of_mem_zip hy).1) (fun h₀ hns hk => ?_) S.co S.gen S.kind
  obtain ⟨t, ht, hq⟩ := hbody A outer s H vs Q E (hr.deeper _) hsp
  have I : Inv (cxS CX P w K mg base N qual scope f cda cc A outer s H E) [] (start N vs) H _ := inv_startS (tk := s.toks + (ps.zip us).length) F S hr.hd e0 hl r hns hk
  refine PySem.ks_wpAt_mono (ht.run [] _ (start N vs) H _ I hq) (fun fl s' hs => ?_) fun e s' hs => hs
  have fin : ∀ {σ' : L2.St} {H' : Hp} {v : V} {u : Value}, Inv (cxS CX P w K mg base N qual scope f cda cc A outer s H E) [] σ' H' s' → RelV v u → Q v H' → CE outer P w H s Q u s' :=
    fun {σ' H' v u} J rv q => ⟨v, H', J.os, J.bare, J.base, J.hok, rv, q⟩
  cases fl with
  | ret u =>
    obtain ⟨v, σ', H', J, rv, q⟩ := hs
    exact fin J rv q
  | next =>
    obtain ⟨σ', H', J, q⟩ := hs
    exact fin (v := V.non) (u := Value.none) J rfl q
  | brk =>
    obtain ⟨_, _, _, q⟩ := hs
    exact False.elim q
  | cont =>
    obtain ⟨_, _, _, q⟩ := hs
    exact False.elim q
end
structure SupE (X : Cx) (f D : Addr) : Prop where
  kind : X.env.scope.kind = .function
  ks : X.env.kindOf ("super" : Str) = some .globalImplicit
  kc : X.env.kindOf ("__class__" : Str) = some .free
  ka : X.env.kindOf ("self" : Str) = some .local
  fu : X.env.func = some f
  look : ∃ (oc : Value) (od : Option Addr) (fd : FuncData) (osl : Array (Option Value)) (ar : Arg), X.K.lookup f = some ⟨oc, od, .func fd, osl⟩ ∧ (fd.params.posonlyargs ++ fd.params.args).head? = some ar ∧ ar.arg = ("self" : Str)
  code : ∃ (cda : Addr) (ccl : Value) (cdd : Option Addr) (vs : Array Value) (ccs : Array (Option Value)) (file : Str) (tf : Tok), X.env.code = .ref cda ∧ X.K.lookup cda = some ⟨ccl, cdd, .fields vs, ccs⟩ ∧ vs[2]? = some (.str file tf) ∧ ((X.prog.main.file : Str) == file) = true
  cell : ∃ (cc : Addr) (cl : Value) (cld : Option Addr) (csl : Array (Option Value)), X.env.cells.lookup ("__class__" : Str) = some cc ∧ X.K.lookup cc = some ⟨cl, cld, .cell (some (.ref D)), csl⟩
  top : (X.prog.main.scope.names.lookup ("super" : Str)).isSome = false
  mgs : X.mg "super" = none
  clsD : ∃ cd, PySem.W.clsIn X.K D = some cd
  glo : X.env.globals = mainGlobals
  blt : X.env.builtins = builtinsNs
theorem supE_of {CX : CXT} {P : Program} {w : World} {K : PySem.W.Frag} {mg : Str → Option Value} {base : Heap} {N ps : List Str} {x qual : Str} {params : Arguments} {body : List Stmt} {scope : Scope} {f D cda cc : Addr} {fd : FuncData} {A : Around} {outer : List Env} {s : Shared} {H : Hp} {E : XK} {ar : Arg} [pg : PG P]
    (F : SupD K "/claim/cut.py" x qual params body scope f D cda cc fd) (S : SScope N ps scope) (hm : mg "super" = none) (hps : ps.head? = some "self") (har : (params.posonlyargs ++ params.args).head? = some ar) (har2 : ar.arg = "self") : SupE (cxS CX P w K mg base N qual scope f cda cc A outer s H E) f D := by
  obtain ⟨oc, od, dV, kV, doc, pm, an, ct, osl, rfl, lk, edV⟩ := F.ex
  obtain ⟨ccl, cdd, vs, ccs, tf, h1, h2⟩ := F.file
  obtain ⟨cl, cld, csl, h3⟩ := F.cell
  refine ⟨S.kind, S.sup, S.cls, S.par _ ?_, rfl, ⟨oc, od, _, osl, ar, lk, har, har2⟩, ⟨cda, ccl, cdd, vs, ccs, "/claim/cut.py", tf, rfl, h1, h2, ?_⟩, ⟨cc, cl, cld, csl, rfl, h3⟩, pg.sup, hm, F.clsD, rfl, rfl⟩
  · cases ps with
    | nil => cases hps
    | cons p r => cases hps; exact List.mem_cons_self
  · rw [show (cxS CX P w K mg base N qual scope f cda cc A outer s H E).prog = P from rfl, pg.file]; exact beq_self_eq_true _
section
variable {X : Cx} {pins : List (Addr × Obj)} {σ : L2.St} {H : Hp} {s : Shared} {f D a C : Addr} {full : List Stmt} {p0 p1 : Pos} {attr : Str} {whole : Sem Value}
theorem super_at {E : Value → Shared → Prop} {Q : Value → Shared → Prop} {ox : Obj} {odx : Option Obj} (S : SupE X f D) (I : Inv X pins σ H s) (hat : (attr == ("__class__" : Str)) = false) (h0 : X.N[0]? = some ("self" : Str)) (hσ : σ[0]? = some (some (.ref a))) (J : PySem.W.InstAt s.heap a ox C odx)
    (hsub : PySem.W.mroIn X.K C (.ref D) = some true)
    (h : ∀ so h', h'.get? so = some (PySem.W.ks_superObj D a C) → so = s.heap.objs.size → (∀ y o, s.heap.get? y = some o → h'.get? y = some o) → Inv X pins σ H { s with heap := h' } → Q (.ref so) { s with heap := h' }) :
    PySem.wpAt (model X.prog X.w) X.A (.func full X.env) (attributeBase (.Call (.Name "super" p0) [] [] p1) attr X.env whole) Q E s := by
  obtain ⟨oc, od, fd, osl, ar, lk, har, har2⟩ := S.look
  obtain ⟨cda, ccl, cdd, vs, ccs, file, tf, hcd, lcd, hvs, hfile⟩ := S.code
  obtain ⟨cc, cl, cld, csl, hcc, lcc⟩ := S.cell
  obtain ⟨cdD, hD⟩ := S.clsD
  have KX := I.kIn
  obtain ⟨oD, hD1, hD2⟩ : ∃ oD, s.heap.get? D = some oD ∧ oD.data = .cls cdD := by
    unfold PySem.W.clsIn at hD
    split at hD
    · rename_i c d cd' sl ho
      cases hD
      exact ⟨_, KX _ _ ho, rfl⟩
    · cases hD
  obtain ⟨m, hns, hlo⟩ := I.loc
  obtain ⟨u, ru, hu⟩ := hlo 0 "self" (.ref a) h0 hσ (.inl S.ka)
  cases (show u = Value.ref a from ru)
  have hms : m "self" = some (.ref a) := by
    rcases hu with ⟨_, z⟩ | ⟨z, _⟩
    · exact z
    · rw [S.ka] at z
      rcases z with z | z <;> cases z
  have hG : s.heap.Ns mainGlobals X.mg := I.ok.mod.glob.keeps I.bk
  obtain ⟨mb, hmb, hbt⟩ := I.ok.mod.blt
  have I0 := I
  obtain ⟨hh, g, d, t, os⟩ := s
  refine PySem.ks_wpAt_super_base S.ks S.kc hat S.fu (KX _ _ lk) rfl har hcd (KX _ _ lcd) rfl hvs hfile S.top ?_
  refine PySem.W.ks_loadName_global S.kind S.ks (PySem.Calls.loadGlobal_builtin (mb := mb) (by rw [S.glo]; exact hG) S.mgs (by rw [S.blt]; exact hmb.keeps I.bk) ((hbt _ (by decide)).trans (show bootBuiltins "super" = some (.type "super") from by decide +kernel)) ⟨rfl, ?_⟩)
  refine wpAny_loadName_free S.kind S.kc hcc ⟨_, KX _ _ lcc, rfl⟩ ?_
  rw [har2]
  refine wpAny_loadName_local S.kind S.ka hns hms ?_
  refine PySem.ks_wpAny_isType_cls hD1 hD2 ⟨rfl, ?_⟩
  refine PySem.ks_wpAny_call_super hD1 hD2 J.at_ J.cls (fun c e => ?_) (PySem.W.looks_mroIn KX hsub) (fun h' e k => ?_)
  · have := J.no
    unfold PySem.W.notCls at this
    rw [e] at this
    exact Bool.noConfusion this
  · exact h _ h' e rfl k (I0.kept (t' := t) k)
end
structure SupX (K : PySem.W.Frag) (C D : Addr) : Prop where
  oex : OexC K C
  init : PySem.W.ks_superIn K C D "__init__" = some (some (.builtin "ValueError.__init__"))
  third : PySem.W.nsIn K cStatics "thirdparty.any" = some none
  sub : PySem.W.mroIn K C (.ref D) = some true
  subV : PySem.W.subIn K (.ref C) (.type "ValueError") = some true
def tSupI (a C : Addr) (ta : TA) (t : TS) : TS := fun D σ H => σ[0]? = some (some (.ref a)) ∧ H a = some (exo a C none) ∧ ta σ H fun vs H1 => vs.length ≤ 1000 ∧ H1 a = some (exo a C none) ∧ t D σ H1
section
variable {X : Cx} {f D a C : Addr} {full rest : List Stmt} {p0 p1 p2 p3 p4 : Pos} {e : Expr} {es : List Expr} {ta : TA} {t : TS}
theorem pssA_supI {pl : Sem Bool} (S : SupE X f D) (T : SupX X.K C D) (h0 : X.N[0]? = some ("self" : Str)) (ha : PA X (e :: es) ta) (hr : PSs X rest t)
    (he : eval (.Call (.Attribute (.Call (.Name "super" p0) [] [] p1) "__init__" p2) (e :: es) [] p3) X.env = (do
      let ov ← attributeBase (.Call (.Name "super" p0) [] [] p1) "__init__" X.env (eval (.Call (.Name "super" p0) [] [] p1) X.env)
      standAt p2.atName
      let (f, first) ← holding [ov] (getMethod ov "__init__" pl)
      callWith p3 f first (backTo p3 (starEach (e :: es) X.env)) []) := by rfl)
    (hst : starEach (e :: es) X.env = (false, eval e X.env) :: starEach es X.env := by rfl) (hpl : (backTo p3 (starEach es X.env)).any (·.1) = false := by rfl)
    (hi : interactive X.env = false := by rfl) (hs : swapsWith (.Call (.Attribute (.Call (.Name "super" p0) [] [] p1) "__init__" p2) (e :: es) [] p3) none p4.line X.env = pure false := by rfl) :
    PSsAt X full (.Expr (.Call (.Attribute (.Call (.Name "super" p0) [] [] p1) "__init__" p2) (e :: es) [] p3) p4 :: rest) (tSupI a C ta t) := by
  refine ⟨fun pins s σ H D' I ⟨hσ, hH, hq⟩ => ?_⟩
  refine PySem.ks_wpAt_execs_cons (PySem.ks_wpAt_Expr_any (PySem.ks_wpAt_MethodCall (pl := pl) ?_ he) hi hs)
  obtain ⟨nm, q, N, bs, bm, sn, sub, ab, col, dd, k0, k1, k2, k3, k5, hC, hbm⟩ := T.oex.cls
  have hcl : PySem.W.clsIn X.K C = some { name := nm, bases := bs, mro := .ref C :: bm, ns := N, qualname := q, hasDict := true, slotNames := sn, subclasses := sub, abstract := ab, collection := col, hasDel := false } := by unfold PySem.W.clsIn; rw [hC] <;> rfl
  obtain ⟨t1, ho⟩ := exo_at I.hok hH
  have J : PySem.W.InstAt s.heap a { cls := .ref C, dict := none, data := .fields #[.ref t1, .none, .none, .none, .bool false, .none] } C none := ⟨ho, rfl, rfl, trivial⟩
  refine super_at S I (by decide) h0 hσ J T.sub fun so h' hso eso k I1 => ?_
  have KX := I1.kIn
  have J1 : PySem.W.InstAt h' a { cls := .ref C, dict := none, data := .fields #[.ref t1, .none, .none, .none, .bool false, .none] } C none := ⟨k _ _ ho, rfl, rfl, trivial⟩
  have hI : PySem.W.Looks (model X.prog X.w) h' (isInstance (.ref a) (.type "ValueError")) true := J1.type.andThen (PySem.W.looks_subIn KX T.subV)
  obtain ⟨hh, g, d, tk, os⟩ := s
  have hm := T.init
  unfold PySem.W.ks_superIn at hm
  rw [hcl] at hm
  refine PySem.W.kxs_getMethod PySem.W.kxs_ValueError hso (PySem.W.looks_opaque KX T.third) (l₀ := .ref C :: bm) ?_ rfl KX hm hI (PySem.W.ks_ne KX J1 hcl) (by decide) ?_
  · exact fun A Q E s k q => wpAny_bind ((PySem.W.looks_clsIn KX hcl) A _ E s k (wpAny_pure q))
  have I2 : Inv X pins σ H ⟨h'.push (PySem.W.kxs_mw "ValueError.__init__" a), g, d, tk + 1, os⟩ := I1.kept (t' := tk + 1) fun b o z => Heap.get?_push_of_some _ z
  have hu : (h'.push (PySem.W.kxs_mw "ValueError.__init__" a)).get? h'.objs.size = some (PySem.W.kxs_mw "ValueError.__init__" a) := Heap.get?_push_at rfl rfl
  have I3 : Inv X ((h'.objs.size, PySem.W.kxs_mw "ValueError.__init__" a) :: pins) σ H ⟨h'.push (PySem.W.kxs_mw "ValueError.__init__" a), g, d, tk + 1, os⟩ :=
    (ClX.pin_new (t' := tk) I1 (fun _ _ z => Heap.get?_push_of_some _ z) (Nat.le_refl _) (Heap.get?_push_size h' rfl) (fun v z => by cases (show Data.fields _ = Data.cell v from z))).tok (tk + 1)
  show wpAny _ _ (callWith p3 (.ref h'.objs.size) [] (backTo p3 (starEach (e :: es) X.env)) []) _ _ _
  have hz := ha.run p3 _ _ σ H _ I3 hq
  rw [hst] at hz ⊢
  refine PySem.W.kxs_callWith (i := "ValueError.__init__") (x := a) (by show (false || (backTo p3 (starEach es X.env)).any (·.1)) = false; rw [hpl] <;> rfl) (PySem.Calls.evalArgs_plain (thn hz fun us s1 ⟨vs, H1, I4, r1, hz, ea, q⟩ => ?_))
  have hu4 : s1.heap.get? h'.objs.size = some (PySem.W.kxs_mw "ValueError.__init__" a) := ClX.pin_at I4
  refine ⟨hu4, ?_⟩
  have I5 := ClX.unpin I4
  obtain ⟨t2, ho2⟩ := exo_at I5.hok ea
  have hC2 := I5.kIn _ _ hC
  obtain ⟨hp, g2, d2, tk2, os2⟩ := s1
  have hlen : us.length ≤ sizeLine := by
    rw [← r1.length, sizeLine_eq]
    omega
  have FB := PySem.F.excBase_ValueError
  refine wpAny_call (codeAny_of_tree ?_)
  show wpAny _ X.A.in1 (callAny (.ref h'.objs.size) ⟨us, []⟩) _ _ _
  simp only [callAny]
  refine wpAny_bind (wpAny_load hu4 ?_)
  simp only [PySem.W.kxs_mw, show (Value.type "method-wrapper" == Value.type "method" || Value.type "method-wrapper" == Value.type "builtin_function_or_method" || Value.type "method-wrapper" == Value.type "method-wrapper") = true by decide, if_true]
  refine PySem.W.KFB.if_so (by decide) ?_
  refine wpAny_bind (PySem.W.check_bound_init FB.toExcCallFacts hC2 ho2 rfl ?_)
  refine wpAny_bind (wpAny_pure (wpAny_pure ?_))
  refine ⟨plainId_quiet FB.init.plain _, codeAny_builtin FB.initEntry ?_⟩
  refine PySem.W.exc_init_tree (cls := .ref C) (t0 := t2) (dv := none) (c2 := .none) (c3 := .none) (b4 := .bool false) ho2 hlen fun h2 k2 e2 t3 => ?_
  have J5 := I5.write (t' := tk2) (x := a) (e := a) (o := exo a C none) (by rw [ea]; exact True.intro) (.inl rfl) k2 ⟨_, e2⟩ (exo_ok e2)
  have eu : upd H1 a (exo a C none) = H1 := by
    funext b
    by_cases hb : b = a
    · rw [hb, upd_same, ea]
    · rw [upd_ne hb]
  rw [eu] at J5
  exact wpAt_of_wpAny (hr.run pins _ σ H1 D' J5 q)
end
theorem DefW.supD {K : PySem.W.Frag} {d : DefW} {C : Str} (hs : d.sup = some C) (hd : d.dfl = []) (e : fnWA K d.sup (d.at_ K) = d.val) (c : d.ok K = true) : ∃ fd cda cc, SupD K "/claim/cut.py" d.name d.qual d.params d.body d.scope (d.at_ K) (He.ga K C) cda cc fd := by
  obtain ⟨kp, c2⟩ := Bool.and_eq_true_iff.mp c
  unfold fnWA at e
  rcases q : K.lookup (d.at_ K) with _ | ⟨oc, od, dt, osl⟩
  · rw [q] at c2
    cases c2
  · rw [q] at c2 e
    cases dt with
    | func fd =>
      obtain ⟨n1, n2, n3, n4, n5, n6, n7, n8, n9, n10, n11, n12, n13, n14, n15⟩ := fd
      unfold DefW.val at e
      rw [hs] at e c2
      have e2 := e
      dsimp only at e2
      simp only [Option.some.injEq, Prod.mk.injEq] at e2
      obtain ⟨h1, h2, h3, h4, h5, h6, h7, h8⟩ := e2
      subst h1 h2 h3 h4 h5 h6 h8
      obtain ⟨c3, c4⟩ := Bool.and_eq_true_iff.mp (show ((PySem.W.codeIn K n13 d.qual && He.dflB K n8 (d.dvs K)) && supB K (He.ga K C) ⟨d.name, d.qual, d.params, .stmts d.body, d.scope, mainGlobals, n7, n8, n9, n10, n11, n12, n13, n14, builtinsNs⟩) = true from c2)
      obtain ⟨k1, k3⟩ := Bool.and_eq_true_iff.mp c3
      obtain ⟨c5, c6⟩ := Bool.and_eq_true_iff.mp c4
      have hdv := He.dflB_ok k3
      unfold DefW.dvs at hdv
      rw [hd] at hdv
      obtain ⟨c7, c8⟩ := Bool.and_eq_true_iff.mp c6
      rcases n7 with _ | ⟨⟨nm, cc⟩, _ | ⟨_, _⟩⟩
      · cases h7
      · have hn : nm = "__class__" := by
          simp at h7
          exact h7
        subst hn
        cases n13 with
        | ref cda =>
          refine ⟨_, cda, cc, ⟨oc, od, n8, n9, n10, n11, n12, n14, osl, rfl, q, (by rcases hdv with ⟨_, z⟩ | ⟨z, _⟩; exact z; exact absurd rfl z)⟩, k1, ?_, ?_, Option.isSome_iff_exists.mp c8, kp⟩
          · dsimp only at c7
            split at c7
            · rename_i ccl cdd vs ccs lk
              split at c7
              · rename_i file tf hv
                rw [of_decide_eq_true c7] at hv
                exact ⟨_, _, _, _, _, lk, hv⟩
              · cases c7
            · cases c7
          · dsimp only at c5
            split at c5
            · rename_i lk
              rw [of_decide_eq_true c5] at lk
              exact ⟨_, _, _, lk⟩
            · cases c5
        | _ => cases c7
      · cases h7
    | _ => cases c2
theorem SupD.fdA_of {K : PySem.W.Frag} {F0 x qual : Str} {params : Arguments} {body : List Stmt} {scope : Scope} {f D : Addr} (h : ∃ fd cda cc, SupD K F0 x qual params body scope f D cda cc fd) : ∃ cda cc, SupD K F0 x qual params body scope f D cda cc (fdA K f) := by
  obtain ⟨fd, cda, cc, h⟩ := h
  have e : fdA K f = fd := by
    obtain ⟨oc, od, dV, kV, doc, pm, an, ct, osl, _, lk, _⟩ := h.ex
    unfold fdA
    rw [lk]
  exact ⟨cda, cc, by rw [e]; exact h⟩
theorem SupD.bindsN {K : PySem.W.Frag} {F0 x qual : Str} {params : Arguments} {body : List Stmt} {scope : Scope} {f D cda cc : Addr} {fd : FuncData} {ps : List Str} (F : SupD K F0 x qual params body scope f D cda cc fd)
    (h : ∀ (kV doc pm : Value) (an : Option Addr) (cdv ct : Value) (cc : Addr) (us : List Value), us.length = ps.length → bindArgs (PySem.W.ksFn x qual params body scope .none kV doc pm an cdv ct cc) ⟨us, []⟩ = pure (ps.zip us)) : Binds K fd ps [] := by
  obtain ⟨oc, od, dV, kV, doc, pm, an, ct, osl, rfl, lk, rfl⟩ := F.ex
  exact .all (h kV doc pm an _ ct cc)
end LW
namespace LW
open PySem PySem.Spec PyProof.Rows L2
section
variable {X : Cx} {P : Program} {w : World} {K : PySem.W.Frag} {W : Wrl} {f f2 D C : Addr} {full rest : List Stmt} {p0 p1 p2 p3 p4 : Pos} {e : Expr} {es : List Expr} {k : Nat}
end
section
variable {X : Cx} {P : Program} {w : World} {W : Wrl} {Wo : WX} {m : Md} {f C : Addr} {pos : Pos} {e fe : Expr} {es : List Expr} {k : Nat}
def mark {α : Type} (l : List α) : List α := l ++ l.take 1
def kMakeZ (C : Addr) (fs : List (Str × D)) (R : D → Prop) : Prop := fs ≠ [] ∧ fs.length < 900 ∧ imm (mark (fs.map (·.1))) = true ∧ R (.ins C (mark (fs.map (·.1))) (mark (fs.map (·.2))))
end
end LW
namespace LW
open PySem PySem.Spec PyProof.Rows L2
section
variable {P : Program} {w : World} {K : PySem.W.Frag} {H : Hp} {S S' : ASet} {os : List Addr} {st : Sto}
end
section
variable {X : Cx} {P : Program} {w : World} {W : Wrl} {Wo : WX} {m : Md} {fe e : Expr} {es : List Expr} {pos : Pos} {C f : Addr} {k : Nat}
def qMakeZS (K : PySem.W.Frag) (P : Program) (w : World) (C : Addr) (pf : PSp (WS P w K W0)) (qf : QT (WS P w K W)) (qs : QTA (WS P w K W)) : QT (WS P w K W) := fun ω ρ Q E => qf ω ρ (fun ω0 d => d = .adr C ∧ qs ω0 ρ (fun ω1 ds0 => kDers ω1.2 ds0 fun ds => ∀ x, pf ((), noSto.put x (.mi C [])) (.adr x :: ds) (fun ω2 d => d = .non ∧ ∃ fs, ω2.2 x = some (.mi C fs) ∧ kMakeZ C fs (Q ω1)) fun _ _ => False) E) E
theorem v_makeZS {K : PySem.W.Frag} {pf : PSp (WS P w K W0)} {qf : QT (WS P w K W)} {qs : QTA (WS P w K W)} {ω : W.Ω × Sto} {ρ : List Sl} {Q : W.Ω × Sto → D → Prop} {E : W.Ω × Sto → Exn → Prop} (h : qf ω ρ (fun ω0 d => kAdr C d (qs ω0 ρ (fun ω1 ds0 => kDers ω1.2 ds0 fun ds => ∀ x, pf ((), noSto.put x (.mi C [])) (.adr x :: ds) (fun ω2 d => d = .non ∧ ∃ fs, ω2.2 x = some (.mi C fs) ∧ kMakeZ C fs (Q ω1)) fun _ _ => False) E)) E) : qMakeZS K P w C pf qf qs ω ρ Q E := h
end
end LW
namespace LW
open PySem PySem.Spec PyProof.Rows L2
def spXI (C : Addr) (f : Str) : Sp := fun vs H Q _ => ∃ (a : Addr) (y : V), vs = [.ref a, y] ∧ H a = some (exo a C none) ∧ ∀ dx, H dx = none → dx ≠ a → Q .non (upd (upd H dx (exd dx [(f, y)])) a (exo a C (some dx)))
theorem xinit_ok {P : Program} {w : World} {K : PySem.W.Frag} {mg : Str → Option Value} {base : Heap} {x qual fp f msg : Str} {params : Arguments} {scope : Scope} {fI C cda cc : Addr} {fd : FuncData} {ar : Arg} [pg : PG P] {body : List Stmt}
    (F : SupD K "/claim/cut.py" x qual params body scope fI C cda cc fd) (S : SScope ["self", fp] ["self", fp] scope) (hm : mg "super" = none) (har : (params.posonlyargs ++ params.args).head? = some ar) (har2 : ar.arg = "self") (T : SupX K C C) (no : PySem.W.findIn K (.ref C) f = some none)
    (hd : ∀ (A : Around) (outer : List Env) (s : Shared) (H : Hp) (E : XK) (a : Addr), SupE (cxS (L2N.CX P w) P w K mg base ["self", fp] qual scope fI cda cc A outer s H E) fI C → PSsAt (cxS (L2N.CX P w) P w K mg base ["self", fp] qual scope fI cda cc A outer s H E) body body (tSupI a C (tCons (tC (.str msg)) tNil) (tOst K f (tVar 0) (tVar 1)))) :
    FnOk P w K mg base (L2N.CX P w) 1 fI fd ["self", fp] (spXI C f) := by
  refine fn_ofS F S (fun vs H Q E ⟨_, _, e, _⟩ => by rw [e] <;> rfl) fun A outer s H vs Q E hr h => ?_
  obtain ⟨a, y, rfl, ha, q⟩ := h
  refine ⟨_, hd A outer s H E a (supE_of (P := P) F S hm rfl har har2), ?_⟩
  refine ⟨rfl, ha, by simp, ha, ?_⟩
  exact ⟨y, rfl, .ref a, rfl, a, C, rfl, T.oex, no, .inl ⟨ha, fun dx n ne => q dx n ne⟩⟩
theorem pmk_oexN {X : Cx} {x : Str} {C fI : Addr} {k : Nat} {fd : FuncData} {ps : List Str} {sp : Sp} {e : Expr} {es : List Expr} {ta : TA} {p pos : Pos} (T : OexC X.K C) (iC : PySem.W.findIn X.K (.ref C) "__init__" = some (some (.ref fI))) (tI : PySem.W.typeIn X.K (.ref fI) = some (.type "function"))
    (F1 : FnOk X.prog X.w X.K X.mg X.base (L2N.CX X.prog X.w) k fI fd ps sp) (hr : Room (k + 1) X.A) (hb : Binds X.K fd ps []) (hg : Gl X x) (hm : X.mg x = some (.ref C)) (ha : PA X (e :: es) ta)
    (hdb : (x == ("__debug__" : Str)) = false := by decide) (he : starEach (e :: es) X.env = (false, eval e X.env) :: starEach es X.env := by rfl) (hpl : (backTo pos (starEach es X.env)).any (·.1) = false := by rfl) :
    L2N.PMk X (.Call (.Name x p) (e :: es) [] pos) (tMkO C sp [] ta) := by
  intro pins s σ H Q I h
  obtain ⟨nm, q, N, bs, bm, sn, sub, ab, col, dd, k0, k1, k2, k3, k5, hC, hbm⟩ := T.cls
  refine wpAny_Call_Name_kw (ld_glob I hg hm ?_ hdb)
  refine PySem.W.callWith_K (h₀ := X.base) I.ok.mod.kin T.kC (thn (ha.run pos pins s σ H _ I h) fun us s1 ⟨vs, H1, I1, r1, hz, q1⟩ => ⟨I1.kIn, ?_⟩) he hpl
  show wpAny _ _ (call (.ref C) us) _ _ _
  obtain ⟨hp, g, dr, tk, os⟩ := s1
  have hsz : hp.objs.size ≤ hp.objs.size + 1 := Nat.le_succ _
  have hn : H1 (hp.objs.size + 1) = none := I1.hok.fresh hsz
  have hq := q1 (hp.objs.size + 1) hn
  rw [List.append_nil] at hq
  have kk : ∀ b o, hp.get? b = some o → ((hp.push (PySem.W.kdv_tup us)).push (PySem.HandSPX.excO C hp.objs.size)).get? b = some o := fun b o e => Heap.get?_push_of_some _ (Heap.get?_push_of_some _ e)
  have hget : ((hp.push (PySem.W.kdv_tup us)).push (PySem.HandSPX.excO C hp.objs.size)).get? (hp.objs.size + 1) = some (PySem.HandSPX.excO C hp.objs.size) := by heap_get
  have I2 : Inv X pins σ (upd H1 (hp.objs.size + 1) (exo (hp.objs.size + 1) C none)) ⟨(hp.push (PySem.W.kdv_tup us)).push (PySem.HandSPX.excO C hp.objs.size), g, dr, tk, os⟩ :=
    I1.laid (t' := tk) (a := hp.objs.size + 1) (o := exo (hp.objs.size + 1) C none) (h' := (hp.push (PySem.W.kdv_tup us)).push (PySem.HandSPX.excO C hp.objs.size)) kk hsz (exo_ok hget)
  have r2 : Vals (V.ref (hp.objs.size + 1) :: vs) (Value.ref (hp.objs.size + 1) :: us) := .cons rfl r1
  have hl : (Value.ref (hp.objs.size + 1) :: us).length = ps.length := by
    have e := r2.length
    rw [F1.len _ _ _ _ hq] at e
    exact e.symm
  have hus : us.length ≤ sizeLine := by
    rw [← Paired.length r1, sizeLine_eq]
    omega
  have hbb := hb _ (Value.ref (hp.objs.size + 1) :: us) I2.kIn (by rw [List.append_nil]; exact hl)
  rw [List.append_nil] at hbb
  refine wpAny_call (PySem.HandSPX.call_own PySem.F.excBase_ValueError (fun Y => PySem.HandSPX.refsVE_contains Y bm hbm) (I1.kIn _ _ hC) (PySem.W.looks_findIn I1.kIn iC) (fun self => PySem.W.bind_fn I1.kIn self tI) hus
    (codeAny_mono (F1.run _ X.stack _ _ ⟨Value.ref (hp.objs.size + 1) :: us, []⟩ (Value.ref (hp.objs.size + 1) :: us) _ _ (fun _ _ _ => False) (hr.make C us []) (I2.env0.make C us []) hbb r2 hq) fun r s' hq' => ?_))
  cases r with
  | error er =>
    obtain ⟨_, _, _, _, _, _, _, _, _, _, _, zz⟩ := hq'
    exact zz.2.elim
  | ok fl =>
    cases fl with
    | ret u =>
      obtain ⟨v, H2, os2, bare2, un2, hok2, rv, ev, d, fs, ea, ed, hd1, q2⟩ := hq'
      subst ev
      obtain ⟨h2, g2, d2, t2, os'⟩ := s'
      obtain ⟨t0, G, J, kG, ge, hoe, na⟩ := mk_end0 (d2 := d2) (t2 := t2) I1 hsz kk un2 hok2 os2 bare2 ea ed hd1
      exact ⟨rv, _, _, _, ⟨G, g2, d2, t2, os'⟩, _, .ref C, some d, rfl, J, kG, ge, hoe, ⟨rfl, rfl, fun vs e => by cases e; rfl⟩, rfl, rfl, na, rfl, bare2, raises_own T.exC T.tyC, q2⟩
    | next => exact False.elim hq'
    | brk => exact False.elim hq'
    | cont => exact False.elim hq'
section
variable {X : Cx} {W : Wrl} {Wo : WX} {mr m : Md} {e : Expr} {es : List Expr} {qa : QT W} {C fI : Addr} {f x : Str} {k : Nat} {fd : FuncData} {ps : List Str} {p pos pos2 : Pos}
def sRaiseX (C : Addr) (f : Str) (qa : QT W) : QTS W := fun P ω ρ => qa ω ρ (fun ω1 d => d.pure = true ∧ P.ex ω1 ⟨C, some (f, d)⟩ ρ) fun ω1 y => P.ex ω1 y ρ
theorem qs_raiseX (hc : X.calm = true) (tk : L2N.Takes X Wo) (T : OexC X.K C) (iC : PySem.W.findIn X.K (.ref C) "__init__" = some (some (.ref fI))) (tI : PySem.W.typeIn X.K (.ref fI) = some (.type "function"))
    (F1 : FnOk X.prog X.w X.K X.mg X.base (L2N.CX X.prog X.w) k fI fd ps (spXI C f)) (hr : Room (k + 1) X.A) (hb : Binds X.K fd ps []) (hg : Gl X x) (hm : X.mg x = some (.ref C)) (he : QE X m W Wo e qa) (hms : m.st = true := by rfl)
    (hdb : (x == ("__debug__" : Str)) = false := by decide) (h1 : starEach [e] X.env = (false, eval e X.env) :: starEach [] X.env := by rfl) :
    QS X mr W Wo (.Raise (some (.Call (.Name x p) [e] [] pos)) none pos2) (sRaiseX C f qa) := PS.imp (L2N.ps_raise hc tk (pmk_oexN T iC tI F1 hr hb hg hm (pa_cons he pa_nil h1) hdb h1)) fun D σ H ⟨F, T0, ω, ρ, P, R, q, S⟩ => by
  refine ⟨F, T0, ω, ρ, _, _, R, q, S.xok, fun T1 ω1 d v H1 R1 e1 r1 ⟨hp, q1⟩ => ?_⟩
  show ([v] : List V).length ≤ 1000 ∧ _
  refine ⟨by simp, fun a na => ?_⟩
  refine ⟨a, v, rfl, upd_same, fun dx n ne => ⟨rfl, dx, _, upd_same, by rw [upd_ne ne]; exact upd_same, ?_, ?_⟩⟩
  · by_cases z : dx = a
    · exact absurd z ne
    · rw [upd_ne z] at n
      exact n
  have nd : H1 dx = none := by rw [upd_ne ne] at n; exact n
  have eH : upd (del (upd (upd (upd H1 a (exo a C none)) dx (exd dx [(f, v)])) a (exo a C (some dx))) a) dx (.xd [(f, v)]) = upd H1 dx (.xd [(f, v)]) := by
    funext b
    by_cases hb : b = dx
    · rw [hb, upd_same, upd_same]
    · rw [upd_ne hb, upd_ne hb]
      by_cases hba : b = a
      · rw [hba, del_same, na]
      · rw [del_ne hba, upd_ne hba, upd_ne hb, upd_ne hba]
  rw [eH]
  have g : GrP nop H1 (upd H1 dx (.xd [(f, v)])) := GrP.new nd
  have ra : RepA X.K H1 (fun _ => True) d v := (RR.a hms r1).any hp
  exact S.ex T1 ω1 ρ σ _ ⟨C, some (f, d)⟩ _ _ (R1.grow g) ⟨rfl, dx, v, rfl, upd_same, ra.ext g (fun _ z => z.elim) fun a z => .inl trivial⟩ q1
theorem v_raiseX {P : PEn W} {ω : W.Ω} {ρ : List Sl} (h : qa ω ρ (fun ω1 d => d.pure = true ∧ P.ex ω1 ⟨C, some (f, d)⟩ ρ) fun ω1 y => P.ex ω1 y ρ) : sRaiseX C f qa P ω ρ := h
end
theorem oexB_ok {K : PySem.W.Frag} {C : Addr} (h : oexB K C = true) : OexC K C := by
  obtain ⟨h1, h⟩ := and2 h
  obtain ⟨h2, h⟩ := and2 h
  obtain ⟨h3, h⟩ := and2 h
  obtain ⟨h4, h5⟩ := and2 h
  refine ⟨?_, of_decide_eq_true h2, of_decide_eq_true h3, of_decide_eq_true h4, h5⟩
  split at h1
  · rename_i dd cd sl ho
    split at h1
    · rename_i C' bm k0 k1 k2 k3 n k5 hm hs
      obtain ⟨a1, h1⟩ := and2 h1
      obtain ⟨a2, h1⟩ := and2 h1
      obtain ⟨a3, h1⟩ := and2 h1
      obtain ⟨a4, a5⟩ := and2 h1
      have a1 := of_decide_eq_true a1
      have a2 := of_decide_eq_true a2
      subst a1 a2
      obtain ⟨nm, bs, mro, ns, qn, hd, sn, sub, ab, col, del⟩ := cd
      dsimp only at hm a3 a4
      have a3 : del = false := by simpa using a3
      subst hm a3 a4
      have hsl : sl = #[k0, k1, k2, k3, some (.builtin "ValueError.__new__"), k5] := by
        obtain ⟨l⟩ := sl
        simp at hs
        rw [hs]
      subst hsl
      exact ⟨nm, qn, ns, bs, bm, sn, sub, ab, col, dd, k0, k1, k2, k3, k5, ho, a5⟩
    · cases h1
  · cases h1
structure SupXF (K : PySem.W.Frag) (C fI : Addr) (f : Str) : Prop where
  sx : SupX K C C
  no : PySem.W.findIn K (.ref C) f = some none
  iC : PySem.W.findIn K (.ref C) "__init__" = some (some (.ref fI))
  tI : PySem.W.typeIn K (.ref fI) = some (.type "function")
theorem supxB_ok {K : PySem.W.Frag} {x f : Str} (h : supxB K x f = true) : SupXF K (He.ga K x) (He.ma K (He.ga K x) "__init__") f := by
  obtain ⟨h1, h⟩ := and2 h
  obtain ⟨h2, h⟩ := and2 h
  obtain ⟨h3, h⟩ := and2 h
  obtain ⟨h4, h⟩ := and2 h
  obtain ⟨h5, h⟩ := and2 h
  obtain ⟨h6, h⟩ := and2 h
  obtain ⟨h7, h8⟩ := and2 h
  exact ⟨⟨oexB_ok h1, of_decide_eq_true h2, of_decide_eq_true h3, of_decide_eq_true h4, of_decide_eq_true h5⟩, of_decide_eq_true h6, of_decide_eq_true h7, of_decide_eq_true h8⟩
end LW
namespace LW
open PySem PySem.Spec PyProof.Rows L2
section
variable {X : Cx} {W : Wrl} {Wo : WX} {mi : Md} {qi : QTI W} {g : QTG} {qe : QT W} {vs ts : List Nat} {elt tg iter : Expr} {scope : Scope} {own : List (Str × Nat)} {pos pos2 p : Pos}
def kSc (g : QTG) (qe : QT W) (vs : List Nat) (ρ : List Sl) (ω1 : W.Ω) (ds : List D) (R : D → Prop) : Prop := still ρ vs = true ∧ ds.length ≤ 1000 ∧ ∃ f : Nat → Int, (∀ i d, ds[i]? = some d → g d (wipeP ρ vs) fun ρ2 => wipeP ρ2 vs = wipeP ρ vs ∧ qe ω1 ρ2 (fun ω2 y => ω2 = ω1 ∧ y = .int (f i)) (fun _ _ => False)) ∧
  ∀ n : Nat, (n = 1 ↔ 0 < ds.length ∧ ∀ i, i < ds.length → f i = f 0) → R (.int n)
def qLenSc (qi : QTI W) (g : QTG) (qe : QT W) (vs : List Nat) : QT W := fun ω ρ Q E => qi ω ρ (fun ω1 ds => kSc g qe vs ρ ω1 ds (Q ω1)) E
def ScInv (f : Nat → Int) (i : Nat) (S : Int → Bool) (n : Nat) : Prop := (∀ j, S j = true ↔ ∃ k, k < i ∧ f k = j) ∧ n ≤ i ∧ (n = 0 ↔ i = 0) ∧ (n = 1 ↔ 0 < i ∧ ∀ k, k < i → f k = f 0)
theorem ScInv.step {f : Nat → Int} {i n : Nat} {S : Int → Bool} (h : ScInv f i S n) : ScInv f (i + 1) (fun j => S j || decide (j = f i)) (if S (f i) = true then n else n + 1) := by
  obtain ⟨h1, h2, h3, h4⟩ := h
  refine ⟨fun j => ?_, by split <;> omega, ?_, ?_⟩
  · rw [Bool.or_eq_true, h1 j, decide_eq_true_iff]
    refine ⟨fun z => ?_, fun ⟨k, hk, e⟩ => ?_⟩
    · rcases z with ⟨k, hk, e⟩ | z
      · exact ⟨k, by omega, e⟩
      · exact ⟨i, by omega, z.symm⟩
    · by_cases z : k = i
      · exact .inr (by rw [← e, z])
      · exact .inl ⟨k, by omega, e⟩
  · split
    · rename_i hs
      obtain ⟨k, hk, _⟩ := (h1 _).mp hs
      omega
    · omega
  · split
    · rename_i hs
      obtain ⟨k, hk, e⟩ := (h1 _).mp hs
      rw [h4]
      refine ⟨fun ⟨z1, z2⟩ => ⟨by omega, fun m hm => ?_⟩, fun ⟨_, z2⟩ => ⟨by omega, fun m hm => z2 m (by omega)⟩⟩
      by_cases y : m = i
      · rw [y, ← e]; exact z2 k hk
      · exact z2 m (by omega)
    · rename_i hs
      refine ⟨fun z => ⟨by omega, fun m hm => ?_⟩, fun ⟨_, z2⟩ => ?_⟩
      · have : i = 0 := h3.mp (by omega)
        rw [show m = 0 by omega]
      · by_cases y : i = 0
        · have := h3.mpr y
          omega
        · exact absurd ((h1 _).mpr ⟨0, by omega, (z2 i (by omega)).symm⟩) hs
theorem v_lenSc {ω : W.Ω} {ρ : List Sl} {Q : W.Ω → D → Prop} {E : W.Ω → Exn → Prop} (h : qi ω ρ (fun ω1 ds => kSc g qe vs ρ ω1 ds (Q ω1)) E) : qLenSc qi g qe vs ω ρ Q E := h
end
end LW
namespace LW
open PySem PySem.Spec PyProof.Rows L2
def fCountT (d : LW.D) (es : List LW.D) (Q : LW.D → Prop) : Prop := ∃ (ns : List Int) (z : Int), d = .tup (dInts ns) ∧ es = [.int z] ∧ Q (.int (ns.count z : Nat))
def fCountL (d : LW.D) (es : List LW.D) (Q : LW.D → Prop) : Prop := ∃ (ns : List Int) (z : Int), d = .lst (dInts ns) ∧ es = [.int z] ∧ Q (.int (ns.count z : Nat))
theorem lcountP {K : PySem.W.Frag} : MtQ .A K (rCntI K) fCountL := fun S os H d ds v vs Q Qp hS r rs ⟨ns, z, hd, he, h⟩ k => by
  subst he hd
  obtain ⟨w, rfl, rw'⟩ := rs.one
  obtain ⟨l, xs, rfl, hl, hr, _⟩ := r.lst
  rw [hr.ints] at hl
  exact ⟨l, ns, z, rfl, by rw [rw'.c.int], hl, k _ _ H (GrP.refl _ _) (RepA.int _) h⟩
theorem v_tcount {ns : List Int} {z : Int} {Q : LW.D → Prop} (h : Q (.int (ns.count z : Nat))) : fCountT (.tup (dInts ns)) [.int z] Q := ⟨ns, z, rfl, rfl, h⟩
theorem v_lcount {ns : List Int} {z : Int} {Q : LW.D → Prop} (h : Q (.int (ns.count z : Nat))) : fCountL (.lst (dInts ns)) [.int z] Q := ⟨ns, z, rfl, rfl, h⟩
section
variable {X : Cx} {W : Wrl} {Wo : WX} {m : Md} {a : Expr} {qa : QT W} {p q pos apos c0 c1 : Pos} {n : Int} {j k j0 : Nat} {y z : Str}
end
theorem MkP.dfl {K : PySem.W.Frag} {C : Addr} {sp : Sp} {pf : PSp W0} {dvs : List V} {dds : List D} (h : MkP K C sp pf) (hd : ∀ H S, RepsA K H S dds dvs) : MkP K C (fun vs H Q E => sp (vs ++ dvs) H Q E) (fun ω ds Q E => pf ω (ds ++ dds) Q E) :=
  ⟨fun S T ds vs H Q E Qp Ep hS r q k kx x dx nx ndx ne => h.run S T (ds ++ dds) (vs ++ dvs) H Q E Qp Ep hS (RepsA.append (hd _ _) r) q k kx x dx nx ndx ne⟩
section
variable {X : Cx} {W : Wrl} {Wo : WX} {mr : Md} {pf : PSp W} {qs : QTA W} {k : Nat} {f : Addr} {fd : FuncData} {ps : List Str} {x : Str} {p pos : Pos} {e : Expr} {es : List Expr} {dvs : List V} {dds : List D} {ds : List Value}
end
end LW
namespace LW
open PySem PySem.Spec PyProof.Rows L2
theorem PK.imp {X : Cx} {e : List Keyword} {t t' : TA} (h : PK X e t) (k : ∀ σ H Q, t' σ H Q → t σ H Q) : PK X e t' := ⟨fun p pins s σ H Q I q => h.run p pins s σ H Q I (k σ H Q q)⟩
section
variable {X : Cx} {W : Wrl} {Wo : WX} {m m1 : Md} {e : Expr} {kws : List Keyword} {kpos : Pos} {nm : Option Str} {qa : QT W} {qs qk : QTA W}
def qCallK (n m : Nat) (g : List D → List D → List D) (pf : PSp W) (qs qk : QTA W) : QT W := fun ω ρ Q E => qs ω ρ (fun ω1 ds => qk ω1 ρ (fun ω2 es => ds.length = n ∧ es.length = m ∧ pf ω2 (g ds es) Q E) E) E
variable {k n : Nat} {f : Addr} {fd : FuncData} {ps ks : List Str} {pf : PSp W} {x : Str} {p pos : Pos} {es : List Expr} {g : List Value → List Value → List Value} {gV : List V → List V → List V} {gD : List D → List D → List D} {mr : Md}
variable {ω : W.Ω} {ρ : List Sl} {Q : W.Ω → LW.D → Prop} {E : W.Ω → Exn → Prop}
theorem v_callK {m : Nat} (h : qs ω ρ (fun ω1 ds => qk ω1 ρ (fun ω2 es => ds.length = n ∧ es.length = m ∧ pf ω2 (gD ds es) Q E) E) E) : qCallK n m gD pf qs qk ω ρ Q E := h
end
end LW
namespace LW
open PySem PySem.Spec PyProof.Rows L2
section
variable {X : Cx} {CX : CXT} {k n : Nat} {f C : Addr} {fd : FuncData} {ps ks : List Str} {sp : Sp} {E : L2.St → XK} {x : Str} {p pos : Pos} {e : Expr} {es : List Expr} {kws : List Keyword} {t tk : TA} {g : List Value → List Value → List Value} {gV : List V → List V → List V}
end
section
variable {X : Cx} {W : Wrl} {Wo : WX} {m m1 mr : Md} {k n : Nat} {f C : Addr} {fd : FuncData} {ps ks : List Str} {sp : Sp} {x : Str} {p pos : Pos} {e : Expr} {es : List Expr} {kws : List Keyword} {g : List Value → List Value → List Value} {qs qk : QTA W}
def qMakeK (n m : Nat) (pf : PSp W0) (qs qk : QTA W) : QT W := fun ω ρ Q E => qs ω ρ (fun ω1 ds => qk ω1 ρ (fun ω2 es => ds.length = n ∧ es.length = m ∧ inW W pf ω2 (ds ++ es) Q E) E) E
theorem v_makeK {pf : PSp W0} {m : Nat} {ω : W.Ω} {ρ : List Sl} {Q : W.Ω → D → Prop} {E : W.Ω → Exn → Prop} (h : qs ω ρ (fun ω1 ds => qk ω1 ρ (fun ω2 es => ds.length = n ∧ es.length = m ∧ inW W pf ω2 (ds ++ es) Q E) E) E) : qMakeK n m pf qs qk ω ρ Q E := h
end
end LW
namespace LW
open PySem PySem.Spec PyProof.Rows L2
theorem cxUpN {P : Program} {w : World} : StX.CXUp (L2N.CX P w) := by
  rintro outer s H s2 H2 E e s' un kp ho ⟨a, B, H', cls, d, ea, fl, hok, ub, na, os, ag, he⟩
  refine ⟨a, B, H', cls, d, ea, fl, hok, ⟨fun b o q n hb => ub.keep b o (kp b o q) (un.free b o q n (by simp)) hb, fun b o q hb => ub.slot b o (kp b o q) hb, fun b o q n => ub.free b o (kp b o q) (un.free b o q n (by simp)),
    fun b o q hb => ub.there b o (kp b o q) hb, fun b xs q => ub.tups b xs (un.tups b xs q), fun b o xs q => ub.frzs b o xs (un.frzs b o xs q), fun b ps q => ?_⟩, na, os.trans ho, ag, he⟩
  obtain ⟨m1, e1⟩ := un.tbls b ps q
  obtain ⟨m2, e2⟩ := ub.tbls b _ e1
  exact ⟨m1 ++ m2, by rw [e2, Array.append_assoc]⟩
inductive ArgsV (kn : Str) (z : Int) : Args → List V → Prop
  | kw {us : List Value} {u : Value} {v : V} {vs : List V} : RelV v u → Vals vs us → ArgsV kn z ⟨us, [(kn, u)]⟩ (v :: vs)
  | df {us : List Value} {vs : List V} : Vals vs us → ArgsV kn z ⟨us, []⟩ (.int z :: vs)
def FnV (P : Program) (w : World) (K : PySem.W.Frag) (mg : Str → Option Value) (base : Heap) (CX : CXT) (k : Nat) (f : Addr) (kn : Str) (z : Int) (sp : Sp) : Prop :=
  ∀ (A : Around) (outer : List Env) (s : Shared) (H : Hp) (args : Args) (vs : List V) (Q : VK) (E : XK), Room k A → Env0 P w K mg base A outer s H → ArgsV kn z args vs → sp vs H Q E → codeAny (model P w) A (.call (.ref f) args) (CR CX outer P w H s Q E) s
section
variable {P : Program} {w : World} {K : PySem.W.Frag} {mg : Str → Option Value} {base : Heap} {k : Nat} {f : Addr} {x qual : Str} {params : Arguments} {body : List Stmt} {scope : Scope} {fd : FuncData} {N ps : List Str} {sp : Sp} {kn pv : Str} {z : Int}
end
section
variable {P : Program} {w : World} {K : PySem.W.Frag} {mg : Str → Option Value} {base : Heap} {x qual : Str} {params : Arguments} {body : List Stmt} {scope : Scope} {f : Addr} {fd : FuncData} {N ps : List Str} {k : Nat} {mr : Md} {W : Wrl} {pf : PSp W} {s : QTS W} {kn pv : Str} {z : Int}
end
def kwfB (K : PySem.W.Frag) (f : Addr) (kws : List (Str × V)) : Bool := match K.lookup f with
  | some ⟨_, _, .func fd, _⟩ => He.kwdB K fd.kwdefaults kws
  | _ => false
theorem FunD.kw {K : PySem.W.Frag} {x qual : Str} {params : Arguments} {body : List Stmt} {scope : Scope} {dvs : List V} {f : Addr} {fd : FuncData} {kws : List (Str × V)} (F : FunD K x qual params body scope dvs [] f fd) (h : kwfB K f kws = true) : FunD K x qual params body scope dvs kws f fd := by
  obtain ⟨⟨oc, od, dV, kV, doc, pm, an, cdv, ct, osl, rfl, lk, hcd, hD, hK⟩, kp⟩ := F
  unfold kwfB at h
  rw [lk] at h
  exact ⟨⟨oc, od, dV, kV, doc, pm, an, cdv, ct, osl, rfl, lk, hcd, hD, He.kwdB_ok h⟩, kp⟩
section
variable {X : Cx} {CX : CXT} {k : Nat} {f : Addr} {kn : Str} {z : Int} {sp : Sp} {E : L2.St → XK} {x : Str} {p pos : Pos} {e : Expr} {es : List Expr} {kws : List Keyword} {t tk : TA}
end
section
variable {X : Cx} {W : Wrl} {Wo : WX} {mr : Md} {pf : PSp W} {qs qk : QTA W} {k : Nat} {f : Addr} {kn : Str} {z : Int} {x : Str} {p pos : Pos} {e : Expr} {es : List Expr} {kws : List Keyword}
def qCallV (z : Int) (pf : PSp W) (qs : QTA W) : QT W := fun ω ρ Q E => qs ω ρ (fun ω1 ds => pf ω1 (.int z :: ds) Q E) E
def qCallVk (pf : PSp W) (qs qk : QTA W) : QT W := fun ω ρ Q E => qs ω ρ (fun ω1 ds => qk ω1 ρ (fun ω2 es => ∃ d, es = [d] ∧ pf ω2 (d :: ds) Q E) E) E
variable {ω : W.Ω} {ρ : List Sl} {Q : W.Ω → LW.D → Prop} {E : W.Ω → Exn → Prop}
theorem v_callV (h : qs ω ρ (fun ω1 ds => pf ω1 (.int z :: ds) Q E) E) : qCallV z pf qs ω ρ Q E := h
theorem v_callVk (h : qs ω ρ (fun ω1 ds => qk ω1 ρ (fun ω2 es => ∃ d, es = [d] ∧ pf ω2 (d :: ds) Q E) E) E) : qCallVk pf qs qk ω ρ Q E := h
end
theorem FnV.inW {P : Program} {w : World} {K : PySem.W.Frag} {mg : Str → Option Value} {base : Heap} {CX : CXT} {k : Nat} {f : Addr} {kn : Str} {z : Int} {mr : Md} {pf : PSp W0} (F : FnV P w K mg base CX k f kn z (spM mr K W0 pf)) (W : Wrl) : FnV P w K mg base CX k f kn z (spM mr K W (LW.inW W pf)) :=
  fun A outer s H args vs Q E hr e0 r h => F A outer s H args vs Q E hr e0 r (spM_inW h)
end LW
namespace LW
open PySem PySem.Spec PyProof.Rows L2
structure GetO (K : PySem.W.Frag) (C g : Addr) : Prop where
  at_ : PySem.W.findIn K (.ref C) "__getitem__" = some (some (.ref g))
  fi : PySem.W.fnIn K g = true
  fn : PySem.W.isFn K (.ref g) = true
structure SetO (K : PySem.W.Frag) (C g : Addr) : Prop where
  at_ : PySem.W.findIn K (.ref C) "__setitem__" = some (some (.ref g))
  ns : PySem.W.noSeq K C = true
  fn : PySem.W.isFn K (.ref g) = true
structure PropSet (K : PySem.W.Frag) (C : Addr) (f : Str) (p g : Addr) : Prop where
  tk : PySem.W.takerIn K C f = some (some (.ref p))
  ty : PySem.W.typeIn K (.ref p) = some (.type "property")
  rc : ∃ a rest, PySem.W.recIn K p "property" = some (a :: .ref g :: rest)
theorem getOB_ok {K : PySem.W.Frag} {x : Str} (h : getOB K x = true) : GetO K (He.ga K x) (He.ma K (He.ga K x) "__getitem__") := by
  obtain ⟨h1, h⟩ := and2 h
  obtain ⟨h2, h3⟩ := and2 h
  exact ⟨of_decide_eq_true h1, h2, h3⟩
theorem setOB_ok {K : PySem.W.Frag} {x : Str} (h : setOB K x = true) : SetO K (He.ga K x) (He.ma K (He.ga K x) "__setitem__") := by
  obtain ⟨h1, h⟩ := and2 h
  obtain ⟨h2, h3⟩ := and2 h
  exact ⟨of_decide_eq_true h1, h2, h3⟩
theorem prsB_ok {K : PySem.W.Frag} {x m : Str} (h : prsB K x m = true) : PropSet K (He.ga K x) m (He.ma K (He.ga K x) m) (setAd K x m) := by
  obtain ⟨h1, h⟩ := and2 h
  obtain ⟨h2, h3⟩ := and2 h
  refine ⟨of_decide_eq_true h1, of_decide_eq_true h2, ?_⟩
  unfold setAd
  split at h3
  · rename_i a g rest e
    rw [e]
    exact ⟨_, _, rfl⟩
  · cases h3
section
variable {X : Cx} {CX : CXT} {k : Nat} {C f g p : Addr} {fn : Str} {sp : Sp} {E : L2.St → XK} {a b o i e : Expr} {pos pos' spos p' : Pos} {ta tb to ti te : TE}
def tGetO (C : Addr) (sp : Sp) (E : L2.St → XK) (ta tb : TE) : TE := fun σ H Q => ta σ H fun x H1 => tb σ H1 fun y H2 => ∃ a dx fs, x = .ref a ∧ H2 a = some (.ins C dx fs) ∧ sp [x, y] H2 Q (E σ)
theorem pe_getO (c : GetO X.K C g) (F : FnR X.prog X.w X.K X.mg X.base CX k g sp) (hr : Room (k + 1) X.A) (hx : ∀ σ, PassesAt CX X σ (E σ)) (ha : PE X a ta) (hb : PE X b tb)
    (hsl : ∀ x v, subscripted b true x v = runValue (.builtin "lifetime.subscript" ⟨[x, v], []⟩) := by intro _ _; with_unfolding_all rfl) : PE X (.Subscript a b pos) (tGetO C sp E ta tb) := by
  refine ⟨fun pins s σ H Q I h => ?_⟩
  refine Subscript_ (thn (ha.run pins s σ H _ I h) fun v s1 ⟨x, H1, I1, r1, q1⟩ => thn (hb.run pins s1 σ H1 _ I1 q1) fun u s2 ⟨y, H2, I2, r2, a, dx, fs, ex, ea, q⟩ => ?_)
  subst ex
  cases (show v = Value.ref a from r1)
  obtain ⟨ox, od, J⟩ := ins_at I2 ea
  obtain ⟨m, hF⟩ := I2.fr
  exact PySem.W.sub_K hF I2.ok.mod.kin J c.at_ c.fi c.fn (wpAny_call (run_S (us := [.ref a, u]) (vs := [.ref a, y]) F hr.in1 I2.env0.in1 (hx σ) I2 (.cons rfl (.cons r2 .nil)) q)) (hsl _ _)
def sSetOw (C : Addr) (sp : Sp) (E : L2.St → XK) (te to ti : TE) : TS := fun D σ H => te σ H fun z H1 => to σ H1 fun x H2 => ti σ H2 fun y H3 => ∃ a dx fs, x = .ref a ∧ H3 a = some (.ins C dx fs) ∧ sp [x, y, z] H3 (fun _ H4 => D.nx σ H4) (E σ)
theorem ps_setO (c : SetO X.K C g) (F : FnR X.prog X.w X.K X.mg X.base CX k g sp) (hr : Room k X.A) (hx : ∀ σ, PassesAt CX X σ (E σ)) (he : PE X e te) (ho : PE X o to) (hi : PE X i ti)
    (ha : ∀ v, assign (.Subscript o i spos) X.env v = (do
      let ov ← holding [v] (eval o X.env)
      let iv ← holding [v, ov] (eval i X.env)
      standAt spos
      holding [v, ov, iv] (setItem ov iv v)
      release [v, ov, iv] []) := by intro _; rfl)
    (hs : swapsWithSole [.Subscript o i spos] e pos.line X.env = pure false := by rfl) (hw : swappedStores [.Subscript o i spos] e X.env = pure none := by rfl) (h1 : (assignEach [.Subscript o i spos] X.env).map (·.2) = [assign (.Subscript o i spos) X.env] := by rfl) :
    PS X (.Assign [.Subscript o i spos] e pos) (sSetOw C sp E te to ti) := by
  refine ⟨fun pins s σ H D I h => ?_⟩
  refine wpAny_Assign_stores (thn (he.run pins s σ H _ I h) fun v s0 ⟨z, H0, I0, r0, q0⟩ => ?_) hs hw
  rw [h1]
  show wpAny _ _ (assign (.Subscript o i spos) X.env v) _ _ _
  rw [ha]
  refine wpAny_bind (wpAny_holding (thn (ho.run pins s0 σ H0 _ I0 q0) fun ov s1 ⟨x, H1, I1, r1, q1⟩ => ?_))
  refine wpAny_bind (wpAny_holding (thn (hi.run pins s1 σ H1 _ I1 q1) fun iv s2 ⟨y, H2, I2, r2, a, dx, fs, ex, ea, q⟩ => ?_))
  subst ex
  cases (show ov = Value.ref a from r1)
  obtain ⟨ox, od, J⟩ := ins_at I2 ea
  obtain ⟨m, hF⟩ := I2.fr
  refine wpAny_bind (wpAny_standAt (wpAny_bind (wpAny_holding ?_)))
  refine PySem.W.ksp_setItem hF I2.ok.mod.kin J c.ns c.at_ c.fn (wpAny_mono (wpAny_call (run_S (us := [.ref a, iv, v]) (vs := [.ref a, y, z]) F hr I2.env0 (hx σ) I2 (.cons rfl (.cons r2 (.cons r0 .nil))) q)) (fun w s3 ⟨_, H3, I3, _, q3⟩ => ?_) fun _ _ z => z)
  exact wpAny_release ⟨σ, H3, I3, q3⟩
def sPropSet (C : Addr) (sp : Sp) (E : L2.St → XK) (te to : TE) : TS := fun D σ H => te σ H fun z H1 => to σ H1 fun x H2 => ∃ a dx fs, x = .ref a ∧ H2 a = some (.ins C dx fs) ∧ sp [x, z] H2 (fun _ H3 => D.nx σ H3) (E σ)
theorem ps_propSet (cl : Cls X.K C) (c : PropSet X.K C fn p g) (F : FnR X.prog X.w X.K X.mg X.base CX k g sp) (hr : Room (k + 2) X.A) (hx : ∀ σ, PassesAt CX X σ (E σ)) (he : PE X e te) (ho : PE X o to)
    (hs : swapsWith e (some (.Attribute o fn p')) pos.line X.env = pure false := by rfl) : PS X (.Assign [.Attribute o fn p'] e pos) (sPropSet C sp E te to) := by
  refine ⟨fun pins s σ H D I h => ?_⟩
  refine plainObj_wpAny_Assign_Attribute (thn (he.run pins s σ H _ I h) fun u s1 ⟨z, H1, I1, r1, q1⟩ => thn (ho.run pins s1 σ H1 _ I1 q1) fun ov s2 ⟨x, H2, I2, r2, a, dx, fs, ex, ea, q⟩ => ?_) hs
  subst ex
  cases (show ov = Value.ref a from r2)
  obtain ⟨mA, O, _⟩ := ins_get I2.hok ea
  obtain ⟨od, J, _⟩ := O.look
  obtain ⟨m, hF⟩ := I2.fr
  obtain ⟨ra, rest, hrec⟩ := c.rc
  have I3 := I2.tok (s2.toks + 1)
  refine PySem.W.set_prop hF I2.ok.mod.kin J cl.sa cl.po c.tk c.ty hrec (codeAny_mono (run_S (us := [.ref a, u]) (vs := [.ref a, z]) F hr.in1.in1 I3.env0.in1.in1 (hx σ) I3 (.cons rfl (.cons r1 .nil)) q) fun r s3 w => ?_)
  rcases r with er | fl
  · exact w
  · cases fl with
    | ret v =>
      obtain ⟨_, H3, I4, _, q3⟩ := w
      exact ⟨σ, H3, I4, q3⟩
    | next => exact w
    | brk => exact w
    | cont => exact w
end
section
variable {X : Cx} {P : Program} {w : World} {K : PySem.W.Frag} {W : Wrl} {Wo : WX} {m m1 m2 m3 mr : Md} {k n : Nat} {C f g p : Addr} {fn x : Str} {a b o i e : Expr} {es : List Expr} {kws : List Keyword} {pos pos' spos p' cp : Pos} {qa qb qo qi qe : QT (WS P w K W)} {qs qk : QTA (WS P w K W)} {pf : PSp (WS P w K W)} {fd : FuncData} {ps ks : List Str} {gg : List Value → List Value → List Value}
def kPropS (C : Addr) (pf : PSp (WS P w K W)) (Q : W.Ω × Sto → D → Prop) (ω1 : W.Ω × Sto) (d : D) : Prop := ∃ a fs, d = .adr a ∧ ω1.2 a = some (.mi C fs) ∧ pf ω1 [d] Q (fun _ _ => False)
def qPropS (C : Addr) (pf : PSp (WS P w K W)) (qa : QT (WS P w K W)) : QT (WS P w K W) := fun ω ρ Q E => qa ω ρ (fun ω1 d => kPropS C pf Q ω1 d) E
theorem qe_propS (hK : X.K = K) (he : QE X m (WS P w K W) Wo a qa) (c : Cls X.K C) (hp : PropOf X.K C fn p g) (F : FnOk X.prog X.w X.K X.mg X.base (L2N.CX X.prog X.w) k g fd ps (spM .A X.K (WS P w K W) pf)) (hr : Room (k + 1) X.A) (hb : Binds X.K fd ps [])
    (hab : attributeBase a fn X.env (eval a X.env) = eval a X.env := by rfl) : QE X .A (WS P w K W) Wo (.Attribute a fn pos) (qPropS C pf qa) := by
  subst hK
  exact PE.imp (pe_prop he c hp F hr hb .nil passNox hab) fun σ H Q ⟨F, T, ω, ρ, Qp, Ep, R, q, hx, kk⟩ =>
  ⟨F, T, ω, ρ, _, Ep, R, q, hx, fun T1 ω1 d v H1 R1 e1 r1 ⟨a, fs, z, hs, q1⟩ => by
    subst z
    have := RC.adr r1.c
    subst this
    obtain ⟨dx, gs, h1, _, _⟩ := WS.ok R1 hs
    have hz : spM .A X.K (WS P w X.K W) pf [.ref a] H1 Q (WE (fun _ _ _ _ => False) σ) := sp_at R1 e1 (fun _ _ _ _ _ _ _ _ z => z) (.cons (.adr a) .nil) q1 kk
    exact ⟨a, dx, _, rfl, h1, hz⟩⟩
def kGetO (C : Addr) (pf : PSp (WS P w K W)) (Q : W.Ω × Sto → D → Prop) (E : W.Ω × Sto → Exn → Prop) (x : D) (ω2 : W.Ω × Sto) (y : D) : Prop := ∃ a fs, x = .adr a ∧ ω2.2 a = some (.mi C fs) ∧ pf ω2 [x, y] Q E
def qGetO (C : Addr) (pf : PSp (WS P w K W)) (qa qb : QT (WS P w K W)) : QT (WS P w K W) := fun ω ρ Q E => qa ω ρ (fun ω1 x => qb ω1 ρ (fun ω2 y => kGetO C pf Q E x ω2 y) E) E
theorem qe_getO (hK : X.K = K) (c : GetO X.K C g) (F : FnR X.prog X.w X.K X.mg X.base (L2N.CX X.prog X.w) k g (spM mr X.K (WS P w K W) pf)) (hr : Room (k + 1) X.A) (hx : ∀ σ, PassesAt (L2N.CX X.prog X.w) X σ (WE Wo σ)) (ha : QE X m (WS P w K W) Wo a qa) (hb : QE X m1 (WS P w K W) Wo b qb) (hm1 : m1.st = true := by rfl)
    (hsl : ∀ x v, subscripted b true x v = runValue (.builtin "lifetime.subscript" ⟨[x, v], []⟩) := by intro _ _; with_unfolding_all rfl) : QE X mr (WS P w K W) Wo (.Subscript a b pos) (qGetO C pf qa qb) := by
  subst hK
  exact PE.imp (pe_getO c F hr hx ha hb hsl) fun σ H Q ⟨F, T, ω, ρ, Qp, Ep, R, q, hx, kk⟩ =>
  ⟨F, T, ω, ρ, _, Ep, R, q, hx, fun T1 ω1 x v H1 R1 e1 r1 q1 => ⟨F, T1, ω1, ρ, _, Ep, R1, q1, hx, fun T2 ω2 y u H2 R2 e2 r2 ⟨a, fs, z, hs, q2⟩ => by
    subst z
    have := RC.adr r1.c
    subst this
    obtain ⟨dx, gs, h1, _, _⟩ := WS.ok R2 hs
    exact ⟨a, dx, _, rfl, h1, sp_at R2 (e1.trans e2) hx (.cons (.adr a) (.cons (r2.a hm1) .nil)) q2 kk⟩⟩⟩
def kSetO2 (C : Addr) (pf : PSp (WS P w K W)) (P' : PEn (WS P w K W)) (ρ : List Sl) (z x : D) (ω3 : W.Ω × Sto) (y : D) : Prop := ∃ a fs, x = .adr a ∧ ω3.2 a = some (.mi C fs) ∧ pf ω3 [x, y, z] (fun ω' _ => P'.nx ω' ρ) fun ω' y => P'.ex ω' y ρ
def sSetItO (C : Addr) (pf : PSp (WS P w K W)) (qe qo qi : QT (WS P w K W)) : QTS (WS P w K W) := fun P' ω ρ => qe ω ρ (fun ω1 z => qo ω1 ρ (fun ω2 x => qi ω2 ρ (fun ω3 y => kSetO2 C pf P' ρ z x ω3 y) fun ω' y => P'.ex ω' y ρ) fun ω' y => P'.ex ω' y ρ) fun ω' y => P'.ex ω' y ρ
theorem qs_setO2 (hK : X.K = K) (c : SetO X.K C g) (F : FnR X.prog X.w X.K X.mg X.base (L2N.CX X.prog X.w) k g (spM .A X.K (WS P w K W) pf)) (hr : Room k X.A) (hx : ∀ σ, PassesAt (L2N.CX X.prog X.w) X σ (WE Wo σ)) (he : QE X m (WS P w K W) Wo e qe) (ho : QE X m1 (WS P w K W) Wo o qo) (hi : QE X m2 (WS P w K W) Wo i qi) (hm : m.st = true := by rfl) (hm2 : m2.st = true := by rfl)
    (ha : ∀ v, assign (.Subscript o i spos) X.env v = (do
      let ov ← holding [v] (eval o X.env)
      let iv ← holding [v, ov] (eval i X.env)
      standAt spos
      holding [v, ov, iv] (setItem ov iv v)
      release [v, ov, iv] []) := by intro _; rfl)
    (hs : swapsWithSole [.Subscript o i spos] e pos.line X.env = pure false := by rfl) (hw : swappedStores [.Subscript o i spos] e X.env = pure none := by rfl) (h1 : (assignEach [.Subscript o i spos] X.env).map (·.2) = [assign (.Subscript o i spos) X.env] := by rfl) :
    QS X mr (WS P w K W) Wo (.Assign [.Subscript o i spos] e pos) (sSetItO C pf qe qo qi) := by
  subst hK
  exact PS.imp (ps_setO c F hr hx he ho hi ha hs hw h1) fun D σ H ⟨F, T, ω, ρ, P', R, q, S⟩ =>
  ⟨F, T, ω, ρ, _, _, R, q, S.xok, fun T1 ω1 z v H1 R1 e1 r1 q1 => ⟨F, T1, ω1, ρ, _, _, R1, q1, S.xok, fun T2 ω2 x u H2 R2 e2 r2 q2 => ⟨F, T2, ω2, ρ, _, _, R2, q2, S.xok, fun T3 ω3 y u H3 R3 e3 r3 ⟨a, fs, zz, hs, q3⟩ => by
    subst zz
    have := RC.adr r2.c
    subst this
    obtain ⟨dx, gs, h1, _, _⟩ := WS.ok R3 hs
    have rz := R1.ext_rep (e2.trans e3) (r1.a hm)
    exact ⟨a, dx, _, rfl, h1, sp_at (T := T3) R3 .refl S.xok (.cons (.adr a) (.cons (r3.a hm2) (.cons rz .nil))) q3 fun T' ω' d v H' R' e' r' q' => S.nx _ _ ρ σ _ R' q'⟩⟩⟩⟩
def kPset (C : Addr) (pf : PSp (WS P w K W)) (P' : PEn (WS P w K W)) (ρ : List Sl) (z : D) (ω2 : W.Ω × Sto) (x : D) : Prop := ∃ a fs, x = .adr a ∧ ω2.2 a = some (.mi C fs) ∧ pf ω2 [x, z] (fun ω' _ => P'.nx ω' ρ) fun ω' y => P'.ex ω' y ρ
def sPsetS (C : Addr) (pf : PSp (WS P w K W)) (qe qo : QT (WS P w K W)) : QTS (WS P w K W) := fun P' ω ρ => qe ω ρ (fun ω1 z => qo ω1 ρ (fun ω2 x => kPset C pf P' ρ z ω2 x) fun ω' y => P'.ex ω' y ρ) fun ω' y => P'.ex ω' y ρ
theorem qs_psetS (hK : X.K = K) (cl : Cls X.K C) (c : PropSet X.K C fn p g) (F : FnR X.prog X.w X.K X.mg X.base (L2N.CX X.prog X.w) k g (spM .A X.K (WS P w K W) pf)) (hr : Room (k + 2) X.A) (hx : ∀ σ, PassesAt (L2N.CX X.prog X.w) X σ (WE Wo σ)) (he : QE X m (WS P w K W) Wo e qe) (ho : QE X m1 (WS P w K W) Wo o qo) (hm : m.st = true := by rfl)
    (hs : swapsWith e (some (.Attribute o fn p')) pos.line X.env = pure false := by rfl) : QS X mr (WS P w K W) Wo (.Assign [.Attribute o fn p'] e pos) (sPsetS C pf qe qo) := by
  subst hK
  exact PS.imp (ps_propSet cl c F hr hx he ho hs) fun D σ H ⟨F, T, ω, ρ, P', R, q, S⟩ =>
  ⟨F, T, ω, ρ, _, _, R, q, S.xok, fun T1 ω1 z v H1 R1 e1 r1 q1 => ⟨F, T1, ω1, ρ, _, _, R1, q1, S.xok, fun T2 ω2 x u H2 R2 e2 r2 ⟨a, fs, zz, hs, q3⟩ => by
    subst zz
    have := RC.adr r2.c
    subst this
    obtain ⟨dx, gs, h1, _, _⟩ := WS.ok R2 hs
    have rz := R1.ext_rep e2 (r1.a hm)
    exact ⟨a, dx, _, rfl, h1, sp_at (T := T2) R2 .refl S.xok (.cons (.adr a) (.cons rz .nil)) q3 fun T' ω' d v H' R' e' r' q' => S.nx _ _ ρ σ _ R' q'⟩⟩⟩
def kIsS (C : Addr) (k : Bool) (Q : W.Ω × Sto → D → Prop) (ω1 : W.Ω × Sto) (d : D) : Prop := ∃ a fs, d = .adr a ∧ ω1.2 a = some (.mi C fs) ∧ Q ω1 (.bl k)
def qIsS (C : Addr) (k : Bool) (qa : QT (WS P w K W)) : QT (WS P w K W) := fun ω ρ Q E => qa ω ρ (fun ω1 d => kIsS C k Q ω1 d) E
def qMakeSK (C : Addr) (n m : Nat) (pf : PSp (WS P w K W)) (qs qk : QTA (WS P w K W)) : QT (WS P w K W) := fun ω ρ Q E => qs ω ρ (fun ω1 ds => qk ω1 ρ (fun ω2 es => ds.length = n ∧ es.length = m ∧ ∀ x, ω2.2 x = none → pf (ω2.1, ω2.2.put x (.mi C [])) (.adr x :: (ds ++ es)) (fun ω3 d => d = .non ∧ Q ω3 (.adr x)) E) E) E
end
section
variable {P : Program} {w : World} {K : PySem.W.Frag} {W : Wrl} {ω : W.Ω × Sto} {ρ : List Sl} {Q : W.Ω × Sto → D → Prop} {E : W.Ω × Sto → Exn → Prop} {P' : PEn (WS P w K W)} {C a : Addr} {fs : List (Str × D)} {k : Bool} {n m : Nat} {x y z : D} {qa qb qe qo qi : QT (WS P w K W)} {qs qk : QTA (WS P w K W)} {pf : PSp (WS P w K W)}
theorem v_propS (h : qa ω ρ (fun ω1 d => kPropS C pf Q ω1 d) E) : qPropS C pf qa ω ρ Q E := h
theorem v_kPropS (h1 : ω.2 a = some (.mi C fs)) (h : pf ω [.adr a] Q (fun _ _ => False)) : kPropS C pf Q ω (.adr a) := ⟨a, fs, rfl, h1, h⟩
theorem v_getO (h : qa ω ρ (fun ω1 x => qb ω1 ρ (fun ω2 y => kGetO C pf Q E x ω2 y) E) E) : qGetO C pf qa qb ω ρ Q E := h
theorem v_kGetO (h1 : ω.2 a = some (.mi C fs)) (h : pf ω [.adr a, y] Q E) : kGetO C pf Q E (.adr a) ω y := ⟨a, fs, rfl, h1, h⟩
theorem v_setO2 (h : qe ω ρ (fun ω1 z => qo ω1 ρ (fun ω2 x => qi ω2 ρ (fun ω3 y => kSetO2 C pf P' ρ z x ω3 y) fun ω' y => P'.ex ω' y ρ) fun ω' y => P'.ex ω' y ρ) fun ω' y => P'.ex ω' y ρ) : sSetItO C pf qe qo qi P' ω ρ := h
theorem v_kSetO2 (h1 : ω.2 a = some (.mi C fs)) (h : pf ω [.adr a, y, z] (fun ω' _ => P'.nx ω' ρ) fun ω' y => P'.ex ω' y ρ) : kSetO2 C pf P' ρ z (.adr a) ω y := ⟨a, fs, rfl, h1, h⟩
theorem v_psetS (h : qe ω ρ (fun ω1 z => qo ω1 ρ (fun ω2 x => kPset C pf P' ρ z ω2 x) fun ω' y => P'.ex ω' y ρ) fun ω' y => P'.ex ω' y ρ) : sPsetS C pf qe qo P' ω ρ := h
theorem v_kPset (h1 : ω.2 a = some (.mi C fs)) (h : pf ω [.adr a, z] (fun ω' _ => P'.nx ω' ρ) fun ω' y => P'.ex ω' y ρ) : kPset C pf P' ρ z ω (.adr a) := ⟨a, fs, rfl, h1, h⟩
theorem v_isiS (h : qa ω ρ (fun ω1 d => kIsS C k Q ω1 d) E) : qIsS C k qa ω ρ Q E := h
theorem v_kIsS (h1 : ω.2 a = some (.mi C fs)) (h : Q ω (.bl k)) : kIsS C k Q ω (.adr a) := ⟨a, fs, rfl, h1, h⟩
theorem v_makeSK (h : qs ω ρ (fun ω1 ds => qk ω1 ρ (fun ω2 es => ds.length = n ∧ es.length = m ∧ ∀ x, ω2.2 x = none → pf (ω2.1, ω2.2.put x (.mi C [])) (.adr x :: (ds ++ es)) (fun ω3 d => d = .non ∧ Q ω3 (.adr x)) E) E) E) : qMakeSK C n m pf qs qk ω ρ Q E := h
theorem v_makeS {qf : QT (WS P w K W)} (h : qf ω ρ (fun ω0 d => kAdr C d (qs ω0 ρ (fun ω1 ds => ∀ x, ω1.2 x = none → pf (ω1.1, ω1.2.put x (.mi C [])) (.adr x :: ds) (fun ω2 d => d = .non ∧ Q ω2 (.adr x)) E) E)) E) : qMakeS C pf qf qs ω ρ Q E := h
def kMethS (C : Addr) (mn : Str) (R : Prop) (ω1 : W.Ω × Sto) (d : D) : Prop := ∃ a fs, d = .adr a ∧ ω1.2 a = some (.mi C fs) ∧ fs.lookup mn = none ∧ R
theorem v_methS {mn : Str} (h : qo ω ρ (fun ω1 d => kMethS C mn (qs ω1 ρ (fun ω2 es => pf ω2 (d :: es) Q E) E) ω1 d) E) : qMethS C mn pf qo qs ω ρ Q E := h
theorem v_kMethS {mn : Str} {R : Prop} (h1 : ω.2 a = some (.mi C fs)) (h2 : fs.lookup mn = none) (h : R) : kMethS C mn R ω (.adr a) := ⟨a, fs, rfl, h1, h2, h⟩
end
end LW
namespace LW
open PySem PySem.Spec PyProof.Rows L2
section
variable {X : Cx} {P : Program} {w : World} {K : PySem.W.Frag} {W : Wrl} {Wo : WX} {m1 : Md} {o e : Expr} {es : List Expr} {pos apos : Pos} {qo : QT (WS P w K W)} {qs : QTA (WS P w K W)}
theorem ders_refl {st : Sto} : ∀ ds : List D, Ders st ds ds
  | [] => .nil
  | d :: ds => .cons (.inl rfl) (ders_refl ds)
def qMtLS (f : D → List D → (D → Prop) → Prop) (qo : QT (WS P w K W)) (qs : QTA (WS P w K W)) : QT (WS P w K W) := fun ω ρ Q E => qo ω ρ (fun ω1 d => ∃ l ds1, d = .adr l ∧ ω1.2 l = some (.ml ds1) ∧ qs ω1 ρ (fun ω2 es => ∃ ds, ω2.2 l = some (.ml ds) ∧ f (.lst ds) es (Q ω2)) E) E
theorem qe_bmLS {name : Str} {id : String} {r : V → List V → Hp → VK → Prop} {f : D → List D → (D → Prop) → Prop} (hK : X.K = K) (slot : Slot "list" name id) (hty : typeOf (.builtin id) = pure (.type "method_descriptor")) (hm : MtR X id r) (hp : MtQ .A X.K r f) (ho : QE X m1 (WS P w K W) Wo o qo) (ha : QA X .C (WS P w K W) Wo (e :: es) qs)
    (hbase : attributeBase o name X.env (eval o X.env) = eval o X.env := by rfl)
    (hfew : ((backTo pos (starEach (e :: es) X.env)).all (fun x => !x.1) && (backToKw pos (keywordEach [] X.env)).all (fun x => x.1.isSome)
      && decide ((e :: es).length + ([] : List Keyword).length + (if ([] : List Keyword).isEmpty then 0 else 1) < 30)) = true := by rfl)
    (hline : (apos.endLine == pos.line) = true := by rfl) (hs : starEach (e :: es) X.env = (false, eval e X.env) :: starEach es X.env := by rfl) (hplain : (backTo pos (starEach es X.env)).any (·.1) = false := by rfl) :
    QE X .A (WS P w K W) Wo (.Call (.Attribute o name apos) (e :: es) [] pos) (qMtLS f qo qs) := by
  subst hK
  exact PE.imp (pe_bm PySem.F.plainAttrs_list slot hty hm ho ha hbase hfew hline hs hplain) fun σ H Q ⟨F, T, ω, ρ, Qp, Ep, R, q, hx, kk⟩ =>
  ⟨F, T, ω, ρ, _, Ep, R, q, hx, fun T1 ω1 d v H1 R1 e1 r1 ⟨l, ds1, z, hs1, q1⟩ => by
    subst z
    have := RC.adr r1.c
    subst this
    obtain ⟨xs1, h1, _⟩ := WS.ok R1 hs1
    refine ⟨.inl ⟨rfl, xs1, sql_of h1⟩, F, T1, ω1, ρ, _, Ep, R1, q1, hx, fun T2 ω2 es' vs H2 R2 e2 r2 ⟨ds, hs2, q2⟩ => ?_⟩
    obtain ⟨xs, h2, rr⟩ := WS.ok R2 hs2
    have hs : ∀ l n, ω2.2 l = some n → MOk P w X.K H2 l n := fun l n h => WS.ok R2 h
    have ra : ROs .C X.K H2 (Spr F T2 ρ) (l :: (dersA es' ++ owns ρ)) es' vs := ROs.der (m := .C) (st := ω2.2) rfl hs (ders_refl es') (fun a ha => List.mem_cons_of_mem _ (List.mem_append_left _ ha)) (fun a ha => List.mem_cons_of_mem _ (List.mem_append_right _ ha)) r2
    refine hp _ (l :: (dersA es' ++ owns ρ)) H2 (.lst ds) es' (.ref l) vs Q _ R2.spl (.inl (.inr ⟨l, xs, ds, rfl, rfl, List.mem_cons_self, h2, rr.less fun _ _ => trivial⟩)) ra q2 fun x u H' g rr qq => ?_
    exact kk T2 ω2 x u H' (R2.grow g) ((e1.trans e2).trans (Ext.of0 g)) rr qq⟩
end
section
variable {P : Program} {w : World} {K : PySem.W.Frag} {W : Wrl} {ω : W.Ω × Sto} {ρ : List Sl} {Q : W.Ω × Sto → D → Prop} {E : W.Ω × Sto → Exn → Prop} {qo : QT (WS P w K W)} {qs : QTA (WS P w K W)} {f : D → List D → (D → Prop) → Prop} {l : Addr} {ds : List D}
def kMtLS (f : D → List D → (D → Prop) → Prop) (ρ : List Sl) (Q : W.Ω × Sto → D → Prop) (E : W.Ω × Sto → Exn → Prop) (qs : QTA (WS P w K W)) (ω1 : W.Ω × Sto) (d : D) : Prop := ∃ l ds1, d = .adr l ∧ ω1.2 l = some (.ml ds1) ∧ qs ω1 ρ (fun ω2 es => ∃ ds, ω2.2 l = some (.ml ds) ∧ f (.lst ds) es (Q ω2)) E
def kMtLS2 (f : D → List D → (D → Prop) → Prop) (Q : W.Ω × Sto → D → Prop) (l : Addr) (ω2 : W.Ω × Sto) (es : List D) : Prop := ∃ ds, ω2.2 l = some (.ml ds) ∧ f (.lst ds) es (Q ω2)
theorem v_mtLS (h : qo ω ρ (fun ω1 d => kMtLS f ρ Q E qs ω1 d) E) : qMtLS f qo qs ω ρ Q E := h
theorem v_kMtLS (h1 : ω.2 l = some (.ml ds)) (h : qs ω ρ (fun ω2 es => kMtLS2 f Q l ω2 es) E) : kMtLS f ρ Q E qs ω (.adr l) := ⟨l, ds, rfl, h1, h⟩
theorem v_kMtLS2 {es : List D} (h1 : ω.2 l = some (.ml ds)) (h : f (.lst ds) es (Q ω)) : kMtLS2 f Q l ω es := ⟨ds, h1, h⟩
end
end LW
namespace LW
open PySem PySem.Spec PyProof.Rows L2
def Tape (b : Nat) (H : Hp) (t : Addr) : Prop := ∃ (a : Addr) (o : Obj) (ns : List Int) (i n k : Int), H t = some (.lst [.ref a, .int i, .int n, .int k]) ∧ H a = some (.frz o (.lst (ns.map V.int))) ∧ ns.length ≤ 63 ∧ 0 ≤ i ∧ 0 ≤ n ∧ 0 ≤ k ∧ k ≤ b
theorem Tape.mono {b b' : Nat} {H : Hp} {t : Addr} (h : Tape b H t) (l : b ≤ b') : Tape b' H t := by
  obtain ⟨a, o, ns, i, n, k, h1, h2, h4, h5, h6, h7, h8⟩ := h
  exact ⟨a, o, ns, i, n, k, h1, h2, h4, h5, h6, h7, by omega⟩
theorem Tape.gr {b : Nat} {H H' : Hp} {t : Addr} {S : List Addr} (h : Tape b H t) (g : Gr S H H') (hn : t ∉ S) : Tape b H' t := by
  obtain ⟨a, o, ns, i, n, k, h1, h2, h3⟩ := h
  exact ⟨a, o, ns, i, n, k, g.keep _ _ h1 hn, g.get h2 rfl, h3⟩
theorem Tape.gr0 {b : Nat} {H H' : Hp} {t : Addr} (h : Tape b H t) (g : Gr [] H H') : Tape b H' t := h.gr g (by simp)
theorem Tape.gr1 {b : Nat} {H H' : Hp} {t l : Addr} (h : Tape b H t) (g : Gr [l] H H') (hn : t ≠ l) : Tape b H' t := h.gr g (by simpa using hn)
theorem Tape.at {b : Nat} {H : Hp} {t : Addr} (h : Tape b H t) : ∃ xs, H t = some (.lst xs) := by
  obtain ⟨a, o, ns, i, n, k, h1, _⟩ := h
  exact ⟨_, h1⟩
theorem Tape.ne {b : Nat} {H : Hp} {t l : Addr} (h : Tape b H t) (e : H l = none) : t ≠ l := by
  obtain ⟨xs, h1⟩ := h.at
  exact ne_of_none h1 e
inductive TS
  | scr (a : Addr) (ns : List Int)
  | tape (t : Addr) (b : Nat)
def FzL (K : PySem.W.Frag) (H : Hp) (a : Addr) (xs : List V) : Prop := (∃ o, H a = some (.frz o (.lst xs))) ∨
  ∃ (o : Obj) (its : Array Value) (n : Nat), K.lookup a = some o ∧ o.cls = .type "list" ∧ o.dict = none ∧ o.data = .seq its n ∧ its.size ≤ sizeLine ∧ Vals xs its.toList
theorem FzL.sql {K : PySem.W.Frag} {H : Hp} {a : Addr} {xs : List V} (h : FzL K H a xs) : SqL K H a xs := h.imp .inr id
theorem FzL.of {K : PySem.W.Frag} {H : Hp} {a : Addr} {xs : List V} (hO : Only H) (h : SqL K H a xs) : FzL K H a xs := by
  rcases h with (h | h) | h
  · rcases hO a with z | ⟨o, ys, z⟩
    · rw [z] at h; cases h
    · rw [z] at h; cases h
  · exact .inl h
  · exact .inr h
def invT (K : PySem.W.Frag) : TS → ASet → Hp → Prop
  | .scr a ns, T, H => (∀ x, ¬ T x) ∧ FzL K H a (ns.map V.int) ∧ ns.length ≤ 63
  | .tape t b, T, H => (∀ x, T x ↔ x = t) ∧ Tape b H t
@[reducible] def WT (K : PySem.W.Frag) : Wrl where
  Ω := TS
  inv := invT K
  st := by
    intro ω T U H H' h g hU
    cases ω with
    | scr a ns =>
      obtain ⟨h1, h2, h3⟩ := h
      refine ⟨h1, ?_, h3⟩
      rcases h2 with ⟨o, h2⟩ | h2
      · exact .inl ⟨o, g.keep _ _ h2 (.inl rfl)⟩
      · exact .inr h2
    | tape t b =>
      obtain ⟨h1, a, o, ns, i, n, k, h2, h3, h4⟩ := h
      exact ⟨h1, a, o, ns, i, n, k, g.keep _ _ h2 (.inr fun z => hU t z ((h1 t).mpr rfl)), g.keep _ _ h3 (.inl rfl), h4⟩
  lv := by
    intro ω T H a h ht
    cases ω with
    | scr a ns => exact absurd ht (h.1 _)
    | tape t b =>
      obtain ⟨h1, a, o, ns, i, n, k, h2, h3, h4⟩ := h
      have := (h1 _).mp ht
      subst this
      exact ⟨_, h2, rfl⟩
variable {K : PySem.W.Frag}
def pf__law_begin (K : PySem.W.Frag) : PSp (WT K) := fun ω ds Q _ => ∃ (a : Addr) (ns : List Int), ω = TS.scr a ns ∧ ds = [.adr a] ∧ ∀ t : Addr, Q (TS.tape t 0) (.adr t)
def pf__law_draw (K : PySem.W.Frag) : PSp (WT K) := fun ω ds Q _ => ∃ (t : Addr) (b : Nat) (m : Int), ω = TS.tape t b ∧ ds = [.adr t, .int m] ∧ b < 1000000000 ∧ 0 < m ∧ m < 2 ^ 256 ∧ ∀ r : Int, 0 ≤ r → r < m → Q (TS.tape t (b + 1)) (.int r)
theorem v_begin {a : Addr} {ns : List Int} {Q : TS → D → Prop} {E : TS → Exn → Prop} (h : ∀ t : Addr, Q (.tape t 0) (.adr t)) : pf__law_begin K (TS.scr a ns) [.adr a] Q E := ⟨a, ns, rfl, rfl, h⟩
theorem v_draw {t : Addr} {b : Nat} {m : Int} {Q : TS → D → Prop} {E : TS → Exn → Prop} (hb : b < 1000000000) (hm : 0 < m) (hm2 : m < 2 ^ 256) (h : ∀ r : Int, 0 ≤ r → r < m → Q (.tape t (b + 1)) (.int r)) : pf__law_draw K (TS.tape t b) [.adr t, .int m] Q E := ⟨t, b, m, rfl, rfl, hb, hm, hm2, h⟩
def pf_law (K : PySem.W.Frag) : PSp (WT K) := fun ω ds Q _ => ∃ (a : Addr) (ns : List Int), ω = TS.scr a ns ∧ ds = [.adr a] ∧ ∀ ω', Q ω' (.bl true)
theorem sp_law_of {H : Hp} {a : Addr} {ns : List Int} (hl : ns.length ≤ 63) (hO : Only H) (hS : SqL K H a (ns.map V.int)) : spM .A K (WT K) (pf_law K) [.ref a] H (fun v _ => v = .bl true) (fun _ _ _ => False) :=
  ⟨nop, nop, TS.scr a ns, [.adr a], fun _ d => d = .bl true, fun _ _ => False, fun _ z => z.elim, ⟨fun _ z => z, FzL.of hO hS, hl⟩, .cons (.adr a) .nil, ⟨a, ns, rfl, rfl, fun _ => rfl⟩, fun T' ω' d v H' _ _ r q => by
    subst q
    exact (RR.c (m := .A) (os := []) (H := H) (show RR .A K H H' _ [] (.bl true) v from r)).bl, fun _ _ _ _ _ _ _ _ _ z => z.elim⟩
theorem from_begin {vs : List V} {H : Hp} {Q : VK} {E : XK} (h : spM .A K (WT K) (pf__law_begin K) vs H Q E) : ∃ (a : Addr) (ns : List Int), vs = [.ref a] ∧ SqL K H a (ns.map V.int) ∧ ns.length ≤ 63 ∧ ∀ t H', H t = none → Gr [] H H' → Tape 0 H' t → Q (.ref t) H' := by
  obtain ⟨S, T, ω, ds, Qp, Ep, hS, hi, r, ⟨a, ns, rfl, rfl, q⟩, k, kx⟩ := h
  obtain ⟨h1, h2, h3⟩ := hi
  cases r with
  | cons r r2 =>
    cases r2
    cases r
    refine ⟨a, ns, rfl, h2.sql, h3, fun t H' n g ht => ?_⟩
    exact k (fun x => x = t) (TS.tape t 0) (.adr t) _ H' ⟨(g.p0).mono fun _ z => z.elim, fun x z => .inr (by rw [z]; exact n)⟩ ⟨fun x => Iff.rfl, ht⟩ (RepA.adr t) (q t)
theorem from_draw {vs : List V} {H : Hp} {Q : VK} {E : XK} (h : spM .A K (WT K) (pf__law_draw K) vs H Q E) : ∃ (t : Addr) (m : Int) (b : Nat), vs = [.ref t, .int m] ∧ Tape b H t ∧ b < 1000000000 ∧ 0 < m ∧ m < 2 ^ 256 ∧ ∀ (r : Int) H', 0 ≤ r → r < m → Gr [t] H H' → Tape (b + 1) H' t → Q (.int r) H' := by
  obtain ⟨S, T, ω, ds, Qp, Ep, hS, hi, r, ⟨t, b, m, rfl, rfl, hb, hm, hm2, q⟩, k, kx⟩ := h
  obtain ⟨h1, h2⟩ := hi
  cases r with
  | cons r r2 =>
    cases r2 with
    | cons r2 r3 =>
      cases r3
      cases r
      cases r2
      refine ⟨t, m, b, rfl, h2, hb, hm, hm2, fun i H' i0 i1 g ht => ?_⟩
      obtain ⟨xs, hx⟩ := ht.at
      exact k T (TS.tape t (b + 1)) (.int i) _ H' ⟨(g.p1 ⟨_, hx⟩).mono fun x z => (h1 x).mpr z, fun x z => .inl z⟩ ⟨h1, ht⟩ (RepA.int i) (q i i0 i1)
def pf__law_shuffled (K : PySem.W.Frag) : PSp (WT K) := fun ω ds Q _ => ∃ (t : Addr) (b m : Nat), ω = TS.tape t b ∧ ds = [.adr t, .int m] ∧ b < 100000000 ∧ 1 ≤ m ∧ m ≤ 12 ∧ ∀ ps : List Int, IsNum ps → ps.length = m → Q (TS.tape t (b + 12)) (.lst (dInts ps))
theorem v_shuffled {t : Addr} {b m : Nat} {Q : TS → D → Prop} {E : TS → Exn → Prop} (hb : b < 100000000) (m1 : 1 ≤ m) (m2 : m ≤ 12) (h : ∀ ps : List Int, IsNum ps → ps.length = m → Q (.tape t (b + 12)) (.lst (dInts ps))) : pf__law_shuffled K (TS.tape t b) [.adr t, .int m] Q E := ⟨t, b, m, rfl, rfl, hb, m1, m2, h⟩
theorem from_shuffled {vs : List V} {H : Hp} {Q : VK} {E : XK} (h : spM .F K (WT K) (pf__law_shuffled K) vs H Q E) : ∃ (t : Addr) (m b : Nat), vs = [.ref t, .int m] ∧ Tape b H t ∧ b < 100000000 ∧ 1 ≤ m ∧ m ≤ 12 ∧ ∀ l ps H', H l = none → Gr [t] H H' → H' l = some (.lst (ps.map V.int)) → IsNum ps → ps.length = m → Tape (b + 12) H' t → Q (.ref l) H' := by
  obtain ⟨S, T, ω, ds, Qp, Ep, hS, hi, r, ⟨t, b, m, rfl, rfl, hb, m1, m2, q⟩, k, kx⟩ := h
  obtain ⟨h1, h2⟩ := hi
  cases r with
  | cons r r2 =>
    cases r2 with
    | cons r2 r3 =>
      cases r3
      cases r
      cases r2
      refine ⟨t, m, b, rfl, h2, hb, m1, m2, fun l ps H' n g hl hp lp ht => ?_⟩
      obtain ⟨xs, hx⟩ := ht.at
      refine k T (TS.tape t (b + 12)) (.lst (dInts ps)) _ H' ⟨(g.p1 ⟨_, hx⟩).mono fun x z => (h1 x).mpr z, fun x z => .inl z⟩ ⟨h1, ht⟩ ⟨l, _, _, rfl, rfl, n, fun z => ?_, hl, repsA_ints ps⟩ (q ps hp lp)
      rcases z with z | z
      · exact (hS l z).1 n
      · exact h2.ne n ((h1 l).mp z).symm
def pf__law_same : PSp W0 := fun _ ds Q _ => (∃ d e : D, ds = [d, e] ∧ d = e ∧ d.lev 8 = true ∧ Q () (.bl true)) ∨ (∃ x y : Str, ds = [.str x, .str y] ∧ x ≠ y ∧ Q () (.bl false)) ∨ ∃ (i : Int) (y : Str), ds = [.int i, .str y] ∧ Q () (.bl false)
theorem v_same {d e : D} {Q : Unit → D → Prop} {E : Unit → Exn → Prop} (h1 : d = e) (h2 : d.lev 8 = true) (h : Q () (.bl true)) : pf__law_same () [d, e] Q E := .inl ⟨d, e, rfl, h1, h2, h⟩
theorem from_same {vs : List V} {H : Hp} {Q : VK} {E : XK} (h : spM .A K W0 pf__law_same vs H Q E) : (∃ (v w : V) (d : D), vs = [v, w] ∧ Rep K H d v ∧ Rep K H d w ∧ d.lev 8 = true ∧ Q (.bl true) H) ∨ (∃ x y : Str, vs = [.str x, .str y] ∧ x ≠ y ∧ Q (.bl false) H) ∨ ∃ (i : Int) (y : Str), vs = [.int i, .str y] ∧ Q (.bl false) H := by
  obtain ⟨S, T, ω, ds, Qp, Ep, hS, hi, r, ⟨d, e, rfl, rfl, hl, q⟩ | ⟨x, y, rfl, hn, q⟩ | ⟨i, y, rfl, q⟩, k, kx⟩ := h
  · cases r with
    | cons r r2 =>
      cases r2 with
      | cons r2 r3 =>
        cases r3
        exact .inl ⟨_, _, d, rfl, r.rep, r2.rep, hl, k T () (.bl true) _ H .refl hi (RepA.bl true) q⟩
  · cases r with
    | cons r r2 =>
      cases r2 with
      | cons r2 r3 =>
        cases r3
        cases r
        cases r2
        exact .inr (.inl ⟨x, y, rfl, hn, k T () (.bl false) _ H .refl hi (RepA.bl false) q⟩)
  · cases r with
    | cons r r2 =>
      cases r2 with
      | cons r2 r3 =>
        cases r3
        cases r
        cases r2
        exact .inr (.inr ⟨i, y, rfl, k T () (.bl false) _ H .refl hi (RepA.bl false) q⟩)
end LW
namespace LW
open PySem PySem.Spec PyProof.Rows L2
abbrev numD (K : PySem.W.Frag) (ps : List Int) : D := .ins (NC K) ["places"] [.tup (dInts ps)]
def pf_Numbering (K : PySem.W.Frag) : PSp W0 := fun _ ds Q E => ∃ ns : List Int, (ds = [.lst (dInts ns)] ∨ ds = [.tup (dInts ns)]) ∧ ((¬ IsNum ns ∧ E () ⟨He.ga K "BadNumbering", none⟩) ∨ (IsNum ns ∧ Q () (numD K ns)))
section
variable {K : PySem.W.Frag}
theorem v_num {ns : List Int} {Q : Unit → D → Prop} {E : Unit → Exn → Prop} (hn : IsNum ns) (h : Q () (numD K ns)) : pf_Numbering K () [.lst (dInts ns)] Q E := ⟨ns, .inl rfl, .inr ⟨hn, h⟩⟩
theorem pure_num (ps : List Int) : (numD K ps).pure = true := by
  show ((D.tup (dInts ps)).pure && true) = true
  rw [Bool.and_true]
  exact pure_ints ps
theorem mkp_num : MkP K (NC K) (sp_Numbering___init__ K) (pf_Numbering K) where
  run := by
    rintro S T ds vs H Q E Qp Ep hS r ⟨ns, hd, q⟩ k kx x dx nx ndx ne
    have g := Gr.made (C := NC K) nx ndx
    have key : ∃ p, vs = [.ref p] ∧ (SqL K H p (ns.map V.int) ∨ TupX H p (ns.map V.int)) := by
      rcases hd with rfl | rfl
      · cases r with
        | cons r r2 =>
          cases r2
          obtain ⟨l, xs, rfl, hl, hr⟩ := repA_lst r
          rw [hr.ints] at hl
          exact ⟨l, rfl, .inl hl⟩
      · cases r with
        | cons r r2 =>
          cases r2
          cases r with
          | tup h hr =>
            rw [hr.ints] at h
            exact ⟨_, rfl, .inr h⟩
    obtain ⟨p, rfl, hp⟩ := key
    refine ⟨x, dx, p, ns, rfl, upd_same, hp.imp g.sql0 (·.gr g), q.imp (fun ⟨h1, h2⟩ => ⟨h1, fun H' g' => ?_⟩) fun ⟨h1, h2⟩ => ⟨h1, fun t H' g' hx ht => ⟨rfl, ?_⟩⟩⟩
    · exact kx ⟨He.ga K "BadNumbering", none⟩ _ none H' (g.trans0 g').p0 ⟨rfl, rfl⟩ h2
    · have gg : Gr [] H H' := g.transN g' nx
      exact k _ _ H' gg.p0 (.ins (xs := [.ref t]) hx rfl rfl (.cons (.tup ht (repsA_ints ns)) .nil)) h2
def pf_Numbering___len__ (K : PySem.W.Frag) : PSp W0 := fun _ ds Q _ => ∃ ps : List Int, ds = [numD K ps] ∧ Q () (.int ps.length)
variable {Q : Unit → D → Prop} {E : Unit → Exn → Prop} {ps qs : List Int} {k n b : Int}
theorem v_numLen (h : Q () (.int ps.length)) : pf_Numbering___len__ K () [numD K ps] Q E := ⟨ps, rfl, h⟩
end
theorem atI_ints {ns : List Int} {k : Int} (h0 : 0 ≤ k) (h1 : k < ns.length) : atI (dInts ns) k = some (.int (atP ns k)) := by
  refine atI_of h0 ?_
  unfold dInts atP
  rw [List.getElem?_map, List.getD_eq_getElem?_getD, List.getElem?_eq_getElem (by omega)] <;> rfl
theorem length_dInts (ns : List Int) : (dInts ns).length = ns.length := by unfold dInts; rw [List.length_map]
end LW
namespace LW
open PySem PySem.Spec PyProof.Rows L2
section
variable {prog : Program} {w : World} {A : Around} {E : Value → Shared → Prop} {s : Shared} {env : Env} {K : PySem.W.Frag} {x C fe fx : Addr} {ox : Obj} {od : Option Obj} {pos : Pos} {b : Value → Sem Unit} {bdy : Sem Flow} {Q : Flow → Shared → Prop}
def WithRaised (prog : Program) (w : World) (A : Around) (E : Value → Shared → Prop) (env : Env) (pos : Pos) (x fx : Addr) (Q : Flow → Shared → Prop) (e : Value) (s : Shared) : Prop :=
  wpAny (model prog w) A (noteFrame e env) (fun _ s1 => wpAny (model prog w) A (setFlight e none) (fun _ s2 => wpAny (model prog w) A (typeOf e) (fun ty s3 => wpAny (model prog w) A (tracebackOf e) (fun tb s4 =>
    wpAny (model prog w) A (run (.call (.ref fx) ⟨[.ref x, ty, e, tb], []⟩) (some e)) (fun f s5 => f = .ret .none ∧ wpAny (model prog w) A (passOn "with" e env : Sem Flow) Q E s5) E s4) E s3) E s2) E s1) E s
theorem with_core (X : K.In s.heap) (I : PySem.W.InstAt s.heap x ox C od) (he : PySem.W.findIn K (.ref C) "__enter__" = some (some (.ref fe))) (hfe : PySem.W.isFn K (.ref fe) = true) (hx : PySem.W.findIn K (.ref C) "__exit__" = some (some (.ref fx))) (hfx : PySem.W.isFn K (.ref fx) = true)
    (h : wpAny (model prog w) A (call (.ref fe) [.ref x]) (fun v s₂ => wpAny (model prog w) A (b v >>= fun _ => bdy) (fun f s₄ => wpAny (model prog w) A (call (.ref fx) [.ref x, .none, .none, .none]) (fun _ s₅ => Q f s₅) E s₄) (WithRaised prog w A E env pos x fx Q) s₂) E s) :
    wpAny (model prog w) A (withItem false pos env (pure (.ref x)) (some b) bdy) Q E s := by
  obtain ⟨cd, hcd, ae⟩ := PySem.W.kw_along he
  obtain ⟨cd', hcd', ax⟩ := PySem.W.kw_along hx
  obtain rfl : cd = cd' := Option.some.inj (hcd.symm.trans hcd')
  obtain ⟨hh, g, d, tt, os⟩ := s
  have l1 : PySem.W.Looks (model prog w) hh (specialOnItsLine (.ref x) "__enter__") (some (.ref fe), cd.mro) := PySem.W.kw_special X I hcd ae
  have l2 : PySem.W.Looks (model prog w) hh (specialOnItsLine (.ref x) "__exit__") (some (.ref fx), cd.mro) := PySem.W.kw_special X I hcd ax
  have l3 : PySem.W.Looks (model prog w) hh (bindSpecial (.ref fe) (.ref x)) (.ref fe, [.ref x]) := PySem.W.bind_fn X _ (beq_iff_eq.mp hfe)
  have l4 : PySem.W.Looks (model prog w) hh (bindSpecial (.ref fx) (.ref x)) (.ref fx, [.ref x]) := PySem.W.bind_fn X _ (beq_iff_eq.mp hfx)
  have l5 : PySem.W.Looks (model prog w) hh (aMethodOfAnotherBuiltinTypeStops (.ref fe) cd.mro) () := PySem.W.Looks.of_pure rfl
  have l6 : PySem.W.Looks (model prog w) hh (aMethodOfAnotherBuiltinTypeStops (.ref fx) cd.mro) () := PySem.W.Looks.of_pure rfl
  unfold withItem
  refine wpAny_bind (wpAny_pure (wpAny_bind (wpAny_standAt ?_)))
  simp only [Bool.false_eq_true, if_false]
  kw_lk
  refine wpAny_mono h (fun v s₂ h₂ => ?_) fun _ _ z => z
  kw_lk
  refine wpAny_attempt (PySem.W.kw_held ?_)
  show wpAny _ _ (b v >>= fun _ => bdy) _ _ _
  refine wpAny_mono h₂ (fun f s₄ h₄ => ?_) fun e s₄ h₄ => ?_
  · kw_lk
    refine wpAny_mono h₄ (fun _ s₅ h₅ => ?_) fun _ _ z => z
    kw_lk
    exact h₅
  · unfold WithRaised at h₄
    refine wpAny_bind (wpAny_mono h₄ (fun _ s1 h1 => wpAny_bind (wpAny_mono h1 (fun _ s2 h2 => wpAny_bind (wpAny_standAt (wpAny_holding ?_))) fun _ _ z => z)) fun _ _ z => z)
    refine wpAny_bind (wpAny_mono h2 (fun ty s3 h3 => wpAny_bind (wpAny_mono h3 (fun tb s4 h4 => ?_) fun _ _ z => z)) fun _ _ z => z)
    unfold withItem.marked
    refine wpAny_bind (wpAny_bind (wpAny_mono h4 (fun f s5 ⟨ef, h5⟩ => ?_) fun _ _ z => z))
    subst ef
    refine wpAny_pure (wpAny_bind (wpAny_pure (wpAny_bind (wpAny_pure ?_))))
    rw [if_neg Bool.false_ne_true]
    exact h5
end
def wWith (spH : Sp) (x : Addr) (Wo : WX) : WX := fun cls d σ H => ∃ C : Addr, cls = .ref C ∧ ∀ (a : Addr) (tv : V), H a = none → (tv = .non ∨ ∃ T, tv = .ref T) → spH [.ref x, .ref C, .ref a, tv] H (fun r H' => r = .non ∧ Wo cls d σ H') (fun _ _ _ => False)
section
variable {X : Cx} {Wo : WX} {k : Nat} {x fx : Addr} {fd : FuncData} {ps : List Str} {spH : Sp} {pos : Pos}
theorem with_exc {pins : List (Addr × Obj)} {Q : Flow → Shared → Prop} {u : Value} {s' : Shared} (hs : X.stack = X.env :: X.outer) (hf : X.env.frame = some X.env.locals) (hex : X.ex = []) (ok : X.Ok) (tk : L2N.Takes X Wo)
    (F : L2H.FnH X.prog X.w X.K X.mg X.base (L2N.CX X.prog X.w) k fx fd ps spH) (hr : L2H.RoomH k X.A) (hb : Binds X.K fd ps [])
    (xx : L2N.XE (X.tr (X.pn ++ pins) (WithRaised X.prog X.w X.A X.xe X.env pos x fx Q)) (wWith spH x Wo) u s') : WithRaised X.prog X.w X.A X.xe X.env pos x fx Q u s' := by
  have frm : X.A.frames = some (X.env :: X.outer) := by rw [ok.frames, hs]
  obtain ⟨a, B, sI, pins', σ1, H1, cls, d, rfl, J0, nb, up, sky0, na, os, ag, C, rfl, hw⟩ := xx
  have J1 : Inv X pins σ1 H1 sI := J0.ofTry ok
  have sky1 : Sky B (X.env :: X.outer) a (L2N.Zn (.ref C) d) X.env.locals s'.heap := by rw [← hs]; exact sky0
  unfold WithRaised
  refine L2N.Sky.land L2N.Zn.steady frm hf sky1 fun h3 fl3 up3 => ?_
  have J3 : Inv X pins σ1 H1 { s' with heap := h3 } := J1.landed nb fl3.1 (up.trans up3) os ag
  obtain ⟨k1, k2, k3, oe, vs, T, oT, ts, he3, hz, hd, hv1, hnT, hTe, hT, hdT, ht3⟩ := id fl3
  have nT : H1 T = none := (J1.inGround nb).gone hnT
  have offF : ∀ (b : Addr) (o : Obj) (fv : Array Value), h3.get? b = some o → o.data = .fields fv → b ∉ frs (X.env :: X.outer) := fun b o fv e dd hm => by
    obtain ⟨_, o2, e2, nf⟩ := k3.mem hm
    obtain rfl : o = o2 := Option.some.inj (e.symm.trans e2)
    exact nf _ dd
  have inL : X.env.locals ∈ frs (X.env :: X.outer) := List.mem_filterMap.mpr ⟨X.env, List.mem_cons_self, hf⟩
  have inF : ∀ b, b ∈ X.fs → b ∈ frs (X.env :: X.outer) := fun b hm => by
    obtain ⟨v, hv, q⟩ := List.mem_filterMap.mp hm
    exact List.mem_filterMap.mpr ⟨v, List.mem_cons_of_mem _ hv, q⟩
  have offA := offF a oe vs he3 hd
  have offT := offF T oT ts hT hdT
  have noC : ∀ {o : Obj} {fv : Array Value}, o.data = .fields fv → ∀ v, o.data ≠ .cell v := fun h v z => by rw [h] at z; cases z
  obtain ⟨pl, epl⟩ : ∃ pl, pl = (a, oe) :: (T, oT) :: (X.pn ++ pins) := ⟨_, rfl⟩
  have S3 : Inv (X.suite a pl) [] σ1 H1 { s' with heap := h3 } := ⟨J3.ok.suite _ _, J3.os, J3.bare, J3.base, J3.loc, J3.cell, J3.free, J3.freeC, fun p hp => by
    have hp : p ∈ pl := by simpa using hp
    rw [epl] at hp
    rcases List.mem_cons.mp hp with rfl | hp
    · exact ⟨he3, na, fun z => offA (by rw [show a = X.env.locals from z]; exact inL), fun z => offA (inF _ z), noC hd⟩
    rcases List.mem_cons.mp hp with rfl | hp
    · exact ⟨hT, nT, fun z => offT (by rw [show T = X.env.locals from z]; exact inL), fun z => offT (inF _ z), noC hdT⟩
    · exact J3.pin p hp, J3.hok, J3.len⟩
  -- the trace that the exit is handed
  refine wpAny_typeOf_ref he3 ?_
  rw [hz.1]
  have t1 : ∃ v1, ts[1]? = some v1 := by
    have := (Array.getElem?_eq_some_iff.mp ht3).1
    exact ⟨_, Array.getElem?_eq_getElem (by omega)⟩
  obtain ⟨v1, t1⟩ := t1
  have goOn : ∀ (tb : Value) (tv : V), RelV tv tb → (tv = .non ∨ ∃ T, tv = .ref T) → wpAny (model X.prog X.w) X.A (run (.call (.ref fx) ⟨[.ref x, .ref C, .ref a, tb], []⟩) (some (.ref a))) (fun f s5 => f = .ret .none ∧ wpAny (model X.prog X.w) X.A (PySem.passOn "with" (.ref a) X.env : Sem Flow) Q X.xe s5) X.xe { s' with heap := h3 } := fun tb tv rt ht => by
    have hsp := hw a tv na ht
    have hl : ([Value.ref x, .ref C, .ref a, tb]).length = ps.length := by rw [← F.len _ _ _ _ hsp] <;> rfl
    have bd := hb { s' with heap := h3 } [Value.ref x, .ref C, .ref a, tb] S3.kIn (by rw [List.append_nil]; exact hl)
    rw [List.append_nil] at bd
    have hp0 : (a, oe) ∈ pl := by rw [epl]; exact List.mem_cons_self
    have P1 := S3.pin (a, oe) (List.mem_append_left _ hp0)
    have hpin : L2H.PinOk (X.suite a pl).stack H1 { s' with heap := h3 } (a, oe) := ⟨P1.1, P1.2.1, fun hm => (List.mem_cons.mp (S3.stkSub a hm)).elim P1.2.2.1 P1.2.2.2.1, P1.2.2.2.2⟩
    refine wpAny_run (codeAny_mono (F.run (X.suite a pl).A (X.suite a pl).stack { s' with heap := h3 } H1 ⟨[Value.ref x, .ref C, .ref a, tb], []⟩ [Value.ref x, .ref C, .ref a, tb] [V.ref x, .ref C, .ref a, tv] _ _ (a, oe) ⟨hr.dp, hr.un⟩ ⟨rfl, vs, hd, hz.2.2 vs hd⟩ hpin S3.env0 bd (.cons rfl (.cons rfl (.cons rfl (.cons rt .nil)))) hsp) fun r s6 hq => ?_)
    match r, hq with
    | .error e, hq =>
      obtain ⟨_, _, _, _, _, _, _, _, _, _, _, _, z⟩ := hq
      exact z.elim
    | .ok .next, hq => exact hq.elim
    | .ok .brk, hq => exact hq.elim
    | .ok .cont, hq => exact hq.elim
    | .ok (.ret u6), hq =>
      obtain ⟨v6, H6, S6, r6, ev, q6⟩ := S3.after hq
      subst ev
      obtain rfl : u6 = Value.none := r6
      refine ⟨rfl, ?_⟩
      have inPl : ∀ p, p ∈ X.pn ++ pins → p ∈ pl := fun p h => by rw [epl]; exact List.mem_cons_of_mem _ (List.mem_cons_of_mem _ h)
      have J6 : Inv X pins σ1 H6 s6 := ⟨ok, S6.os, S6.bare, S6.base, S6.loc, S6.cell, S6.free, S6.freeC, fun p h => S6.pin p (List.mem_append_left _ (inPl p h)), S6.hok, S6.len⟩
      have qa := S6.pin (a, oe) (List.mem_append_left _ hp0)
      have qT := S6.pin (T, oT) (List.mem_append_left _ (by rw [epl]; exact List.mem_cons_of_mem _ List.mem_cons_self))
      have apart : ∀ b o, sI.heap.get? b = some o → b ≠ a ∧ b ≠ T := fun b o e => by
        by_cases hb : b ∈ frs X.stack
        · rw [hs] at hb
          exact ⟨fun z => offA (by rw [← z]; exact hb), fun z => offT (by rw [← z]; exact hb)⟩
        · have z := nb b o e hb
          refine ⟨fun h => ?_, fun h => ?_⟩
          · rw [h, k2] at z; cases z
          · rw [h, hnT] at z; cases z
      have apart0 : ∀ b o, X.s_0.heap.get? b = some o → b ≠ a ∧ b ≠ T := fun b o e => by
        obtain ⟨o2, z⟩ := J1.base.there b o e (by rw [hex]; simp)
        exact apart b o2 z
      obtain ⟨G, gy, gn⟩ := restrict s6.heap fun b => !(decide (b = a) || decide (b = T))
      have gIn : ∀ b o, G.get? b = some o → s6.heap.get? b = some o ∧ b ≠ a ∧ b ≠ T := fun b o e => by
        cases z : (!(decide (b = a) || decide (b = T))) with
        | false => rw [gn b z] at e; cases e
        | true =>
          rw [gy b z] at e
          refine ⟨e, fun h => ?_, fun h => ?_⟩
          · rw [decide_eq_true h] at z; cases z
          · rw [decide_eq_true h, Bool.or_true] at z; cases z
      have gOf : ∀ b o, b ≠ a → b ≠ T → s6.heap.get? b = some o → G.get? b = some o := fun b o n1 n2 e => by
        rw [gy b (by rw [decide_eq_false n1, decide_eq_false n2] <;> rfl)]; exact e
      have I6 : Inv X pins σ1 H6 { s6 with heap := G } := J6.less (fun b o e => (gIn b o e).1) gOf ⟨oe, vs, qa.1, hd⟩ ⟨oT, ts, qT.1, hdT⟩ qa.2.1 qT.2.1 apart0 fun p h => apart p.1 p.2 (J1.pin p h).1
      obtain ⟨B6, eB⟩ : ∃ B6, B6 = PySem.W.hideAll G (frs X.stack) := ⟨_, rfl⟩
      have bIn : ∀ b o, B6.get? b = some o → s6.heap.get? b = some o ∧ b ≠ a ∧ b ≠ T := fun b o e => gIn b o (PySem.W.of_hideAll _ (eB ▸ e))
      have bNo : ∀ b, (b = a ∨ b = T) → B6.get? b = none := fun b hb => by
        cases z : B6.get? b with
        | none => rfl
        | some o =>
          obtain ⟨_, n1, n2⟩ := bIn b o z
          exact hb.elim (fun h => absurd h n1) fun h => absurd h n2
      have ffr : s6.heap.FunFrames B6 (X.env :: X.outer) := by
        rw [← hs, eB]
        exact funFrames_none (B := PySem.W.hideAll G (frs X.stack)) J6.stack fun b hb => PySem.W.hideAll_none _ hb
      have fl6 : HandSPX.FlyingZ B6 (X.env :: X.outer) a (L2N.Zn (.ref C) d) s6.heap := ⟨fun b o e => (bIn b o e).1, bNo a (.inl rfl), ffr, oe, vs, T, oT, ts, qa.1, hz, hd, hv1, bNo T (.inr rfl), hTe, qT.1, hdT, ht3⟩
      unfold PySem.passOn
      refine wpAny_bind (wpAny_field qa.1 hd hv1 ?_)
      rw [if_neg (show ¬ ((Value.ref T == Value.none) = true) from by simp)]
      have up : wpAny (model X.prog X.w) X.A (setFlight (.ref a) X.env.frame) (fun _ s7 => wpAny (model X.prog X.w) X.A (throw (.ref a) : Sem Flow) Q X.xe s7) X.xe s6 := by
        rw [hf]
        refine HandSPX.setFlight_upZ fl6 fun h7 hh7 up7 => wpAny_throw (tk _ _ ⟨a, B6, { s6 with heap := G }, pins, σ1, H6, .ref C, d, rfl, I6, fun b o e hb => ?_, Heap.UpToSlots.trans (Heap.UpToSlots.of_keeps fun b o e => (gIn b o e).1) up7, .inr (.inr (by rw [← hs] at hh7; exact hh7)), qa.2.1, rfl, J6.bare, q6⟩)
        rw [eB]
        exact PySem.W.hideAll_get _ e hb
      first
        | exact wpAny_bind (wpAny_pure (wpAny_bind up))
        | exact wpAny_bind up
  unfold PySem.tracebackOf
  refine wpAny_bind (wpAny_field he3 hd hv1 ?_)
  refine wpAny_bind (wpAny_field hT hdT t1 ?_)
  split
  · exact wpAny_pure (goOn .none .non rfl (.inl rfl))
  · exact wpAny_pure (goOn (.ref T) (.ref T) rfl (.inr ⟨T, rfl⟩))
end
structure WithC (K : PySem.W.Frag) (C fe fx : Addr) : Prop where
  en : PySem.W.findIn K (.ref C) "__enter__" = some (some (.ref fe))
  ef : PySem.W.isFn K (.ref fe) = true
  ex : PySem.W.findIn K (.ref C) "__exit__" = some (some (.ref fx))
  xf : PySem.W.isFn K (.ref fx) = true
def tWith (C : Addr) (te : TE) (spE spX spH : Sp) (Wo : WX) (i : Nat) (tb : WX → L2.TS) : L2.TS := fun D σ H => te σ H fun v H1 => ∃ x dx fs, v = .ref x ∧ H1 x = some (.ins C dx fs) ∧
  spE [.ref x] H1 (fun u H2 => tb (wWith spH x Wo) { nx := fun σ3 H3 => spX [.ref x, .non, .non, .non] H3 (fun _ H4 => D.nx σ3 H4) (fun _ _ _ => False), rt := fun _ _ => False, bk := fun _ _ => False, ct := fun _ _ => False } (σ.set i (some u)) H2) (WE Wo σ)
section
variable {X : Cx} {Wo : WX} {k kx kh i : Nat} {C fe fx : Addr} {fd : FuncData} {ps : List Str} {spE spX spH : Sp} {pos py : Pos} {ctx : Expr} {y : Str} {te : TE} {body : List Stmt} {tb : WX → L2.TS}
theorem ps_with (hs : X.stack = X.env :: X.outer) (hf : X.env.frame = some X.env.locals) (hex : X.ex = []) (hN : X.N.Nodup) (hi : X.N[i]? = some y) (hln : X.env.kindOf y = some .local) (tk : L2N.Takes X Wo) (he : PE X ctx te) (c : WithC X.K C fe fx)
    (FE : FnR X.prog X.w X.K X.mg X.base (L2N.CX X.prog X.w) k fe spE) (FX : FnR X.prog X.w X.K X.mg X.base (L2N.CX X.prog X.w) kx fx spX) (FH : L2H.FnH X.prog X.w X.K X.mg X.base (L2N.CX X.prog X.w) kh fx fd ps spH) (hr : Room k X.A) (hrx : Room kx X.A) (hrh : Room kh X.A) (hb : Binds X.K fd ps [])
    (hx : ∀ σ, PassesAt (L2N.CX X.prog X.w) X σ (WE Wo σ)) (hbd : ∀ (W : WX) (pn : List (Addr × Obj)) (xe : Value → Shared → Prop), L2N.Takes (X.tr pn xe) W → PassesOwn (model X.prog X.w) X.A X.env xe → PSs (X.tr pn xe) body (tb W)) :
    PS X (.With [⟨ctx, some (.Name y py)⟩] body pos) (tWith C te spE spX spH Wo i tb) := by
  refine ⟨fun pins s σ H D I h => PySem.W.kw_execN (wpAny_mono (he.run pins s σ H _ I h) (fun u s1 z => ?_) fun _ _ z => z)⟩
  have ok := I.ok
  obtain ⟨v, H1, I1, r1, x, dx, fs, ev, hx1, q1⟩ := z
  subst ev
  obtain rfl : u = Value.ref x := r1
  obtain ⟨ox, od, J⟩ := ins_at I1 hx1
  unfold PySem.W.KwIn
  refine with_core I1.kIn J c.en c.ef c.ex c.xf ?_
  refine wpAny_call (codeAny_mono (run_S (us := [Value.ref x]) (vs := [V.ref x]) FE hr I1.env0 (hx σ) I1 (.cons rfl .nil) q1) (fun r s2 h2 => ?_))
  match r, h2 with
  | .error e, h2 => exact h2
  | .ok .next, h2 => exact h2.elim
  | .ok .brk, h2 => exact h2.elim
  | .ok .cont, h2 => exact h2.elim
  | .ok (.ret v), h2 =>
    obtain ⟨v2, H2, I2, r2, q2⟩ := h2
    refine wpAny_bind (wpAny_assign_Name (store_ok (X := X) I2 hN hi (.inl hln) r2 (fun s3 I3 => ?_) (.inr hln)))
    have po : PassesOwn (model X.prog X.w) X.A X.env (WithRaised X.prog X.w X.A X.xe X.env ctx.pos x fx (SP X pins D)) := PassesOwn.looking
    refine wpAny_mono ((hbd (wWith spH x Wo) (X.pn ++ pins) (WithRaised X.prog X.w X.A X.xe X.env ctx.pos x fx (SP X pins D)) (fun u s' xx => with_exc hs hf hex ok tk FH (L2H.roomH_of hrh) hb xx) po).run [] s3 _ H2 _ (I3.toTry _) q2) (fun f s4 h4 => ?_) fun _ _ z => z
    match f, h4 with
    | .ret u, ⟨_, _, _, _, _, q⟩ => exact q.elim
    | .brk, ⟨_, _, _, q⟩ => exact q.elim
    | .cont, ⟨_, _, _, q⟩ => exact q.elim
    | .next, ⟨σ4, H4, J4, q4⟩ =>
      have I4 : Inv X pins σ4 H4 s4 := J4.ofTry ok
      have noX : PassesAt (L2N.CX X.prog X.w) X σ4 (fun _ _ _ => False) := fun _ _ _ e s' I c => by
        obtain ⟨_, _, _, _, _, _, _, _, _, _, _, _, z⟩ := c
        exact z.elim
      refine wpAny_call (codeAny_mono (run_S (E := fun _ _ _ _ => False) (us := [Value.ref x, .none, .none, .none]) (vs := [V.ref x, .non, .non, .non]) FX hrx I4.env0 noX I4 (.cons rfl (.cons rfl (.cons rfl (.cons rfl .nil)))) q4) (fun r s5 h5 => ?_))
      match r, h5 with
      | .error e, h5 => exact h5
      | .ok .next, h5 => exact h5.elim
      | .ok .brk, h5 => exact h5.elim
      | .ok .cont, h5 => exact h5.elim
      | .ok (.ret v), ⟨v5, H5, I5, r5, q5⟩ => exact ⟨σ4, H5, I5, q5⟩
end
end LW
namespace LW
open PySem PySem.Spec PyProof.Rows L2
section
variable {X : Cx} {P : Program} {w : World} {K : PySem.W.Frag} {W : Wrl} {Wo : WX} {m mr : Md} {k kx kh i : Nat} {C fe fx : Addr} {fd : FuncData} {ps : List Str} {pos py : Pos} {ctx : Expr} {y : Str} {body : List Stmt}
def wEnd (pfX pfH : PSp (WS P w K W)) (x : Addr) (Pn : PEn (WS P w K W)) : PEn (WS P w K W) :=
  { nx := fun ω ρ => pfX ω [.adr x, .non, .non, .non] (fun ω' _ => Pn.nx ω' ρ) (fun _ _ => False), rt := fun _ _ => False, bk := fun _ _ => False, ct := fun _ _ => False,
    ex := fun ω e ρ => ∀ (a : Addr) (dt : D), (dt = .non ∨ ∃ T, dt = .adr T) → pfH ω [.adr x, .adr e.C, .adr a, dt] (fun ω' r => r = .non ∧ Pn.ex ω' e ρ) (fun _ _ => False) }
def sWith (C : Addr) (pfE pfX pfH : PSp (WS P w K W)) (i : Nat) (qe : QT (WS P w K W)) (s : QTS (WS P w K W)) : QTS (WS P w K W) := fun Pn ω ρ => qe ω ρ (fun ω1 d => ∃ x fs, d = .adr x ∧ ω1.2 x = some (.mi C fs) ∧
  pfE ω1 [.adr x] (fun ω2 u => s (wEnd pfX pfH x Pn) ω2 (ρ.set i (.va u))) (fun ω' e => Pn.ex ω' e ρ)) (fun ω' e => Pn.ex ω' e ρ)
theorem qs_with (hK : X.K = K) {pfE pfX pfH : PSp (WS P w K W)} {qe : QT (WS P w K W)} {s : QTS (WS P w K W)} (hs : X.stack = X.env :: X.outer) (hf : X.env.frame = some X.env.locals) (hex : X.ex = []) (hN : X.N.Nodup) (hi : X.N[i]? = some y) (hln : X.env.kindOf y = some .local) (tk : L2N.Takes X Wo)
    (he : QE X m (WS P w K W) Wo ctx qe) (c : WithC X.K C fe fx) (FE : FnR X.prog X.w X.K X.mg X.base (L2N.CX X.prog X.w) k fe (spM .A X.K (WS P w K W) pfE)) (FX : FnR X.prog X.w X.K X.mg X.base (L2N.CX X.prog X.w) kx fx (spM .A X.K (WS P w K W) pfX))
    (FH : L2H.FnH X.prog X.w X.K X.mg X.base (L2N.CX X.prog X.w) kh fx fd ps (spM .A X.K (WS P w K W) pfH)) (hr : Room k X.A) (hrx : Room kx X.A) (hrh : Room kh X.A) (hb : Binds X.K fd ps []) (hx : ∀ σ, PassesAt (L2N.CX X.prog X.w) X σ (WE Wo σ))
    (hbd : ∀ (Wq : WX) (pn : List (Addr × Obj)) (xe : Value → Shared → Prop), L2N.Takes (X.tr pn xe) Wq → PassesOwn (model X.prog X.w) X.A X.env xe → QSs (X.tr pn xe) mr (WS P w K W) Wq body s) :
    QS X mr (WS P w K W) Wo (.With [⟨ctx, some (.Name y py)⟩] body pos) (sWith C pfE pfX pfH i qe s) := by
  subst hK
  refine PS.imp (ps_with (tb := fun Wq => lfS mr X.K (WS P w X.K W) Wq s) hs hf hex hN hi hln tk he c FE FX FH hr hrx hrh hb hx hbd) fun D0 σ H ⟨F, T, ω, ρ, Pn, R, q, S⟩ => ?_
  have xok : XOk X.K (WS P w X.K W) Wo F ρ σ (fun ω' e => Pn.ex ω' e ρ) := fun T ω x cls dd H R xr h => S.ex T ω ρ σ H x cls dd R xr h
  refine ⟨F, T, ω, ρ, _, _, R, q, xok, fun T1 ω1 d v H1 R1 e1 r1 ⟨x, fs, ed, hx1, q1⟩ => ?_⟩
  subst ed
  obtain rfl := RC.adr r1.c
  obtain ⟨dx, gs, h1, _, rr⟩ := WS.ok R1 hx1
  refine ⟨x, dx, gs, rfl, h1, ?_⟩
  refine sp_at R1 .refl xok (.cons (.adr x) .nil) q1 fun T2 ω2 u vu H2 R2 e2 r2 q2 => ?_
  refine ⟨F, T2, ω2, ρ.set i (.va u), wEnd pfX pfH x Pn, R2.set_va r2 i, q2, ⟨fun T3 ω3 ρ3 σ3 H3 R3 q3 => ?_, fun _ _ _ _ _ _ z => z.elim, fun _ _ _ _ _ _ z => z.elim, fun _ _ _ _ _ _ _ _ _ z => z.elim, fun T3 ω3 ρ3 σ3 H3 e cls dd R3 xr q3 => ?_⟩⟩
  · exact sp_at (Wo := Wo0) R3 .refl (fun _ _ _ _ _ _ _ _ z => z.elim) (.cons (.adr x) (.cons .non (.cons .non (.cons .non .nil)))) q3 fun T4 ω4 d4 v4 H4 R4 e4 r4 q4 => S.nx T4 ω4 ρ3 σ3 H4 R4 q4
  · refine ⟨e.C, xr.1, fun a tv na ht => ?_⟩
    obtain ⟨dt, hdt, rt⟩ : ∃ dt : D, (dt = .non ∨ ∃ T, dt = .adr T) ∧ ∀ S, RepA X.K H3 S dt tv := by
      rcases ht with rfl | ⟨T, rfl⟩
      · exact ⟨.non, .inl rfl, fun _ => .non⟩
      · exact ⟨.adr T, .inr ⟨T, rfl⟩, fun _ => .adr T⟩
    refine sp_at (Wo := Wo0) R3 .refl (fun _ _ _ _ _ _ _ _ z => z.elim) (.cons (.adr x) (.cons (.adr e.C) (.cons (.adr a) (.cons (rt _) .nil)))) (q3 a dt hdt) fun T4 ω4 d4 v4 H4 R4 e4 r4 ⟨ed, q4⟩ => ?_
    subst ed
    refine ⟨?_, S.ex T4 ω4 ρ3 σ3 H4 e cls dd R4 ⟨xr.1, xr.2.ext e4.gr⟩ q4⟩
    cases (show RepA X.K H4 _ .non v4 from r4)
    rfl
theorem v_with {pfE pfX pfH : PSp (WS P w K W)} {qe : QT (WS P w K W)} {s : QTS (WS P w K W)} {Pn : PEn (WS P w K W)} {ω : (WS P w K W).Ω} {ρ : List Sl} (h : qe ω ρ (fun ω1 d => ∃ x fs, d = .adr x ∧ ω1.2 x = some (.mi C fs) ∧ pfE ω1 [.adr x] (fun ω2 u => s (wEnd pfX pfH x Pn) ω2 (ρ.set i (.va u))) (fun ω' e => Pn.ex ω' e ρ)) (fun ω' e => Pn.ex ω' e ρ)) : sWith C pfE pfX pfH i qe s Pn ω ρ := h
end
theorem withB_ok {K : PySem.W.Frag} {x : Str} (h : withB K x = true) : WithC K (He.ga K x) (He.ma K (He.ga K x) "__enter__") (He.ma K (He.ga K x) "__exit__") := by
  unfold withB at h
  simp only [Bool.and_eq_true, decide_eq_true_eq] at h
  exact ⟨h.1.1.1, h.1.1.2, h.1.2, h.2⟩
theorem okQH {P : Program} {w : World} {K : PySem.W.Frag} {mg : Str → Option Value} {base : Heap} {x qual : Str} {params : Arguments} {body : List Stmt} {scope : Scope} {dvs : List V} {kws : List (Str × V)} {f : Addr} {fd : FuncData} {N ps : List Str} {k : Nat} {mr : Md} {W : Wrl} {pf : PSp W} {s : QTS W}
    (F : FunD K x qual params body scope dvs kws f fd) (S : FnScope N ps scope) (hl : ∀ ω ds Q E, pf ω ds Q E → ds.length = ps.length)
    (hb : ∀ (cdv : Value) (A : Around) (outer : List Env) (s0 : Shared) (H : Hp) (E : XK) (p : Addr × Obj), L2H.RoomH k (A.deeper (envOfC qual scope s0.heap.objs.size f cdv)) →
      QSs (L2H.cxH (L2N.CX P w) P w K mg base N qual scope f cdv A outer s0 H E p) mr W (fun cls d _ H' => E cls d H') body s)
    (hq : ∀ ω ds Q E, pf ω ds Q E → s (endP mr W Q E) ω (startP N ds)) : L2H.FnH P w K mg base (L2N.CX P w) (k + 1) f fd ps (spM mr K W pf) := by
  refine okTH F S (fun vs H Q E h => ?_) fun cdv A outer s0 H vs Q E p hot hr h tk pown => ⟨_, hb cdv A outer s0 H E p hr, ?_⟩
  · obtain ⟨S', T, ω, ds, Qp, Ep, hS, hi, r, q, k, kx⟩ := h
    exact r.len.trans (hl _ _ _ _ q)
  · obtain ⟨S', T, ω, ds, Qp, Ep, hS, hi, r, q, k, kx⟩ := h
    have es : ∀ a, Spr ⟨H, S', T, []⟩ T (startP N ds) a → S' a ∨ T a := fun a z => by
      rcases z with z | z | z
      · exact .inl z
      · exact .inr z
      · rw [owns_start] at z; cases z
    have en : N.length - vs.length = N.length - ds.length := by rw [r.len]
    have R : Rel K W ⟨H, S', T, []⟩ T ω (startP N ds) (L2.start N vs) H := by
      refine ⟨GrP.refl _ _, hi, fun a z => .inl z, fun l hl => ?_, ?_, hS, fun p hp => ?_, ?_⟩
      · rw [owns_start] at hl; cases hl
      · rw [owns_start]; exact List.nodup_nil
      · cases hp
      · unfold L2.start startP
        rw [en]
        exact (slsR_start N (r.less es) _)
    refine ⟨⟨H, S', T, []⟩, T, ω, startP N ds, endP mr W Qp Ep, R, hq ω ds Qp Ep q, ⟨fun T' ω' ρ' σ' H' R' q' => ?_, fun _ _ _ _ _ _ z => z.elim, fun _ _ _ _ _ _ z => z.elim, fun T' ω' ρ' σ' H' d v R' rt q' => k T' ω' d v H' ⟨R'.gr, R'.tn⟩ R'.inv rt q', fun T' ω' ρ' σ' H' x cls dd R' xr q' => kx T' ω' x cls dd H' ⟨R'.gr, R'.tn⟩ R'.inv xr q'⟩⟩
    cases mr with
    | F => exact (show False from q').elim
    | A => exact k T' ω' .non .non H' ⟨R'.gr, R'.tn⟩ R'.inv (show RepA K H' _ .non .non from .non) q'
    | O => exact k T' ω' .non .non H' ⟨R'.gr, R'.tn⟩ R'.inv (show RepA K H' _ .non .non from .non) q'
    | C => exact k T' ω' .non .non H' ⟨R'.gr, R'.tn⟩ R'.inv (show RepA K H' _ .non .non from .non) q'
end LW
namespace LW
open PySem PySem.Spec PyProof.Rows L2
def spR (n : Nat) (sp : Sp) : Sp := fun vs H Q E => ∃ ws rest, vs = ws ++ rest ∧ ws.length = n ∧ rest.length ≤ sizeLine ∧ ∀ (p : Addr) (o : Obj), H p = none → o.dict = none → sp (ws ++ [V.ref p]) (upd H p (.frz o (.tup rest))) Q E
section
variable {P : Program} {w : World} {K : PySem.W.Frag} {mg : Str → Option Value} {base : Heap} {k : Nat} {f : Addr} {x qual : Str} {params : Arguments} {body : List Stmt} {scope : Scope} {fd : FuncData} {N ps : List Str} {sp : Sp} {pv : Str}
theorem fn_starR (F : FunD K x qual params body scope [] [] f fd) (S : FnScope N (ps ++ [pv]) scope)
    (h1 : ∀ (kV doc pm : Value) (an : Option Addr) (cdv ct : Value) (us rest : List Value), us.length = ps.length → bindArgs (PySem.W.fnOf x qual params body scope .none kV doc pm an cdv ct) ⟨us ++ rest, []⟩ = (newTuple rest >>= fun t => pure (ps.zip us ++ [(pv, t)])))
    (hbody : ∀ (cdv : Value) (A : Around) (outer : List Env) (s : Shared) (H : Hp) (vs : List V) (Q : VK) (E : XK), Room k (A.deeper (envOfC qual scope s.heap.objs.size f cdv)) → sp vs H Q E →
      ∃ t, PSs (cxOf (L2N.CX P w) P w K mg base N qual scope f cdv A outer s H E) body t ∧ t { nx := fun _ H' => Q .non H', rt := Q } (start N vs) H) :
    FnR P w K mg base (L2N.CX P w) (k + 1) f (spR ps.length sp) := by
  intro A outer s H us vs Q E hr e0 r hsp
  obtain ⟨oc, od, dV, kV, doc, pm, an, cdv, ct, osl, rfl, lk, hcd, hD, hK⟩ := F.ex
  rcases hD with ⟨_, rfl⟩ | ⟨e, _⟩
  · skip
    · obtain ⟨ws, rest, ev, hl, hz, hq2⟩ := hsp
      subst ev
      have hn : H s.heap.objs.size = none := e0.hok.fresh (Nat.le_refl _)
      obtain ⟨u1, u2, eu, r1, r2⟩ := StX.vals_split r
      subst eu
      have hl1 : u1.length = ps.length := by rw [← r1.length]; exact hl
      have hl2 : u2.length ≤ sizeLine := by rw [← r2.length]; exact hz
      refine StX.run_bnd (ps := ps ++ [pv]) lk hcd S hr e0 (G := fun xs H2 => ∃ (p : Addr) (o : Obj), H p = none ∧ o.dict = none ∧ xs = ws ++ [V.ref p] ∧ H2 = upd H p (.frz o (.tup rest))) (fun A' Ex Q' h => ?_) fun s2 H2 xs ⟨p, o, hp, ho, ex, eH⟩ hr' => ?_
      · rw [h1 kV doc pm an cdv ct u1 u2 hl1]
        refine wpAny_bind (wpAny_newTuple (wpAny_pure ?_) hl2)
        have new : ObjOk P w (upd H s.heap.objs.size (.frz ({ cls := .type "tuple", data := .seq u2.toArray } : Obj) (.tup rest))) (s.heap.push ({ cls := .type "tuple", data := .seq u2.toArray } : Obj)) s.heap.objs.size (.frz ({ cls := .type "tuple", data := .seq u2.toArray } : Obj) (.tup rest)) := ⟨Heap.get?_push_size _ rfl, hz, u2, r2, ⟨_, Heap.get?_push_size _ rfl, rfl, _, rfl⟩⟩
        have un := StX.un_laid (fs := frs outer) (s := s) (o := ({ cls := .type "tuple", data := .seq u2.toArray } : Obj)) (u := .frz ({ cls := .type "tuple", data := .seq u2.toArray } : Obj) (.tup rest)) hn
        have z := h _ _ (ws ++ [V.ref s.heap.objs.size]) (u1 ++ [Value.ref s.heap.objs.size]) (StX.env0_laid e0 new) un rfl (fun e s' => cxUpN outer s H _ _ E e s' un (fun b o q => Heap.get?_push_of_some _ q) rfl) (r1.append (.cons rfl .nil))
          (by rw [List.length_append, List.length_append, hl] <;> rfl) ⟨_, _, hn, rfl, rfl, rfl⟩
        rw [List.zip_append hl1.symm] at z
        exact z
      · subst ex eH
        exact hbody cdv A outer s2 _ _ Q E hr' (hq2 p o hp ho)
  · exact absurd rfl e
end
section
variable {P : Program} {w : World} {K : PySem.W.Frag} {mg : Str → Option Value} {base : Heap} {x qual : Str} {params : Arguments} {body : List Stmt} {scope : Scope} {f : Addr} {fd : FuncData} {N ps : List Str} {k : Nat} {mr : Md} {W : Wrl} {pf : PSp W} {s : QTS W} {pv : Str}
theorem okQR (F : FunD K x qual params body scope [] [] f fd) (S : FnScope N (ps ++ [pv]) scope)
    (h1 : ∀ (kV doc pm : Value) (an : Option Addr) (cdv ct : Value) (us rest : List Value), us.length = ps.length → bindArgs (PySem.W.fnOf x qual params body scope .none kV doc pm an cdv ct) ⟨us ++ rest, []⟩ = (newTuple rest >>= fun t => pure (ps.zip us ++ [(pv, t)])))
    (hl : ∀ ω ds Q E, pf ω ds Q E → ∃ es rest, ds = es ++ rest ∧ es.length = ps.length ∧ rest.length ≤ 1000000)
    (hb : ∀ (cdv : Value) (A : Around) (outer : List Env) (s0 : Shared) (H : Hp) (E : XK), Room k (A.deeper (envOfC qual scope s0.heap.objs.size f cdv)) →
      L2N.Takes (cxOf (L2N.CX P w) P w K mg base N qual scope f cdv A outer s0 H E) (fun cls d _ H' => E cls d H') →
      PassesOwn (model P w) (cxOf (L2N.CX P w) P w K mg base N qual scope f cdv A outer s0 H E).A (cxOf (L2N.CX P w) P w K mg base N qual scope f cdv A outer s0 H E).env (cxOf (L2N.CX P w) P w K mg base N qual scope f cdv A outer s0 H E).xe →
      QSs (cxOf (L2N.CX P w) P w K mg base N qual scope f cdv A outer s0 H E) mr W (fun cls d _ H' => E cls d H') body s)
    (hq : ∀ ω es rest Q E, es.length = ps.length → pf ω (es ++ rest) Q E → s (endP mr W Q E) ω ((startP N es).set ps.length (.va (.tup rest)))) (hN : ps.length < N.length) : FnR P w K mg base (L2N.CX P w) (k + 1) f (spM mr K W pf) := by
  have main := fn_starR (P := P) (w := w) (mg := mg) (base := base) (k := k) F S h1 (sp := fun vs H Q E => ∃ (ws rest : List V) (p : Addr) (o : Obj) (H0 : Hp), vs = ws ++ [V.ref p] ∧ ws.length = ps.length ∧ H0 p = none ∧ o.dict = none ∧ H = upd H0 p (.frz o (.tup rest)) ∧ spM mr K W pf (ws ++ rest) H0 Q E) ?_
  · refine fun A outer s H us vs Q E hr e0 r hsp => main A outer s H us vs Q E hr e0 r ?_
    have hsp' := hsp
    obtain ⟨S', T, ω, ds, Qp, Ep, hS, hi, r, q, k, kx⟩ := hsp
    obtain ⟨es, rest, rfl, le, lr⟩ := hl _ _ _ _ q
    have hl2 := r.len
    rw [List.length_append] at hl2
    have e2 : vs.take es.length ++ vs.drop es.length = vs := List.take_append_drop _ _
    have l1 : (vs.take es.length).length = ps.length := by rw [List.length_take]; omega
    rw [← e2] at hsp'
    exact ⟨vs.take es.length, vs.drop es.length, e2.symm, l1, by rw [List.length_drop, sizeLine_eq]; omega, fun p o hp ho => ⟨vs.take es.length, vs.drop es.length, p, o, H, rfl, l1, hp, ho, rfl, hsp'⟩⟩
  · rintro cdv A outer s0 H1 vs Q E hr ⟨ws, rest, p, o, H0, rfl, hlw, hp, hod, rfl, h⟩
    obtain ⟨S', T, ω, ds, Qp, Ep, hS, hi, r, q, kq, kx⟩ := h
    obtain ⟨es, dr, rfl, le, lr⟩ := hl _ _ _ _ q
    have r2 := r.take es.length
    have r3 := r.drop es.length
    rw [List.take_left' rfl, List.take_left' (by omega)] at r2
    rw [List.drop_left' rfl, List.drop_left' (by omega)] at r3
    have tk := L2N.takes_of (X := cxOf (L2N.CX P w) P w K mg base N qual scope f cdv A outer s0 (upd H0 p (.frz o (.tup rest))) E) (E := fun cls d H' => E cls d H') rfl rfl rfl rfl
    have pown := passes_of (X := cxOf (L2N.CX P w) P w K mg base N qual scope f cdv A outer s0 (upd H0 p (.frz o (.tup rest))) E) rfl
    have es0 : ∀ a, Spr ⟨H0, S', T, []⟩ T (startP N es) a → S' a ∨ T a := fun a z => by
      rcases z with z | z | z
      · exact .inl z
      · exact .inr z
      · rw [owns_start] at z; cases z
    have en : N.length - ws.length = N.length - es.length := by rw [r2.len]
    have R0 : Rel K W ⟨H0, S', T, []⟩ T ω (startP N es) (L2.start N ws) H0 := by
      refine ⟨GrP.refl _ _, hi, fun a z => .inl z, fun l hl => ?_, ?_, hS, fun p hp => ?_, ?_⟩
      · rw [owns_start] at hl; cases hl
      · rw [owns_start]; exact List.nodup_nil
      · cases hp
      · unfold L2.start startP
        rw [en]
        exact (slsR_start N (r2.less es0) _)
    have g : GrP nop H0 (upd H0 p (.frz o (.tup rest))) := GrP.new hp
    have R1 := R0.grow g
    have rt : RepA K (upd H0 p (.frz o (.tup rest))) (Spr ⟨H0, S', T, []⟩ T (startP N es)) (.tup dr) (.ref p) := .tup ⟨o, upd_same .., hod⟩ ((r3.less es0).ext g (fun _ z => z.elim) fun a z => .inl z)
    have R2 := R1.set_va rt ps.length
    have ev : (L2.start N ws).set ps.length (some (V.ref p)) = L2.start N (ws ++ [V.ref p]) := by
      unfold L2.start
      obtain ⟨m, hm⟩ : ∃ m, N.length = ps.length + 1 + m := ⟨N.length - (ps.length + 1), by omega⟩
      rw [List.length_append, hlw, hm]
      rw [show ps.length + 1 + m - ps.length = m + 1 by omega, show ps.length + 1 + m - (ps.length + [V.ref p].length) = m by simp only [List.length_cons, List.length_nil]; omega]
      rw [List.set_append_right _ _ (by rw [List.length_map, hlw]; exact Nat.le_refl _), List.length_map, hlw, Nat.sub_self]
      rw [List.replicate_succ, List.set_cons_zero]
      simp
    rw [ev] at R2
    refine ⟨_, hb cdv A outer s0 _ E hr tk pown, ⟨H0, S', T, []⟩, T, ω, _, endP mr W Qp Ep, R2, hq ω es dr Qp Ep le q, ⟨fun T' ω' ρ' σ' H' R' q' => ?_, fun _ _ _ _ _ _ z => z.elim, fun _ _ _ _ _ _ z => z.elim, fun T' ω' ρ' σ' H' d v R' rt q' => kq T' ω' d v H' ⟨R'.gr, R'.tn⟩ R'.inv rt q', fun T' ω' ρ' σ' H' x cls dd R' xr q' => kx T' ω' x cls dd H' ⟨R'.gr, R'.tn⟩ R'.inv xr q'⟩⟩
    cases mr with
    | F => exact (show False from q').elim
    | A => exact kq T' ω' .non .non H' ⟨R'.gr, R'.tn⟩ R'.inv (show RepA K H' _ .non .non from .non) q'
    | O => exact kq T' ω' .non .non H' ⟨R'.gr, R'.tn⟩ R'.inv (show RepA K H' _ .non .non from .non) q'
    | C => exact kq T' ω' .non .non H' ⟨R'.gr, R'.tn⟩ R'.inv (show RepA K H' _ .non .non from .non) q'
end
section
variable {X : Cx} {W : Wrl} {Wo : WX} {k : Nat} {f : Addr} {fx : Str} {p pos : Pos} {e : Expr} {es : List Expr} {t : TA} {sp : Sp} {E : L2.St → XK} {mr : Md} {pf : PSp W} {qs : QTA W}
theorem pe_callR (F : FnR X.prog X.w X.K X.mg X.base (L2N.CX X.prog X.w) k f sp) (hr : Room k X.A) (hg : Gl X fx) (hm : X.mg fx = some (.ref f)) (hk : PySem.W.keepIn X.K (.ref f) = true) (hx : ∀ σ, PassesAt (L2N.CX X.prog X.w) X σ (E σ))
    (ha : PA X (e :: es) t) (hdb : (fx == ("__debug__" : Str)) = false := by decide) (he : starEach (e :: es) X.env = (false, eval e X.env) :: starEach es X.env := by rfl) (hpl : (backTo pos (starEach es X.env)).any (·.1) = false := by rfl) :
    PE X (.Call (.Name fx p) (e :: es) [] pos) (tCallS sp E t) := by
  refine ⟨fun pins s σ H Q I h => wpAny_Call_Name_kw (ld_glob I hg hm ?_ hdb)⟩
  exact PySem.W.callWith_K (h₀ := X.base) I.ok.mod.kin hk (thn (ha.run pos pins s σ H _ I h) fun us s1 ⟨vs, H1, I1, r, q⟩ => ⟨I1.kIn, wpAny_call (run_S F hr I1.env0 (hx σ) I1 r q)⟩) he hpl
theorem qe_callR (F : FnR X.prog X.w X.K X.mg X.base (L2N.CX X.prog X.w) k f (spM mr X.K W pf)) (hr : Room k X.A) (hg : Gl X fx) (hm : X.mg fx = some (.ref f)) (hk : PySem.W.keepIn X.K (.ref f) = true) (hx : ∀ σ, PassesAt (L2N.CX X.prog X.w) X σ (WE Wo σ))
    (ha : QA X .A W Wo (e :: es) qs) (hdb : (fx == ("__debug__" : Str)) = false := by decide) (he : starEach (e :: es) X.env = (false, eval e X.env) :: starEach es X.env := by rfl) (hpl : (backTo pos (starEach es X.env)).any (·.1) = false := by rfl) :
    QE X mr W Wo (.Call (.Name fx p) (e :: es) [] pos) (qCall pf qs) := PE.imp (pe_callR F hr hg hm hk hx ha hdb he hpl) fun σ H Q ⟨F, T, ω, ρ, Qp, Ep, R, q, hx, k⟩ =>
  ⟨F, T, ω, ρ, _, Ep, R, q, hx, fun T1 ω1 ds vs H1 R1 e1 r1 q1 => sp_at R1 e1 hx r1.reps q1 k⟩
end
end LW
namespace LW
open PySem PySem.Spec PyProof.Rows L2
abbrev HC (K : PySem.W.Frag) : Addr := He.ga K "Hall"
abbrev DC (K : PySem.W.Frag) : Addr := He.ga K "Desk"
structure HX where
  h : Addr
  lh : Addr
  ld : Addr
  held : List Int
  cap : Int
  da : List Addr
  nu : List (List Int × Bool)
def hallF (h lh ld : Addr) (cap : Int) : List (Str × D) := [("held", .adr lh), ("desks", .adr ld), ("_capacity", .int cap)]
def deskF (K : PySem.W.Frag) (h : Addr) (i : Nat) (p : List Int × Bool) : List (Str × D) := [("hall", .adr h), ("number", .int ((i : Int) + 1)), ("numbering", numD K p.1), ("is_inside", .bl p.2)]
structure Hs (K : PySem.W.Frag) (st : Sto) (X : HX) : Prop where
  sh : st X.h = some (.mi (HC K) (hallF X.h X.lh X.ld X.cap))
  sl : st X.lh = some (.ml (dInts X.held))
  sd : st X.ld = some (.ml (X.da.map D.adr))
  len : X.da.length = X.nu.length
  six : X.da.length ≤ 6
  n1 : 1 ≤ X.held.length
  n12 : X.held.length ≤ 12
  c1 : 1 ≤ X.cap
  c6 : X.cap ≤ 6
  dk : ∀ (i : Nat) (d : Addr) (p : List Int × Bool), X.da[i]? = some d → X.nu[i]? = some p → st d = some (.mi (DC K) (deskF K X.h i p))
  num : ∀ (i : Nat) (p : List Int × Bool), X.nu[i]? = some p → IsNum p.1 ∧ p.1.length = X.held.length
def HX.At (X : HX) (i : Nat) (d : Addr) (p : List Int × Bool) : Prop := X.da[i]? = some d ∧ X.nu[i]? = some p
section
variable {K : PySem.W.Frag} {st st' : Sto} {X : HX} {i : Nat} {d a : Addr} {p : List Int × Bool} {m : MO}
theorem Sto.inj (h : st a = some m) {m' : MO} (h' : st d = some m') (n : m ≠ m') : a ≠ d := fun e => by
  subst e
  rw [h] at h'
  exact n (Option.some.inj h')
theorem mi_ml {C : Addr} {fs : List (Str × D)} {ds : List D} : MO.mi C fs ≠ .ml ds := fun e => by cases e
theorem ml_mi {C : Addr} {fs : List (Str × D)} {ds : List D} : MO.ml ds ≠ .mi C fs := fun e => by cases e
theorem hall_desk {C C' h lh ld h' : Addr} {cap : Int} {i : Nat} {p : List Int × Bool} : MO.mi C (hallF h lh ld cap) ≠ .mi C' (deskF K h' i p) := fun e => by
  injection e with e1 e2
  unfold hallF deskF at e2
  have := congrArg (fun l => l.length) e2
  simp at this
theorem held_desks (h : Hs K st X) : MO.ml (dInts X.held) ≠ .ml (X.da.map D.adr) := fun e => by
  injection e with e
  have n1 := h.n1
  cases hh : X.held with
  | nil => rw [hh] at n1; exact absurd n1 (by decide)
  | cons x r =>
    rw [hh] at e
    cases hd : X.da with
    | nil => rw [hd] at e; cases e
    | cons y s => rw [hd] at e; cases e
theorem Hs.hl (h : Hs K st X) : X.h ≠ X.lh := Sto.inj h.sh h.sl mi_ml
theorem Hs.hd (h : Hs K st X) : X.h ≠ X.ld := Sto.inj h.sh h.sd mi_ml
theorem Hs.ll (h : Hs K st X) : X.lh ≠ X.ld := Sto.inj h.sl h.sd (held_desks h)
theorem Hs.nd (h : Hs K st X) (hi : X.At i d p) : st d = some (.mi (DC K) (deskF K X.h i p)) := h.dk i d p hi.1 hi.2
theorem Hs.dh (h : Hs K st X) (hi : X.At i d p) : d ≠ X.h := (Sto.inj h.sh (h.nd hi) hall_desk).symm
theorem Hs.dl (h : Hs K st X) (hi : X.At i d p) : d ≠ X.lh := Sto.inj (h.nd hi) h.sl mi_ml
theorem Hs.dd (h : Hs K st X) (hi : X.At i d p) : d ≠ X.ld := Sto.inj (h.nd hi) h.sd mi_ml
theorem desk_ne {C : Addr} {h : Addr} {i j : Nat} {p q : List Int × Bool} (n : i ≠ j) : MO.mi C (deskF K h i p) ≠ .mi C (deskF K h j q) := fun e => by
  injection e with _ e
  unfold deskF at e
  simp at e
  omega
theorem Hs.ne (h : Hs K st X) {j : Nat} {e : Addr} {q : List Int × Bool} (hi : X.At i d p) (hj : X.At j e q) (n : i ≠ j) : d ≠ e := Sto.inj (h.nd hi) (h.nd hj) (desk_ne n)
theorem Hs.at_ (h : Hs K st X) {i : Nat} (hi : i < X.da.length) : ∃ d p, X.At i d p := ⟨_, _, List.getElem?_eq_getElem hi, List.getElem?_eq_getElem (by rw [← h.len]; exact hi)⟩
theorem HX.At.lt (hi : X.At i d p) : i < X.da.length := (List.getElem?_eq_some_iff.mp hi.1).1
theorem Hs.other (h : Hs K st X) (e : ∀ b m, st b = some m → st' b = some m) : Hs K st' X := ⟨e _ _ h.sh, e _ _ h.sl, e _ _ h.sd, h.len, h.six, h.n1, h.n12, h.c1, h.c6, fun i d p h1 h2 => e _ _ (h.dk i d p h1 h2), h.num⟩
theorem Hs.add (h : Hs K st X) (hn : st a = none) : Hs K (st.put a m) X := h.other fun b m' e => Sto.ne (Sto.apart e hn) e
def HX.setH (X : HX) (hs : List Int) : HX := { X with held := hs }
theorem Hs.setH (h : Hs K st X) {hs : List Int} (hl : hs.length = X.held.length) : Hs K (st.put X.lh (.ml (dInts hs))) (X.setH hs) :=
  ⟨Sto.ne h.hl h.sh, Sto.same, Sto.ne h.ll.symm h.sd, h.len, h.six, by show 1 ≤ hs.length; rw [hl]; exact h.n1, by show hs.length ≤ 12; rw [hl]; exact h.n12, h.c1, h.c6, fun i d p h1 h2 => Sto.ne (h.dl ⟨h1, h2⟩) (h.dk i d p h1 h2), fun i p hp => ⟨(h.num i p hp).1, (h.num i p hp).2.trans hl.symm⟩⟩
def HX.setC (X : HX) (c : Int) : HX := { X with cap := c }
theorem Hs.setC (h : Hs K st X) {c : Int} (h1 : 1 ≤ c) (h6 : c ≤ 6) : Hs K (st.put X.h (.mi (HC K) (hallF X.h X.lh X.ld c))) (X.setC c) :=
  ⟨Sto.same, Sto.ne h.hl.symm h.sl, Sto.ne h.hd.symm h.sd, h.len, h.six, h.n1, h.n12, h1, h6, fun i d p h1 h2 => Sto.ne (h.dh ⟨h1, h2⟩) (h.dk i d p h1 h2), h.num⟩
def HX.setI (X : HX) (i : Nat) (b : Bool) : HX := { X with nu := X.nu.set i ((X.nu.getD i ([], false)).1, b) }
theorem Hs.setI (h : Hs K st X) (hi : X.At i d p) (b : Bool) : Hs K (st.put d (.mi (DC K) (deskF K X.h i (p.1, b)))) (X.setI i b) := by
  have ep : X.nu.getD i ([], false) = p := by rw [List.getD_eq_getElem?_getD, hi.2] <;> rfl
  refine ⟨Sto.ne (h.dh hi).symm h.sh, Sto.ne (h.dl hi).symm h.sl, Sto.ne (h.dd hi).symm h.sd, by show _ = (X.nu.set i _).length; rw [List.length_set]; exact h.len, h.six, h.n1, h.n12, h.c1, h.c6, fun j e q h1 h2 => ?_, fun j q hq => ?_⟩
  · have h2' : (X.nu.set i ((X.nu.getD i ([], false)).1, b))[j]? = some q := h2
    rw [List.getElem?_set, ep] at h2'
    by_cases z : i = j
    · subst z
      rw [if_pos rfl, if_pos (by rw [← h.len]; exact hi.lt)] at h2'
      cases Option.some.inj h2'
      have := hi.1.symm.trans h1
      cases Option.some.inj this
      exact Sto.same
    · rw [if_neg z] at h2'
      exact Sto.ne (h.ne ⟨h1, h2'⟩ hi (Ne.symm z)) (h.dk j e q h1 h2')
  · have hq' : (X.nu.set i ((X.nu.getD i ([], false)).1, b))[j]? = some q := hq
    rw [List.getElem?_set, ep] at hq'
    by_cases z : i = j
    · subst z
      rw [if_pos rfl, if_pos (by rw [← h.len]; exact hi.lt)] at hq'
      cases Option.some.inj hq'
      exact ⟨(h.num i p hi.2).1, (h.num i p hi.2).2⟩
    · rw [if_neg z] at hq'
      exact h.num _ _ hq'
def HX.addW (X : HX) (o : List Int) (d : Addr) : HX := { X with da := X.da ++ [d], nu := X.nu ++ [(o, false)] }
theorem Hs.addW (h : Hs K st X) {o : List Int} (ho : IsNum o) (hl : o.length = X.held.length) (h5 : X.da.length < 6) (hn : st d = none) : Hs K ((st.put d (.mi (DC K) (deskF K X.h X.da.length (o, false)))).put X.ld (.ml ((X.da ++ [d]).map D.adr))) (X.addW o d) := by
  have hnd : X.ld ≠ d := Sto.apart h.sd hn
  refine ⟨Sto.ne h.hd (Sto.ne (Sto.apart h.sh hn) h.sh), Sto.ne h.ll (Sto.ne (Sto.apart h.sl hn) h.sl), Sto.same, by show (X.da ++ [d]).length = (X.nu ++ [_]).length; rw [List.length_append, List.length_append, h.len] <;> rfl, by show (X.da ++ [d]).length ≤ 6; rw [List.length_append]; show X.da.length + 1 ≤ 6; omega, h.n1, h.n12, h.c1, h.c6, fun j e q h1 h2 => ?_, fun j q hq => ?_⟩
  · have h1' : (X.da ++ [d])[j]? = some e := h1
    have h2' : (X.nu ++ [(o, false)])[j]? = some q := h2
    rcases Nat.lt_or_ge j X.da.length with z | z
    · rw [List.getElem?_append_left z] at h1'
      rw [List.getElem?_append_left (by rw [← h.len]; exact z)] at h2'
      have := h.dk j e q h1' h2'
      exact Sto.ne (Sto.inj this h.sd mi_ml) (Sto.ne (Sto.apart this hn) this)
    · rw [List.getElem?_append_right z] at h1'
      rw [List.getElem?_append_right (by rw [← h.len]; exact z)] at h2'
      have ej : j = X.da.length := by
        have := (List.getElem?_eq_some_iff.mp h1').1
        simp at this
        omega
      subst ej
      rw [Nat.sub_self] at h1'
      rw [← h.len, Nat.sub_self] at h2'
      cases Option.some.inj h1'
      cases Option.some.inj h2'
      exact Sto.ne hnd.symm Sto.same
  · have hq' : (X.nu ++ [(o, false)])[j]? = some q := hq
    rcases Nat.lt_or_ge j X.nu.length with z | z
    · rw [List.getElem?_append_left z] at hq'
      exact h.num j q hq'
    · rw [List.getElem?_append_right z] at hq'
      have : j - X.nu.length = 0 := by
        have := (List.getElem?_eq_some_iff.mp hq').1
        simp at this
        omega
      rw [this] at hq'
      cases Option.some.inj hq'
      exact ⟨ho, hl⟩
end
def plc (p : List Int × Bool) (k : Int) : Int := atP p.1 k
def cel (X : HX) (p : List Int × Bool) (k : Int) : Int := atP X.held (plc p k)
def seeT (X : HX) (i : Nat) (p : List Int × Bool) (k : Int) : Str := if cel X p k = 0 then "empty" else if cel X p k = (i : Int) + 1 then "mine" else "other"
def putH (X : HX) (p : List Int × Bool) (k : Int) (z : Int) : List Int := X.held.set (plc p k).toNat z
def shr (X : HX) (i : Nat) : Int := (X.held.count ((i : Int) + 1) : Nat)
def enoB (X : HX) (i : Nat) : Bool := decide ((X.held.length : Int) < (X.cap + 1) * shr X i)
def shares (X : HX) : List Int := (List.range X.da.length).map fun j => shr X j
def behB (X : HX) (i : Nat) : Bool := (shares X).any fun s => decide (shr X i < s)
def occ (X : HX) : List Int := ((List.range X.da.length).filter fun j => (X.nu.getD j ([], false)).2).map fun j : Nat => (j : Int) + 1
section
variable (P : Program) (w : World) (K : PySem.W.Frag)
def pf_Hall___init__ : PSp (WS P w K W0) := fun ω ds Q E => ∃ (a : Addr) (n c : Int), ds = [.adr a, .int n, .int c] ∧ ω.2 a = some (.mi (HC K) []) ∧
  ((1 ≤ n ∧ n ≤ 12 ∧ 1 ≤ c ∧ c ≤ 6 ∧ ∀ lh ld, ω.2 lh = none → ω.2 ld = none → lh ≠ ld → Q ((), ((ω.2.put lh (.ml (dInts (List.replicate n.toNat 0)))).put ld (.ml [])).put a (.mi (HC K) (hallF a lh ld c))) .non) ∨
   (¬ (1 ≤ n ∧ n ≤ 12 ∧ 1 ≤ c ∧ c ≤ 6) ∧ E ω ⟨He.ga K "BadSize", none⟩))
def pf_Hall_add_worker : PSp (WS P w K W0) := fun ω ds Q E => ∃ (X : HX) (o : List Int), ds = [.adr X.h, numD K o] ∧ Hs K ω.2 X ∧ IsNum o ∧
  ((o.length = X.held.length ∧ X.da.length < 6 ∧ ∀ d, ω.2 d = none → Q ((), (ω.2.put d (.mi (DC K) (deskF K X.h X.da.length (o, false)))).put X.ld (.ml ((X.da ++ [d]).map D.adr))) (.adr d)) ∨
   (¬ (o.length = X.held.length ∧ X.da.length < 6) ∧ E ω ⟨He.ga K "BadSize", none⟩))
def pf_Hall_contents : PSp (WS P w K W0) := fun ω ds Q _ => ∃ X : HX, ds = [.adr X.h] ∧ Hs K ω.2 X ∧ Q ω (.tup (dInts X.held))
def pf_Hall_free : PSp (WS P w K W0) := fun ω ds Q _ => ∃ X : HX, ds = [.adr X.h] ∧ Hs K ω.2 X ∧ Q ω (.int (X.held.count 0 : Nat))
def pf_Hall_occupants : PSp (WS P w K W0) := fun ω ds Q _ => ∃ X : HX, ds = [.adr X.h] ∧ Hs K ω.2 X ∧ Q ω (.tup (dInts (occ X)))
def pf_Hall_capacity : PSp (WS P w K W0) := fun ω ds Q _ => ∃ X : HX, ds = [.adr X.h] ∧ Hs K ω.2 X ∧ Q ω (.int X.cap)
def pf_Hall_capacity__set : PSp (WS P w K W0) := fun ω ds Q E => ∃ (X : HX) (c : Int), ds = [.adr X.h, .int c] ∧ Hs K ω.2 X ∧
  ((1 ≤ c ∧ c ≤ 6 ∧ ((occ X).length : Int) ≤ c ∧ Q ((), ω.2.put X.h (.mi (HC K) (hallF X.h X.lh X.ld c))) .non) ∨ (1 ≤ c ∧ c ≤ 6 ∧ c < (occ X).length ∧ E ω ⟨He.ga K "RoomFull", none⟩) ∨ (¬ (1 ≤ c ∧ c ≤ 6) ∧ E ω ⟨He.ga K "BadSize", none⟩))
def pf_Desk___init__ : PSp (WS P w K W0) := fun ω ds Q _ => ∃ (a h : Addr) (n : Int) (o : List Int), ds = [.adr a, .adr h, .int n, numD K o] ∧ ω.2 a = some (.mi (DC K) []) ∧ Q ((), ω.2.put a (.mi (DC K) [("hall", .adr h), ("number", .int n), ("numbering", numD K o), ("is_inside", .bl false)])) .non
def pf_Desk__place : PSp (WS P w K W0) := fun ω ds Q E => ∃ (X : HX) (i : Nat) (d : Addr) (p : List Int × Bool) (k : Int), ds = [.adr d, .int k] ∧ Hs K ω.2 X ∧ X.At i d p ∧
  ((0 ≤ k ∧ k < X.held.length ∧ Q ω (.int (plc p k))) ∨ (¬ (0 ≤ k ∧ k < X.held.length) ∧ E ω ⟨He.ga K "NoCell", some ("cell", .int k)⟩))
def pf_Desk___getitem__ : PSp (WS P w K W0) := fun ω ds Q E => ∃ (X : HX) (i : Nat) (d : Addr) (p : List Int × Bool) (k : Int), ds = [.adr d, .int k] ∧ Hs K ω.2 X ∧ X.At i d p ∧
  ((0 ≤ k ∧ k < X.held.length ∧ Q ω (.str (seeT X i p k))) ∨ (¬ (0 ≤ k ∧ k < X.held.length) ∧ E ω ⟨He.ga K "NoCell", some ("cell", .int k)⟩))
def pf_set (b : Bool) (ω : Unit × Sto) (X : HX) (i : Nat) (d : Addr) (p : List Int × Bool) (k : Int) (Q : Unit × Sto → D → Prop) (E : Unit × Sto → Exn → Prop) : Prop :=
  (0 ≤ k ∧ k < X.held.length ∧ (cel X p k = 0 ∨ cel X p k = (i : Int) + 1) ∧ Q ((), ω.2.put X.lh (.ml (dInts (putH X p k (if b then (i : Int) + 1 else 0))))) .non) ∨
  (0 ≤ k ∧ k < X.held.length ∧ ¬ (cel X p k = 0 ∨ cel X p k = (i : Int) + 1) ∧ E ω ⟨He.ga K "Held", some ("holder", .int (cel X p k))⟩) ∨ (¬ (0 ≤ k ∧ k < X.held.length) ∧ E ω ⟨He.ga K "NoCell", some ("cell", .int k)⟩)
def pf_Desk___setitem__ : PSp (WS P w K W0) := fun ω ds Q E => ∃ (X : HX) (i : Nat) (d : Addr) (p : List Int × Bool) (k : Int) (b : Bool), ds = [.adr d, .int k, .bl b] ∧ Hs K ω.2 X ∧ X.At i d p ∧ pf_set K b ω X i d p k Q E
def pf_Desk_take : PSp (WS P w K W0) := fun ω ds Q E => ∃ (X : HX) (i : Nat) (d : Addr) (p : List Int × Bool) (k : Int), ds = [.adr d, .int k] ∧ Hs K ω.2 X ∧ X.At i d p ∧ pf_set K true ω X i d p k Q E
def pf_Desk_give : PSp (WS P w K W0) := fun ω ds Q E => ∃ (X : HX) (i : Nat) (d : Addr) (p : List Int × Bool) (k : Int), ds = [.adr d, .int k] ∧ Hs K ω.2 X ∧ X.At i d p ∧ pf_set K false ω X i d p k Q E
def pf_Desk_share : PSp (WS P w K W0) := fun ω ds Q _ => ∃ (X : HX) (i : Nat) (d : Addr) (p : List Int × Bool), ds = [.adr d] ∧ Hs K ω.2 X ∧ X.At i d p ∧ Q ω (.int (shr X i))
def pf_Desk_enough : PSp (WS P w K W0) := fun ω ds Q _ => ∃ (X : HX) (i : Nat) (d : Addr) (p : List Int × Bool), ds = [.adr d] ∧ Hs K ω.2 X ∧ X.At i d p ∧ Q ω (.bl (enoB X i))
def pf_Desk_behind : PSp (WS P w K W0) := fun ω ds Q _ => ∃ (X : HX) (i : Nat) (d : Addr) (p : List Int × Bool), ds = [.adr d] ∧ Hs K ω.2 X ∧ X.At i d p ∧ Q ω (.bl (behB X i))
def pf_Desk_enter : PSp (WS P w K W0) := fun ω ds Q E => ∃ (X : HX) (i : Nat) (d : Addr) (p : List Int × Bool), ds = [.adr d] ∧ Hs K ω.2 X ∧ X.At i d p ∧
  ((p.2 = true ∧ E ω ⟨He.ga K "AlreadyInside", none⟩) ∨ (p.2 = false ∧ enoB X i = false ∧ E ω ⟨He.ga K "NotEnough", none⟩) ∨ (p.2 = false ∧ enoB X i = true ∧ X.cap ≤ (occ X).length ∧ E ω ⟨He.ga K "RoomFull", none⟩) ∨
   (p.2 = false ∧ enoB X i = true ∧ ((occ X).length : Int) < X.cap ∧ Q ((), ω.2.put d (.mi (DC K) (deskF K X.h i (p.1, true)))) .non))
def pf_Desk_leave : PSp (WS P w K W0) := fun ω ds Q E => ∃ (X : HX) (i : Nat) (d : Addr) (p : List Int × Bool), ds = [.adr d] ∧ Hs K ω.2 X ∧ X.At i d p ∧
  ((p.2 = false ∧ E ω ⟨He.ga K "NotInside", none⟩) ∨ (p.2 = true ∧ Q ((), ω.2.put d (.mi (DC K) (deskF K X.h i (p.1, false)))) .non))
end
end LW
namespace LW
open PySem PySem.Spec PyProof.Rows L2
section
variable {W : Wrl} {ω : W.Ω} {ρ : List Sl} {Q : W.Ω → D → Prop} {g : QTG} {qt : QTT W} {qe : QT W} {vs : List Nat} {ds : List D} {inv : W.Ω → List Sl → Prop}
theorem v_kLcPN (p : Nat → Bool) (f : Nat → D) (hl : ds.length ≤ 1000000) (hst : still ρ vs = true) (hin : inv ω (wipeP ρ vs))
    (hs : ∀ (i : Nat) (d : D) (Qy : W.Ω → D → Prop) (Qn : W.Ω → Prop), ds[i]? = some d → (p i = true → Qy ω (f i)) → (p i = false → Qn ω) → g d (wipeP ρ vs) fun ρ2 => wipeP ρ2 vs = wipeP ρ vs ∧ qt ω ρ2 (fun ω2 b => if b = true then qe ω2 ρ2 Qy (fun _ _ => False) else Qn ω2) (fun _ _ => False))
    (hd : Q ω (.lst (((List.range ds.length).filter p).map f))) : kLcP g qt qe vs ρ Q ω ds inv := by
  refine ⟨hst, hl, fun i ω' acc => ω' = ω ∧ acc = ((List.range i).filter p).map f, ⟨rfl, rfl⟩, fun i ω' acc h => by rw [h.1]; exact hin, fun i d ω' acc hid ⟨e1, e2⟩ _ => ?_, fun ω' acc ⟨e1, e2⟩ => by rw [e1, e2]; exact hd⟩
  obtain rfl := e1
  subst e2
  exact hs i d _ (fun ω2 => ω2 = ω' ∧ ((List.range i).filter p).map f = ((List.range (i + 1)).filter p).map f) hid (fun hp => ⟨rfl, by rw [List.range_succ, List.filter_append, List.map_append]; simp [hp]⟩) fun hp => ⟨rfl, by rw [List.range_succ, List.filter_append, List.map_append]; simp [hp]⟩
theorem v_kLcPNM (f : Nat → D) (hl : ds.length ≤ 1000000) (hst : still ρ vs = true) (hin : inv ω (wipeP ρ vs))
    (hs : ∀ (i : Nat) (d : D) (Q' : W.Ω → D → Prop), ds[i]? = some d → Q' ω (f i) → g d (wipeP ρ vs) fun ρ2 => wipeP ρ2 vs = wipeP ρ vs ∧ qe ω ρ2 Q' (fun _ _ => False))
    (hd : Q ω (.lst ((List.range ds.length).map f))) : kLcP g qYes qe vs ρ Q ω ds inv := by
  refine ⟨hst, hl, fun i ω' acc => ω' = ω ∧ acc = (List.range i).map f, ⟨rfl, rfl⟩, fun i ω' acc h => by rw [h.1]; exact hin, fun i d ω' acc hid ⟨e1, e2⟩ _ => ?_, fun ω' acc ⟨e1, e2⟩ => by rw [e1, e2]; exact hd⟩
  obtain rfl := e1
  subst e2
  exact hs i d _ hid ⟨rfl, by rw [List.range_succ, List.map_append] <;> rfl⟩
end
end LW
namespace LW
open PySem PySem.Spec PyProof.Rows L2
section
variable {K : PySem.W.Frag} {st st' : Sto} {X : HX} {i : Nat} {d a c : Addr} {p : List Int × Bool} {m : MO} {ds : List D}
theorem Sto.self (h : st a = some m) : st.put a m = st := by
  funext b
  unfold Sto.put
  split
  · rename_i z; rw [z, h]
  · rfl
theorem Hs.off (h : Hs K st X) (hc : st c = some (.ml ds)) (n1 : c ≠ X.lh) (n2 : c ≠ X.ld) : Hs K (st.put c m) X :=
  ⟨Sto.ne (Sto.inj h.sh hc mi_ml) h.sh, Sto.ne n1.symm h.sl, Sto.ne n2.symm h.sd, h.len, h.six, h.n1, h.n12, h.c1, h.c6, fun i d p h1 h2 => Sto.ne (Sto.inj (h.dk i d p h1 h2) hc mi_ml) (h.dk i d p h1 h2), h.num⟩
theorem Hs.init {lh ld : Addr} {n : Nat} {cp : Int} (n1 : 1 ≤ n) (n12 : n ≤ 12) (c1 : 1 ≤ cp) (c6 : cp ≤ 6) (h1 : a ≠ lh) (h2 : a ≠ ld) (h3 : lh ≠ ld) : Hs K (((st.put lh (.ml (dInts (List.replicate n 0)))).put ld (.ml [])).put a (.mi (HC K) (hallF a lh ld cp))) ⟨a, lh, ld, List.replicate n 0, cp, [], []⟩ :=
  ⟨Sto.same, Sto.ne h1.symm (Sto.ne h3 Sto.same), Sto.ne h2.symm Sto.same, rfl, Nat.zero_le _, by show 1 ≤ (List.replicate n (0 : Int)).length; rw [List.length_replicate]; exact n1, by show (List.replicate n (0 : Int)).length ≤ 12; rw [List.length_replicate]; exact n12, c1, c6, (fun i d p h1 _ => by cases h1), (fun i p h1 => by cases h1)⟩
variable {P : Program} {w : World} {ω : Unit × Sto} {Q : Unit × Sto → D → Prop} {E : Unit × Sto → Exn → Prop} {k : Int}
end
structure MdAt (st : Sto) (a c o : Addr) (rows : List Addr) (hd : List Int) (os : List (List Int)) : Prop where
  sa : st a = some (.ml [.adr c, .adr o])
  sc : st c = some (.ml (dInts hd))
  so : st o = some (.ml (rows.map D.adr))
  len : rows.length = os.length
  sr : ∀ (j : Nat) (r : Addr) (x : List Int), rows[j]? = some r → os[j]? = some x → st r = some (.ml (dInts x))
  cr : c ∉ rows
  ca : c ≠ a
  co : c ≠ o
  oa : o ≠ a
  or_ : o ∉ rows
  ar : a ∉ rows
def MdOff (a c o : Addr) (rows : List Addr) (b : Addr) : Prop := b ≠ a ∧ b ≠ c ∧ b ≠ o ∧ b ∉ rows
section
variable {st st' : Sto} {a c o b : Addr} {rows : List Addr} {hd : List Int} {os : List (List Int)} {m : MO}
theorem MdAt.off (h : MdAt st a c o rows hd os) (n : MdOff a c o rows b) : MdAt (st.put b m) a c o rows hd os :=
  ⟨Sto.ne n.1.symm h.sa, Sto.ne n.2.1.symm h.sc, Sto.ne n.2.2.1.symm h.so, h.len, fun j r x h1 h2 => Sto.ne (fun z => n.2.2.2 (by rw [← z]; exact List.mem_of_getElem? h1)) (h.sr j r x h1 h2), h.cr, h.ca, h.co, h.oa, h.or_, h.ar⟩
theorem MdAt.fresh (h : MdAt st a c o rows hd os) (hb : st b = none) : MdOff a c o rows b := by
  refine ⟨(Sto.apart h.sa hb).symm, (Sto.apart h.sc hb).symm, (Sto.apart h.so hb).symm, fun z => ?_⟩
  obtain ⟨j, hj⟩ := List.getElem?_of_mem z
  have hjl := (List.getElem?_eq_some_iff.mp hj).1
  exact Sto.apart (h.sr j b _ hj (List.getElem?_eq_getElem (by rw [← h.len]; exact hjl))) hb rfl
theorem MdAt.put (h : MdAt st a c o rows hd os) {hd' : List Int} : MdAt (st.put c (.ml (dInts hd'))) a c o rows hd' os :=
  ⟨Sto.ne h.ca.symm h.sa, Sto.same, Sto.ne h.co.symm h.so, h.len, fun j r x h1 h2 => Sto.ne (fun z => h.cr (by rw [← z]; exact List.mem_of_getElem? h1)) (h.sr j r x h1 h2), h.cr, h.ca, h.co, h.oa, h.or_, h.ar⟩
theorem MdAt.row (h : MdAt st a c o rows hd os) {x : List Int} (hb : st b = none) : MdAt ((st.put b (.ml (dInts x))).put o (.ml ((rows ++ [b]).map D.adr))) a c o (rows ++ [b]) hd (os ++ [x]) := by
  have n := h.fresh hb
  refine ⟨Sto.ne h.oa.symm (Sto.ne n.1.symm h.sa), Sto.ne h.co (Sto.ne n.2.1.symm h.sc), Sto.same, by rw [List.length_append, List.length_append, h.len] <;> rfl, fun j r y h1 h2 => ?_, fun z => ?_, h.ca, h.co, h.oa, fun z => ?_, fun z => ?_⟩
  · rcases Nat.lt_or_ge j rows.length with z | z
    · rw [List.getElem?_append_left z] at h1
      rw [List.getElem?_append_left (by rw [← h.len]; exact z)] at h2
      have hm := List.mem_of_getElem? h1
      exact Sto.ne (fun e => h.or_ (by rw [← e]; exact hm)) (Sto.ne (fun e => n.2.2.2 (by rw [← e]; exact hm)) (h.sr j r y h1 h2))
    · rw [List.getElem?_append_right z] at h1
      rw [List.getElem?_append_right (by rw [← h.len]; exact z), ← h.len] at h2
      have e0 : j - rows.length = 0 := by
        have := (List.getElem?_eq_some_iff.mp h1).1
        simp at this
        omega
      rw [e0] at h1 h2
      cases Option.some.inj h1
      cases Option.some.inj h2
      exact Sto.ne n.2.2.1 Sto.same
  · rcases List.mem_append.mp z with z | z
    · exact h.cr z
    · exact n.2.1 (List.mem_singleton.mp z).symm
  · rcases List.mem_append.mp z with z | z
    · exact h.or_ z
    · exact n.2.2.1 (List.mem_singleton.mp z).symm
  · rcases List.mem_append.mp z with z | z
    · exact h.ar z
    · exact n.1 (List.mem_singleton.mp z).symm
end
end LW
namespace LW
open PySem PySem.Spec PyProof.Rows L2
abbrev StC (K : PySem.W.Frag) : Addr := He.ga K "Stay"
section
variable (P : Program) (w : World) (K : PySem.W.Frag)
def pf_Stay___init__ : PSp (WS P w K W0) := fun ω ds Q _ => ∃ x d : Addr, ds = [.adr x, .adr d] ∧ ω.2 x = some (.mi (StC K) []) ∧ Q ((), ω.2.put x (.mi (StC K) [("desk", .adr d)])) .non
def pf_Stay___enter__ : PSp (WS P w K W0) := fun ω ds Q E => ∃ (X : HX) (i : Nat) (x d : Addr) (p : List Int × Bool), ds = [.adr x] ∧ ω.2 x = some (.mi (StC K) [("desk", .adr d)]) ∧ Hs K ω.2 X ∧ X.At i d p ∧
  ((p.2 = true ∧ E ω ⟨He.ga K "AlreadyInside", none⟩) ∨ (p.2 = false ∧ enoB X i = false ∧ E ω ⟨He.ga K "NotEnough", none⟩) ∨ (p.2 = false ∧ enoB X i = true ∧ X.cap ≤ (occ X).length ∧ E ω ⟨He.ga K "RoomFull", none⟩) ∨
   (p.2 = false ∧ enoB X i = true ∧ ((occ X).length : Int) < X.cap ∧ Q ((), ω.2.put d (.mi (DC K) (deskF K X.h i (p.1, true)))) (.adr d)))
def pf_Stay___exit__ : PSp (WS P w K W0) := fun ω ds Q _ => ∃ (X : HX) (i : Nat) (x d : Addr) (p : List Int × Bool) (a b e : D), ds = [.adr x, a, b, e] ∧ ω.2 x = some (.mi (StC K) [("desk", .adr d)]) ∧ Hs K ω.2 X ∧ X.At i d p ∧ Q ((), ω.2.put d (.mi (DC K) (deskF K X.h i (p.1, false)))) .non
def pf__done : PSp (WS P w K W0) := fun ω ds Q E => ∃ (X : HX) (i : Nat) (d : Addr) (p : List Int × Bool) (s : Str) (k : Int), ds = [.adr d, .str s, .int k] ∧ Hs K ω.2 X ∧ X.At i d p ∧
  (s = "take" → pf_set K true ω X i d p k Q E) ∧ (s = "give" → pf_set K false ω X i d p k Q E) ∧
  (s = "see" → (0 ≤ k ∧ k < X.held.length ∧ Q ω (.str (seeT X i p k))) ∨ (¬ (0 ≤ k ∧ k < X.held.length) ∧ E ω ⟨He.ga K "NoCell", some ("cell", .int k)⟩)) ∧
  (s ≠ "take" → s ≠ "give" → s ≠ "see" → E ω ⟨He.ga K "BadInstruction", some ("instruction", .str s)⟩)
def runD (o : List Int) (wk : Int) : List (Str × Int) → List Int → List D → List Int × Nat × D
  | [], h, acc => (h, 0, .lst acc)
  | (s, k) :: r, h, acc =>
    if ¬ (s = "take" ∨ s = "give" ∨ s = "see") then (h, 1, .str s)
    else if ¬ (0 ≤ k ∧ k < h.length) then (h, 2, .int k)
    else if s = "see" then runD o wk r h (acc ++ [.str (if atP h (atP o k) = 0 then "empty" else if atP h (atP o k) = wk then "mine" else "other")])
    else if ¬ (atP h (atP o k) = 0 ∨ atP h (atP o k) = wk) then (h, 3, .int (atP h (atP o k)))
    else runD o wk r (h.set (atP o k).toNat (if s = "take" then wk else 0)) (acc ++ [.non])
def resD (K : PySem.W.Frag) (r : Nat × D) (Q : D → Prop) (E : Exn → Prop) : Prop :=
  (r.1 = 0 → Q r.2) ∧ (r.1 = 1 → E ⟨He.ga K "BadInstruction", some ("instruction", r.2)⟩) ∧ (r.1 = 2 → E ⟨He.ga K "NoCell", some ("cell", r.2)⟩) ∧ (r.1 = 3 → E ⟨He.ga K "Held", some ("holder", r.2)⟩)
def visR (X : HX) (i : Nat) (p : List Int × Bool) (ws : List (Str × Int)) : List Int × D :=
  if p.2 = true then (X.held, .tup [.str "already", .bl true])
  else if enoB X i = false then (X.held, .tup [.str "not enough", .bl true])
  else if X.cap ≤ (occ X).length then (X.held, .tup [.str "full", .bl true])
  else ((runD p.1 ((i : Int) + 1) ws X.held []).1, if (runD p.1 ((i : Int) + 1) ws X.held []).2.1 = 0 then .tup [.str "done", (runD p.1 ((i : Int) + 1) ws X.held []).2.2] else if (runD p.1 ((i : Int) + 1) ws X.held []).2.1 = 1 then .tup [.str "word", (runD p.1 ((i : Int) + 1) ws X.held []).2.2] else if (runD p.1 ((i : Int) + 1) ws X.held []).2.1 = 2 then .tup [.str "no cell", (runD p.1 ((i : Int) + 1) ws X.held []).2.2] else .tup [.str "held", (runD p.1 ((i : Int) + 1) ws X.held []).2.2])
def deedT (z : Str × Int) : D := .tup [.str z.1, .int z.2]
def stayO (K : PySem.W.Frag) (d : Addr) : MO := .mi (StC K) [("desk", .adr d)]
def pf_visit : PSp (WS P w K W0) := fun ω ds Q E => ∃ (X : HX) (i : Nat) (d : Addr) (p : List Int × Bool) (ws : List (Str × Int)), ds = .adr d :: ws.map deedT ∧ ws.length ≤ 1000000 ∧ Hs K ω.2 X ∧ X.At i d p ∧ ∀ x : Addr, ω.2 x = none →
  ((p.2 = true ∧ E ((), ω.2.put x (stayO K d)) ⟨He.ga K "AlreadyInside", none⟩) ∨ (p.2 = false ∧ enoB X i = false ∧ E ((), ω.2.put x (stayO K d)) ⟨He.ga K "NotEnough", none⟩) ∨ (p.2 = false ∧ enoB X i = true ∧ X.cap ≤ (occ X).length ∧ E ((), ω.2.put x (stayO K d)) ⟨He.ga K "RoomFull", none⟩) ∨
   (p.2 = false ∧ enoB X i = true ∧ ((occ X).length : Int) < X.cap ∧
    resD K (runD p.1 ((i : Int) + 1) ws X.held []).2 (Q ((), (ω.2.put x (stayO K d)).put X.lh (.ml (dInts (runD p.1 ((i : Int) + 1) ws X.held []).1)))) (E ((), (ω.2.put x (stayO K d)).put X.lh (.ml (dInts (runD p.1 ((i : Int) + 1) ws X.held []).1))))))
end
theorem Hs.new {K : PySem.W.Frag} {st : Sto} {X : HX} {x : Addr} {m : MO} (h : Hs K st X) (hx : st x = none) : Hs K (st.put x m) X :=
  ⟨Sto.ne (Sto.apart h.sh hx) h.sh, Sto.ne (Sto.apart h.sl hx) h.sl, Sto.ne (Sto.apart h.sd hx) h.sd, h.len, h.six, h.n1, h.n12, h.c1, h.c6, fun i d p h1 h2 => Sto.ne (Sto.apart (h.dk i d p h1 h2) hx) (h.dk i d p h1 h2), h.num⟩
theorem sto_visit {st : Sto} {d l : Addr} {a b m : MO} (h : st d = some a) (hn : d ≠ l) : ((st.put d b).put l m).put d a = st.put l m := by
  funext z
  unfold Sto.put
  by_cases h1 : z = d
  · subst h1
    rw [if_pos rfl, if_neg hn, h]
  · rw [if_neg h1]
    by_cases h2 : z = l
    · rw [if_pos h2, if_pos h2]
    · rw [if_neg h2, if_neg h2, if_neg h1]
theorem HX.At.setI {X : HX} {i : Nat} {d : Addr} {p : List Int × Bool} (h : X.At i d p) (b : Bool) : (X.setI i b).At i d (p.1, b) := by
  refine ⟨h.1, ?_⟩
  show (X.nu.set i ((X.nu.getD i ([], false)).1, b))[i]? = _
  have hl : i < X.nu.length := (List.getElem?_eq_some_iff.mp h.2).1
  rw [List.getElem?_set_self hl, List.getD_eq_getElem?_getD, h.2]
  rfl
theorem runD_lev {o : List Int} {wk : Int} : ∀ (ws : List (Str × Int)) (h : List Int) (acc : List D), acc.length + ws.length ≤ 1000 → acc.all (D.lev 6) = true → (runD o wk ws h acc).2.2.lev 7 = true
  | [], h, acc, hl, ha => by
    show (decide (acc.length ≤ 1000000) && acc.all (D.lev 6)) = true
    rw [ha, Bool.and_true]
    exact decide_eq_true (by have : acc.length + 0 ≤ 1000 := hl; omega)
  | (s, k) :: r, h, acc, hl, ha => by
    have hl' : acc.length + (r.length + 1) ≤ 1000 := hl
    have app : ∀ d : D, d.lev 6 = true → (acc ++ [d]).all (D.lev 6) = true := fun d hd => by
      rw [List.all_append, ha, Bool.true_and]
      show (d.lev 6 && true) = true
      rw [hd] <;> rfl
    have len : ∀ d : D, (acc ++ [d]).length + r.length ≤ 1000 := fun d => by
      rw [List.length_append, List.length_singleton]; omega
    rw [runD]
    split
    · rfl
    split
    · rfl
    split
    · exact runD_lev r _ _ (len _) (app _ rfl)
    split
    · rfl
    · exact runD_lev r _ _ (len _) (app _ rfl)
theorem runD_len {o : List Int} {wk : Int} : ∀ (ws : List (Str × Int)) (h : List Int) (acc : List D), (runD o wk ws h acc).1.length = h.length
  | [], h, acc => rfl
  | (s, k) :: r, h, acc => by
    rw [runD]
    split
    · rfl
    split
    · rfl
    split
    · exact runD_len r _ _
    split
    · rfl
    · exact (runD_len r _ _).trans List.length_set
theorem visR_len {X : HX} {i : Nat} {p : List Int × Bool} {ws : List (Str × Int)} : (visR X i p ws).1.length = X.held.length := by
  unfold visR
  split
  · rfl
  split
  · rfl
  split
  · rfl
  exact runD_len _ _ _
theorem visR_lev {X : HX} {i : Nat} {p : List Int × Bool} {ws : List (Str × Int)} (h : ws.length ≤ 13) : (visR X i p ws).2.lev 8 = true := by
  unfold visR
  split
  · rfl
  split
  · rfl
  split
  · rfl
  have l := runD_lev (o := p.1) (wk := (i : Int) + 1) ws X.held [] (by show 0 + ws.length ≤ 1000; omega) rfl
  have two : ∀ (x : Str) (d : D), d.lev 7 = true → (D.tup [.str x, d]).lev 8 = true := fun x d hd => by
    show (decide (2 ≤ 1000000) && (true && (d.lev 7 && true))) = true
    rw [hd] <;> rfl
  generalize runD p.1 ((i : Int) + 1) ws X.held [] = R at l ⊢
  dsimp only
  split
  · exact two _ _ l
  split
  · exact two _ _ l
  split
  · exact two _ _ l
  · exact two _ _ l
end LW
namespace LW
open PySem PySem.Spec PyProof.Rows L2
section
variable {K : PySem.W.Frag} {st : Sto} {X : HX} {i : Nat} {d : Addr} {p : List Int × Bool} {ins : List Int}
def inB (X : HX) (j : Nat) : Bool := (X.nu.getD j ([], false)).2
theorem inB_at (hi : X.At i d p) : inB X i = p.2 := by
  unfold inB
  rw [List.getD_eq_getElem?_getD, hi.2] <;> rfl
theorem mem_occ {x : Int} : x ∈ occ X ↔ ∃ j : Nat, j < X.da.length ∧ inB X j = true ∧ x = (j : Int) + 1 := by
  unfold occ
  rw [List.mem_map]
  constructor
  · rintro ⟨j, hj, rfl⟩
    rw [List.mem_filter, List.mem_range] at hj
    exact ⟨j, hj.1, hj.2, rfl⟩
  · rintro ⟨j, h1, h2, rfl⟩
    exact ⟨j, List.mem_filter.mpr ⟨List.mem_range.mpr h1, h2⟩, rfl⟩
theorem nodup_occ : (occ X).Nodup := by
  unfold occ List.Nodup
  rw [List.pairwise_map]
  exact (List.Pairwise.filter _ List.pairwise_lt_range).imp fun h z => by omega
theorem in_occ (hi : X.At i d p) : ((i : Int) + 1) ∈ occ X ↔ p.2 = true := by
  rw [mem_occ, ← inB_at hi]
  constructor
  · rintro ⟨j, _, h2, e⟩
    rw [show i = j by omega]; exact h2
  · exact fun h => ⟨i, (List.getElem?_eq_some_iff.mp hi.1).1, h, rfl⟩
theorem inB_set {b : Bool} (hl : X.nu.length = X.da.length) (hi : i < X.da.length) {j : Nat} : inB (X.setI i b) j = if i = j then b else inB X j := by
  unfold inB HX.setI
  show ((X.nu.set i _).getD j ([], false)).2 = _
  rw [List.getD_eq_getElem?_getD, List.getElem?_set]
  by_cases e : i = j
  · rw [if_pos e, if_pos (by omega), if_pos e] <;> rfl
  · rw [if_neg e, if_neg e, List.getD_eq_getElem?_getD]
theorem occ_in (hs : Hs K st X) (hi : X.At i d p) (hp : p.2 = false) (h : ins.Perm (occ X)) : (ins ++ [(i : Int) + 1]).Perm (occ (X.setI i true)) := by
  have il := (List.getElem?_eq_some_iff.mp hi.1).1
  have hl : X.nu.length = X.da.length := hs.len.symm
  have hn : ¬ ((i : Int) + 1) ∈ occ X := fun z => by rw [(in_occ hi).mp z] at hp; cases hp
  refine (h.append_right _).trans ?_
  have n1 : (occ X ++ [(i : Int) + 1]).Nodup := by
    rw [List.nodup_append]
    exact ⟨nodup_occ, by simp, fun a ha b hb e => hn (by rw [List.mem_singleton.mp hb] at e; rw [← e]; exact ha)⟩
  refine (List.perm_ext_iff_of_nodup n1 nodup_occ).mpr fun x => ?_
  rw [List.mem_append, List.mem_singleton, mem_occ, mem_occ]
  constructor
  · rintro (⟨j, h1, h2, rfl⟩ | rfl)
    · refine ⟨j, h1, ?_, rfl⟩
      rw [inB_set hl il]
      split
      · rfl
      · exact h2
    · exact ⟨i, il, by rw [inB_set hl il, if_pos rfl], rfl⟩
  · rintro ⟨j, h1, h2, rfl⟩
    rw [inB_set hl il] at h2
    by_cases e : i = j
    · exact .inr (by rw [e])
    · rw [if_neg e] at h2
      exact .inl ⟨j, h1, h2, rfl⟩
theorem occ_out (hs : Hs K st X) (hi : X.At i d p) (h : ins.Perm (occ X)) : (ins.erase ((i : Int) + 1)).Perm (occ (X.setI i false)) := by
  have il := (List.getElem?_eq_some_iff.mp hi.1).1
  have hl : X.nu.length = X.da.length := hs.len.symm
  refine (h.erase _).trans ?_
  refine (List.perm_ext_iff_of_nodup (nodup_occ.erase _) nodup_occ).mpr fun x => ?_
  rw [nodup_occ.mem_erase_iff, mem_occ, mem_occ]
  constructor
  · rintro ⟨hx, j, h1, h2, rfl⟩
    refine ⟨j, h1, ?_, rfl⟩
    rw [inB_set hl il, if_neg (by omega)]
    exact h2
  · rintro ⟨j, h1, h2, rfl⟩
    rw [inB_set hl il] at h2
    by_cases e : i = j
    · rw [if_pos e] at h2; cases h2
    · rw [if_neg e] at h2
      exact ⟨by omega, j, h1, h2, rfl⟩
end
end LW
namespace LW
open PySem PySem.Spec PyProof.Rows L2
end LW
namespace LW
open PySem PySem.Spec PyProof.Rows L2
def lineNo (w : Str) (L : Nat) : Int := match (List.range L).find? fun (i : Nat) => decide (w = ((toString (i : Int) : String) : Str)) with
  | some i => i
  | none => -1
def movesW : List Str := ["take", "give", "on"]
def condsW : List Str := ["first", "empty", "mine", "other", "none", "full", "enough", "behind"]
def rowD (v : Str) (b : Bool) (c : Str) (t : Int) : D := .tup [.str v, .bl b, .str c, .int t]
def parseW (w0 : Str) (ws : List Str) (L : Nat) : D :=
  if ws = [] ∧ (w0 = "rest" ∨ w0 = "room") then rowD w0 false "" 0
  else if ws = [] ∧ Txt.removesuffix w0 "*" ∈ movesW then rowD (Txt.removesuffix w0 "*") (Txt.endswith w0 "*") "" 0
  else if ws.length = 1 ∧ w0 = "wait" ∧ ws.headD "" ∈ condsW then rowD w0 false (ws.headD "") 0
  else if ws.length = 1 ∧ w0 = "go" ∧ 0 ≤ lineNo ((w0 :: ws).getLastD "") L then rowD w0 false "" (lineNo ((w0 :: ws).getLastD "") L)
  else if ws.length = 2 ∧ (w0 = "if" ∨ w0 = "unless") ∧ ws.headD "" ∈ condsW ∧ 0 ≤ lineNo ((w0 :: ws).getLastD "") L then rowD w0 false (ws.headD "") (lineNo ((w0 :: ws).getLastD "") L)
  else .non
def OkT (L : Nat) (t : Str) (r : D) : Prop := ∃ w0 ws, Txt.split t " " = w0 :: ws ∧ t.length ≤ 1000 ∧ w0.length ≤ 1000 ∧ ws.length ≤ 1000 ∧ parseW w0 ws L = r ∧ r.isNon = false ∧ r.pure = true
def OkP (ts : List Str) (rs : List D) : Prop := 1 ≤ ts.length ∧ ts.length ≤ 24 ∧ rs.length = ts.length ∧ ts[0]? = some ("rest" : Str) ∧ ∀ (i : Nat) (t : Str) (r : D), ts[i]? = some t → rs[i]? = some r → OkT ts.length t r
def nS (n : Nat) : Str := ((toString (n : Int) : String) : Str)
structure Cmd where
  v : Str
  s : Bool
  c : Str
  n : Nat
deriving DecidableEq
def Cmd.ok (L : Nat) (k : Cmd) : Prop :=
  ((k.v = "rest" ∨ k.v = "room") ∧ k.s = false ∧ k.c = "" ∧ k.n = 0) ∨ (k.v ∈ movesW ∧ k.c = "" ∧ k.n = 0) ∨ (k.v = "wait" ∧ k.s = false ∧ k.c ∈ condsW ∧ k.n = 0) ∨
  (k.v = "go" ∧ k.s = false ∧ k.c = "" ∧ k.n < L) ∨ ((k.v = "if" ∨ k.v = "unless") ∧ k.s = false ∧ k.c ∈ condsW ∧ k.n < L)
def Cmd.words (k : Cmd) : List Str :=
  if k.v = "go" then [k.v, nS k.n] else if k.v = "wait" then [k.v, k.c] else if k.v = "if" ∨ k.v = "unless" then [k.v, k.c, nS k.n] else [k.v ++ (if k.s then "*" else "")]
def Cmd.text (k : Cmd) : Str :=
  if k.v = "go" then ("go " : Str) ++ nS k.n else if k.v = "wait" then ("wait " : Str) ++ k.c else if k.v = "if" ∨ k.v = "unless" then k.v ++ " " ++ k.c ++ " " ++ nS k.n else k.v ++ (if k.s then "*" else "")
def Cmd.row (k : Cmd) : D := rowD k.v k.s k.c k.n
def nosc (t : Str) : Bool := (TL.tl t).all fun c => c != 59
def Ins (L : Nat) (t : Str) : Prop := t.length ≤ 40 ∧ ∃ k : Cmd, k.ok L ∧ k.text = t ∧ Txt.split t " " = k.words ∧ OkT L t k.row ∧ nosc t = true
theorem nosc_not {t : Str} (h : nosc t = true) : 59 ∉ TL.tl t := fun z => by
  have := List.all_eq_true.mp h 59 z
  exact absurd this (by decide)
theorem split_joinP {ts : List Str} (h0 : ts ≠ []) (h : ∀ t ∈ ts, nosc t = true) : Txt.split (Txt.join "; " ts) "; " = ts :=
  TL.split_join (s := 59) (S := [32]) (by decide +kernel) (by decide +kernel) h0 fun p hp => nosc_not (h p hp)
theorem exists_rows {L : Nat} : ∀ {ts : List Str}, (∀ t ∈ ts, Ins L t) → ∃ rs : List D, rs.length = ts.length ∧ ∀ (i : Nat) (t : Str) (r : D), ts[i]? = some t → rs[i]? = some r → OkT L t r
  | [], _ => ⟨[], rfl, fun i t r h => by simp at h⟩
  | t :: ts, h => by
    obtain ⟨rs, h1, h2⟩ := exists_rows (ts := ts) fun x hx => h x (List.mem_cons_of_mem _ hx)
    obtain ⟨_, k, _, _, _, hr, _⟩ := h t List.mem_cons_self
    refine ⟨k.row :: rs, by simp [h1], fun i t' r' e1 e2 => ?_⟩
    cases i with
    | zero =>
      simp at e1 e2
      subst e1 e2
      exact hr
    | succ i => exact h2 i t' r' (by simpa using e1) (by simpa using e2)
def WrittenP (ts : List Str) : Prop := 1 ≤ ts.length ∧ ts.length ≤ 24 ∧ ts[0]? = some ("rest" : Str) ∧ ∀ t ∈ ts, Ins ts.length t
theorem WrittenP.ok {ts : List Str} (h : WrittenP ts) : ∃ rs, OkP ts rs := by
  obtain ⟨rs, h1, h2⟩ := exists_rows h.2.2.2
  exact ⟨rs, h.1, h.2.1, h1, h.2.2.1, h2⟩
theorem WrittenP.split {ts : List Str} (h : WrittenP ts) : Txt.split (Txt.join "; " ts) "; " = ts := split_joinP (fun z => by have := h.1; rw [z] at this; exact absurd this (by decide)) fun t ht => by
  obtain ⟨_, _, _, _, _, _, z⟩ := h.2.2.2 t ht
  exact z
section
variable {K : PySem.W.Frag} {Q : Unit → D → Prop} {E : Unit → Exn → Prop} {ts : List Str} {rs : List D}
end
end LW
namespace LW
open PySem PySem.Spec PyProof.Rows L2
section
variable {R : Bool → Prop} {i : Int} {z : Str} {ds : List D} {b : Bool} {Q1 : D → Prop}
theorem kit_int : kitB "int" "int" = some true := by decide +kernel
theorem kit_intB : kitB "int" "bool" = some false := by decide +kernel
theorem kit_tup : kitB "tuple" "tuple" = some true := by decide +kernel
theorem kit_lst : kitB "list" "list" = some true := by decide +kernel
theorem kit_bl : kitB "bool" "bool" = some true := by decide +kernel
theorem kit_str : kitB "str" "str" = some true := by decide +kernel
theorem v_isInt (h : R true) : kIsT "int" (.int i) R := ⟨rfl, true, kit_int, h⟩
theorem v_isIntB (h : R false) : kIsT "bool" (.int i) R := ⟨rfl, false, kit_intB, h⟩
theorem v_isTup (h : R true) : kIsT "tuple" (.tup ds) R := ⟨rfl, true, kit_tup, h⟩
theorem v_isLst (h : R true) : kIsT "list" (.lst ds) R := ⟨rfl, true, kit_lst, h⟩
theorem v_isBl (h : R true) : kIsT "bool" (.bl b) R := ⟨rfl, true, kit_bl, h⟩
theorem v_isStr (h : R true) : kIsT "str" (.str z) R := ⟨rfl, true, kit_str, h⟩
end
theorem any_dInts {z : Int} : ∀ ns : List Int, ((dInts ns).any fun x => x.same (.int z)) = decide (z ∈ ns)
  | [] => by simp [dInts]
  | n :: ns => by
    show (decide (n = z) || ((dInts ns).any fun x => x.same (.int z))) = _
    rw [any_dInts ns]
    by_cases h : n = z
    · subst h; simp
    · have h' : z ≠ n := fun q => h q.symm
      simp [h, h']
theorem flat_dInts (ns : List Int) : (dInts ns).all D.flat = true := List.all_eq_true.mpr fun d hd => by
  obtain ⟨i, _, rfl⟩ := List.mem_map.mp hd
  rfl
theorem v_inLI {z : Int} {ns : List Int} {Q1 : D → Prop} (h : Q1 (.bl (decide (z ∈ ns)))) : fIn false (.int z) (.lst (dInts ns)) Q1 := ⟨dInts ns, .inl rfl, rfl, flat_dInts ns, by rw [any_dInts]; exact h⟩
theorem v_ninTI {z : Int} {ns : List Int} {Q1 : D → Prop} (h : Q1 (.bl (!decide (z ∈ ns)))) : fIn true (.int z) (.tup (dInts ns)) Q1 := ⟨dInts ns, .inr rfl, rfl, flat_dInts ns, by rw [any_dInts]; exact h⟩
theorem w_iteT {p : Prop} [Decidable p] {A B : Prop} (hp : p) (h : A) : if decide p = true then A else B := by rw [if_pos (decide_eq_true hp)]; exact h
theorem w_iteF {p : Prop} [Decidable p] {A B : Prop} (hp : ¬ p) (h : B) : if decide p = true then A else B := by rw [if_neg (by simpa using hp)]; exact h
theorem w_iteNT {p : Prop} [Decidable p] {A B : Prop} (hp : p) (h : B) : if (!decide p) = true then A else B := by rw [if_neg (by simpa using hp)]; exact h
theorem w_iteNF {p : Prop} [Decidable p] {A B : Prop} (hp : ¬ p) (h : A) : if (!decide p) = true then A else B := by rw [if_pos (by simpa using hp)]; exact h
end LW
namespace LW
open PySem PySem.Spec PyProof.Rows L2
section
variable {W : Wrl} {P : PEn W} {ω : W.Ω} {ρ : List Sl} {s : QTS W} {g : QTG}
end
theorem qg_up {X : Cx} {W : Wrl} {e : Expr} {t : List Nat} {g : QTG} (h : QG X .C W e t g) : QG X .A W e t g := PG.imp h fun v σ H Q ⟨F, T, ω, ρ, d, k, R, r, g, kk⟩ => ⟨F, T, ω, ρ, d, k, R, RR.c (m := .A) r, g, kk⟩
end LW
namespace LW
open PySem PySem.Spec PyProof.Rows L2
def fSlS : D → Option Int → Option Int → (D → Prop) → Prop
  | .str z, lo, hi, Q => z.length ≤ sizeLine ∧ Q (.str (Txt.slice z lo hi))
  | _, _, _, _ => False
theorem slSP {K : PySem.W.Frag} : SlP .A K C8.rSlX fSlS := fun S os H d v lo hi Q Qp hS r1 h k => by
  cases d <;> first | (exact h.elim) | skip
  obtain ⟨hz, h⟩ := h
  exact ⟨_, r1.str, hz, k _ _ H (GrP.refl _ _) (.str _) h⟩
theorem v_slS {z : Str} {lo hi : Option Int} {Q : D → Prop} (h1 : z.length ≤ sizeLine) (h : Q (.str (Txt.slice z lo hi))) : fSlS (.str z) lo hi Q := ⟨h1, h⟩
theorem v_lenS {z : Str} {Q : D → Prop} (h1 : z.length ≤ sizeLine) (h : Q (.int z.length)) : fLenS [.str z] Q := ⟨h1, h⟩
theorem len_cps (z : Str) : z.length = z.cps.toList.length := by
  conv => lhs; rw [← SX.S_tl z]
  exact SX.S_len _
theorem len_slTo {z : Str} {i : Int} (h : 0 ≤ i) : (Txt.slice z none (some i)).length ≤ z.length ∧ (Txt.slice z none (some i)).length ≤ i.toNat := by
  have e : Txt.slice z none (some i) = SX.S (z.cps.toList.take i.toNat) := by
    conv => lhs; rw [← SX.S_tl z]
    exact SX.slice_to h
  rw [e, SX.S_len, len_cps z, List.length_take]
  exact ⟨Nat.min_le_right _ _, Nat.min_le_left _ _⟩
theorem len_slFrom {z : Str} {i : Int} (h : 0 ≤ i) : (Txt.slice z (some i) none).length = z.length - i.toNat := by
  have e : Txt.slice z (some i) none = SX.S (z.cps.toList.drop i.toNat) := by
    conv => lhs; rw [← SX.S_tl z]
    exact SX.slice_from h
  rw [e, SX.S_len, len_cps z, List.length_drop]
theorem v_ixS {z : Str} {i : Int} {Q : D → Prop} (h1 : z.length ≤ sizeLine) (h0 : 0 ≤ i) (hi : i < z.length) (h : ∀ c : Nat, Q (.str ⟨#[c]⟩)) : fIxS (.str z) (.int i) Q := by
  rw [len_cps] at hi
  have e := List.getElem?_eq_getElem (l := z.cps.toList) (i := i.toNat) (by omega)
  exact ⟨h1, _, atI_of h0 e, h _⟩
end LW

namespace LW
open PySem PySem.Spec PyProof.Rows L2
local macro_rules | `(tactic| walk_at "pos") => `(tactic| first | decide | omega | assumption)
local macro_rules | `(tactic| walk_at "ne") => `(tactic| first
  | assumption
  | (refine Ne.symm ?_; assumption)
  | (refine' ne_of_none ?h1 ?h2; (case h2 => assumption); (case h1 => walk_at "at"))
  | (refine' Ne.symm (ne_of_none ?h1 ?h2); (case h2 => assumption); (case h1 => walk_at "at")))
local macro_rules | `(tactic| walk_at "nin") => `(tactic| first
  | exact nin0
  | (refine nin1 ?_; walk_at "ne")
  | (refine nin2 ?_ ?_ <;> walk_at "ne")
  | (refine nin3 ?_ ?_ ?_ <;> walk_at "ne"))
local macro_rules | `(tactic| walk_at "at") => `(tactic| first
  | assumption
  | (refine' Gr.get0 ?h1 ?h2; (case h1 => assumption); (case h2 => walk_at "at"))
  | (refine' Gr.keepB ?h1 ?h2 ?h3; (case h1 => assumption); (case h2 => walk_at "at"); (case h3 => first | exact Or.inl rfl | (refine Or.inr ?_; walk_at "nin"))))
local macro_rules | `(tactic| walk_at "sql") => `(tactic| first
  | assumption
  | (refine' sql_of ?h1; (case h1 => walk_at "at"))
  | (refine' sql_frz ?h1; (case h1 => walk_at "at"))
  | (refine' Gr.sql0 ?h1 ?h2; (case h1 => assumption); (case h2 => walk_at "sql"))
  | (refine' Gr.sqlB ?h1 ?h2 ?h3; (case h1 => assumption); (case h2 => walk_at "sql"); (case h3 => walk_at "nin")))
local macro_rules | `(tactic| walk_at "tx") => `(tactic| first
  | assumption
  | (refine' TupX.gr ?tx1 ?tx2; (case tx2 => assumption); (case tx1 => walk_at "tx")))
local macro_rules | `(tactic| walk_at "sqt") => `(tactic| first
  | assumption
  | (refine' TupX.sqt ?tx1; (case tx1 => walk_at "tx"))
  | (refine' sqt_of ?h1; (case h1 => walk_at "at"))
  | (refine' Gr.sqt ?h1 ?h2; (case h1 => assumption); (case h2 => walk_at "sqt")))
local macro_rules | `(tactic| walk_at "sq") => `(tactic| first
  | assumption
  | (refine Or.inl ?_; walk_at "sql")
  | (refine Or.inr ?_; walk_at "sqt"))
local macro_rules | `(tactic| walk_at "fre") => `(tactic| first
  | assumption
  | (refine' Gr.free0 ?h1 ?h2; (case h2 => assumption); (case h1 => assumption))
  | (refine' Gr.free1 ?h1 ?h2 ?h3; (case h2 => assumption); (case h1 => assumption); (case h3 => walk_at "ne")))
local macro_rules | `(tactic| walk_at "sub") => `(tactic| first
  | exact sub0
  | (refine sub1 ?_; first | (refine Or.inl ?_; simp; done) | (refine Or.inr ?_; walk_at "fre"))
  | (refine sub2 ?_ ?_ <;> first | (refine Or.inl ?_; simp; done) | (refine Or.inr ?_; walk_at "fre")))
local macro_rules | `(tactic| walk_at "gr") => `(tactic| first
  | assumption
  | exact Gr.refl _
  | (refine' Gr.same1 ?h1 ?h2; (case h1 => walk_at "at"); (case h2 => exact rfl))
  | (refine' Gr.step ?h1 ?h2 ?h3; (case h1 => assumption); (case h2 => walk_at "gr"); (case h3 => walk_at "sub")))
local macro_rules | `(tactic| walk_at "ix") => `(tactic| first
  | exact rfl
  | (refine' atI_nat ?h1; (case h1 => assumption)))
local macro_rules | `(tactic| walk_at "w1") => `(tactic| first
  | with_reducible refine w_seq ?_
  | ((with_reducible refine' w_var ?h1 ?h2); (case h1 => exact rfl))
  | with_reducible refine w_c ?_
  | with_reducible refine w_op ?_
  | with_reducible refine w_asg ?_
  | with_reducible refine w_cons ?_
  | with_reducible refine w_nil ?_
  | with_reducible refine w_rI0 ?_
  | with_reducible refine w_exb ?_
  | with_reducible refine w_test ?_
  | with_reducible refine w_ifS ?_
  | with_reducible refine w_ret ?_
  | with_reducible refine w_cb ?_
  | ((with_reducible refine w_gname ?_); try dsimp only [List.set])
  | ((with_reducible refine w_eq ?h1 ?h2); (case h1 => exact rfl))
  | ((with_reducible refine w_ne ?h1 ?h2); (case h1 => exact rfl))
  | with_reducible refine w_drop ?_
  | with_reducible refine w_call ?_
  | with_reducible refine w_callD ?_
  | with_reducible refine w_call1 ?_
  | with_reducible refine w_callN ?_
  | with_reducible refine w_callNS ?_
  | with_reducible refine w_and ?_
  | with_reducible refine w_or ?_
  | with_reducible refine w_not ?_
  | with_reducible refine w_T ?_
  | with_reducible refine w_F ?_
  | with_reducible refine w_nT ?_
  | with_reducible refine w_nF ?_
  | with_reducible refine w_un ?_
  | with_reducible refine w_rU ?_
  | with_reducible refine w_tLst ?_
  | with_reducible refine w_tTup ?_
  | with_reducible refine w_gsub ?_
  | with_reducible refine w_bm ?_
  | with_reducible refine w_bm0 ?_
  | with_reducible refine w_abs ?_
  | with_reducible refine w_int ?_
  | with_reducible refine w_chain ?_
  | with_reducible refine w_tB ?_
  | with_reducible refine w_exV ?_
  | with_reducible refine w_andV ?_
  | with_reducible refine w_orV ?_
  | with_reducible refine w_notV ?_
  | with_reducible refine w_ifE ?_
  | with_reducible refine w_retN ?_
  | with_reducible refine w_for ?_
  | with_reducible refine w_iRng1 ?_
  | with_reducible refine w_iRng2 ?_
  | with_reducible refine w_iRng3 ?_
  | with_reducible refine w_iList ?_
  | with_reducible refine w_iTup ?_
  | with_reducible refine w_next ?_
  | ((with_reducible refine w_ends ?_); dsimp only [List.set]))
local macro_rules | `(tactic| walk_at "h1") => `(tactic| first
  | ((with_reducible refine' w_ixL ?h1 ?h2 ?h3); (case h1 => walk_at "sql"); (case h2 => walk_at "ix"))
  | ((with_reducible refine' w_ixT ?h1 ?h2 ?h3); (case h1 => walk_at "sqt"); (case h2 => walk_at "ix"))
  | ((with_reducible refine' w_tupOfT ?h1 ?h2); (case h1 => walk_at "sqt"))
  | ((with_reducible refine' w_tupOfL ?h1 ?h2); (case h1 => walk_at "sql"); intro _ _ _ _ _)
  | ((with_reducible refine' w_len ?h1 ?h2); (case h1 => walk_at "sq"))
  | ((with_reducible refine' w_ty ?h1 ?h2); (case h1 => walk_at "sql"))
  | ((with_reducible refine' w_setL ?h1 ?h2 ?h3); (case h1 => walk_at "at"); (case h2 => exact rfl); intro _ _ _; try dsimp only [List.set])
  | ((with_reducible refine' w_lst ?h1 ?h2); (case h1 => first | exact small (by decide) | exact small (by simp)); intro _ _ _ _ _)
  | ((with_reducible refine' w_tup ?h1 ?h2); (case h1 => first | exact small (by decide) | exact small (by simp)); intro _ _ _ _ _))
local macro_rules | `(tactic| walk_at "j1") => `(tactic| first
  | ((with_reducible refine' w_rItL ?h1 ?h2); (case h1 => walk_at "sql"))
  | ((with_reducible refine' w_rItT ?h1 ?h2); (case h1 => walk_at "sqt"))
  | ((with_reducible refine' w_ixSL ?h1 ?h2 ?h3); (case h1 => walk_at "sql"); (case h2 => walk_at "ix"))
  | ((with_reducible refine' w_ixST ?h1 ?h2 ?h3); (case h1 => walk_at "sqt"); (case h2 => walk_at "ix")))
local macro_rules | `(tactic| walk_at "rep") => `(tactic| first
  | assumption
  | exact Rep.int _
  | exact Rep.bl _
  | exact Rep.str _
  | exact Rep.non
  | (refine' rep_tupI ?h1; (case h1 => walk_at "sqt"))
  | (refine' rep_lstI ?h1; (case h1 => walk_at "sql"))
  | (refine' Rep.gr0 ?h1 ?h2; (case h1 => assumption); (case h2 => walk_at "rep"))
  | (refine' Rep.grB ?h1 ?h2 ?h3; (case h1 => assumption); (case h2 => walk_at "rep"); (case h3 => first | exact rfl | assumption)))
local macro_rules | `(tactic| walk_at "i1") => `(tactic| first
  | ((with_reducible refine' w_isiTT ?is1 ?is2); (case is1 => walk_at "sqt"))
  | ((with_reducible refine' w_isiLL ?is1 ?is2); (case is1 => walk_at "sql"))
  | ((with_reducible refine' w_isE ?ie1 ?ie2 ?ie3); (case ie2 => assumption); (case ie1 => assumption))
  | ((with_reducible refine' w_isi_tuple ?h1 ?h2 ?h3); (case h1 => walk_at "rep"); (case h2 => exact rfl); dsimp only [D.isTup])
  | ((with_reducible refine' w_isi_list ?h1 ?h2 ?h3); (case h1 => walk_at "rep"); (case h2 => exact rfl); dsimp only [D.isLst])
  | ((with_reducible refine' w_isi_bool ?h1 ?h2 ?h3); (case h1 => walk_at "rep"); (case h2 => exact rfl); dsimp only [D.isBl])
  | ((with_reducible refine' w_isi_int ?h1 ?h2 ?h3); (case h1 => walk_at "rep"); (case h2 => exact rfl); dsimp only [D.isInt])
  | ((with_reducible refine' w_isi_str ?h1 ?h2 ?h3); (case h1 => walk_at "rep"); (case h2 => exact rfl); dsimp only [D.isStr]))
local macro_rules | `(tactic| walk_at "w") => `(tactic| repeat (first | walk_at "w1" | walk_at "h1" | walk_at "c1" | walk_at "n1" | walk_at "i1" | walk_at "j1"))
local macro_rules | `(tactic| walk_at "c1") => `(tactic| first
  | with_reducible refine w_fld ?_
  | with_reducible refine w_put ?_
  | with_reducible refine w_kRef ?_
  | with_reducible refine w_makeS ?_
  | with_reducible refine w_cmethS ?_
  | with_reducible refine w_binS ?_
  | with_reducible refine w_binI ?_
  | with_reducible refine w_invS ?_
  | with_reducible refine w_callOS ?_
  | with_reducible refine w_methS ?_
  | with_reducible refine w_cval ?_
  | with_reducible refine w_lstRg ?_
  | with_reducible refine w_tupRg ?_
  | with_reducible refine w_tRg1 ?_
  | with_reducible refine w_kRg1 ?_
  | with_reducible refine w_lc ?_
  | (with_reducible refine w_trn ?_; dsimp only [wipe, List.set])
  | ((with_reducible refine' w_rCVal ?rc1 ?rc2 ?rc3); (case rc2 => assumption); (case rc1 => assumption)))
local macro_rules | `(tactic| walk_at "num") => `(tactic| first
  | assumption
  | (refine' Num.gr ?h1 ?h2; (case h2 => assumption); (case h1 => walk_at "num")))
local macro_rules | `(tactic| walk_at "n1") => `(tactic| first
  | ((with_reducible refine' w_places ?nm1 ?nm2 ?nm3); (case nm2 => walk_at "num"); (case nm1 => assumption); intro _ _))
local macro_rules | `(tactic| walk_at "n1") => `(tactic| first
  | ((with_reducible refine' w_isiNum ?nm1 ?nm2 ?nm3 ?nm4); (case nm3 => walk_at "num"); (case nm1 => assumption); (case nm2 => assumption))
  | ((with_reducible refine' w_numLen ?nm1 ?nm2); (case nm1 => walk_at "num"))
  | with_reducible refine w_numCal ?_
  | with_reducible refine w_bmX ?_
  | ((with_reducible refine' w_kTupX ?nm1 ?nm2); (case nm1 => walk_at "tx")))
local macro_rules | `(tactic| walk_at "len") => `(tactic| first | decide | (simp only [List.length_cons, List.length_nil, List.length_append, List.length_map, List.length_range, List.length_set, dInts]; omega) | omega)
local macro_rules | `(tactic| walk_at "v1") => `(tactic| first
  | with_reducible refine v_seq ?_
  | ((with_reducible refine' v_Va ?h1 ?h2); (case h1 => exact rfl))
  | ((with_reducible refine' v_V ?h1 ?h2); (case h1 => exact rfl))
  | with_reducible refine v_C ?_
  | with_reducible refine v_op ?_
  | with_reducible refine v_cons ?_
  | with_reducible refine v_nil ?_
  | with_reducible refine v_ca ?_
  | with_reducible refine v_un ?_
  | with_reducible refine v_fI0 ?_
  | with_reducible refine v_te ?_
  | with_reducible refine v_exb ?_
  | with_reducible refine v_exi ?_
  | with_reducible refine v_if ?_
  | with_reducible refine v_ret ?_
  | with_reducible refine v_call ?_
  | ((with_reducible refine v_set ?_))
  | with_reducible refine v_asg ?_
  | ((with_reducible refine v_gnm ?_); try dsimp only [List.set])
  | ((with_reducible refine' v_gtp ?h1 ?h2); (case h1 => exact rfl))
  | with_reducible refine v_gsc ?_
  | with_reducible refine v_gsn ?_
  | with_reducible refine v_setO ?_
  | ((with_reducible refine v_kSetO ?_); intro _; try dsimp only [List.set])
  | ((with_reducible refine' v_app ?h1 ?h2 ?h3); (case h1 => exact rfl); (case h2 => walk_at "len"))
  | with_reducible refine v_put ?_
  | ((with_reducible refine' v_kPut ?h1 ?h2); (case h1 => exact rfl))
  | ((with_reducible refine v_frz ?_); try dsimp only [frz, List.getElem?_cons_zero, List.getElem?_cons_succ, List.set])
  | with_reducible refine v_drop ?_
  | with_reducible refine v_nx ?_
  | with_reducible refine v_inW ?_
  | with_reducible refine v_pureP ?_
  | with_reducible refine v_eqI ?_
  | with_reducible refine v_neI ?_
  | with_reducible refine v_eqS ?_
  | with_reducible refine v_neS ?_
  | with_reducible refine v_eqB ?_
  | with_reducible refine v_neB ?_
  | with_reducible refine v_isN ?_
  | with_reducible refine v_neg ?_
  | with_reducible refine v_notT ?_
  | with_reducible refine v_andT ?_
  | with_reducible refine v_orT ?_
  | with_reducible refine v_yes ?_
  | with_reducible refine v_andV ?_
  | with_reducible refine v_orV ?_
  | with_reducible refine v_notV ?_
  | with_reducible refine v_chain ?_
  | with_reducible refine v_ifE ?_
  | with_reducible refine w_T ?_
  | with_reducible refine w_F ?_
  | with_reducible refine w_nT ?_
  | with_reducible refine w_nF ?_)
local macro_rules | `(tactic| walk_at "v2") => `(tactic| first
  | with_reducible refine v_lenL ?_
  | with_reducible refine v_lenT ?_
  | with_reducible refine v_listL ?_
  | with_reducible refine v_listT ?_
  | with_reducible refine v_tupleL ?_
  | with_reducible refine v_tupleT ?_
  | with_reducible refine v_absI ?_
  | with_reducible refine v_intI ?_
  | with_reducible refine v_intB ?_
  | ((with_reducible refine' v_fLst ?h1 ?h2); (case h1 => walk_at "len"))
  | ((with_reducible refine' v_fTup ?h1 ?h2); (case h1 => walk_at "len"))
  | ((with_reducible refine' v_ixL ?h1 ?h2); (case h1 => exact rfl))
  | ((with_reducible refine' v_ixT ?h1 ?h2); (case h1 => exact rfl))
  | ((with_reducible refine' v_catL ?h1 ?h2); (case h1 => walk_at "len"))
  | ((with_reducible refine' v_catT ?h1 ?h2); (case h1 => walk_at "len"))
  | with_reducible refine v_sl ?_
  | with_reducible refine v_pn ?_
  | with_reducible refine v_ps ?_
  | with_reducible refine v_slL ?_
  | with_reducible refine v_slT ?_
  | ((with_reducible refine' v_fld ?h1 ?h2); (case h1 => exact rfl))
  | with_reducible refine v_meth ?_
  | ((with_reducible refine' v_kIns ?h1 ?h2); (case h1 => decide))
  | with_reducible refine v_obj ?_
  | with_reducible refine v_kObj ?_
  | with_reducible refine v_bin ?_
  | with_reducible refine v_kBin ?_
  | with_reducible refine v_binI ?_
  | with_reducible refine v_kBinI ?_
  | with_reducible refine v_inv ?_
  | with_reducible refine v_make ?_
  | with_reducible refine v_kAdr ?_
  | with_reducible refine v_cmeth ?_
  | with_reducible refine v_lenO ?_
  | with_reducible refine v_kLenO ?_
  | with_reducible refine v_raise ?_
  | with_reducible refine v_retN ?_
  | ((with_reducible refine' v_retO ?h1 ?h2); (case h1 => exact rfl))
  | with_reducible refine v_brk ?_
  | with_reducible refine v_cnt ?_
  | with_reducible refine v_for ?_
  | with_reducible refine v_iSeq ?_
  | with_reducible refine v_iTupl ?_
  | with_reducible refine v_exl ?_
  | with_reducible refine v_ext ?_
  | with_reducible refine v_iRg1 ?_
  | with_reducible refine v_iRg2 ?_
  | ((with_reducible refine' v_kRg ?h1 ?h2); (case h1 => refine rgB ?_ ?_ <;> omega))
  | ((with_reducible refine' v_kRg2 ?h1 ?h2 ?h3); (case h1 => refine rgB ?_ ?_ <;> omega); (case h2 => refine rgB ?_ ?_ <;> omega))
  | with_reducible refine v_lc ?_
  | with_reducible refine v_star ?_
  | with_reducible refine v_sta ?_
  | with_reducible refine v_stb ?_
  | with_reducible refine v_tru ?_
  | with_reducible refine v_truL ?_
  | with_reducible refine v_truT ?_
  | with_reducible refine v_truB ?_
  | with_reducible refine v_truN ?_
  | with_reducible refine v_listRg ?_
  | with_reducible refine v_tupRg ?_
  | with_reducible refine v_rg1 ?_
  | with_reducible refine v_rg2 ?_
  | with_reducible refine v_kTwo ?_
  | ((with_reducible refine' v_aug ?h1 ?h2); (case h1 => exact rfl))
  | ((with_reducible refine v_kAug ?_); try dsimp only [List.set])
  | with_reducible refine v_exl ?_)
local macro_rules | `(tactic| walk_at "v3") => `(tactic| first
  | with_reducible refine v_isiO' ?_
  | with_reducible refine v_lenSc ?_
  | with_reducible refine v_tcount ?_
  | with_reducible refine v_lcount ?_
  | with_reducible refine v_isT ?_
  | with_reducible refine v_try ?_
  | with_reducible refine v_sm ?_
  | with_reducible refine v_iEnumQ ?_
  | with_reducible refine v_cvI ?_
  | with_reducible refine v_fset ?_
  | with_reducible refine v_iOwn ?_
  | with_reducible refine v_raiseX ?_
  | ((with_reducible refine' v_kN63 ?h1 ?h2 ?h3); (case h1 => omega); (case h2 => omega))
  | ((with_reducible refine' v_kN6 ?h1 ?h2 ?h3); (case h1 => omega); (case h2 => omega))
  | ((with_reducible refine' v_fI ?h1 ?h2); (case h1 => first | omega | (refine ⟨?_, ?_, ?_⟩ <;> omega) | (refine .inl ⟨?_, ?_⟩ <;> omega) | (refine .inr ⟨?_, ?_⟩ <;> omega) | decide))
  | with_reducible refine v_puB ?_
  | with_reducible refine v_puI ?_
  | with_reducible refine v_puS ?_
  | with_reducible refine v_puN ?_
  | ((with_reducible refine' v_kOwn ?h1 ?h2); (case h1 => exact rfl))
  | with_reducible refine v_prop ?_
  | with_reducible refine v_listO ?_
  | ((with_reducible refine' v_kListO ?h1 ?h2 ?h3); (case h1 => exact rfl); (case h2 => simp only [length_dInts, length_dStrs]; omega))
  | with_reducible refine v_exs ?_
  | with_reducible refine v_ends ?_
  | ((with_reducible refine' v_kIsT ?h1 ?h2 ?h3); (case h1 => exact rfl); (case h2 => decide +kernel))
  | with_reducible refine v_mtT ?_
  | with_reducible refine v_mtL ?_)
local macro_rules | `(tactic| walk_at "v") => `(tactic| ((repeat (first | walk_at "v1" | walk_at "v2" | walk_at "v3")); (try dsimp only [List.set])))
local macro_rules | `(tactic| walk_at "v3") => `(tactic| first
  | ((with_reducible refine' v_rem ?h1 ?h2); (case h1 => exact rfl)))
local macro_rules | `(tactic| walk_at "v3") => `(tactic| first
  | with_reducible refine v_pureL ?_)
local macro_rules | `(tactic| walk_at "v3") => `(tactic| first
  | with_reducible refine v_inB ?_
  | with_reducible refine v_eqLB ?_)
local macro_rules | `(tactic| walk_at "v3") => `(tactic| first
  | with_reducible refine v_opS ?_
  | with_reducible refine v_caS ?_
  | with_reducible refine v_new ?_
  | with_reducible refine v_fldS ?_
  | with_reducible refine v_fstS ?_
  | with_reducible refine v_appS ?_
  | with_reducible refine v_putS ?_
  | with_reducible refine v_ders0 ?_
  | with_reducible refine v_ders ?_
  | ((with_reducible refine' v_derL ?ds1 ?ds2); (case ds1 => walk_at "sto"))
  | with_reducible refine v_der0 ?_
  | ((with_reducible refine' v_kFldS ?ds1 ?ds2 ?ds3); (case ds1 => walk_at "sto"); (case ds2 => exact rfl)))
local macro_rules | `(tactic| walk_at "sto") => `(tactic| first
  | assumption
  | exact Sto.same
  | (refine' Sto.ne ?so1 ?so2; (case so2 => walk_at "sto"); (case so1 => walk_at "sne")))
local macro_rules | `(tactic| walk_at "sne") => `(tactic| first
  | assumption
  | (refine Ne.symm ?_; assumption))
local macro_rules | `(tactic| walk_at "v3") => `(tactic| first
  | with_reducible refine v_forP ?_
  | with_reducible refine v_lcP ?_
  | with_reducible refine v_iSto ?_
  | ((with_reducible refine' v_kSto ?ds1 ?ds2); (case ds1 => walk_at "sto"))
  | ((with_reducible refine' v_iOwP ?h1 ?h2); (case h1 => exact rfl)))
local macro_rules | `(tactic| walk_at "v3") => `(tactic| first
  | with_reducible refine v_inN ?_
  | with_reducible refine v_getN ?_
  | with_reducible refine v_setN ?_
  | with_reducible refine v_exa ?_
  | with_reducible refine v_dispN ?_)
local macro_rules | `(tactic| walk_at "v3") => `(tactic| first
  | ((with_reducible refine v_wL ?_); try dsimp only)
  | ((with_reducible refine v_wR ?_); try dsimp only))
local macro_rules | `(tactic| walk_at "v3") => `(tactic| first
  | with_reducible refine v_makeZS ?_)
local macro_rules | `(tactic| walk_at "v3") => `(tactic| first
  | with_reducible refine v_callK ?_)
local macro_rules | `(tactic| walk_at "v3") => `(tactic| first
  | with_reducible refine v_callV ?_
  | with_reducible refine v_callVk ?_
  | with_reducible refine v_makeK ?_)
local macro_rules | `(tactic| walk_at "v3") => `(tactic| first
  | with_reducible refine v_propS ?_
  | ((with_reducible refine' v_kPropS ?ds1 ?ds2); (case ds1 => walk_at "sto"))
  | with_reducible refine v_getO ?_
  | ((with_reducible refine' v_kGetO ?ds1 ?ds2); (case ds1 => walk_at "sto"))
  | with_reducible refine v_setO2 ?_
  | ((with_reducible refine' v_kSetO2 ?ds1 ?ds2); (case ds1 => walk_at "sto"))
  | with_reducible refine v_psetS ?_
  | ((with_reducible refine' v_kPset ?ds1 ?ds2); (case ds1 => walk_at "sto"))
  | with_reducible refine v_isiS ?_
  | ((with_reducible refine' v_kIsS ?ds1 ?ds2); (case ds1 => walk_at "sto"))
  | with_reducible refine v_makeSK ?_
  | with_reducible refine v_makeS ?_
  | with_reducible refine v_methS ?_
  | ((with_reducible refine' v_kMethS ?ds1 ?ds2 ?ds3); (case ds1 => walk_at "sto"); (case ds2 => exact rfl)))
local macro_rules | `(tactic| walk_at "v3") => `(tactic| first
  | with_reducible refine v_mtLS ?_
  | ((with_reducible refine' v_kMtLS ?ds1 ?ds2); (case ds1 => walk_at "sto"))
  | ((with_reducible refine' v_kMtLS2 ?ds1 ?ds2); (case ds1 => walk_at "sto")))
local macro_rules | `(tactic| walk_at "v3") => `(tactic| first
  | with_reducible refine v_isInt ?_
  | with_reducible refine v_isIntB ?_
  | with_reducible refine v_isTup ?_
  | with_reducible refine v_isLst ?_
  | with_reducible refine v_isBl ?_
  | with_reducible refine v_isStr ?_
  | with_reducible refine v_gmeth ?_
  | with_reducible refine v_gcall ?_
  | with_reducible refine v_listG ?_
  | with_reducible refine v_forG ?_
  | with_reducible refine v_iAny ?_)
theorem sc__law_begin : FnScope N__law_begin ["_law_script"] (defScope s__law_begin) := ⟨rfl, rfl, rfl, by decide +kernel, rfl, by decide +kernel, by decide +kernel⟩
theorem sc__law_draw : FnScope N__law_draw ["_law_tape", "_law_many"] (defScope s__law_draw) := ⟨rfl, rfl, rfl, by decide +kernel, rfl, by decide +kernel, by decide +kernel⟩
theorem sc_Hall___init__ : FnScope N_Hall___init__ ["self", "cells", "capacity"] (defScope s_Hall___init__) := ⟨rfl, rfl, rfl, by decide +kernel, rfl, by decide +kernel, by decide +kernel⟩
theorem sc__law_shuffled : FnScope N__law_shuffled ["_law_tape", "_law_cells"] (defScope s__law_shuffled) := ⟨rfl, rfl, rfl, by decide +kernel, rfl, by decide +kernel, by decide +kernel⟩
theorem sc_Numbering___len__ : FnScope N_Numbering___len__ ["self"] (defScope s_Numbering___len__) := ⟨rfl, rfl, rfl, by decide +kernel, rfl, by decide +kernel, by decide +kernel⟩
theorem sc_Desk___init__ : FnScope N_Desk___init__ ["self", "hall", "number", "numbering"] (defScope s_Desk___init__) := ⟨rfl, rfl, rfl, by decide +kernel, rfl, by decide +kernel, by decide +kernel⟩
theorem sc_Hall_add_worker : FnScope N_Hall_add_worker ["self", "numbering"] (defScope s_Hall_add_worker) := ⟨rfl, rfl, rfl, by decide +kernel, rfl, by decide +kernel, by decide +kernel⟩
theorem sc_Numbering___init__ : FnScope N_Numbering___init__ ["self", "places"] (defScope s_Numbering___init__) := ⟨rfl, rfl, rfl, by decide +kernel, rfl, by decide +kernel, by decide +kernel⟩
theorem sc_Desk_leave : FnScope N_Desk_leave ["self"] (defScope s_Desk_leave) := ⟨rfl, rfl, rfl, by decide +kernel, rfl, by decide +kernel, by decide +kernel⟩
theorem sc_Hall_capacity : FnScope N_Hall_capacity ["self"] (defScope s_Hall_capacity) := ⟨rfl, rfl, rfl, by decide +kernel, rfl, by decide +kernel, by decide +kernel⟩
theorem sc_Desk_share : FnScope N_Desk_share ["self"] (defScope s_Desk_share) := ⟨rfl, rfl, rfl, by decide +kernel, rfl, by decide +kernel, by decide +kernel⟩
theorem sc_Desk_enough : FnScope N_Desk_enough ["self"] (defScope s_Desk_enough) := ⟨rfl, rfl, rfl, by decide +kernel, rfl, by decide +kernel, by decide +kernel⟩
theorem sc_Hall_occupants : FnScope N_Hall_occupants ["self"] (defScope s_Hall_occupants) := ⟨rfl, rfl, rfl, by decide +kernel, rfl, by decide +kernel, by decide +kernel⟩
theorem sc_Desk_enter : FnScope N_Desk_enter ["self"] (defScope s_Desk_enter) := ⟨rfl, rfl, rfl, by decide +kernel, rfl, by decide +kernel, by decide +kernel⟩
theorem sc_Hall_capacity__set : FnScope N_Hall_capacity__set ["self", "capacity"] (defScope s_Hall_capacity__set) := ⟨rfl, rfl, rfl, by decide +kernel, rfl, by decide +kernel, by decide +kernel⟩
theorem sc_Hall_change_capacity : FnScope N_Hall_change_capacity ["self", "capacity"] (defScope s_Hall_change_capacity) := ⟨rfl, rfl, rfl, by decide +kernel, rfl, by decide +kernel, by decide +kernel⟩
theorem sc_NoCell___init__ : SScope N_NoCell___init__ ["self", "cell"] (defScope s_NoCell___init__) := ⟨rfl, rfl, rfl, by decide +kernel, rfl, by decide +kernel, by decide +kernel, SScope.free_of (by decide +kernel), rfl, rfl⟩
theorem sc_Desk__place : FnScope N_Desk__place ["self", "k"] (defScope s_Desk__place) := ⟨rfl, rfl, rfl, by decide +kernel, rfl, by decide +kernel, by decide +kernel⟩
theorem sc_Held___init__ : SScope N_Held___init__ ["self", "holder"] (defScope s_Held___init__) := ⟨rfl, rfl, rfl, by decide +kernel, rfl, by decide +kernel, by decide +kernel, SScope.free_of (by decide +kernel), rfl, rfl⟩
theorem sc_Desk___setitem__ : FnScope N_Desk___setitem__ ["self", "at", "worth"] (defScope s_Desk___setitem__) := ⟨rfl, rfl, rfl, by decide +kernel, rfl, by decide +kernel, by decide +kernel⟩
theorem sc__law_text : FnScope N__law_text ["_law_tape"] (defScope s__law_text) := ⟨rfl, rfl, rfl, by decide +kernel, rfl, by decide +kernel, by decide +kernel⟩
theorem sc__law_due : FnScope N__law_due ["_law_contents", "_law_places", "_law_inside", "_law_capacity", "_law_worker", "_law_deeds"] (defScope s__law_due) := ⟨rfl, rfl, rfl, by decide +kernel, rfl, by decide +kernel, by decide +kernel⟩
theorem sc_Stay___init__ : FnScope N_Stay___init__ ["self", "desk"] (defScope s_Stay___init__) := ⟨rfl, rfl, rfl, by decide +kernel, rfl, by decide +kernel, by decide +kernel⟩
theorem sc_Stay___enter__ : FnScope N_Stay___enter__ ["self"] (defScope s_Stay___enter__) := ⟨rfl, rfl, rfl, by decide +kernel, rfl, by decide +kernel, by decide +kernel⟩
theorem sc_Stay___exit__ : FnScope N_Stay___exit__ ["self", "kind", "value", "trace"] (defScope s_Stay___exit__) := ⟨rfl, rfl, rfl, by decide +kernel, rfl, by decide +kernel, by decide +kernel⟩
theorem sc_Desk_take : FnScope N_Desk_take ["self", "k"] (defScope s_Desk_take) := ⟨rfl, rfl, rfl, by decide +kernel, rfl, by decide +kernel, by decide +kernel⟩
theorem sc_Desk_give : FnScope N_Desk_give ["self", "k"] (defScope s_Desk_give) := ⟨rfl, rfl, rfl, by decide +kernel, rfl, by decide +kernel, by decide +kernel⟩
theorem sc_Desk___getitem__ : FnScope N_Desk___getitem__ ["self", "at"] (defScope s_Desk___getitem__) := ⟨rfl, rfl, rfl, by decide +kernel, rfl, by decide +kernel, by decide +kernel⟩
theorem sc_BadInstruction___init__ : SScope N_BadInstruction___init__ ["self", "instruction"] (defScope s_BadInstruction___init__) := ⟨rfl, rfl, rfl, by decide +kernel, rfl, by decide +kernel, by decide +kernel, SScope.free_of (by decide +kernel), rfl, rfl⟩
theorem sc__done : FnScope N__done ["desk", "word", "k"] (defScope s__done) := ⟨rfl, rfl, rfl, by decide +kernel, rfl, by decide +kernel, by decide +kernel⟩
theorem sc_visit : FnScope N_visit ["desk", "deeds"] (defScope s_visit) := ⟨rfl, rfl, rfl, by decide +kernel, rfl, by decide +kernel, by decide +kernel⟩
theorem sc__law_visit : FnScope N__law_visit ["_law_desk", "_law_deeds"] (defScope s__law_visit) := ⟨rfl, rfl, rfl, by decide +kernel, rfl, by decide +kernel, by decide +kernel⟩
theorem sc__law_told : FnScope N__law_told ["_law_desk", "_law_deeds"] (defScope s__law_told) := ⟨rfl, rfl, rfl, by decide +kernel, rfl, by decide +kernel, by decide +kernel⟩
theorem sc__law_same : FnScope N__law_same ["_law_actual", "_law_expected"] (defScope s__law_same) := ⟨rfl, rfl, rfl, by decide +kernel, rfl, by decide +kernel, by decide +kernel⟩
theorem sc_Hall_contents : FnScope N_Hall_contents ["self"] (defScope s_Hall_contents) := ⟨rfl, rfl, rfl, by decide +kernel, rfl, by decide +kernel, by decide +kernel⟩
theorem sc_Hall_free : FnScope N_Hall_free ["self"] (defScope s_Hall_free) := ⟨rfl, rfl, rfl, by decide +kernel, rfl, by decide +kernel, by decide +kernel⟩
theorem sc_Desk_behind : FnScope N_Desk_behind ["self"] (defScope s_Desk_behind) := ⟨rfl, rfl, rfl, by decide +kernel, rfl, by decide +kernel, by decide +kernel⟩
theorem sc__law_looks : FnScope N__law_looks ["_law_hall", "_law_desks", "_law_contents", "_law_inside", "_law_capacity"] (defScope s__law_looks) := ⟨rfl, rfl, rfl, by decide +kernel, rfl, by decide +kernel, by decide +kernel⟩
theorem sc_law : FnScope N_law ["_law_script"] (defScope s_law) := ⟨rfl, rfl, rfl, by decide +kernel, rfl, by decide +kernel, by decide +kernel⟩
structure Ctx (K : PySem.W.Frag) (mg : Str → Option Value) : Prop where
  says : SaysW fa fn exB K
  glo : ∀ {x : Str}, (He.Fa.glo x).ok K = true → mg x = some (.ref (He.ga K x))
  free : ∀ {x : Str}, (He.Fa.free x).ok K = true → mg x = none
  int : ∀ {x : Str} {i : Int}, (He.Fa.int x i).ok K = true → ∃ t, mg x = some (.int i t)
  str : ∀ {x z : Str}, (He.Fa.str x z).ok K = true → ∃ t, mg x = some (.str z t)
section
variable {K : PySem.W.Frag} {mg : Str → Option Value}
theorem Ctx.b (c : Ctx K mg) (i : Nat) {b : Bool} (h : (exB K)[i]? = some b) : b = true := c.says.exs i h
theorem F__law_begin (c : Ctx K mg) : FunD K "_law_begin" "_law_begin" (defArgs s__law_begin) (defBody s__law_begin) (defScope s__law_begin) [] [] (A__law_begin K) (fdA K (A__law_begin K)) := fdA_of (c.says.def_ 0 (d := d__law_begin) rfl)
theorem b__law_begin (c : Ctx K mg) : Binds K (fdA K (A__law_begin K)) ["_law_script"] [] := (F__law_begin c).bindsN fun _ _ _ _ _ _ us hl => match us, hl with | [_], _ => rfl
theorem F__law_draw (c : Ctx K mg) : FunD K "_law_draw" "_law_draw" (defArgs s__law_draw) (defBody s__law_draw) (defScope s__law_draw) [] [] (A__law_draw K) (fdA K (A__law_draw K)) := fdA_of (c.says.def_ 1 (d := d__law_draw) rfl)
theorem b__law_draw (c : Ctx K mg) : Binds K (fdA K (A__law_draw K)) ["_law_tape", "_law_many"] [] := (F__law_draw c).bindsN fun _ _ _ _ _ _ us hl => match us, hl with | [_, _], _ => rfl
theorem F_Hall___init__ (c : Ctx K mg) : FunD K "__init__" "Hall.__init__" (defArgs s_Hall___init__) (defBody s_Hall___init__) (defScope s_Hall___init__) [.int 1] [] (A_Hall___init__ K) (fdA K (A_Hall___init__ K)) := fdA_of (c.says.def_ 2 (d := d_Hall___init__) rfl)
theorem bd_Hall___init___2 (c : Ctx K mg) : ∃ ds, Vals ([.int 1] : List V) ds ∧ Binds K (fdA K (A_Hall___init__ K)) ["self", "cells", "capacity"] ds := (F_Hall___init__ c).binds1 2 0 (by simp) rfl fun _ _ _ _ _ _ _ us its h1 h2 => match us, its, h1, h2 with | [_, _], [_], _, _ => ⟨_, rfl, rfl⟩
theorem b0_Hall___init__ (c : Ctx K mg) : ∃ ds, Vals ([] : List V) ds ∧ Binds K (fdA K (A_Hall___init__ K)) ["self", "cells", "capacity"] ds := (F_Hall___init__ c).binds1 3 1 (by simp) rfl fun _ _ _ _ _ _ _ us its h1 h2 => match us, its, h1, h2 with | [_, _, _], [_], _, _ => ⟨_, rfl, rfl⟩
theorem b_Hall___init__ (c : Ctx K mg) : Binds K (fdA K (A_Hall___init__ K)) ["self", "cells", "capacity"] [] := by
  obtain ⟨ds, h1, h2⟩ := b0_Hall___init__ c
  cases h1
  exact h2
theorem F__law_shuffled (c : Ctx K mg) : FunD K "_law_shuffled" "_law_shuffled" (defArgs s__law_shuffled) (defBody s__law_shuffled) (defScope s__law_shuffled) [] [] (A__law_shuffled K) (fdA K (A__law_shuffled K)) := fdA_of (c.says.def_ 3 (d := d__law_shuffled) rfl)
theorem b__law_shuffled (c : Ctx K mg) : Binds K (fdA K (A__law_shuffled K)) ["_law_tape", "_law_cells"] [] := (F__law_shuffled c).bindsN fun _ _ _ _ _ _ us hl => match us, hl with | [_, _], _ => rfl
theorem F_Numbering___len__ (c : Ctx K mg) : FunD K "__len__" "Numbering.__len__" (defArgs s_Numbering___len__) (defBody s_Numbering___len__) (defScope s_Numbering___len__) [] [] (A_Numbering___len__ K) (fdA K (A_Numbering___len__ K)) := fdA_of (c.says.def_ 4 (d := d_Numbering___len__) rfl)
theorem b_Numbering___len__ (c : Ctx K mg) : Binds K (fdA K (A_Numbering___len__ K)) ["self"] [] := (F_Numbering___len__ c).bindsN fun _ _ _ _ _ _ us hl => match us, hl with | [_], _ => rfl
theorem F_Desk___init__ (c : Ctx K mg) : FunD K "__init__" "Desk.__init__" (defArgs s_Desk___init__) (defBody s_Desk___init__) (defScope s_Desk___init__) [] [] (A_Desk___init__ K) (fdA K (A_Desk___init__ K)) := fdA_of (c.says.def_ 5 (d := d_Desk___init__) rfl)
theorem b_Desk___init__ (c : Ctx K mg) : Binds K (fdA K (A_Desk___init__ K)) ["self", "hall", "number", "numbering"] [] := (F_Desk___init__ c).bindsN fun _ _ _ _ _ _ us hl => match us, hl with | [_, _, _, _], _ => rfl
theorem F_Hall_add_worker (c : Ctx K mg) : FunD K "add_worker" "Hall.add_worker" (defArgs s_Hall_add_worker) (defBody s_Hall_add_worker) (defScope s_Hall_add_worker) [] [] (A_Hall_add_worker K) (fdA K (A_Hall_add_worker K)) := fdA_of (c.says.def_ 6 (d := d_Hall_add_worker) rfl)
theorem b_Hall_add_worker (c : Ctx K mg) : Binds K (fdA K (A_Hall_add_worker K)) ["self", "numbering"] [] := (F_Hall_add_worker c).bindsN fun _ _ _ _ _ _ us hl => match us, hl with | [_, _], _ => rfl
theorem F_Numbering___init__ (c : Ctx K mg) : FunD K "__init__" "Numbering.__init__" (defArgs s_Numbering___init__) (defBody s_Numbering___init__) (defScope s_Numbering___init__) [] [] (A_Numbering___init__ K) (fdA K (A_Numbering___init__ K)) := fdA_of (c.says.def_ 7 (d := d_Numbering___init__) rfl)
theorem b_Numbering___init__ (c : Ctx K mg) : Binds K (fdA K (A_Numbering___init__ K)) ["self", "places"] [] := (F_Numbering___init__ c).bindsN fun _ _ _ _ _ _ us hl => match us, hl with | [_, _], _ => rfl
theorem F_Desk_leave (c : Ctx K mg) : FunD K "leave" "Desk.leave" (defArgs s_Desk_leave) (defBody s_Desk_leave) (defScope s_Desk_leave) [] [] (A_Desk_leave K) (fdA K (A_Desk_leave K)) := fdA_of (c.says.def_ 8 (d := d_Desk_leave) rfl)
theorem b_Desk_leave (c : Ctx K mg) : Binds K (fdA K (A_Desk_leave K)) ["self"] [] := (F_Desk_leave c).bindsN fun _ _ _ _ _ _ us hl => match us, hl with | [_], _ => rfl
theorem F_Hall_capacity (c : Ctx K mg) : FunD K "capacity" "Hall.capacity" (defArgs s_Hall_capacity) (defBody s_Hall_capacity) (defScope s_Hall_capacity) [] [] (A_Hall_capacity K) (fdA K (A_Hall_capacity K)) := fdA_of (c.says.def_ 9 (d := d_Hall_capacity) rfl)
theorem b_Hall_capacity (c : Ctx K mg) : Binds K (fdA K (A_Hall_capacity K)) ["self"] [] := (F_Hall_capacity c).bindsN fun _ _ _ _ _ _ us hl => match us, hl with | [_], _ => rfl
theorem F_Desk_share (c : Ctx K mg) : FunD K "share" "Desk.share" (defArgs s_Desk_share) (defBody s_Desk_share) (defScope s_Desk_share) [] [] (A_Desk_share K) (fdA K (A_Desk_share K)) := fdA_of (c.says.def_ 10 (d := d_Desk_share) rfl)
theorem b_Desk_share (c : Ctx K mg) : Binds K (fdA K (A_Desk_share K)) ["self"] [] := (F_Desk_share c).bindsN fun _ _ _ _ _ _ us hl => match us, hl with | [_], _ => rfl
theorem F_Desk_enough (c : Ctx K mg) : FunD K "enough" "Desk.enough" (defArgs s_Desk_enough) (defBody s_Desk_enough) (defScope s_Desk_enough) [] [] (A_Desk_enough K) (fdA K (A_Desk_enough K)) := fdA_of (c.says.def_ 11 (d := d_Desk_enough) rfl)
theorem b_Desk_enough (c : Ctx K mg) : Binds K (fdA K (A_Desk_enough K)) ["self"] [] := (F_Desk_enough c).bindsN fun _ _ _ _ _ _ us hl => match us, hl with | [_], _ => rfl
theorem F_Hall_occupants (c : Ctx K mg) : FunD K "occupants" "Hall.occupants" (defArgs s_Hall_occupants) (defBody s_Hall_occupants) (defScope s_Hall_occupants) [] [] (A_Hall_occupants K) (fdA K (A_Hall_occupants K)) := fdA_of (c.says.def_ 12 (d := d_Hall_occupants) rfl)
theorem b_Hall_occupants (c : Ctx K mg) : Binds K (fdA K (A_Hall_occupants K)) ["self"] [] := (F_Hall_occupants c).bindsN fun _ _ _ _ _ _ us hl => match us, hl with | [_], _ => rfl
theorem F_Desk_enter (c : Ctx K mg) : FunD K "enter" "Desk.enter" (defArgs s_Desk_enter) (defBody s_Desk_enter) (defScope s_Desk_enter) [] [] (A_Desk_enter K) (fdA K (A_Desk_enter K)) := fdA_of (c.says.def_ 13 (d := d_Desk_enter) rfl)
theorem b_Desk_enter (c : Ctx K mg) : Binds K (fdA K (A_Desk_enter K)) ["self"] [] := (F_Desk_enter c).bindsN fun _ _ _ _ _ _ us hl => match us, hl with | [_], _ => rfl
theorem F_Hall_capacity__set (c : Ctx K mg) : FunD K "capacity" "Hall.capacity" (defArgs s_Hall_capacity__set) (defBody s_Hall_capacity__set) (defScope s_Hall_capacity__set) [] [] (A_Hall_capacity__set K) (fdA K (A_Hall_capacity__set K)) := fdA_of (c.says.def_ 14 (d := d_Hall_capacity__set) rfl)
theorem b_Hall_capacity__set (c : Ctx K mg) : Binds K (fdA K (A_Hall_capacity__set K)) ["self", "capacity"] [] := (F_Hall_capacity__set c).bindsN fun _ _ _ _ _ _ us hl => match us, hl with | [_, _], _ => rfl
theorem F_Hall_change_capacity (c : Ctx K mg) : FunD K "change_capacity" "Hall.change_capacity" (defArgs s_Hall_change_capacity) (defBody s_Hall_change_capacity) (defScope s_Hall_change_capacity) [] [] (A_Hall_change_capacity K) (fdA K (A_Hall_change_capacity K)) := fdA_of (c.says.def_ 15 (d := d_Hall_change_capacity) rfl)
theorem b_Hall_change_capacity (c : Ctx K mg) : Binds K (fdA K (A_Hall_change_capacity K)) ["self", "capacity"] [] := (F_Hall_change_capacity c).bindsN fun _ _ _ _ _ _ us hl => match us, hl with | [_, _], _ => rfl
theorem F_NoCell___init__ (c : Ctx K mg) : ∃ cda cc, SupD K "/claim/cut.py" "__init__" "NoCell.__init__" (defArgs s_NoCell___init__) (defBody s_NoCell___init__) (defScope s_NoCell___init__) (A_NoCell___init__ K) (He.ga K "NoCell") cda cc (fdA K (A_NoCell___init__ K)) := SupD.fdA_of (DefW.supD (d := d_NoCell___init__) rfl rfl (c.says.defS 16 (d := d_NoCell___init__) rfl).1 (c.says.defS 16 (d := d_NoCell___init__) rfl).2)
theorem b_NoCell___init__ (c : Ctx K mg) : Binds K (fdA K (A_NoCell___init__ K)) ["self", "cell"] [] := by
  obtain ⟨_, _, F⟩ := F_NoCell___init__ c
  exact F.bindsN fun _ _ _ _ _ _ _ us hl => match us, hl with | [_, _], _ => rfl
theorem F_Desk__place (c : Ctx K mg) : FunD K "_place" "Desk._place" (defArgs s_Desk__place) (defBody s_Desk__place) (defScope s_Desk__place) [] [] (A_Desk__place K) (fdA K (A_Desk__place K)) := fdA_of (c.says.def_ 17 (d := d_Desk__place) rfl)
theorem b_Desk__place (c : Ctx K mg) : Binds K (fdA K (A_Desk__place K)) ["self", "k"] [] := (F_Desk__place c).bindsN fun _ _ _ _ _ _ us hl => match us, hl with | [_, _], _ => rfl
theorem F_Held___init__ (c : Ctx K mg) : ∃ cda cc, SupD K "/claim/cut.py" "__init__" "Held.__init__" (defArgs s_Held___init__) (defBody s_Held___init__) (defScope s_Held___init__) (A_Held___init__ K) (He.ga K "Held") cda cc (fdA K (A_Held___init__ K)) := SupD.fdA_of (DefW.supD (d := d_Held___init__) rfl rfl (c.says.defS 18 (d := d_Held___init__) rfl).1 (c.says.defS 18 (d := d_Held___init__) rfl).2)
theorem b_Held___init__ (c : Ctx K mg) : Binds K (fdA K (A_Held___init__ K)) ["self", "holder"] [] := by
  obtain ⟨_, _, F⟩ := F_Held___init__ c
  exact F.bindsN fun _ _ _ _ _ _ _ us hl => match us, hl with | [_, _], _ => rfl
theorem F_Desk___setitem__ (c : Ctx K mg) : FunD K "__setitem__" "Desk.__setitem__" (defArgs s_Desk___setitem__) (defBody s_Desk___setitem__) (defScope s_Desk___setitem__) [] [] (A_Desk___setitem__ K) (fdA K (A_Desk___setitem__ K)) := fdA_of (c.says.def_ 19 (d := d_Desk___setitem__) rfl)
theorem b_Desk___setitem__ (c : Ctx K mg) : Binds K (fdA K (A_Desk___setitem__ K)) ["self", "at", "worth"] [] := (F_Desk___setitem__ c).bindsN fun _ _ _ _ _ _ us hl => match us, hl with | [_, _, _], _ => rfl
theorem F__law_text (c : Ctx K mg) : FunD K "_law_text" "_law_text" (defArgs s__law_text) (defBody s__law_text) (defScope s__law_text) [] [] (A__law_text K) (fdA K (A__law_text K)) := fdA_of (c.says.def_ 20 (d := d__law_text) rfl)
theorem b__law_text (c : Ctx K mg) : Binds K (fdA K (A__law_text K)) ["_law_tape"] [] := (F__law_text c).bindsN fun _ _ _ _ _ _ us hl => match us, hl with | [_], _ => rfl
theorem F__law_due (c : Ctx K mg) : FunD K "_law_due" "_law_due" (defArgs s__law_due) (defBody s__law_due) (defScope s__law_due) [] [] (A__law_due K) (fdA K (A__law_due K)) := fdA_of (c.says.def_ 21 (d := d__law_due) rfl)
theorem b__law_due (c : Ctx K mg) : Binds K (fdA K (A__law_due K)) ["_law_contents", "_law_places", "_law_inside", "_law_capacity", "_law_worker", "_law_deeds"] [] := (F__law_due c).bindsN fun _ _ _ _ _ _ us hl => match us, hl with | [_, _, _, _, _, _], _ => rfl
theorem F_Stay___init__ (c : Ctx K mg) : FunD K "__init__" "Stay.__init__" (defArgs s_Stay___init__) (defBody s_Stay___init__) (defScope s_Stay___init__) [] [] (A_Stay___init__ K) (fdA K (A_Stay___init__ K)) := fdA_of (c.says.def_ 22 (d := d_Stay___init__) rfl)
theorem b_Stay___init__ (c : Ctx K mg) : Binds K (fdA K (A_Stay___init__ K)) ["self", "desk"] [] := (F_Stay___init__ c).bindsN fun _ _ _ _ _ _ us hl => match us, hl with | [_, _], _ => rfl
theorem F_Stay___enter__ (c : Ctx K mg) : FunD K "__enter__" "Stay.__enter__" (defArgs s_Stay___enter__) (defBody s_Stay___enter__) (defScope s_Stay___enter__) [] [] (A_Stay___enter__ K) (fdA K (A_Stay___enter__ K)) := fdA_of (c.says.def_ 23 (d := d_Stay___enter__) rfl)
theorem b_Stay___enter__ (c : Ctx K mg) : Binds K (fdA K (A_Stay___enter__ K)) ["self"] [] := (F_Stay___enter__ c).bindsN fun _ _ _ _ _ _ us hl => match us, hl with | [_], _ => rfl
theorem F_Stay___exit__ (c : Ctx K mg) : FunD K "__exit__" "Stay.__exit__" (defArgs s_Stay___exit__) (defBody s_Stay___exit__) (defScope s_Stay___exit__) [] [] (A_Stay___exit__ K) (fdA K (A_Stay___exit__ K)) := fdA_of (c.says.def_ 24 (d := d_Stay___exit__) rfl)
theorem b_Stay___exit__ (c : Ctx K mg) : Binds K (fdA K (A_Stay___exit__ K)) ["self", "kind", "value", "trace"] [] := (F_Stay___exit__ c).bindsN fun _ _ _ _ _ _ us hl => match us, hl with | [_, _, _, _], _ => rfl
theorem F_Desk_take (c : Ctx K mg) : FunD K "take" "Desk.take" (defArgs s_Desk_take) (defBody s_Desk_take) (defScope s_Desk_take) [] [] (A_Desk_take K) (fdA K (A_Desk_take K)) := fdA_of (c.says.def_ 25 (d := d_Desk_take) rfl)
theorem b_Desk_take (c : Ctx K mg) : Binds K (fdA K (A_Desk_take K)) ["self", "k"] [] := (F_Desk_take c).bindsN fun _ _ _ _ _ _ us hl => match us, hl with | [_, _], _ => rfl
theorem F_Desk_give (c : Ctx K mg) : FunD K "give" "Desk.give" (defArgs s_Desk_give) (defBody s_Desk_give) (defScope s_Desk_give) [] [] (A_Desk_give K) (fdA K (A_Desk_give K)) := fdA_of (c.says.def_ 26 (d := d_Desk_give) rfl)
theorem b_Desk_give (c : Ctx K mg) : Binds K (fdA K (A_Desk_give K)) ["self", "k"] [] := (F_Desk_give c).bindsN fun _ _ _ _ _ _ us hl => match us, hl with | [_, _], _ => rfl
theorem F_Desk___getitem__ (c : Ctx K mg) : FunD K "__getitem__" "Desk.__getitem__" (defArgs s_Desk___getitem__) (defBody s_Desk___getitem__) (defScope s_Desk___getitem__) [] [] (A_Desk___getitem__ K) (fdA K (A_Desk___getitem__ K)) := fdA_of (c.says.def_ 27 (d := d_Desk___getitem__) rfl)
theorem b_Desk___getitem__ (c : Ctx K mg) : Binds K (fdA K (A_Desk___getitem__ K)) ["self", "at"] [] := (F_Desk___getitem__ c).bindsN fun _ _ _ _ _ _ us hl => match us, hl with | [_, _], _ => rfl
theorem F_BadInstruction___init__ (c : Ctx K mg) : ∃ cda cc, SupD K "/claim/cut.py" "__init__" "BadInstruction.__init__" (defArgs s_BadInstruction___init__) (defBody s_BadInstruction___init__) (defScope s_BadInstruction___init__) (A_BadInstruction___init__ K) (He.ga K "BadInstruction") cda cc (fdA K (A_BadInstruction___init__ K)) := SupD.fdA_of (DefW.supD (d := d_BadInstruction___init__) rfl rfl (c.says.defS 28 (d := d_BadInstruction___init__) rfl).1 (c.says.defS 28 (d := d_BadInstruction___init__) rfl).2)
theorem b_BadInstruction___init__ (c : Ctx K mg) : Binds K (fdA K (A_BadInstruction___init__ K)) ["self", "instruction"] [] := by
  obtain ⟨_, _, F⟩ := F_BadInstruction___init__ c
  exact F.bindsN fun _ _ _ _ _ _ _ us hl => match us, hl with | [_, _], _ => rfl
theorem F__done (c : Ctx K mg) : FunD K "_done" "_done" (defArgs s__done) (defBody s__done) (defScope s__done) [] [] (A__done K) (fdA K (A__done K)) := fdA_of (c.says.def_ 29 (d := d__done) rfl)
theorem b__done (c : Ctx K mg) : Binds K (fdA K (A__done K)) ["desk", "word", "k"] [] := (F__done c).bindsN fun _ _ _ _ _ _ us hl => match us, hl with | [_, _, _], _ => rfl
theorem F_visit (c : Ctx K mg) : FunD K "visit" "visit" (defArgs s_visit) (defBody s_visit) (defScope s_visit) [] [] (A_visit K) (fdA K (A_visit K)) := fdA_of (c.says.def_ 30 (d := d_visit) rfl)
theorem F__law_visit (c : Ctx K mg) : FunD K "_law_visit" "_law_visit" (defArgs s__law_visit) (defBody s__law_visit) (defScope s__law_visit) [] [] (A__law_visit K) (fdA K (A__law_visit K)) := fdA_of (c.says.def_ 31 (d := d__law_visit) rfl)
theorem b__law_visit (c : Ctx K mg) : Binds K (fdA K (A__law_visit K)) ["_law_desk", "_law_deeds"] [] := (F__law_visit c).bindsN fun _ _ _ _ _ _ us hl => match us, hl with | [_, _], _ => rfl
theorem F__law_told (c : Ctx K mg) : FunD K "_law_told" "_law_told" (defArgs s__law_told) (defBody s__law_told) (defScope s__law_told) [] [] (A__law_told K) (fdA K (A__law_told K)) := fdA_of (c.says.def_ 32 (d := d__law_told) rfl)
theorem b__law_told (c : Ctx K mg) : Binds K (fdA K (A__law_told K)) ["_law_desk", "_law_deeds"] [] := (F__law_told c).bindsN fun _ _ _ _ _ _ us hl => match us, hl with | [_, _], _ => rfl
theorem F__law_same (c : Ctx K mg) : FunD K "_law_same" "_law_same" (defArgs s__law_same) (defBody s__law_same) (defScope s__law_same) [] [] (A__law_same K) (fdA K (A__law_same K)) := fdA_of (c.says.def_ 33 (d := d__law_same) rfl)
theorem b__law_same (c : Ctx K mg) : Binds K (fdA K (A__law_same K)) ["_law_actual", "_law_expected"] [] := (F__law_same c).bindsN fun _ _ _ _ _ _ us hl => match us, hl with | [_, _], _ => rfl
theorem F_Hall_contents (c : Ctx K mg) : FunD K "contents" "Hall.contents" (defArgs s_Hall_contents) (defBody s_Hall_contents) (defScope s_Hall_contents) [] [] (A_Hall_contents K) (fdA K (A_Hall_contents K)) := fdA_of (c.says.def_ 34 (d := d_Hall_contents) rfl)
theorem b_Hall_contents (c : Ctx K mg) : Binds K (fdA K (A_Hall_contents K)) ["self"] [] := (F_Hall_contents c).bindsN fun _ _ _ _ _ _ us hl => match us, hl with | [_], _ => rfl
theorem F_Hall_free (c : Ctx K mg) : FunD K "free" "Hall.free" (defArgs s_Hall_free) (defBody s_Hall_free) (defScope s_Hall_free) [] [] (A_Hall_free K) (fdA K (A_Hall_free K)) := fdA_of (c.says.def_ 35 (d := d_Hall_free) rfl)
theorem b_Hall_free (c : Ctx K mg) : Binds K (fdA K (A_Hall_free K)) ["self"] [] := (F_Hall_free c).bindsN fun _ _ _ _ _ _ us hl => match us, hl with | [_], _ => rfl
theorem F_Desk_behind (c : Ctx K mg) : FunD K "behind" "Desk.behind" (defArgs s_Desk_behind) (defBody s_Desk_behind) (defScope s_Desk_behind) [] [] (A_Desk_behind K) (fdA K (A_Desk_behind K)) := fdA_of (c.says.def_ 36 (d := d_Desk_behind) rfl)
theorem b_Desk_behind (c : Ctx K mg) : Binds K (fdA K (A_Desk_behind K)) ["self"] [] := (F_Desk_behind c).bindsN fun _ _ _ _ _ _ us hl => match us, hl with | [_], _ => rfl
theorem F__law_looks (c : Ctx K mg) : FunD K "_law_looks" "_law_looks" (defArgs s__law_looks) (defBody s__law_looks) (defScope s__law_looks) [] [] (A__law_looks K) (fdA K (A__law_looks K)) := fdA_of (c.says.def_ 37 (d := d__law_looks) rfl)
theorem b__law_looks (c : Ctx K mg) : Binds K (fdA K (A__law_looks K)) ["_law_hall", "_law_desks", "_law_contents", "_law_inside", "_law_capacity"] [] := (F__law_looks c).bindsN fun _ _ _ _ _ _ us hl => match us, hl with | [_, _, _, _, _], _ => rfl
theorem F_law (c : Ctx K mg) : FunD K "law" "law" (defArgs s_law) (defBody s_law) (defScope s_law) [] [] (A_law K) (fdA K (A_law K)) := fdA_of (c.says.def_ 38 (d := d_law) rfl)
theorem b_law (c : Ctx K mg) : Binds K (fdA K (A_law K)) ["_law_script"] [] := (F_law c).bindsN fun _ _ _ _ _ _ us hl => match us, hl with | [_], _ => rfl
theorem n_abs (c : Ctx K mg) : mg "abs" = none := c.free (c.says.fact 0 rfl)
theorem n_bool (c : Ctx K mg) : mg "bool" = none := c.free (c.says.fact 1 rfl)
theorem n_int (c : Ctx K mg) : mg "int" = none := c.free (c.says.fact 2 rfl)
theorem n_isinstance (c : Ctx K mg) : mg "isinstance" = none := c.free (c.says.fact 3 rfl)
theorem n_len (c : Ctx K mg) : mg "len" = none := c.free (c.says.fact 4 rfl)
theorem n_list (c : Ctx K mg) : mg "list" = none := c.free (c.says.fact 5 rfl)
theorem n_max (c : Ctx K mg) : mg "max" = none := c.free (c.says.fact 6 rfl)
theorem n_range (c : Ctx K mg) : mg "range" = none := c.free (c.says.fact 7 rfl)
theorem n_sorted (c : Ctx K mg) : mg "sorted" = none := c.free (c.says.fact 8 rfl)
theorem n_str (c : Ctx K mg) : mg "str" = none := c.free (c.says.fact 9 rfl)
theorem n_super (c : Ctx K mg) : mg "super" = none := c.free (c.says.fact 10 rfl)
theorem n_tuple (c : Ctx K mg) : mg "tuple" = none := c.free (c.says.fact 11 rfl)
theorem g__law_begin (c : Ctx K mg) : mg "_law_begin" = some (.ref (A__law_begin K)) := c.glo (c.says.fact 12 rfl)
theorem g__law_draw (c : Ctx K mg) : mg "_law_draw" = some (.ref (A__law_draw K)) := c.glo (c.says.fact 13 rfl)
theorem g__law_shuffled (c : Ctx K mg) : mg "_law_shuffled" = some (.ref (A__law_shuffled K)) := c.glo (c.says.fact 14 rfl)
theorem g__law_text (c : Ctx K mg) : mg "_law_text" = some (.ref (A__law_text K)) := c.glo (c.says.fact 15 rfl)
theorem g__law_due (c : Ctx K mg) : mg "_law_due" = some (.ref (A__law_due K)) := c.glo (c.says.fact 16 rfl)
theorem g__done (c : Ctx K mg) : mg "_done" = some (.ref (A__done K)) := c.glo (c.says.fact 17 rfl)
theorem g_visit (c : Ctx K mg) : mg "visit" = some (.ref (A_visit K)) := c.glo (c.says.fact 18 rfl)
theorem g__law_visit (c : Ctx K mg) : mg "_law_visit" = some (.ref (A__law_visit K)) := c.glo (c.says.fact 19 rfl)
theorem g__law_told (c : Ctx K mg) : mg "_law_told" = some (.ref (A__law_told K)) := c.glo (c.says.fact 20 rfl)
theorem g__law_same (c : Ctx K mg) : mg "_law_same" = some (.ref (A__law_same K)) := c.glo (c.says.fact 21 rfl)
theorem g__law_looks (c : Ctx K mg) : mg "_law_looks" = some (.ref (A__law_looks K)) := c.glo (c.says.fact 22 rfl)
theorem g_law (c : Ctx K mg) : mg "law" = some (.ref (A_law K)) := c.glo (c.says.fact 23 rfl)
theorem g_AlreadyInside (c : Ctx K mg) : mg "AlreadyInside" = some (.ref (He.ga K "AlreadyInside")) := c.glo (c.says.fact 24 rfl)
theorem g_BadInstruction (c : Ctx K mg) : mg "BadInstruction" = some (.ref (He.ga K "BadInstruction")) := c.glo (c.says.fact 25 rfl)
theorem g_Desk (c : Ctx K mg) : mg "Desk" = some (.ref (He.ga K "Desk")) := c.glo (c.says.fact 26 rfl)
theorem g_Hall (c : Ctx K mg) : mg "Hall" = some (.ref (He.ga K "Hall")) := c.glo (c.says.fact 27 rfl)
theorem g_HallError (c : Ctx K mg) : mg "HallError" = some (.ref (He.ga K "HallError")) := c.glo (c.says.fact 28 rfl)
theorem g_Held (c : Ctx K mg) : mg "Held" = some (.ref (He.ga K "Held")) := c.glo (c.says.fact 29 rfl)
theorem g_NoCell (c : Ctx K mg) : mg "NoCell" = some (.ref (He.ga K "NoCell")) := c.glo (c.says.fact 30 rfl)
theorem g_NotEnough (c : Ctx K mg) : mg "NotEnough" = some (.ref (He.ga K "NotEnough")) := c.glo (c.says.fact 31 rfl)
theorem g_Numbering (c : Ctx K mg) : mg "Numbering" = some (.ref (He.ga K "Numbering")) := c.glo (c.says.fact 32 rfl)
theorem g_RoomFull (c : Ctx K mg) : mg "RoomFull" = some (.ref (He.ga K "RoomFull")) := c.glo (c.says.fact 33 rfl)
theorem g_Stay (c : Ctx K mg) : mg "Stay" = some (.ref (He.ga K "Stay")) := c.glo (c.says.fact 34 rfl)
theorem g_BadNumbering (c : Ctx K mg) : mg "BadNumbering" = some (.ref (He.ga K "BadNumbering")) := c.glo (c.says.fact 35 rfl)
theorem g_BadSize (c : Ctx K mg) : mg "BadSize" = some (.ref (He.ga K "BadSize")) := c.glo (c.says.fact 36 rfl)
theorem g_NotInside (c : Ctx K mg) : mg "NotInside" = some (.ref (He.ga K "NotInside")) := c.glo (c.says.fact 37 rfl)
theorem x_AlreadyInside (c : Ctx K mg) : XcOk K (He.ga K "AlreadyInside") := He.exc_ok (K := K) (x := "AlreadyInside") (c.says.fact 38 rfl)
theorem x_BadNumbering (c : Ctx K mg) : XcOk K (He.ga K "BadNumbering") := He.exc_ok (K := K) (x := "BadNumbering") (c.says.fact 39 rfl)
theorem x_BadSize (c : Ctx K mg) : XcOk K (He.ga K "BadSize") := He.exc_ok (K := K) (x := "BadSize") (c.says.fact 40 rfl)
theorem x_NotEnough (c : Ctx K mg) : XcOk K (He.ga K "NotEnough") := He.exc_ok (K := K) (x := "NotEnough") (c.says.fact 41 rfl)
theorem x_NotInside (c : Ctx K mg) : XcOk K (He.ga K "NotInside") := He.exc_ok (K := K) (x := "NotInside") (c.says.fact 42 rfl)
theorem x_RoomFull (c : Ctx K mg) : XcOk K (He.ga K "RoomFull") := He.exc_ok (K := K) (x := "RoomFull") (c.says.fact 43 rfl)
theorem mk_Desk (c : Ctx K mg) : Mk K (He.ga K "Desk") (He.ma K (He.ga K "Desk") "__init__") := He.mkr_ok (c.says.fact 44 rfl)
theorem mk_Hall (c : Ctx K mg) : Mk K (He.ga K "Hall") (He.ma K (He.ga K "Hall") "__init__") := He.mkr_ok (c.says.fact 45 rfl)
theorem mk_Numbering (c : Ctx K mg) : Mk K (He.ga K "Numbering") (He.ma K (He.ga K "Numbering") "__init__") := He.mkr_ok (c.says.fact 46 rfl)
theorem mk_Stay (c : Ctx K mg) : Mk K (He.ga K "Stay") (He.ma K (He.ga K "Stay") "__init__") := He.mkr_ok (c.says.fact 47 rfl)
theorem me_Desk__place (c : Ctx K mg) : Meth K (He.ga K "Desk") "_place" (He.ma K (He.ga K "Desk") "_place") := He.meth_ok (c.says.fact 48 rfl)
theorem me_Desk_enter (c : Ctx K mg) : Meth K (He.ga K "Desk") "enter" (He.ma K (He.ga K "Desk") "enter") := He.meth_ok (c.says.fact 49 rfl)
theorem me_Desk_give (c : Ctx K mg) : Meth K (He.ga K "Desk") "give" (He.ma K (He.ga K "Desk") "give") := He.meth_ok (c.says.fact 50 rfl)
theorem me_Desk_leave (c : Ctx K mg) : Meth K (He.ga K "Desk") "leave" (He.ma K (He.ga K "Desk") "leave") := He.meth_ok (c.says.fact 51 rfl)
theorem me_Desk_take (c : Ctx K mg) : Meth K (He.ga K "Desk") "take" (He.ma K (He.ga K "Desk") "take") := He.meth_ok (c.says.fact 52 rfl)
theorem me_Hall_add_worker (c : Ctx K mg) : Meth K (He.ga K "Hall") "add_worker" (He.ma K (He.ga K "Hall") "add_worker") := He.meth_ok (c.says.fact 53 rfl)
theorem me_Hall_change_capacity (c : Ctx K mg) : Meth K (He.ga K "Hall") "change_capacity" (He.ma K (He.ga K "Hall") "change_capacity") := He.meth_ok (c.says.fact 54 rfl)
theorem cl_Desk (c : Ctx K mg) : Cls K (He.ga K "Desk") := He.cls_ok (c.says.fact 55 rfl)
theorem cl_Hall (c : Ctx K mg) : Cls K (He.ga K "Hall") := He.cls_ok (c.says.fact 56 rfl)
theorem cl_Numbering (c : Ctx K mg) : Cls K (He.ga K "Numbering") := He.cls_ok (c.says.fact 57 rfl)
theorem cl_Stay (c : Ctx K mg) : Cls K (He.ga K "Stay") := He.cls_ok (c.says.fact 58 rfl)
theorem xm_AlreadyInside_AlreadyInside (c : Ctx K mg) : PySem.W.exmOne K (.ref (He.ga K "AlreadyInside")) (.ref (He.ga K "AlreadyInside")) = some true := He.exm_ok (c.says.fact 59 rfl)
theorem xm_AlreadyInside_BadInstruction (c : Ctx K mg) : PySem.W.exmOne K (.ref (He.ga K "AlreadyInside")) (.ref (He.ga K "BadInstruction")) = some false := He.exm_ok (c.says.fact 60 rfl)
theorem xm_AlreadyInside_HallError (c : Ctx K mg) : PySem.W.exmOne K (.ref (He.ga K "AlreadyInside")) (.ref (He.ga K "HallError")) = some true := He.exm_ok (c.says.fact 61 rfl)
theorem xm_AlreadyInside_Held (c : Ctx K mg) : PySem.W.exmOne K (.ref (He.ga K "AlreadyInside")) (.ref (He.ga K "Held")) = some false := He.exm_ok (c.says.fact 62 rfl)
theorem xm_AlreadyInside_NoCell (c : Ctx K mg) : PySem.W.exmOne K (.ref (He.ga K "AlreadyInside")) (.ref (He.ga K "NoCell")) = some false := He.exm_ok (c.says.fact 63 rfl)
theorem xm_AlreadyInside_NotEnough (c : Ctx K mg) : PySem.W.exmOne K (.ref (He.ga K "AlreadyInside")) (.ref (He.ga K "NotEnough")) = some false := He.exm_ok (c.says.fact 64 rfl)
theorem xm_AlreadyInside_RoomFull (c : Ctx K mg) : PySem.W.exmOne K (.ref (He.ga K "AlreadyInside")) (.ref (He.ga K "RoomFull")) = some false := He.exm_ok (c.says.fact 65 rfl)
theorem xm_BadInstruction_AlreadyInside (c : Ctx K mg) : PySem.W.exmOne K (.ref (He.ga K "BadInstruction")) (.ref (He.ga K "AlreadyInside")) = some false := He.exm_ok (c.says.fact 66 rfl)
theorem xm_BadInstruction_BadInstruction (c : Ctx K mg) : PySem.W.exmOne K (.ref (He.ga K "BadInstruction")) (.ref (He.ga K "BadInstruction")) = some true := He.exm_ok (c.says.fact 67 rfl)
theorem xm_BadInstruction_HallError (c : Ctx K mg) : PySem.W.exmOne K (.ref (He.ga K "BadInstruction")) (.ref (He.ga K "HallError")) = some true := He.exm_ok (c.says.fact 68 rfl)
theorem xm_BadInstruction_Held (c : Ctx K mg) : PySem.W.exmOne K (.ref (He.ga K "BadInstruction")) (.ref (He.ga K "Held")) = some false := He.exm_ok (c.says.fact 69 rfl)
theorem xm_BadInstruction_NoCell (c : Ctx K mg) : PySem.W.exmOne K (.ref (He.ga K "BadInstruction")) (.ref (He.ga K "NoCell")) = some false := He.exm_ok (c.says.fact 70 rfl)
theorem xm_BadInstruction_NotEnough (c : Ctx K mg) : PySem.W.exmOne K (.ref (He.ga K "BadInstruction")) (.ref (He.ga K "NotEnough")) = some false := He.exm_ok (c.says.fact 71 rfl)
theorem xm_BadInstruction_RoomFull (c : Ctx K mg) : PySem.W.exmOne K (.ref (He.ga K "BadInstruction")) (.ref (He.ga K "RoomFull")) = some false := He.exm_ok (c.says.fact 72 rfl)
theorem xm_BadNumbering_AlreadyInside (c : Ctx K mg) : PySem.W.exmOne K (.ref (He.ga K "BadNumbering")) (.ref (He.ga K "AlreadyInside")) = some false := He.exm_ok (c.says.fact 73 rfl)
theorem xm_BadNumbering_BadInstruction (c : Ctx K mg) : PySem.W.exmOne K (.ref (He.ga K "BadNumbering")) (.ref (He.ga K "BadInstruction")) = some false := He.exm_ok (c.says.fact 74 rfl)
theorem xm_BadNumbering_HallError (c : Ctx K mg) : PySem.W.exmOne K (.ref (He.ga K "BadNumbering")) (.ref (He.ga K "HallError")) = some true := He.exm_ok (c.says.fact 75 rfl)
theorem xm_BadNumbering_Held (c : Ctx K mg) : PySem.W.exmOne K (.ref (He.ga K "BadNumbering")) (.ref (He.ga K "Held")) = some false := He.exm_ok (c.says.fact 76 rfl)
theorem xm_BadNumbering_NoCell (c : Ctx K mg) : PySem.W.exmOne K (.ref (He.ga K "BadNumbering")) (.ref (He.ga K "NoCell")) = some false := He.exm_ok (c.says.fact 77 rfl)
theorem xm_BadNumbering_NotEnough (c : Ctx K mg) : PySem.W.exmOne K (.ref (He.ga K "BadNumbering")) (.ref (He.ga K "NotEnough")) = some false := He.exm_ok (c.says.fact 78 rfl)
theorem xm_BadNumbering_RoomFull (c : Ctx K mg) : PySem.W.exmOne K (.ref (He.ga K "BadNumbering")) (.ref (He.ga K "RoomFull")) = some false := He.exm_ok (c.says.fact 79 rfl)
theorem xm_BadSize_AlreadyInside (c : Ctx K mg) : PySem.W.exmOne K (.ref (He.ga K "BadSize")) (.ref (He.ga K "AlreadyInside")) = some false := He.exm_ok (c.says.fact 80 rfl)
theorem xm_BadSize_BadInstruction (c : Ctx K mg) : PySem.W.exmOne K (.ref (He.ga K "BadSize")) (.ref (He.ga K "BadInstruction")) = some false := He.exm_ok (c.says.fact 81 rfl)
theorem xm_BadSize_HallError (c : Ctx K mg) : PySem.W.exmOne K (.ref (He.ga K "BadSize")) (.ref (He.ga K "HallError")) = some true := He.exm_ok (c.says.fact 82 rfl)
theorem xm_BadSize_Held (c : Ctx K mg) : PySem.W.exmOne K (.ref (He.ga K "BadSize")) (.ref (He.ga K "Held")) = some false := He.exm_ok (c.says.fact 83 rfl)
theorem xm_BadSize_NoCell (c : Ctx K mg) : PySem.W.exmOne K (.ref (He.ga K "BadSize")) (.ref (He.ga K "NoCell")) = some false := He.exm_ok (c.says.fact 84 rfl)
theorem xm_BadSize_NotEnough (c : Ctx K mg) : PySem.W.exmOne K (.ref (He.ga K "BadSize")) (.ref (He.ga K "NotEnough")) = some false := He.exm_ok (c.says.fact 85 rfl)
theorem xm_BadSize_RoomFull (c : Ctx K mg) : PySem.W.exmOne K (.ref (He.ga K "BadSize")) (.ref (He.ga K "RoomFull")) = some false := He.exm_ok (c.says.fact 86 rfl)
theorem xm_Held_AlreadyInside (c : Ctx K mg) : PySem.W.exmOne K (.ref (He.ga K "Held")) (.ref (He.ga K "AlreadyInside")) = some false := He.exm_ok (c.says.fact 87 rfl)
theorem xm_Held_BadInstruction (c : Ctx K mg) : PySem.W.exmOne K (.ref (He.ga K "Held")) (.ref (He.ga K "BadInstruction")) = some false := He.exm_ok (c.says.fact 88 rfl)
theorem xm_Held_HallError (c : Ctx K mg) : PySem.W.exmOne K (.ref (He.ga K "Held")) (.ref (He.ga K "HallError")) = some true := He.exm_ok (c.says.fact 89 rfl)
theorem xm_Held_Held (c : Ctx K mg) : PySem.W.exmOne K (.ref (He.ga K "Held")) (.ref (He.ga K "Held")) = some true := He.exm_ok (c.says.fact 90 rfl)
theorem xm_Held_NoCell (c : Ctx K mg) : PySem.W.exmOne K (.ref (He.ga K "Held")) (.ref (He.ga K "NoCell")) = some false := He.exm_ok (c.says.fact 91 rfl)
theorem xm_Held_NotEnough (c : Ctx K mg) : PySem.W.exmOne K (.ref (He.ga K "Held")) (.ref (He.ga K "NotEnough")) = some false := He.exm_ok (c.says.fact 92 rfl)
theorem xm_Held_RoomFull (c : Ctx K mg) : PySem.W.exmOne K (.ref (He.ga K "Held")) (.ref (He.ga K "RoomFull")) = some false := He.exm_ok (c.says.fact 93 rfl)
theorem xm_NoCell_AlreadyInside (c : Ctx K mg) : PySem.W.exmOne K (.ref (He.ga K "NoCell")) (.ref (He.ga K "AlreadyInside")) = some false := He.exm_ok (c.says.fact 94 rfl)
theorem xm_NoCell_BadInstruction (c : Ctx K mg) : PySem.W.exmOne K (.ref (He.ga K "NoCell")) (.ref (He.ga K "BadInstruction")) = some false := He.exm_ok (c.says.fact 95 rfl)
theorem xm_NoCell_HallError (c : Ctx K mg) : PySem.W.exmOne K (.ref (He.ga K "NoCell")) (.ref (He.ga K "HallError")) = some true := He.exm_ok (c.says.fact 96 rfl)
theorem xm_NoCell_Held (c : Ctx K mg) : PySem.W.exmOne K (.ref (He.ga K "NoCell")) (.ref (He.ga K "Held")) = some false := He.exm_ok (c.says.fact 97 rfl)
theorem xm_NoCell_NoCell (c : Ctx K mg) : PySem.W.exmOne K (.ref (He.ga K "NoCell")) (.ref (He.ga K "NoCell")) = some true := He.exm_ok (c.says.fact 98 rfl)
theorem xm_NoCell_NotEnough (c : Ctx K mg) : PySem.W.exmOne K (.ref (He.ga K "NoCell")) (.ref (He.ga K "NotEnough")) = some false := He.exm_ok (c.says.fact 99 rfl)
theorem xm_NoCell_RoomFull (c : Ctx K mg) : PySem.W.exmOne K (.ref (He.ga K "NoCell")) (.ref (He.ga K "RoomFull")) = some false := He.exm_ok (c.says.fact 100 rfl)
theorem xm_NotEnough_AlreadyInside (c : Ctx K mg) : PySem.W.exmOne K (.ref (He.ga K "NotEnough")) (.ref (He.ga K "AlreadyInside")) = some false := He.exm_ok (c.says.fact 101 rfl)
theorem xm_NotEnough_BadInstruction (c : Ctx K mg) : PySem.W.exmOne K (.ref (He.ga K "NotEnough")) (.ref (He.ga K "BadInstruction")) = some false := He.exm_ok (c.says.fact 102 rfl)
theorem xm_NotEnough_HallError (c : Ctx K mg) : PySem.W.exmOne K (.ref (He.ga K "NotEnough")) (.ref (He.ga K "HallError")) = some true := He.exm_ok (c.says.fact 103 rfl)
theorem xm_NotEnough_Held (c : Ctx K mg) : PySem.W.exmOne K (.ref (He.ga K "NotEnough")) (.ref (He.ga K "Held")) = some false := He.exm_ok (c.says.fact 104 rfl)
theorem xm_NotEnough_NoCell (c : Ctx K mg) : PySem.W.exmOne K (.ref (He.ga K "NotEnough")) (.ref (He.ga K "NoCell")) = some false := He.exm_ok (c.says.fact 105 rfl)
theorem xm_NotEnough_NotEnough (c : Ctx K mg) : PySem.W.exmOne K (.ref (He.ga K "NotEnough")) (.ref (He.ga K "NotEnough")) = some true := He.exm_ok (c.says.fact 106 rfl)
theorem xm_NotEnough_RoomFull (c : Ctx K mg) : PySem.W.exmOne K (.ref (He.ga K "NotEnough")) (.ref (He.ga K "RoomFull")) = some false := He.exm_ok (c.says.fact 107 rfl)
theorem xm_NotInside_AlreadyInside (c : Ctx K mg) : PySem.W.exmOne K (.ref (He.ga K "NotInside")) (.ref (He.ga K "AlreadyInside")) = some false := He.exm_ok (c.says.fact 108 rfl)
theorem xm_NotInside_BadInstruction (c : Ctx K mg) : PySem.W.exmOne K (.ref (He.ga K "NotInside")) (.ref (He.ga K "BadInstruction")) = some false := He.exm_ok (c.says.fact 109 rfl)
theorem xm_NotInside_HallError (c : Ctx K mg) : PySem.W.exmOne K (.ref (He.ga K "NotInside")) (.ref (He.ga K "HallError")) = some true := He.exm_ok (c.says.fact 110 rfl)
theorem xm_NotInside_Held (c : Ctx K mg) : PySem.W.exmOne K (.ref (He.ga K "NotInside")) (.ref (He.ga K "Held")) = some false := He.exm_ok (c.says.fact 111 rfl)
theorem xm_NotInside_NoCell (c : Ctx K mg) : PySem.W.exmOne K (.ref (He.ga K "NotInside")) (.ref (He.ga K "NoCell")) = some false := He.exm_ok (c.says.fact 112 rfl)
theorem xm_NotInside_NotEnough (c : Ctx K mg) : PySem.W.exmOne K (.ref (He.ga K "NotInside")) (.ref (He.ga K "NotEnough")) = some false := He.exm_ok (c.says.fact 113 rfl)
theorem xm_NotInside_RoomFull (c : Ctx K mg) : PySem.W.exmOne K (.ref (He.ga K "NotInside")) (.ref (He.ga K "RoomFull")) = some false := He.exm_ok (c.says.fact 114 rfl)
theorem xm_RoomFull_AlreadyInside (c : Ctx K mg) : PySem.W.exmOne K (.ref (He.ga K "RoomFull")) (.ref (He.ga K "AlreadyInside")) = some false := He.exm_ok (c.says.fact 115 rfl)
theorem xm_RoomFull_BadInstruction (c : Ctx K mg) : PySem.W.exmOne K (.ref (He.ga K "RoomFull")) (.ref (He.ga K "BadInstruction")) = some false := He.exm_ok (c.says.fact 116 rfl)
theorem xm_RoomFull_HallError (c : Ctx K mg) : PySem.W.exmOne K (.ref (He.ga K "RoomFull")) (.ref (He.ga K "HallError")) = some true := He.exm_ok (c.says.fact 117 rfl)
theorem xm_RoomFull_Held (c : Ctx K mg) : PySem.W.exmOne K (.ref (He.ga K "RoomFull")) (.ref (He.ga K "Held")) = some false := He.exm_ok (c.says.fact 118 rfl)
theorem xm_RoomFull_NoCell (c : Ctx K mg) : PySem.W.exmOne K (.ref (He.ga K "RoomFull")) (.ref (He.ga K "NoCell")) = some false := He.exm_ok (c.says.fact 119 rfl)
theorem xm_RoomFull_NotEnough (c : Ctx K mg) : PySem.W.exmOne K (.ref (He.ga K "RoomFull")) (.ref (He.ga K "NotEnough")) = some false := He.exm_ok (c.says.fact 120 rfl)
theorem xm_RoomFull_RoomFull (c : Ctx K mg) : PySem.W.exmOne K (.ref (He.ga K "RoomFull")) (.ref (He.ga K "RoomFull")) = some true := He.exm_ok (c.says.fact 121 rfl)
theorem na_Desk_hall (c : Ctx K mg) : NoAttr K (He.ga K "Desk") "hall" := He.noat_ok (c.says.fact 122 rfl)
theorem na_Desk_number (c : Ctx K mg) : NoAttr K (He.ga K "Desk") "number" := He.noat_ok (c.says.fact 123 rfl)
theorem na_Desk_numbering (c : Ctx K mg) : NoAttr K (He.ga K "Desk") "numbering" := He.noat_ok (c.says.fact 124 rfl)
theorem na_Desk_is_inside (c : Ctx K mg) : NoAttr K (He.ga K "Desk") "is_inside" := He.noat_ok (c.says.fact 125 rfl)
theorem na_Hall_held (c : Ctx K mg) : NoAttr K (He.ga K "Hall") "held" := He.noat_ok (c.says.fact 126 rfl)
theorem na_Hall_desks (c : Ctx K mg) : NoAttr K (He.ga K "Hall") "desks" := He.noat_ok (c.says.fact 127 rfl)
theorem na_Hall__capacity (c : Ctx K mg) : NoAttr K (He.ga K "Hall") "_capacity" := He.noat_ok (c.says.fact 128 rfl)
theorem na_Numbering_places (c : Ctx K mg) : NoAttr K (He.ga K "Numbering") "places" := He.noat_ok (c.says.fact 129 rfl)
theorem na_Stay_desk (c : Ctx K mg) : NoAttr K (He.ga K "Stay") "desk" := He.noat_ok (c.says.fact 130 rfl)
theorem cmo_Numbering___len__ (c : Ctx K mg) : CmO K (He.ga K "Numbering") "__len__" (He.ma K (He.ga K "Numbering") "__len__") := cmoB_ok (c.b 0 rfl)
theorem cr_Numbering (c : Ctx K mg) : ClX.CRead K (He.ga K "Numbering") (.type "type") := crdB_ok (c.b 1 rfl)
theorem cv_Numbering_MOST (c : Ctx K mg) : ∃ u, ClX.CVal K (He.ga K "Numbering") (.type "type") "MOST" (.int 12) u := cvlB_ok (c.b 2 rfl)
theorem exC_AlreadyInside (c : Ctx K mg) : ExcC K (He.ga K "AlreadyInside") := excCB_ok (c.b 3 rfl)
theorem exC_NotEnough (c : Ctx K mg) : ExcC K (He.ga K "NotEnough") := excCB_ok (c.b 4 rfl)
theorem exC_RoomFull (c : Ctx K mg) : ExcC K (He.ga K "RoomFull") := excCB_ok (c.b 5 rfl)
theorem geto_Desk (c : Ctx K mg) : GetO K (He.ga K "Desk") (He.ma K (He.ga K "Desk") "__getitem__") := getOB_ok (c.b 6 rfl)
theorem kit_AlreadyInside_HallError (c : Ctx K mg) : PySem.W.kitOne K (.ref (He.ga K "AlreadyInside")) (.ref (He.ga K "HallError")) = some true := of_decide_eq_true (c.b 7 rfl)
theorem kit_NotEnough_HallError (c : Ctx K mg) : PySem.W.kitOne K (.ref (He.ga K "NotEnough")) (.ref (He.ga K "HallError")) = some true := of_decide_eq_true (c.b 8 rfl)
theorem kit_RoomFull_HallError (c : Ctx K mg) : PySem.W.kitOne K (.ref (He.ga K "RoomFull")) (.ref (He.ga K "HallError")) = some true := of_decide_eq_true (c.b 9 rfl)
theorem prp_Desk_behind (c : Ctx K mg) : PropOf K (He.ga K "Desk") "behind" (He.ma K (He.ga K "Desk") "behind") (recAd "property" K "Desk" "behind") := prpB_ok (c.b 10 rfl)
theorem prp_Desk_enough (c : Ctx K mg) : PropOf K (He.ga K "Desk") "enough" (He.ma K (He.ga K "Desk") "enough") (recAd "property" K "Desk" "enough") := prpB_ok (c.b 11 rfl)
theorem prp_Desk_share (c : Ctx K mg) : PropOf K (He.ga K "Desk") "share" (He.ma K (He.ga K "Desk") "share") (recAd "property" K "Desk" "share") := prpB_ok (c.b 12 rfl)
theorem prp_Hall_capacity (c : Ctx K mg) : PropOf K (He.ga K "Hall") "capacity" (He.ma K (He.ga K "Hall") "capacity") (recAd "property" K "Hall" "capacity") := prpB_ok (c.b 13 rfl)
theorem prp_Hall_contents (c : Ctx K mg) : PropOf K (He.ga K "Hall") "contents" (He.ma K (He.ga K "Hall") "contents") (recAd "property" K "Hall" "contents") := prpB_ok (c.b 14 rfl)
theorem prp_Hall_free (c : Ctx K mg) : PropOf K (He.ga K "Hall") "free" (He.ma K (He.ga K "Hall") "free") (recAd "property" K "Hall" "free") := prpB_ok (c.b 15 rfl)
theorem prp_Hall_occupants (c : Ctx K mg) : PropOf K (He.ga K "Hall") "occupants" (He.ma K (He.ga K "Hall") "occupants") (recAd "property" K "Hall" "occupants") := prpB_ok (c.b 16 rfl)
theorem prs_Hall_capacity__set (c : Ctx K mg) : PropSet K (He.ga K "Hall") "capacity" (He.ma K (He.ga K "Hall") "capacity") (setAd K "Hall" "capacity") := prsB_ok (c.b 17 rfl)
theorem seto_Desk (c : Ctx K mg) : SetO K (He.ga K "Desk") (He.ma K (He.ga K "Desk") "__setitem__") := setOB_ok (c.b 18 rfl)
theorem spx_BadInstruction (c : Ctx K mg) : SupXF K (He.ga K "BadInstruction") (He.ma K (He.ga K "BadInstruction") "__init__") "instruction" := supxB_ok (c.b 19 rfl)
theorem spx_Held (c : Ctx K mg) : SupXF K (He.ga K "Held") (He.ma K (He.ga K "Held") "__init__") "holder" := supxB_ok (c.b 20 rfl)
theorem spx_NoCell (c : Ctx K mg) : SupXF K (He.ga K "NoCell") (He.ma K (He.ga K "NoCell") "__init__") "cell" := supxB_ok (c.b 21 rfl)
theorem with_Stay (c : Ctx K mg) : WithC K (He.ga K "Stay") (He.ma K (He.ga K "Stay") "__enter__") (He.ma K (He.ga K "Stay") "__exit__") := withB_ok (c.b 22 rfl)
theorem xf_BadInstruction_instruction (c : Ctx K mg) : XfC K (He.ga K "BadInstruction") ∧ PySem.W.findIn K (.ref (He.ga K "BadInstruction")) "instruction" = some none := xfB2_ok (c.b 23 rfl)
theorem xf_Held_holder (c : Ctx K mg) : XfC K (He.ga K "Held") ∧ PySem.W.findIn K (.ref (He.ga K "Held")) "holder" = some none := xfB2_ok (c.b 24 rfl)
theorem xf_NoCell_cell (c : Ctx K mg) : XfC K (He.ga K "NoCell") ∧ PySem.W.findIn K (.ref (He.ga K "NoCell")) "cell" = some none := xfB2_ok (c.b 25 rfl)
end
local macro_rules | `(tactic| walk_at "tape") => `(tactic| first
  | assumption
  | (refine' Tape.gr0 ?h1 ?h2; (case h2 => assumption); (case h1 => walk_at "tape"))
  | (refine' Tape.gr1 ?h1 ?h2 ?h3; (case h2 => assumption); (case h1 => walk_at "tape"); (case h3 => first | assumption | (refine Ne.symm ?_; assumption) | walk_at "ne" | (refine' Tape.ne ?a1 ?a2; (case a2 => assumption); (case a1 => walk_at "tape")))))
local macro_rules | `(tactic| walk_at "ne") => `(tactic| first
  | (refine' Tape.ne ?h1 ?h2; (case h2 => assumption); (case h1 => walk_at "tape"))
  | (refine' Ne.symm (Tape.ne ?h1 ?h2); (case h2 => assumption); (case h1 => walk_at "tape")))

def sp__law_begin (K : PySem.W.Frag) : Sp := fun vs H Q _ => ∃ (a : Addr) (ns : List Int), vs = [.ref a] ∧ SqL K H a (ns.map V.int) ∧ ns.length ≤ 63 ∧ ∀ t H', H t = none → Gr [] H H' → Tape 0 H' t → Q (.ref t) H'
theorem w_begin {K : PySem.W.Frag} {H : Hp} {Q : VK} {E : XK} {a : Addr} {ns : List Int} (h : SqL K H a (ns.map V.int)) (hl : ns.length ≤ 63) (k : ∀ t H', H t = none → Gr [] H H' → Tape 0 H' t → Q (.ref t) H') : sp__law_begin K [.ref a] H Q E := ⟨a, ns, rfl, h, hl, k⟩
section
variable {P : Program} [PG P] {w : World} {K : PySem.W.Frag} {mg : Str → Option Value} {base : Heap}
theorem ok0__law_begin (c : Ctx K mg) : FnOk P w K mg base (L2N.CX P w) 1 (A__law_begin K) (fdA K (A__law_begin K)) ["_law_script"]
    (fun vs H Q _ => ∃ (a : Addr) (ns : List Int), vs = [.ref a] ∧ SqL K H a (ns.map V.int) ∧ ∀ t l H1 H', H l = none → Gr [] H H1 → H1 l = some (.lst (ns.map V.int)) → H1 t = none → Gr [] H1 H' → H' t = some (.lst [.ref l, .int 0, .int 0, .int 0]) → Q (.ref t) H') := by
  refine okT (F__law_begin c) sc__law_begin (fun vs H Q E h => ?_) (fun cdv A outer s H vs Q E hr h tk pown => ?_)
  · obtain ⟨_, _, rfl, _⟩ := h; rfl
  · refine ⟨_, (pss_one (ps_ret (pe_lstN (pa_cons (pe_callTy cr_list rfl (n_list c) (by decide +kernel) (pa_cons (pv 0) pa_nil)) (pa_cons pe_int (pa_cons pe_int (pa_cons pe_int pa_nil))))))), ?_⟩
    obtain ⟨a, ns, rfl, hS, k⟩ := h
    walk_at "w"
    refine w_listOf (.inl hS) fun l H1 n1 g1 h1 => ?_
    walk_at "w"
    rename_i t H2 n2 g2 h2
    exact k t l H1 H2 n1 g1 h1 n2 g2 h2
theorem ok__law_begin (c : Ctx K mg) : FnOk P w K mg base (L2N.CX P w) 1 (A__law_begin K) (fdA K (A__law_begin K)) ["_law_script"] (sp__law_begin K) := by
  refine (fnOk_frz (ok0__law_begin c)).imp fun vs H Q E h => ?_
  obtain ⟨a, ns, rfl, hS, hl, k⟩ := h
  refine ⟨a, ns, rfl, hS, fun t l H1 H' n1 g1 h1 n2 g2 h2 => ⟨l, _, g2.get0 h1, fun o => ?_⟩⟩
  have ne : t ≠ l := (ne_of_none h1 n2).symm
  refine k t _ (g1.free0 n2) ((g1.trans0 g2).transN (Gr.frz (g2.get0 h1)) n1) ⟨l, o, ns, 0, 0, 0, ?_, upd_same, hl, by decide, by decide, by decide, by decide⟩
  rw [upd_ne ne]
  exact h2
theorem okp__law_begin (c : Ctx K mg) : FnOk P w K mg base (L2N.CX P w) 1 (A__law_begin K) (fdA K (A__law_begin K)) ["_law_script"] (spM .A K (WT K) (pf__law_begin K)) := (ok__law_begin c).imp fun _ _ _ _ h => from_begin h
end
def sp__law_draw (K : PySem.W.Frag) : Sp := fun vs H Q _ => ∃ (t : Addr) (m : Int) (b : Nat), vs = [.ref t, .int m] ∧ Tape b H t ∧ b < 1000000000 ∧ 0 < m ∧ m < 2 ^ 256 ∧ ∀ (r : Int) H', 0 ≤ r → r < m → Gr [t] H H' → Tape (b + 1) H' t → Q (.int r) H'
theorem w_draw {K : PySem.W.Frag} {H : Hp} {Q : VK} {E : XK} {t : Addr} {m : Int} {b : Nat} (h : Tape b H t) (hb : b < 1000000000) (hm : 0 < m) (hm2 : m < 2 ^ 256) (k : ∀ (r : Int) H', 0 ≤ r → r < m → Gr [t] H H' → Tape (b + 1) H' t → Q (.int r) H') : sp__law_draw K [.ref t, .int m] H Q E := ⟨t, m, b, rfl, h, hb, hm, hm2, k⟩
section
variable {P : Program} [PG P] {w : World} {K : PySem.W.Frag} {mg : Str → Option Value} {base : Heap}
theorem ok__law_draw (c : Ctx K mg) : FnOk P w K mg base (L2N.CX P w) 1 (A__law_draw K) (fdA K (A__law_draw K)) ["_law_tape", "_law_many"] (sp__law_draw K) := by
  refine okT (F__law_draw c) sc__law_draw (fun vs H Q E h => ?_) (fun cdv A outer s H vs Q E hr h tk pown => ?_)
  · first | (obtain ⟨rfl, _⟩ := h; rfl) | (obtain ⟨_, rfl, _⟩ := h; rfl) | (obtain ⟨_, _, rfl, _⟩ := h; rfl) | (obtain ⟨_, _, _, rfl, _⟩ := h; rfl) | (obtain ⟨_, _, _, _, rfl, _⟩ := h; rfl) | (obtain ⟨_, _, _, _, _, rfl, _⟩ := h; rfl) | (obtain ⟨_, _, _, _, _, _, rfl, _⟩ := h; rfl) | (obtain ⟨_, _, _, _, _, _, _, rfl, _⟩ := h; rfl)
  · skip
    refine ⟨_, (pss_cut (ps_if (PW.pt (pw_and (pt_cmpR op_eq (pe_ix ix_list (pv 0) pe_int (fun _ _ => rfl)) pe_int (nomark _)) (pw_and1 (pt_cmpR op_lt (pe_ix ix_list (pv 0) pe_int (fun _ _ => rfl)) (pe_callB cr_len rfl (n_len c) (by decide +kernel) (pa_cons (pe_ix ix_list (pv 0) pe_int (fun _ _ => rfl)) pa_nil)) (nomark _)))))
    (pss_cons (ps_asg (pe_callB cr_abs rfl (n_abs c) (by decide +kernel) (pa_cons (pe_ix ix_list (pe_ix ix_list (pv 0) pe_int (fun _ _ => rfl)) (pe_ix ix_list (pv 0) pe_int (fun _ _ => rfl)) (fun _ _ => rfl)) pa_nil)) (pg_sub (pv 0) pe_int set_list))
    (pss_one (ps_asg (pe_op op_add (pe_ix ix_list (pv 0) pe_int (fun _ _ => rfl)) pe_int) (pg_sub (pv 0) pe_int set_list))))
    (pss_one (ps_if (pt_cmpR op_eq (pe_ix ix_list (pv 0) pe_int (fun _ _ => rfl)) pe_int (nomark _))
      (pss_cons (ps_asg (pe_op op_add (pe_ix ix_list (pv 0) pe_int (fun _ _ => rfl)) pe_int) (pg_sub (pv 0) pe_int set_list))
      (pss_cons (ps_if (pt_cmpR (op_eqD hr.units) (pe_ix ix_list (pv 0) pe_int (fun _ _ => rfl)) (pe_lstN pa_nil) (nomark _))
        (pss_one (ps_ret pe_int))
        pss_nil)
      (pss_cons (ps_set (i := 2) sc__law_draw.nd rfl (Or.inl rfl) (pe_ix ix_list (pe_ix ix_list (pv 0) pe_int (fun _ _ => rfl)) (pe_op op_mod (pe_callTy cr_int rfl (n_int c) (by decide +kernel) (pa_cons (pe_ix ix_list (pv 0) pe_int (fun _ _ => rfl)) pa_nil)) (pe_callB cr_len rfl (n_len c) (by decide +kernel) (pa_cons (pe_ix ix_list (pv 0) pe_int (fun _ _ => rfl)) pa_nil))) (fun _ _ => rfl)))
      (pss_one (ps_ret (pe_op op_mod (pe_callTy cr_int rfl (n_int c) (by decide +kernel) (pa_cons (pe_op op_add (pe_op op_mul (pv 2) (pe_op op_add (pe_ix ix_list (pv 0) pe_int (fun _ _ => rfl)) pe_int)) (pe_op op_mul (pe_ix ix_list (pv 0) pe_int (fun _ _ => rfl)) (pe_ix ix_list (pv 0) pe_int (fun _ _ => rfl)))) pa_nil)) (pv 1)))))))
      pss_nil)))
  (pss_cons (ps_set (i := 3) sc__law_draw.nd rfl (Or.inl rfl) (pe_op op_mod (pe_callTy cr_int rfl (n_int c) (by decide +kernel) (pa_cons (pe_ix ix_list (pv 0) pe_int (fun _ _ => rfl)) pa_nil)) (pv 1)))
  (pss_cons (ps_asg (pe_op op_fdivW (pe_ix ix_list (pv 0) pe_int (fun _ _ => rfl)) (pv 1)) (pg_sub (pv 0) pe_int set_list))
  (pss_one (ps_ret (pv 3)))))), ?_⟩
    clear tk pown hr
    have h_nc : NumC K := ⟨cl_Numbering c, na_Numbering_places c⟩
    obtain ⟨t, m, b, rfl, ⟨a, o, ns, i, n, k, h1, h2, hlen, hi, hn, hk, hkb⟩, hb, hm, hm2, Qk⟩ := h
    dsimp only [L2.start, N__law_draw, cxOf, Cx.tr, Cx.suite, List.map, List.length, Nat.reduceAdd, Nat.reduceSub, List.replicate, List.cons_append, List.nil_append, List.append_nil]
    have wd : ∀ j : Int, CDivW j m := fun j => wide_div hm (by omega : m.natAbs < 2 ^ 256) (by decide) (by decide)
    refine w_cut (fun σ' H' => ∃ i' n' : Int, σ' = [some (.ref t), some (.int m), none, none] ∧ Gr [t] H H' ∧ 0 ≤ i' ∧ 0 ≤ n' ∧ H' t = some (.lst [.ref a, .int i', .int n', .int k])) ?_ ?_
    · walk_at "w"
      refine w_iteI (fun e0 => ?_) (fun e0 => ?_)
      · walk_at "w"
        refine w_iteP (fun e1 => ?_) (fun e1 => ?_)
        · rw [List.length_map] at e1
          obtain ⟨x, hx, _⟩ := ints_at (ns := ns) hi e1
          walk_at "w"
          refine w_ixL (by walk_at "sql") hx ?_
          walk_at "w"
          refine ⟨i + 1, _, rfl, by walk_at "gr", by omega, ?_, by assumption⟩
          split <;> omega
        · walk_at "w"
          refine w_iteI (fun _ => ?_) (fun e2 => absurd e0 e2)
          walk_at "w"
          refine w_eqD (d := .lst (dInts ns)) (e := .lst (dInts [])) 1 ?_ ?_ (dep_ints ns 0) rfl (by decide) (fun e2 => ?_) (fun e2 => ?_)
          · exact rep_lstI (by walk_at "sql")
          · exact rep_lstI (by walk_at "sql")
          · walk_at "w"
            exact Qk 0 _ (by decide) hm (by walk_at "gr") ⟨a, o, ns, i, n, k + 1, by walk_at "at", by walk_at "at", hlen, hi, hn, by omega, by omega⟩
          · have hl0 : 0 < ns.length := by
              cases ns with
              | nil => exact absurd rfl e2
              | cons x xs => exact Nat.succ_pos _
            have hl1 : (0 : Int) < ((ns.map V.int).length : Nat) := by rw [List.length_map]; omega
            have m0 : 0 ≤ (k + 1) % ((ns.map V.int).length : Int) := Int.emod_nonneg _ (by omega)
            have m1 : (k + 1) % ((ns.map V.int).length : Int) < ns.length := by
              have z := Int.emod_lt_of_pos (k + 1) hl1
              rw [List.length_map] at z ⊢
              exact z
            obtain ⟨x, hx, _⟩ := ints_at (ns := ns) m0 m1
            walk_at "w"
            refine w_rI hl1 ?_
            walk_at "w"
            refine w_ixL (by walk_at "sql") hx ?_
            walk_at "w"
            refine w_rI (.inr ⟨by omega, by omega⟩) ?_
            walk_at "w"
            refine w_rI (.inr ⟨by omega, by omega⟩) ?_
            walk_at "w"
            refine w_rI hm ?_
            exact Qk _ _ (Int.emod_nonneg _ (by omega)) (Int.emod_lt_of_pos _ hm) (by walk_at "gr") ⟨a, o, ns, i, n, k + 1, by walk_at "at", by walk_at "at", hlen, hi, hn, by omega, by omega⟩
      · walk_at "w"
        refine w_iteI (fun e1 => absurd e1 e0) (fun _ => ?_)
        walk_at "w"
        exact ⟨i, n, rfl, by walk_at "gr", hi, hn, h1⟩
    · rintro σ' H' ⟨i', n', rfl, g, hi', hn', ht⟩
      walk_at "w"
      refine w_rI hm ?_
      walk_at "w"
      refine w_rI (wd _) ?_
      walk_at "w"
      exact Qk _ _ (Int.emod_nonneg _ (by omega)) (Int.emod_lt_of_pos _ hm) (by walk_at "gr") ⟨a, o, ns, i', _, k, by walk_at "at", by walk_at "at", hlen, hi', Int.ediv_nonneg hn' (by omega), hk, by omega⟩
theorem okp__law_draw (c : Ctx K mg) : FnOk P w K mg base (L2N.CX P w) 1 (A__law_draw K) (fdA K (A__law_draw K)) ["_law_tape", "_law_many"] (spM .A K (WT K) (pf__law_draw K)) := (ok__law_draw c).imp fun _ _ _ _ h => from_draw h
end
section
variable {P : Program} [PG P] {w : World} {K : PySem.W.Frag} {mg : Str → Option Value} {base : Heap}
theorem ok_Hall___init__ (c : Ctx K mg) : FnOk P w K mg base (L2N.CX P w) 1 (A_Hall___init__ K) (fdA K (A_Hall___init__ K)) ["self", "cells", "capacity"] (spM .A K (WS P w K W0) (pf_Hall___init__ P w K)) := by
  refine okQ (F_Hall___init__ c) sc_Hall___init__ (fun ω ds Q E h => ?_) (fun cdv A outer s0 H E hr tk pown => (qss_cons (qs_if (QW.toB (qw_or (qb_not (qb_chain op_le op_le opI0_bl opI0_bl qe_int (qe_va (pv 1)) qe_int)) (qw_or1 (qb_not (qb_chain op_le op_le opI0_bl opI0_bl qe_int (qe_va (pv 2)) qe_int)))))
    (qss_one (qs_raise (L2N.ps_raise rfl tk (L2N.pmk_own PySem.F.excBase_ValueError (x_BadSize c).1 (g_BadSize c) (x_BadSize c).2.1 (raises_own (x_BadSize c).2.2.1 (x_BadSize c).2.2.2) rfl))))
    qss_nil)
  (qss_cons (qs_fstS (K := K) (P := P) (w := w) rfl (cl_Hall c) (na_Hall_held c) (qe_new (K := K) (P := P) (w := w) rfl (qe_lc (own := [("_", 3)]) rfl sc_Hall___init__.nd (qi_rg1 rfl (n_range c) (qe_va (pv 1))) (blkOk_by (N := N_Hall___init__) (sc := defScope s_Hall___init__) (by decide +kernel)) (fun _ _ _ _ _ => (qg_name (i := 3) sc_Hall___init__.nd rfl (Or.inl rfl))) (fun _ _ _ _ _ => qts_nil) (fun _ _ _ _ _ => qe_int))) (qe_va (pv 0)))
  (qss_cons (qs_fstS (K := K) (P := P) (w := w) rfl (cl_Hall c) (na_Hall_desks c) (qe_new (K := K) (P := P) (w := w) rfl (qe_lst qa_nil)) (qe_va (pv 0)))
  (qss_one (qs_fstS (K := K) (P := P) (w := w) rfl (cl_Hall c) (na_Hall__capacity c) (qe_va (pv 2)) (qe_va (pv 0)))))))) (fun ω ds Q E h => ?_)
  · obtain ⟨_, _, _, rfl, _⟩ := h; rfl
  · skip
    obtain ⟨a, n, cp, rfl, ha, Qk⟩ := h
    obtain ⟨u0, st⟩ := ω
    dsimp only at ha Qk
    have bad : ¬ (1 ≤ n ∧ n ≤ 12 ∧ 1 ≤ cp ∧ cp ≤ 6) → E (u0, st) ⟨He.ga K "BadSize", none⟩ := fun z => by
      rcases Qk with ⟨h1, h2, h3, h4, _⟩ | ⟨_, q⟩
      · exact absurd ⟨h1, h2, h3, h4⟩ z
      · exact q
    walk_at "v"
    refine w_iteP (fun e1 => ?_) (fun e1 => ?_)
    · walk_at "v"
      refine w_iteNP (fun e2 => ?_) (fun e2 => ?_)
      · walk_at "v"
        exact bad (by omega)
      walk_at "v"
      refine w_iteP (fun e3 => ?_) (fun e3 => ?_)
      · walk_at "v"
        refine w_iteNP (fun e4 => ?_) (fun e4 => ?_)
        · walk_at "v"
          exact bad (by omega)
        walk_at "v"
        obtain ⟨m, rfl⟩ : ∃ m : Nat, n = m := ⟨n.toNat, by omega⟩
        have Qg := (Qk.resolve_right fun z => z.1 (by omega)).2.2.2.2
        rw [rgI_rg]
        refine v_kLcM (fun _ => .int 0) (by rw [length_dInts, length_rg]; omega) rfl (fun i d Q' hd hq => ?_) ?_
        · walk_at "v"
          exact ⟨rfl, hq⟩
        have e0 : (dInts (rg m)).map (fun _ => D.int 0) = dInts (List.replicate (m : Int).toNat 0) := by
          rw [Int.toNat_natCast]
          unfold dInts
          rw [List.map_map, List.map_replicate]
          exact (List.map_const' (l := rg m) (b := D.int 0)).trans (by rw [length_rg])
        rw [e0]
        refine ⟨_, rfl, pure_ints _, fun lh hlh => ?_⟩
        have nal : a ≠ lh := Sto.apart ha hlh
        walk_at "v"
        refine v_kFstS (fs := []) (Sto.ne nal ha) rfl (by show imm ["held"] = false; decide) (by decide) ?_
        walk_at "v"
        refine ⟨rfl, fun ld hld => ?_⟩
        have nld : ld ≠ lh := fun z => by
          subst z
          exact (Sto.apart (st := (st.put ld (.ml (dInts (List.replicate (m : Int).toNat 0)))).put a (.mi (HC K) (putD "held" (.adr ld) []))) (a := ld) (b := ld) (Sto.ne nal.symm Sto.same) hld) rfl
        have nad : a ≠ ld := fun z => by
          subst z
          exact (Sto.apart (st := (st.put lh (.ml (dInts (List.replicate (m : Int).toNat 0)))).put a (.mi (HC K) (putD "held" (.adr lh) []))) (a := a) (b := a) Sto.same hld) rfl
        walk_at "v"
        refine v_kFstS (fs := [("held", .adr lh)]) (Sto.ne nad Sto.same) rfl (by show imm ["held", "desks"] = false; decide) (by show 1 < 1000; decide) ?_
        walk_at "v"
        refine v_kFstS (fs := [("held", .adr lh), ("desks", .adr ld)]) Sto.same rfl (by show imm ["held", "desks", "_capacity"] = false; decide) (by show 2 < 1000; decide) ?_
        have hld' : st ld = none := by
          have := hld
          unfold Sto.put at this
          rw [if_neg nad.symm, if_neg nld] at this
          exact this
        have key := Qg lh ld hlh hld' nld.symm
        have es : ((((st.put lh (.ml (dInts (List.replicate (m : Int).toNat 0)))).put a (.mi (HC K) (putD "held" (.adr lh) []))).put ld (.ml [])).put a (.mi (HC K) [("held", .adr lh), ("desks", .adr ld)])).put a (.mi (HC K) (hallF a lh ld cp)) = ((st.put lh (.ml (dInts (List.replicate (m : Int).toNat 0)))).put ld (.ml [])).put a (.mi (HC K) (hallF a lh ld cp)) := by
          funext b
          unfold Sto.put
          by_cases z : b = a
          · rw [if_pos z, if_pos z]
          · rw [if_neg z, if_neg z, if_neg z, if_neg z]
        rw [← es] at key
        exact key
      · walk_at "v"
        exact bad (by omega)
    · walk_at "v"
      exact bad (by omega)
end
def sp__law_shuffled (K : PySem.W.Frag) : Sp := fun vs H Q _ => ∃ (t : Addr) (m b : Nat), vs = [.ref t, .int m] ∧ Tape b H t ∧ b < 100000000 ∧ 1 ≤ m ∧ m ≤ 12 ∧ ∀ l ps H', H l = none → Gr [t] H H' → H' l = some (.lst (ps.map V.int)) → IsNum ps → ps.length = m → Tape (b + 12) H' t → Q (.ref l) H'
theorem w_shuffled {K : PySem.W.Frag} {H : Hp} {Q : VK} {E : XK} {t : Addr} {m b : Nat} (h : Tape b H t) (hb : b < 100000000) (m1 : 1 ≤ m) (m2 : m ≤ 12) (k : ∀ l ps H', H l = none → Gr [t] H H' → H' l = some (.lst (ps.map V.int)) → IsNum ps → ps.length = m → Tape (b + 12) H' t → Q (.ref l) H') : sp__law_shuffled K [.ref t, .int m] H Q E := ⟨t, m, b, rfl, h, hb, m1, m2, k⟩
section
variable {P : Program} [PG P] {w : World} {K : PySem.W.Frag} {mg : Str → Option Value} {base : Heap}
theorem ok__law_shuffled (c : Ctx K mg) : FnOk P w K mg base (L2N.CX P w) 2 (A__law_shuffled K) (fdA K (A__law_shuffled K)) ["_law_tape", "_law_cells"] (sp__law_shuffled K) := by
  refine okT (F__law_shuffled c) sc__law_shuffled (fun vs H Q E h => ?_) (fun cdv A outer s H vs Q E hr h tk pown => ?_)
  · first | (obtain ⟨rfl, _⟩ := h; rfl) | (obtain ⟨_, rfl, _⟩ := h; rfl) | (obtain ⟨_, _, rfl, _⟩ := h; rfl) | (obtain ⟨_, _, _, rfl, _⟩ := h; rfl) | (obtain ⟨_, _, _, _, rfl, _⟩ := h; rfl) | (obtain ⟨_, _, _, _, _, rfl, _⟩ := h; rfl) | (obtain ⟨_, _, _, _, _, _, rfl, _⟩ := h; rfl) | (obtain ⟨_, _, _, _, _, _, _, rfl, _⟩ := h; rfl)
  · skip
    refine ⟨_, (pss_cons (ps_set (i := 2) sc__law_shuffled.nd rfl (Or.inl rfl) (pe_listRg rfl rfl (n_list c) (prg_1 rfl (n_range c) (pv 1))))
  (pss_cons (ps_set (i := 3) sc__law_shuffled.nd rfl (Or.inl rfl) (pe_lstN pa_nil))
  (pss_cons (ps_for pown rfl (pi_range1 rfl (n_range c) (pa_cons (pv 1) pa_nil)) (pg_name (i := 4) sc__law_shuffled.nd rfl (Or.inl rfl))
    (pss_one (ps_expr (pe_bm PySem.F.plainAttrs_list PySem.F.slot_list_append PySem.F.type_list_append mt_append (pv 3) (pa_cons (pe_bm PySem.F.plainAttrs_list PySem.F.slot_list_pop PySem.F.type_list_pop mt_popAt (pv 2) (pa_cons (pe_callS (ok__law_draw (P := P) c) (hr.mono (by decide)) rfl (g__law_draw c) (F__law_draw c).kp (b__law_draw c) (fun σ => L2N.passAt tk σ) (pa_cons (pv 0) (pa_cons (pe_callB cr_len rfl (n_len c) (by decide +kernel) (pa_cons (pv 2) pa_nil)) pa_nil))) pa_nil)) pa_nil)))))
  (pss_one (ps_ret (pv 3)))))), ?_⟩
    clear tk pown hr
    have h_nc : NumC K := ⟨cl_Numbering c, na_Numbering_places c⟩
    obtain ⟨t, m, b, rfl, ht, hb, m1, m2, Qk⟩ := h
    dsimp only [L2.start, N__law_shuffled, cxOf, Cx.tr, Cx.suite, List.map, List.length, Nat.reduceAdd, Nat.reduceSub, List.replicate, List.cons_append, List.nil_append, List.append_nil]
    walk_at "w"
    refine w_kLstRg (by omega) fun q H1 n1 g1 h1 => ?_
    walk_at "w"
    rename_i l H2 n2 g2 h2
    refine w_rRng1N (by omega) ?_
    have nl : H l = none := g1.free0 n2
    have qt : t ≠ q := ht.ne n1
    have lt : t ≠ l := ht.ne nl
    have ql : q ≠ l := ne_of_none h1 n2
    refine f_rng (fun i σ' H' => ∃ (acc left : List Int) (o : Option V), σ' = [some (.ref t), some (.int m), some (.ref q), some (.ref l), o] ∧ Gr [t] H H' ∧ H' q = some (.lst (left.map V.int)) ∧ H' l = some (.lst (acc.map V.int)) ∧ acc.length = i ∧ (left ++ acc).Perm (rg m) ∧ Tape (b + i) H' t) ⟨[], rg m, _, rfl, (g1.trans0 g2).weak (fun a ha => ?_), g2.get0 h1, h2, rfl, by rw [List.append_nil], (ht.gr0 g1).gr0 g2⟩ ?_ ?_
    · have e : a = t := by simpa using ha
      subst e
      obtain ⟨_, h⟩ := ht.at
      exact ⟨_, h, rfl⟩
    · rintro i σ' H3 hi ⟨acc, left, o, rfl, g3, hq, hl, ha, hp, ht3⟩
      have ll : left.length = m - i := by
        have e := hp.length_eq
        rw [List.length_append, length_rg] at e
        omega
      walk_at "w"
      rw [List.length_map, ll]
      refine w_draw ht3 (by omega) (by omega) (by omega) fun r H4 r0 r1 g4 ht4 => ?_
      walk_at "w"
      obtain ⟨v, hv⟩ : ∃ v, left[r.toNat]? = some v := ⟨_, List.getElem?_eq_getElem (by omega)⟩
      refine w_popAt (p := q) (xs := left.map V.int) (v := .int v) (n := r.toNat) (by walk_at "at") r0 (by omega) rfl (by rw [List.getElem?_map, hv] <;> rfl) fun H5 g5 h5 => ?_
      walk_at "w"
      refine w_app (p := l) (xs := acc.map V.int) (by walk_at "at") (by rw [List.length_map]; exact smallLt (by omega)) fun H6 g6 h6 => ?_
      walk_at "w"
      refine ⟨acc ++ [v], left.eraseIdx r.toNat, _, rfl, ?_, ?_, by rw [h6, List.map_append] <;> rfl, by rw [List.length_append, ha] <;> rfl, ?_, ?_⟩
      · exact ((g3.trans g4 (sub1 (.inl (by simp)))).trans g5 (sub1 (.inr n1))).trans g6 (sub1 (.inr nl))
      · have z : H6 q = some (.lst ((left.map V.int).eraseIdx r.toNat)) := by walk_at "at"
        rw [z]
        congr 2
        exact eraseIdx_mapL _ _ _
      · have z := eraseIdx_permL hv
        refine .trans ?_ hp
        rw [← List.append_assoc]
        refine (List.perm_append_comm (l₁ := _ ++ acc) (l₂ := [v])).trans ?_
        rw [← List.append_assoc]
        exact z.append_right acc
      · have z : Tape (b + i + 1) H6 t := by walk_at "tape"
        exact z
    · rintro σ' H3 ⟨acc, left, o, rfl, g3, hq, hl, ha, hp, ht3⟩
      have e : left = [] := by
        have e := hp.length_eq
        rw [List.length_append, length_rg] at e
        exact List.eq_nil_of_length_eq_zero (by omega)
      subst e
      walk_at "w"
      refine Qk l acc H3 nl g3 hl ⟨by omega, by omega, by rw [ha]; exact hp⟩ ha (ht3.mono (by omega))
theorem okp__law_shuffled (c : Ctx K mg) : FnOk P w K mg base (L2N.CX P w) 2 (A__law_shuffled K) (fdA K (A__law_shuffled K)) ["_law_tape", "_law_cells"] (spM .F K (WT K) (pf__law_shuffled K)) := (ok__law_shuffled c).imp fun _ _ _ _ h => from_shuffled h
end
section
variable {P : Program} [PG P] {w : World} {K : PySem.W.Frag} {mg : Str → Option Value} {base : Heap}
theorem ok_Numbering___len__ (c : Ctx K mg) : FnOk P w K mg base (L2N.CX P w) 1 (A_Numbering___len__ K) (fdA K (A_Numbering___len__ K)) ["self"] (spM .A K W0 (pf_Numbering___len__ K)) := by
  refine okQ (F_Numbering___len__ c) sc_Numbering___len__ (fun ω ds Q E h => ?_) (fun cdv A outer s0 H E hr tk pown => (qss_one (qs_ret (qe_cB cr_len lenP rfl (n_len c) (by decide +kernel) (qa_cons (qe_fld (qe_va (pv 0)) (cl_Numbering c) (na_Numbering_places c)) qa_nil))))) (fun ω ds Q E h => ?_)
  · first | (obtain ⟨rfl, _⟩ := h; rfl) | (obtain ⟨_, rfl, _⟩ := h; rfl) | (obtain ⟨_, _, rfl, _⟩ := h; rfl) | (obtain ⟨_, _, _, rfl, _⟩ := h; rfl) | (obtain ⟨_, _, _, _, rfl, _⟩ := h; rfl) | (obtain ⟨_, _, _, _, _, rfl, _⟩ := h; rfl) | (obtain ⟨_, _, _, _, _, _, rfl, _⟩ := h; rfl) | (obtain ⟨_, _, _, _, _, _, _, rfl, _⟩ := h; rfl)
  · skip
    obtain ⟨ps, rfl, h⟩ := h
    walk_at "v"
    rw [length_dInts]
    exact h
end
section
variable {P : Program} [PG P] {w : World} {K : PySem.W.Frag} {mg : Str → Option Value} {base : Heap}
theorem ok_Desk___init__ (c : Ctx K mg) : FnOk P w K mg base (L2N.CX P w) 1 (A_Desk___init__ K) (fdA K (A_Desk___init__ K)) ["self", "hall", "number", "numbering"] (spM .A K (WS P w K W0) (pf_Desk___init__ P w K)) := by
  refine okQ (F_Desk___init__ c) sc_Desk___init__ (fun ω ds Q E h => ?_) (fun cdv A outer s0 H E hr tk pown => (qss_cons (qs_fstS (K := K) (P := P) (w := w) rfl (cl_Desk c) (na_Desk_hall c) (qe_va (pv 1)) (qe_va (pv 0)))
  (qss_cons (qs_fstS (K := K) (P := P) (w := w) rfl (cl_Desk c) (na_Desk_number c) (qe_va (pv 2)) (qe_va (pv 0)))
  (qss_cons (qs_fstS (K := K) (P := P) (w := w) rfl (cl_Desk c) (na_Desk_numbering c) (qe_va (pv 3)) (qe_va (pv 0)))
  (qss_one (qs_fstS (K := K) (P := P) (w := w) rfl (cl_Desk c) (na_Desk_is_inside c) qe_bl (qe_va (pv 0)))))))) (fun ω ds Q E h => ?_)
  · obtain ⟨_, _, _, _, rfl, _⟩ := h; rfl
  · skip
    obtain ⟨a, h, n, o, rfl, ha, Qk⟩ := h
    obtain ⟨u0, st⟩ := ω
    dsimp only at ha Qk
    walk_at "v"
    refine v_kFstS (fs := []) ha rfl (by show imm ["hall"] = false; decide) (by decide) ?_
    walk_at "v"
    refine v_kFstS (fs := [("hall", .adr h)]) Sto.same rfl (by show imm ["hall", "number"] = false; decide) (by show 1 < 1000; decide) ?_
    walk_at "v"
    refine v_kFstS (fs := [("hall", .adr h), ("number", .int n)]) Sto.same (pure_num o) (by show imm ["hall", "number", "numbering"] = false; decide) (by show 2 < 1000; decide) ?_
    walk_at "v"
    refine v_kFstS (fs := [("hall", .adr h), ("number", .int n), ("numbering", numD K o)]) Sto.same rfl (by show imm ["hall", "number", "numbering", "is_inside"] = false; decide) (by show 3 < 1000; decide) ?_
    show Q (_, (((st.put a _).put a _).put a _).put a _) _
    rw [Sto.putput, Sto.putput, Sto.putput]
    exact Qk
end
section
variable {P : Program} [PG P] {w : World} {K : PySem.W.Frag} {mg : Str → Option Value} {base : Heap}
theorem ok_Hall_add_worker (c : Ctx K mg) : FnOk P w K mg base (L2N.CX P w) 3 (A_Hall_add_worker K) (fdA K (A_Hall_add_worker K)) ["self", "numbering"] (spM .A K (WS P w K W0) (pf_Hall_add_worker P w K)) := by
  refine okQ (F_Hall_add_worker c) sc_Hall_add_worker (fun ω ds Q E h => ?_) (fun cdv A outer s0 H E hr tk pown => (qss_cons (qs_if (QW.toB (qw_or (qb_cmp op_ne opNeP (qe_lenO (ma := .C) (cmo_Numbering___len__ c) (FnR.inW (rawF (ok_Numbering___len__ (P := P) c) (b_Numbering___len__ c)) (WS P w K W0)) (hr.mono (by decide)) rfl (n_len c) (qa_cons (qe_va (pv 1)) qa_nil)) (qe_cBS (K := K) (P := P) (w := w) rfl cr_len lenP rfl (n_len c) (by decide +kernel) (qa_cons (qe_fldS (K := K) (P := P) (w := w) rfl (qe_va (pv 0)) (cl_Hall c) (na_Hall_held c)) qa_nil)) (nomark _)) (qw_or1 (qb_cmp op_eq opEqP (qe_cBS (K := K) (P := P) (w := w) rfl cr_len lenP rfl (n_len c) (by decide +kernel) (qa_cons (qe_fldS (K := K) (P := P) (w := w) rfl (qe_va (pv 0)) (cl_Hall c) (na_Hall_desks c)) qa_nil)) qe_int (nomark _)))))
    (qss_one (qs_raise (L2N.ps_raise rfl tk (L2N.pmk_own PySem.F.excBase_ValueError (x_BadSize c).1 (g_BadSize c) (x_BadSize c).2.1 (raises_own (x_BadSize c).2.2.1 (x_BadSize c).2.2.2) rfl))))
    qss_nil)
  (qss_cons (qs_set (i := 2) sc_Hall_add_worker.nd rfl (Or.inl rfl) (qe_makeS (K := K) (P := P) (w := w) rfl (qe_adr (pe_glob (v := .ref (He.ga K "Desk")) rfl (g_Desk c) rfl)) (mk_Desk c) (rawF (ok_Desk___init__ (P := P) c) (b_Desk___init__ c)) (hr.mono (by decide)) (fun σ => L2N.passAt tk σ) (qa_cons (qe_va (pv 0)) (qa_cons (qe_op op_add opI0_int (qe_cBS (K := K) (P := P) (w := w) rfl cr_len lenP rfl (n_len c) (by decide +kernel) (qa_cons (qe_fldS (K := K) (P := P) (w := w) rfl (qe_va (pv 0)) (cl_Hall c) (na_Hall_desks c)) qa_nil)) qe_int) (qa_cons (qe_va (pv 1)) qa_nil)))))
  (qss_cons (qs_appS (K := K) (P := P) (w := w) rfl (qe_fldS (K := K) (P := P) (w := w) rfl (qe_va (pv 0)) (cl_Hall c) (na_Hall_desks c)) (qe_va (pv 2)))
  (qss_one (qs_ret (qe_va (pv 2)))))))) (fun ω ds Q E h => ?_)
  · obtain ⟨_, _, rfl, _⟩ := h; rfl
  · skip
    obtain ⟨X, o, rfl, hs, ho, Qk⟩ := h
    obtain ⟨u0, st⟩ := ω
    dsimp only at hs Qk
    have s1 := hs.sh
    have s2 := hs.sl
    have s3 := hs.sd
    have six := hs.six
    have n12 := hs.n12
    have ho12 := ho.2.1
    have bad : ¬ (o.length = X.held.length ∧ X.da.length < 6) → E (u0, st) ⟨He.ga K "BadSize", none⟩ := fun z => by
      rcases Qk with ⟨h1, h2, _⟩ | ⟨_, q⟩
      · exact absurd ⟨h1, h2⟩ z
      · exact q
    have hld : (X.da.map D.adr).length = X.da.length := List.length_map _
    walk_at "v"
    refine v_numLen ?_
    walk_at "v"
    rw [length_dInts]
    refine w_iteNP (fun e1 => ?_) (fun e1 => ?_)
    · walk_at "v"
      exact bad (by omega)
    walk_at "v"
    rw [hld]
    refine w_iteP (fun e2 => ?_) (fun e2 => ?_)
    · walk_at "v"
      exact bad (by omega)
    walk_at "v"
    rw [hld]
    have Qg := (Qk.resolve_right fun z => z.1 (by omega)).2.2
    intro d hd
    have n1 := Sto.apart s1 hd
    have n2 := Sto.apart s3 hd
    refine ⟨d, X.h, _, o, rfl, Sto.same, rfl, ?_⟩
    walk_at "v"
    refine ⟨X.ld, X.da.map D.adr, rfl, Sto.ne n2 (Sto.ne n2 s3), ?_⟩
    walk_at "v"
    refine v_kAppS (Sto.ne n2 (Sto.ne n2 s3)) rfl (by rw [hld]; omega) ?_
    walk_at "v"
    have key := Qg d hd
    rw [List.map_append] at key
    rw [Sto.putput]
    exact key
end
section
variable {P : Program} [PG P] {w : World} {K : PySem.W.Frag} {mg : Str → Option Value} {base : Heap}
theorem ok_Numbering___init__ (c : Ctx K mg) : FnOk P w K mg base (L2N.CX P w) 1 (A_Numbering___init__ K) (fdA K (A_Numbering___init__ K)) ["self", "places"] (sp_Numbering___init__ K) := by
  refine okT (F_Numbering___init__ c) sc_Numbering___init__ (fun vs H Q E h => ?_) (fun cdv A outer s H vs Q E hr h tk pown => ?_)
  · first | (obtain ⟨rfl, _⟩ := h; rfl) | (obtain ⟨_, rfl, _⟩ := h; rfl) | (obtain ⟨_, _, rfl, _⟩ := h; rfl) | (obtain ⟨_, _, _, rfl, _⟩ := h; rfl) | (obtain ⟨_, _, _, _, rfl, _⟩ := h; rfl) | (obtain ⟨_, _, _, _, _, rfl, _⟩ := h; rfl) | (obtain ⟨_, _, _, _, _, _, rfl, _⟩ := h; rfl) | (obtain ⟨_, _, _, _, _, _, _, rfl, _⟩ := h; rfl)
  · skip
    refine ⟨_, (pss_cons (ps_set (i := 2) sc_Numbering___init__.nd rfl (Or.inl rfl) (pe_callB cr_len rfl (n_len c) (by decide +kernel) (pa_cons (pv 1) pa_nil)))
  (pss_cons (ps_if (PW.pt (pw_or (pt_not (pt_chain op_le op_le pe_int (pv 2) (ClX.pe_cval (pe_glob (v := .ref (He.ga K "Numbering")) rfl (g_Numbering c) rfl)))) (pw_or1 (pt_cmpR (op_neD hr.units) (pe_callB cr_sortedA rfl (n_sorted c) (by decide +kernel) (pa_cons (pv 1) pa_nil)) (pe_listRg rfl rfl (n_list c) (prg_1 rfl (n_range c) (pv 2))) (nomark _)))))
    (pss_one (L2N.ps_raise rfl tk (L2N.pmk_own PySem.F.excBase_ValueError (x_BadNumbering c).1 (g_BadNumbering c) (x_BadNumbering c).2.1 (raises_own (x_BadNumbering c).2.2.1 (x_BadNumbering c).2.2.2) rfl)))
    pss_nil)
  (pss_one (ps_fld (pv 0) (pe_callTy cr_tuple rfl (n_tuple c) (by decide +kernel) (pa_cons (pv 1) pa_nil)) rfl)))), ?_⟩
    clear tk pown hr
    have h_cr_Numbering := cr_Numbering c
    have h_cv_Numbering_MOST := cv_Numbering_MOST c
    have h_nc : NumC K := ⟨cl_Numbering c, na_Numbering_places c⟩
    obtain ⟨x, dx, p, ns, rfl, hx, hp, Qk⟩ := h
    dsimp only [L2.start, N_Numbering___init__, cxOf, Cx.tr, Cx.suite, List.map, List.length, Nat.reduceAdd, Nat.reduceSub, List.replicate, List.cons_append, List.nil_append, List.append_nil]
    have cr := cr_Numbering c
    have cv := cv_Numbering_MOST c
    have nc : NumC K := ⟨cl_Numbering c, na_Numbering_places c⟩
    have bad : ∀ H', Gr [] H H' → ¬ IsNum ns → E (.ref (He.ga K "BadNumbering")) none H' := fun H' g n => by
      rcases Qk with ⟨_, q⟩ | ⟨q, _⟩
      · exact q H' g
      · exact absurd q n
    have hp2 : SqL K H p (ns.map V.int) ∨ SqT K H p (ns.map V.int) := hp.imp id (·.sqt)
    walk_at "w"
    rw [List.length_map]
    refine w_iteP (fun e1 => ?_) (fun e1 => ?_)
    · walk_at "w"
      refine w_iteNP (fun e2 => ?_) (fun e2 => ?_)
      · walk_at "w"
        exact bad _ (Gr.refl _) fun z => e2 (by have := z.2.1; omega)
      · walk_at "w"
        refine w_sorted hp2 (by omega) fun ns' q H1 n1 g1 h1 hp1 hp3 => ?_
        walk_at "w"
        refine w_kLstRg (by omega) fun q2 H2 n2 g2 h2 => ?_
        refine w_neD (d := .lst (dInts ns')) (e := .lst (dInts (rg ns.length))) 1 (by walk_at "rep") (by walk_at "rep") (dep_ints _ 0) (dep_ints _ 0) (by decide) (fun e => ?_) (fun e => ?_)
        · have e3 : ns' = rg ns.length := dInts_inj (D.lst.inj e)
          have hn : IsNum ns := ⟨by omega, by omega, (sorted_iff hp1 hp3).mp e3⟩
          have Qk : ∀ t H', Gr [x] H H' → H' x = some (.ins (NC K) dx [("places", .ref t)]) → TupX H' t (ns.map V.int) → Q .non H' := by
            rcases Qk with ⟨q, _⟩ | ⟨_, q⟩
            · exact absurd hn q
            · exact q
          walk_at "w"
          rcases hp with hp | hp
          · refine w_tupOfL (by walk_at "sql") fun t H3 n3 g3 h3 => ?_
            walk_at "w"
            refine w_rPut (by walk_at "at") nc.cls nc.na (by decide) rfl fun H4 g4 h4 => ?_
            exact Qk t H4 (by walk_at "gr") h4 (by walk_at "tx")
          · refine w_tupOfT (by walk_at "sqt") ?_
            walk_at "w"
            refine w_rPut (by walk_at "at") nc.cls nc.na (by decide) rfl fun H4 g4 h4 => ?_
            exact Qk p H4 (by walk_at "gr") h4 (by walk_at "tx")
        · walk_at "w"
          exact bad _ (by walk_at "gr") fun z => e (congrArg (fun l => D.lst (dInts l)) ((sorted_iff hp1 hp3).mpr z.2.2))
    · walk_at "w"
      exact bad _ (Gr.refl _) fun z => e1 (by have := z.1; omega)
theorem mkp_Numbering (c : Ctx K mg) : MkP K (He.ga K "Numbering") (sp_Numbering___init__ K) (pf_Numbering K) := mkp_num
end
section
variable {P : Program} [PG P] {w : World} {K : PySem.W.Frag} {mg : Str → Option Value} {base : Heap}
theorem ok_Desk_leave (c : Ctx K mg) : FnOk P w K mg base (L2N.CX P w) 1 (A_Desk_leave K) (fdA K (A_Desk_leave K)) ["self"] (spM .A K (WS P w K W0) (pf_Desk_leave P w K)) := by
  refine okQ (F_Desk_leave c) sc_Desk_leave (fun ω ds Q E h => ?_) (fun cdv A outer s0 H E hr tk pown => (qss_cons (qs_if (qb_not (qb_val (qe_fldS (K := K) (P := P) (w := w) rfl (qe_va (pv 0)) (cl_Desk c) (na_Desk_is_inside c))))
    (qss_one (qs_raise (L2N.ps_raise rfl tk (L2N.pmk_own PySem.F.excBase_ValueError (x_NotInside c).1 (g_NotInside c) (x_NotInside c).2.1 (raises_own (x_NotInside c).2.2.1 (x_NotInside c).2.2.2) rfl))))
    qss_nil)
  (qss_one (qs_fstS (K := K) (P := P) (w := w) rfl (cl_Desk c) (na_Desk_is_inside c) qe_bl (qe_va (pv 0)))))) (fun ω ds Q E h => ?_)
  · obtain ⟨_, _, _, _, rfl, _⟩ := h; rfl
  · skip
    obtain ⟨X, i, d, p, rfl, hs, hi, Qk⟩ := h
    obtain ⟨u0, st⟩ := ω
    dsimp only at hs Qk
    have s1 := hs.sh
    have s2 := hs.sl
    have s3 := hs.sd
    have s4 := hs.nd hi
    obtain ⟨hn, hnl⟩ := hs.num i p hi.2
    have n12 := hs.n12
    walk_at "v"
    cases hb : p.2 with
    | false =>
      rw [if_pos (show (!false) = true from rfl)]
      walk_at "v"
      rcases Qk with ⟨_, q⟩ | ⟨z, _⟩
      · exact q
      · rw [hb] at z; cases z
    | true =>
      rw [if_neg (by decide)]
      walk_at "v"
      refine v_kFstS s4 rfl (by show imm ["hall", "number", "numbering", "is_inside"] = false; decide) (by show 4 < 1000; decide) ?_
      rcases Qk with ⟨z, _⟩ | ⟨_, q⟩
      · rw [hb] at z; cases z
      · exact q
end
section
variable {P : Program} [PG P] {w : World} {K : PySem.W.Frag} {mg : Str → Option Value} {base : Heap}
theorem ok_Hall_capacity (c : Ctx K mg) : FnOk P w K mg base (L2N.CX P w) 1 (A_Hall_capacity K) (fdA K (A_Hall_capacity K)) ["self"] (spM .A K (WS P w K W0) (pf_Hall_capacity P w K)) := by
  refine okQ (F_Hall_capacity c) sc_Hall_capacity (fun ω ds Q E h => ?_) (fun cdv A outer s0 H E hr tk pown => (qss_one (qs_ret (qe_fldS (K := K) (P := P) (w := w) rfl (qe_va (pv 0)) (cl_Hall c) (na_Hall__capacity c))))) (fun ω ds Q E h => ?_)
  · obtain ⟨_, rfl, _⟩ := h; rfl
  · skip
    obtain ⟨X, rfl, hs, Qk⟩ := h
    obtain ⟨u0, st⟩ := ω
    dsimp only at hs Qk
    have s1 := hs.sh
    have s2 := hs.sl
    have s3 := hs.sd
    walk_at "v"
    exact Qk
end
section
variable {P : Program} [PG P] {w : World} {K : PySem.W.Frag} {mg : Str → Option Value} {base : Heap}
theorem ok_Desk_share (c : Ctx K mg) : FnOk P w K mg base (L2N.CX P w) 1 (A_Desk_share K) (fdA K (A_Desk_share K)) ["self"] (spM .A K (WS P w K W0) (pf_Desk_share P w K)) := by
  refine okQ (F_Desk_share c) sc_Desk_share (fun ω ds Q E h => ?_) (fun cdv A outer s0 H E hr tk pown => (qss_one (qs_ret (qe_bmLS (K := K) (P := P) (w := w) rfl PySem.F.slot_list_count PySem.F.type_list_count mt_lcount lcountP (qe_fldS (K := K) (P := P) (w := w) rfl (qe_fldS (K := K) (P := P) (w := w) rfl (qe_va (pv 0)) (cl_Desk c) (na_Desk_hall c)) (cl_Hall c) (na_Hall_held c)) (qa_cons (qe_fldS (K := K) (P := P) (w := w) rfl (qe_va (pv 0)) (cl_Desk c) (na_Desk_number c)) qa_nil))))) (fun ω ds Q E h => ?_)
  · obtain ⟨_, _, _, _, rfl, _⟩ := h; rfl
  · skip
    obtain ⟨X, i, d, p, rfl, hs, hi, Qk⟩ := h
    obtain ⟨u0, st⟩ := ω
    dsimp only at hs Qk
    have s1 := hs.sh
    have s2 := hs.sl
    have s3 := hs.sd
    have s4 := hs.nd hi
    obtain ⟨hn, hnl⟩ := hs.num i p hi.2
    have n12 := hs.n12
    walk_at "v"
    exact Qk
end
section
variable {P : Program} [PG P] {w : World} {K : PySem.W.Frag} {mg : Str → Option Value} {base : Heap}
theorem ok_Desk_enough (c : Ctx K mg) : FnOk P w K mg base (L2N.CX P w) 3 (A_Desk_enough K) (fdA K (A_Desk_enough K)) ["self"] (spM .A K (WS P w K W0) (pf_Desk_enough P w K)) := by
  refine okQ (F_Desk_enough c) sc_Desk_enough (fun ω ds Q E h => ?_) (fun cdv A outer s0 H E hr tk pown => (qss_one (qs_ret (qe_cmp op_gt opI0_bl (qe_op op_mul opI_int (qe_op op_add opI0_int (qe_propS (K := K) (P := P) (w := w) rfl (qe_fldS (K := K) (P := P) (w := w) rfl (qe_va (pv 0)) (cl_Desk c) (na_Desk_hall c)) (cl_Hall c) (prp_Hall_capacity c) (ok_Hall_capacity (P := P) c) (hr.mono (by decide)) (b_Hall_capacity c)) qe_int) (qe_propS (K := K) (P := P) (w := w) rfl (qe_va (pv 0)) (cl_Desk c) (prp_Desk_share c) (ok_Desk_share (P := P) c) (hr.mono (by decide)) (b_Desk_share c))) (qe_cBS (K := K) (P := P) (w := w) rfl cr_len lenP rfl (n_len c) (by decide +kernel) (qa_cons (qe_fldS (K := K) (P := P) (w := w) rfl (qe_fldS (K := K) (P := P) (w := w) rfl (qe_va (pv 0)) (cl_Desk c) (na_Desk_hall c)) (cl_Hall c) (na_Hall_held c)) qa_nil)) (nomark _))))) (fun ω ds Q E h => ?_)
  · obtain ⟨_, _, _, _, rfl, _⟩ := h; rfl
  · skip
    obtain ⟨X, i, d, p, rfl, hs, hi, Qk⟩ := h
    obtain ⟨u0, st⟩ := ω
    dsimp only at hs Qk
    have s1 := hs.sh
    have s2 := hs.sl
    have s3 := hs.sd
    have s4 := hs.nd hi
    obtain ⟨hn, hnl⟩ := hs.num i p hi.2
    have n12 := hs.n12
    have c1 := hs.c1
    have c6 := hs.c6
    have hsh : shr X i ≤ 12 := by
      have := List.count_le_length (a := (i : Int) + 1) (l := X.held)
      show ((X.held.count ((i : Int) + 1) : Nat) : Int) ≤ 12
      omega
    have hsh0 : 0 ≤ shr X i := Int.natCast_nonneg _
    walk_at "v"
    refine ⟨X, rfl, hs, ?_⟩
    walk_at "v"
    refine ⟨X, i, d, p, rfl, hs, hi, ?_⟩
    walk_at "v"
    rw [length_dInts]
    exact Qk
end
section
variable {P : Program} [PG P] {w : World} {K : PySem.W.Frag} {mg : Str → Option Value} {base : Heap}
theorem ok_Hall_occupants (c : Ctx K mg) : FnOk P w K mg base (L2N.CX P w) 1 (A_Hall_occupants K) (fdA K (A_Hall_occupants K)) ["self"] (spM .A K (WS P w K W0) (pf_Hall_occupants P w K)) := by
  refine okQ (F_Hall_occupants c) sc_Hall_occupants (fun ω ds Q E h => ?_) (fun cdv A outer s0 H E hr tk pown => (qss_one (qs_ret (qe_cT cr_tuple tupleP rfl (n_tuple c) (by decide +kernel) (qa_cons (qe_lcP (own := [("desk", 1)]) rfl sc_Hall_occupants.nd (qip_sto rfl (qe_fldS (K := K) (P := P) (w := w) rfl (qe_va (pv 0)) (cl_Hall c) (na_Hall_desks c))) (blkOk_by (N := N_Hall_occupants) (sc := defScope s_Hall_occupants) (by decide +kernel)) (fun _ _ _ _ _ => (qg_name (i := 1) sc_Hall_occupants.nd rfl (Or.inl rfl))) (fun _ _ _ _ _ => (qts_one (qb_val (qe_fldS (K := K) (P := P) (w := w) rfl (qe_va (pv 1)) (cl_Desk c) (na_Desk_is_inside c))))) (fun _ _ _ _ _ => (qe_fldS (K := K) (P := P) (w := w) rfl (qe_va (pv 1)) (cl_Desk c) (na_Desk_number c)))) qa_nil))))) (fun ω ds Q E h => ?_)
  · obtain ⟨_, rfl, _⟩ := h; rfl
  · skip
    obtain ⟨X, rfl, hs, Qk⟩ := h
    obtain ⟨u0, st⟩ := ω
    dsimp only at hs Qk
    have s1 := hs.sh
    have s2 := hs.sl
    have s3 := hs.sd
    have six := hs.six
    have hld : (X.da.map D.adr).length = X.da.length := List.length_map _
    walk_at "v"
    refine v_kLcPN (fun j => (X.nu.getD j ([], false)).2) (fun j => .int ((j : Int) + 1)) (by rw [hld]; omega) rfl s3 (fun i d Qy Qn hd qy qn => ?_) ?_
    · rw [List.getElem?_map] at hd
      obtain ⟨a, ha, rfl⟩ := Option.map_eq_some_iff.mp hd
      obtain ⟨a', p, hi⟩ := hs.at_ (List.getElem?_eq_some_iff.mp ha).1
      obtain rfl : a' = a := Option.some.inj (hi.1.symm.trans ha)
      have s4 := hs.nd hi
      have ep : X.nu.getD i ([], false) = p := by rw [List.getD_eq_getElem?_getD, hi.2] <;> rfl
      walk_at "v"
      refine ⟨rfl, ?_⟩
      walk_at "v"
      cases hb : p.2 with
      | true =>
        rw [if_pos rfl]
        walk_at "v"
        exact qy (by rw [ep]; exact hb)
      | false =>
        rw [if_neg (by decide)]
        exact qn (by rw [ep]; exact hb)
    rw [hld]
    walk_at "v"
    have e : ((List.range X.da.length).filter fun j => (X.nu.getD j ([], false)).2).map (fun j : Nat => D.int ((j : Int) + 1)) = dInts (occ X) := by
      unfold occ dInts
      rw [List.map_map] <;> rfl
    rw [e]
    exact Qk
end
section
variable {P : Program} [PG P] {w : World} {K : PySem.W.Frag} {mg : Str → Option Value} {base : Heap}
theorem ok_Desk_enter (c : Ctx K mg) : FnOk P w K mg base (L2N.CX P w) 5 (A_Desk_enter K) (fdA K (A_Desk_enter K)) ["self"] (spM .A K (WS P w K W0) (pf_Desk_enter P w K)) := by
  refine okQ (F_Desk_enter c) sc_Desk_enter (fun ω ds Q E h => ?_) (fun cdv A outer s0 H E hr tk pown => (qss_cons (qs_if (qb_val (qe_fldS (K := K) (P := P) (w := w) rfl (qe_va (pv 0)) (cl_Desk c) (na_Desk_is_inside c)))
    (qss_one (qs_raise (L2N.ps_raise rfl tk (L2N.pmk_own PySem.F.excBase_ValueError (x_AlreadyInside c).1 (g_AlreadyInside c) (x_AlreadyInside c).2.1 (raises_own (x_AlreadyInside c).2.2.1 (x_AlreadyInside c).2.2.2) rfl))))
    qss_nil)
  (qss_cons (qs_if (qb_not (qb_val (qe_propS (K := K) (P := P) (w := w) rfl (qe_va (pv 0)) (cl_Desk c) (prp_Desk_enough c) (ok_Desk_enough (P := P) c) (hr.mono (by decide)) (b_Desk_enough c))))
    (qss_one (qs_raise (L2N.ps_raise rfl tk (L2N.pmk_own PySem.F.excBase_ValueError (x_NotEnough c).1 (g_NotEnough c) (x_NotEnough c).2.1 (raises_own (x_NotEnough c).2.2.1 (x_NotEnough c).2.2.2) rfl))))
    qss_nil)
  (qss_cons (qs_if (qb_cmp op_ge opI0_bl (qe_cB cr_len lenP rfl (n_len c) (by decide +kernel) (qa_cons (qe_propS (K := K) (P := P) (w := w) rfl (qe_fldS (K := K) (P := P) (w := w) rfl (qe_va (pv 0)) (cl_Desk c) (na_Desk_hall c)) (cl_Hall c) (prp_Hall_occupants c) (ok_Hall_occupants (P := P) c) (hr.mono (by decide)) (b_Hall_occupants c)) qa_nil)) (qe_propS (K := K) (P := P) (w := w) rfl (qe_fldS (K := K) (P := P) (w := w) rfl (qe_va (pv 0)) (cl_Desk c) (na_Desk_hall c)) (cl_Hall c) (prp_Hall_capacity c) (ok_Hall_capacity (P := P) c) (hr.mono (by decide)) (b_Hall_capacity c)) (nomark _))
    (qss_one (qs_raise (L2N.ps_raise rfl tk (L2N.pmk_own PySem.F.excBase_ValueError (x_RoomFull c).1 (g_RoomFull c) (x_RoomFull c).2.1 (raises_own (x_RoomFull c).2.2.1 (x_RoomFull c).2.2.2) rfl))))
    qss_nil)
  (qss_one (qs_fstS (K := K) (P := P) (w := w) rfl (cl_Desk c) (na_Desk_is_inside c) qe_bl (qe_va (pv 0)))))))) (fun ω ds Q E h => ?_)
  · obtain ⟨_, _, _, _, rfl, _⟩ := h; rfl
  · skip
    obtain ⟨X, i, d, p, rfl, hs, hi, Qk⟩ := h
    obtain ⟨u0, st⟩ := ω
    dsimp only at hs Qk
    have s1 := hs.sh
    have s2 := hs.sl
    have s3 := hs.sd
    have s4 := hs.nd hi
    obtain ⟨hn, hnl⟩ := hs.num i p hi.2
    have n12 := hs.n12
    have six := hs.six
    walk_at "v"
    cases hb : p.2 with
    | true =>
      rw [if_pos rfl]
      walk_at "v"
      rcases Qk with ⟨_, q⟩ | ⟨z, _⟩ | ⟨z, _⟩ | ⟨z, _⟩
      · exact q
      · rw [hb] at z; cases z
      · rw [hb] at z; cases z
      · rw [hb] at z; cases z
    | false =>
      rw [if_neg (by decide)]
      walk_at "v"
      refine ⟨X, i, d, p, rfl, hs, hi, ?_⟩
      walk_at "v"
      cases he : enoB X i with
      | false =>
        rw [if_pos (show (!false) = true from rfl)]
        walk_at "v"
        rcases Qk with ⟨z, _⟩ | ⟨_, _, q⟩ | ⟨_, z, _⟩ | ⟨_, z, _⟩
        · rw [hb] at z; cases z
        · exact q
        · rw [he] at z; cases z
        · rw [he] at z; cases z
      | true =>
        rw [if_neg (by decide)]
        walk_at "v"
        refine ⟨X, rfl, hs, ?_⟩
        walk_at "v"
        refine ⟨X, rfl, hs, ?_⟩
        walk_at "v"
        rw [length_dInts]
        refine w_iteP (fun e1 => ?_) (fun e1 => ?_)
        · walk_at "v"
          rcases Qk with ⟨z, _⟩ | ⟨_, z, _⟩ | ⟨_, _, _, q⟩ | ⟨_, _, z, _⟩
          · rw [hb] at z; cases z
          · rw [he] at z; cases z
          · exact q
          · omega
        · walk_at "v"
          refine v_kFstS s4 rfl (by show imm ["hall", "number", "numbering", "is_inside"] = false; decide) (by show 4 < 1000; decide) ?_
          rcases Qk with ⟨z, _⟩ | ⟨_, z, _⟩ | ⟨_, _, z, _⟩ | ⟨_, _, _, q⟩
          · rw [hb] at z; cases z
          · rw [he] at z; cases z
          · omega
          · exact q
end
section
variable {P : Program} [PG P] {w : World} {K : PySem.W.Frag} {mg : Str → Option Value} {base : Heap}
theorem ok_Hall_capacity__set (c : Ctx K mg) : FnOk P w K mg base (L2N.CX P w) 3 (A_Hall_capacity__set K) (fdA K (A_Hall_capacity__set K)) ["self", "capacity"] (spM .A K (WS P w K W0) (pf_Hall_capacity__set P w K)) := by
  refine okQ (F_Hall_capacity__set c) sc_Hall_capacity__set (fun ω ds Q E h => ?_) (fun cdv A outer s0 H E hr tk pown => (qss_cons (qs_if (qb_not (qb_chain op_le op_le opI0_bl opI0_bl qe_int (qe_va (pv 1)) qe_int))
    (qss_one (qs_raise (L2N.ps_raise rfl tk (L2N.pmk_own PySem.F.excBase_ValueError (x_BadSize c).1 (g_BadSize c) (x_BadSize c).2.1 (raises_own (x_BadSize c).2.2.1 (x_BadSize c).2.2.2) rfl))))
    qss_nil)
  (qss_cons (qs_if (qb_cmp op_lt opI0_bl (qe_va (pv 1)) (qe_cB cr_len lenP rfl (n_len c) (by decide +kernel) (qa_cons (qe_propS (K := K) (P := P) (w := w) rfl (qe_va (pv 0)) (cl_Hall c) (prp_Hall_occupants c) (ok_Hall_occupants (P := P) c) (hr.mono (by decide)) (b_Hall_occupants c)) qa_nil)) (nomark _))
    (qss_one (qs_raise (L2N.ps_raise rfl tk (L2N.pmk_own PySem.F.excBase_ValueError (x_RoomFull c).1 (g_RoomFull c) (x_RoomFull c).2.1 (raises_own (x_RoomFull c).2.2.1 (x_RoomFull c).2.2.2) rfl))))
    qss_nil)
  (qss_one (qs_fstS (K := K) (P := P) (w := w) rfl (cl_Hall c) (na_Hall__capacity c) (qe_va (pv 1)) (qe_va (pv 0))))))) (fun ω ds Q E h => ?_)
  · obtain ⟨_, _, rfl, _⟩ := h; rfl
  · skip
    obtain ⟨X, cp, rfl, hs, Qk⟩ := h
    obtain ⟨u0, st⟩ := ω
    dsimp only at hs Qk
    have s1 := hs.sh
    have bad : ¬ (1 ≤ cp ∧ cp ≤ 6) → E (u0, st) ⟨He.ga K "BadSize", none⟩ := fun z => by
      rcases Qk with ⟨h1, h2, _⟩ | ⟨h1, h2, _⟩ | ⟨_, q⟩
      · exact absurd ⟨h1, h2⟩ z
      · exact absurd ⟨h1, h2⟩ z
      · exact q
    walk_at "v"
    refine w_iteP (fun e1 => ?_) (fun e1 => ?_)
    · walk_at "v"
      refine w_iteNP (fun e2 => ?_) (fun e2 => ?_)
      · walk_at "v"
        exact bad (by omega)
      walk_at "v"
      refine ⟨X, rfl, hs, ?_⟩
      walk_at "v"
      rw [length_dInts]
      refine w_iteP (fun e3 => ?_) (fun e3 => ?_)
      · walk_at "v"
        rcases Qk with ⟨_, _, h, _⟩ | ⟨_, _, _, q⟩ | ⟨z, _⟩
        · omega
        · exact q
        · omega
      walk_at "v"
      refine v_kFstS s1 rfl (by show imm ["held", "desks", "_capacity"] = false; decide) (by show 3 < 1000; decide) ?_
      rcases Qk with ⟨_, _, _, q⟩ | ⟨_, _, h, _⟩ | ⟨z, _⟩
      · exact q
      · omega
      · omega
    · walk_at "v"
      exact bad (by omega)
end
section
variable {P : Program} [PG P] {w : World} {K : PySem.W.Frag} {mg : Str → Option Value} {base : Heap}
theorem ok_Hall_change_capacity (c : Ctx K mg) : FnOk P w K mg base (L2N.CX P w) 6 (A_Hall_change_capacity K) (fdA K (A_Hall_change_capacity K)) ["self", "capacity"] (spM .A K (WS P w K W0) (pf_Hall_capacity__set P w K)) := by
  refine okQ (F_Hall_change_capacity c) sc_Hall_change_capacity (fun ω ds Q E h => ?_) (fun cdv A outer s0 H E hr tk pown => (qss_one (qs_psetS (K := K) (P := P) (w := w) rfl (cl_Hall c) (prs_Hall_capacity__set c) (rawF (ok_Hall_capacity__set (P := P) c) (b_Hall_capacity__set c)) (hr.mono (by decide)) (fun σ => L2N.passAt tk σ) (qe_va (pv 1)) (qe_va (pv 0))))) (fun ω ds Q E h => ?_)
  · obtain ⟨_, _, rfl, _⟩ := h; rfl
  · skip
    obtain ⟨X, c, rfl, hs, Qk⟩ := h
    obtain ⟨u0, st⟩ := ω
    dsimp only at hs Qk
    have s1 := hs.sh
    walk_at "v"
    exact ⟨X, c, rfl, hs, Qk⟩
end
section
variable {P : Program} [PG P] {w : World} {K : PySem.W.Frag} {mg : Str → Option Value} {base : Heap}
theorem ok_NoCell___init__ (c : Ctx K mg) : FnOk P w K mg base (L2N.CX P w) 1 (A_NoCell___init__ K) (fdA K (A_NoCell___init__ K)) ["self", "cell"] (spXI (He.ga K "NoCell") "cell") := by
  obtain ⟨cda, cc, F⟩ := F_NoCell___init__ c
  exact xinit_ok F sc_NoCell___init__ (n_super c) rfl rfl (spx_NoCell c).sx (spx_NoCell c).no fun A outer s H E a SE => pssA_supI SE (spx_NoCell c).sx rfl (pa_cons pe_str pa_nil) (pss_one (ps_ost (pv 0) (pv 1)))
end
section
variable {P : Program} [PG P] {w : World} {K : PySem.W.Frag} {mg : Str → Option Value} {base : Heap}
theorem ok_Desk__place (c : Ctx K mg) : FnOk P w K mg base (L2N.CX P w) 3 (A_Desk__place K) (fdA K (A_Desk__place K)) ["self", "k"] (spM .A K (WS P w K W0) (pf_Desk__place P w K)) := by
  refine okQ (F_Desk__place c) sc_Desk__place (fun ω ds Q E h => ?_) (fun cdv A outer s0 H E hr tk pown => (qss_cons (qs_set (i := 2) sc_Desk__place.nd rfl (Or.inl rfl) (qe_fld (qe_fldS (K := K) (P := P) (w := w) rfl (qe_va (pv 0)) (cl_Desk c) (na_Desk_numbering c)) (cl_Numbering c) (na_Numbering_places c)))
  (qss_cons (qs_if (qb_not (qb_chain op_le op_lt opI0_bl opI0_bl qe_int (qe_va (pv 1)) (qe_cB cr_len lenP rfl (n_len c) (by decide +kernel) (qa_cons (qe_va (pv 2)) qa_nil))))
    (qss_one (qs_raiseX rfl tk (spx_NoCell c).sx.oex (spx_NoCell c).iC (spx_NoCell c).tI (ok_NoCell___init__ (P := P) c) (hr.mono (by decide)) (b_NoCell___init__ c) rfl (g_NoCell c) (qe_va (pv 1))))
    qss_nil)
  (qss_one (qs_ret (qe_ix ix_tup ixTP (qe_va (pv 2)) (qe_va (pv 1)) (fun _ _ => rfl))))))) (fun ω ds Q E h => ?_)
  · obtain ⟨_, _, _, _, _, rfl, _⟩ := h; rfl
  · skip
    obtain ⟨X, i, d, p, k, rfl, hs, hi, Qk⟩ := h
    obtain ⟨u0, st⟩ := ω
    dsimp only at hs Qk
    have s1 := hs.sh
    have s2 := hs.sl
    have s3 := hs.sd
    have s4 := hs.nd hi
    obtain ⟨hn, hnl⟩ := hs.num i p hi.2
    have n12 := hs.n12
    have bad : ¬ (0 ≤ k ∧ k < X.held.length) → E (u0, st) ⟨He.ga K "NoCell", some ("cell", .int k)⟩ := fun z => by
      rcases Qk with ⟨h1, h2, _⟩ | ⟨_, q⟩
      · exact absurd ⟨h1, h2⟩ z
      · exact q
    walk_at "v"
    refine w_iteP (fun e1 => ?_) (fun e1 => ?_)
    · walk_at "v"
      rw [length_dInts, hnl]
      refine w_iteNP (fun e2 => ?_) (fun e2 => ?_)
      · walk_at "v"
        exact bad (by omega)
      walk_at "v"
      refine v_ixT (atI_ints (by omega) (by omega)) ?_
      walk_at "v"
      exact (Qk.resolve_right fun z => z.1 (by omega)).2.2
    · walk_at "v"
      exact bad (by omega)
end
section
variable {P : Program} [PG P] {w : World} {K : PySem.W.Frag} {mg : Str → Option Value} {base : Heap}
theorem ok_Held___init__ (c : Ctx K mg) : FnOk P w K mg base (L2N.CX P w) 1 (A_Held___init__ K) (fdA K (A_Held___init__ K)) ["self", "holder"] (spXI (He.ga K "Held") "holder") := by
  obtain ⟨cda, cc, F⟩ := F_Held___init__ c
  exact xinit_ok F sc_Held___init__ (n_super c) rfl rfl (spx_Held c).sx (spx_Held c).no fun A outer s H E a SE => pssA_supI SE (spx_Held c).sx rfl (pa_cons pe_str pa_nil) (pss_one (ps_ost (pv 0) (pv 1)))
end
theorem set_dIntsH {ns : List Int} {i : Nat} {x : Int} : (dInts ns).set i (.int x) = dInts (ns.set i x) := by unfold dInts; rw [List.map_set]
section
variable {P : Program} [PG P] {w : World} {K : PySem.W.Frag} {mg : Str → Option Value} {base : Heap}
theorem ok_Desk___setitem__ (c : Ctx K mg) : FnOk P w K mg base (L2N.CX P w) 4 (A_Desk___setitem__ K) (fdA K (A_Desk___setitem__ K)) ["self", "at", "worth"] (spM .A K (WS P w K W0) (pf_Desk___setitem__ P w K)) := by
  refine okQ (F_Desk___setitem__ c) sc_Desk___setitem__ (fun ω ds Q E h => ?_) (fun cdv A outer s0 H E hr tk pown => (qss_cons (qs_set (i := 3) sc_Desk___setitem__.nd rfl (Or.inl rfl) (qe_methS (K := K) (P := P) (w := w) rfl (qe_va (pv 0)) (cl_Desk c) (me_Desk__place c) (rawF (ok_Desk__place (P := P) c) (b_Desk__place c)) (hr.mono (by decide)) (fun σ => L2N.passAt tk σ) (qa_cons (qe_va (pv 1)) qa_nil)))
  (qss_cons (qs_set (i := 4) sc_Desk___setitem__.nd rfl (Or.inl rfl) (qe_ixS (K := K) (P := P) (w := w) rfl ix_list ixLP (qe_fldS (K := K) (P := P) (w := w) rfl (qe_fldS (K := K) (P := P) (w := w) rfl (qe_va (pv 0)) (cl_Desk c) (na_Desk_hall c)) (cl_Hall c) (na_Hall_held c)) (qe_va (pv 3)) (fun _ _ => rfl)))
  (qss_cons (qs_if (qb_cmp op_notIn_seq opInP (qe_va (pv 4)) (qe_tup (qa_cons qe_int (qa_cons (qe_fldS (K := K) (P := P) (w := w) rfl (qe_va (pv 0)) (cl_Desk c) (na_Desk_number c)) qa_nil))) (by rfl))
    (qss_one (qs_raiseX rfl tk (spx_Held c).sx.oex (spx_Held c).iC (spx_Held c).tI (ok_Held___init__ (P := P) c) (hr.mono (by decide)) (b_Held___init__ c) rfl (g_Held c) (qe_va (pv 4))))
    qss_nil)
  (qss_one (qs_putS (K := K) (P := P) (w := w) rfl (qe_ifE (m := .A) (qb_val (qe_va (pv 2))) (qe_fldS (K := K) (P := P) (w := w) rfl (qe_va (pv 0)) (cl_Desk c) (na_Desk_number c)) qe_int) (qe_fldS (K := K) (P := P) (w := w) rfl (qe_fldS (K := K) (P := P) (w := w) rfl (qe_va (pv 0)) (cl_Desk c) (na_Desk_hall c)) (cl_Hall c) (na_Hall_held c)) (qe_va (pv 3)))))))) (fun ω ds Q E h => ?_)
  · obtain ⟨_, _, _, _, _, _, rfl, _⟩ := h; rfl
  · skip
    obtain ⟨X, i, d, p, k, b, rfl, hs, hi, Qk⟩ := h
    obtain ⟨u0, st⟩ := ω
    dsimp only at hs Qk
    have s1 := hs.sh
    have s2 := hs.sl
    have s3 := hs.sd
    have s4 := hs.nd hi
    obtain ⟨hn, hnl⟩ := hs.num i p hi.2
    have n12 := hs.n12
    walk_at "v"
    refine ⟨X, i, d, p, k, rfl, hs, hi, ?_⟩
    rcases Qk with ⟨h1, h2, h3, q⟩ | ⟨h1, h2, h3, q⟩ | ⟨h1, q⟩
    · refine .inl ⟨h1, h2, ?_⟩
      have hp := atP_lt hn h1 (by omega)
      have hc : atI (dInts X.held) (plc p k) = some (.int (cel X p k)) := atI_ints hp.1 (by show atP p.1 k < _; omega)
      walk_at "v"
      refine v_ixL hc ?_
      walk_at "v"
      refine v_ninTI (ns := [0, (i : Int) + 1]) ?_
      walk_at "v"
      refine w_iteNT (by rcases h3 with z | z <;> rw [z] <;> simp) ?_
      walk_at "v"
      have hj : ixN (dInts X.held).length (plc p k) = some (plc p k).toNat := ixN_nat hp.1 (by rw [length_dInts]; show atP p.1 k < _; omega)
      cases b with
      | true =>
        rw [if_pos rfl]
        walk_at "v"
        refine v_kPutS s2 hj rfl ?_
        rw [set_dIntsH]
        exact q
      | false =>
        rw [if_neg (by decide)]
        walk_at "v"
        refine v_kPutS s2 hj rfl ?_
        rw [set_dIntsH]
        exact q
    · refine .inl ⟨h1, h2, ?_⟩
      have hp := atP_lt hn h1 (by omega)
      have hc : atI (dInts X.held) (plc p k) = some (.int (cel X p k)) := atI_ints hp.1 (by show atP p.1 k < _; omega)
      walk_at "v"
      refine v_ixL hc ?_
      walk_at "v"
      refine v_ninTI (ns := [0, (i : Int) + 1]) ?_
      walk_at "v"
      refine w_iteNF (fun z => h3 (by simpa using z)) ?_
      walk_at "v"
      exact q
    · exact .inr ⟨h1, q⟩
end
def pf__law_text (K : PySem.W.Frag) : PSp (WT K) := fun ω ds Q _ => ∃ (t : Addr) (b : Nat), ω = TS.tape t b ∧ ds = [.adr t] ∧ b < 10000000 ∧ ∀ (b' : Nat) (x : Str), b' ≤ b + 20 → x.length ≤ 110 → Q (TS.tape t b') (.str x)
theorem v_text {K : PySem.W.Frag} {t : Addr} {b : Nat} {Q : TS → D → Prop} {E : TS → Exn → Prop} (hb : b < 10000000) (h : ∀ (b' : Nat) (x : Str), b' ≤ b + 20 → x.length ≤ 110 → Q (TS.tape t b') (.str x)) : pf__law_text K (TS.tape t b) [.adr t] Q E := ⟨t, b, rfl, rfl, hb, h⟩
def wordsT : List Str := ["take", "give", "see", "look", "", "Take", "take*", "takes", "see ", " give", "on", "on*", "rest", "room", "leave", "enter", "read", "GIVE"]
theorem wordsT_at {r : Int} (h0 : 0 ≤ r) (h1 : r < 18) : ∃ x : Str, atI (dStrs wordsT) r = some (.str x) ∧ x.length ≤ 100 := by
  have hl : wordsT.length = 18 := rfl
  obtain ⟨x0, hx0⟩ : ∃ x0, wordsT[r.toNat]? = some x0 := ⟨_, List.getElem?_eq_getElem (by omega)⟩
  have hall : ∀ w ∈ wordsT, w.length ≤ 100 := by decide +kernel
  exact ⟨x0, atI_of h0 (by unfold dStrs; rw [List.getElem?_map, hx0] <;> rfl), hall x0 (List.mem_of_getElem? hx0)⟩
section
variable {P : Program} [PG P] {w : World} {K : PySem.W.Frag} {mg : Str → Option Value} {base : Heap}
theorem ok__law_text (c : Ctx K mg) : FnOk P w K mg base (L2N.CX P w) 2 (A__law_text K) (fdA K (A__law_text K)) ["_law_tape"] (spM .A K (WT K) (pf__law_text K)) := by
  refine okQ (F__law_text c) sc__law_text (fun ω ds Q E h => ?_) (fun cdv A outer s0 H E hr tk pown => (qss_cons (qs_set (i := 1) sc__law_text.nd rfl (Or.inl rfl) qe_str)
  (qss_cons (qs_set (i := 2) sc__law_text.nd rfl (Or.inl rfl) (qe_lst (qa_cons qe_str (qa_cons qe_str (qa_cons qe_str (qa_cons qe_str (qa_cons qe_str (qa_cons qe_str (qa_cons qe_str (qa_cons qe_str (qa_cons qe_str (qa_cons qe_str (qa_cons qe_str (qa_cons qe_str (qa_cons qe_str (qa_cons qe_str (qa_cons qe_str (qa_cons qe_str (qa_cons qe_str (qa_cons qe_str qa_nil))))))))))))))))))))
  (qss_cons (qs_set (i := 3) sc__law_text.nd rfl (Or.inl rfl) (qe_ix ix_list ixLP (qe_va (pv 2)) (qe_call (okp__law_draw (P := P) c) (hr.mono (by decide)) rfl (g__law_draw c) (F__law_draw c).kp (b__law_draw c) (fun σ => L2N.passAt tk σ) (qa_cons (qe_va (pv 0)) (qa_cons (qe_cB cr_len lenP rfl (n_len c) (by decide +kernel) (qa_cons (qe_va (pv 2)) qa_nil)) qa_nil))) (fun _ _ => rfl)))
  (qss_cons (qs_for pown rfl (qi_rg1 rfl (n_range c) (qe_call (okp__law_draw (P := P) c) (hr.mono (by decide)) rfl (g__law_draw c) (F__law_draw c).kp (b__law_draw c) (fun σ => L2N.passAt tk σ) (qa_cons (qe_va (pv 0)) (qa_cons qe_int qa_nil)))) (qg_name (i := 4) sc__law_text.nd rfl (Or.inl rfl))
    (qss_cons (qs_set (i := 5) sc__law_text.nd rfl (Or.inl rfl) (qe_call (okp__law_draw (P := P) c) (hr.mono (by decide)) rfl (g__law_draw c) (F__law_draw c).kp (b__law_draw c) (fun σ => L2N.passAt tk σ) (qa_cons (qe_va (pv 0)) (qa_cons (qe_op op_add opI0_int (qe_cB cr_lenS lenSP rfl (n_len c) (by decide +kernel) (qa_cons (qe_va (pv 3)) qa_nil)) qe_int) qa_nil))))
    (qss_cons (qs_set (i := 6) sc__law_text.nd rfl (Or.inl rfl) (qe_ix ix_str ixSP (qe_va (pv 1)) (qe_call (okp__law_draw (P := P) c) (hr.mono (by decide)) rfl (g__law_draw c) (F__law_draw c).kp (b__law_draw c) (fun σ => L2N.passAt tk σ) (qa_cons (qe_va (pv 0)) (qa_cons (qe_cB cr_lenS lenSP rfl (n_len c) (by decide +kernel) (qa_cons (qe_va (pv 1)) qa_nil)) qa_nil))) (fun _ _ => rfl)))
    (qss_one (qs_set (i := 3) sc__law_text.nd rfl (Or.inl rfl) (qe_ix ix_list ixLP (qe_lst (qa_cons (qe_op op_add_str opAddSP (qe_op op_add_str opAddSP (qe_sl C8.sl_txt slSP (qe_va (pv 3)) qo_none (qo_some (qe_va (pv 5)))) (qe_va (pv 6))) (qe_sl C8.sl_txt slSP (qe_va (pv 3)) (qo_some (qe_va (pv 5))) qo_none)) (qa_cons (qe_op op_add_str opAddSP (qe_op op_add_str opAddSP (qe_sl C8.sl_txt slSP (qe_va (pv 3)) qo_none (qo_some (qe_va (pv 5)))) (qe_va (pv 6))) (qe_sl C8.sl_txt slSP (qe_va (pv 3)) (qo_some (qe_op op_add opI0_int (qe_va (pv 5)) qe_int)) qo_none)) (qa_cons (qe_op op_add_str opAddSP (qe_sl C8.sl_txt slSP (qe_va (pv 3)) qo_none (qo_some (qe_va (pv 5)))) (qe_sl C8.sl_txt slSP (qe_va (pv 3)) (qo_some (qe_op op_add opI0_int (qe_va (pv 5)) qe_int)) qo_none)) qa_nil)))) (qe_call (okp__law_draw (P := P) c) (hr.mono (by decide)) rfl (g__law_draw c) (F__law_draw c).kp (b__law_draw c) (fun σ => L2N.passAt tk σ) (qa_cons (qe_va (pv 0)) (qa_cons qe_int qa_nil))) (fun _ _ => rfl)))))))
  (qss_one (qs_ret (qe_va (pv 3))))))))) (fun ω ds Q E h => ?_)
  · first | (obtain ⟨rfl, _⟩ := h; rfl) | (obtain ⟨_, rfl, _⟩ := h; rfl) | (obtain ⟨_, _, rfl, _⟩ := h; rfl) | (obtain ⟨_, _, _, rfl, _⟩ := h; rfl) | (obtain ⟨_, _, _, _, rfl, _⟩ := h; rfl) | (obtain ⟨_, _, _, _, _, rfl, _⟩ := h; rfl) | (obtain ⟨_, _, _, _, _, _, rfl, _⟩ := h; rfl) | (obtain ⟨_, _, _, _, _, _, _, rfl, _⟩ := h; rfl)
  · skip
    obtain ⟨t, b, rfl, rfl, hb, Qk⟩ := h
    walk_at "v"
    refine v_draw (by omega) (by decide) (by decide) fun r r0 r1 => ?_
    obtain ⟨x0, hx0, hl0⟩ := wordsT_at r0 r1
    refine v_ixL (show atI (dStrs wordsT) r = some (.str x0) from hx0) ?_
    walk_at "v"
    refine v_draw (by omega) (by omega) (by omega) fun n n0 n5 => ?_
    walk_at "v"
    refine v_kFor (fun i ω' ρ => ∃ (b' : Nat) (x sg : Str) (o4 o5 o6 : Sl), b' ≤ b + 2 + 3 * i ∧ x.length ≤ 100 + i ∧ 0 < sg.length ∧ sg.length ≤ 1000 ∧ ω' = TS.tape t b' ∧ ρ = [.va (.adr t), .va (.str sg), .va (.lst (dStrs wordsT)), .va (.str x), o4, o5, o6]) ?_ ?_ ?_
    · refine ⟨b + 1 + 1, x0, _, _, _, _, by omega, by omega, ?_, ?_, rfl, rfl⟩
      · decide +kernel
      · decide +kernel
    · rintro i d ω' ρ hi ⟨b', x, sg, o4, o5, o6, hb', hx, s0, s1, rfl, rfl⟩
      have hi5 : i < 5 := by
        have := (List.getElem?_eq_some_iff.mp hi).1
        rw [length_dInts] at this
        unfold rgI at this
        rw [List.length_map, List.length_range] at this
        omega
      have sz : 1000000 ≤ sizeLine := by rw [sizeLine_eq]; decide
      have one : ∀ c : Nat, (⟨#[c]⟩ : Str).length = 1 := fun c => rfl
      walk_at "v"
      refine v_lenS (by omega) ?_
      walk_at "v"
      refine v_draw (by omega) (by omega) (by omega) fun a a0 a1 => ?_
      walk_at "v"
      refine v_lenS (by omega) ?_
      walk_at "v"
      refine v_draw (by omega) (by omega) (by omega) fun g g0 g1 => ?_
      refine v_ixS (by omega) g0 (by omega) fun c => ?_
      have t1 := len_slTo (z := x) a0
      have f1 := len_slFrom (z := x) a0
      have f2 := len_slFrom (z := x) (i := a + 1) (by omega)
      walk_at "v"
      refine v_slS (by omega) ?_
      walk_at "v"
      refine v_addS (by (try simp only [Str.length_append, one]); omega) ?_
      walk_at "v"
      refine v_slS (by omega) ?_
      walk_at "v"
      refine v_addS (by (try simp only [Str.length_append, one]); omega) ?_
      walk_at "v"
      refine v_slS (by omega) ?_
      walk_at "v"
      refine v_addS (by (try simp only [Str.length_append, one]); omega) ?_
      walk_at "v"
      refine v_slS (by omega) ?_
      walk_at "v"
      refine v_addS (by (try simp only [Str.length_append, one]); omega) ?_
      walk_at "v"
      refine v_slS (by omega) ?_
      walk_at "v"
      refine v_slS (by omega) ?_
      walk_at "v"
      refine v_addS (by (try simp only [Str.length_append, one]); omega) ?_
      walk_at "v"
      refine v_draw (by omega) (by decide) (by decide) fun q q0 q3 => ?_
      obtain ⟨z, hz, hlz⟩ : ∃ z : Str, atI [D.str (Txt.slice x none (some a) ++ ⟨#[c]⟩ ++ Txt.slice x (some a) none), .str (Txt.slice x none (some a) ++ ⟨#[c]⟩ ++ Txt.slice x (some (a + 1)) none), .str (Txt.slice x none (some a) ++ Txt.slice x (some (a + 1)) none)] q = some (.str z) ∧ z.length ≤ x.length + 1 := by
        rcases (by omega : q = 0 ∨ q = 1 ∨ q = 2) with e | e | e <;> subst e
        · exact ⟨_, rfl, by simp only [Str.length_append, one]; omega⟩
        · exact ⟨_, rfl, by simp only [Str.length_append, one]; omega⟩
        · exact ⟨_, rfl, by simp only [Str.length_append, one]; omega⟩
      refine v_ixL hz ?_
      walk_at "v"
      exact ⟨_, z, sg, _, _, _, by omega, by omega, s0, s1, rfl, rfl⟩
    · rintro ω' ρ ⟨b', x, sg, o4, o5, o6, hb', hx, s0, s1, rfl, rfl⟩
      have hn : (dInts (rgI 0 n)).length ≤ 4 := by
        rw [length_dInts]
        unfold rgI
        rw [List.length_map, List.length_range]
        omega
      walk_at "v"
      exact Qk _ _ (by omega) (by omega)
end
def pf__law_dueV (P : Program) (w : World) (K : PySem.W.Frag) : PSp (WS P w K W0) := fun ω ds Q _ => ∃ (X : HX) (i : Nat) (p : List Int × Bool) (ws : List (Str × Int)) (cc li : Addr) (ins : List Int), ds = [.adr cc, .lst (dInts p.1), .adr li, .int X.cap, .int ((i : Int) + 1), .lst (ws.map deedT)] ∧ ws.length ≤ 13 ∧ ω.2 cc = some (.ml (dInts X.held)) ∧ ω.2 li = some (.ml (dInts ins)) ∧ X.held.length ≤ 12 ∧ 1 ≤ X.cap ∧ X.cap ≤ 6 ∧ i ≤ 6 ∧ ins.length ≤ 6 ∧ IsNum p.1 ∧ p.1.length = X.held.length ∧ (((i : Int) + 1) ∈ ins ↔ p.2 = true) ∧ ins.length = (occ X).length ∧ Q ((), ω.2.put cc (.ml (dInts (visR X i p ws).1))) (visR X i p ws).2
theorem set_dIntsV {ns : List Int} {i : Nat} {x : Int} : (dInts ns).set i (.int x) = dInts (ns.set i x) := by unfold dInts; rw [List.map_set]
theorem v_ninLS {x : Str} {ys : List Str} {Q1 : D → Prop} (h : Q1 (.bl (!decide (x ∈ ys)))) : fIn true (.str x) (.lst (dStrs ys)) Q1 := ⟨dStrs ys, .inl rfl, rfl, flat_strs ys, by rw [any_strs]; exact h⟩
section
variable {P : Program} [PG P] {w : World} {K : PySem.W.Frag} {mg : Str → Option Value} {base : Heap}
theorem ok__law_due (c : Ctx K mg) : FnOk P w K mg base (L2N.CX P w) 1 (A__law_due K) (fdA K (A__law_due K)) ["_law_contents", "_law_places", "_law_inside", "_law_capacity", "_law_worker", "_law_deeds"] (spM .A K (WS P w K W0) (pf__law_dueV P w K)) := by
  refine okQ (F__law_due c) sc__law_due (fun ω ds Q E h => ?_) (fun cdv A outer s0 H E hr tk pown => (qss_cons (qs_if (qb_cmpS (K := K) (P := P) (w := w) rfl op_in_seq opInP (qe_va (pv 4)) (qe_va (pv 2)) (by rfl))
    (qss_one (qs_ret (qe_tup (qa_cons qe_str (qa_cons qe_bl qa_nil)))))
    qss_nil)
  (qss_cons (qs_if (qb_cmp op_le opI0_bl (qe_op op_mul opI_int (qe_op op_add opI0_int (qe_va (pv 3)) qe_int) (qe_bmLS (K := K) (P := P) (w := w) rfl PySem.F.slot_list_count PySem.F.type_list_count mt_lcount lcountP (qe_va (pv 0)) (qa_cons (qe_va (pv 4)) qa_nil))) (qe_cBS (K := K) (P := P) (w := w) rfl cr_len lenP rfl (n_len c) (by decide +kernel) (qa_cons (qe_va (pv 0)) qa_nil)) (nomark _))
    (qss_one (qs_ret (qe_tup (qa_cons qe_str (qa_cons qe_bl qa_nil)))))
    qss_nil)
  (qss_cons (qs_if (qb_cmp op_ge opI0_bl (qe_cBS (K := K) (P := P) (w := w) rfl cr_len lenP rfl (n_len c) (by decide +kernel) (qa_cons (qe_va (pv 2)) qa_nil)) (qe_va (pv 3)) (nomark _))
    (qss_one (qs_ret (qe_tup (qa_cons qe_str (qa_cons qe_bl qa_nil)))))
    qss_nil)
  (qss_cons (qs_setO (i := 6) sc__law_due.nd rfl (Or.inl rfl) (qe_lst qa_nil))
  (qss_cons (qs_for pown rfl (qi_lst (qe_va (pv 5))) (qg_up (qg_tup (n := 2) rfl (qgs_cons (qg_name (i := 7) sc__law_due.nd rfl (Or.inl rfl)) (qgs_cons (qg_name (i := 8) sc__law_due.nd rfl (Or.inl rfl)) qgs_nil))))
    (qss_cons (qs_if (qb_cmp op_notIn_seq opInP (qe_va (pv 7)) (qe_lst (qa_cons qe_str (qa_cons qe_str (qa_cons qe_str qa_nil)))) (by rfl))
      (qss_one (qs_ret (qe_tup (qa_cons qe_str (qa_cons (qe_va (pv 7)) qa_nil)))))
      qss_nil)
    (qss_cons (qs_if (qb_not (qb_chain op_le op_lt opI0_bl opI0_bl qe_int (qe_va (pv 8)) (qe_cB cr_len lenP rfl (n_len c) (by decide +kernel) (qa_cons (qe_va (pv 1)) qa_nil))))
      (qss_one (qs_ret (qe_tup (qa_cons qe_str (qa_cons (qe_va (pv 8)) qa_nil)))))
      qss_nil)
    (qss_cons (qs_set (i := 9) sc__law_due.nd rfl (Or.inl rfl) (qe_ixS (K := K) (P := P) (w := w) rfl ix_list ixLP (qe_va (pv 0)) (qe_ix ix_list ixLP (qe_va (pv 1)) (qe_va (pv 8)) (fun _ _ => rfl)) (fun _ _ => rfl)))
    (qss_one (qs_if (qb_cmp op_eq opEqP (qe_va (pv 7)) qe_str (nomark _))
      (qss_one (qs_app (i := 6) rfl (pv 6) (qe_ifE (m := .A) (qb_cmp op_eq opEqP (qe_va (pv 9)) qe_int (nomark _)) qe_str (qe_ifE (m := .A) (qb_cmp op_eq opEqP (qe_va (pv 9)) (qe_va (pv 4)) (nomark _)) qe_str qe_str))))
      (qss_one (qs_if (QW.toB (qw_and (qb_cmp op_ne opNeP (qe_va (pv 9)) qe_int (nomark _)) (qw_and1 (qb_cmp op_ne opNeP (qe_va (pv 9)) (qe_va (pv 4)) (nomark _)))))
        (qss_one (qs_ret (qe_tup (qa_cons qe_str (qa_cons (qe_va (pv 9)) qa_nil)))))
        (qss_cons (qs_putS (K := K) (P := P) (w := w) rfl (qe_ifE (m := .A) (qb_cmp op_eq opEqP (qe_va (pv 7)) qe_str (nomark _)) (qe_va (pv 4)) qe_int) (qe_va (pv 0)) (qe_ix ix_list ixLP (qe_va (pv 1)) (qe_va (pv 8)) (fun _ _ => rfl)))
        (qss_one (qs_app (i := 6) rfl (pv 6) qe_non)))))))))))
  (qss_one (qs_frz 6 (qs_ret (qe_tup (qa_cons qe_str (qa_cons (qe_va (pv 6)) qa_nil)))))))))))) (fun ω ds Q E h => ?_)
  · obtain ⟨_, _, _, _, _, _, _, rfl, _⟩ := h; rfl
  · skip
    obtain ⟨X, i, p, ws, cc, li, ins, rfl, h13, m2, m4, n12, c1, c6, i6, in6, hn, hnl, hin, hol, Qk⟩ := h
    obtain ⟨u0, st⟩ := ω
    dsimp only at m2 m4 Qk
    have es : st.put cc (.ml (dInts X.held)) = st := Sto.self m2
    walk_at "v"
    refine v_inLI ?_
    walk_at "v"
    refine w_iteP (fun e1 => ?_) (fun e1 => ?_)
    · rw [show visR X i p ws = (X.held, .tup [.str "already", .bl true]) from if_pos (hin.mp e1), es] at Qk
      walk_at "v"
      exact Qk
    have a1 : ¬ p.2 = true := fun z => e1 (hin.mpr z)
    have ec : enoB X i = decide ((X.held.length : Int) < (X.cap + 1) * ((X.held.count ((i : Int) + 1) : Nat) : Int)) := rfl
    have hcl := List.count_le_length (a := (i : Int) + 1) (l := X.held)
    have hcl2 : ((X.held.count ((i : Int) + 1) : Nat) : Int) ≤ 12 := by omega
    walk_at "v"
    refine w_iteP (fun e2 => ?_) (fun e2 => ?_)
    · rw [show visR X i p ws = (X.held, .tup [.str "not enough", .bl true]) from (if_neg a1).trans (if_pos (by rw [ec]; exact decide_eq_false (by rw [length_dInts] at e2; omega))), es] at Qk
      walk_at "v"
      exact Qk
    have a2 : ¬ enoB X i = false := by
      rw [ec, decide_eq_true (by rw [length_dInts] at e2; omega)]
      decide
    walk_at "v"
    rw [length_dInts]
    refine w_iteP (fun e3 => ?_) (fun e3 => ?_)
    · rw [show visR X i p ws = (X.held, .tup [.str "full", .bl true]) from (if_neg a1).trans ((if_neg a2).trans (if_pos (by omega))), es] at Qk
      walk_at "v"
      exact Qk
    rw [show visR X i p ws = _ from (if_neg a1).trans ((if_neg a2).trans (if_neg (by omega)))] at Qk
    walk_at "v"
    obtain ⟨R, eR⟩ : ∃ R, runD p.1 ((i : Int) + 1) ws X.held [] = R := ⟨_, rfl⟩
    rw [eR] at Qk
    rename_i l
    refine v_kFor (fun j ω ρ => ∃ h acc o7 o8 o9, runD p.1 ((i : Int) + 1) (ws.drop j) h acc = R ∧ h.length = X.held.length ∧ acc.length = j ∧ ω = (u0, st.put cc (.ml (dInts h))) ∧ ρ = [.va (.adr cc), .va (.lst (dInts p.1)), .va (.adr li), .va (.int X.cap), .va (.int ((i : Int) + 1)), .va (.lst (ws.map deedT)), .ow l acc, o7, o8, o9]) ?_ ?_ ?_
    · exact ⟨X.held, [], _, _, _, eR, rfl, rfl, by rw [es], rfl⟩
    · rintro j y ω ρ hy ⟨h, acc, o7, o8, o9, er, hl2, ha, rfl, rfl⟩
      rw [List.getElem?_map] at hy
      obtain ⟨⟨s, k⟩, hw, rfl⟩ := Option.map_eq_some_iff.mp hy
      unfold deedT
      have jl : acc.length < 1000000 := by
        have := (List.getElem?_eq_some_iff.mp hw).1
        omega
      have ej : ws.drop j = (s, k) :: ws.drop (j + 1) := by
        obtain ⟨hj, e⟩ := List.getElem?_eq_some_iff.mp hw
        rw [List.drop_eq_getElem_cons hj, e]
      rw [ej, runD] at er
      have m3 : (st.put cc (.ml (dInts h))) cc = some (.ml (dInts h)) := Sto.same
      walk_at "v"
      refine (show fIn true (.str s) (.lst (dStrs ["take", "give", "see"])) _ from v_ninLS ?_)
      have hw3 : s ∈ (["take", "give", "see"] : List Str) ↔ (s = "take" ∨ s = "give" ∨ s = "see") := by simp
      walk_at "v"
      refine w_iteNP (fun g0 => ?_) (fun g0 => ?_)
      · rw [if_pos (fun z => g0 (hw3.mpr z))] at er
        rw [← er] at Qk
        walk_at "v"
        exact Qk
      rw [if_neg (not_not_intro (hw3.mp g0))] at er
      walk_at "v"
      have bad : ¬ (0 ≤ k ∧ k < h.length) → Q (u0, st.put cc (.ml (dInts h))) (.tup [.str "no cell", .int k]) := fun r => by
        rw [if_pos r] at er
        rw [← er] at Qk
        exact Qk
      refine w_iteP (fun e2 => ?_) (fun e2 => ?_)
      rotate_left
      · walk_at "v"
        exact bad (by omega)
      walk_at "v"
      rw [length_dInts]
      refine w_iteNP (fun e4 => ?_) (fun e4 => ?_)
      · walk_at "v"
        exact bad (by omega)
      clear bad
      have r : 0 ≤ k ∧ k < h.length := by omega
      rw [if_neg (not_not_intro r)] at er
      have hp := atP_lt hn r.1 (by omega)
      have hc : atI (dInts h) (atP p.1 k) = some (.int (atP h (atP p.1 k))) := atI_ints hp.1 (by omega)
      have hj : ixN (dInts h).length (atP p.1 k) = some (atP p.1 k).toNat := ixN_nat hp.1 (by rw [length_dInts]; omega)
      walk_at "v"
      refine v_ixL (atI_ints r.1 (by omega)) ?_
      walk_at "v"
      refine v_ixL hc ?_
      walk_at "v"
      generalize atP h (atP p.1 k) = z at er ⊢
      refine w_iteP (fun f0 => ?_) (fun f0 => ?_)
      · rw [if_pos f0] at er
        walk_at "v"
        refine w_iteP (fun f1 => ?_) (fun f1 => ?_)
        · rw [if_pos f1] at er
          walk_at "v"
          exact ⟨h, _, _, _, _, er, hl2, by rw [List.length_append, ha]; rfl, rfl, rfl⟩
        rw [if_neg f1] at er
        walk_at "v"
        refine w_iteP (fun f2 => ?_) (fun f2 => ?_)
        · rw [if_pos f2] at er
          walk_at "v"
          exact ⟨h, _, _, _, _, er, hl2, by rw [List.length_append, ha]; rfl, rfl, rfl⟩
        · rw [if_neg f2] at er
          walk_at "v"
          exact ⟨h, _, _, _, _, er, hl2, by rw [List.length_append, ha]; rfl, rfl, rfl⟩
      rw [if_neg f0] at er
      walk_at "v"
      refine w_iteNP (fun h1 => ?_) (fun h1 => ?_)
      · walk_at "v"
        refine w_iteNP (fun h2 => ?_) (fun h2 => ?_)
        · rw [if_pos (fun q => q.elim h1 h2)] at er
          rw [← er] at Qk
          walk_at "v"
          exact Qk
        walk_at "v"
        rw [if_neg (not_not_intro (.inr h2))] at er
        refine w_iteP (fun g1 => ?_) (fun g1 => ?_)
        · rw [if_pos g1] at er
          walk_at "v"
          refine v_ixL (atI_ints r.1 (by omega)) ?_
          walk_at "v"
          refine v_kPutS m3 hj rfl ?_
          rw [set_dIntsV, Sto.putput]
          walk_at "v"
          exact ⟨_, _, _, _, _, er, by rw [List.length_set]; exact hl2, by rw [List.length_append, ha]; rfl, rfl, rfl⟩
        · rw [if_neg g1] at er
          walk_at "v"
          refine v_ixL (atI_ints r.1 (by omega)) ?_
          walk_at "v"
          refine v_kPutS m3 hj rfl ?_
          rw [set_dIntsV, Sto.putput]
          walk_at "v"
          exact ⟨_, _, _, _, _, er, by rw [List.length_set]; exact hl2, by rw [List.length_append, ha]; rfl, rfl, rfl⟩
      walk_at "v"
      rw [if_neg (not_not_intro (.inl h1))] at er
      refine w_iteP (fun g1 => ?_) (fun g1 => ?_)
      · rw [if_pos g1] at er
        walk_at "v"
        refine v_ixL (atI_ints r.1 (by omega)) ?_
        walk_at "v"
        refine v_kPutS m3 hj rfl ?_
        rw [set_dIntsV, Sto.putput]
        walk_at "v"
        exact ⟨_, _, _, _, _, er, by rw [List.length_set]; exact hl2, by rw [List.length_append, ha]; rfl, rfl, rfl⟩
      · rw [if_neg g1] at er
        walk_at "v"
        refine v_ixL (atI_ints r.1 (by omega)) ?_
        walk_at "v"
        refine v_kPutS m3 hj rfl ?_
        rw [set_dIntsV, Sto.putput]
        walk_at "v"
        exact ⟨_, _, _, _, _, er, by rw [List.length_set]; exact hl2, by rw [List.length_append, ha]; rfl, rfl, rfl⟩
    · rintro ω ρ ⟨h, acc, o7, o8, o9, er, hl2, ha, rfl, rfl⟩
      rw [List.length_map, List.drop_length] at er
      rw [← er] at Qk
      walk_at "v"
      exact Qk
end
section
variable {P : Program} [PG P] {w : World} {K : PySem.W.Frag} {mg : Str → Option Value} {base : Heap}
theorem ok_Stay___init__ (c : Ctx K mg) : FnOk P w K mg base (L2N.CX P w) 1 (A_Stay___init__ K) (fdA K (A_Stay___init__ K)) ["self", "desk"] (spM .A K (WS P w K W0) (pf_Stay___init__ P w K)) := by
  refine okQ (F_Stay___init__ c) sc_Stay___init__ (fun ω ds Q E h => ?_) (fun cdv A outer s0 H E hr tk pown => (qss_one (qs_fstS (K := K) (P := P) (w := w) rfl (cl_Stay c) (na_Stay_desk c) (qe_va (pv 1)) (qe_va (pv 0))))) (fun ω ds Q E h => ?_)
  · obtain ⟨_, _, rfl, _⟩ := h; rfl
  · skip
    obtain ⟨x, d, rfl, hx, Qk⟩ := h
    obtain ⟨u0, st⟩ := ω
    dsimp only at hx Qk
    walk_at "v"
    refine v_kFstS (fs := []) hx rfl (by show imm ["desk"] = false; decide) (by decide) ?_
    exact Qk
end
section
variable {P : Program} [PG P] {w : World} {K : PySem.W.Frag} {mg : Str → Option Value} {base : Heap}
theorem ok_Stay___enter__ (c : Ctx K mg) : FnOk P w K mg base (L2N.CX P w) 6 (A_Stay___enter__ K) (fdA K (A_Stay___enter__ K)) ["self"] (spM .A K (WS P w K W0) (pf_Stay___enter__ P w K)) := by
  refine okQ (F_Stay___enter__ c) sc_Stay___enter__ (fun ω ds Q E h => ?_) (fun cdv A outer s0 H E hr tk pown => (qss_cons (qs_expr (qe_methS0 (K := K) (P := P) (w := w) rfl (qe_fldS (K := K) (P := P) (w := w) rfl (qe_va (pv 0)) (cl_Stay c) (na_Stay_desk c)) (cl_Desk c) (me_Desk_enter c) (rawF (ok_Desk_enter (P := P) c) (b_Desk_enter c)) (hr.mono (by decide)) (fun σ => L2N.passAt tk σ)))
  (qss_one (qs_ret (qe_fldS (K := K) (P := P) (w := w) rfl (qe_va (pv 0)) (cl_Stay c) (na_Stay_desk c)))))) (fun ω ds Q E h => ?_)
  · obtain ⟨_, _, _, _, _, rfl, _⟩ := h; rfl
  · skip
    obtain ⟨X, i, x, d, p, rfl, hx, hs, hi, Qk⟩ := h
    obtain ⟨u0, st⟩ := ω
    dsimp only at hx hs Qk
    have nd := hs.nd hi
    walk_at "v"
    refine ⟨X, i, d, p, rfl, hs, hi, ?_⟩
    rcases Qk with ⟨z, q⟩ | ⟨z, z2, q⟩ | ⟨z1, z2, z3, q⟩ | ⟨z1, z2, z3, q⟩
    · exact .inl ⟨z, q⟩
    · exact .inr (.inl ⟨z, z2, q⟩)
    · exact .inr (.inr (.inl ⟨z1, z2, z3, q⟩))
    · refine .inr (.inr (.inr ⟨z1, z2, z3, ?_⟩))
      have xd : x ≠ d := Sto.inj hx nd (fun e => by injection e with _ e2; exact absurd (congrArg List.length e2) (show ¬ (1 : Nat) = 4 from by decide))
      have hx' : (st.put d (.mi (DC K) (deskF K X.h i (p.1, true)))) x = some (.mi (StC K) [("desk", .adr d)]) := Sto.ne xd hx
      walk_at "v"
      exact q
end
section
variable {P : Program} [PG P] {w : World} {K : PySem.W.Frag} {mg : Str → Option Value} {base : Heap}
theorem ok_Stay___exit__ (c : Ctx K mg) : FnOk P w K mg base (L2N.CX P w) 1 (A_Stay___exit__ K) (fdA K (A_Stay___exit__ K)) ["self", "kind", "value", "trace"] (spM .A K (WS P w K W0) (pf_Stay___exit__ P w K)) := by
  refine okQ (F_Stay___exit__ c) sc_Stay___exit__ (fun ω ds Q E h => ?_) (fun cdv A outer s0 H E hr tk pown => (qss_one (qs_fstS (K := K) (P := P) (w := w) rfl (cl_Desk c) (na_Desk_is_inside c) qe_bl (qe_fldS (K := K) (P := P) (w := w) rfl (qe_va (pv 0)) (cl_Stay c) (na_Stay_desk c))))) (fun ω ds Q E h => ?_)
  · obtain ⟨_, _, _, _, _, _, _, _, rfl, _⟩ := h; rfl
  · obtain ⟨X, i, x, d, p, a, b, e, rfl, hx, hs, hi, Qk⟩ := h
    obtain ⟨u0, st⟩ := ω
    dsimp only at hx hs Qk
    have nd := hs.nd hi
    walk_at "v"
    refine v_kFstS nd rfl (by show imm ["hall", "number", "numbering", "is_inside"] = false; decide) (by show 4 < 1000; decide) ?_
    exact Qk
theorem okH_Stay___exit__ (c : Ctx K mg) : L2H.FnH P w K mg base (L2N.CX P w) 1 (A_Stay___exit__ K) (fdA K (A_Stay___exit__ K)) ["self", "kind", "value", "trace"] (spM .A K (WS P w K W0) (pf_Stay___exit__ P w K)) := by
  refine okQH (F_Stay___exit__ c) sc_Stay___exit__ (fun ω ds Q E h => ?_) (fun cdv A outer s0 H E p hr => (qss_one (qs_fstS (K := K) (P := P) (w := w) rfl (cl_Desk c) (na_Desk_is_inside c) qe_bl (qe_fldS (K := K) (P := P) (w := w) rfl (qe_va (pv 0)) (cl_Stay c) (na_Stay_desk c))))) (fun ω ds Q E h => ?_)
  · obtain ⟨_, _, _, _, _, _, _, _, rfl, _⟩ := h; rfl
  · obtain ⟨X, i, x, d, p, a, b, e, rfl, hx, hs, hi, Qk⟩ := h
    obtain ⟨u0, st⟩ := ω
    dsimp only at hx hs Qk
    have nd := hs.nd hi
    walk_at "v"
    refine v_kFstS nd rfl (by show imm ["hall", "number", "numbering", "is_inside"] = false; decide) (by show 4 < 1000; decide) ?_
    exact Qk
end
section
variable {P : Program} [PG P] {w : World} {K : PySem.W.Frag} {mg : Str → Option Value} {base : Heap}
theorem ok_Desk_take (c : Ctx K mg) : FnOk P w K mg base (L2N.CX P w) 5 (A_Desk_take K) (fdA K (A_Desk_take K)) ["self", "k"] (spM .A K (WS P w K W0) (pf_Desk_take P w K)) := by
  refine okQ (F_Desk_take c) sc_Desk_take (fun ω ds Q E h => ?_) (fun cdv A outer s0 H E hr tk pown => (qss_one (qs_setO2 (K := K) (P := P) (w := w) rfl (seto_Desk c) (rawF (ok_Desk___setitem__ (P := P) c) (b_Desk___setitem__ c)) (hr.mono (by decide)) (fun σ => L2N.passAt tk σ) qe_bl (qe_va (pv 0)) (qe_va (pv 1))))) (fun ω ds Q E h => ?_)
  · obtain ⟨_, _, _, _, _, rfl, _⟩ := h; rfl
  · skip
    obtain ⟨X, i, d, p, k, rfl, hs, hi, Qk⟩ := h
    obtain ⟨u0, st⟩ := ω
    dsimp only at hs Qk
    have s1 := hs.sh
    have s2 := hs.sl
    have s3 := hs.sd
    have s4 := hs.nd hi
    obtain ⟨hn, hnl⟩ := hs.num i p hi.2
    have n12 := hs.n12
    walk_at "v"
    exact ⟨X, i, d, p, k, true, rfl, hs, hi, Qk⟩
end
section
variable {P : Program} [PG P] {w : World} {K : PySem.W.Frag} {mg : Str → Option Value} {base : Heap}
theorem ok_Desk_give (c : Ctx K mg) : FnOk P w K mg base (L2N.CX P w) 5 (A_Desk_give K) (fdA K (A_Desk_give K)) ["self", "k"] (spM .A K (WS P w K W0) (pf_Desk_give P w K)) := by
  refine okQ (F_Desk_give c) sc_Desk_give (fun ω ds Q E h => ?_) (fun cdv A outer s0 H E hr tk pown => (qss_one (qs_setO2 (K := K) (P := P) (w := w) rfl (seto_Desk c) (rawF (ok_Desk___setitem__ (P := P) c) (b_Desk___setitem__ c)) (hr.mono (by decide)) (fun σ => L2N.passAt tk σ) qe_bl (qe_va (pv 0)) (qe_va (pv 1))))) (fun ω ds Q E h => ?_)
  · obtain ⟨_, _, _, _, _, rfl, _⟩ := h; rfl
  · skip
    obtain ⟨X, i, d, p, k, rfl, hs, hi, Qk⟩ := h
    obtain ⟨u0, st⟩ := ω
    dsimp only at hs Qk
    have s1 := hs.sh
    have s2 := hs.sl
    have s3 := hs.sd
    have s4 := hs.nd hi
    obtain ⟨hn, hnl⟩ := hs.num i p hi.2
    have n12 := hs.n12
    walk_at "v"
    exact ⟨X, i, d, p, k, false, rfl, hs, hi, Qk⟩
end
section
variable {P : Program} [PG P] {w : World} {K : PySem.W.Frag} {mg : Str → Option Value} {base : Heap}
theorem ok_Desk___getitem__ (c : Ctx K mg) : FnOk P w K mg base (L2N.CX P w) 4 (A_Desk___getitem__ K) (fdA K (A_Desk___getitem__ K)) ["self", "at"] (spM .A K (WS P w K W0) (pf_Desk___getitem__ P w K)) := by
  refine okQ (F_Desk___getitem__ c) sc_Desk___getitem__ (fun ω ds Q E h => ?_) (fun cdv A outer s0 H E hr tk pown => (qss_cons (qs_set (i := 2) sc_Desk___getitem__.nd rfl (Or.inl rfl) (qe_ixS (K := K) (P := P) (w := w) rfl ix_list ixLP (qe_fldS (K := K) (P := P) (w := w) rfl (qe_fldS (K := K) (P := P) (w := w) rfl (qe_va (pv 0)) (cl_Desk c) (na_Desk_hall c)) (cl_Hall c) (na_Hall_held c)) (qe_methS (K := K) (P := P) (w := w) rfl (qe_va (pv 0)) (cl_Desk c) (me_Desk__place c) (rawF (ok_Desk__place (P := P) c) (b_Desk__place c)) (hr.mono (by decide)) (fun σ => L2N.passAt tk σ) (qa_cons (qe_va (pv 1)) qa_nil)) (fun _ _ => rfl)))
  (qss_cons (qs_if (qb_cmp op_eq opEqP (qe_va (pv 2)) qe_int (nomark _))
    (qss_one (qs_ret qe_str))
    qss_nil)
  (qss_one (qs_ret (qe_ifE (m := .A) (qb_cmp op_eq opEqP (qe_va (pv 2)) (qe_fldS (K := K) (P := P) (w := w) rfl (qe_va (pv 0)) (cl_Desk c) (na_Desk_number c)) (nomark _)) qe_str qe_str)))))) (fun ω ds Q E h => ?_)
  · obtain ⟨_, _, _, _, _, rfl, _⟩ := h; rfl
  · skip
    obtain ⟨X, i, d, p, k, rfl, hs, hi, Qk⟩ := h
    obtain ⟨u0, st⟩ := ω
    dsimp only at hs Qk
    have s1 := hs.sh
    have s2 := hs.sl
    have s3 := hs.sd
    have s4 := hs.nd hi
    obtain ⟨hn, hnl⟩ := hs.num i p hi.2
    have n12 := hs.n12
    walk_at "v"
    refine ⟨X, i, d, p, k, rfl, hs, hi, ?_⟩
    rcases Qk with ⟨h1, h2, q⟩ | ⟨h1, q⟩
    · refine .inl ⟨h1, h2, ?_⟩
      have hp := atP_lt hn h1 (by omega)
      have hc : atI (dInts X.held) (plc p k) = some (.int (cel X p k)) := atI_ints hp.1 (by show atP p.1 k < _; omega)
      unfold seeT at q
      refine v_derL s2 ?_
      walk_at "v"
      refine v_ixL hc ?_
      walk_at "v"
      refine w_iteP (fun e1 => ?_) (fun e1 => ?_)
      · rw [if_pos e1] at q
        walk_at "v"
        exact q
      rw [if_neg e1] at q
      walk_at "v"
      refine w_iteP (fun e2 => ?_) (fun e2 => ?_)
      · rw [if_pos e2] at q
        walk_at "v"
        exact q
      · rw [if_neg e2] at q
        walk_at "v"
        exact q
    · exact .inr ⟨h1, q⟩
end
section
variable {P : Program} [PG P] {w : World} {K : PySem.W.Frag} {mg : Str → Option Value} {base : Heap}
theorem ok_BadInstruction___init__ (c : Ctx K mg) : FnOk P w K mg base (L2N.CX P w) 1 (A_BadInstruction___init__ K) (fdA K (A_BadInstruction___init__ K)) ["self", "instruction"] (spXI (He.ga K "BadInstruction") "instruction") := by
  obtain ⟨cda, cc, F⟩ := F_BadInstruction___init__ c
  exact xinit_ok F sc_BadInstruction___init__ (n_super c) rfl rfl (spx_BadInstruction c).sx (spx_BadInstruction c).no fun A outer s H E a SE => pssA_supI SE (spx_BadInstruction c).sx rfl (pa_cons pe_str pa_nil) (pss_one (ps_ost (pv 0) (pv 1)))
end
section
variable {P : Program} [PG P] {w : World} {K : PySem.W.Frag} {mg : Str → Option Value} {base : Heap}
theorem ok__done (c : Ctx K mg) : FnOk P w K mg base (L2N.CX P w) 6 (A__done K) (fdA K (A__done K)) ["desk", "word", "k"] (spM .A K (WS P w K W0) (pf__done P w K)) := by
  refine okQ (F__done c) sc__done (fun ω ds Q E h => ?_) (fun cdv A outer s0 H E hr tk pown => (qss_cons (qs_if (qb_cmp op_eq opEqP (qe_va (pv 1)) qe_str (nomark _))
    (qss_one (qs_ret (qe_methS (K := K) (P := P) (w := w) rfl (qe_va (pv 0)) (cl_Desk c) (me_Desk_take c) (rawF (ok_Desk_take (P := P) c) (b_Desk_take c)) (hr.mono (by decide)) (fun σ => L2N.passAt tk σ) (qa_cons (qe_va (pv 2)) qa_nil))))
    qss_nil)
  (qss_cons (qs_if (qb_cmp op_eq opEqP (qe_va (pv 1)) qe_str (nomark _))
    (qss_one (qs_ret (qe_methS (K := K) (P := P) (w := w) rfl (qe_va (pv 0)) (cl_Desk c) (me_Desk_give c) (rawF (ok_Desk_give (P := P) c) (b_Desk_give c)) (hr.mono (by decide)) (fun σ => L2N.passAt tk σ) (qa_cons (qe_va (pv 2)) qa_nil))))
    qss_nil)
  (qss_cons (qs_if (qb_cmp op_eq opEqP (qe_va (pv 1)) qe_str (nomark _))
    (qss_one (qs_ret (qe_getO (K := K) (P := P) (w := w) rfl (geto_Desk c) (rawF (ok_Desk___getitem__ (P := P) c) (b_Desk___getitem__ c)) (hr.mono (by decide)) (fun σ => L2N.passAt tk σ) (qe_va (pv 0)) (qe_va (pv 2)))))
    qss_nil)
  (qss_one (qs_raiseX rfl tk (spx_BadInstruction c).sx.oex (spx_BadInstruction c).iC (spx_BadInstruction c).tI (ok_BadInstruction___init__ (P := P) c) (hr.mono (by decide)) (b_BadInstruction___init__ c) rfl (g_BadInstruction c) (qe_va (pv 1)))))))) (fun ω ds Q E h => ?_)
  · obtain ⟨_, _, _, _, _, _, rfl, _⟩ := h; rfl
  · skip
    obtain ⟨X, i, d, p, s, k, rfl, hs, hi, q1, q2, q3, q4⟩ := h
    obtain ⟨u0, st⟩ := ω
    dsimp only at hs q1 q2 q3 q4
    have nd := hs.nd hi
    walk_at "v"
    refine w_iteP (fun g => ?_) (fun g => ?_)
    · walk_at "v"
      exact ⟨X, i, d, p, k, rfl, hs, hi, q1 g⟩
    have n1 : s ≠ "take" := fun z => g z
    walk_at "v"
    refine w_iteP (fun g => ?_) (fun g => ?_)
    · walk_at "v"
      exact ⟨X, i, d, p, k, rfl, hs, hi, q2 g⟩
    have n2 : s ≠ "give" := fun z => g z
    walk_at "v"
    refine w_iteP (fun g => ?_) (fun g => ?_)
    · walk_at "v"
      exact ⟨X, i, d, p, k, rfl, hs, hi, q3 g⟩
    have n3 : s ≠ "see" := fun z => g z
    walk_at "v"
    exact q4 n1 n2 n3
end
section
variable {P : Program} [PG P] {w : World} {K : PySem.W.Frag} {mg : Str → Option Value} {base : Heap}
theorem ok_visit (c : Ctx K mg) : FnR P w K mg base (L2N.CX P w) 7 (A_visit K) (spM .F K (WS P w K W0) (pf_visit P w K)) := by
  refine okQR (ps := ["desk"]) (pv := "deeds") (F_visit c) sc_visit (fun kV doc pm an cdv ct us rest hl => match us, hl with | [a], _ => by cases rest <;> rfl) (fun ω ds Q E h => ?_) (fun cdv A outer s0 H E hr tk pown => (qss_cons (qs_setO (i := 2) sc_visit.nd rfl (Or.inl rfl) (qe_lst qa_nil))
  (qss_cons (qs_with (K := K) (i := 3) rfl rfl rfl rfl sc_visit.nd rfl rfl tk (qe_makeS (K := K) (P := P) (w := w) rfl (qe_adr (pe_glob (v := .ref (He.ga K "Stay")) rfl (g_Stay c) rfl)) (mk_Stay c) (rawF (ok_Stay___init__ (P := P) c) (b_Stay___init__ c)) (hr.mono (by decide)) (fun σ => L2N.passAt tk σ) (qa_cons (qe_va (pv 0)) qa_nil)) (with_Stay c) (rawF (ok_Stay___enter__ (P := P) c) (b_Stay___enter__ c)) (rawF (ok_Stay___exit__ (P := P) c) (b_Stay___exit__ c)) (okH_Stay___exit__ (P := P) c) (hr.mono (by decide)) (hr.mono (by decide)) (hr.mono (by decide)) (b_Stay___exit__ c) (fun σ => L2N.passAt tk σ) (fun W pn xe tk pown =>
    (qss_one (qs_for pown rfl (qi_tup (qe_va (pv 1))) (qg_up (qg_tup (n := 2) rfl (qgs_cons (qg_name (i := 4) sc_visit.nd rfl (Or.inl rfl)) (qgs_cons (qg_name (i := 5) sc_visit.nd rfl (Or.inl rfl)) qgs_nil))))
        (qss_one (qs_app (i := 2) rfl (pv 2) (qe_call (ok__done (P := P) c) (hr.mono (by decide)) rfl (g__done c) (F__done c).kp (b__done c) (fun σ => L2N.passAt tk σ) (qa_cons (qe_va (pv 3)) (qa_cons (qe_va (pv 4)) (qa_cons (qe_va (pv 5)) qa_nil))))))))))
  (qss_one (qs_retO (i := 2) (pv 2)))))) (fun ω es rest Q E hl h => ?_) (by decide)
  · obtain ⟨X, i, d, p, ws, rfl, hl, _⟩ := h
    exact ⟨[.adr d], ws.map deedT, rfl, rfl, by rw [List.length_map]; exact hl⟩
  · obtain ⟨X, i, d, p, ws, e, hl', hs, hi, Qk⟩ := h
    obtain ⟨p', rfl⟩ : ∃ p', es = [p'] := List.length_eq_one_iff.mp hl
    cases e
    obtain ⟨u0, st⟩ := ω
    dsimp only at hs Qk
    dsimp only [startP, N_visit, List.map, List.length, Nat.reduceAdd, Nat.reduceSub, List.replicate, List.cons_append, List.nil_append, List.append_nil, endP, List.set]
    walk_at "v"
    rename_i l
    refine v_with ?_
    walk_at "v"
    intro x hx
    refine ⟨x, d, rfl, Sto.same, ?_⟩
    rw [Sto.putput]
    refine ⟨rfl, ?_⟩
    have Qk := Qk x hx
    have hs1 : Hs K (st.put x (stayO K d)) X := hs.new hx
    have hx1 : (st.put x (stayO K d)) x = some (.mi (StC K) [("desk", .adr d)]) := Sto.same
    refine ⟨x, _, rfl, Sto.same, ?_⟩
    show ∃ (_ : HX), _
    refine ⟨X, i, x, d, p, rfl, hx1, hs1, hi, ?_⟩
    rw [show st.put x (.mi (StC K) [("desk", .adr d)]) = st.put x (stayO K d) from rfl]
    generalize st.put x (stayO K d) = st1 at Qk hs1 hx1 ⊢
    rcases Qk with ⟨z, q⟩ | ⟨z, z2, q⟩ | ⟨z, z2, z3, q⟩ | ⟨z, z2, z3, q⟩
    · exact .inl ⟨z, q⟩
    · exact .inr (.inl ⟨z, z2, q⟩)
    · exact .inr (.inr (.inl ⟨z, z2, z3, q⟩))
    refine .inr (.inr (.inr ⟨z, z2, z3, ?_⟩))
    have nd := hs1.nd hi
    have hs2 := hs1.setI hi true
    walk_at "v"
    have el : ((st1.put d (.mi (DC K) (deskF K X.h i (p.1, true)))).put X.lh (.ml (dInts X.held))) = st1.put d (.mi (DC K) (deskF K X.h i (p.1, true))) := Sto.self hs2.sl
    refine v_kFor (fun j ω ρ => ∃ h acc o4 o5, runD p.1 ((i : Int) + 1) (ws.drop j) h acc = runD p.1 ((i : Int) + 1) ws X.held [] ∧ h.length = X.held.length ∧ acc.length = j ∧ ω = ((), (st1.put d (.mi (DC K) (deskF K X.h i (p.1, true)))).put X.lh (.ml (dInts h))) ∧ ρ = [.va (.adr d), .va (.tup (ws.map deedT)), .ow l acc, .va (.adr d), o4, o5]) ?_ ?_ ?_
    · exact ⟨X.held, [], _, _, rfl, rfl, rfl, by rw [el], rfl⟩
    · rintro j y ω ρ hy ⟨h, acc, o4, o5, er, hl2, ha, rfl, rfl⟩
      rw [List.getElem?_map] at hy
      obtain ⟨⟨s, k⟩, hw, rfl⟩ := Option.map_eq_some_iff.mp hy
      have hs3 := hs2.setH (hs := h) hl2
      unfold deedT
      have jl : acc.length < 1000000 := by
        have := (List.getElem?_eq_some_iff.mp hw).1
        omega
      have ej : ws.drop j = (s, k) :: ws.drop (j + 1) := by
        obtain ⟨hj, e⟩ := List.getElem?_eq_some_iff.mp hw
        rw [List.drop_eq_getElem_cons hj, e]
      rw [ej] at er
      have dl : d ≠ X.lh := Sto.inj nd hs1.sl (fun e => by cases e)
      have xd : x ≠ d := Sto.inj hx1 nd (fun e => by injection e with _ e2; exact absurd (congrArg List.length e2) (show ¬ (1 : Nat) = 4 from by decide))
      have xl : x ≠ X.lh := Sto.inj hx1 hs1.sl (fun e => by cases e)
      have eF : MO.mi (DC K) (deskF K ((X.setI i true).setH h).h i ((p.1, true).1, false)) = .mi (DC K) (deskF K X.h i p) := by rw [show p = (p.1, false) from Prod.ext rfl z]; rfl
      have hx3 := Sto.ne (m := .ml (dInts h)) xl (Sto.ne (m := .mi (DC K) (deskF K X.h i (p.1, true))) xd hx1)
      walk_at "v"
      refine ⟨(X.setI i true).setH h, i, d, (p.1, true), s, k, rfl, hs3, hi.setI true, fun g => ?_, fun g => ?_, fun g => ?_, fun n1 n2 n3 => ?_⟩
      · have w1 : ¬ ¬ (s = "take" ∨ s = "give" ∨ s = "see") := by rw [g]; simp
        have w2 : ¬ s = "see" := by rw [g]; decide
        rw [runD, if_neg w1] at er
        by_cases hk : 0 ≤ k ∧ k < h.length
        · rw [if_neg (not_not_intro hk), if_neg w2] at er
          by_cases hc : atP h (atP p.1 k) = 0 ∨ atP h (atP p.1 k) = (i : Int) + 1
          · rw [if_neg (not_not_intro hc), if_pos g] at er
            refine .inl ⟨hk.1, hk.2, hc, ?_⟩
            refine ⟨_, _, _, _, er, ?_, ?_, ?_, rfl⟩
            · rw [List.length_set]; exact hl2
            · rw [List.length_append, ha]; rfl
            · dsimp only; rw [show ((X.setI i true).setH h).lh = X.lh from rfl, Sto.putput]; rfl
          · rw [if_pos hc] at er
            refine .inr (.inl ⟨hk.1, hk.2, hc, ?_⟩)
            intro a dt hd
            refine ⟨(X.setI i true).setH h, i, x, d, (p.1, true), _, _, _, rfl, hx3, hs3, hi.setI true, ?_⟩
            rw [eF]
            dsimp only
            rw [sto_visit nd dl]
            refine ⟨rfl, ?_⟩
            rw [← er] at q
            exact q.2.2.2 rfl
        · rw [if_pos hk] at er
          refine .inr (.inr ⟨hk, ?_⟩)
          intro a dt hd
          refine ⟨(X.setI i true).setH h, i, x, d, (p.1, true), _, _, _, rfl, hx3, hs3, hi.setI true, ?_⟩
          rw [eF]
          dsimp only
          rw [sto_visit nd dl]
          refine ⟨rfl, ?_⟩
          rw [← er] at q
          exact q.2.2.1 rfl
      · have w1 : ¬ ¬ (s = "take" ∨ s = "give" ∨ s = "see") := by rw [g]; simp
        have w2 : ¬ s = "see" := by rw [g]; decide
        rw [runD, if_neg w1] at er
        by_cases hk : 0 ≤ k ∧ k < h.length
        · rw [if_neg (not_not_intro hk), if_neg w2] at er
          by_cases hc : atP h (atP p.1 k) = 0 ∨ atP h (atP p.1 k) = (i : Int) + 1
          · rw [if_neg (not_not_intro hc), if_neg (show ¬ s = "take" from by rw [g]; decide)] at er
            refine .inl ⟨hk.1, hk.2, hc, ?_⟩
            refine ⟨_, _, _, _, er, ?_, ?_, ?_, rfl⟩
            · rw [List.length_set]; exact hl2
            · rw [List.length_append, ha]; rfl
            · dsimp only; rw [show ((X.setI i true).setH h).lh = X.lh from rfl, Sto.putput]; rfl
          · rw [if_pos hc] at er
            refine .inr (.inl ⟨hk.1, hk.2, hc, ?_⟩)
            intro a dt hd
            refine ⟨(X.setI i true).setH h, i, x, d, (p.1, true), _, _, _, rfl, hx3, hs3, hi.setI true, ?_⟩
            rw [eF]
            dsimp only
            rw [sto_visit nd dl]
            refine ⟨rfl, ?_⟩
            rw [← er] at q
            exact q.2.2.2 rfl
        · rw [if_pos hk] at er
          refine .inr (.inr ⟨hk, ?_⟩)
          intro a dt hd
          refine ⟨(X.setI i true).setH h, i, x, d, (p.1, true), _, _, _, rfl, hx3, hs3, hi.setI true, ?_⟩
          rw [eF]
          dsimp only
          rw [sto_visit nd dl]
          refine ⟨rfl, ?_⟩
          rw [← er] at q
          exact q.2.2.1 rfl
      · have w1 : ¬ ¬ (s = "take" ∨ s = "give" ∨ s = "see") := by rw [g]; simp
        rw [runD, if_neg w1] at er
        by_cases hk : 0 ≤ k ∧ k < h.length
        · rw [if_neg (not_not_intro hk), if_pos g] at er
          refine .inl ⟨hk.1, hk.2, ?_⟩
          refine ⟨_, _, _, _, er, hl2, ?_, rfl, rfl⟩
          rw [List.length_append, ha]; rfl
        · rw [if_pos hk] at er
          refine .inr ⟨hk, ?_⟩
          intro a dt hd
          refine ⟨(X.setI i true).setH h, i, x, d, (p.1, true), _, _, _, rfl, hx3, hs3, hi.setI true, ?_⟩
          rw [eF]
          dsimp only
          rw [sto_visit nd dl]
          refine ⟨rfl, ?_⟩
          rw [← er] at q
          exact q.2.2.1 rfl
      · intro a dt hd
        refine ⟨(X.setI i true).setH h, i, x, d, (p.1, true), _, _, _, rfl, hx3, hs3, hi.setI true, ?_⟩
        rw [eF]
        dsimp only
        rw [sto_visit nd dl]
        refine ⟨rfl, ?_⟩
        rw [runD, if_pos (by simp [n1, n2, n3])] at er
        rw [← er] at q
        exact q.2.1 rfl
    · rintro ω ρ ⟨h, acc, o4, o5, er, hl2, ha, rfl, rfl⟩
      rw [List.length_map, List.drop_length] at er
      rw [← er] at q
      have q0 := q.1 rfl
      have hs3 := hs2.setH (hs := h) hl2
      have dl : d ≠ X.lh := Sto.inj nd hs1.sl (fun e => by cases e)
      have xd : x ≠ d := Sto.inj hx1 nd (fun e => by injection e with _ e2; exact absurd (congrArg List.length e2) (show ¬ (1 : Nat) = 4 from by decide))
      have xl : x ≠ X.lh := Sto.inj hx1 hs1.sl (fun e => by cases e)
      refine ⟨(X.setI i true).setH h, i, x, d, (p.1, true), .non, .non, .non, rfl, Sto.ne xl (Sto.ne xd hx1), hs3, hi.setI true, ?_⟩
      have eF : MO.mi (DC K) (deskF K ((X.setI i true).setH h).h i ((p.1, true).1, false)) = .mi (DC K) (deskF K X.h i p) := by rw [show p = (p.1, false) from Prod.ext rfl z]; rfl
      rw [eF]
      dsimp only
      rw [sto_visit nd dl]
      walk_at "v"
      exact q0
end
def pf__law_visit (P : Program) (w : World) (K : PySem.W.Frag) : PSp (WS P w K W0) := fun ω ds Q E => ∃ (d : Addr) (ws : List (Str × Int)), ds = [.adr d, .lst (ws.map deedT)] ∧ ws.length ≤ 13 ∧ pf_visit P w K ω (.adr d :: ws.map deedT) Q E
section
variable {P : Program} [PG P] {w : World} {K : PySem.W.Frag} {mg : Str → Option Value} {base : Heap}
theorem ok__law_visit (c : Ctx K mg) : FnOk P w K mg base (L2N.CX P w) 8 (A__law_visit K) (fdA K (A__law_visit K)) ["_law_desk", "_law_deeds"] (spM .F K (WS P w K W0) (pf__law_visit P w K)) := by
  refine okQ (F__law_visit c) sc__law_visit (fun ω ds Q E h => ?_) (fun cdv A outer s0 H E hr tk pown => (qss_cons (qs_if (qb_cmp op_eq opEqP (qe_cB cr_len lenP rfl (n_len c) (by decide +kernel) (qa_cons (qe_va (pv 1)) qa_nil)) qe_int (nomark _))
    (qss_one (qs_retF (qe_callR (ok_visit (P := P) c) (hr.mono (by decide)) rfl (g_visit c) (F_visit c).kp (fun σ => L2N.passAt tk σ) (qa_cons (qe_va (pv 0)) qa_nil))))
    qss_nil)
  (qss_cons (qs_if (qb_cmp op_eq opEqP (qe_cB cr_len lenP rfl (n_len c) (by decide +kernel) (qa_cons (qe_va (pv 1)) qa_nil)) qe_int (nomark _))
    (qss_one (qs_retF (qe_callR (ok_visit (P := P) c) (hr.mono (by decide)) rfl (g_visit c) (F_visit c).kp (fun σ => L2N.passAt tk σ) (qa_cons (qe_va (pv 0)) (qa_cons (qe_ix ix_list ixLP (qe_va (pv 1)) qe_int (fun _ _ => rfl)) qa_nil)))))
    qss_nil)
  (qss_cons (qs_if (qb_cmp op_eq opEqP (qe_cB cr_len lenP rfl (n_len c) (by decide +kernel) (qa_cons (qe_va (pv 1)) qa_nil)) qe_int (nomark _))
    (qss_one (qs_retF (qe_callR (ok_visit (P := P) c) (hr.mono (by decide)) rfl (g_visit c) (F_visit c).kp (fun σ => L2N.passAt tk σ) (qa_cons (qe_va (pv 0)) (qa_cons (qe_ix ix_list ixLP (qe_va (pv 1)) qe_int (fun _ _ => rfl)) (qa_cons (qe_ix ix_list ixLP (qe_va (pv 1)) qe_int (fun _ _ => rfl)) qa_nil))))))
    qss_nil)
  (qss_cons (qs_if (qb_cmp op_eq opEqP (qe_cB cr_len lenP rfl (n_len c) (by decide +kernel) (qa_cons (qe_va (pv 1)) qa_nil)) qe_int (nomark _))
    (qss_one (qs_retF (qe_callR (ok_visit (P := P) c) (hr.mono (by decide)) rfl (g_visit c) (F_visit c).kp (fun σ => L2N.passAt tk σ) (qa_cons (qe_va (pv 0)) (qa_cons (qe_ix ix_list ixLP (qe_va (pv 1)) qe_int (fun _ _ => rfl)) (qa_cons (qe_ix ix_list ixLP (qe_va (pv 1)) qe_int (fun _ _ => rfl)) (qa_cons (qe_ix ix_list ixLP (qe_va (pv 1)) qe_int (fun _ _ => rfl)) qa_nil)))))))
    qss_nil)
  (qss_cons (qs_if (qb_cmp op_eq opEqP (qe_cB cr_len lenP rfl (n_len c) (by decide +kernel) (qa_cons (qe_va (pv 1)) qa_nil)) qe_int (nomark _))
    (qss_one (qs_retF (qe_callR (ok_visit (P := P) c) (hr.mono (by decide)) rfl (g_visit c) (F_visit c).kp (fun σ => L2N.passAt tk σ) (qa_cons (qe_va (pv 0)) (qa_cons (qe_ix ix_list ixLP (qe_va (pv 1)) qe_int (fun _ _ => rfl)) (qa_cons (qe_ix ix_list ixLP (qe_va (pv 1)) qe_int (fun _ _ => rfl)) (qa_cons (qe_ix ix_list ixLP (qe_va (pv 1)) qe_int (fun _ _ => rfl)) (qa_cons (qe_ix ix_list ixLP (qe_va (pv 1)) qe_int (fun _ _ => rfl)) qa_nil))))))))
    qss_nil)
  (qss_cons (qs_if (qb_cmp op_eq opEqP (qe_cB cr_len lenP rfl (n_len c) (by decide +kernel) (qa_cons (qe_va (pv 1)) qa_nil)) qe_int (nomark _))
    (qss_one (qs_retF (qe_callR (ok_visit (P := P) c) (hr.mono (by decide)) rfl (g_visit c) (F_visit c).kp (fun σ => L2N.passAt tk σ) (qa_cons (qe_va (pv 0)) (qa_cons (qe_ix ix_list ixLP (qe_va (pv 1)) qe_int (fun _ _ => rfl)) (qa_cons (qe_ix ix_list ixLP (qe_va (pv 1)) qe_int (fun _ _ => rfl)) (qa_cons (qe_ix ix_list ixLP (qe_va (pv 1)) qe_int (fun _ _ => rfl)) (qa_cons (qe_ix ix_list ixLP (qe_va (pv 1)) qe_int (fun _ _ => rfl)) (qa_cons (qe_ix ix_list ixLP (qe_va (pv 1)) qe_int (fun _ _ => rfl)) qa_nil)))))))))
    qss_nil)
  (qss_cons (qs_if (qb_cmp op_eq opEqP (qe_cB cr_len lenP rfl (n_len c) (by decide +kernel) (qa_cons (qe_va (pv 1)) qa_nil)) qe_int (nomark _))
    (qss_one (qs_retF (qe_callR (ok_visit (P := P) c) (hr.mono (by decide)) rfl (g_visit c) (F_visit c).kp (fun σ => L2N.passAt tk σ) (qa_cons (qe_va (pv 0)) (qa_cons (qe_ix ix_list ixLP (qe_va (pv 1)) qe_int (fun _ _ => rfl)) (qa_cons (qe_ix ix_list ixLP (qe_va (pv 1)) qe_int (fun _ _ => rfl)) (qa_cons (qe_ix ix_list ixLP (qe_va (pv 1)) qe_int (fun _ _ => rfl)) (qa_cons (qe_ix ix_list ixLP (qe_va (pv 1)) qe_int (fun _ _ => rfl)) (qa_cons (qe_ix ix_list ixLP (qe_va (pv 1)) qe_int (fun _ _ => rfl)) (qa_cons (qe_ix ix_list ixLP (qe_va (pv 1)) qe_int (fun _ _ => rfl)) qa_nil))))))))))
    qss_nil)
  (qss_cons (qs_if (qb_cmp op_eq opEqP (qe_cB cr_len lenP rfl (n_len c) (by decide +kernel) (qa_cons (qe_va (pv 1)) qa_nil)) qe_int (nomark _))
    (qss_one (qs_retF (qe_callR (ok_visit (P := P) c) (hr.mono (by decide)) rfl (g_visit c) (F_visit c).kp (fun σ => L2N.passAt tk σ) (qa_cons (qe_va (pv 0)) (qa_cons (qe_ix ix_list ixLP (qe_va (pv 1)) qe_int (fun _ _ => rfl)) (qa_cons (qe_ix ix_list ixLP (qe_va (pv 1)) qe_int (fun _ _ => rfl)) (qa_cons (qe_ix ix_list ixLP (qe_va (pv 1)) qe_int (fun _ _ => rfl)) (qa_cons (qe_ix ix_list ixLP (qe_va (pv 1)) qe_int (fun _ _ => rfl)) (qa_cons (qe_ix ix_list ixLP (qe_va (pv 1)) qe_int (fun _ _ => rfl)) (qa_cons (qe_ix ix_list ixLP (qe_va (pv 1)) qe_int (fun _ _ => rfl)) (qa_cons (qe_ix ix_list ixLP (qe_va (pv 1)) qe_int (fun _ _ => rfl)) qa_nil)))))))))))
    qss_nil)
  (qss_cons (qs_if (qb_cmp op_eq opEqP (qe_cB cr_len lenP rfl (n_len c) (by decide +kernel) (qa_cons (qe_va (pv 1)) qa_nil)) qe_int (nomark _))
    (qss_one (qs_retF (qe_callR (ok_visit (P := P) c) (hr.mono (by decide)) rfl (g_visit c) (F_visit c).kp (fun σ => L2N.passAt tk σ) (qa_cons (qe_va (pv 0)) (qa_cons (qe_ix ix_list ixLP (qe_va (pv 1)) qe_int (fun _ _ => rfl)) (qa_cons (qe_ix ix_list ixLP (qe_va (pv 1)) qe_int (fun _ _ => rfl)) (qa_cons (qe_ix ix_list ixLP (qe_va (pv 1)) qe_int (fun _ _ => rfl)) (qa_cons (qe_ix ix_list ixLP (qe_va (pv 1)) qe_int (fun _ _ => rfl)) (qa_cons (qe_ix ix_list ixLP (qe_va (pv 1)) qe_int (fun _ _ => rfl)) (qa_cons (qe_ix ix_list ixLP (qe_va (pv 1)) qe_int (fun _ _ => rfl)) (qa_cons (qe_ix ix_list ixLP (qe_va (pv 1)) qe_int (fun _ _ => rfl)) (qa_cons (qe_ix ix_list ixLP (qe_va (pv 1)) qe_int (fun _ _ => rfl)) qa_nil))))))))))))
    qss_nil)
  (qss_cons (qs_if (qb_cmp op_eq opEqP (qe_cB cr_len lenP rfl (n_len c) (by decide +kernel) (qa_cons (qe_va (pv 1)) qa_nil)) qe_int (nomark _))
    (qss_one (qs_retF (qe_callR (ok_visit (P := P) c) (hr.mono (by decide)) rfl (g_visit c) (F_visit c).kp (fun σ => L2N.passAt tk σ) (qa_cons (qe_va (pv 0)) (qa_cons (qe_ix ix_list ixLP (qe_va (pv 1)) qe_int (fun _ _ => rfl)) (qa_cons (qe_ix ix_list ixLP (qe_va (pv 1)) qe_int (fun _ _ => rfl)) (qa_cons (qe_ix ix_list ixLP (qe_va (pv 1)) qe_int (fun _ _ => rfl)) (qa_cons (qe_ix ix_list ixLP (qe_va (pv 1)) qe_int (fun _ _ => rfl)) (qa_cons (qe_ix ix_list ixLP (qe_va (pv 1)) qe_int (fun _ _ => rfl)) (qa_cons (qe_ix ix_list ixLP (qe_va (pv 1)) qe_int (fun _ _ => rfl)) (qa_cons (qe_ix ix_list ixLP (qe_va (pv 1)) qe_int (fun _ _ => rfl)) (qa_cons (qe_ix ix_list ixLP (qe_va (pv 1)) qe_int (fun _ _ => rfl)) (qa_cons (qe_ix ix_list ixLP (qe_va (pv 1)) qe_int (fun _ _ => rfl)) qa_nil)))))))))))))
    qss_nil)
  (qss_cons (qs_if (qb_cmp op_eq opEqP (qe_cB cr_len lenP rfl (n_len c) (by decide +kernel) (qa_cons (qe_va (pv 1)) qa_nil)) qe_int (nomark _))
    (qss_one (qs_retF (qe_callR (ok_visit (P := P) c) (hr.mono (by decide)) rfl (g_visit c) (F_visit c).kp (fun σ => L2N.passAt tk σ) (qa_cons (qe_va (pv 0)) (qa_cons (qe_ix ix_list ixLP (qe_va (pv 1)) qe_int (fun _ _ => rfl)) (qa_cons (qe_ix ix_list ixLP (qe_va (pv 1)) qe_int (fun _ _ => rfl)) (qa_cons (qe_ix ix_list ixLP (qe_va (pv 1)) qe_int (fun _ _ => rfl)) (qa_cons (qe_ix ix_list ixLP (qe_va (pv 1)) qe_int (fun _ _ => rfl)) (qa_cons (qe_ix ix_list ixLP (qe_va (pv 1)) qe_int (fun _ _ => rfl)) (qa_cons (qe_ix ix_list ixLP (qe_va (pv 1)) qe_int (fun _ _ => rfl)) (qa_cons (qe_ix ix_list ixLP (qe_va (pv 1)) qe_int (fun _ _ => rfl)) (qa_cons (qe_ix ix_list ixLP (qe_va (pv 1)) qe_int (fun _ _ => rfl)) (qa_cons (qe_ix ix_list ixLP (qe_va (pv 1)) qe_int (fun _ _ => rfl)) (qa_cons (qe_ix ix_list ixLP (qe_va (pv 1)) qe_int (fun _ _ => rfl)) qa_nil))))))))))))))
    qss_nil)
  (qss_cons (qs_if (qb_cmp op_eq opEqP (qe_cB cr_len lenP rfl (n_len c) (by decide +kernel) (qa_cons (qe_va (pv 1)) qa_nil)) qe_int (nomark _))
    (qss_one (qs_retF (qe_callR (ok_visit (P := P) c) (hr.mono (by decide)) rfl (g_visit c) (F_visit c).kp (fun σ => L2N.passAt tk σ) (qa_cons (qe_va (pv 0)) (qa_cons (qe_ix ix_list ixLP (qe_va (pv 1)) qe_int (fun _ _ => rfl)) (qa_cons (qe_ix ix_list ixLP (qe_va (pv 1)) qe_int (fun _ _ => rfl)) (qa_cons (qe_ix ix_list ixLP (qe_va (pv 1)) qe_int (fun _ _ => rfl)) (qa_cons (qe_ix ix_list ixLP (qe_va (pv 1)) qe_int (fun _ _ => rfl)) (qa_cons (qe_ix ix_list ixLP (qe_va (pv 1)) qe_int (fun _ _ => rfl)) (qa_cons (qe_ix ix_list ixLP (qe_va (pv 1)) qe_int (fun _ _ => rfl)) (qa_cons (qe_ix ix_list ixLP (qe_va (pv 1)) qe_int (fun _ _ => rfl)) (qa_cons (qe_ix ix_list ixLP (qe_va (pv 1)) qe_int (fun _ _ => rfl)) (qa_cons (qe_ix ix_list ixLP (qe_va (pv 1)) qe_int (fun _ _ => rfl)) (qa_cons (qe_ix ix_list ixLP (qe_va (pv 1)) qe_int (fun _ _ => rfl)) (qa_cons (qe_ix ix_list ixLP (qe_va (pv 1)) qe_int (fun _ _ => rfl)) qa_nil)))))))))))))))
    qss_nil)
  (qss_cons (qs_if (qb_cmp op_eq opEqP (qe_cB cr_len lenP rfl (n_len c) (by decide +kernel) (qa_cons (qe_va (pv 1)) qa_nil)) qe_int (nomark _))
    (qss_one (qs_retF (qe_callR (ok_visit (P := P) c) (hr.mono (by decide)) rfl (g_visit c) (F_visit c).kp (fun σ => L2N.passAt tk σ) (qa_cons (qe_va (pv 0)) (qa_cons (qe_ix ix_list ixLP (qe_va (pv 1)) qe_int (fun _ _ => rfl)) (qa_cons (qe_ix ix_list ixLP (qe_va (pv 1)) qe_int (fun _ _ => rfl)) (qa_cons (qe_ix ix_list ixLP (qe_va (pv 1)) qe_int (fun _ _ => rfl)) (qa_cons (qe_ix ix_list ixLP (qe_va (pv 1)) qe_int (fun _ _ => rfl)) (qa_cons (qe_ix ix_list ixLP (qe_va (pv 1)) qe_int (fun _ _ => rfl)) (qa_cons (qe_ix ix_list ixLP (qe_va (pv 1)) qe_int (fun _ _ => rfl)) (qa_cons (qe_ix ix_list ixLP (qe_va (pv 1)) qe_int (fun _ _ => rfl)) (qa_cons (qe_ix ix_list ixLP (qe_va (pv 1)) qe_int (fun _ _ => rfl)) (qa_cons (qe_ix ix_list ixLP (qe_va (pv 1)) qe_int (fun _ _ => rfl)) (qa_cons (qe_ix ix_list ixLP (qe_va (pv 1)) qe_int (fun _ _ => rfl)) (qa_cons (qe_ix ix_list ixLP (qe_va (pv 1)) qe_int (fun _ _ => rfl)) (qa_cons (qe_ix ix_list ixLP (qe_va (pv 1)) qe_int (fun _ _ => rfl)) qa_nil))))))))))))))))
    qss_nil)
  (qss_one (qs_retF (qe_callR (ok_visit (P := P) c) (hr.mono (by decide)) rfl (g_visit c) (F_visit c).kp (fun σ => L2N.passAt tk σ) (qa_cons (qe_va (pv 0)) (qa_cons (qe_ix ix_list ixLP (qe_va (pv 1)) qe_int (fun _ _ => rfl)) (qa_cons (qe_ix ix_list ixLP (qe_va (pv 1)) qe_int (fun _ _ => rfl)) (qa_cons (qe_ix ix_list ixLP (qe_va (pv 1)) qe_int (fun _ _ => rfl)) (qa_cons (qe_ix ix_list ixLP (qe_va (pv 1)) qe_int (fun _ _ => rfl)) (qa_cons (qe_ix ix_list ixLP (qe_va (pv 1)) qe_int (fun _ _ => rfl)) (qa_cons (qe_ix ix_list ixLP (qe_va (pv 1)) qe_int (fun _ _ => rfl)) (qa_cons (qe_ix ix_list ixLP (qe_va (pv 1)) qe_int (fun _ _ => rfl)) (qa_cons (qe_ix ix_list ixLP (qe_va (pv 1)) qe_int (fun _ _ => rfl)) (qa_cons (qe_ix ix_list ixLP (qe_va (pv 1)) qe_int (fun _ _ => rfl)) (qa_cons (qe_ix ix_list ixLP (qe_va (pv 1)) qe_int (fun _ _ => rfl)) (qa_cons (qe_ix ix_list ixLP (qe_va (pv 1)) qe_int (fun _ _ => rfl)) (qa_cons (qe_ix ix_list ixLP (qe_va (pv 1)) qe_int (fun _ _ => rfl)) (qa_cons (qe_ix ix_list ixLP (qe_va (pv 1)) qe_int (fun _ _ => rfl)) qa_nil))))))))))))))))))))))))))))))) (fun ω ds Q E h => ?_)
  · obtain ⟨_, _, rfl, _⟩ := h; rfl
  · skip
    obtain ⟨d, ws, rfl, h13, Qk⟩ := h
    obtain ⟨u0, st⟩ := ω
    obtain ⟨ys, ey⟩ : ∃ ys, ys = ws.map deedT := ⟨_, rfl⟩
    have hy : ys.length ≤ 13 := by rw [ey, List.length_map]; exact h13
    rw [← ey] at Qk ⊢
    clear ey h13
    walk_at "v"
    refine w_iteP (fun e0 => ?_) (fun e0 => ?_)
    · obtain rfl : ys = [] := List.length_eq_zero_iff.mp (by omega)
      walk_at "v"
      exact Qk
    walk_at "v"
    refine w_iteP (fun e1 => ?_) (fun e1 => ?_)
    · obtain ⟨y0, rfl⟩ : ∃ y0, ys = [y0] := by
        match ys, (show ys.length = 1 from by omega) with
        | [y0], _ => exact ⟨_, rfl⟩
      walk_at "v"
      exact Qk
    walk_at "v"
    refine w_iteP (fun e2 => ?_) (fun e2 => ?_)
    · obtain ⟨y0, y1, rfl⟩ : ∃ y0 y1, ys = [y0, y1] := by
        match ys, (show ys.length = 2 from by omega) with
        | [y0, y1], _ => exact ⟨_, _, rfl⟩
      walk_at "v"
      exact Qk
    walk_at "v"
    refine w_iteP (fun e3 => ?_) (fun e3 => ?_)
    · obtain ⟨y0, y1, y2, rfl⟩ : ∃ y0 y1 y2, ys = [y0, y1, y2] := by
        match ys, (show ys.length = 3 from by omega) with
        | [y0, y1, y2], _ => exact ⟨_, _, _, rfl⟩
      walk_at "v"
      exact Qk
    walk_at "v"
    refine w_iteP (fun e4 => ?_) (fun e4 => ?_)
    · obtain ⟨y0, y1, y2, y3, rfl⟩ : ∃ y0 y1 y2 y3, ys = [y0, y1, y2, y3] := by
        match ys, (show ys.length = 4 from by omega) with
        | [y0, y1, y2, y3], _ => exact ⟨_, _, _, _, rfl⟩
      walk_at "v"
      exact Qk
    walk_at "v"
    refine w_iteP (fun e5 => ?_) (fun e5 => ?_)
    · obtain ⟨y0, y1, y2, y3, y4, rfl⟩ : ∃ y0 y1 y2 y3 y4, ys = [y0, y1, y2, y3, y4] := by
        match ys, (show ys.length = 5 from by omega) with
        | [y0, y1, y2, y3, y4], _ => exact ⟨_, _, _, _, _, rfl⟩
      walk_at "v"
      exact Qk
    walk_at "v"
    refine w_iteP (fun e6 => ?_) (fun e6 => ?_)
    · obtain ⟨y0, y1, y2, y3, y4, y5, rfl⟩ : ∃ y0 y1 y2 y3 y4 y5, ys = [y0, y1, y2, y3, y4, y5] := by
        match ys, (show ys.length = 6 from by omega) with
        | [y0, y1, y2, y3, y4, y5], _ => exact ⟨_, _, _, _, _, _, rfl⟩
      walk_at "v"
      exact Qk
    walk_at "v"
    refine w_iteP (fun e7 => ?_) (fun e7 => ?_)
    · obtain ⟨y0, y1, y2, y3, y4, y5, y6, rfl⟩ : ∃ y0 y1 y2 y3 y4 y5 y6, ys = [y0, y1, y2, y3, y4, y5, y6] := by
        match ys, (show ys.length = 7 from by omega) with
        | [y0, y1, y2, y3, y4, y5, y6], _ => exact ⟨_, _, _, _, _, _, _, rfl⟩
      walk_at "v"
      exact Qk
    walk_at "v"
    refine w_iteP (fun e8 => ?_) (fun e8 => ?_)
    · obtain ⟨y0, y1, y2, y3, y4, y5, y6, y7, rfl⟩ : ∃ y0 y1 y2 y3 y4 y5 y6 y7, ys = [y0, y1, y2, y3, y4, y5, y6, y7] := by
        match ys, (show ys.length = 8 from by omega) with
        | [y0, y1, y2, y3, y4, y5, y6, y7], _ => exact ⟨_, _, _, _, _, _, _, _, rfl⟩
      walk_at "v"
      exact Qk
    walk_at "v"
    refine w_iteP (fun e9 => ?_) (fun e9 => ?_)
    · obtain ⟨y0, y1, y2, y3, y4, y5, y6, y7, y8, rfl⟩ : ∃ y0 y1 y2 y3 y4 y5 y6 y7 y8, ys = [y0, y1, y2, y3, y4, y5, y6, y7, y8] := by
        match ys, (show ys.length = 9 from by omega) with
        | [y0, y1, y2, y3, y4, y5, y6, y7, y8], _ => exact ⟨_, _, _, _, _, _, _, _, _, rfl⟩
      walk_at "v"
      exact Qk
    walk_at "v"
    refine w_iteP (fun e10 => ?_) (fun e10 => ?_)
    · obtain ⟨y0, y1, y2, y3, y4, y5, y6, y7, y8, y9, rfl⟩ : ∃ y0 y1 y2 y3 y4 y5 y6 y7 y8 y9, ys = [y0, y1, y2, y3, y4, y5, y6, y7, y8, y9] := by
        match ys, (show ys.length = 10 from by omega) with
        | [y0, y1, y2, y3, y4, y5, y6, y7, y8, y9], _ => exact ⟨_, _, _, _, _, _, _, _, _, _, rfl⟩
      walk_at "v"
      exact Qk
    walk_at "v"
    refine w_iteP (fun e11 => ?_) (fun e11 => ?_)
    · obtain ⟨y0, y1, y2, y3, y4, y5, y6, y7, y8, y9, y10, rfl⟩ : ∃ y0 y1 y2 y3 y4 y5 y6 y7 y8 y9 y10, ys = [y0, y1, y2, y3, y4, y5, y6, y7, y8, y9, y10] := by
        match ys, (show ys.length = 11 from by omega) with
        | [y0, y1, y2, y3, y4, y5, y6, y7, y8, y9, y10], _ => exact ⟨_, _, _, _, _, _, _, _, _, _, _, rfl⟩
      walk_at "v"
      exact Qk
    walk_at "v"
    refine w_iteP (fun e12 => ?_) (fun e12 => ?_)
    · obtain ⟨y0, y1, y2, y3, y4, y5, y6, y7, y8, y9, y10, y11, rfl⟩ : ∃ y0 y1 y2 y3 y4 y5 y6 y7 y8 y9 y10 y11, ys = [y0, y1, y2, y3, y4, y5, y6, y7, y8, y9, y10, y11] := by
        match ys, (show ys.length = 12 from by omega) with
        | [y0, y1, y2, y3, y4, y5, y6, y7, y8, y9, y10, y11], _ => exact ⟨_, _, _, _, _, _, _, _, _, _, _, _, rfl⟩
      walk_at "v"
      exact Qk
    walk_at "v"
    obtain ⟨y0, y1, y2, y3, y4, y5, y6, y7, y8, y9, y10, y11, y12, rfl⟩ : ∃ y0 y1 y2 y3 y4 y5 y6 y7 y8 y9 y10 y11 y12, ys = [y0, y1, y2, y3, y4, y5, y6, y7, y8, y9, y10, y11, y12] := by
      match ys, (show ys.length = 13 from by omega) with
      | [y0, y1, y2, y3, y4, y5, y6, y7, y8, y9, y10, y11, y12], _ => exact ⟨_, _, _, _, _, _, _, _, _, _, _, _, _, rfl⟩
    walk_at "v"
    exact Qk
end
def pf__law_toldV (P : Program) (w : World) (K : PySem.W.Frag) : PSp (WS P w K W0) := fun ω ds Q _ => ∃ (X : HX) (i : Nat) (d : Addr) (p : List Int × Bool) (ws : List (Str × Int)), ds = [.adr d, .lst (ws.map deedT)] ∧ ws.length ≤ 13 ∧ Hs K ω.2 X ∧ X.At i d p ∧ ∀ x : Addr, ω.2 x = none → Q ((), (ω.2.put x (stayO K d)).put X.lh (.ml (dInts (visR X i p ws).1))) (visR X i p ws).2
section
variable {P : Program} [PG P] {w : World} {K : PySem.W.Frag} {mg : Str → Option Value} {base : Heap}
theorem ok__law_told (c : Ctx K mg) : FnOk P w K mg base (L2N.CX P w) 9 (A__law_told K) (fdA K (A__law_told K)) ["_law_desk", "_law_deeds"] (spM .A K (WS P w K W0) (pf__law_toldV P w K)) := by
  refine okQ (F__law_told c) sc__law_told (fun ω ds Q E h => ?_) (fun cdv A outer s0 H E hr tk pown => (qss_one (qs_try (K := K) rfl rfl rfl tk (fun W pn xe tk pown => (qss_one (qs_ret (qe_tup (qa_cons qe_str (qa_cons (qe_FA (qe_call (pf := pf__law_visit P w K) (ok__law_visit (P := P) c) (hr.mono (by decide)) rfl (g__law_visit c) (F__law_visit c).kp (b__law_visit c) (fun σ => L2N.passAt tk σ) (qa_cons (qe_va (pv 0)) (qa_cons (qe_va (pv 1)) qa_nil)))) qa_nil))))))
    (QHd.as_ (i := 2) sc__law_told.nd rfl rfl ⟨rfl, by decide, Or.inl (g_AlreadyInside c)⟩ (fun a oe d pn x hz hf => (qss_one (qs_ret (qe_tup (qa_cons qe_str (qa_cons (qe_isE (K := K) rfl (i := 2) hz hf rfl (n_isinstance c) (pv 2) (pe_glob (v := .ref (He.ga K "HallError")) rfl (g_HallError c) rfl)) qa_nil))))))
    (QHd.as_ (i := 2) sc__law_told.nd rfl rfl ⟨rfl, by decide, Or.inl (g_NotEnough c)⟩ (fun a oe d pn x hz hf => (qss_one (qs_ret (qe_tup (qa_cons qe_str (qa_cons (qe_isE (K := K) rfl (i := 2) hz hf rfl (n_isinstance c) (pv 2) (pe_glob (v := .ref (He.ga K "HallError")) rfl (g_HallError c) rfl)) qa_nil))))))
    (QHd.as_ (i := 2) sc__law_told.nd rfl rfl ⟨rfl, by decide, Or.inl (g_RoomFull c)⟩ (fun a oe d pn x hz hf => (qss_one (qs_ret (qe_tup (qa_cons qe_str (qa_cons (qe_isE (K := K) rfl (i := 2) hz hf rfl (n_isinstance c) (pv 2) (pe_glob (v := .ref (He.ga K "HallError")) rfl (g_HallError c) rfl)) qa_nil))))))
    (QHd.as_ (i := 2) sc__law_told.nd rfl rfl ⟨rfl, by decide, Or.inl (g_BadInstruction c)⟩ (fun a oe d pn x hz hf => (qss_one (qs_ret (qe_tup (qa_cons qe_str (qa_cons (qe_fldE (xf_BadInstruction_instruction c).1 (xf_BadInstruction_instruction c).2 hz hf (pv 2)) qa_nil))))))
    (QHd.as_ (i := 2) sc__law_told.nd rfl rfl ⟨rfl, by decide, Or.inl (g_NoCell c)⟩ (fun a oe d pn x hz hf => (qss_one (qs_ret (qe_tup (qa_cons qe_str (qa_cons (qe_fldE (xf_NoCell_cell c).1 (xf_NoCell_cell c).2 hz hf (pv 2)) qa_nil))))))
    (QHd.as_ (i := 2) sc__law_told.nd rfl rfl ⟨rfl, by decide, Or.inl (g_Held c)⟩ (fun a oe d pn x hz hf => (qss_one (qs_ret (qe_tup (qa_cons qe_str (qa_cons (qe_fldE (xf_Held_holder c).1 (xf_Held_holder c).2 hz hf (pv 2)) qa_nil))))))
    (QHd.only ⟨rfl, by decide, Or.inl (g_HallError c)⟩ (fun a oe d pn x hz hf => (qss_one (qs_ret qe_non)))
    QHd.nil)))))))))) (fun ω ds Q E h => ?_)
  · obtain ⟨_, _, _, _, _, rfl, _⟩ := h; rfl
  · skip
    obtain ⟨X, i, d, p, ws, rfl, h13, hs, hi, Qk⟩ := h
    obtain ⟨u0, st⟩ := ω
    dsimp only at hs Qk
    walk_at "v"
    refine ⟨d, ws, rfl, h13, X, i, d, p, ws, rfl, by omega, hs, hi, fun x hx => ?_⟩
    have Qk := Qk x hx
    have es : (st.put x (stayO K d)).put X.lh (.ml (dInts X.held)) = st.put x (stayO K d) := Sto.self (hs.new hx).sl
    by_cases a1 : p.2 = true
    · rw [show visR X i p ws = (X.held, .tup [.str "already", .bl true]) from if_pos a1, es] at Qk
      refine .inl ⟨a1, ?_⟩
      refine v_hd (xm_AlreadyInside_AlreadyInside c) fun a dd => ?_
      walk_at "v"
      refine v_isE rfl (exC_AlreadyInside c) (kit_AlreadyInside_HallError c) ?_
      walk_at "v"
      exact Qk
    have a1' : p.2 = false := by simpa using a1
    rcases Bool.eq_false_or_eq_true (enoB X i) with a2 | a2
    rotate_left
    · rw [show visR X i p ws = (X.held, .tup [.str "not enough", .bl true]) from (if_neg a1).trans (if_pos a2), es] at Qk
      refine .inr (.inl ⟨a1', a2, ?_⟩)
      refine v_hdF (xm_NotEnough_AlreadyInside c) ?_
      refine v_hd (xm_NotEnough_NotEnough c) fun a dd => ?_
      walk_at "v"
      refine v_isE rfl (exC_NotEnough c) (kit_NotEnough_HallError c) ?_
      walk_at "v"
      exact Qk
    have a2' : ¬ enoB X i = false := by rw [a2]; decide
    by_cases a3 : X.cap ≤ (occ X).length
    · rw [show visR X i p ws = (X.held, .tup [.str "full", .bl true]) from (if_neg a1).trans ((if_neg a2').trans (if_pos a3)), es] at Qk
      refine .inr (.inr (.inl ⟨a1', a2, a3, ?_⟩))
      refine v_hdF (xm_RoomFull_AlreadyInside c) ?_
      refine v_hdF (xm_RoomFull_NotEnough c) ?_
      refine v_hd (xm_RoomFull_RoomFull c) fun a dd => ?_
      walk_at "v"
      refine v_isE rfl (exC_RoomFull c) (kit_RoomFull_HallError c) ?_
      walk_at "v"
      exact Qk
    rw [show visR X i p ws = _ from (if_neg a1).trans ((if_neg a2').trans (if_neg a3))] at Qk
    refine .inr (.inr (.inr ⟨a1', a2, by omega, ?_⟩))
    generalize runD p.1 ((i : Int) + 1) ws X.held [] = r at Qk ⊢
    refine ⟨fun e => ?_, fun e => ?_, fun e => ?_, fun e => ?_⟩
    · rw [if_pos e] at Qk
      walk_at "v"
      exact Qk
    · rw [if_neg (by omega), if_pos e] at Qk
      refine v_hdF (xm_BadInstruction_AlreadyInside c) ?_
      refine v_hdF (xm_BadInstruction_NotEnough c) ?_
      refine v_hdF (xm_BadInstruction_RoomFull c) ?_
      refine v_hd (xm_BadInstruction_BadInstruction c) fun a dd => ?_
      walk_at "v"
      refine v_fldE rfl rfl rfl ?_
      walk_at "v"
      exact Qk
    · rw [if_neg (by omega), if_neg (by omega), if_pos e] at Qk
      refine v_hdF (xm_NoCell_AlreadyInside c) ?_
      refine v_hdF (xm_NoCell_NotEnough c) ?_
      refine v_hdF (xm_NoCell_RoomFull c) ?_
      refine v_hdF (xm_NoCell_BadInstruction c) ?_
      refine v_hd (xm_NoCell_NoCell c) fun a dd => ?_
      walk_at "v"
      refine v_fldE rfl rfl rfl ?_
      walk_at "v"
      exact Qk
    · rw [if_neg (by omega), if_neg (by omega), if_neg (by omega)] at Qk
      refine v_hdF (xm_Held_AlreadyInside c) ?_
      refine v_hdF (xm_Held_NotEnough c) ?_
      refine v_hdF (xm_Held_RoomFull c) ?_
      refine v_hdF (xm_Held_BadInstruction c) ?_
      refine v_hdF (xm_Held_NoCell c) ?_
      refine v_hd (xm_Held_Held c) fun a dd => ?_
      walk_at "v"
      refine v_fldE rfl rfl rfl ?_
      walk_at "v"
      exact Qk
end
def spS : Nat → PySem.W.Frag → Sp
  | 0, _ => fun _ _ _ _ => False
  | n + 1, K => fun vs H Q _ => (∃ (v w : V) (d : D), vs = [v, w] ∧ Rep K H d v ∧ Rep K H d w ∧ d.lev n = true ∧ Q (.bl true) H) ∨ (∃ x y : Str, vs = [.str x, .str y] ∧ x ≠ y ∧ Q (.bl false) H) ∨ ∃ (i : Int) (y : Str), vs = [.int i, .str y] ∧ Q (.bl false) H
abbrev sp__law_same (K : PySem.W.Frag) : Sp := spS 9 K
theorem w_same {K : PySem.W.Frag} {H : Hp} {Q : VK} {E : XK} {v w : V} (d : D) (hv : Rep K H d v) (hw : Rep K H d w) (hd : d.lev 8 = true) (k : Q (.bl true) H) : sp__law_same K [v, w] H Q E := .inl ⟨v, w, d, rfl, hv, hw, hd, k⟩
theorem w_sameI {K : PySem.W.Frag} {H : Hp} {Q : VK} {E : XK} {i j : Int} (e : i = j) (k : Q (.bl true) H) : sp__law_same K [.int i, .int j] H Q E := w_same (.int j) (by rw [e]; exact .int j) (.int j) rfl k
theorem w_sameT {K : PySem.W.Frag} {H : Hp} {Q : VK} {E : XK} {a b : Addr} {ns : List Int} (ha : SqT K H a (ns.map V.int)) (hb : SqT K H b (ns.map V.int)) (hl : ns.length ≤ 1000000) (k : Q (.bl true) H) : sp__law_same K [.ref a, .ref b] H Q E := w_same (.tup (dInts ns)) (rep_tupI ha) (rep_tupI hb) (lev_tupI hl) k
theorem w_sameL {K : PySem.W.Frag} {H : Hp} {Q : VK} {E : XK} {a b : Addr} {ns : List Int} (ha : SqL K H a (ns.map V.int)) (hb : SqL K H b (ns.map V.int)) (hl : ns.length ≤ 1000000) (k : Q (.bl true) H) : sp__law_same K [.ref a, .ref b] H Q E := w_same (.lst (dInts ns)) (rep_lstI ha) (rep_lstI hb) (lev_lstI hl) k
theorem w_sameB {K : PySem.W.Frag} {H : Hp} {Q : VK} {E : XK} {b c : Bool} (e : b = c) (k : Q (.bl true) H) : sp__law_same K [.bl b, .bl c] H Q E := w_same (.bl c) (by rw [e]; exact .bl c) (.bl c) rfl k
section
variable {P : Program} [PG P] {w : World} {K : PySem.W.Frag} {mg : Str → Option Value} {base : Heap}
theorem okS (c : Ctx K mg) : ∀ n : Nat, FnOk P w K mg base (L2N.CX P w) n (A__law_same K) (fdA K (A__law_same K)) ["_law_actual", "_law_expected"] (spS n K) := by
  intro n
  induction n with
  | zero => exact ⟨fun _ _ _ _ h => h.elim, fun _ _ _ _ _ _ _ _ _ _ _ _ _ h => h.elim⟩
  | succ n ih =>
    refine okT (F__law_same c) sc__law_same (fun vs H Q E h => ?_) (fun cdv A outer s H vs Q E hr h tk pown => ?_)
    · rcases h with ⟨_, _, _, rfl, _⟩ | ⟨_, _, rfl, _⟩ | ⟨_, _, rfl, _⟩ <;> rfl
    · refine ⟨_, (pss_cons (ps_if (PW.pt (pw_and (pt_val (pe_callB call_isi rfl (n_isinstance c) (by decide +kernel) (pa_cons (pv 1) (pa_cons (pe_bltn (v := .ty "tuple") (u := .type "tuple") rfl (n_tuple c) (by decide +kernel) rfl) pa_nil)))) (pw_and1 (pt_not (pt_val (pe_callB call_isi rfl (n_isinstance c) (by decide +kernel) (pa_cons (pv 0) (pa_cons (pe_bltn (v := .ty "tuple") (u := .type "tuple") rfl (n_tuple c) (by decide +kernel) rfl) pa_nil))))))))
    (pss_one (ps_ret pe_bl))
    pss_nil)
  (pss_cons (ps_if (PW.pt (pw_and (pt_val (pe_callB call_isi rfl (n_isinstance c) (by decide +kernel) (pa_cons (pv 1) (pa_cons (pe_bltn (v := .ty "list") (u := .type "list") rfl (n_list c) (by decide +kernel) rfl) pa_nil)))) (pw_and1 (pt_not (pt_val (pe_callB call_isi rfl (n_isinstance c) (by decide +kernel) (pa_cons (pv 0) (pa_cons (pe_bltn (v := .ty "list") (u := .type "list") rfl (n_list c) (by decide +kernel) rfl) pa_nil))))))))
    (pss_one (ps_ret pe_bl))
    pss_nil)
  (pss_cons (ps_if (PW.pt (pw_or (pt_val (pe_callB call_isi rfl (n_isinstance c) (by decide +kernel) (pa_cons (pv 1) (pa_cons (pe_bltn (v := .ty "tuple") (u := .type "tuple") rfl (n_tuple c) (by decide +kernel) rfl) pa_nil)))) (pw_or1 (pt_val (pe_callB call_isi rfl (n_isinstance c) (by decide +kernel) (pa_cons (pv 1) (pa_cons (pe_bltn (v := .ty "list") (u := .type "list") rfl (n_list c) (by decide +kernel) rfl) pa_nil)))))))
    (pss_cons (ps_if (pt_cmpR op_ne (pe_callB cr_len rfl (n_len c) (by decide +kernel) (pa_cons (pv 0) pa_nil)) (pe_callB cr_len rfl (n_len c) (by decide +kernel) (pa_cons (pv 1) pa_nil)) (nomark _))
      (pss_one (ps_ret pe_bl))
      pss_nil)
    (pss_cons (ps_for pown rfl (pi_range1 rfl (n_range c) (pa_cons (pe_callB cr_len rfl (n_len c) (by decide +kernel) (pa_cons (pv 1) pa_nil)) pa_nil)) (pg_name (i := 2) sc__law_same.nd rfl (Or.inl rfl))
      (pss_one (ps_if (pt_not (pt_val (pe_callS ih hr rfl (g__law_same c) (F__law_same c).kp (b__law_same c) (fun σ => L2N.passAt tk σ) (pa_cons (pe_ix ix_seq (pv 0) (pv 2) (fun _ _ => rfl)) (pa_cons (pe_ix ix_seq (pv 1) (pv 2) (fun _ _ => rfl)) pa_nil)))))
        (pss_one (ps_ret pe_bl))
        pss_nil)))
    (pss_one (ps_ret pe_bl))))
    pss_nil)
  (pss_cons (ps_if (pt_val (pe_callB call_isi rfl (n_isinstance c) (by decide +kernel) (pa_cons (pv 1) (pa_cons (pe_bltn (v := .ty "bool") (u := .type "bool") rfl (n_bool c) (by decide +kernel) rfl) pa_nil))))
    (pss_one (ps_ret (pe_and (pe_callB call_isi rfl (n_isinstance c) (by decide +kernel) (pa_cons (pv 0) (pa_cons (pe_bltn (v := .ty "bool") (u := .type "bool") rfl (n_bool c) (by decide +kernel) rfl) pa_nil))) (pe_one (pe_cmpR op_eq (pv 0) (pv 1) (nomark _))))))
    pss_nil)
  (pss_cons (ps_if (pt_val (pe_callB call_isi rfl (n_isinstance c) (by decide +kernel) (pa_cons (pv 1) (pa_cons (pe_bltn (v := .ty "int") (u := .type "int") rfl (n_int c) (by decide +kernel) rfl) pa_nil))))
    (pss_one (ps_ret (pe_and (pe_callB call_isi rfl (n_isinstance c) (by decide +kernel) (pa_cons (pv 0) (pa_cons (pe_bltn (v := .ty "int") (u := .type "int") rfl (n_int c) (by decide +kernel) rfl) pa_nil))) (pe_and (pe_not (pe_callB call_isi rfl (n_isinstance c) (by decide +kernel) (pa_cons (pv 0) (pa_cons (pe_bltn (v := .ty "bool") (u := .type "bool") rfl (n_bool c) (by decide +kernel) rfl) pa_nil)))) (pe_one (pe_cmpR op_eq (pv 0) (pv 1) (nomark _)))))))
    pss_nil)
  (pss_cons (ps_if (pt_val (pe_callB call_isi rfl (n_isinstance c) (by decide +kernel) (pa_cons (pv 1) (pa_cons (pe_bltn (v := .ty "str") (u := .type "str") rfl (n_str c) (by decide +kernel) rfl) pa_nil))))
    (pss_one (ps_ret (pe_and (pe_callB call_isi rfl (n_isinstance c) (by decide +kernel) (pa_cons (pv 0) (pa_cons (pe_bltn (v := .ty "str") (u := .type "str") rfl (n_str c) (by decide +kernel) rfl) pa_nil))) (pe_one (pe_cmpR op_eq (pv 0) (pv 1) (nomark _))))))
    pss_nil)
  (pss_one (ps_ret (pe_cmpR op_isN (pv 0) pe_non (nomark _)))))))))), ?_⟩
      clear tk pown hr
      obtain ⟨v, w, d, rfl, hv, hw, hd, k⟩ | ⟨x, y, rfl, hne, k⟩ | ⟨x, y, rfl, k⟩ := h
      case inr.inr =>
        dsimp only [L2.start, N__law_same, cxOf, List.map, List.length, Nat.reduceAdd, Nat.reduceSub, List.replicate, List.cons_append, List.nil_append, List.append_nil]
        walk_at "w"
        exact k
      case inr.inl =>
        dsimp only [L2.start, N__law_same, cxOf, List.map, List.length, Nat.reduceAdd, Nat.reduceSub, List.replicate, List.cons_append, List.nil_append, List.append_nil]
        walk_at "w"
        exact w_bF (Q := Q) (decide_eq_false fun e => hne (V.str.inj e)) k
      dsimp only [L2.start, N__law_same, cxOf, List.map, List.length, Nat.reduceAdd, Nat.reduceSub, List.replicate, List.cons_append, List.nil_append, List.append_nil]
      cases d with
      | ins C ns ds => cases n <;> cases hd
      | adr a => cases n <;> cases hd
      | int i =>
        cases hv
        cases hw
        walk_at "w"
        exact w_bT (Q := Q) (decide_eq_true rfl) k
      | bl i =>
        cases hv
        cases hw
        walk_at "w"
        exact w_bT (Q := Q) (decide_eq_true rfl) k
      | str i =>
        cases hv
        cases hw
        walk_at "w"
        exact w_bT (Q := Q) (decide_eq_true rfl) k
      | non =>
        cases hv
        cases hw
        walk_at "w"
        exact ⟨rfl, k⟩
      | tup ds =>
        cases n with
        | zero => cases hd
        | succ n =>
        have hd0 : (decide (ds.length ≤ 1000000) && ds.all (D.lev n)) = true := hd
        obtain ⟨hdl, hd'⟩ := Bool.and_eq_true_iff.mp hd0
        have hdl := of_decide_eq_true hdl
        have hv0 := hv
        have hw0 := hw
        cases hv with
        | tup q1 r1 =>
        cases hw with
        | tup q2 r2 =>
        rename_i a xs a2 xs2
        have l1 := Reps.len r1
        have l2 := Reps.len r2
        walk_at "w"
        refine w_iteIN (fun e => absurd (by rw [l1, l2]) e) (fun _ => ?_)
        walk_at "w"
        refine w_rRng1N (by omega) ?_
        refine f_rng (fun i σ' H' => ∃ o, σ' = [some (.ref a), some (.ref a2), o] ∧ H' = H) ⟨none, rfl, rfl⟩ ?_ ?_
        · rintro i σ' H' hi ⟨o, rfl, rfl⟩
          rw [Int.zero_add]
          obtain ⟨d, hdi⟩ : ∃ d, ds[i]? = some d := ⟨_, List.getElem?_eq_getElem (by omega)⟩
          obtain ⟨v, hv1, hv2⟩ := reps_get r1 hdi
          obtain ⟨w, hw1, hw2⟩ := reps_get r2 hdi
          walk_at "w"
          refine .inl ⟨v, w, d, rfl, hv2, hw2, List.all_eq_true.mp hd' d (List.mem_of_getElem? hdi), ?_⟩
          walk_at "w"
          exact ⟨_, rfl, rfl⟩
        · rintro σ' H' ⟨o, rfl, rfl⟩
          walk_at "w"
          exact k
      | lst ds =>
        cases n with
        | zero => cases hd
        | succ n =>
        have hd0 : (decide (ds.length ≤ 1000000) && ds.all (D.lev n)) = true := hd
        obtain ⟨hdl, hd'⟩ := Bool.and_eq_true_iff.mp hd0
        have hdl := of_decide_eq_true hdl
        have hv0 := hv
        have hw0 := hw
        cases hv with
        | lst q1 r1 =>
        cases hw with
        | lst q2 r2 =>
        rename_i a xs a2 xs2
        have l1 := Reps.len r1
        have l2 := Reps.len r2
        walk_at "w"
        refine w_iteIN (fun e => absurd (by rw [l1, l2]) e) (fun _ => ?_)
        walk_at "w"
        refine w_rRng1N (by omega) ?_
        refine f_rng (fun i σ' H' => ∃ o, σ' = [some (.ref a), some (.ref a2), o] ∧ H' = H) ⟨none, rfl, rfl⟩ ?_ ?_
        · rintro i σ' H' hi ⟨o, rfl, rfl⟩
          rw [Int.zero_add]
          obtain ⟨d, hdi⟩ : ∃ d, ds[i]? = some d := ⟨_, List.getElem?_eq_getElem (by omega)⟩
          obtain ⟨v, hv1, hv2⟩ := reps_get r1 hdi
          obtain ⟨w, hw1, hw2⟩ := reps_get r2 hdi
          walk_at "w"
          refine .inl ⟨v, w, d, rfl, hv2, hw2, List.all_eq_true.mp hd' d (List.mem_of_getElem? hdi), ?_⟩
          walk_at "w"
          exact ⟨_, rfl, rfl⟩
        · rintro σ' H' ⟨o, rfl, rfl⟩
          walk_at "w"
          exact k
theorem ok__law_same (c : Ctx K mg) : FnOk P w K mg base (L2N.CX P w) 9 (A__law_same K) (fdA K (A__law_same K)) ["_law_actual", "_law_expected"] (sp__law_same K) := okS c 9
theorem okp__law_same (c : Ctx K mg) : FnOk P w K mg base (L2N.CX P w) 9 (A__law_same K) (fdA K (A__law_same K)) ["_law_actual", "_law_expected"] (spM .A K W0 pf__law_same) := (ok__law_same c).imp fun _ _ _ _ h => from_same h
end
section
variable {P : Program} [PG P] {w : World} {K : PySem.W.Frag} {mg : Str → Option Value} {base : Heap}
theorem ok_Hall_contents (c : Ctx K mg) : FnOk P w K mg base (L2N.CX P w) 1 (A_Hall_contents K) (fdA K (A_Hall_contents K)) ["self"] (spM .A K (WS P w K W0) (pf_Hall_contents P w K)) := by
  refine okQ (F_Hall_contents c) sc_Hall_contents (fun ω ds Q E h => ?_) (fun cdv A outer s0 H E hr tk pown => (qss_one (qs_ret (qe_cTS (K := K) (P := P) (w := w) rfl cr_tuple tupleP rfl (n_tuple c) (by decide +kernel) (qa_cons (qe_fldS (K := K) (P := P) (w := w) rfl (qe_va (pv 0)) (cl_Hall c) (na_Hall_held c)) qa_nil))))) (fun ω ds Q E h => ?_)
  · obtain ⟨_, rfl, _⟩ := h; rfl
  · skip
    obtain ⟨X, rfl, hs, Qk⟩ := h
    obtain ⟨u0, st⟩ := ω
    dsimp only at hs Qk
    have s1 := hs.sh
    have s2 := hs.sl
    have s3 := hs.sd
    walk_at "v"
    exact Qk
end
section
variable {P : Program} [PG P] {w : World} {K : PySem.W.Frag} {mg : Str → Option Value} {base : Heap}
theorem ok_Hall_free (c : Ctx K mg) : FnOk P w K mg base (L2N.CX P w) 1 (A_Hall_free K) (fdA K (A_Hall_free K)) ["self"] (spM .A K (WS P w K W0) (pf_Hall_free P w K)) := by
  refine okQ (F_Hall_free c) sc_Hall_free (fun ω ds Q E h => ?_) (fun cdv A outer s0 H E hr tk pown => (qss_one (qs_ret (qe_bmLS (K := K) (P := P) (w := w) rfl PySem.F.slot_list_count PySem.F.type_list_count mt_lcount lcountP (qe_fldS (K := K) (P := P) (w := w) rfl (qe_va (pv 0)) (cl_Hall c) (na_Hall_held c)) (qa_cons qe_int qa_nil))))) (fun ω ds Q E h => ?_)
  · obtain ⟨_, rfl, _⟩ := h; rfl
  · skip
    obtain ⟨X, rfl, hs, Qk⟩ := h
    obtain ⟨u0, st⟩ := ω
    dsimp only at hs Qk
    have s1 := hs.sh
    have s2 := hs.sl
    have s3 := hs.sd
    walk_at "v"
    exact Qk
end
section
variable {P : Program} [PG P] {w : World} {K : PySem.W.Frag} {mg : Str → Option Value} {base : Heap}
theorem ok_Desk_behind (c : Ctx K mg) : FnOk P w K mg base (L2N.CX P w) 3 (A_Desk_behind K) (fdA K (A_Desk_behind K)) ["self"] (spM .A K (WS P w K W0) (pf_Desk_behind P w K)) := by
  refine okQ (F_Desk_behind c) sc_Desk_behind (fun ω ds Q E h => ?_) (fun cdv A outer s0 H E hr tk pown => (qss_one (qs_ret (qe_cmp op_gt opI0_bl (qe_cB (cr_max rfl) maxP rfl (n_max c) (by decide +kernel) (qa_cons (qe_lcP (own := [("desk", 1)]) rfl sc_Desk_behind.nd (qip_sto rfl (qe_fldS (K := K) (P := P) (w := w) rfl (qe_fldS (K := K) (P := P) (w := w) rfl (qe_va (pv 0)) (cl_Desk c) (na_Desk_hall c)) (cl_Hall c) (na_Hall_desks c))) (blkOk_by (N := N_Desk_behind) (sc := defScope s_Desk_behind) (by decide +kernel)) (fun _ _ _ _ _ => (qg_name (i := 1) sc_Desk_behind.nd rfl (Or.inl rfl))) (fun _ _ _ _ _ => qts_nil) (fun _ _ _ _ _ => (qe_bmLS (K := K) (P := P) (w := w) rfl PySem.F.slot_list_count PySem.F.type_list_count mt_lcount lcountP (qe_fldS (K := K) (P := P) (w := w) rfl (qe_fldS (K := K) (P := P) (w := w) rfl (qe_va (pv 0)) (cl_Desk c) (na_Desk_hall c)) (cl_Hall c) (na_Hall_held c)) (qa_cons (qe_fldS (K := K) (P := P) (w := w) rfl (qe_va (pv 1)) (cl_Desk c) (na_Desk_number c)) qa_nil)))) qa_nil)) (qe_propS (K := K) (P := P) (w := w) rfl (qe_va (pv 0)) (cl_Desk c) (prp_Desk_share c) (ok_Desk_share (P := P) c) (hr.mono (by decide)) (b_Desk_share c)) (nomark _))))) (fun ω ds Q E h => ?_)
  · obtain ⟨_, _, _, _, rfl, _⟩ := h; rfl
  · skip
    obtain ⟨X, i, d, p, rfl, hs, hi, Qk⟩ := h
    obtain ⟨u0, st⟩ := ω
    dsimp only at hs Qk
    have s1 := hs.sh
    have s2 := hs.sl
    have s3 := hs.sd
    have s4 := hs.nd hi
    obtain ⟨hn, hnl⟩ := hs.num i p hi.2
    have n12 := hs.n12
    have six := hs.six
    have hld : (X.da.map D.adr).length = X.da.length := List.length_map _
    walk_at "v"
    refine v_kLcPNM (fun j => .int (shr X j)) (by rw [hld]; omega) rfl s3 (fun j e Q' hd hq => ?_) ?_
    · rw [List.getElem?_map] at hd
      obtain ⟨a, ha, rfl⟩ := Option.map_eq_some_iff.mp hd
      obtain ⟨a', q, hj⟩ := hs.at_ (List.getElem?_eq_some_iff.mp ha).1
      obtain rfl : a' = a := Option.some.inj (hj.1.symm.trans ha)
      have s5 := hs.nd hj
      walk_at "v"
      refine ⟨rfl, ?_⟩
      walk_at "v"
      exact hq
    rw [hld]
    walk_at "v"
    have e : (List.range X.da.length).map (fun j => D.int (shr X j)) = dInts (shares X) := by
      unfold shares dInts
      rw [List.map_map] <;> rfl
    rw [e]
    have hlen : (shares X).length = X.da.length := by unfold shares; rw [List.length_map, List.length_range]
    refine ⟨shares X, rfl, by rw [hlen]; have := hi.lt; omega, fun m hm hmax => ?_⟩
    walk_at "v"
    refine ⟨X, i, d, p, rfl, hs, hi, ?_⟩
    walk_at "v"
    have eb : decide (shr X i < m) = behB X i := by
      unfold behB
      by_cases z : shr X i < m
      · rw [decide_eq_true z]
        exact (List.any_eq_true.mpr ⟨m, hm, decide_eq_true z⟩).symm
      · rw [decide_eq_false z]
        refine (List.any_eq_false.mpr fun y hy => ?_).symm
        have := hmax y hy
        simp
        omega
    rw [eb]
    exact Qk
end
def pf__law_looksI (P : Program) (w : World) (K : PySem.W.Frag) : PSp (WS P w K W0) := fun ω ds Q _ => ∃ (X : HX) (cc : Addr) (ins : List Int), ds = [.adr X.h, .lst (X.da.map D.adr), .adr cc, .lst (dInts ins), .int X.cap] ∧ Hs K ω.2 X ∧ ω.2 cc = some (.ml (dInts X.held)) ∧ ins.Perm (occ X) ∧ Q ω (.bl true)
theorem occ_sorted {X : HX} : (occ X).Pairwise (· ≤ ·) := by
  unfold occ
  rw [List.pairwise_map]
  exact (List.Pairwise.filter _ List.pairwise_lt_range).imp fun h => by omega
theorem occ_len {X : HX} : (occ X).length ≤ X.da.length := by
  unfold occ
  rw [List.length_map]
  exact Nat.le_trans (List.length_filter_le _ _) (Nat.le_of_eq List.length_range)
theorem occ_eq {X : HX} {ins l : List Int} (h : ins.Perm (occ X)) (p : l.Perm ins) (s : l.Pairwise (· ≤ ·)) : l = occ X := List.Perm.eq_of_pairwise (le := (· ≤ ·)) (fun a b _ _ h1 h2 => Int.le_antisymm h1 h2) s occ_sorted (p.trans h)
theorem shares_rg {X : HX} : (rg X.da.length).map (fun y => D.int ((X.held.count (y + 1) : Nat) : Int)) = dInts (shares X) := by
  unfold shares dInts rg
  rw [List.map_map, List.map_map] <;> rfl
theorem beh_max {X : HX} {i : Nat} {m : Int} (hm : m ∈ shares X) (hmax : ∀ y ∈ shares X, y ≤ m) : decide (shr X i < m) = behB X i := by
  unfold behB
  by_cases z : shr X i < m
  · rw [decide_eq_true z]
    exact (List.any_eq_true.mpr ⟨m, hm, decide_eq_true z⟩).symm
  · rw [decide_eq_false z]
    refine (List.any_eq_false.mpr fun y hy => ?_).symm
    have := hmax y hy
    simp
    omega
theorem shares_at {X : HX} {i : Nat} (hi : i < X.da.length) : atI (dInts (shares X)) i = some (.int (shr X i)) := by
  refine atI_of (by omega) ?_
  unfold dInts shares
  rw [Int.toNat_natCast, List.getElem?_map, List.getElem?_map, List.getElem?_range hi] <;> rfl
section
variable {P : Program} [PG P] {w : World} {K : PySem.W.Frag} {mg : Str → Option Value} {base : Heap}
theorem ok__law_looks (c : Ctx K mg) : FnOk P w K mg base (L2N.CX P w) 10 (A__law_looks K) (fdA K (A__law_looks K)) ["_law_hall", "_law_desks", "_law_contents", "_law_inside", "_law_capacity"] (spM .A K (WS P w K W0) (pf__law_looksI P w K)) := by
  refine okQ (F__law_looks c) sc__law_looks (fun ω ds Q E h => ?_) (fun cdv A outer s0 H E hr tk pown => (qss_cons (qs_if (QW.toB (qw_or (qb_not (qb_val (qe_call (FnOk.inW (okp__law_same (P := P) c) (WS P w K W0)) (hr.mono (by decide)) rfl (g__law_same c) (F__law_same c).kp (b__law_same c) (fun σ => L2N.passAt tk σ) (qa_cons (qe_propS (K := K) (P := P) (w := w) rfl (qe_va (pv 0)) (cl_Hall c) (prp_Hall_contents c) (ok_Hall_contents (P := P) c) (hr.mono (by decide)) (b_Hall_contents c)) (qa_cons (qe_cTS (K := K) (P := P) (w := w) rfl cr_tuple tupleP rfl (n_tuple c) (by decide +kernel) (qa_cons (qe_va (pv 2)) qa_nil)) qa_nil))))) (qw_or1 (qb_not (qb_val (qe_call (FnOk.inW (okp__law_same (P := P) c) (WS P w K W0)) (hr.mono (by decide)) rfl (g__law_same c) (F__law_same c).kp (b__law_same c) (fun σ => L2N.passAt tk σ) (qa_cons (qe_propS (K := K) (P := P) (w := w) rfl (qe_va (pv 0)) (cl_Hall c) (prp_Hall_free c) (ok_Hall_free (P := P) c) (hr.mono (by decide)) (b_Hall_free c)) (qa_cons (qe_bmLS (K := K) (P := P) (w := w) rfl PySem.F.slot_list_count PySem.F.type_list_count mt_lcount lcountP (qe_va (pv 2)) (qa_cons qe_int qa_nil)) qa_nil))))))))
    (qss_one (qs_ret qe_bl))
    qss_nil)
  (qss_cons (qs_if (QW.toB (qw_or (qb_not (qb_val (qe_call (FnOk.inW (okp__law_same (P := P) c) (WS P w K W0)) (hr.mono (by decide)) rfl (g__law_same c) (F__law_same c).kp (b__law_same c) (fun σ => L2N.passAt tk σ) (qa_cons (qe_propS (K := K) (P := P) (w := w) rfl (qe_va (pv 0)) (cl_Hall c) (prp_Hall_capacity c) (ok_Hall_capacity (P := P) c) (hr.mono (by decide)) (b_Hall_capacity c)) (qa_cons (qe_va (pv 4)) qa_nil))))) (qw_or1 (qb_not (qb_val (qe_call (FnOk.inW (okp__law_same (P := P) c) (WS P w K W0)) (hr.mono (by decide)) rfl (g__law_same c) (F__law_same c).kp (b__law_same c) (fun σ => L2N.passAt tk σ) (qa_cons (qe_propS (K := K) (P := P) (w := w) rfl (qe_va (pv 0)) (cl_Hall c) (prp_Hall_occupants c) (ok_Hall_occupants (P := P) c) (hr.mono (by decide)) (b_Hall_occupants c)) (qa_cons (qe_cT cr_tuple tupleP rfl (n_tuple c) (by decide +kernel) (qa_cons (qe_cB cr_sortedA sortedP rfl (n_sorted c) (by decide +kernel) (qa_cons (qe_va (pv 3)) qa_nil)) qa_nil)) qa_nil))))))))
    (qss_one (qs_ret qe_bl))
    qss_nil)
  (qss_cons (qs_setLc (i := 5) (own := [("_law_k", 6)]) rfl sc__law_looks.nd rfl rfl (sw_true rfl rfl rfl (by decide +kernel)) (qi_rg1 rfl (n_range c) (qe_cB cr_len lenP rfl (n_len c) (by decide +kernel) (qa_cons (qe_va (pv 1)) qa_nil))) (blkOk_by (N := N__law_looks) (sc := defScope s__law_looks) (by decide +kernel)) (fun _ _ _ _ _ => (qg_name (i := 6) sc__law_looks.nd rfl (Or.inl rfl))) (fun _ _ _ _ _ => qts_nil) (fun _ _ _ _ _ => (qe_bmLS (K := K) (P := P) (w := w) rfl PySem.F.slot_list_count PySem.F.type_list_count mt_lcount lcountP (qe_va (pv 2)) (qa_cons (qe_op op_add opI0_int (qe_va (pv 6)) qe_int) qa_nil))))
  (qss_cons (qs_for pown rfl (qi_rg1 rfl (n_range c) (qe_cB cr_len lenP rfl (n_len c) (by decide +kernel) (qa_cons (qe_va (pv 1)) qa_nil))) (qg_name (i := 6) sc__law_looks.nd rfl (Or.inl rfl))
    (qss_cons (qs_set (i := 7) sc__law_looks.nd rfl (Or.inl rfl) (qe_cmp op_gt opI0_bl (qe_op op_mul opI_int (qe_op op_add opI0_int (qe_va (pv 4)) qe_int) (qe_ix ix_list ixLP (qe_va (pv 5)) (qe_va (pv 6)) (fun _ _ => rfl))) (qe_cBS (K := K) (P := P) (w := w) rfl cr_len lenP rfl (n_len c) (by decide +kernel) (qa_cons (qe_va (pv 2)) qa_nil)) (nomark _)))
    (qss_cons (qs_if (qb_not (qb_val (qe_call (FnOk.inW (okp__law_same (P := P) c) (WS P w K W0)) (hr.mono (by decide)) rfl (g__law_same c) (F__law_same c).kp (b__law_same c) (fun σ => L2N.passAt tk σ) (qa_cons (qe_lst (qa_cons (qe_propS (K := K) (P := P) (w := w) rfl (qe_ix ix_list ixLP (qe_va (pv 1)) (qe_va (pv 6)) (fun _ _ => rfl)) (cl_Desk c) (prp_Desk_share c) (ok_Desk_share (P := P) c) (hr.mono (by decide)) (b_Desk_share c)) (qa_cons (qe_propS (K := K) (P := P) (w := w) rfl (qe_ix ix_list ixLP (qe_va (pv 1)) (qe_va (pv 6)) (fun _ _ => rfl)) (cl_Desk c) (prp_Desk_enough c) (ok_Desk_enough (P := P) c) (hr.mono (by decide)) (b_Desk_enough c)) qa_nil))) (qa_cons (qe_lst (qa_cons (qe_ix ix_list ixLP (qe_va (pv 5)) (qe_va (pv 6)) (fun _ _ => rfl)) (qa_cons (qe_va (pv 7)) qa_nil))) qa_nil)))))
      (qss_one (qs_ret qe_bl))
      qss_nil)
    (qss_one (qs_if (qb_not (qb_val (qe_call (FnOk.inW (okp__law_same (P := P) c) (WS P w K W0)) (hr.mono (by decide)) rfl (g__law_same c) (F__law_same c).kp (b__law_same c) (fun σ => L2N.passAt tk σ) (qa_cons (qe_propS (K := K) (P := P) (w := w) rfl (qe_ix ix_list ixLP (qe_va (pv 1)) (qe_va (pv 6)) (fun _ _ => rfl)) (cl_Desk c) (prp_Desk_behind c) (ok_Desk_behind (P := P) c) (hr.mono (by decide)) (b_Desk_behind c)) (qa_cons (qe_cmp op_gt opI0_bl (qe_cB (cr_max rfl) maxP rfl (n_max c) (by decide +kernel) (qa_cons (qe_va (pv 5)) qa_nil)) (qe_ix ix_list ixLP (qe_va (pv 5)) (qe_va (pv 6)) (fun _ _ => rfl)) (nomark _)) qa_nil)))))
      (qss_one (qs_ret qe_bl))
      qss_nil)))))
  (qss_one (qs_ret qe_bl))))))) (fun ω ds Q E h => ?_)
  · obtain ⟨_, _, _, rfl, _⟩ := h; rfl
  · skip
    obtain ⟨X, cc, ins, rfl, hs, m2, hin, Qk⟩ := h
    obtain ⟨u0, st⟩ := ω
    dsimp only at hs m2 Qk
    have s1 := hs.sh
    have six := hs.six
    have n12 := hs.n12
    have c1 := hs.c1
    have c6 := hs.c6
    have hld : (X.da.map D.adr).length = X.da.length := List.length_map _
    have hol := occ_len (X := X)
    walk_at "v"
    refine ⟨X, rfl, hs, ?_⟩
    walk_at "v"
    refine v_same rfl (lev_tupI (by omega)) ?_
    walk_at "v"
    refine ⟨X, rfl, hs, ?_⟩
    walk_at "v"
    refine v_same rfl rfl ?_
    walk_at "v"
    refine ⟨X, rfl, hs, ?_⟩
    walk_at "v"
    refine v_same rfl rfl ?_
    walk_at "v"
    refine ⟨X, rfl, hs, ?_⟩
    walk_at "v"
    refine v_sorted (by rw [hin.length_eq]; omega) fun l lp ls => ?_
    rw [occ_eq hin lp ls]
    walk_at "v"
    refine v_same rfl (lev_tupI (by omega)) ?_
    walk_at "v"
    rw [hld, rgI_rg]
    refine v_kLcMI (fun y => D.int ((X.held.count (y + 1) : Nat) : Int)) (by rw [length_rg]; omega) rfl (fun i y Q' hd hq => ?_) ?_
    · walk_at "v"
      refine ⟨rfl, ?_⟩
      walk_at "v"
      exact hq
    rw [shares_rg]
    walk_at "v"
    rw [hld]
    walk_at "v"
    refine v_kForR (fun i ω ρ => ∃ o6 o7, ω = (u0, st) ∧ ρ = [.va (.adr X.h), .va (.lst (X.da.map D.adr)), .va (.adr cc), .va (.lst (dInts ins)), .va (.int X.cap), .va (.lst (dInts (shares X))), o6, o7]) ⟨_, _, rfl, rfl⟩ (fun i ω ρ hi ⟨o6, o7, hω, hρ⟩ => ?_) (fun ω ρ ⟨o6, o7, hω, hρ⟩ => ?_)
    · subst hω hρ
      obtain ⟨d, p, hd⟩ := hs.at_ hi
      have s4 := hs.nd hd
      have hsh : shr X i ≤ 12 := by
        have := List.count_le_length (a := (i : Int) + 1) (l := X.held)
        show ((X.held.count ((i : Int) + 1) : Nat) : Int) ≤ 12
        omega
      have hsh0 : 0 ≤ shr X i := Int.natCast_nonneg _
      have atd : atI (X.da.map D.adr) i = some (.adr d) := atI_of (by omega) (by rw [Int.toNat_natCast, List.getElem?_map, hd.1] <;> rfl)
      walk_at "v"
      refine v_ixL (shares_at hi) ?_
      walk_at "v"
      rw [length_dInts]
      refine v_ixL atd ?_
      walk_at "v"
      refine ⟨X, i, d, p, rfl, hs, hd, ?_⟩
      walk_at "v"
      refine v_ixL atd ?_
      walk_at "v"
      refine ⟨X, i, d, p, rfl, hs, hd, ?_⟩
      walk_at "v"
      refine v_ixL (shares_at hi) ?_
      walk_at "v"
      refine v_same rfl rfl ?_
      walk_at "v"
      refine v_ixL atd ?_
      walk_at "v"
      refine ⟨X, i, d, p, rfl, hs, hd, ?_⟩
      walk_at "v"
      refine ⟨shares X, rfl, by unfold shares; rw [List.length_map, List.length_range]; omega, fun m hm' hmax => ?_⟩
      walk_at "v"
      refine v_ixL (shares_at hi) ?_
      walk_at "v"
      rw [beh_max hm' hmax]
      refine v_same rfl rfl ?_
      walk_at "v"
      exact ⟨_, _, rfl, rfl⟩
    subst hω hρ
    walk_at "v"
    exact Qk
end
theorem zeros_eq (n : Nat) : (dInts (rg n)).map (fun _ => D.int 0) = dInts (List.replicate n 0) := by
  unfold dInts
  rw [List.map_map, List.map_replicate]
  exact (List.map_const' (l := rg n) (b := D.int 0)).trans (by rw [length_rg])
structure Mn19 (K : PySem.W.Frag) (st : Sto) (X : HX) (cc : Addr) (ins : List Int) (os : List (List Int)) (h : Addr) (n : Nat) : Prop where
  hs : Hs K st X
  eh : X.h = h
  ehl : X.held.length = n
  sc : st cc = some (.ml (dInts X.held))
  cl : cc ≠ X.lh
  cd : cc ≠ X.ld
  pm : ins.Perm (occ X)
  eo : ∀ (i : Nat) (p : List Int × Bool), X.nu[i]? = some p → os[i]? = some p.1
  l1 : 1 ≤ X.da.length
  l3 : X.da.length ≤ 3
section
variable {K : PySem.W.Frag} {st st' : Sto} {X : HX} {cc h d x : Addr} {ins hd o : List Int} {os : List (List Int)} {n i : Nat} {p : List Int × Bool} {c : Int}
theorem Mn19.inIff (H : Mn19 K st X cc ins os h n) (hi : X.At i d p) : ((i : Int) + 1) ∈ ins ↔ p.2 = true := H.pm.mem_iff.trans (in_occ hi)
theorem Mn19.insL (H : Mn19 K st X cc ins os h n) : ins.length = (occ X).length := H.pm.length_eq
theorem occ_lenV {X : HX} : (occ X).length ≤ X.da.length := by
  unfold occ
  rw [List.length_map]
  exact Nat.le_trans (List.length_filter_le _ _) (Nat.le_of_eq List.length_range)
theorem Mn19.ins3 (H : Mn19 K st X cc ins os h n) : ins.length ≤ 3 := by
  have := H.l3
  have h1 := occ_lenV (X := X)
  have h2 := H.insL
  omega
theorem Mn19.eoI (H : Mn19 K st X cc ins os h n) (hi : X.At i d p) (b : Bool) : ∀ (j : Nat) (q : List Int × Bool), (X.setI i b).nu[j]? = some q → os[j]? = some q.1 := fun j q hq => by
  have hq' : (X.nu.set i ((X.nu.getD i ([], false)).1, b))[j]? = some q := hq
  have ep : X.nu.getD i ([], false) = p := by rw [List.getD_eq_getElem?_getD, hi.2] <;> rfl
  rw [List.getElem?_set, ep] at hq'
  by_cases z : i = j
  · subst z
    rw [if_pos rfl, if_pos (by rw [← H.hs.len]; exact hi.lt)] at hq'
    cases Option.some.inj hq'
    exact H.eo i p hi.2
  · rw [if_neg z] at hq'
    exact H.eo j q hq'
theorem Mn19.enter (H : Mn19 K st X cc ins os h n) (hi : X.At i d p) (hp : p.2 = false) : Mn19 K (st.put d (.mi (DC K) (deskF K X.h i (p.1, true)))) (X.setI i true) cc (ins ++ [(i : Int) + 1]) os h n :=
  ⟨H.hs.setI hi true, H.eh, H.ehl, Sto.ne (Sto.inj H.sc (H.hs.nd hi) ml_mi) H.sc, H.cl, H.cd, occ_in H.hs hi hp H.pm, H.eoI hi true, H.l1, H.l3⟩
theorem Mn19.leave (H : Mn19 K st X cc ins os h n) (hi : X.At i d p) : Mn19 K (st.put d (.mi (DC K) (deskF K X.h i (p.1, false)))) (X.setI i false) cc (ins.erase ((i : Int) + 1)) os h n :=
  ⟨H.hs.setI hi false, H.eh, H.ehl, Sto.ne (Sto.inj H.sc (H.hs.nd hi) ml_mi) H.sc, H.cl, H.cd, occ_out H.hs hi H.pm, H.eoI hi false, H.l1, H.l3⟩
theorem Mn19.chg (H : Mn19 K st X cc ins os h n) (h1 : 1 ≤ c) (h6 : c ≤ 6) : Mn19 K (st.put X.h (.mi (HC K) (hallF X.h X.lh X.ld c))) (X.setC c) cc ins os h n :=
  ⟨H.hs.setC h1 h6, H.eh, H.ehl, Sto.ne (Sto.inj H.sc H.hs.sh ml_mi) H.sc, H.cl, H.cd, H.pm, H.eo, H.l1, H.l3⟩
/-- both lists are written -/
theorem Mn19.mv (H : Mn19 K st X cc ins os h n) (hl : hd.length = n) : Mn19 K ((st.put cc (.ml (dInts hd))).put X.lh (.ml (dInts hd))) (X.setH hd) cc ins os h n :=
  ⟨(H.hs.off (m := .ml (dInts hd)) H.sc H.cl H.cd).setH (hl.trans H.ehl.symm), H.eh, hl, Sto.ne H.cl Sto.same, H.cl, H.cd, H.pm, H.eo, H.l1, H.l3⟩
/-- a visit -/
theorem Mn19.vis (H : Mn19 K st X cc ins os h n) (hl : hd.length = n) (hx : (st.put cc (.ml (dInts hd))) x = none) : Mn19 K (((st.put cc (.ml (dInts hd))).put x (stayO K d)).put X.lh (.ml (dInts hd))) (X.setH hd) cc ins os h n :=
  ⟨((H.hs.off (m := .ml (dInts hd)) H.sc H.cl H.cd).new hx).setH (hl.trans H.ehl.symm), H.eh, hl, Sto.ne H.cl (Sto.ne (Sto.apart Sto.same hx) Sto.same), H.cl, H.cd, H.pm, H.eo, H.l1, H.l3⟩
end
section
variable {P : Program} [PG P] {w : World} {K : PySem.W.Frag} {mg : Str → Option Value} {base : Heap}
theorem okl_law (c : Ctx K mg) : FnOk P w K mg base (L2N.CX P w) 11 (A_law K) (fdA K (A_law K)) ["_law_script"] (spM .A K (WS P w K (WT K)) (locP P w K (pf_law K))) := by
  refine okQ (F_law c) sc_law (fun ω ds Q E h => ?_) (fun cdv A outer s0 H E hr tk pown => (qss_cons (qs_set (i := 1) sc_law.nd rfl (Or.inr rfl) (qe_call (FnOk.inL (okp__law_begin (P := P) c)) (hr.mono (by decide)) rfl (g__law_begin c) (F__law_begin c).kp (b__law_begin c) (fun σ => L2N.passAt tk σ) (qa_cons (qe_va (pv 0)) qa_nil)))
  (qss_cons (qs_set (i := 2) sc_law.nd rfl (Or.inr rfl) (qe_op op_add opI0_int qe_int (qe_call (FnOk.inL (okp__law_draw (P := P) c)) (hr.mono (by decide)) rfl (g__law_draw c) (F__law_draw c).kp (b__law_draw c) (fun σ => L2N.passAt tk σ) (qa_cons (qe_va (pv 1)) (qa_cons qe_int qa_nil)))))
  (qss_cons (qs_set (i := 3) sc_law.nd rfl (Or.inl rfl) (qe_op op_add opI0_int qe_int (qe_call (FnOk.inL (okp__law_draw (P := P) c)) (hr.mono (by decide)) rfl (g__law_draw c) (F__law_draw c).kp (b__law_draw c) (fun σ => L2N.passAt tk σ) (qa_cons (qe_va (pv 1)) (qa_cons qe_int qa_nil)))))
  (qss_cons (qs_set (i := 4) sc_law.nd rfl (Or.inr rfl) (qe_makeS (K := K) (P := P) (w := w) rfl (qe_adr (pe_glob (v := .ref (He.ga K "Hall")) rfl (g_Hall c) rfl)) (mk_Hall c) (FnR.inR (w := w) (rawF (ok_Hall___init__ (P := P) (w := w) (base := base) c) (b_Hall___init__ c)) (WT K)) (hr.mono (by decide)) (fun σ => L2N.passAt tk σ) (qa_cons (qe_va (pv 2)) (qa_cons (qe_va (pv 3)) qa_nil))))
  (qss_cons (qs_setLc (i := 5) (own := [("_law_k", 15)]) rfl sc_law.nd rfl rfl (sw_true rfl rfl rfl (by decide +kernel)) (qi_rg1 rfl (n_range c) (qe_op op_add opI0_int qe_int (qe_call (FnOk.inL (okp__law_draw (P := P) c)) (hr.mono (by decide)) rfl (g__law_draw c) (F__law_draw c).kp (b__law_draw c) (fun σ => L2N.passAt tk σ) (qa_cons (qe_va (pv 1)) (qa_cons qe_int qa_nil))))) (blkOk_by (N := N_law) (sc := defScope s_law) (by decide +kernel)) (fun _ _ _ _ _ => (qg_name (i := 15) sc_law.nd rfl (Or.inl rfl))) (fun _ _ _ _ _ => qts_nil) (fun _ _ _ _ _ => (qe_FA (qe_call (FnOk.inL (okp__law_shuffled (P := P) c)) (hr.mono (by decide)) rfl (g__law_shuffled c) (F__law_shuffled c).kp (b__law_shuffled c) (fun _ => passAt0 _) (qa_cons (qe_va (pv 1)) (qa_cons (qe_va (pv 2)) qa_nil))))))
  (qss_cons (qs_setLc (i := 6) (own := [("_law_places", 13)]) rfl sc_law.nd rfl rfl (sw_true rfl rfl rfl (by decide +kernel)) (qi_lst (qe_va (pv 5))) (blkOk_by (N := N_law) (sc := defScope s_law) (by decide +kernel)) (fun _ _ _ _ _ => (qg_name (i := 13) sc_law.nd rfl (Or.inl rfl))) (fun _ _ _ _ _ => qts_nil) (fun _ _ _ _ _ => (qe_methS (K := K) (P := P) (w := w) rfl (qe_va (pv 4)) (cl_Hall c) (me_Hall_add_worker c) (FnR.inR (w := w) (rawF (ok_Hall_add_worker (P := P) (w := w) (base := base) c) (b_Hall_add_worker c)) (WT K)) (hr.mono (by decide)) (fun _ => passAt0 _) (qa_cons (qe_make (qe_adr (pe_glob (v := .ref (He.ga K "Numbering")) rfl (g_Numbering c) rfl)) (mk_Numbering c) (rawF (ok_Numbering___init__ (P := P) c) (b_Numbering___init__ c)) (mkp_Numbering c) (hr.mono (by decide)) (fun _ => passAt0 _) (qa_cons (qe_cT cr_list listP rfl (n_list c) (by decide +kernel) (qa_cons (qe_va (pv 13)) qa_nil)) qa_nil)) qa_nil))))
  (qss_cons (qs_setLcO (i := 7) (own := [("_law_k", 15)]) rfl sc_law.nd rfl rfl (sw_true rfl rfl rfl (by decide +kernel)) (qi_rg1 rfl (n_range c) (qe_va (pv 2))) (blkOk_by (N := N_law) (sc := defScope s_law) (by decide +kernel)) (fun _ _ _ _ _ => (qg_name (i := 15) sc_law.nd rfl (Or.inl rfl))) (fun _ _ _ _ _ => qts_nil) (fun _ _ _ _ _ => qe_int))
  (qss_cons (qs_give (K := K) (P := P) (w := w) rfl 7 (qs_setO (i := 8) sc_law.nd rfl (Or.inl rfl) (qe_lst qa_nil)))
  (qss_cons (qs_setO (i := 9) sc_law.nd rfl (Or.inl rfl) (qe_lst qa_nil))
  (qss_cons (qs_for pown rfl (qi_rg1 rfl (n_range c) (qe_op op_add opI0_int qe_int (qe_call (FnOk.inL (okp__law_draw (P := P) c)) (hr.mono (by decide)) rfl (g__law_draw c) (F__law_draw c).kp (b__law_draw c) (fun σ => L2N.passAt tk σ) (qa_cons (qe_va (pv 1)) (qa_cons qe_int qa_nil))))) (qg_name (i := 10) sc_law.nd rfl (Or.inl rfl))
    (qss_cons (qs_set (i := 11) sc_law.nd rfl (Or.inl rfl) (qe_op op_add opI0_int qe_int (qe_call (FnOk.inL (okp__law_draw (P := P) c)) (hr.mono (by decide)) rfl (g__law_draw c) (F__law_draw c).kp (b__law_draw c) (fun σ => L2N.passAt tk σ) (qa_cons (qe_va (pv 1)) (qa_cons (qe_cB cr_len lenP rfl (n_len c) (by decide +kernel) (qa_cons (qe_va (pv 6)) qa_nil)) qa_nil)))))
    (qss_cons (qs_set (i := 12) sc_law.nd rfl (Or.inl rfl) (qe_ix ix_list ixLP (qe_va (pv 6)) (qe_op op_sub opI0_int (qe_va (pv 11)) qe_int) (fun _ _ => rfl)))
    (qss_cons (qs_set (i := 13) sc_law.nd rfl (Or.inl rfl) (qe_ix ix_list ixLP (qe_va (pv 5)) (qe_op op_sub opI0_int (qe_va (pv 11)) qe_int) (fun _ _ => rfl)))
    (qss_cons (qs_set (i := 14) sc_law.nd rfl (Or.inl rfl) (qe_call (FnOk.inL (okp__law_draw (P := P) c)) (hr.mono (by decide)) rfl (g__law_draw c) (F__law_draw c).kp (b__law_draw c) (fun σ => L2N.passAt tk σ) (qa_cons (qe_va (pv 1)) (qa_cons qe_int qa_nil))))
    (qss_cut (qs_if (QW.toB (qw_and (qb_cmp op_eq opEqP (qe_va (pv 14)) qe_int (nomark _)) (qw_and1 (qb_cmp op_in_seq opInP (qe_va (pv 11)) (qe_v (pv 8)) (by rfl)))))
      (qss_cons (qs_expr (qe_methS0 (K := K) (P := P) (w := w) rfl (qe_v (pv 12)) (cl_Desk c) (me_Desk_leave c) (FnR.inR (w := w) (rawF (ok_Desk_leave (P := P) (w := w) (base := base) c) (b_Desk_leave c)) (WT K)) (hr.mono (by decide)) (fun σ => L2N.passAt tk σ)))
      (qss_one (qs_rem (i := 8) rfl (pv 8) (qe_va (pv 11)))))
      (qss_one (qs_if (QW.toB (qw_and (qb_cmp op_eq opEqP (qe_va (pv 14)) qe_int (nomark _)) (qw_and (qb_cmp op_gt opI0_bl (qe_op op_mul opI_int (qe_op op_add opI0_int (qe_va (pv 3)) qe_int) (qe_bmLS (K := K) (P := P) (w := w) rfl PySem.F.slot_list_count PySem.F.type_list_count mt_lcount lcountP (qe_va (pv 7)) (qa_cons (qe_va (pv 11)) qa_nil))) (qe_va (pv 2)) (nomark _)) (qw_and1 (qb_cmp op_lt opI0_bl (qe_cB cr_len lenP rfl (n_len c) (by decide +kernel) (qa_cons (qe_v (pv 8)) qa_nil)) (qe_va (pv 3)) (nomark _))))))
        (qss_cons (qs_expr (qe_methS0 (K := K) (P := P) (w := w) rfl (qe_v (pv 12)) (cl_Desk c) (me_Desk_enter c) (FnR.inR (w := w) (rawF (ok_Desk_enter (P := P) (w := w) (base := base) c) (b_Desk_enter c)) (WT K)) (hr.mono (by decide)) (fun σ => L2N.passAt tk σ)))
        (qss_one (qs_app (i := 8) rfl (pv 8) (qe_va (pv 11)))))
        (qss_one (qs_if (qb_cmp op_eq opEqP (qe_va (pv 14)) qe_int (nomark _))
          (qss_cons (qs_set (i := 3) sc_law.nd rfl (Or.inl rfl) (qe_cB (cr_max2 rfl) max2P rfl (n_max c) (by decide +kernel) (qa_cons (qe_op op_add opI0_int qe_int (qe_call (FnOk.inL (okp__law_draw (P := P) c)) (hr.mono (by decide)) rfl (g__law_draw c) (F__law_draw c).kp (b__law_draw c) (fun σ => L2N.passAt tk σ) (qa_cons (qe_va (pv 1)) (qa_cons qe_int qa_nil)))) (qa_cons (qe_cB cr_len lenP rfl (n_len c) (by decide +kernel) (qa_cons (qe_v (pv 8)) qa_nil)) qa_nil))))
          (qss_one (qs_expr (qe_methS (K := K) (P := P) (w := w) rfl (qe_va (pv 4)) (cl_Hall c) (me_Hall_change_capacity c) (FnR.inR (w := w) (rawF (ok_Hall_change_capacity (P := P) (w := w) (base := base) c) (b_Hall_change_capacity c)) (WT K)) (hr.mono (by decide)) (fun σ => L2N.passAt tk σ) (qa_cons (qe_va (pv 3)) qa_nil)))))
          qss_nil)))))
    (qss_cons (qs_for pown rfl (qi_rg1 rfl (n_range c) (qe_va (pv 2))) (qg_name (i := 15) sc_law.nd rfl (Or.inl rfl))
      (qss_one (qs_if (QW.toB (qw_and (qb_cmp op_lt opI0_bl (qe_va (pv 14)) qe_int (nomark _)) (qw_and1 (qb_cmp op_in_seq opInP (qe_ixS (K := K) (P := P) (w := w) rfl ix_list ixLP (qe_va (pv 7)) (qe_ix ix_list ixLP (qe_va (pv 13)) (qe_va (pv 15)) (fun _ _ => rfl)) (fun _ _ => rfl)) (qe_lst (qa_cons qe_int (qa_cons (qe_va (pv 11)) qa_nil))) (by rfl)))))
        (qss_cons (qs_putS (K := K) (P := P) (w := w) rfl (qe_ifE (m := .A) (qb_cmp op_eq opEqP (qe_va (pv 14)) qe_int (nomark _)) qe_int (qe_va (pv 11))) (qe_va (pv 7)) (qe_ix ix_list ixLP (qe_va (pv 13)) (qe_va (pv 15)) (fun _ _ => rfl)))
        (qss_one (qs_setO2 (K := K) (P := P) (w := w) rfl (seto_Desk c) (FnR.inR (w := w) (rawF (ok_Desk___setitem__ (P := P) (w := w) (base := base) c) (b_Desk___setitem__ c)) (WT K)) (hr.mono (by decide)) (fun σ => L2N.passAt tk σ) (qe_cmp op_ne opNeP (qe_va (pv 14)) qe_int (nomark _)) (qe_v (pv 12)) (qe_va (pv 15)))))
        qss_nil)))
    (qss_cons (qs_setO (i := 16) sc_law.nd rfl (Or.inl rfl) (qe_lst qa_nil))
    (qss_cons (qs_set (i := 17) sc_law.nd rfl (Or.inl rfl) (qe_call (FnOk.inL (okp__law_draw (P := P) c)) (hr.mono (by decide)) rfl (g__law_draw c) (F__law_draw c).kp (b__law_draw c) (fun σ => L2N.passAt tk σ) (qa_cons (qe_va (pv 1)) (qa_cons qe_int qa_nil))))
    (qss_cons (qs_for pown rfl (qi_rg1 rfl (n_range c) (qe_call (FnOk.inL (okp__law_draw (P := P) c)) (hr.mono (by decide)) rfl (g__law_draw c) (F__law_draw c).kp (b__law_draw c) (fun σ => L2N.passAt tk σ) (qa_cons (qe_va (pv 1)) (qa_cons qe_int qa_nil)))) (qg_name (i := 15) sc_law.nd rfl (Or.inl rfl))
      (qss_cons (qs_set (i := 18) sc_law.nd rfl (Or.inl rfl) (qe_ix ix_list ixLP (qe_lst (qa_cons qe_str (qa_cons qe_str (qa_cons qe_str qa_nil)))) (qe_call (FnOk.inL (okp__law_draw (P := P) c)) (hr.mono (by decide)) rfl (g__law_draw c) (F__law_draw c).kp (b__law_draw c) (fun σ => L2N.passAt tk σ) (qa_cons (qe_va (pv 1)) (qa_cons qe_int qa_nil))) (fun _ _ => rfl)))
      (qss_cons (qs_set (i := 19) sc_law.nd rfl (Or.inl rfl) (qe_call (FnOk.inL (okp__law_draw (P := P) c)) (hr.mono (by decide)) rfl (g__law_draw c) (F__law_draw c).kp (b__law_draw c) (fun σ => L2N.passAt tk σ) (qa_cons (qe_va (pv 1)) (qa_cons (qe_va (pv 2)) qa_nil))))
      (qss_cut (qs_if (QW.toB (qw_and (qb_cmp op_eq opEqP (qe_va (pv 17)) qe_int (nomark _)) (qw_and1 (qb_cmp op_eq opEqP (qe_call (FnOk.inL (okp__law_draw (P := P) c)) (hr.mono (by decide)) rfl (g__law_draw c) (F__law_draw c).kp (b__law_draw c) (fun σ => L2N.passAt tk σ) (qa_cons (qe_va (pv 1)) (qa_cons qe_int qa_nil))) qe_int (nomark _)))))
        (qss_one (qs_set (i := 18) sc_law.nd rfl (Or.inl rfl) (qe_call (FnOk.inL (ok__law_text (P := P) c)) (hr.mono (by decide)) rfl (g__law_text c) (F__law_text c).kp (b__law_text c) (fun σ => L2N.passAt tk σ) (qa_cons (qe_va (pv 1)) qa_nil))))
        qss_nil)
      (qss_cut (qs_if (QW.toB (qw_and (qb_cmp op_eq opEqP (qe_va (pv 17)) qe_int (nomark _)) (qw_and1 (qb_cmp op_eq opEqP (qe_call (FnOk.inL (okp__law_draw (P := P) c)) (hr.mono (by decide)) rfl (g__law_draw c) (F__law_draw c).kp (b__law_draw c) (fun σ => L2N.passAt tk σ) (qa_cons (qe_va (pv 1)) (qa_cons qe_int qa_nil))) qe_int (nomark _)))))
        (qss_one (qs_set (i := 19) sc_law.nd rfl (Or.inl rfl) (qe_ix ix_list ixLP (qe_lst (qa_cons (qe_un un_neg un_negP qe_int) (qa_cons (qe_va (pv 2)) (qa_cons (qe_op op_add opI0_int (qe_va (pv 2)) (qe_call (FnOk.inL (okp__law_draw (P := P) c)) (hr.mono (by decide)) rfl (g__law_draw c) (F__law_draw c).kp (b__law_draw c) (fun σ => L2N.passAt tk σ) (qa_cons (qe_va (pv 1)) (qa_cons (qe_op op_pow opI_int qe_int qe_int) qa_nil)))) qa_nil)))) (qe_call (FnOk.inL (okp__law_draw (P := P) c)) (hr.mono (by decide)) rfl (g__law_draw c) (F__law_draw c).kp (b__law_draw c) (fun σ => L2N.passAt tk σ) (qa_cons (qe_va (pv 1)) (qa_cons qe_int qa_nil))) (fun _ _ => rfl))))
        qss_nil)
      (qss_one (qs_app (i := 16) rfl (pv 16) (qe_tup (qa_cons (qe_va (pv 18)) (qa_cons (qe_va (pv 19)) qa_nil))))))))))
    (qss_cons (qs_frz 16 (qs_lend (K := K) (P := P) (w := w) rfl 8 (qs_set (i := 20) sc_law.nd rfl (Or.inl rfl) (qe_call (FnOk.inR (w := w) (ok__law_due (P := P) (w := w) (base := base) c) (WT K)) (hr.mono (by decide)) rfl (g__law_due c) (F__law_due c).kp (b__law_due c) (fun σ => L2N.passAt tk σ) (qa_cons (qe_va (pv 7)) (qa_cons (qe_va (pv 13)) (qa_cons (qe_va (pv 8)) (qa_cons (qe_va (pv 3)) (qa_cons (qe_va (pv 11)) (qa_cons (qe_va (pv 16)) qa_nil))))))))))
    (qss_cons (qs_frz 12 (qs_frz 16 (qs_set (i := 21) sc_law.nd rfl (Or.inl rfl) (qe_call (FnOk.inR (w := w) (ok__law_told (P := P) (w := w) (base := base) c) (WT K)) (hr.mono (by decide)) rfl (g__law_told c) (F__law_told c).kp (b__law_told c) (fun σ => L2N.passAt tk σ) (qa_cons (qe_va (pv 12)) (qa_cons (qe_va (pv 16)) qa_nil))))))
    (qss_cons (qs_if (QW.toB (qw_or (qb_not (qb_val (qe_call (FnOk.inW (okp__law_same (P := P) c) (WS P w K (WT K))) (hr.mono (by decide)) rfl (g__law_same c) (F__law_same c).kp (b__law_same c) (fun σ => L2N.passAt tk σ) (qa_cons (qe_va (pv 21)) (qa_cons (qe_va (pv 20)) qa_nil))))) (qw_or1 (qb_not (qb_val (qe_callO (FnOk.inR (w := w) (ok__law_looks (P := P) (w := w) (base := base) c) (WT K)) (hr.mono (by decide)) rfl (g__law_looks c) (F__law_looks c).kp (b__law_looks c) (fun σ => L2N.passAt tk σ) (qa_cons (qe_va (pv 4)) (qa_cons (qe_va (pv 6)) (qa_cons (qe_va (pv 7)) (qa_cons (qe_v (pv 8)) (qa_cons (qe_va (pv 3)) qa_nil)))))))))))
      (qss_one (qs_ret qe_bl))
      qss_nil)
    (qss_one (qs_app (i := 9) rfl (pv 9) (qe_tup (qa_cons (qe_va (pv 21)) (qa_cons (qe_va (pv 20)) qa_nil))))))))))))))))))
  (qss_cons (qs_frz 9 (qs_for pown rfl (qi_lst (qe_va (pv 9))) (qg_up (qg_tup (n := 2) rfl (qgs_cons (qg_name (i := 21) sc_law.nd rfl (Or.inl rfl)) (qgs_cons (qg_name (i := 20) sc_law.nd rfl (Or.inl rfl)) qgs_nil))))
    (qss_one (qs_if (qb_not (qb_val (qe_call (FnOk.inW (okp__law_same (P := P) c) (WS P w K (WT K))) (hr.mono (by decide)) rfl (g__law_same c) (F__law_same c).kp (b__law_same c) (fun σ => L2N.passAt tk σ) (qa_cons (qe_va (pv 21)) (qa_cons (qe_va (pv 20)) qa_nil)))))
      (qss_one (qs_ret qe_bl))
      qss_nil))))
  (qss_one (qs_ret qe_bl)))))))))))))) (fun ω ds Q E h => ?_)
  · obtain ⟨_, h⟩ := h; first | (obtain ⟨rfl, _⟩ := h; rfl) | (obtain ⟨_, rfl, _⟩ := h; rfl) | (obtain ⟨_, _, rfl, _⟩ := h; rfl) | (obtain ⟨_, _, _, rfl, _⟩ := h; rfl) | (obtain ⟨_, _, _, _, rfl, _⟩ := h; rfl) | (obtain ⟨_, _, _, _, _, rfl, _⟩ := h; rfl) | (obtain ⟨_, _, _, _, _, _, rfl, _⟩ := h; rfl) | (obtain ⟨_, _, _, _, _, _, _, rfl, _⟩ := h; rfl)
  · skip
    obtain ⟨hst, h⟩ := h
    obtain ⟨u0, st⟩ := ω
    dsimp only at hst h
    subst hst
    obtain ⟨a, ns, rfl, rfl, Qk⟩ := h
    walk_at "v"
    refine v_begin fun t => ?_
    walk_at "v"
    refine v_draw (by omega) (by decide) (by decide) fun z1 z10 z11 => ?_
    walk_at "v"
    obtain ⟨n, en⟩ : ∃ n : Nat, 1 + z1 = n := ⟨(1 + z1).toNat, by omega⟩
    rw [en]
    have n1 : 1 ≤ n ∧ n ≤ 6 := by omega
    refine v_draw (by omega) (by decide) (by decide) fun z2 z20 z21 => ?_
    walk_at "v"
    obtain ⟨cp, ecp⟩ : ∃ cp : Int, 1 + z2 = cp := ⟨1 + z2, rfl⟩
    rw [ecp]
    have hcp : 1 ≤ cp ∧ cp ≤ 3 := by omega
    intro h hh
    refine ⟨h, n, cp, rfl, Sto.same, .inl ⟨by omega, by omega, by omega, by omega, fun lh ld hl0 hd0 hld => ?_⟩⟩
    rw [Int.toNat_natCast]
    refine ⟨rfl, ?_⟩
    have hs0 := Hs.init (K := K) (st := noSto.put h (.mi (HC K) [])) (cp := cp) n1.1 (by omega) hcp.1 (by omega) (Sto.apart Sto.same hl0) (Sto.apart Sto.same hd0) hld
    generalize Sto.put (Sto.put (Sto.put (noSto.put h (.mi (HC K) [])) lh _) ld _) h _ = st0 at hs0 ⊢
    clear hh hl0 hd0
    walk_at "v"
    refine v_draw (by omega) (by decide) (by decide) fun z3 z30 z31 => ?_
    walk_at "v"
    obtain ⟨W, eW⟩ : ∃ W : Nat, 1 + z3 = W := ⟨(1 + z3).toNat, by omega⟩
    rw [eW]
    have hW : 1 ≤ W ∧ W ≤ 3 := by omega
    rw [rgI_rg]
    refine v_kLcW (fun i ω acc => ∃ (b : Nat) (os : List (List Int)), ω = (TS.tape t b, st0) ∧ b ≤ 4 + 12 * i ∧ acc = os.map (fun o => D.lst (dInts o)) ∧ os.length = i ∧ ∀ o ∈ os, IsNum o ∧ o.length = n) (by rw [length_dInts, length_rg]; omega) ⟨_, [], rfl, by omega, rfl, rfl, fun o ho => by cases ho⟩ rfl (fun i d ω acc hd ⟨b, os, hω, hb, ha, hl, ho⟩ hai => ?_) (fun ω acc ⟨b, os, hω, hb, ha, hl, ho⟩ => ?_)
    · subst hω ha
      have hiW : i < W := by
        have := (List.getElem?_eq_some_iff.mp hd).1
        rw [length_dInts, length_rg] at this
        exact this
      walk_at "v"
      refine ⟨rfl, ?_⟩
      walk_at "v"
      refine v_shuffled (by omega) n1.1 (by omega) fun p hp hpl => ?_
      exact ⟨_, os ++ [p], rfl, by omega, by rw [List.map_append] <;> rfl, by rw [List.length_append, hl] <;> rfl, fun o h => (List.mem_append.mp h).elim (ho o) fun z => by rw [List.mem_singleton.mp z]; exact ⟨hp, hpl⟩⟩
    subst hω ha
    rw [length_dInts, length_rg] at hb hl
    walk_at "v"
    refine v_kLcW (fun i ω acc => ∃ (st : Sto) (X : HX), ω = (TS.tape t b, st) ∧ Hs K st X ∧ X.h = h ∧ X.held = List.replicate n 0 ∧ X.cap = cp ∧ X.nu = (os.take i).map (fun o => (o, false)) ∧ acc = X.da.map D.adr) (by rw [List.length_map]; omega) ⟨_, _, rfl, hs0, rfl, rfl, rfl, rfl, rfl⟩ rfl (fun i d ω acc hd ⟨st, X, hω, hs, xh, xhd, xc, xn, ha⟩ hai => ?_) (fun ω acc ⟨st, X, hω, hs, xh, xhd, xc, xn, ha⟩ => ?_)
    · subst hω ha
      rw [List.getElem?_map] at hd
      obtain ⟨o, hoi, rfl⟩ := Option.map_eq_some_iff.mp hd
      obtain ⟨hon, hol⟩ := ho o (List.mem_of_getElem? hoi)
      have hil := (List.getElem?_eq_some_iff.mp hoi).1
      have hlen : X.da.length = i := by rw [hs.len, xn, List.length_map, List.length_take]; omega
      have s1 := hs.sh
      rw [xh] at s1
      walk_at "v"
      refine ⟨rfl, ?_⟩
      walk_at "v"
      refine v_num hon ?_
      refine ⟨pure_num _, ?_⟩
      walk_at "v"
      refine ⟨X, o, by rw [xh], hs, hon, .inl ⟨by rw [hol, xhd, List.length_replicate], by omega, fun d hd => ?_⟩⟩
      have H1 := hs.addW hon (by rw [hol, xhd, List.length_replicate]) (by omega) hd
      walk_at "v"
      exact ⟨_, X.addW o d, rfl, H1, xh, xhd, xc, by show X.nu ++ [(o, false)] = _; rw [xn, List.take_add_one, hoi, List.map_append] <;> rfl, by show X.da.map D.adr ++ _ = (X.da ++ [d]).map D.adr; rw [List.map_append] <;> rfl⟩
    subst hω ha
    rw [List.length_map, List.take_length] at xn
    walk_at "v"
    rw [rgI_rg]
    refine v_kLcM (fun _ => .int 0) (by rw [length_dInts, length_rg]; omega) rfl (fun i d Q' hd hq => ?_) ?_
    · walk_at "v"
      exact ⟨rfl, hq⟩
    rw [zeros_eq]
    walk_at "v"
    rename_i cc
    refine ⟨_, _, rfl, pure_ints _, fun hcc => ?_⟩
    walk_at "v"
    refine v_draw (by omega) (by decide) (by decide) fun z5 z50 z51 => ?_
    walk_at "v"
    obtain ⟨T, eT⟩ : ∃ T : Nat, 1 + z5 = T := ⟨(1 + z5).toNat, by omega⟩
    rw [eT]
    have hT : T ≤ 12 := by omega
    have hlen : X.da.length = W := by rw [hs.len, xn, List.length_map, hl]
    have M0 : Mn19 K (st.put cc (.ml (dInts (List.replicate n 0)))) X cc [] os h n :=
      ⟨hs.add hcc, xh, by rw [xhd]; exact List.length_replicate, by rw [xhd]; exact Sto.same, (Sto.apart hs.sl hcc).symm, (Sto.apart hs.sd hcc).symm, by
        have e : occ X = [] := by
          unfold occ
          rw [List.map_eq_nil_iff, List.filter_eq_nil_iff]
          intro j hj
          rw [xn, List.getD_eq_getElem?_getD, List.getElem?_map]
          cases os[j]? <;> exact Bool.false_ne_true
        rw [e], fun i p hp => by
        rw [xn, List.getElem?_map] at hp
        obtain ⟨o, ho, rfl⟩ := Option.map_eq_some_iff.mp hp
        exact ho, by rw [hlen]; exact hW.1, by rw [hlen]; exact hW.2⟩
    have hlo : os.length = X.da.length := by rw [hl, hlen]
    generalize Sto.put st cc _ = st1 at M0 ⊢
    have c3 : X.cap ≤ 3 := by rw [xc]; exact hcp.2
    have e3 : Sl.va (D.int cp) = Sl.va (D.int X.cap) := by rw [xc]
    rw [e3]
    clear hs xn xhd xc xh hs0 hcc e3
    rename_i l8 l9
    refine v_kForR (fun i ω ρ => ∃ (b : Nat) (st : Sto) (X : HX) (ins : List Int) (ks : List D) (o10 o11 o12 o13 o14 o15 o16 o17 o18 o19 o20 o21 : Sl), ω = (TS.tape t b, st) ∧ b ≤ 100 + 400 * i ∧ Mn19 K st X cc ins os h n ∧ X.cap ≤ 3 ∧ X.da.length = W ∧ ks.length = i ∧ (∀ z ∈ ks, z.lev 8 = true) ∧
      ρ = [.va (.adr a), .va (.adr t), .va (.int n), .va (.int X.cap), .va (.adr h), .va (.lst (os.map fun o => .lst (dInts o))), .va (.lst (X.da.map D.adr)), .va (.adr cc), .ow l8 (dInts ins), .ow l9 (ks.map fun z => .tup [z, z]), o10, o11, o12, o13, o14, o15, o16, o17, o18, o19, o20, o21])
      ⟨_, st1, X, [], [], _, _, _, _, _, _, _, _, _, _, _, _, rfl, by omega, M0, c3, hlen, rfl, (fun z hz => by cases hz), rfl⟩ (fun i ω ρ hi ⟨b, st, X, ins, ks, o10, o11, o12, o13, o14, o15, o16, o17, o18, o19, o20, o21, hω, hb, H, c3, hlen, hks, hlv, hρ⟩ => ?_) (fun ω ρ ⟨b, st, X, ins, ks, o10, o11, o12, o13, o14, o15, o16, o17, o18, o19, o20, o21, hω, hb, H, c3, hlen, hks, hlv, hρ⟩ => ?_)
    · subst hω hρ
      clear M0
      have ins3 := H.ins3
      have insL := H.insL
      have m2 := H.sc
      have s1 := H.hs.sh
      rw [H.eh] at s1
      walk_at "v"
      rw [List.length_map]
      refine v_draw (by omega) (by omega) (by omega) fun w1 w10 w11 => ?_
      walk_at "v"
      obtain ⟨wk, ewk⟩ : ∃ wk : Nat, w1 = wk := ⟨w1.toNat, by omega⟩
      rw [ewk]
      have hwk : wk < X.da.length := by omega
      obtain ⟨d, p, hd⟩ := H.hs.at_ hwk
      have hoi := H.eo wk p hd.2
      have atd : atI (X.da.map D.adr) (1 + (wk : Int) - 1) = some (.adr d) := atI_of (by omega) (by rw [show (1 + (wk : Int) - 1).toNat = wk by omega, List.getElem?_map, hd.1] <;> rfl)
      have ato : atI (os.map fun o => D.lst (dInts o)) (1 + (wk : Int) - 1) = some (.lst (dInts p.1)) := atI_of (by omega) (by rw [show (1 + (wk : Int) - 1).toNat = wk by omega, List.getElem?_map, hoi] <;> rfl)
      refine v_ixL atd ?_
      walk_at "v"
      refine v_ixL ato ?_
      walk_at "v"
      rw [show 1 + (wk : Int) = (wk : Int) + 1 by omega]
      refine v_draw (by omega) (by omega) (by omega) fun kd kd0 kd1 => ?_
      walk_at "v"
      have s4 := H.hs.nd hd
      refine ⟨fun ω ρ => ∃ (b : Nat) (st : Sto) (X : HX) (ins : List Int) (d : Addr) (p : List Int × Bool) (o15 o16 o17 o18 o19 o20 o21 : Sl), ω = (TS.tape t b, st) ∧ b ≤ 100 + 400 * i + 3 ∧ Mn19 K st X cc ins os h n ∧ X.cap ≤ 3 ∧ X.da.length = W ∧ X.At wk d p ∧
        ρ = [.va (.adr a), .va (.adr t), .va (.int n), .va (.int X.cap), .va (.adr h), .va (.lst (os.map fun o => .lst (dInts o))), .va (.lst (X.da.map D.adr)), .va (.adr cc), .ow l8 (dInts ins), .ow l9 (ks.map fun z => .tup [z, z]), .va (.int i), .va (.int ((wk : Int) + 1)), .va (.adr d), .va (.lst (dInts p.1)), .va (.int kd), o15, o16, o17, o18, o19, o20, o21], ?_, ?_⟩
      · have iff := H.inIff hd
        have hcl := List.count_le_length (a := (wk : Int) + 1) (l := X.held)
        have ehl := H.ehl
        have ec : enoB X wk = decide ((X.held.length : Int) < (X.cap + 1) * ((X.held.count ((wk : Int) + 1) : Nat) : Int)) := rfl
        walk_at "v"
        refine w_iteP (fun e5 => ?_) (fun e5 => ?_)
        · walk_at "v"
          refine v_inLI ?_
          walk_at "v"
          refine w_iteP (fun ei => ?_) (fun ei => ?_)
          · walk_at "v"
            refine ⟨X, wk, d, p, rfl, H.hs, hd, .inr ⟨iff.mp ei, ?_⟩⟩
            walk_at "v"
            refine ⟨ei, ?_⟩
            exact ⟨_, _, X.setI wk false, ins.erase ((wk : Int) + 1), d, (p.1, false), _, _, _, _, _, _, _, rfl, by omega, H.leave hd, c3, hlen, hd.setI false, rfl⟩
          have a1 : p.2 = false := by
            cases hp : p.2
            · rfl
            · exact absurd (iff.mpr hp) ei
          walk_at "v"
          refine w_iteT e5 ?_
          walk_at "v"
          refine w_iteP (fun e6 => ?_) (fun e6 => ?_)
          · walk_at "v"
            rw [length_dInts]
            refine w_iteP (fun e7 => ?_) (fun e7 => ?_)
            · walk_at "v"
              refine ⟨X, wk, d, p, rfl, H.hs, hd, .inr (.inr (.inr ⟨a1, by rw [ec]; exact decide_eq_true (by omega), by omega, ?_⟩))⟩
              walk_at "v"
              exact ⟨_, _, X.setI wk true, ins ++ [(wk : Int) + 1], d, (p.1, true), _, _, _, _, _, _, _, rfl, by omega, H.enter hd a1, c3, hlen, hd.setI true, by unfold dInts; rw [List.map_append] <;> rfl⟩
            · walk_at "v"
              refine w_iteF (by omega) ?_
              walk_at "v"
              exact ⟨_, _, X, ins, d, p, _, _, _, _, _, _, _, rfl, by omega, H, c3, hlen, hd, rfl⟩
          · walk_at "v"
            refine w_iteF (by omega) ?_
            walk_at "v"
            exact ⟨_, _, X, ins, d, p, _, _, _, _, _, _, _, rfl, by omega, H, c3, hlen, hd, rfl⟩
        walk_at "v"
        refine w_iteF e5 ?_
        walk_at "v"
        refine w_iteP (fun e4 => ?_) (fun e4 => ?_)
        · walk_at "v"
          refine v_draw (by omega) (by omega) (by omega) fun y1 y10 y11 => ?_
          walk_at "v"
          refine v_max2 ?_
          rw [length_dInts]
          obtain ⟨z, ez⟩ : ∃ z : Int, (if (ins.length : Int) > 1 + y1 then (ins.length : Int) else 1 + y1) = z := ⟨_, rfl⟩
          rw [ez]
          have z1 : 1 ≤ z ∧ z ≤ 3 ∧ (ins.length : Int) ≤ z := by
            split at ez <;> omega
          walk_at "v"
          refine ⟨X, z, by rw [H.eh], H.hs, .inl ⟨z1.1, by omega, by omega, ?_⟩⟩
          have hM := H.chg z1.1 (by omega)
          walk_at "v"
          exact ⟨_, _, X.setC z, ins, d, p, _, _, _, _, _, _, _, rfl, by omega, hM, z1.2.1, hlen, hd, rfl⟩
        · walk_at "v"
          exact ⟨_, _, X, ins, d, p, _, _, _, _, _, _, _, rfl, by omega, H, c3, hlen, hd, rfl⟩
      clear H hb s4 hoi hd atd ato s1 m2 hwk ins3 insL
      rintro ω ρ ⟨b, st, X, ins, d, p, o15, o16, o17, o18, o19, o20, o21, rfl, hb, H, c3, hlen, hd, rfl⟩
      walk_at "v"
      refine v_kForR (fun j ω ρ => ∃ (st : Sto) (hv : List Int) (o15 : Sl), ω = (TS.tape t b, st) ∧ Mn19 K st (X.setH hv) cc ins os h n ∧
        ρ = [.va (.adr a), .va (.adr t), .va (.int n), .va (.int X.cap), .va (.adr h), .va (.lst (os.map fun o => .lst (dInts o))), .va (.lst (X.da.map D.adr)), .va (.adr cc), .ow l8 (dInts ins), .ow l9 (ks.map fun z => .tup [z, z]), .va (.int i), .va (.int ((wk : Int) + 1)), .va (.adr d), .va (.lst (dInts p.1)), .va (.int kd), o15, o16, o17, o18, o19, o20, o21])
        ⟨st, X.held, _, rfl, H, rfl⟩ (fun j ω ρ hj ⟨st, hv, o15, hω, H, hρ⟩ => ?_) (fun ω ρ ⟨st, hv, o15, hω, H, hρ⟩ => ?_)
      · subst hω hρ
        have hi2 : (X.setH hv).At wk d p := hd
        have ehl : hv.length = n := H.ehl
        have m2 : st cc = some (.ml (dInts hv)) := H.sc
        obtain ⟨hn, hnl⟩ := H.hs.num wk p hd.2
        have hnl : p.1.length = hv.length := hnl
        have n12 : hv.length ≤ 12 := H.hs.n12
        have hpj := atP_lt hn (k := (j : Int)) (by omega) (by omega)
        walk_at "v"
        refine w_iteP (fun g1 => ?_) (fun g1 => ?_)
        rotate_left
        · walk_at "v"
          exact ⟨_, _, _, rfl, H, rfl⟩
        walk_at "v"
        refine v_ixL (atI_ints (by omega) (by omega)) ?_
        walk_at "v"
        refine v_ixL (atI_ints hpj.1 (by omega)) ?_
        walk_at "v"
        refine v_inLI (ns := [0, (wk : Int) + 1]) ?_
        walk_at "v"
        refine w_iteP (fun g2 => ?_) (fun g2 => ?_)
        rotate_left
        · walk_at "v"
          exact ⟨_, _, _, rfl, H, rfl⟩
        have e4 : cel (X.setH hv) p j = 0 ∨ cel (X.setH hv) p j = (wk : Int) + 1 := (List.mem_cons.mp g2).elim .inl fun z => .inr (List.mem_singleton.mp z)
        have hjx : ixN (dInts hv).length (atP p.1 j) = some (atP p.1 j).toNat := ixN_nat hpj.1 (by rw [length_dInts]; omega)
        walk_at "v"
        refine w_iteP (fun g3 => ?_) (fun g3 => ?_)
        · skip
          walk_at "v"
          refine v_ixL (atI_ints (by omega) (by omega)) ?_
          walk_at "v"
          refine v_kPutS m2 hjx rfl ?_
          rw [set_dIntsV]
          have hM := H.mv (hd := hv.set (atP p.1 j).toNat (0)) (by rw [List.length_set]; exact ehl)
          have hs1 := H.hs.off (m := .ml (dInts (hv.set (atP p.1 j).toNat (0)))) m2 H.cl H.cd
          have s4 := hs1.nd hi2
          have eb : (!decide (kd = 3)) = false := by rw [decide_eq_true g3] <;> rfl
          walk_at "v"
          rw [eb]
          refine ⟨X.setH hv, wk, d, p, j, false, rfl, hs1, hi2, .inl ⟨by omega, by show (j : Int) < hv.length; omega, e4, ?_⟩⟩
          walk_at "v"
          exact ⟨_, hv.set (atP p.1 j).toNat (0), _, rfl, hM, rfl⟩
        · skip
          walk_at "v"
          refine v_ixL (atI_ints (by omega) (by omega)) ?_
          walk_at "v"
          refine v_kPutS m2 hjx rfl ?_
          rw [set_dIntsV]
          have hM := H.mv (hd := hv.set (atP p.1 j).toNat ((wk : Int) + 1)) (by rw [List.length_set]; exact ehl)
          have hs1 := H.hs.off (m := .ml (dInts (hv.set (atP p.1 j).toNat ((wk : Int) + 1)))) m2 H.cl H.cd
          have s4 := hs1.nd hi2
          have eb : (!decide (kd = 3)) = true := by rw [decide_eq_false g3] <;> rfl
          walk_at "v"
          rw [eb]
          refine ⟨X.setH hv, wk, d, p, j, true, rfl, hs1, hi2, .inl ⟨by omega, by show (j : Int) < hv.length; omega, e4, ?_⟩⟩
          walk_at "v"
          exact ⟨_, hv.set (atP p.1 j).toNat ((wk : Int) + 1), _, rfl, hM, rfl⟩
      subst hω hρ
      walk_at "v"
      rename_i l16
      refine v_draw (by omega) (by omega) (by omega) fun sp sp0 sp1 => ?_
      walk_at "v"
      refine v_draw (by omega) (by omega) (by omega) fun nd nd0 nd1 => ?_
      walk_at "v"
      obtain ⟨N, eN⟩ : ∃ N : Nat, nd = N := ⟨nd.toNat, by omega⟩
      rw [eN]
      have hN : N ≤ 13 := by omega
      refine v_kForR (fun j ω ρ => ∃ (b' : Nat) (ws : List (Str × Int)) (o15 o18 o19 : Sl), ω = (TS.tape t b', st) ∧ b' ≤ b + 2 + 28 * j ∧ ws.length = j ∧
        ρ = [.va (.adr a), .va (.adr t), .va (.int n), .va (.int X.cap), .va (.adr h), .va (.lst (os.map fun o => .lst (dInts o))), .va (.lst (X.da.map D.adr)), .va (.adr cc), .ow l8 (dInts ins), .ow l9 (ks.map fun z => .tup [z, z]), .va (.int i), .va (.int ((wk : Int) + 1)), .va (.adr d), .va (.lst (dInts p.1)), .va (.int kd), o15, .ow l16 (ws.map deedT), .va (.int sp), o18, o19, o20, o21])
        ⟨_, [], _, _, _, rfl, by omega, rfl, rfl⟩ (fun j ω ρ hj ⟨b', ws, o15, o18, o19, hω, hb', hws, hρ⟩ => ?_) (fun ω ρ ⟨b', ws, o15, o18, o19, hω, hb', hws, hρ⟩ => ?_)
      · subst hω hρ
        walk_at "v"
        refine v_draw (by omega) (by decide) (by decide) fun r r0 r1 => ?_
        obtain ⟨s0, hs0⟩ : ∃ s0 : Str, atI [D.str "take", D.str "give", D.str "see"] r = some (.str s0) := by
          rcases (by omega : r = 0 ∨ r = 1 ∨ r = 2) with rfl | rfl | rfl
          · exact ⟨_, rfl⟩
          · exact ⟨_, rfl⟩
          · exact ⟨_, rfl⟩
        refine v_ixL hs0 ?_
        walk_at "v"
        refine v_draw (by omega) (by omega) (by omega) fun at0 at00 at01 => ?_
        walk_at "v"
        refine ⟨fun ω ρ => ∃ (b2 : Nat) (s : Str), ω = (TS.tape t b2, st) ∧ b2 ≤ b + 2 + 28 * j + 23 ∧
          ρ = [.va (.adr a), .va (.adr t), .va (.int n), .va (.int X.cap), .va (.adr h), .va (.lst (os.map fun o => .lst (dInts o))), .va (.lst (X.da.map D.adr)), .va (.adr cc), .ow l8 (dInts ins), .ow l9 (ks.map fun z => .tup [z, z]), .va (.int i), .va (.int ((wk : Int) + 1)), .va (.adr d), .va (.lst (dInts p.1)), .va (.int kd), .va (.int j), .ow l16 (ws.map deedT), .va (.int sp), .va (.str s), .va (.int at0), o20, o21], ?_, ?_⟩
        · walk_at "v"
          refine w_iteP (fun e1 => ?_) (fun e1 => ?_)
          · walk_at "v"
            refine v_draw (by omega) (by decide) (by decide) fun q q0 q1 => ?_
            walk_at "v"
            refine w_iteP (fun e2 => ?_) (fun e2 => ?_)
            · walk_at "v"
              refine v_text (by omega) fun b3 x hb3 hx => ?_
              walk_at "v"
              exact ⟨_, x, rfl, by omega, rfl⟩
            · walk_at "v"
              exact ⟨_, s0, rfl, by omega, rfl⟩
          · walk_at "v"
            exact ⟨_, s0, rfl, by omega, rfl⟩
        clear hs0
        clear s0
        rintro ω ρ ⟨b2, s, rfl, hb2, rfl⟩
        walk_at "v"
        refine ⟨fun ω ρ => ∃ (b3 : Nat) (k : Int), ω = (TS.tape t b3, st) ∧ b3 ≤ b + 2 + 28 * j + 26 ∧
          ρ = [.va (.adr a), .va (.adr t), .va (.int n), .va (.int X.cap), .va (.adr h), .va (.lst (os.map fun o => .lst (dInts o))), .va (.lst (X.da.map D.adr)), .va (.adr cc), .ow l8 (dInts ins), .ow l9 (ks.map fun z => .tup [z, z]), .va (.int i), .va (.int ((wk : Int) + 1)), .va (.adr d), .va (.lst (dInts p.1)), .va (.int kd), .va (.int j), .ow l16 (ws.map deedT), .va (.int sp), .va (.str s), .va (.int k), o20, o21], ?_, ?_⟩
        · walk_at "v"
          refine w_iteP (fun e1 => ?_) (fun e1 => ?_)
          · walk_at "v"
            refine v_draw (by omega) (by decide) (by decide) fun q q0 q1 => ?_
            walk_at "v"
            refine w_iteP (fun e2 => ?_) (fun e2 => ?_)
            · walk_at "v"
              refine v_draw (by omega) (by decide) (by decide) fun y1 y10 y11 => ?_
              walk_at "v"
              refine v_draw (by omega) (by decide) (by decide) fun y2 y20 y21 => ?_
              obtain ⟨z, hz⟩ : ∃ z : Int, atI [D.int (-1), D.int n, D.int ((n : Int) + y1)] y2 = some (.int z) := by
                rcases (by omega : y2 = 0 ∨ y2 = 1 ∨ y2 = 2) with rfl | rfl | rfl
                · exact ⟨_, rfl⟩
                · exact ⟨_, rfl⟩
                · exact ⟨_, rfl⟩
              refine v_ixL hz ?_
              walk_at "v"
              exact ⟨_, z, rfl, by omega, rfl⟩
            · walk_at "v"
              exact ⟨_, at0, rfl, by omega, rfl⟩
          · walk_at "v"
            exact ⟨_, at0, rfl, by omega, rfl⟩
        rintro ω ρ ⟨b3, k, rfl, hb3, rfl⟩
        walk_at "v"
        exact ⟨_, ws ++ [(s, k)], _, _, _, rfl, by omega, by rw [List.length_append, hws] <;> rfl, by rw [List.map_append] <;> rfl⟩
      subst hω hρ
      have hi2 : (X.setH hv).At wk d p := hd
      have n12 : hv.length ≤ 12 := H.hs.n12
      have m2 : st cc = some (.ml (dInts hv)) := H.sc
      obtain ⟨hn, hnl⟩ := H.hs.num wk p hd.2
      have ehl : hv.length = n := H.ehl
      have iff := H.inIff hi2
      have insL := H.insL
      have ins3 := H.ins3
      have c1 := H.hs.c1
      have c1 : 1 ≤ X.cap := c1
      walk_at "v"
      refine ⟨l8, dInts ins, rfl, pure_ints _, fun hl8 => ?_⟩
      have ncc : cc ≠ l8 := Sto.apart m2 hl8
      have m2' : (st.put l8 (.ml (dInts ins))) cc = some (.ml (dInts hv)) := Sto.ne ncc m2
      have m4' : (st.put l8 (.ml (dInts ins))) l8 = some (.ml (dInts ins)) := Sto.same
      walk_at "v"
      refine ⟨X.setH hv, wk, p, ws, cc, l8, ins, rfl, by omega, m2', m4', n12, c1, by show X.cap ≤ 6; omega, by omega, by omega, hn, hnl, iff, insL, ?_⟩
      walk_at "v"
      refine v_lendP ⟨rfl, dInts ins, Sto.ne ncc.symm m4', pure_ints _, ?_⟩
      dsimp only
      rw [Sto.delput2 hl8 ncc.symm]
      walk_at "v"
      have hrl : (visR (X.setH hv) wk p ws).1.length = n := visR_len.trans ehl
      have hlv2 := visR_lev (X := X.setH hv) (i := wk) (p := p) (ws := ws) (by omega)
      have hs1 := H.hs.off (m := .ml (dInts (visR (X.setH hv) wk p ws).1)) m2 H.cl H.cd
      refine ⟨X.setH hv, wk, d, p, ws, rfl, by omega, hs1, hi2, fun x hx => ?_⟩
      have hM := H.vis (d := d) hrl hx
      clear hs1 hx m2 H iff insL
      generalize (visR (X.setH hv) wk p ws).2 = R at hlv2 ⊢
      generalize (visR (X.setH hv) wk p ws).1 = hr at hrl hM ⊢
      have hM : Mn19 K (((st.put cc (.ml (dInts hr))).put x (stayO K d)).put X.lh (.ml (dInts hr))) (X.setH hr) cc ins os h n := hM
      rw [show (X.setH hv).lh = X.lh from rfl]
      generalize ((st.put cc (.ml (dInts hr))).put x (stayO K d)).put X.lh (.ml (dInts hr)) = st3 at hM ⊢
      walk_at "v"
      refine v_same rfl hlv2 ?_
      walk_at "v"
      refine ⟨X.setH hr, cc, ins, by rw [show (X.setH hr).h = h from hM.eh] <;> rfl, hM.hs, hM.sc, hM.pm, ?_⟩
      walk_at "v"
      exact ⟨_, st3, X.setH hr, ins, ks ++ [R], _, _, _, _, _, _, _, _, _, _, _, _, rfl, by omega, hM, c3, hlen, by rw [List.length_append, hks] <;> rfl, fun z hz => (List.mem_append.mp hz).elim (hlv z) fun e => by rw [List.mem_singleton.mp e]; exact hlv2, by rw [List.map_append] <;> rfl⟩
    subst hω hρ
    walk_at "v"
    refine v_kFor (fun j ω ρ => ∃ o20 o21, ω = (TS.tape t b, st) ∧ ρ = [.va (.adr a), .va (.adr t), .va (.int n), .va (.int X.cap), .va (.adr h), .va (.lst (os.map fun o => .lst (dInts o))), .va (.lst (X.da.map D.adr)), .va (.adr cc), .ow l8 (dInts ins), .va (.lst (ks.map fun z => .tup [z, z])), o10, o11, o12, o13, o14, o15, o16, o17, o18, o19, o20, o21]) ?_ ?_ ?_
    · exact ⟨_, _, rfl, rfl⟩
    · rintro j y ω ρ hy ⟨o20, o21, rfl, rfl⟩
      rw [List.getElem?_map] at hy
      obtain ⟨z, hz, rfl⟩ := Option.map_eq_some_iff.mp hy
      have hzl := hlv z (List.mem_of_getElem? hz)
      walk_at "v"
      refine v_same rfl hzl ?_
      walk_at "v"
      exact ⟨_, _, rfl, rfl⟩
    rintro ω ρ ⟨o20, o21, rfl, rfl⟩
    walk_at "v"
    exact Qk _ _
theorem ok_law (c : Ctx K mg) : FnOk P w K mg base (L2N.CX P w) 11 (A_law K) (fdA K (A_law K)) ["_law_script"] (spM .A K (WT K) (pf_law K)) := FnOk.loc (okl_law c)
end
end LW
set_option maxHeartbeats 0
namespace LW
open PySem PySem.Spec PyProof.Rows L2
theorem ctx_of {K : PySem.W.Frag} {h : Heap} {mg : Str → Option Value} (X : K.In h) (G : h.Ns mainGlobals mg) (q : SaysW fa fn exB K) : Ctx K mg :=
  ⟨q, He.glo_ok X G, He.free_ok X G, He.int_ok X G, He.str_ok X G⟩
end LW
open PySem PySem.W PySem.Calls PyProof.Rows
instance : LW.PG (PySem.W.OpenLaw.prog PySem.Challenge.rw_ownlabels_k19_visits) := ⟨by decide +kernel, by decide +kernel⟩
theorem PySem.Challenge.cw_ownlabels_k19_visits_holds : PySem.Challenge.rw_ownlabels_k19_visits.Holds := by
  refine LW.headed ?hc
  case hc =>
    refine LW.walkW (l := PySem.Challenge.rw_ownlabels_k19_visits) (n := 63) (k := 11) (x := "_law_script") rfl (by decide) (by kernel_rfl) ⟨rfl, by decide, by decide⟩ ?F
    case F =>
      intro w mg fa h Y G hmg0
      obtain ⟨K, KX, q⟩ := Y
      have c := LW.ctx_of KX G q
      have hmg : mg ("law" : PySem.Str) = some (.ref fa) := by
        have e : (HandSHeadRun.topDef (OpenLaw.row PySem.Challenge.rw_ownlabels_k19_visits).prog 30).name = ("law" : PySem.Str) := by kernel_rfl
        rw [← e]
        exact hmg0
      have ef : fa = LW.A_law K := Value.ref.inj (Option.some.inj (hmg.symm.trans (LW.g_law c)))
      subst ef
      exact ⟨K, _, LW.spM .A K (LW.WT K) (LW.pf_law K), KX, fun s v => (LW.F_law c).bindsA (ps := ["_law_script"]) (fun _ _ _ _ _ _ us hl => match us, hl with | [_], _ => rfl) s [v] rfl, fun H a ns hl hO hS => LW.sp_law_of hl hO hS, fun base _ _ => LW.ok_law c⟩
#print axioms PySem.Challenge.cw_ownlabels_k19_visits_holds
