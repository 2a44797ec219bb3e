import PyProof.Rows.All
import Wide.All
import OpenK.AllK
import Wide.FinOn
import KE.KStateDown
import HandS.ForMost
import HandS.Exc
import HandS.TryOnly
import HandS.TryMany
import HandS.ExcOwn
import HandS.WordsExc
import HandS.CallSlots
import HandS.ExcIs
import HandS.ExcField
import HandS.HotCalls
import HandS.IsInst
import HandS.Wide
import HandS.Defaults
import HandS.Head0
import HandS.Head1
import HandS.Head2
import HandS.HeadEnd
import HandS.HeadHook1
import HandS.HeadHook2
import HandS.ClsMeth
import HandS.SlotsOwn
import HandS.Star
import HandS.SortInts
import HandS.Conv
import HandS.CallLocal
import KE.KOpsOwn
import PyProof.TupleOfSeq
import HandS.Strs
import HandS.TupAny
import HandS.GenList
import HandS.ExcValue
import KE.KExcIs
import HandS.StrMore
import HandS.FStr
import KE.GoesEnum
import KE.GoesEnumKw
import HandS.OwnIter
import HandS.IterVal
import HandS.Property
import KE.KExcSuper
import HandS.ExcInit
import HandS.SetBool
import HandS.SetFor
import HandS.ReplaceLit
import HandS.Codes
import HandS.RaiseFrom
import PyProof.StrLawsChain
import PyProof.StrLawsAffix
import PyProof.StrLawsIn
import PySem.Challenge.RW_ownlabels_k10_programs_that_are_invalid
set_option Elab.async false
set_option linter.all false
set_option maxRecDepth 100000
set_option maxHeartbeats 4000000
namespace LW
open PySem PySem.Spec PyProof.Rows L2

/-! ### data -/
inductive D where
  | non | bl (b : Bool) | int (i : Int) | str (s : Str)
  | tup (ds : List D) | lst (ds : List D) | ins (C : Addr) (ns : List Str) (ds : List D) | adr (a : Addr)

/-- the field names of classes whose instances are never written again -/
def immNames : List (List Str) := [["places"], ["instructions", "rows"], ["program", "numberings", "workers", "cells", "capacity"], ["system"], ["system", "schedule"], ["system", "schedule", "cycle"], ["system", "states", "ranks", "levels", "helpers"]]
def imm (ns : List Str) : Bool := decide (ns ∈ immNames)
def pers : HO → Bool
  | .lst _ => false
  | .dK _ => false
  | .dT _ => false
  | .set _ _ => false
  | .ext _ => false
  | .ins _ _ fs => imm (fs.map (·.1))
  | _ => true

mutual
inductive Rep (K : PySem.W.Frag) (H : Hp) : D → V → Prop
  | non : Rep K H .non .non
  | bl (b : Bool) : Rep K H (.bl b) (.bl b)
  | int (i : Int) : Rep K H (.int i) (.int i)
  | str (s : Str) : Rep K H (.str s) (.str s)
  | adr (a : Addr) : Rep K H (.adr a) (.ref a)
  | tup {a : Addr} {xs : List V} {ds : List D} : SqT K H a xs → Reps K H ds xs → Rep K H (.tup ds) (.ref a)
  | lst {a : Addr} {xs : List V} {ds : List D} : SqL K H a xs → Reps K H ds xs → Rep K H (.lst ds) (.ref a)
  | ins {a C dx : Addr} {ns : List Str} {xs : List V} {ds : List D} : H a = some (.ins C dx (ns.zip xs)) → imm ns = true → ns.length = ds.length → Reps K H ds xs → Rep K H (.ins C ns ds) (.ref a)
inductive Reps (K : PySem.W.Frag) (H : Hp) : List D → List V → Prop
  | nil : Reps K H [] []
  | cons {d : D} {ds : List D} {v : V} {vs : List V} : Rep K H d v → Reps K H ds vs → Reps K H (d :: ds) (v :: vs)
end
mutual
def D.pure : D → Bool
  | .tup ds => D.pures ds
  | .lst _ => false
  | .ins _ _ ds => D.pures ds
  | _ => true
def D.pures : List D → Bool
  | [] => true
  | d :: ds => d.pure && D.pures ds
end

/-! ### how a heap grows -/
structure Gr (S : List Addr) (H H' : Hp) : Prop where
  keep : ∀ a o, H a = some o → a ∉ S → H' a = some o
  mu : ∀ a, a ∈ S → ∃ o, H a = some o ∧ pers o = false
section
variable {K : PySem.W.Frag} {H H' H1 H2 : Hp} {S S' : List Addr} {a l p : Addr} {o : HO} {xs ys : List V}
theorem Gr.refl (H : Hp) : Gr [] H H := ⟨fun _ _ h _ => h, fun _ h => by cases h⟩
theorem Gr.get (g : Gr S H H') (h : H a = some o) (hp : pers o = true) : H' a = some o := g.keep a o h fun m => by
  obtain ⟨u, h1, h2⟩ := g.mu a m
  rw [h] at h1
  cases h1
  rw [hp] at h2
  cases h2
theorem Gr.get0 (g : Gr [] H H') (h : H a = some o) : H' a = some o := g.keep a o h (by simp)
theorem Gr.trans (g : Gr S H H1) (g' : Gr S' H1 H2) (hs : ∀ a, a ∈ S' → a ∈ S ∨ H a = none) : Gr S H H2 :=
  ⟨fun a o h m => g'.keep a o (g.keep a o h m) fun m' => by
    rcases hs a m' with q | q
    · exact m q
    · exact absurd (h.symm.trans q) (by simp), g.mu⟩
theorem Gr.trans0 (g : Gr S H H1) (g' : Gr [] H1 H2) : Gr S H H2 := g.trans g' fun _ h => by cases h
theorem Gr.trans1 (g : Gr [l] H H1) (g' : Gr [l] H1 H2) : Gr [l] H H2 := g.trans g' fun _ h => .inl h
/-- what was changed was new -/
theorem Gr.transN (g : Gr S H H1) (g' : Gr [l] H1 H2) (h : H l = none) : Gr S H H2 := g.trans g' fun a m => by
  have e : a = l := by simpa using m
  subst e
  exact .inr h
theorem Gr.trans2 (g : Gr S H H1) (g' : Gr [l] H1 H2) (h : l ∈ S) : Gr S H H2 := g.trans g' fun a m => by
  have e : a = l := by simpa using m
  subst e
  exact .inl h
theorem Gr.weak (g : Gr [] H H') (h : ∀ a, a ∈ S → ∃ o, H a = some o ∧ pers o = false) : Gr S H H' := ⟨fun a o e _ => g.keep a o e (by simp), h⟩
theorem Gr.weak1 (g : Gr [] H H') (h : H l = some (.lst xs)) : Gr [l] H H' := g.weak fun a m => by
  have e : a = l := by simpa using m
  subst e
  exact ⟨_, h, rfl⟩
theorem Gr.new (h : H p = none) : Gr [] H (upd H p o) := ⟨fun a u e _ => by rw [upd_ne (ne_of_none e h)]; exact e, fun _ m => by cases m⟩
theorem Gr.wr (h : H l = some (.lst xs)) : Gr [l] H (upd H l o) := ⟨fun a u e m => by
    rw [upd_ne (by simpa using m)]
    exact e, fun a m => by
    have e : a = l := by simpa using m
    subst e
    exact ⟨_, h, rfl⟩⟩
theorem Gr.free (g : Gr S H H') (h : H' p = none) (hp : p ∉ S) : H p = none := by
  cases q : H p with
  | none => rfl
  | some u =>
    rw [g.keep p u q hp] at h
    cases h
theorem Gr.free0 (g : Gr [] H H') (h : H' p = none) : H p = none := g.free h (by simp)
theorem Gr.free1 (g : Gr [l] H H') (h : H' p = none) (ne : p ≠ l) : H p = none := g.free h (by simpa using ne)
theorem Gr.sqt (g : Gr S H H') (h : SqT K H a xs) : SqT K H' a xs := by
  rcases h with (h | ⟨u, h⟩) | h
  · exact .inl (.inl (g.get h rfl))
  · exact .inl (.inr ⟨u, g.get h rfl⟩)
  · exact .inr h
theorem Gr.sql0 (g : Gr [] H H') (h : SqL K H a xs) : SqL K H' a xs := by
  rcases h with (h | ⟨u, h⟩) | h
  · exact .inl (.inl (g.get0 h))
  · exact .inl (.inr ⟨u, g.get0 h⟩)
  · exact .inr h
theorem Gr.sql (g : Gr S H H') (h : SqL K H a xs) (hn : a ∉ S) : SqL K H' a xs := by
  rcases h with (h | ⟨u, h⟩) | h
  · exact .inl (.inl (g.keep _ _ h hn))
  · exact .inl (.inr ⟨u, g.keep _ _ h hn⟩)
  · exact .inr h
theorem Gr.lst1 (g : Gr [l] H H') (h : H a = some (.lst xs)) (hn : a ≠ l) : H' a = some (.lst xs) := g.keep _ _ h (by simpa using hn)
end
mutual
theorem Rep.gr {K : PySem.W.Frag} {H H' : Hp} {S : List Addr} (g : Gr S H H') : ∀ {d : D} {v : V}, Rep K H d v → d.pure = true → Rep K H' d v
  | _, _, .non, _ => .non
  | _, _, .bl b, _ => .bl b
  | _, _, .int b, _ => .int b
  | _, _, .str b, _ => .str b
  | _, _, .adr b, _ => .adr b
  | _, _, .tup h r, q => .tup (g.sqt h) (Reps.gr g r q)
  | _, _, .lst h r, q => nomatch (show false = true from q)
  | _, _, .ins (ns := ns) (xs := xs) (ds := ds) h i l r, q => .ins (g.get h (by
      have e : xs.length = ds.length := Reps.len r
      show imm ((ns.zip xs).map (·.1)) = true
      rw [List.map_fst_zip (by omega)]
      exact i)) i l (Reps.gr g r q)
theorem Reps.gr {K : PySem.W.Frag} {H H' : Hp} {S : List Addr} (g : Gr S H H') : ∀ {ds : List D} {vs : List V}, Reps K H ds vs → D.pures ds = true → Reps K H' ds vs
  | _, _, .nil, _ => .nil
  | _, _, .cons h r, q => by
    have q2 := Bool.and_eq_true_iff.mp q
    exact .cons (Rep.gr g h q2.1) (Reps.gr g r q2.2)
theorem Reps.len {K : PySem.W.Frag} {H : Hp} : ∀ {ds : List D} {vs : List V}, Reps K H ds vs → vs.length = ds.length
  | _, _, .nil => rfl
  | _, _, .cons _ r => congrArg Nat.succ (Reps.len r)
end
mutual
theorem Rep.gr0 {K : PySem.W.Frag} {H H' : Hp} (g : Gr [] H H') : ∀ {d : D} {v : V}, Rep K H d v → Rep K H' d v
  | _, _, .non => .non
  | _, _, .bl b => .bl b
  | _, _, .int b => .int b
  | _, _, .str b => .str b
  | _, _, .adr b => .adr b
  | _, _, .tup h r => .tup (g.sqt h) (Reps.gr0 g r)
  | _, _, .lst h r => .lst (g.sql0 h) (Reps.gr0 g r)
  | _, _, .ins h i l r => .ins (g.get0 h) i l (Reps.gr0 g r)
theorem Reps.gr0 {K : PySem.W.Frag} {H H' : Hp} (g : Gr [] H H') : ∀ {ds : List D} {vs : List V}, Reps K H ds vs → Reps K H' ds vs
  | _, _, .nil => .nil
  | _, _, .cons h r => .cons (Rep.gr0 g h) (Reps.gr0 g r)
end

/-! ### a def of the text -/
def noFd : FuncData := PySem.W.fnOf Str.empty Str.empty ⟨[], [], none, [], [], none, []⟩ [] ⟨.function, [], false, false, []⟩ .none .none .none .none none .none .none
def fdA (K : PySem.W.Frag) (a : Addr) : FuncData := match K.lookup a with
  | some ⟨_, _, .func fd, _⟩ => fd
  | _ => noFd
theorem fdA_of {K : PySem.W.Frag} {x qual : Str} {params : Arguments} {body : List Stmt} {scope : Scope} {dvs : List V} {kws : List (Str × V)} {f : Addr} (h : ∃ fd, FunD K x qual params body scope dvs kws f fd) : FunD K x qual params body scope dvs kws f (fdA K f) := by
  obtain ⟨fd, h⟩ := h
  have e : fdA K f = fd := by
    obtain ⟨oc, od, dV, kV, doc, pm, an, cdv, ct, osl, _, lk, _⟩ := h.ex
    unfold fdA
    rw [lk]
  rw [e]
  exact h
/-- a def that may raise: its body under what takes an exception -/
theorem okT {P : Program} {w : World} {K : PySem.W.Frag} {mg : Str → Option Value} {base : Heap} {x qual : Str} {params : Arguments} {body : List Stmt} {scope : Scope} {dvs : List V} {kws : List (Str × V)} {f : Addr} {fd : FuncData} {N ps : List Str} {k : Nat} {sp : Sp}
    (F : FunD K x qual params body scope dvs kws f fd) (S : FnScope N ps scope) (len : ∀ vs H Q E, sp vs H Q E → vs.length = ps.length)
    (hbody : ∀ (cdv : Value) (A : Around) (outer : List Env) (s : Shared) (H : Hp) (vs : List V) (Q : VK) (E : XK), Room k (A.deeper (envOfC qual scope s.heap.objs.size f cdv)) → sp vs H Q E →
      L2N.Takes (cxOf (L2N.CX P w) P w K mg base N qual scope f cdv A outer s H E) (fun cls d _ H' => E cls d H') →
      PassesOwn (model P w) (cxOf (L2N.CX P w) P w K mg base N qual scope f cdv A outer s H E).A (cxOf (L2N.CX P w) P w K mg base N qual scope f cdv A outer s H E).env (cxOf (L2N.CX P w) P w K mg base N qual scope f cdv A outer s H E).xe →
      ∃ t, PSs (cxOf (L2N.CX P w) P w K mg base N qual scope f cdv A outer s H E) body t ∧ t { nx := fun _ H' => Q .non H', rt := Q } (start N vs) H) : FnOk P w K mg base (L2N.CX P w) (k + 1) f fd ps sp :=
  F.ok S len fun cdv A outer s H vs Q E hr h => hbody cdv A outer s H vs Q E hr h (L2N.takes_of rfl rfl rfl rfl) (passes_of rfl)

/-! ### try with several clauses, named or not -/
abbrev TSu := Addr → Value → Option Addr → TS
abbrev TSv := Addr → Value → Option Addr → Obj → List (Addr × Obj) → TS
def oeZ : Obj := ⟨.none, none, .plain, #[]⟩
abbrev xeZ : Value → Shared → Prop := fun _ _ => True
/-- behind a clause that binds a name its slot is empty -/
def endsNo (i : Nat) (D : Ends) : Ends := { nx := fun σ H => D.nx (σ.set i none) H, rt := D.rt, bk := fun σ H => D.bk (σ.set i none) H, ct := fun σ H => D.ct (σ.set i none) H }
def wHds (K : PySem.W.Frag) (Wo : WX) (D : Ends) : List (Value × Option Nat × TSu) → WX
  | [] => Wo
  | (c, o, ts) :: r => fun cls d σ H => ∃ b, PySem.W.exmOne K cls c = some b ∧
      (b = true → ∀ a, H a = none → match o with
        | some i => ts a cls d (endsNo i D) (σ.set i (some (.ref a))) H
        | none => ts a cls d D σ H) ∧ (b = false → wHds K Wo D r cls d σ H)
inductive HdsE (X : Cx) : List ExceptHandler → List (Value × Option Nat × TSu) → Prop
  | nil : HdsE X [] []
  | only {x : Str} {c : Value} {ts : TSv} {b0 : Stmt} {su : List Stmt} {np p : Pos} {hds : List ExceptHandler} {l : List (Value × Option Nat × TSu)} (hc : Names X x c)
      (hsu : ∀ (a : Addr) (oe : Obj) (cls : Value) (d : Option Addr) (pn : List (Addr × Obj)), L2N.Zn cls d oe → (∃ vs, oe.data = .fields vs) → PSs (X.suite a ((a, oe) :: pn)) (b0 :: su) (ts a cls d oe pn)) (r : HdsE X hds l)
      (he : ∀ a oe cls d pn, ts a cls d oe pn = ts a cls d oeZ [] := by intros; rfl) :
      HdsE X (.ExceptHandler (some (.Name x np)) none (b0 :: su) p :: hds) ((c, none, fun a cls d => ts a cls d oeZ []) :: l)
  | as_ {x n : Str} {i : Nat} {c : Value} {ts : TSv} {b0 : Stmt} {su : List Stmt} {np p : Pos} {hds : List ExceptHandler} {l : List (Value × Option Nat × TSu)} (hN : X.N.Nodup) (hi : X.N[i]? = some n) (hln : X.env.kindOf n = some .local) (hc : Names X x c)
      (hsu : ∀ (a : Addr) (oe : Obj) (cls : Value) (d : Option Addr) (pn : List (Addr × Obj)), L2N.Zn cls d oe → (∃ vs, oe.data = .fields vs) → PSs (X.suite a ((a, oe) :: pn)) (b0 :: su) (ts a cls d oe pn)) (r : HdsE X hds l)
      (he : ∀ a oe cls d pn, ts a cls d oe pn = ts a cls d oeZ [] := by intros; rfl) :
      HdsE X (.ExceptHandler (some (.Name x np)) (some n) (b0 :: su) p :: hds) ((c, some i, fun a cls d => ts a cls d oeZ []) :: l)
section
variable {X : Cx} {body : List Stmt} {h0 : ExceptHandler} {hds : List ExceptHandler} {l : List (Value × Option Nat × TSu)} {pos : Pos} {tb : WX → List (Addr × Obj) → (Value → Shared → Prop) → TS} {Wo : WX}
/-- an exception that lies on the ground, asked of the clauses one after another -/
theorem hds_run (hs : X.stack = X.env :: X.outer) (hf : X.env.frame = some X.env.locals) (tk : L2N.Takes X Wo) {pins : List (Addr × Obj)} {D : Ends} {a : Addr} {B : Heap} {sI s' : Shared} {σ : L2.St} {H : Hp} {cls : Value} {d : Option Addr} {h3 : Heap}
    (J : Inv X pins σ H sI) (nb : ∀ b o, sI.heap.get? b = some o → b ∉ frs X.stack → B.get? b = some o) (up : sI.heap.UpToSlots s'.heap) (na : H a = none) (os : s'.os = sI.os) (ag : AllBare s'.gens)
    (fl3 : HandSPX.FlyingZ B (X.env :: X.outer) a (L2N.Zn cls d) h3) (up3 : s'.heap.UpToSlots h3) : ∀ {hds : List ExceptHandler} {l : List (Value × Option Nat × TSu)}, HdsE X hds l → wHds X.K Wo D l cls d σ H →
    wpAny (model X.prog X.w) X.A (handleBy (.ref a) X.env hds) (SP X pins D) X.xe { s' with heap := h3 } := by
  have ok := J.ok
  have nfr : a ∉ frs (X.env :: X.outer) := fun hm => by
    obtain ⟨oe, vs, he, _, hd⟩ := fl3.there
    obtain ⟨_, o', e', hnf⟩ := fl3.2.2.1.mem hm
    rw [he] at e'
    cases e'
    exact hnf _ hd
  have nL : a ≠ X.env.locals := fun z => nfr (List.mem_filterMap.mpr ⟨X.env, List.mem_cons_self, by rw [hf, z]⟩)
  have nF : a ∉ X.fs := fun hm => by
    obtain ⟨e, he, q⟩ := List.mem_filterMap.mp hm
    exact nfr (List.mem_filterMap.mpr ⟨e, List.mem_cons_of_mem _ he, q⟩)
  have lands : ∀ {h4 : Heap}, HandSPX.FlyingZ B (X.env :: X.outer) a (L2N.Zn cls d) h4 → sI.heap.UpToSlots h4 → Inv X pins σ H { s' with heap := h4 } ∧ ∃ oe vs, h4.get? a = some oe ∧ L2N.Zn cls d oe ∧ oe.data = .fields vs ∧ Inv (X.suite a ((a, oe) :: (X.pn ++ pins))) [] σ H { s' with heap := h4 } := fun {h4} fl4 u4 => by
    have J4 : Inv X pins σ H { s' with heap := h4 } := J.landed nb fl4.1 u4 os ag
    obtain ⟨oe4, vs4, he4, hz4, hd4⟩ := fl4.there
    exact ⟨J4, oe4, vs4, he4, hz4, hd4, J4.suite he4 hd4 na nL nF⟩
  have ask : ∀ {x : Str} {c : Value} {np : Pos} {b : Bool} {R : Bool → Shared → Prop} {E1 E2 : Value → Shared → Prop}, Names X x c → PySem.W.exmOne X.K cls c = some b → R b { s' with heap := h3 } →
      wpAny (model X.prog X.w) (X.A.mark (some (.ref a))) (eval (.Name x np) X.env) (fun v s1 => wpAny (model X.prog X.w) (X.A.mark (some (.ref a))) (excMatches (.ref a) v) R E2 s1) E1 { s' with heap := h3 } := fun {x c np b R E1 E2} hc hb q => by
    obtain ⟨J3, oe3, vs3, he3, hz3, hd3, S3⟩ := lands fl3 (up.trans up3)
    have LT : PySem.W.Looks (model X.prog X.w) h3 (typeOf (.ref a)) cls := fun A Q E s k q => wpAny_typeOf_ref (k _ _ he3) (by rw [hz3.1]; exact q)
    have LM := PySem.W.exm_one (M := model X.prog X.w) J3.kIn LT hb
    have fin : wpAny (model X.prog X.w) (X.A.mark (some (.ref a))) (excMatches (.ref a) c) R E2 { s' with heap := h3 } := LM.here q
    obtain ⟨hg, hdbg, hm | ⟨hm, hv, hnn⟩⟩ := hc
    · exact ld_glob (X := X.suite a ((a, oe3) :: (X.pn ++ pins))) S3 hg hm fin hdbg
    · exact ld_blt (X := X.suite a ((a, oe3) :: (X.pn ++ pins))) S3 hg hm hv fin hnn hdbg
  intro hds l hk
  induction hk with
  | nil =>
    intro w
    refine wpAny_handleBy_nil ?_
    obtain ⟨k1, k2, k3, oe, vs, T, oT, ts', he, hz, hd, h1, hr⟩ := id fl3
    unfold PySem.passOn
    refine wpAny_bind (wpAny_field he hd h1 ?_)
    rw [if_neg (by simp)]
    have fin : wpAny (model X.prog X.w) X.A (setFlight (.ref a) X.env.frame) (fun _ s4 => wpAny (model X.prog X.w) X.A (throw (.ref a) : Sem Flow) (SP X pins D) X.xe s4) X.xe { s' with heap := h3 } := by
      rw [hf]
      exact HandSPX.setFlight_upZ fl3 fun h4 hh4 up4 => wpAny_throw (tk _ _ ⟨a, B, sI, pins, σ, H, cls, d, rfl, J, nb, (up.trans up3).trans up4, .inr (.inr (by rw [hs]; exact hh4)), na, os, ag, w⟩)
    first
      | exact wpAny_bind (wpAny_pure (wpAny_bind fin))
      | exact wpAny_bind fin
  | only hc hsu r he ih =>
    intro w
    obtain ⟨b, hb, hy, hn⟩ := w
    refine wpAny_handleBy_cons (codeAny_handlers_test (ask hc hb ?_)) (by intro q; cases q)
    cases b with
    | false => exact ih (hn rfl)
    | true =>
      refine codeAny_handlers_suite (HandSPX.lands_againZ fl3 fun h4 fl4 up4 => ?_)
      obtain ⟨J4, oe4, vs4, he4, hz4, hd4, S4⟩ := lands fl4 ((up.trans up3).trans up4)
      have hh := hsu a oe4 cls d (X.pn ++ pins) hz4 ⟨_, hd4⟩
      rw [he] at hh
      refine wpAny_mono (hh.run [] _ _ H _ S4 (hy rfl a na)) (fun f s6 hsp => ?_) fun _ _ z => False.elim z
      cases f with
      | ret u =>
        obtain ⟨v6, σ6, H6, S6, r6, q6⟩ := hsp
        exact ⟨_, _, _, S6.unsuite ok, r6, q6⟩
      | _ =>
        obtain ⟨σ6, H6, S6, q6⟩ := hsp
        exact ⟨_, _, S6.unsuite ok, q6⟩
  | as_ hN hi hln hc hsu r he ih =>
    rename_i x n i c ts b0 su np p hds l
    intro w
    obtain ⟨b, hb, hy, hn⟩ := w
    refine wpAny_handleBy_cons (codeAny_handlers_test (ask hc hb ?_)) (by intro q; cases q)
    cases b with
    | false => exact ih (hn rfl)
    | true =>
      refine codeAny_handlers_suite_as (HandSPX.lands_againZ fl3 fun h4 fl4 up4 => ?_)
      obtain ⟨J4, oe4, vs4, he4, hz4, hd4, S4⟩ := lands fl4 ((up.trans up3).trans up4)
      refine store_ok (X := X.suite a ((a, oe4) :: (X.pn ++ pins))) (v := .ref a) S4 hN hi (.inl hln) rfl (fun s5 S5 => ?_) (.inr hln)
      have hh := hsu a oe4 cls d (X.pn ++ pins) hz4 ⟨_, hd4⟩
      rw [he] at hh
      refine wpAny_mono (hh.run [] s5 _ H _ S5 (hy rfl a na)) (fun f s6 hsp => ?_) fun _ _ z => False.elim z
      have gone : ∀ {σ6 : L2.St} {H6 : Hp} {Q : Shared → Prop}, Inv (X.suite a ((a, oe4) :: (X.pn ++ pins))) [] σ6 H6 s6 → (∀ s7, Inv X pins (σ6.set i none) H6 s7 → Q s7) →
          wpAny (model X.prog X.w) X.A (do bindName X.env n .none; unbindBehindTheSuite X.env n p) (fun _ s7 => Q s7) X.xe s6 := fun {σ6 H6 Q} S6 hq => gone_ok (S6.unsuite ok) hN hi hln hq
      cases f with
      | ret u =>
        obtain ⟨v6, σ6, H6, S6, r6, q6⟩ := hsp
        exact gone S6 fun s7 J7 => ⟨_, _, _, J7, r6, q6⟩
      | _ =>
        obtain ⟨σ6, H6, S6, q6⟩ := hsp
        exact gone S6 fun s7 J7 => ⟨_, _, J7, q6⟩
theorem ps_tryE (hs : X.stack = X.env :: X.outer) (hf : X.env.frame = some X.env.locals) (tk : L2N.Takes X Wo)
    (hb : ∀ (W : WX) (pn : List (Addr × Obj)) (xe : Value → Shared → Prop), L2N.Takes (X.tr pn xe) W → PassesOwn (model X.prog X.w) X.A X.env xe → PSs (X.tr pn xe) body (tb W pn xe))
    (hh : HdsE X (h0 :: hds) l) (he : ∀ W pn xe, tb W pn xe = tb W [] xeZ := by intros; rfl) : PS X (.Try body (h0 :: hds) [] [] pos) (fun D σ H => tb (wHds X.K Wo D l) [] xeZ D σ H) := by
  refine ⟨fun pins s σ H D I h => ?_⟩
  have ok := I.ok
  have hfr : X.A.frames = some (X.env :: X.outer) := by rw [ok.frames, hs]
  rw [← he (wHds X.K Wo D l) (X.pn ++ pins) (fun e s₁ => wpAny (model X.prog X.w) X.A (noteFrame e X.env) (fun _ s₂ => wpAny (model X.prog X.w) X.A (setFlight e none) (fun _ s₃ =>
    wpAny (model X.prog X.w) X.A (handleBy e X.env (h0 :: hds)) (SP X pins D) X.xe s₃) X.xe s₂) X.xe s₁)] at h
  refine wpAny_Try_except (wpAny_mono ((hb (wHds X.K Wo D l) (X.pn ++ pins) (fun e s₁ => wpAny (model X.prog X.w) X.A (noteFrame e X.env) (fun _ s₂ => wpAny (model X.prog X.w) X.A (setFlight e none) (fun _ s₃ =>
    wpAny (model X.prog X.w) X.A (handleBy e X.env (h0 :: hds)) (SP X pins D) X.xe s₃) X.xe s₂) X.xe s₁) (fun u s' xx => ?_) PassesOwn.looking).run [] s σ H D (I.toTry _) h) (fun f s1 hsp => ?_) fun e s1 he => he)
  · obtain ⟨a, B, sI, pins', σ', H', cls, d, rfl, J', nb, up, sky, na, os, ag, w⟩ := xx
    have J : Inv X pins σ' H' sI := J'.ofTry ok
    refine L2N.Sky.land L2N.Zn.steady hfr hf (by rw [← hs]; exact sky) fun h3 fl3 up3 => ?_
    exact hds_run hs hf tk J nb up na os ag fl3 up3 hh w
  · cases f with
    | ret u =>
      obtain ⟨v, σ', H', J', r, q⟩ := hsp
      exact ⟨v, σ', H', J'.ofTry ok, r, q⟩
    | next =>
      obtain ⟨σ', H', J', q⟩ := hsp
      exact wpAny_execs_nil ⟨σ', H', J'.ofTry ok, q⟩
    | _ =>
      obtain ⟨σ', H', J', q⟩ := hsp
      exact ⟨σ', H', J'.ofTry ok, q⟩
end

/-! ### built-ins by named readings -/
def rLenA (K : PySem.W.Frag) : List V → Hp → VK → Prop := fun xs H Q => ∃ p ys, xs = [.ref p] ∧ (SqL K H p ys ∨ SqT K H p ys) ∧ Q (.int ys.length) H
theorem cr_len {X : Cx} : CallR X (.builtin "len") (rLenA X.K) := call_len_seq
def rListOf (K : PySem.W.Frag) : List V → Hp → VK → Prop := fun xs H Q => ∃ p ys, xs = [.ref p] ∧ (SqL K H p ys ∨ SqT K H p ys) ∧ ∀ l, H l = none → Q (.ref l) (upd H l (.lst ys))
theorem cr_list {X : Cx} : CallR X (.type "list") (rListOf X.K) := call_list_of
/-- a tuple made here: its object is known to have no dict -/
def TupX (H : Hp) (a : Addr) (xs : List V) : Prop := ∃ o : Obj, H a = some (.frz o (.tup xs)) ∧ o.dict = none
theorem TupX.sqt {K : PySem.W.Frag} {H : Hp} {a : Addr} {xs : List V} (h : TupX H a xs) : SqT K H a xs := by
  obtain ⟨o, h, _⟩ := h
  exact .inl (.inr ⟨o, h⟩)
theorem TupX.gr {H H' : Hp} {S : List Addr} {a : Addr} {xs : List V} (h : TupX H a xs) (g : Gr S H H') : TupX H' a xs := by
  obtain ⟨o, h, d⟩ := h
  exact ⟨o, g.get h rfl, d⟩
def rTupleOf (K : PySem.W.Frag) : List V → Hp → VK → Prop := fun xs H Q => ∃ p ys, xs = [.ref p] ∧ ((SqL K H p ys ∧ ∀ (l : Addr) (o : Obj), H l = none → o.dict = none → Q (.ref l) (upd H l (.frz o (.tup ys)))) ∨ (SqT K H p ys ∧ Q (.ref p) H))
theorem cr_tuple {X : Cx} : CallR X (.type "tuple") (rTupleOf X.K) := by
  intro pins s σ H xs us Q I r h
  obtain ⟨p, ys, rfl, h⟩ := h
  obtain ⟨u, rfl, ru⟩ := r.one
  cases (show u = Value.ref p from ru)
  rcases h with ⟨hs, q⟩ | ⟨hs, q⟩
  · obtain ⟨its, rv, pl, hz⟩ := I.list hs
    refine call_tuple_list pl.isList (fun h' hk => ?_) (by rw [List.size_toArray, ← rv.length]; exact hz)
    have I1 : Inv X pins σ H { s with heap := h' } := I.kept (t' := s.toks) hk
    refine ⟨.ref h'.objs.size, _, I1.laid (t' := s.toks) (o := .frz { cls := .type "tuple", data := .seq its.toArray } (.tup ys)) (fun b o e => Heap.get?_push_of_some _ e) (Nat.le_refl _) ⟨Heap.get?_push_size _ rfl, hz, its, rv, IsTup.new _ _⟩, rfl, q _ _ (I1.hok.fresh (Nat.le_refl _)) rfl⟩
  · obtain ⟨its, rv, pl, hz⟩ := I.tuple hs
    exact call_tuple_tup pl ⟨.ref p, H, I, rfl, q⟩
def rAbs : List V → Hp → VK → Prop := fun xs H Q => ∃ i, xs = [.int i] ∧ Q (.int (if i < 0 then -i else i)) H
theorem cr_abs {X : Cx} : CallR X (.builtin "abs") rAbs := call_abs
def rInt1 : List V → Hp → VK → Prop := fun xs H Q => (∃ i, xs = [.int i] ∧ Q (.int i) H) ∨ ∃ k, xs = [.bl k] ∧ Q (.int (if k then 1 else 0)) H
theorem cr_int {X : Cx} : CallR X (.type "int") rInt1 := call_int1
def rNewL : List V → Hp → VK → Prop := fun xs H Q => xs.length ≤ sizeLine ∧ ∀ p, H p = none → Q (.ref p) (upd H p (.lst xs))
def rNewT : List V → Hp → VK → Prop := fun xs H Q => xs.length ≤ sizeLine ∧ ∀ p, H p = none → Q (.ref p) (upd H p (.tup xs))
def tLstN (t : TA) : TE := fun σ H Q => t σ H fun xs H1 => rNewL xs H1 Q
def tTupN (t : TA) : TE := fun σ H Q => t σ H fun xs H1 => rNewT xs H1 Q
theorem pe_lstN {X : Cx} {es : List Expr} {t : TA} {pos : Pos} (h : PA X es t) : PE X (.List es pos) (tLstN t) := pe_lst h
theorem pe_tupN {X : Cx} {es : List Expr} {t : TA} {pos : Pos} {k : Nat} (h : PA X es t) : PE X (.Tuple es k pos) (tTupN t) := pe_tup h
/-! ### readings, answered from the left -/
section
variable {K : PySem.W.Frag} {σ : L2.St} {H : Hp} {Q : VK} {D : Ends} {ta tb tc te : TE} {tA tr : TA} {c t u' : TT} {ts us : TS} {i j : Int} {v x y : V} {QA : List V → Hp → Prop} {QB : Bool → Hp → Prop}
theorem w_seq (h : ts { D with nx := us D } σ H) : tSeq ts us D σ H := h
theorem w_asg {g : TG} (h : te σ H fun x H1 => g x σ H1 D.nx) : tAsg te g D σ H := h
theorem w_gname {n : Nat} {QS : L2.St → Hp → Prop} (h : QS (σ.set n (some v)) H) : gName n v σ H QS := h
theorem w_drop (h : te σ H fun _ H1 => D.nx σ H1) : tDrop te D σ H := h
theorem w_ret (h : te σ H D.rt) : tRet te D σ H := h
theorem w_retN (h : D.rt .non H) : tRetN D σ H := h
theorem w_next (h : D.nx σ H) : tNext D σ H := h
theorem w_ifS (h : c σ H fun b H1 => if b = true then ts D σ H1 else us D σ H1) : tIfS c ts us D σ H := h
theorem w_var {n : Nat} (h1 : σ[n]? = some (some v)) (h : Q v H) : tVar n σ H Q := ⟨v, h1, h⟩
theorem w_c (h : Q v H) : tC v σ H Q := h
theorem w_op {r : R2} (h : ta σ H fun x H1 => tb σ H1 fun y H2 => r x y H2 Q) : tOp r ta tb σ H Q := h
theorem w_un {r : V → Hp → VK → Prop} (h : ta σ H fun x H1 => r x H1 Q) : tUn r ta σ H Q := h
theorem w_rU {g : Int → V} (h : Q (g i) H) : rU g (.int i) H Q := ⟨i, rfl, h⟩
theorem w_cons (h : te σ H fun x H1 => tr σ H1 fun xs H2 => QA (x :: xs) H2) : tCons te tr σ H QA := h
theorem w_nil (h : QA [] H) : tNil σ H QA := h
theorem w_cb {r : List V → Hp → VK → Prop} (h : tA σ H fun vs H1 => r vs H1 Q) : tCB r tA σ H Q := h
theorem w_rI0 {g : Int → Int → V} (h : Q (g i j) H) : rI0 g (.int i) (.int j) H Q := ⟨i, j, rfl, rfl, h⟩
theorem w_rI {C : Int → Int → Prop} {g : Int → Int → V} (hc : C i j) (h : Q (g i j) H) : rI C g (.int i) (.int j) H Q := ⟨i, j, rfl, rfl, hc, h⟩
theorem w_eq (h0 : scal x y = true) (h : Q (.bl (decide (x = y))) H) : rEq x y H Q := ⟨h0, h⟩
theorem w_ne (h0 : scal x y = true) (h : Q (.bl (!decide (x = y))) H) : rNe x y H Q := ⟨h0, h⟩
theorem w_test (h : te σ H fun x H1 => ∃ k, x = .bl k ∧ QB k H1) : tTest te σ H QB := h
theorem w_tB (h : te σ H fun x H1 => ∃ k, x = .bl k ∧ QB k H1) : tB te σ H QB := h
theorem w_exb {k : Bool} (h : QB k H) : ∃ k', V.bl k = .bl k' ∧ QB k' H := ⟨k, rfl, h⟩
theorem w_and (h : c σ H fun b H1 => if b = true then t σ H1 QB else QB false H1) : tAnd c t σ H QB := h
theorem w_or (h : c σ H fun b H1 => if b = true then QB true H1 else t σ H1 QB) : tOr c t σ H QB := h
theorem w_not (h : c σ H fun b H1 => QB (!b) H1) : tNot c σ H QB := h
theorem w_andV (h : ta σ H fun x H1 => ∃ k, x = .bl k ∧ if k = true then tb σ H1 Q else Q (.bl false) H1) : tAndV ta tb σ H Q := h
theorem w_orV (h : ta σ H fun x H1 => ∃ k, x = .bl k ∧ if k = true then Q (.bl true) H1 else tb σ H1 Q) : tOrV ta tb σ H Q := h
theorem w_notV (h : ta σ H fun x H1 => ∃ k, x = .bl k ∧ Q (.bl (!k)) H1) : tNotV ta σ H Q := h
theorem w_exV {k : Bool} {R : Bool → Prop} (h : R k) : ∃ k', V.bl k = .bl k' ∧ R k' := ⟨k, rfl, h⟩
theorem w_chain {r r' : R2} (h : ta σ H fun x H1 => tb σ H1 fun y H2 => r x y H2 fun z H3 => ∃ k, z = .bl k ∧ if k = true then tc σ H3 (fun w' H4 => r' y w' H4 Q) else Q (.bl false) H3) : tChain r r' ta tb tc σ H Q := h
theorem w_ifE (h : c σ H fun b H1 => if b = true then ta σ H1 Q else tb σ H1 Q) : tIf c ta tb σ H Q := h
theorem w_tLst (h : tA σ H fun xs H1 => rNewL xs H1 Q) : tLstN tA σ H Q := h
theorem w_tTup (h : tA σ H fun xs H1 => rNewT xs H1 Q) : tTupN tA σ H Q := h
theorem w_lst {xs : List V} (h0 : xs.length ≤ sizeLine) (h : ∀ p H', H p = none → Gr [] H H' → H' p = some (.lst xs) → Q (.ref p) H') : rNewL xs H Q := ⟨h0, fun p hp => h p _ hp (Gr.new hp) upd_same⟩
theorem w_tup {xs : List V} (h0 : xs.length ≤ sizeLine) (h : ∀ p H', H p = none → Gr [] H H' → H' p = some (.tup xs) → Q (.ref p) H') : rNewT xs H Q := ⟨h0, fun p hp => h p _ hp (Gr.new hp) upd_same⟩
theorem w_ixL {p : Addr} {xs : List V} {k : Int} (h0 : SqL K H p xs) (h1 : atI xs k = some v) (h : Q v H) : rIxL K (.ref p) (.int k) H Q := ⟨p, xs, k, v, rfl, rfl, h0, h1, h⟩
theorem w_ixT {p : Addr} {xs : List V} {k : Int} (h0 : SqT K H p xs) (h1 : atI xs k = some v) (h : Q v H) : rIxT K (.ref p) (.int k) H Q := ⟨p, xs, k, v, rfl, rfl, h0, h1, h⟩
theorem w_setL {p : Addr} {xs : List V} {k : Int} {n : Nat} {w : V} {R : Hp → Prop} (h0 : H p = some (.lst xs)) (h1 : ixN xs.length k = some n) (h : ∀ H', Gr [p] H H' → H' p = some (.lst (xs.set n w)) → R H') : rSetL (.ref p) (.int k) w H R :=
  ⟨p, xs, k, n, rfl, rfl, h0, h1, h _ (Gr.wr h0) upd_same⟩
theorem w_gsub {to ti : TE} {t : TSet} {QS : L2.St → Hp → Prop} (h : to σ H fun o H1 => ti σ H1 fun i H2 => t o i v H2 fun H3 => QS σ H3) : gSub to ti t v σ H QS := h
theorem w_bm {T : String} {r : V → List V → Hp → VK → Prop} {to : TE} (h : to σ H fun x H1 => tyV K T x H1 ∧ tA σ H1 fun xs H2 => r x xs H2 Q) : tBM K T r to tA σ H Q := h
theorem w_bm0 {T : String} {r : V → List V → Hp → VK → Prop} {to : TE} (h : to σ H fun x H1 => tyV K T x H1 ∧ r x [] H1 Q) : tBM0 K T r to σ H Q := h
theorem w_ty {p : Addr} {xs : List V} {P : Prop} (h0 : SqL K H p xs) (h : P) : tyV K "list" (.ref p) H ∧ P := ⟨.inl ⟨rfl, _, h0⟩, h⟩
theorem w_app {p : Addr} {xs : List V} (h0 : H p = some (.lst xs)) (h1 : xs.length < sizeLine) (h : ∀ H', Gr [p] H H' → H' p = some (.lst (xs ++ [v])) → Q .non H') : rAppend (.ref p) [v] H Q :=
  ⟨p, xs, v, rfl, rfl, h0, h1, h _ (Gr.wr h0) upd_same⟩
theorem w_popAt {p : Addr} {xs : List V} {k : Int} {n : Nat} (h0 : H p = some (.lst xs)) (h1 : 0 ≤ k) (h2 : k < 2 ^ 63) (hn : k.toNat = n) (h3 : xs[n]? = some v) (h : ∀ H', Gr [p] H H' → H' p = some (.lst (xs.eraseIdx n)) → Q v H') : rPopAt (.ref p) [.int k] H Q := by
  have hl : n < xs.length := (List.getElem?_eq_some_iff.mp h3).1
  refine ⟨p, xs, k, n, v, rfl, rfl, h0, by omega, h2, ?_, h3, h _ (Gr.wr h0) upd_same⟩
  exact (ixN_seq (show ixN xs.length k = some n by unfold ixN; rw [if_pos h1, if_pos (by omega), hn])).1
theorem w_len {p : Addr} {xs : List V} (h0 : SqL K H p xs ∨ SqT K H p xs) (h : Q (.int xs.length) H) : rLenA K [.ref p] H Q := ⟨p, xs, rfl, h0, h⟩
theorem w_listOf {p : Addr} {xs : List V} (h0 : SqL K H p xs ∨ SqT K H p xs) (h : ∀ l H', H l = none → Gr [] H H' → H' l = some (.lst xs) → Q (.ref l) H') : rListOf K [.ref p] H Q :=
  ⟨p, xs, rfl, h0, fun l hl => h l _ hl (Gr.new hl) upd_same⟩
theorem w_tupOfL {p : Addr} {xs : List V} (h0 : SqL K H p xs) (h : ∀ l H', H l = none → Gr [] H H' → TupX H' l xs → Q (.ref l) H') : rTupleOf K [.ref p] H Q :=
  ⟨p, xs, rfl, .inl ⟨h0, fun l o hl ho => h l _ hl (Gr.new hl) ⟨o, upd_same, ho⟩⟩⟩
theorem w_tupOfT {p : Addr} {xs : List V} (h0 : SqT K H p xs) (h : Q (.ref p) H) : rTupleOf K [.ref p] H Q := ⟨p, xs, rfl, .inr ⟨h0, h⟩⟩
theorem w_abs (h : Q (.int (if i < 0 then -i else i)) H) : rAbs [.int i] H Q := ⟨i, rfl, h⟩
theorem w_int (h : Q (.int i) H) : rInt1 [.int i] H Q := .inl ⟨i, rfl, h⟩
theorem w_call {sp : Sp} {E : L2.St → XK} (h : tA σ H fun vs H1 => sp vs H1 Q (E σ)) : tCallS sp E tA σ H Q := h
theorem w_callD {sp : Sp} {dvs : List V} {E : L2.St → XK} (h : tA σ H fun vs H1 => sp (vs ++ dvs) H1 Q (E σ)) : tCallSD sp dvs E tA σ H Q := h
theorem w_call1 {sp : Sp} {dvs : List V} {E : XK} (h : tA σ H fun vs H1 => sp (vs ++ dvs) H1 Q E) : tCall sp dvs E tA σ H Q := h
theorem w_iteI {a b : Int} {A B : Prop} (h1 : a = b → A) (h2 : a ≠ b → B) : if decide (V.int a = V.int b) = true then A else B := by
  by_cases e : a = b
  · rw [if_pos (decide_eq_true (by rw [e]))]; exact h1 e
  · rw [if_neg (by simpa using e)]; exact h2 e
theorem w_iteIN {a b : Int} {A B : Prop} (h1 : a ≠ b → A) (h2 : a = b → B) : if (!decide (V.int a = V.int b)) = true then A else B := by
  by_cases e : a = b
  · rw [if_neg (by simpa using e)]; exact h2 e
  · rw [if_pos (by simpa using e)]; exact h1 e
theorem w_iteP {p : Prop} [Decidable p] {A B : Prop} (h1 : p → A) (h2 : ¬ p → B) : if decide p = true then A else B := by
  by_cases e : p
  · rw [if_pos (decide_eq_true e)]; exact h1 e
  · rw [if_neg (by simpa using e)]; exact h2 e
theorem w_iteNP {p : Prop} [Decidable p] {A B : Prop} (h1 : ¬ p → A) (h2 : p → B) : if (!decide p) = true then A else B := by
  by_cases e : p
  · rw [if_neg (by simpa using e)]; exact h2 e
  · rw [if_pos (by simpa using e)]; exact h1 e
theorem w_iteB {b : Bool} {A B : Prop} (h1 : b = true → A) (h2 : b = false → B) : if b = true then A else B := by
  cases b with
  | true => exact h1 rfl
  | false => exact h2 rfl
theorem w_T {A B : Prop} (h : A) : if true = true then A else B := by rw [if_pos rfl]; exact h
theorem w_F {A B : Prop} (h : B) : if false = true then A else B := by rw [if_neg Bool.false_ne_true]; exact h
theorem w_nT {A B : Prop} (h : B) : if (!true) = true then A else B := by rw [if_neg (by decide)]; exact h
theorem w_nF {A B : Prop} (h : A) : if (!false) = true then A else B := by rw [if_pos (by decide)]; exact h
theorem w_is {b b' : Bool} {R : Bool → Prop} (e : b = b') (h : R b') : R b := by rw [e]; exact h
end
/-- an address apart, by what stands there -/
theorem sql_of {K : PySem.W.Frag} {H : Hp} {a : Addr} {xs : List V} (h : H a = some (.lst xs)) : SqL K H a xs := SqL.of h
theorem small {n : Nat} (h : n ≤ 100000) : n ≤ sizeLine := Nat.le_trans h (by decide)
theorem smallLt {n : Nat} (h : n < 100000) : n < sizeLine := Nat.lt_of_lt_of_le h (by decide)

/-! ### a list that nobody writes any more is frozen behind a call -/
theorem HOk.frzL {P : Program} {w : World} {H : Hp} {h : Heap} {a : Addr} {xs : List V} {o : Obj} (ok : HOk P w H h) (e : H a = some (.lst xs)) (ho : h.get? a = some o) : HOk P w (upd H a (.frz o (.lst xs))) h := fun b u q => by
  have ne : ∀ {b : Addr} {v : HO}, H b = some v → v ≠ .lst xs → b ≠ a := fun {b v} h1 h2 z => by
    subst z
    rw [e] at h1
    exact h2 (Option.some.inj h1).symm
  by_cases hb : b = a
  · subst hb
    rw [upd_same] at q
    cases q
    exact ⟨ho, ok b _ e⟩
  · rw [upd_ne hb] at q
    exact (ok b u q).stay (fun _ _ _ r => r) (fun c r => by rw [upd_ne (ne r (by intro z; cases z))]; exact r) fun c ys r => by rw [upd_ne (ne r (by intro z; cases z))]; exact r
theorem Un.frzL {fs ex : List Addr} {H H' : Hp} {h h' : Heap} {a : Addr} {xs : List V} {o : Obj} (u : Un fs ex H H' h h') (e : H' a = some (.lst xs)) : Un fs ex H (upd H' a (.frz o (.lst xs))) h h' := by
  have ne : ∀ {b : Addr} {v : HO}, H' b = some v → v ≠ .lst xs → b ≠ a := fun {b v} h1 h2 z => by
    subst z
    rw [e] at h1
    exact h2 (Option.some.inj h1).symm
  refine ⟨u.keep, u.slot, fun b ob q n hx => ?_, u.there, fun b ys q => ?_, fun b ob v q => ?_, fun b ps q => ?_⟩
  · have z := u.free b ob q n hx
    rw [upd_ne (ne_of_none e z).symm]
    exact z
  · have z := u.tups b ys q
    rw [upd_ne (ne z (by intro z; cases z))]
    exact z
  · have z := u.frzs b ob v q
    rw [upd_ne (ne z (by intro z; cases z))]
    exact z
  · obtain ⟨more, z⟩ := u.tbls b ps q
    exact ⟨more, by rw [upd_ne (ne z (by intro z; cases z))]; exact z⟩
theorem fnOk_frz {P : Program} {w : World} {K : PySem.W.Frag} {mg : Str → Option Value} {base : Heap} {CX : CXT} {k : Nat} {f : Addr} {fd : FuncData} {ps : List Str} {sp : Sp} (F : FnOk P w K mg base CX k f fd ps sp) :
    FnOk P w K mg base CX k f fd ps (fun vs H Q E => sp vs H (fun v H1 => ∃ a xs, H1 a = some (.lst xs) ∧ ∀ o, Q v (upd H1 a (.frz o (.lst xs)))) E) := by
  refine ⟨fun vs H Q E q => F.len vs H _ E q, fun A outer s H args us vs Q E hr he hb hv hs => codeAny_mono (F.run A outer s H args us vs _ E hr he hb hv hs) fun r s' hq => ?_⟩
  cases r with
  | error e => exact hq
  | ok fl =>
    cases fl with
    | ret u =>
      obtain ⟨v, H', os, bare, un, hok, rv, a, xs, ea, q⟩ := hq
      obtain ⟨_, its, n, _, ho⟩ := hok a _ ea
      exact ⟨v, _, os, bare, Un.frzL un ea, HOk.frzL hok ea ho, rv, q _⟩
    | next => exact False.elim hq
    | brk => exact False.elim hq
    | cont => exact False.elim hq
theorem Gr.frz {H : Hp} {a : Addr} {xs : List V} {o : Obj} (h : H a = some (.lst xs)) : Gr [a] H (upd H a (.frz o (.lst xs))) := Gr.wr h

/-! ### what the heap holds, sought along its growth -/
section
variable {K : PySem.W.Frag} {H H' : Hp} {S : List Addr} {a l l2 l3 : Addr} {o : HO} {ob : Obj} {xs : List V}
theorem Gr.keepB (g : Gr (l :: S) H H') (h : H a = some o) (hn : pers o = true ∨ a ∉ l :: S) : H' a = some o := by
  rcases hn with hn | hn
  · exact g.get h hn
  · exact g.keep _ _ h hn
theorem nin0 : a ∉ ([] : List Addr) := by simp
theorem nin1 (h : a ≠ l) : a ∉ [l] := by simpa using h
theorem nin2 (h : a ≠ l) (h2 : a ≠ l2) : a ∉ [l, l2] := by simp [h, h2]
theorem nin3 (h : a ≠ l) (h2 : a ≠ l2) (h3 : a ≠ l3) : a ∉ [l, l2, l3] := by simp [h, h2, h3]
theorem sql_frz (h : H a = some (.frz ob (.lst xs))) : SqL K H a xs := .inl (.inr ⟨ob, h⟩)
theorem sqt_of (h : H a = some (.tup xs)) : SqT K H a xs := .inl (.inl h)
theorem Gr.sqlB (g : Gr (l :: S) H H') (h : SqL K H a xs) (hn : a ∉ l :: S) : SqL K H' a xs := g.sql h hn
end

/-! ### a place where ways join -/
def tCut (t u : TS) : TS := fun D σ H => ∃ R : L2.St → Hp → Prop, t { D with nx := R } σ H ∧ ∀ σ' H', R σ' H' → u D σ' H'
theorem pss_cut {X : Cx} {st : Stmt} {rest : List Stmt} {t u : TS} (h1 : PS X st t) (h2 : PSs X rest u) : PSs X (st :: rest) (tCut t u) := by
  refine ⟨fun pins s σ H D I h => ?_⟩
  obtain ⟨R, h, hk⟩ := h
  refine wpAny_execs_cons (thn (h1.run pins s σ H { D with nx := R } I h) fun f s1 q => ?_)
  cases f with
  | next =>
    obtain ⟨σ', H', I', q⟩ := q
    exact h2.run pins s1 σ' H' D I' (hk σ' H' q)
  | _ => exact q
theorem w_cut {ts us : TS} {D : Ends} {σ : L2.St} {H : Hp} (R : L2.St → Hp → Prop) (h : ts { D with nx := R } σ H) (k : ∀ σ' H', R σ' H' → us D σ' H') : tCut ts us D σ H := ⟨R, h, k⟩

/-! ### growth, put together -/
section
variable {H H1 H2 : Hp} {S S' : List Addr} {l l2 : Addr} {xs : List V} {o : HO}
theorem Gr.step (g2 : Gr S' H1 H2) (g1 : Gr S H H1) (hs : ∀ a, a ∈ S' → a ∈ S ∨ H a = none) : Gr S H H2 := g1.trans g2 hs
theorem sub0 : ∀ a, a ∈ ([] : List Addr) → a ∈ S ∨ H a = none := fun _ h => by cases h
theorem sub1 (h : l ∈ S ∨ H l = none) : ∀ a, a ∈ [l] → a ∈ S ∨ H a = none := fun a m => by
  have e : a = l := by simpa using m
  subst e
  exact h
theorem sub2 (h : l ∈ S ∨ H l = none) (h2 : l2 ∈ S ∨ H l2 = none) : ∀ a, a ∈ [l, l2] → a ∈ S ∨ H a = none := fun a m => by
  rcases List.mem_cons.mp m with e | m
  · subst e; exact h
  · exact sub1 h2 a m
theorem Gr.same1 (h : H l = some o) (hp : pers o = false) : Gr [l] H H := (Gr.refl H).weak fun a m => by
  have e : a = l := by simpa using m
  subst e
  exact ⟨_, h, hp⟩
theorem Gr.same2 (h : H l = some o) (hp : pers o = false) {o2 : HO} (h2 : H l2 = some o2) (hp2 : pers o2 = false) : Gr [l, l2] H H := (Gr.refl H).weak fun a m => by
  rcases List.mem_cons.mp m with e | m
  · subst e; exact ⟨_, h, hp⟩
  · have e : a = l2 := by simpa using m
    subst e; exact ⟨_, h2, hp2⟩
end
theorem atI_of {α : Type} {xs : List α} {i : Int} {v : α} (h0 : 0 ≤ i) (h : xs[i.toNat]? = some v) : atI xs i = some v := by
  have e := atI_nat h
  rw [Int.toNat_of_nonneg h0] at e
  exact e
theorem ints_at {ns : List Int} {i : Int} (h0 : 0 ≤ i) (h : i < ns.length) : ∃ x, atI (ns.map V.int) i = some (V.int x) ∧ ns[i.toNat]? = some x := by
  have hl : i.toNat < ns.length := by omega
  exact ⟨ns[i.toNat], atI_of h0 (by simp [hl]), by simp [hl]⟩

/-! ### == of data -/
/-- data without instances and truth values, nested to n -/
def D.dep : Nat → D → Bool
  | _, .int _ => true
  | _, .str s => (PyData.str s).canLay0
  | _, .non => true
  | _, .bl _ => false
  | _, .ins _ _ _ => false
  | _, .adr _ => false
  | 0, .tup _ => false
  | 0, .lst _ => false
  | n + 1, .tup ds => ds.all (D.dep n)
  | n + 1, .lst ds => ds.all (D.dep n)
mutual
def D.py : D → PyData
  | .non => .none
  | .bl b => .bool b
  | .int i => .int i
  | .str s => .str s
  | .tup ds => .tuple (D.pys ds)
  | .lst ds => .list (D.pys ds)
  | .ins _ _ _ => .none
  | .adr _ => .none
def D.pys : List D → List PyData
  | [] => []
  | d :: ds => d.py :: D.pys ds
end
theorem canLay_pys {n : Nat} (ih : ∀ d : D, d.dep n = true → d.py.canLay0 = true ∧ d.py.depth ≤ n) : ∀ ds : List D, ds.all (D.dep n) = true → PyData.canLayAll0 (D.pys ds) = true ∧ PyData.depthAll (D.pys ds) ≤ n
  | [], _ => ⟨rfl, Nat.zero_le _⟩
  | d :: ds, h => by
    rw [List.all_cons, Bool.and_eq_true] at h
    obtain ⟨a1, a2⟩ := ih d h.1
    obtain ⟨b1, b2⟩ := canLay_pys ih ds h.2
    simp only [D.pys, PyData.canLayAll0, PyData.depthAll, a1, b1, Bool.and_self, true_and]
    omega
theorem canLay_py : ∀ (n : Nat) (d : D), d.dep n = true → d.py.canLay0 = true ∧ d.py.depth ≤ n := by
  intro n
  induction n with
  | zero =>
    intro d h
    cases d with
    | tup ds => cases h
    | lst ds => cases h
    | ins C ns ds => cases h
    | adr a => cases h
    | bl b => cases h
    | str s => exact ⟨h, Nat.zero_le _⟩
    | _ => exact ⟨rfl, Nat.zero_le _⟩
  | succ n ih =>
    intro d h
    cases d with
    | tup ds =>
      obtain ⟨a, b⟩ := canLay_pys ih ds h
      exact ⟨a, Nat.succ_le_succ b⟩
    | lst ds =>
      obtain ⟨a, b⟩ := canLay_pys ih ds h
      exact ⟨a, Nat.succ_le_succ b⟩
    | ins C ns ds => cases h
    | adr a => cases h
    | bl b => cases h
    | str s => exact ⟨h, Nat.zero_le _⟩
    | _ => exact ⟨rfl, Nat.zero_le _⟩
theorem shaped_py {n : Nat} {d : D} (h : d.dep n = true) (hn : n ≤ 64) : SeqAt.shaped d.py = true := by
  obtain ⟨a, b⟩ := canLay_py n d h
  unfold SeqAt.shaped
  rw [a, Bool.true_and]
  exact decide_eq_true (by omega)
theorem eqv_pys {n : Nat} (ih : ∀ d e : D, d.dep n = true → e.dep n = true → (PyData.eqv d.py e.py = true ↔ d = e)) : ∀ ds es : List D, ds.all (D.dep n) = true → es.all (D.dep n) = true → (PyData.eqvAll (D.pys ds) (D.pys es) = true ↔ ds = es)
  | [], [], _, _ => by simp [D.pys, PyData.eqvAll]
  | [], e :: es, _, _ => by simp [D.pys, PyData.eqvAll]
  | d :: ds, [], _, _ => by simp [D.pys, PyData.eqvAll]
  | d :: ds, e :: es, h, h' => by
    rw [List.all_cons, Bool.and_eq_true] at h h'
    simp only [D.pys, PyData.eqvAll, Bool.and_eq_true, ih d e h.1 h'.1, eqv_pys ih ds es h.2 h'.2, List.cons.injEq]
theorem eqv_py : ∀ (n : Nat) (d e : D), d.dep n = true → e.dep n = true → (PyData.eqv d.py e.py = true ↔ d = e) := by
  intro n
  induction n with
  | zero =>
    intro d e h h'
    cases d <;> first | (cases h; done) | (cases e <;> first | (cases h'; done) | simp [D.py, PyData.eqv])
  | succ n ih =>
    intro d e h h'
    cases d <;> first | (cases h; done) | (cases e <;> first | (cases h'; done) | (simp only [D.py, PyData.eqv, D.tup.injEq, D.lst.injEq]; exact eqv_pys ih _ _ h h') | simp [D.py, PyData.eqv])
mutual
theorem dp_py {K : PySem.W.Frag} {H : Hp} : ∀ {d : D} {v : V}, Rep K H d v → ∀ n, d.dep n = true → Dp K H v d.py
  | _, _, .non, _, _ => .non
  | _, _, .bl b, _, _ => .bl b
  | _, _, .int i, _, _ => .int i
  | _, _, .str s, _, _ => .str s
  | _, _, .adr b, n, q => by cases n <;> cases q
  | _, _, .tup h r, n, q => by
    cases n with
    | zero => cases q
    | succ n => exact .tup h (dp_pys r n q)
  | _, _, .lst h r, n, q => by
    cases n with
    | zero => cases q
    | succ n => exact .lst h (dp_pys r n q)
  | _, _, .ins h i l r, n, q => by
    cases n <;> cases q
theorem dp_pys {K : PySem.W.Frag} {H : Hp} : ∀ {ds : List D} {vs : List V}, Reps K H ds vs → ∀ n, ds.all (D.dep n) = true → DpAll K H vs (D.pys ds)
  | _, _, .nil, _, _ => .nil
  | _, _, .cons h r, n, q => by
    rw [List.all_cons, Bool.and_eq_true] at q
    exact .cons (dp_py h n q.1) (dp_pys r n q.2)
end
section
variable {K : PySem.W.Frag} {H : Hp} {Q : VK} {d e : D} {v w : V}
theorem w_eqD (n : Nat) (hv : Rep K H d v) (hw : Rep K H e w) (hd : d.dep n = true) (he : e.dep n = true) (hn : n ≤ 64) (h1 : d = e → Q (.bl true) H) (h2 : d ≠ e → Q (.bl false) H) : rEqD K v w H Q := by
  refine ⟨d.py, e.py, dp_py hv n hd, dp_py hw n he, shaped_py hd hn, shaped_py he hn, ?_⟩
  by_cases c : d = e
  · rw [(eqv_py n d e hd he).mpr c]
    exact h1 c
  · have z : PyData.eqv d.py e.py = false := by
      cases q : PyData.eqv d.py e.py with
      | false => rfl
      | true => exact absurd ((eqv_py n d e hd he).mp q) c
    rw [z]
    exact h2 c
theorem w_neD (n : Nat) (hv : Rep K H d v) (hw : Rep K H e w) (hd : d.dep n = true) (he : e.dep n = true) (hn : n ≤ 64) (h1 : d = e → Q (.bl false) H) (h2 : d ≠ e → Q (.bl true) H) : rNeD K v w H Q := by
  refine ⟨d.py, e.py, dp_py hv n hd, dp_py hw n he, shaped_py hd hn, shaped_py he hn, ?_⟩
  by_cases c : d = e
  · rw [(eqv_py n d e hd he).mpr c]
    exact h1 c
  · have z : PyData.eqv d.py e.py = false := by
      cases q : PyData.eqv d.py e.py with
      | false => rfl
      | true => exact absurd ((eqv_py n d e hd he).mp q) c
    rw [z]
    exact h2 c
end
theorem Rep.grB {K : PySem.W.Frag} {H H' : Hp} {l : Addr} {S : List Addr} {d : D} {v : V} (g : Gr (l :: S) H H') (h : Rep K H d v) (q : d.pure = true) : Rep K H' d v := Rep.gr g h q
def dInts (ns : List Int) : List D := ns.map D.int
theorem reps_ints {K : PySem.W.Frag} {H : Hp} : ∀ ns : List Int, Reps K H (dInts ns) (ns.map V.int)
  | [] => .nil
  | n :: ns => .cons (.int n) (reps_ints ns)
theorem dep_ints (ns : List Int) (n : Nat) : (dInts ns).all (D.dep n) = true := by
  rw [List.all_eq_true]
  intro d hd
  obtain ⟨i, _, rfl⟩ := List.mem_map.mp hd
  cases n <;> rfl
theorem dInts_inj {ns ms : List Int} (h : dInts ns = dInts ms) : ns = ms := by
  unfold dInts at h
  exact List.map_inj_right (fun _ _ e => by injection e) |>.mp h
theorem pure_ints (ns : List Int) : D.pures (dInts ns) = true := by
  induction ns with
  | nil => rfl
  | cons n ns ih => exact ih
theorem rep_lstI {K : PySem.W.Frag} {H : Hp} {a : Addr} {ns : List Int} (h : SqL K H a (ns.map V.int)) : Rep K H (.lst (dInts ns)) (.ref a) := .lst h (reps_ints ns)
theorem rep_tupI {K : PySem.W.Frag} {H : Hp} {a : Addr} {ns : List Int} (h : SqT K H a (ns.map V.int)) : Rep K H (.tup (dInts ns)) (.ref a) := .tup h (reps_ints ns)

/-! ### keywords over a default -/
theorem kbn1 {K : PySem.W.Frag} {x qual : Str} {params : Arguments} {body : List Stmt} {scope : Scope} {dvs : List V} {f : Addr} {fd : FuncData} {ps : List Str} (F : FunD K x qual params body scope dvs [] f fd) (n : Nat) (ks : List Str)
    (hd : dvs ≠ []) (h : ∀ (T : Addr) (kV doc pm : Value) (an : Option Addr) (cdv ct : Value) (us its ws : List Value), us.length = n → its.length = dvs.length → ws.length = ks.length →
      ∃ k, bindArgs (PySem.W.fnOf x qual params body scope (.ref T) kV doc pm an cdv ct) ⟨us, ks.zip ws⟩ = seqItems? (.ref T) >>= k ∧ k (some its.toArray) = pure (ps.zip (us ++ ws))) :
    KBn K fd ps n ks (fun us ws => us ++ ws) (fun vs zs => vs ++ zs) := by
  obtain ⟨oc, od, dV, kV, doc, pm, an, cdv, ct, osl, rfl, lk, hcd, hD, hK⟩ := F.ex
  rcases hD with ⟨e, _⟩ | ⟨_, T, o, its, m, rfl, lT, oT, rT⟩
  · exact absurd e hd
  · refine ⟨fun s us ws X l1 l2 => BindsTo.of_looks fun M => ?_, fun r1 r2 => r1.append r2⟩
    obtain ⟨k, e1, e2⟩ := h T kV doc pm an cdv ct us its ws l1 rT.length.symm l2
    rw [e1]
    exact looks_items X lT oT (.of_pure e2)
theorem w_callN {n m : Nat} {sp : Sp} {gV : List V → List V → List V} {E : XK} {t tk : TA} {σ : L2.St} {H : Hp} {Q : VK} (h : t σ H fun vs H1 => tk σ H1 fun zs H2 => vs.length = n ∧ zs.length = m ∧ sp (gV vs zs) H2 Q E) : tCallN n m sp gV E t tk σ H Q := h

/-! ### the call with keywords, at the slots -/
def tCallNS (n m : Nat) (sp : Sp) (gV : List V → List V → List V) (E : L2.St → XK) (t tk : TA) : TE := fun σ H Q => t σ H fun vs H1 => tk σ H1 fun zs H2 => vs.length = n ∧ zs.length = m ∧ sp (gV vs zs) H2 Q (E σ)
section
variable {X : Cx} {CX : CXT} {k n : Nat} {f : Addr} {fd : FuncData} {ps ks : List Str} {sp : Sp} {E : L2.St → XK} {x : Str} {p pos : Pos} {e : Expr} {es : List Expr} {kws : List Keyword} {t tk : TA} {g : List Value → List Value → List Value} {gV : List V → List V → List V}
theorem run_fnNS {pins : List (Addr × Obj)} {σ : L2.St} {H : Hp} {s : Shared} {Q : VK} {us ws : List Value} {vs zs : List V} (F : FnOk X.prog X.w X.K X.mg X.base CX k f fd ps sp) (hr : Room k X.A) (hb : KBn X.K fd ps n ks g gV) (hx : PassesAt CX X σ (E σ))
    (I : Inv X pins σ H s) (r : Vals vs us) (rz : Vals zs ws) (l1 : vs.length = n) (l2 : zs.length = ks.length) (h : sp (gV vs zs) H Q (E σ)) : wpAny (model X.prog X.w) X.A (call (.ref f) us (ks.zip ws)) (EP X pins σ Q) X.xe s := by
  have r2 := hb.rel r rz
  refine wpAny_call (codeAny_mono (F.run X.A X.stack s H ⟨us, ks.zip ws⟩ (g us ws) (gV vs zs) Q (E σ) hr I.env0 (hb.to s us ws I.kIn (r.length.symm.trans l1) (rz.length.symm.trans l2)) r2 h) fun r s' hq => ?_)
  cases r with
  | error e => exact hx pins H s e s' I hq
  | ok fl =>
    cases fl with
    | ret u => exact I.after hq
    | next => exact False.elim hq
    | brk => exact False.elim hq
    | cont => exact False.elim hq
/-- f(e, .., k = v, ..) -/
theorem pe_callKS (F : FnOk X.prog X.w X.K X.mg X.base CX k f fd ps sp) (hr : Room k X.A) (hg : Gl X x) (hm : X.mg x = some (.ref f)) (hk : PySem.W.keepIn X.K (.ref f) = true) (hb : KBn X.K fd ps n ks g gV) (hx : ∀ σ, PassesAt CX X σ (E σ))
    (ha : PA X (e :: es) t) (hkw : PK X kws tk) (hall : (backToKw pos (keywordEach kws X.env)).all (·.1.isSome) = true := by rfl) (hks : (backToKw pos (keywordEach kws X.env)).filterMap (·.1) = ks := by rfl)
    (hdb : (x == ("__debug__" : Str)) = false := by decide) (he : starEach (e :: es) X.env = (false, eval e X.env) :: starEach es X.env := by rfl)
    (hpl : ((backTo pos (starEach (e :: es) X.env)).any (·.1) || (backToKw pos (keywordEach kws X.env)).any (·.1.isNone)) = false := by rfl) :
    PE X (.Call (.Name x p) (e :: es) kws pos) (tCallNS n ks.length sp gV E t tk) := by
  refine ⟨fun pins s σ H Q I h => ?_⟩
  refine wpAny_Call_Name_kw (ld_glob I hg hm ?_ hdb)
  refine PySem.W.callWith_KW (h₀ := X.base) I.ok.mod.kin hk hall (thn (ha.run pos pins s σ H _ I h) fun us s1 ⟨vs, H1, I1, r, q⟩ => ?_) hpl he
  refine thn (hkw.run pos pins s1 σ H1 _ I1 q) fun ws s2 ⟨zs, H2, I2, rz, l1, l2, q2⟩ => ⟨I2.kIn, ?_⟩
  rw [hks]
  exact run_fnNS F hr hb (hx σ) I2 r rz l1 l2 q2
end
theorem w_callNS {n m : Nat} {sp : Sp} {gV : List V → List V → List V} {E : L2.St → XK} {t tk : TA} {σ : L2.St} {H : Hp} {Q : VK} (h : t σ H fun vs H1 => tk σ H1 fun zs H2 => vs.length = n ∧ zs.length = m ∧ sp (gV vs zs) H2 Q (E σ)) : tCallNS n m sp gV E t tk σ H Q := h

/-! ### isinstance -/
def D.tyn : D → String
  | .non => "NoneType"
  | .bl _ => "bool"
  | .int _ => "int"
  | .str _ => "str"
  | .tup _ => "tuple"
  | .lst _ => "list"
  | .ins _ _ _ => ""
  | .adr _ => ""
def D.isIns : D → Bool
  | .ins _ _ _ => true
  | .adr _ => true
  | _ => false
theorem tyx_of {K : PySem.W.Frag} {H : Hp} {d : D} {v : V} (h : Rep K H d v) (n : d.isIns = false) : TyX K H v (.type d.tyn) := by
  cases h with
  | non => exact .base .non
  | bl b => exact .base (.bl b)
  | int i => exact .base (.int i)
  | str s => exact .base (.str s)
  | tup h r =>
    rcases h with (h | ⟨o, h⟩) | ⟨o, its, k, h1, h2, _⟩
    · exact .base (.tup h)
    · exact .fTuple h
    · exact .kTuple h1 h2
  | lst h r =>
    rcases h with (h | ⟨o, h⟩) | ⟨o, its, k, h1, h2, _⟩
    · exact .base (.lst h)
    · exact .base (.frz h)
    · exact .kList h1 h2
  | ins h i l r => cases n
  | adr a => cases n
section
variable {K : PySem.W.Frag} {H : Hp} {Q : VK} {d : D} {v : V} {b : Bool} {T : String}
/-- isinstance(x, T), T built in -/
theorem w_isi (h : Rep K H d v) (n : d.isIns = false) (hk : kitB d.tyn T = some b) (q : Q (.bl b) H) : rIsi K [v, .ty T] H Q := ⟨v, .ty T, _, _, b, rfl, .ty T, tyx_of h n, kit_ty hk, q⟩
end
/-- an exception class of the text that derives ValueError -/
def XcOk (K : PySem.W.Frag) (C : Addr) : Prop := PySem.W.excIn K C He.veBase "ValueError.__new__" = true ∧ PySem.W.keepIn K (.ref C) = true ∧ PySem.W.subIn K (.ref C) (.type "BaseException") = some true ∧ PySem.W.typeIn K (.ref C) = some (.type "type")
/-- isinstance(e, C), e the exception that the suite holds -/
def rIsEx (K : PySem.W.Frag) (a : Addr) (cls : Value) (d : Option Addr) : List V → Hp → VK → Prop := fun xs H Q => ∃ (D C : Addr) (b : Bool), cls = .ref D ∧ d = none ∧ ExcC K D ∧ xs = [.ref a, .ref C] ∧ PySem.W.kitOne K (.ref D) (.ref C) = some b ∧ Q (.bl b) H
theorem cr_isE {X : Cx} {a : Addr} {oe : Obj} {cls : Value} {d : Option Addr} {pn : List (Addr × Obj)} (hz : L2N.Zn cls d oe) (hf : ∃ vs, oe.data = .fields vs) : CallR (X.suite a ((a, oe) :: pn)) (.builtin "isinstance") (rIsEx X.K a cls d) := by
  intro pins s σ H xs us Q I r h
  obtain ⟨D, C, b, e1, e2, hC, e3, hk, q⟩ := h
  subst e1 e2 e3
  exact call_isE hC hz.zc hf pins s σ H _ us Q I r ⟨.ref C, .ref C, b, rfl, fun u ru => ru, hk, q⟩
def excCB (K : PySem.W.Frag) (D : Addr) : Bool := decide (PySem.W.findIn K (.ref D) "__getattribute__" = some (some (.builtin "BaseException.__getattribute__"))) && (decide (PySem.W.findIn K (.ref D) "__getattr__" = some none) && (decide (PySem.W.subIn K (.ref D) (.type "BaseException") = some true) &&
  (PySem.W.hasDictIn K D && (decide (PySem.W.findIn K (.ref D) "__class__" = some (some (.builtin "object.__class__"))) && (decide (PySem.W.specialIn K (.builtin "object.__class__") "__get__" = some (some (.builtin "getset_descriptor.__get__"))) &&
  (decide (PySem.W.takesIn K (.builtin "object.__class__") = some true) && decide (PySem.W.mroIn K D (.type "object") = some true)))))))
theorem excCB_ok {K : PySem.W.Frag} {D : Addr} (h : excCB K D = true) : ExcC K D := by
  unfold excCB at h
  simp only [Bool.and_eq_true, decide_eq_true_eq] at h
  obtain ⟨h1, h2, h3, h4, h5, h6, h7, h8⟩ := h
  exact ⟨h1, h2, h3, h4, h5, h6, h7, h8⟩
theorem w_isE {K : PySem.W.Frag} {a D C : Addr} {b : Bool} {H : Hp} {Q : VK} (hC : ExcC K D) (hk : PySem.W.kitOne K (.ref D) (.ref C) = some b) (q : Q (.bl b) H) : rIsEx K a (.ref D) none [.ref a, .ref C] H Q := ⟨D, C, b, rfl, rfl, hC, rfl, hk, q⟩
/-- the clause that takes an exception: the first that matches -/
theorem w_hd {K : PySem.W.Frag} {Wo : WX} {D : Ends} {c : Value} {i : Nat} {ts : TSu} {r : List (Value × Option Nat × TSu)} {cls : Value} {d : Option Addr} {σ : L2.St} {H : Hp} (h : PySem.W.exmOne K cls c = some true) (k : ∀ a, H a = none → ts a cls d (endsNo i D) (σ.set i (some (.ref a))) H) :
    wHds K Wo D ((c, some i, ts) :: r) cls d σ H := ⟨true, h, fun _ a ha => k a ha, fun q => by cases q⟩
theorem w_hdN {K : PySem.W.Frag} {Wo : WX} {D : Ends} {c : Value} {ts : TSu} {r : List (Value × Option Nat × TSu)} {cls : Value} {d : Option Addr} {σ : L2.St} {H : Hp} (h : PySem.W.exmOne K cls c = some true) (k : ∀ a, H a = none → ts a cls d D σ H) :
    wHds K Wo D ((c, none, ts) :: r) cls d σ H := ⟨true, h, fun _ a ha => k a ha, fun q => by cases q⟩
theorem w_hdF {K : PySem.W.Frag} {Wo : WX} {D : Ends} {c : Value} {o : Option Nat} {ts : TSu} {r : List (Value × Option Nat × TSu)} {cls : Value} {d : Option Addr} {σ : L2.St} {H : Hp} (h : PySem.W.exmOne K cls c = some false) (k : wHds K Wo D r cls d σ H) :
    wHds K Wo D ((c, o, ts) :: r) cls d σ H := ⟨false, h, fun q => by (cases q), fun _ => k⟩
theorem w_ends {i : Nat} {D : Ends} {σ : L2.St} {H : Hp} (h : D.nx (σ.set i none) H) : (endsNo i D).nx σ H := h
/-! ### data, nested so far -/
def D.lev : Nat → D → Bool
  | _, .int _ => true
  | _, .str _ => true
  | _, .non => true
  | _, .bl _ => true
  | _, .ins _ _ _ => false
  | _, .adr _ => false
  | 0, .tup _ => false
  | 0, .lst _ => false
  | n + 1, .tup ds => decide (ds.length ≤ 1000000) && ds.all (D.lev n)
  | n + 1, .lst ds => decide (ds.length ≤ 1000000) && ds.all (D.lev n)
theorem lev_ints (ns : List Int) (n : Nat) : (dInts ns).all (D.lev n) = true := by
  rw [List.all_eq_true]
  intro d hd
  obtain ⟨i, _, rfl⟩ := List.mem_map.mp hd
  cases n <;> rfl
theorem lev_tupI {ns : List Int} {n : Nat} (h : ns.length ≤ 1000000) : (D.tup (dInts ns)).lev (n + 1) = true := Bool.and_eq_true_iff.mpr ⟨decide_eq_true (by unfold dInts; rw [List.length_map]; exact h), lev_ints ns n⟩
theorem lev_lstI {ns : List Int} {n : Nat} (h : ns.length ≤ 1000000) : (D.lst (dInts ns)).lev (n + 1) = true := Bool.and_eq_true_iff.mpr ⟨decide_eq_true (by unfold dInts; rw [List.length_map]; exact h), lev_ints ns n⟩
theorem reps_get {K : PySem.W.Frag} {H : Hp} : ∀ {ds : List D} {vs : List V} {i : Nat} {d : D}, Reps K H ds vs → ds[i]? = some d → ∃ v, vs[i]? = some v ∧ Rep K H d v
  | _, _, _, _, .nil, e => by simp at e
  | _, _, 0, _, .cons h _, e => by
    simp at e
    subst e
    exact ⟨_, rfl, h⟩
  | _, _, i + 1, _, .cons _ r, e => by
    obtain ⟨v, h1, h2⟩ := reps_get (i := i) r (by simpa using e)
    exact ⟨v, by simpa using h1, h2⟩

/-! ### isinstance of data, by the class named-/
@[reducible] def D.isTup : D → Bool
  | .tup _ => true
  | _ => false
theorem w_isi_tuple {K : PySem.W.Frag} {H : Hp} {Q : VK} {d : D} {v : V} (h : Rep K H d v) (n : d.isIns = false) (q : Q (.bl d.isTup) H) : rIsi K [v, .ty "tuple"] H Q :=
  w_isi h n (by cases d <;> first | (cases n; done) | (dsimp only [D.tyn, D.isTup]; decide +kernel)) q
@[reducible] def D.isLst : D → Bool
  | .lst _ => true
  | _ => false
theorem w_isi_list {K : PySem.W.Frag} {H : Hp} {Q : VK} {d : D} {v : V} (h : Rep K H d v) (n : d.isIns = false) (q : Q (.bl d.isLst) H) : rIsi K [v, .ty "list"] H Q :=
  w_isi h n (by cases d <;> first | (cases n; done) | (dsimp only [D.tyn, D.isLst]; decide +kernel)) q
@[reducible] def D.isBl : D → Bool
  | .bl _ => true
  | _ => false
theorem w_isi_bool {K : PySem.W.Frag} {H : Hp} {Q : VK} {d : D} {v : V} (h : Rep K H d v) (n : d.isIns = false) (q : Q (.bl d.isBl) H) : rIsi K [v, .ty "bool"] H Q :=
  w_isi h n (by cases d <;> first | (cases n; done) | (dsimp only [D.tyn, D.isBl]; decide +kernel)) q
@[reducible] def D.isInt : D → Bool
  | .int _ => true
  | .bl _ => true
  | _ => false
theorem w_isi_int {K : PySem.W.Frag} {H : Hp} {Q : VK} {d : D} {v : V} (h : Rep K H d v) (n : d.isIns = false) (q : Q (.bl d.isInt) H) : rIsi K [v, .ty "int"] H Q :=
  w_isi h n (by cases d <;> first | (cases n; done) | (dsimp only [D.tyn, D.isInt]; decide +kernel)) q
@[reducible] def D.isStr : D → Bool
  | .str _ => true
  | _ => false
theorem w_isi_str {K : PySem.W.Frag} {H : Hp} {Q : VK} {d : D} {v : V} (h : Rep K H d v) (n : d.isIns = false) (q : Q (.bl d.isStr) H) : rIsi K [v, .ty "str"] H Q :=
  w_isi h n (by cases d <;> first | (cases n; done) | (dsimp only [D.tyn, D.isStr]; decide +kernel)) q

theorem tyx_tup {K : PySem.W.Frag} {H : Hp} {a : Addr} {xs : List V} (h : SqT K H a xs) : TyX K H (.ref a) (.type "tuple") := by
  rcases h with (h | ⟨o, h⟩) | ⟨o, its, k, h1, h2, _⟩
  · exact .base (.tup h)
  · exact .fTuple h
  · exact .kTuple h1 h2
theorem tyx_lst {K : PySem.W.Frag} {H : Hp} {a : Addr} {xs : List V} (h : SqL K H a xs) : TyX K H (.ref a) (.type "list") := by
  rcases h with (h | ⟨o, h⟩) | ⟨o, its, k, h1, h2, _⟩
  · exact .base (.lst h)
  · exact .base (.frz h)
  · exact .kList h1 h2
theorem w_isiTT {K : PySem.W.Frag} {H : Hp} {Q : VK} {a : Addr} {xs : List V} (h : SqT K H a xs) (q : Q (.bl true) H) : rIsi K [.ref a, .ty "tuple"] H Q := ⟨.ref a, .ty "tuple", _, _, true, rfl, .ty _, tyx_tup h, kit_ty (by decide +kernel), q⟩
theorem w_isiLL {K : PySem.W.Frag} {H : Hp} {Q : VK} {a : Addr} {xs : List V} (h : SqL K H a xs) (q : Q (.bl true) H) : rIsi K [.ref a, .ty "list"] H Q := ⟨.ref a, .ty "list", _, _, true, rfl, .ty _, tyx_lst h, kit_ty (by decide +kernel), q⟩

/-! ### loops, what they walk -/
def rRng1 : List V → Hp → (It → Hp → Prop) → Prop := fun vs H R => ∃ j : Int, vs = [.int j] ∧ -(2 ^ 62) ≤ j ∧ j < 2 ^ 62 ∧ R (Itr 0 j.toNat) H
def rRng2 : List V → Hp → (It → Hp → Prop) → Prop := fun vs H R => ∃ i j : Int, vs = [.int i, .int j] ∧ (-(2 ^ 62) ≤ i ∧ i < 2 ^ 62 ∧ -(2 ^ 62) ≤ j ∧ j < 2 ^ 62) ∧ R (Itr i (j - i).toNat) H
def rRng3 : List V → Hp → (It → Hp → Prop) → Prop := fun vs H R => ∃ (i j c : Int) (n : Nat), vs = [.int i, .int j, .int c] ∧ RgC i j c n ∧ R (Itc i c n) H
def rItL (K : PySem.W.Frag) : V → Hp → (It → Hp → Prop) → Prop := fun x H R => ∃ a, x = .ref a ∧ (∃ xs, SqL K H a xs) ∧ R (Itl K a) H
def rItT (K : PySem.W.Frag) : V → Hp → (It → Hp → Prop) → Prop := fun x H R => ∃ a, x = .ref a ∧ (∃ xs, SqT K H a xs) ∧ R (Itt K a) H
section
variable {K : PySem.W.Frag} {σ : L2.St} {H : Hp} {D : Ends} {ta : TA} {te : TE} {R : It → Hp → Prop} {g : TG} {tb : TS} {i j : Int} {n : Nat} {a : Addr} {xs : List V}
theorem w_iRng1 (h : ta σ H fun vs H1 => rRng1 vs H1 R) : iRng1 ta σ H R := h
theorem w_iRng2 (h : ta σ H fun vs H1 => rRng2 vs H1 R) : iRng2 ta σ H R := h
theorem w_iRng3 (h : ta σ H fun vs H1 => rRng3 vs H1 R) : iRng3 ta σ H R := h
theorem w_iList (h : te σ H fun x H1 => rItL K x H1 R) : iList K te σ H R := h
theorem w_iTup (h : te σ H fun x H1 => rItT K x H1 R) : iTup K te σ H R := h
theorem w_rRng1 (h0 : j ≤ 1000000000) (h1 : -1000000000 ≤ j) (h : R (Itr 0 j.toNat) H) : rRng1 [.int j] H R := ⟨j, rfl, by omega, by omega, h⟩
theorem w_rRng1N (h0 : n ≤ 1000000000) (h : R (Itr 0 n) H) : rRng1 [.int n] H R := ⟨n, rfl, by omega, by omega, h⟩
theorem w_rRng2 (h0 : j ≤ 1000000000) (h1 : -1000000000 ≤ j) (h2 : i ≤ 1000000000) (h3 : -1000000000 ≤ i) (h : R (Itr i (j - i).toNat) H) : rRng2 [.int i, .int j] H R := ⟨i, j, rfl, ⟨by omega, by omega, by omega, by omega⟩, h⟩
theorem w_rRngD (h0 : j ≤ 1000000000) (h1 : -1000000000 ≤ j) (h2 : i ≤ 1000000000) (h3 : -1000000000 ≤ i) (h : R (Itc i (-1) (i - j).toNat) H) : rRng3 [.int i, .int j, .int (-1)] H R := ⟨i, j, -1, _, rfl, RgC.neg (by omega) (by omega) (by omega) (by omega), h⟩
theorem w_rItL (h0 : SqL K H a xs) (h : R (Itl K a) H) : rItL K (.ref a) H R := ⟨a, rfl, ⟨xs, h0⟩, h⟩
theorem w_rItT (h0 : SqT K H a xs) (h : R (Itt K a) H) : rItT K (.ref a) H R := ⟨a, rfl, ⟨xs, h0⟩, h⟩
/-- what a for wants of its iterator -/
def forK (g : TG) (tb : TS) (D : Ends) (σ : L2.St) : It → Hp → Prop := fun J H1 => ∃ W : Nat → Nat → L2.St → Hp → Prop, (∃ m, W 0 m σ H1) ∧ ∀ i m σ H, W i m σ H →
  (J.stop i H ∧ D.nx σ H) ∨ (J.go i H ∧ ∃ N : L2.St → Hp → Prop, (∀ σ' H', N σ' H' → ∃ m', m' < m ∧ W (i + 1) m' σ' H') ∧ ∀ x H', J.yld i H x H' → g x σ H' fun σ2 H2 => tb { D with nx := N, ct := N, bk := D.nx } σ2 H2)
theorem w_for {wi : TI} (h : wi σ H (forK g tb D σ)) : tFor wi g tb D σ H := h
theorem f_list (Pv : Nat → L2.St → Hp → Prop) (h0 : Pv 0 σ H) (hl : ∀ i σ H, i ≤ xs.length → Pv i σ H → SqL K H a xs)
    (hs : ∀ i x σ H, xs[i]? = some x → Pv i σ H → g x σ H fun σ2 H2 => tb { D with nx := Pv (i + 1), ct := Pv (i + 1), bk := D.nx } σ2 H2) (hd : ∀ σ H, Pv xs.length σ H → D.nx σ H) : forK g tb D σ (Itl K a) H := for_list Pv h0 hl hs hd
theorem f_tup (Pv : Nat → L2.St → Hp → Prop) (h0 : Pv 0 σ H) (hl : ∀ i σ H, i ≤ xs.length → Pv i σ H → SqT K H a xs)
    (hs : ∀ i x σ H, xs[i]? = some x → Pv i σ H → g x σ H fun σ2 H2 => tb { D with nx := Pv (i + 1), ct := Pv (i + 1), bk := D.nx } σ2 H2) (hd : ∀ σ H, Pv xs.length σ H → D.nx σ H) : forK g tb D σ (Itt K a) H := for_tup Pv h0 hl hs hd
theorem f_rng {lo : Int} (Pv : Nat → L2.St → Hp → Prop) (h0 : Pv 0 σ H)
    (hs : ∀ i σ H, i < n → Pv i σ H → g (.int (lo + i)) σ H fun σ2 H2 => tb { D with nx := Pv (i + 1), ct := Pv (i + 1), bk := D.nx } σ2 H2) (hd : ∀ σ H, Pv n σ H → D.nx σ H) : forK g tb D σ (Itr lo n) H := for_range Pv h0 hs hd
theorem f_rngC {lo c : Int} (Pv : Nat → L2.St → Hp → Prop) (h0 : Pv 0 σ H)
    (hs : ∀ i σ H, i < n → Pv i σ H → g (.int (lo + i * c)) σ H fun σ2 H2 => tb { D with nx := Pv (i + 1), ct := Pv (i + 1), bk := D.nx } σ2 H2) (hd : ∀ σ H, Pv n σ H → D.nx σ H) : forK g tb D σ (Itc lo c n) H := for_rangeC Pv h0 hs hd
theorem w_bT {b : Bool} {Q : VK} (e : b = true) (h : Q (.bl true) H) : Q (.bl b) H := by rw [e]; exact h
theorem w_bF {b : Bool} {Q : VK} (e : b = false) (h : Q (.bl false) H) : Q (.bl b) H := by rw [e]; exact h
theorem w_ixSL {p : Addr} {k : Int} {v : V} {Q : VK} (h0 : SqL K H p xs) (h1 : atI xs k = some v) (h : Q v H) : rIx K (.ref p) (.int k) H Q := .inl ⟨p, xs, k, v, rfl, rfl, h0, h1, h⟩
theorem w_ixST {p : Addr} {k : Int} {v : V} {Q : VK} (h0 : SqT K H p xs) (h1 : atI xs k = some v) (h : Q v H) : rIx K (.ref p) (.int k) H Q := .inr (.inl ⟨p, xs, k, v, rfl, rfl, h0, h1, h⟩)
end
/-! ### defs by any address; the head's hook -/
structure DefW where
  at_ : PySem.W.Frag → Addr
  name : Str
  qual : Str
  params : Arguments
  body : List Stmt
  scope : Scope
  dfl : List He.Dv
  /-- it says super(); its class -/
  sup : Option Str := none
def fnWA (K : PySem.W.Frag) (sup : Option Str) (a : Addr) : He.FnW := match K.lookup a with
  | some ⟨_, _, .func fd, _⟩ => some (fd.name, fd.qualname, fd.params, fd.body, fd.scope, fd.globals, (match sup with | some _ => fd.closure.map fun p => (p.1, 0) | none => fd.closure), fd.builtins)
  | _ => none
def DefW.val (d : DefW) : He.FnW := some (d.name, d.qual, d.params, .stmts d.body, d.scope, mainGlobals, (match d.sup with | some _ => [("__class__", 0)] | none => []), builtinsNs)
def supB (K : PySem.W.Frag) (D : Addr) (fd : FuncData) : Bool := (match fd.closure with
  | [(_, cc)] => (match K.lookup cc with
    | some ⟨_, _, .cell (some (.ref D')), _⟩ => decide (D' = D)
    | _ => false)
  | _ => false) && ((match fd.code with
  | .ref cda => (match K.lookup cda with
    | some ⟨_, _, .fields vs, _⟩ => (match vs[2]? with
      | some (Value.str file _) => decide (file = "/claim/cut.py")
      | _ => false)
    | _ => false)
  | _ => false) && (PySem.W.clsIn K D).isSome)
def DefW.dvs (K : PySem.W.Frag) (d : DefW) : List V := d.dfl.map (He.Dv.v K)
def DefW.ok (K : PySem.W.Frag) (d : DefW) : Bool := PySem.W.keepIn K (.ref (d.at_ K)) && (match K.lookup (d.at_ K) with
  | some ⟨_, _, .func fd, _⟩ => PySem.W.codeIn K fd.code d.qual && He.dflB K fd.defaults (d.dvs K) && (match d.sup with
    | some C => supB K (He.ga K C) fd
    | none => true)
  | _ => false)
theorem DefW.funD {K : PySem.W.Frag} {d : DefW} (hs : d.sup = none) (e : fnWA K d.sup (d.at_ K) = d.val) (c : d.ok K = true) : ∃ fd, FunD K d.name d.qual d.params d.body d.scope (d.dvs K) [] (d.at_ K) fd := by
  obtain ⟨kp, c2⟩ := Bool.and_eq_true_iff.mp c
  unfold fnWA at e
  rcases q : K.lookup (d.at_ K) with _ | ⟨oc, od, dt, osl⟩
  · rw [q] at c2
    cases c2
  · rw [q] at c2 e
    cases dt with
    | func fd =>
      obtain ⟨n1, n2, n3, n4, n5, n6, n7, n8, n9, n10, n11, n12, n13, n14, n15⟩ := fd
      unfold DefW.val at e
      rw [hs] at e c2
      have e2 : (some (n1, n2, n3, n4, n5, n6, n7, n15) : He.FnW) = some (d.name, d.qual, d.params, .stmts d.body, d.scope, mainGlobals, [], builtinsNs) := e
      simp only [Option.some.injEq, Prod.mk.injEq] at e2
      obtain ⟨h1, h2, h3, h4, h5, h6, h7, h8⟩ := e2
      subst h1 h2 h3 h4 h5 h6 h7 h8
      obtain ⟨k1, k3⟩ := Bool.and_eq_true_iff.mp (Bool.and_eq_true_iff.mp (show (PySem.W.codeIn K n13 d.qual && He.dflB K n8 (d.dvs K) && true) = true from c2)).1
      exact ⟨_, ⟨oc, od, n8, n9, n10, n11, n12, n13, n14, osl, rfl, q, k1, He.dflB_ok k3, He.kwdB_ok rfl⟩, kp⟩
    | _ => cases c2
abbrev AlW : Type := Bool × List He.FnW
def obsW (fa : List He.Fa) (fn : List DefW) (ex : PySem.W.Frag → List Bool) (K : PySem.W.Frag) : AlW := ((fa.all fun f => f.ok K) && ((fn.all fun d => d.ok K) && (ex K).all id), fn.map fun d => fnWA K d.sup (d.at_ K))
def valW (fn : List DefW) : AlW := (true, fn.map DefW.val)
def SaysW (fa : List He.Fa) (fn : List DefW) (ex : PySem.W.Frag → List Bool) (K : PySem.W.Frag) : Prop := obsW fa fn ex K = valW fn
/-- the part of the heap that is looked at -/
def asW (g : Addr → Option Obj) : List Addr := He.asD g 5 ++ [cStatics]
def hookW (fa : List He.Fa) (fn : List DefW) (ex : PySem.W.Frag → List Bool) : PySem.W.Hook where
  α := AlW
  obs := fun s => obsW fa fn ex (He.frG s.heap.get? (asW s.heap.get?))
  val := fun _ => valW fn
  says := fun _ h => ∃ K : PySem.W.Frag, K.In h ∧ SaysW fa fn ex K
  of := fun _ _ e => ⟨_, He.frG_in, e⟩
  keeps := fun _ _ _ ⟨K, hK, q⟩ k => ⟨K, PySem.W.Frag.In.keeps hK k, q⟩
def obT (fa : List He.Fa) (fn : List DefW) (ex : PySem.W.Frag → List Bool) (s : PySem.W.SharedT) : AlW := obsW fa fn ex (He.frG (HandSHeadRun.getT s) (asW (HandSHeadRun.getT s)))
theorem obT_eq {fa : List He.Fa} {fn : List DefW} {ex : PySem.W.Frag → List Bool} (s : PySem.W.SharedT) : obT fa fn ex s = (hookW fa fn ex).obs s.abs := by
  have e : HandSHeadRun.getT s = s.abs.heap.get? := funext (HandSHeadRun.getT_eq s)
  show obsW fa fn ex (He.frG (HandSHeadRun.getT s) (asW (HandSHeadRun.getT s))) = obsW fa fn ex (He.frG s.abs.heap.get? (asW s.abs.heap.get?))
  rw [e]
section
variable {fa : List He.Fa} {fn : List DefW} {ex : PySem.W.Frag → List Bool} {K : PySem.W.Frag}
theorem SaysW.all (c : SaysW fa fn ex K) : (fa.all fun f => f.ok K) = true ∧ (fn.all fun d => d.ok K) = true ∧ (ex K).all id = true := by
  have z := Bool.and_eq_true_iff.mp (show ((fa.all fun f => f.ok K) && ((fn.all fun d => d.ok K) && (ex K).all id)) = true from congrArg (fun z : AlW => z.1) c)
  exact ⟨z.1, Bool.and_eq_true_iff.mp z.2⟩
theorem SaysW.fact (c : SaysW fa fn ex K) (i : Nat) {f : He.Fa} (h : fa[i]? = some f) : f.ok K = true := List.all_eq_true.mp c.all.1 f (List.mem_of_getElem? h)
theorem SaysW.exs (c : SaysW fa fn ex K) (i : Nat) {b : Bool} (h : (ex K)[i]? = some b) : b = true := List.all_eq_true.mp c.all.2.2 b (List.mem_of_getElem? h)
theorem SaysW.defS (c : SaysW fa fn ex K) (i : Nat) {d : DefW} (h : fn[i]? = some d) : fnWA K d.sup (d.at_ K) = d.val ∧ d.ok K = true := by
  have e : fn.map (fun d => fnWA K d.sup (d.at_ K)) = fn.map DefW.val := congrArg (fun z : AlW => z.2) c
  have e2 : (fn.map fun d => fnWA K d.sup (d.at_ K))[i]? = (fn.map DefW.val)[i]? := by rw [e]
  rw [List.getElem?_map, List.getElem?_map, h] at e2
  exact ⟨Option.some.inj e2, List.all_eq_true.mp c.all.2.1 d (List.mem_of_getElem? h)⟩
theorem SaysW.def_ (c : SaysW fa fn ex K) (i : Nat) {d : DefW} (h : fn[i]? = some d) (hs : d.sup = none := by rfl) : ∃ fd, FunD K d.name d.qual d.params d.body d.scope (d.dvs K) [] (d.at_ K) fd := by
  obtain ⟨h1, h2⟩ := c.defS i h
  exact DefW.funD hs h1 h2
end
/-- the def behind a classmethod, a property of the class x -/
def recAd (T : String) (K : PySem.W.Frag) (x m : Str) : Addr := match PySem.W.recIn K (He.ma K (He.ga K x) m) T with
  | some (.ref g :: _) => g
  | _ => 0

/-! ### fields -/
def rFld (K : PySem.W.Frag) (f : Str) : V → Hp → VK → Prop := fun x H Q => ∃ a C dx fs v, x = .ref a ∧ H a = some (.ins C dx fs) ∧ Cls K C ∧ NoAttr K C f ∧ fs.lookup f = some v ∧ Q v H
theorem w_fld {K : PySem.W.Frag} {ta : TE} {f : Str} {σ : L2.St} {H : Hp} {Q : VK} (h : ta σ H fun x H1 => rFld K f x H1 Q) : tFld K ta f σ H Q := h
theorem w_rFld {K : PySem.W.Frag} {f : Str} {a C dx : Addr} {fs : List (Str × V)} {v : V} {H : Hp} {Q : VK} (h : H a = some (.ins C dx fs)) (c : Cls K C) (n : NoAttr K C f) (l : fs.lookup f = some v) (q : Q v H) : rFld K f (.ref a) H Q := ⟨a, C, dx, fs, v, rfl, h, c, n, l, q⟩
def rPut (K : PySem.W.Frag) (f : Str) (y : V) : V → Hp → (Hp → Prop) → Prop := fun x H R => ∃ a C dx fs, x = .ref a ∧ H a = some (.ins C dx fs) ∧ Cls K C ∧ NoAttr K C f ∧ fs.length < 1000 ∧ R (upd H a (.ins C dx (putF f y fs)))
theorem w_put {K : PySem.W.Frag} {ta tv : TE} {f : Str} {σ : L2.St} {H : Hp} {D : Ends} (h : tv σ H fun y H1 => ta σ H1 fun x H2 => rPut K f y x H2 fun H3 => D.nx σ H3) : sFld K ta tv f D σ H := h
theorem Gr.put {H : Hp} {a C dx : Addr} {fs : List (Str × V)} {o : HO} (h : H a = some (.ins C dx fs)) (hi : imm (fs.map (·.1)) = false) : Gr [a] H (upd H a o) := ⟨fun b u e m => by
    rw [upd_ne (by simpa using m)]
    exact e, fun b m => by
    have e : b = a := by simpa using m
    subst e
    exact ⟨_, h, hi⟩⟩
theorem w_rPut {K : PySem.W.Frag} {f : Str} {y : V} {a C dx : Addr} {fs : List (Str × V)} {H : Hp} {R : Hp → Prop} (h : H a = some (.ins C dx fs)) (c : Cls K C) (n : NoAttr K C f) (l : fs.length < 1000) (hi : imm (fs.map (·.1)) = false)
    (q : ∀ H', Gr [a] H H' → H' a = some (.ins C dx (putF f y fs)) → R H') : rPut K f y (.ref a) H R := ⟨a, C, dx, fs, rfl, h, c, n, l, q _ (Gr.put h hi) upd_same⟩

/-! ### the end: the law's own call -/
theorem walkW {l : PySem.W.OpenLaw} {n k : Nat} {q : Program} {loose : List Str} {XP : (Str → Option Value) → Heap → Prop} {YP : World → Heap → Prop} {d : DefRec} {x : Str}
    (hn : l.most = some n) (hn2 : n ≤ sizeLine) (hdf : d.params.defaults = []) (hr : Room k callerA)
    (F : ∀ (w : World) (mg : Str → Option Value) (fa : Addr) (h : Heap), YP w h → h.Ns mainGlobals mg → mg d.name = some (.ref fa) →
      ∃ (K : PySem.W.Frag) (fd : FuncData) (sp : Sp), K.In h ∧ (∀ (s : Shared) (u : Value), BindsTo s fd ⟨[u], []⟩ [(x, u)]) ∧
        (∀ (H : Hp) (a : Addr) (ns : List Int), ns.length ≤ n → Only H → SqL K H a (ns.map V.int) → sp [.ref a] H (fun v _ => v = .bl true) fun _ _ _ => False) ∧
        ∀ base : Heap, K.In base → base.Ns mainGlobals mg → FnOk l.prog w K mg base (L2N.CX l.prog w) k fa fd [x] sp) :
    PySem.W.WalkO q loose XP YP l.row.toRowW d [] (fun f vs => PySem.call f vs) := by
  refine Att.attach_call hn hdf fun w s₀ s₁ mg mb fa o pm cd doc a vs ns G Y ho hd hcd hmg hobj hints hlen hg => ?_
  obtain ⟨K, fd, sp, KX, hb, hsp, hF⟩ := F w mg fa _ Y G.T.g hmg
  refine law_call KX G.T.g G.T.b G.T.builtins G.T.nolimit hg hobj hints (Nat.le_trans hlen hn2) hr hF hb (fun H hO hS => hsp H a ns hlen hO hS) fun H e s' h => ?_
  obtain ⟨_, _, _, _, _, _, _, _, _, _, _, _, z⟩ := h
  exact z
end LW

namespace LW
open PySem PySem.Spec PyProof.Rows L2

/-! ### own classes: makes, methods, operators, at the slots -/
/-- a statement that is never reached -/
def tDead : TS := fun _ _ _ => False
theorem ps_dead {X : Cx} {st : Stmt} : PS X st tDead := ⟨fun _ _ _ _ _ _ h => h.elim⟩
theorem pss_dead {X : Cx} {st : List Stmt} : PSs X st tDead := ⟨fun _ _ _ _ _ _ h => h.elim⟩
theorem pe_dead {X : Cx} {e : Expr} : PE X e (fun _ _ _ => False) := ⟨fun _ _ _ _ _ _ h => h.elim⟩
abbrev E0S : L2.St → XK := fun _ _ _ _ => False
theorem passAt0 {X : Cx} (σ : L2.St) : PassesAt (L2N.CX X.prog X.w) X σ (E0S σ) := fun _ _ _ _ _ _ c => by
  obtain ⟨_, _, _, _, _, _, _, _, _, _, _, z⟩ := c
  exact z.2.elim
theorem rawF {P : Program} {w : World} {K : PySem.W.Frag} {mg : Str → Option Value} {base : Heap} {CX : CXT} {k : Nat} {f : Addr} {fd : FuncData} {ps : List Str} {sp : Sp} (F : FnOk P w K mg base CX k f fd ps sp) (hb : Binds K fd ps []) :
    FnR P w K mg base CX k f sp := (F.raw hb .nil).imp fun vs H Q E h => by rw [List.append_nil]; exact h
section
variable {X : Cx} {CX : CXT} {k : Nat} {C f g p : Addr} {mc : Value} {sp : Sp} {E : L2.St → XK} {pins : List (Addr × Obj)} {σ : L2.St} {H : Hp} {s : Shared} {Q : VK} {us : List Value} {vs : List V}
theorem run_S {A : Around} (F : FnR X.prog X.w X.K X.mg X.base CX k g sp) (hr : Room k A) (e0 : Env0 X.prog X.w X.K X.mg X.base A X.stack s H) (hx : PassesAt CX X σ (E σ)) (I : Inv X pins σ H s) (r : Vals vs us) (h : sp vs H Q (E σ)) :
    codeAny (model X.prog X.w) A (.call (.ref g) ⟨us, []⟩) (fun r s' => match r with | .ok (.ret v) => EP X pins σ Q v s' | .ok _ => False | .error e => X.xe e s') s := by
  refine codeAny_mono (F A X.stack s H us vs Q (E σ) hr e0 r h) fun r s' hq => ?_
  rcases r with e | fl
  · exact hx pins H s e s' I hq
  · cases fl <;> first | exact I.after hq | exact False.elim hq
/-- what __init__ finds: x of the class at C, no field yet -/
def mkHp (H : Hp) (x dx C : Addr) : Hp := upd (upd H dx (.own x)) x (.ins C dx [])
def tMakeS (C : Addr) (sp : Sp) (E : L2.St → XK) (tf : TE) (t : TA) : TE := fun σ H Q => tf σ H fun y H0 => y = .ref C ∧ t σ H0 fun vs H1 => ∀ x dx, H1 x = Option.none → H1 dx = Option.none → dx ≠ x →
  sp (V.ref x :: vs) (mkHp H1 x dx C) (fun v H2 => v = .non ∧ Q (.ref x) H2) (E σ)
variable {o e fe : Expr} {es : List Expr} {m : Str} {pos apos : Pos} {ta tb tf : TE} {t : TA} {pl : Sem Bool}
theorem pe_makeS (hf : PE X fe tf) (M : Mk X.K C f) (F : FnR X.prog X.w X.K X.mg X.base CX k f sp) (hr : Room (k + 1) X.A) (hx : ∀ σ, PassesAt CX X σ (E σ)) (ha : PA X (e :: es) t)
    (ht : eval (.Call fe (e :: es) [] pos) X.env = (do callWith pos (← eval fe X.env) [] (backTo pos (starEach (e :: es) X.env)) (backToKw pos (keywordEach [] X.env))) := by rfl)
    (he : starEach (e :: es) X.env = (false, eval e X.env) :: starEach es X.env := by rfl) (hpl : (backTo pos (starEach es X.env)).any (·.1) = false := by rfl) : PE X (.Call fe (e :: es) [] pos) (tMakeS C sp E tf t) := by
  refine ⟨fun pins s σ H Q I h => ?_⟩
  refine Call_ (thn (hf.run pins s σ H _ I h) fun u s1 ⟨y, H0, I0, ry, ey, q0⟩ => ?_) ht
  subst ey
  obtain rfl : u = Value.ref C := ry
  refine PySem.W.callWith_K (h₀ := X.base) I0.ok.mod.kin M.kp (thn (ha.run pos pins s1 σ H0 _ I0 q0) fun us s2 ⟨vs, H1, I1, r, q⟩ => ⟨I1.kIn, ?_⟩) he hpl
  have hq := q (s2.heap.objs.size + 1) s2.heap.objs.size (I1.hok.fresh (Nat.le_succ _)) (I1.hok.fresh (Nat.le_refl _)) (Nat.ne_of_lt (Nat.lt_succ_self _))
  have I2 := Inv.made (C := C) I1
  refine wpAny_call (make_map (f := f) I1.kIn M.makes M.init (beq_iff_eq.mp M.fn) (codeAny_mono (run_S (us := Value.ref (s2.heap.objs.size + 1) :: us) (vs := V.ref (s2.heap.objs.size + 1) :: vs) F (hr.make C us []) (I2.env0.make C us []) (hx σ) I2 (.cons rfl r) hq) fun r s' hq' => ?_))
  rcases r with e | fl
  · exact hq'
  · cases fl with
    | ret u =>
      obtain ⟨v, H', I3, rv, ev, q3⟩ := hq'
      subst ev
      exact ⟨rv, ⟨V.ref (s2.heap.objs.size + 1), H', I3, rfl, q3⟩⟩
    | _ => exact False.elim hq'
/-- C.m(..), m a classmethod -/
def tCMethS (C : Addr) (sp : Sp) (E : L2.St → XK) (ta : TE) (t : TA) : TE := fun σ H Q => ta σ H fun x H1 => x = .ref C ∧ t σ H1 fun vs H2 => sp (.ref C :: vs) H2 Q (E σ)
theorem pe_cmethS (he : PE X o ta) (r : ClX.CRead X.K C mc) (c : ClX.CMet X.K C mc m p g) (F : FnR X.prog X.w X.K X.mg X.base CX k g sp) (hr : Room k X.A) (hx : ∀ σ, PassesAt CX X σ (E σ)) (ha : PA X (e :: es) t)
    (hst : starEach (e :: es) X.env = (false, eval e X.env) :: starEach es X.env := by rfl) (hpl : (backTo pos (starEach es X.env)).any (·.1) = false := by rfl)
    (ht : eval (.Call (.Attribute o m apos) (e :: es) [] pos) X.env = (do
      let ov ← eval o X.env
      standAt apos.atName
      let (f, first) ← holding [ov] (getMethod ov m pl)
      callWith pos f first (backTo pos (starEach (e :: es) X.env)) (backToKw pos (keywordEach [] X.env))) := by rfl) :
    PE X (.Call (.Attribute o m apos) (e :: es) [] pos) (tCMethS C sp E ta t) := by
  refine ⟨fun pins s σ H Q I h => ?_⟩
  refine PySem.W.methodCall_KW (pl := pl) (thn (he.run pins s σ H _ I h) fun u s1 ⟨x, H1, I1, rx, ex, q⟩ => ?_) ht
  subst ex
  obtain rfl : u = Value.ref C := rx
  refine ClX.getmethcm_ok I1 r c fun s2 I2 => ?_
  refine ClX.callwith_cm I2 (ClX.base_none I1 (Nat.le_refl _)) c.fi (thn (ha.run pos _ s2 σ H1 _ I2 q) fun us s3 ⟨vs, H2, I3, rv, q2⟩ => ⟨⟨ClX.pin_at I3, I3.kIn⟩, ?_⟩) hst hpl
  exact thn (wpAny_call (PySem.W.method_call (ClX.pin_at I3) (run_S (us := .ref C :: us) (vs := .ref C :: vs) F hr I3.env0 (hx σ) I3 (.cons rfl rv) q2))) fun _ _ y => ClX.unpinE y
/-- o.m(..) -/
def tMethSS (C : Addr) (m : Str) (sp : Sp) (E : L2.St → XK) (ta : TE) (t : TA) : TE := fun σ H Q => ta σ H fun x H1 => ∃ a dx fs, x = .ref a ∧ H1 a = some (.ins C dx fs) ∧ fs.lookup m = none ∧ t σ H1 fun vs H2 => sp (x :: vs) H2 Q (E σ)
theorem pe_methS (he : PE X o ta) (c : Cls X.K C) (hm : Meth X.K C m f) (F : FnR X.prog X.w X.K X.mg X.base CX k f sp) (hr : Room k X.A) (hx : ∀ σ, PassesAt CX X σ (E σ)) (ha : PA X (e :: es) t)
    (hst : starEach (e :: es) X.env = (false, eval e X.env) :: starEach es X.env := by rfl) (hpl : (backTo pos (starEach es X.env)).any (·.1) = false := by rfl)
    (ht : eval (.Call (.Attribute o m apos) (e :: es) [] pos) X.env = (do
      let ov ← eval o X.env
      standAt apos.atName
      let (f, first) ← holding [ov] (getMethod ov m pl)
      callWith pos f first (backTo pos (starEach (e :: es) X.env)) (backToKw pos (keywordEach [] X.env))) := by rfl) :
    PE X (.Call (.Attribute o m apos) (e :: es) [] pos) (tMethSS C m sp E ta t) := by
  refine ⟨fun pins s σ H Q I h => ?_⟩
  refine PySem.W.methodCall_KW (pl := pl) (thn (he.run pins s σ H _ I h) fun u s1 ⟨x, H1, I1, rx, a, dx, fs, ex, ea, l, q⟩ => ?_) ht
  subst ex
  obtain rfl : u = Value.ref a := rx
  refine getmeth_ok I1 ea c hm l ?_
  refine PySem.W.callWith_K (first := [.ref a]) (h₀ := X.base) I.ok.mod.kin hm.kp (thn (ha.run pos pins s1 σ H1 _ I1 q) fun us s2 ⟨vs, H2, I2, r, q2⟩ => ⟨I2.kIn, ?_⟩) hst hpl
  exact wpAny_call (run_S (us := .ref a :: us) (vs := .ref a :: vs) F hr I2.env0 (hx σ) I2 (.cons rfl r) q2)
theorem pe_methS0 (he : PE X o ta) (c : Cls X.K C) (hm : Meth X.K C m f) (F : FnR X.prog X.w X.K X.mg X.base CX k f sp) (hr : Room k X.A) (hx : ∀ σ, PassesAt CX X σ (E σ))
    (ht : eval (.Call (.Attribute o m apos) [] [] pos) X.env = (do
      let ov ← eval o X.env
      standAt apos.atName
      let (f, first) ← holding [ov] (getMethod ov m pl)
      callWith pos f first (backTo pos (starEach [] X.env)) (backToKw pos (keywordEach [] X.env))) := by rfl) :
    PE X (.Call (.Attribute o m apos) [] [] pos) (tMethSS C m sp E ta tNil) := by
  refine ⟨fun pins s σ H Q I h => ?_⟩
  refine PySem.W.methodCall_KW (pl := pl) (thn (he.run pins s σ H _ I h) fun u s1 ⟨x, H1, I1, rx, a, dx, fs, ex, ea, l, q⟩ => ?_) ht
  subst ex
  obtain rfl : u = Value.ref a := rx
  refine getmeth_ok I1 ea c hm l ?_
  exact PySem.W.callWith_K0 (first := [.ref a]) I1.kIn hm.kp (wpAny_call (run_S (us := [.ref a]) (vs := [.ref a]) F hr I1.env0 (hx σ) I1 (.cons rfl .nil) q))
/-- o(..), o an instance -/
def tCallOS (C : Addr) (sp : Sp) (E : L2.St → XK) (tf : TE) (t : TA) : TE := fun σ H Q => tf σ H fun y H1 => ∃ a, y = V.ref a ∧ t σ H1 fun vs H2 => (∃ dx fs, H2 a = some (.ins C dx fs)) ∧ sp (V.ref a :: vs) H2 Q (E σ)
theorem pe_callOS (hf : PE X fe tf) (c : StX.CallO X.K C g) (F : FnR X.prog X.w X.K X.mg X.base CX k g sp) (hr : Room k X.A) (hx : ∀ σ, PassesAt CX X σ (E σ)) (ha : PA X (e :: es) t)
    (ht : eval (.Call fe (e :: es) [] pos) X.env = (do callWith pos (← eval fe X.env) [] (backTo pos (starEach (e :: es) X.env)) (backToKw pos (keywordEach [] X.env))) := by rfl)
    (he : starEach (e :: es) X.env = (false, eval e X.env) :: starEach es X.env := by rfl) (hpl : (backTo pos (starEach es X.env)).any (·.1) = false := by rfl) : PE X (.Call fe (e :: es) [] pos) (tCallOS C sp E tf t) := by
  refine ⟨fun pins s σ H Q I h => ?_⟩
  refine Call_ (thn (hf.run pins s σ H _ I h) fun u s1 ⟨y, H1, I1, ry, a, ey, q⟩ => ?_) ht
  subst ey
  obtain rfl : u = Value.ref a := ry
  refine StX.callO_with (thn (ha.run pos pins s1 σ H1 _ I1 q) fun us s2 ⟨vs, H2, I2, r, hi, q2⟩ => ?_) he hpl
  obtain ⟨ox, od, J, hd⟩ := StX.insC_at I2 (.inr hi)
  exact ⟨⟨C, ox, od, J, hd⟩, wpAny_call (PySem.W.kco_code I2.kIn J hd c.at_ c.fn c.fi (run_S (us := .ref a :: us) (vs := .ref a :: vs) F hr I2.env0 (hx σ) I2 (.cons rfl r) q2))⟩
/-- x op y, both of the class at C -/
def tBinS (C : Addr) (sp : Sp) (E : L2.St → XK) (ta tb : TE) : TE := fun σ H Q => ta σ H fun x H1 => tb σ H1 fun y H2 => ∃ a dx fs b dy gs, x = .ref a ∧ y = .ref b ∧ H2 a = some (.ins C dx fs) ∧ H2 b = some (.ins C dy gs) ∧ sp [x, y] H2 Q (E σ)
structure OpO (K : PySem.W.Frag) (C : Addr) (m : Str) (g : Addr) : Prop where
  self : PySem.W.selfFirst K C = true
  at_ : PySem.W.findIn K (.ref C) m = some (some (.ref g))
  fn : PySem.W.isFn K (.ref g) = true
theorem ins_at (I : Inv X pins σ H s) {a dx : Addr} {fs : List (Str × V)} (h : H a = some (.ins C dx fs)) : ∃ ox od, PySem.W.InstAt s.heap a ox C od := by
  obtain ⟨ox, od, J, _⟩ := StX.insC_at I (.inr ⟨dx, fs, h⟩)
  exact ⟨ox, od, J⟩
theorem pe_binS {a b : Expr} {op : Operator} (c : OpO X.K C (PySem.dunder op.info.2) g) (F : FnR X.prog X.w X.K X.mg X.base CX k g sp) (hr : Room k X.A) (hx : ∀ σ, PassesAt CX X σ (E σ)) (ha : PE X a ta) (hb : PE X b tb) : PE X (.BinOp a op b pos) (tBinS C sp E ta tb) := by
  refine ⟨fun pins s σ H Q I h => ?_⟩
  refine wpAny_BinOp (binT ha hb I h fun v u s2 x y H2 I2 rx ry q => ?_)
  obtain ⟨a, dx, fs, b, dy, gs, rfl, rfl, ea, eb, q⟩ := q
  cases (show v = Value.ref a from rx)
  cases (show u = Value.ref b from ry)
  obtain ⟨ox, od, J⟩ := ins_at I2 ea
  obtain ⟨ox', od', J'⟩ := ins_at I2 eb
  obtain ⟨m, hF⟩ := I2.fr
  refine PySem.W.binop_K hF I2.ok.mod.kin J J'.type c.self c.at_ c.fn ?_
  refine wpAny_mono (wpAny_call (run_S (us := [.ref a, .ref b]) (vs := [.ref a, .ref b]) F hr I2.env0 (hx σ) I2 (.cons rfl (.cons rfl .nil)) q)) (fun w s' z => ?_) fun _ _ x => x
  obtain ⟨z', H', I', rz, qz⟩ := z
  exact SlX.cmpback rz ⟨z', H', I', rz, qz⟩
structure CmO (K : PySem.W.Frag) (C : Addr) (m : Str) (g : Addr) : Prop where
  at_ : PySem.W.findIn K (.ref C) m = some (some (.ref g))
  fn : PySem.W.isFn K (.ref g) = true
theorem pe_cmpS {a b : Expr} {op : CmpOp} (c : CmO X.K C (cmpInfo op).2.1 g) (hop : ∀ a b, compareOp op a b = richCompare op a b) (F : FnR X.prog X.w X.K X.mg X.base CX k g sp) (hr : Room k X.A) (hx : ∀ σ, PassesAt CX X σ (E σ)) (ha : PE X a ta) (hb : PE X b tb) (hm : behindInMarks op b = false) : PE X (.Compare a [op] [b] pos) (tBinS C sp E ta tb) := by
  refine ⟨fun pins s σ H Q I h => ?_⟩
  refine wpAny_Compare1 (binT ha hb I h fun v u s2 x y H2 I2 rx ry q => ?_) hm
  obtain ⟨a, dx, fs, b, dy, gs, rfl, rfl, ea, eb, q⟩ := q
  cases (show v = Value.ref a from rx)
  cases (show u = Value.ref b from ry)
  obtain ⟨ox, od, J⟩ := ins_at I2 ea
  obtain ⟨ox', od', J'⟩ := ins_at I2 eb
  obtain ⟨m, hF⟩ := I2.fr
  rw [hop]
  refine PySem.W.cmp_K (op := op) (tb := .ref C) hr.units0 hF I2.ok.mod.kin J J'.type (by unfold PySem.W.notFirst; simp) c.at_ c.fn ?_
  refine wpAny_mono (wpAny_call (run_S (us := [.ref a, .ref b]) (vs := [.ref a, .ref b]) F hr I2.env0 (hx σ) I2 (.cons rfl (.cons rfl .nil)) q)) (fun w s' z => ?_) fun _ _ x => x
  obtain ⟨z', H', I', rz, qz⟩ := z
  exact SlX.cmpback rz ⟨z', H', I', rz, qz⟩
/-- x op i, x of the class at C, i an int -/
structure OpI (K : PySem.W.Frag) (C : Addr) (op : Operator) (g : Addr) : Prop where
  self : PySem.W.selfFirst K C = true
  at_ : PySem.W.findIn K (.ref C) (PySem.dunder op.info.2) = some (some (.ref g))
  fn : PySem.W.isFn K (.ref g) = true
  rr : PySem.W.findIn K (.ref C) (PySem.dunderR op.info.2) = some none
  fo : (PySem.W.findIn K (.type "int") (PySem.dunder op.info.2)).isSome = true
  ro : (PySem.W.findIn K (.type "int") (PySem.dunderR op.info.2)).isSome = true
  sub : PySem.W.subIn K (.type "int") (.ref C) = some false
def tBinI (C : Addr) (sp : Sp) (E : L2.St → XK) (ta tb : TE) : TE := fun σ H Q => ta σ H fun x H1 => tb σ H1 fun y H2 => ∃ a dx fs i, x = .ref a ∧ y = .int i ∧ H2 a = some (.ins C dx fs) ∧ sp [x, y] H2 Q (E σ)
theorem pe_binI {a b : Expr} {op : Operator} (c : OpI X.K C op g) (F : FnR X.prog X.w X.K X.mg X.base CX k g sp) (hr : Room k X.A) (hx : ∀ σ, PassesAt CX X σ (E σ)) (ha : PE X a ta) (hb : PE X b tb) : PE X (.BinOp a op b pos) (tBinI C sp E ta tb) := by
  refine ⟨fun pins s σ H Q I h => ?_⟩
  refine wpAny_BinOp (binT ha hb I h fun v u s2 x y H2 I2 rx ry q => ?_)
  obtain ⟨a, dx, fs, i, rfl, rfl, ea, q⟩ := q
  cases (show v = Value.ref a from rx)
  obtain ⟨t, rfl⟩ := (show ∃ t, u = Value.int i t from ry)
  obtain ⟨ox, od, J⟩ := ins_at I2 ea
  obtain ⟨m, hF⟩ := I2.fr
  obtain ⟨fo, h1⟩ := Option.isSome_iff_exists.mp c.fo
  obtain ⟨ro, h2⟩ := Option.isSome_iff_exists.mp c.ro
  refine PySem.W.ksp_binT (T := "int") hF I2.ok.mod.kin J rfl c.self c.at_ c.fn c.rr (.inl rfl) h1 h2 c.sub ?_
  refine wpAny_mono (wpAny_call (run_S (us := [.ref a, .int i t]) (vs := [.ref a, .int i]) F hr I2.env0 (hx σ) I2 (.cons rfl (.cons ⟨t, rfl⟩ .nil)) q)) (fun w s' z => ?_) fun _ _ x => x
  obtain ⟨z', H', I', rz, qz⟩ := z
  exact SlX.cmpback rz ⟨z', H', I', rz, qz⟩
/-- ~x -/
def tInvS (C : Addr) (sp : Sp) (E : L2.St → XK) (ta : TE) : TE := fun σ H Q => ta σ H fun x H1 => ∃ a dx fs, x = .ref a ∧ H1 a = some (.ins C dx fs) ∧ sp [x] H1 Q (E σ)
theorem pe_invS {a : Expr} (c : CmO X.K C "__invert__" g) (F : FnR X.prog X.w X.K X.mg X.base CX k g sp) (hr : Room k X.A) (hx : ∀ σ, PassesAt CX X σ (E σ)) (ha : PE X a ta) : PE X (.UnaryOp .Invert a pos) (tInvS C sp E ta) := by
  refine ⟨fun pins s σ H Q I h => ?_⟩
  refine UnaryOp_ (thn (ha.run pins s σ H _ I h) fun v s1 ⟨x, H1, I1, r1, a, dx, fs, ex, ea, q⟩ => ?_)
  subst ex
  cases (show v = Value.ref a from r1)
  obtain ⟨ox, od, J⟩ := ins_at I1 ea
  obtain ⟨m, hF⟩ := I1.fr
  exact PySem.W.ksp_inv hF I1.ok.mod.kin J c.at_ c.fn (wpAny_call (run_S (us := [.ref a]) (vs := [.ref a]) F hr I1.env0 (hx σ) I1 (.cons rfl .nil) q))
/-- len(x) by an own __len__ that lets nothing out -/
def rLenO (C : Addr) (sp : Sp) : List V → Hp → VK → Prop := fun xs H Q => ∃ a dx fs, xs = [.ref a] ∧ H a = some (.ins C dx fs) ∧ sp [.ref a] H (fun v H' => ∃ n : Int, v = .int n ∧ 0 ≤ n ∧ n < 2 ^ 63 ∧ Q (.int n) H') (fun _ _ _ => False)
theorem cr_lenO (c : CmO X.K C "__len__" g) (F : FnR X.prog X.w X.K X.mg X.base (L2N.CX X.prog X.w) k g sp) (hr : Room (k + 1) X.A) : CallR X (.builtin "len") (rLenO C sp) := by
  intro pins s σ H xs us Q I r h
  obtain ⟨a, dx, fs, rfl, ea, q⟩ := h
  obtain ⟨u, rfl, ru⟩ := r.one
  cases (show u = Value.ref a from ru)
  obtain ⟨ox, od, J⟩ := ins_at I ea
  obtain ⟨m, hF⟩ := I.fr
  refine PySem.W.len_K hF I.ok.mod.kin J c.at_ c.fn (wpAny_mono (wpAny_call (run_S (E := E0S) (us := [.ref a]) (vs := [.ref a]) F hr.in1 I.env0.in1 (passAt0 σ) I (.cons rfl .nil) q)) (fun w s' z => ?_) fun _ _ x => x)
  obtain ⟨z', H', I', rz, n, ez, h0, h1, qz⟩ := z
  subst ez
  obtain ⟨t, e⟩ := (show ∃ t, w = Value.int n t from rz)
  cases e
  exact ⟨⟨h0, h1⟩, .int n, H', I'.tok _, ⟨_, rfl⟩, qz⟩
end
/-! ### what is asked of the text, as truth values -/
section
variable {K : PySem.W.Frag} {x m : Str}
theorem and2 {a b : Bool} (h : (a && b) = true) : a = true ∧ b = true := Bool.and_eq_true_iff.mp h
def cmoB (K : PySem.W.Frag) (x m : Str) : Bool := decide (PySem.W.findIn K (.ref (He.ga K x)) m = some (some (.ref (He.ma K (He.ga K x) m)))) && PySem.W.isFn K (.ref (He.ma K (He.ga K x) m))
theorem cmoB_ok (h : cmoB K x m = true) : CmO K (He.ga K x) m (He.ma K (He.ga K x) m) := ⟨of_decide_eq_true (and2 h).1, (and2 h).2⟩
def opoB (K : PySem.W.Frag) (x m : Str) : Bool := PySem.W.selfFirst K (He.ga K x) && cmoB K x m
theorem opoB_ok (h : opoB K x m = true) : OpO K (He.ga K x) m (He.ma K (He.ga K x) m) := ⟨(and2 h).1, (cmoB_ok (and2 h).2).1, (cmoB_ok (and2 h).2).2⟩
def opiB (K : PySem.W.Frag) (x : Str) (op : Operator) : Bool := PySem.W.selfFirst K (He.ga K x) && (cmoB K x (PySem.dunder op.info.2) && (decide (PySem.W.findIn K (.ref (He.ga K x)) (PySem.dunderR op.info.2) = some none) && ((PySem.W.findIn K (.type "int") (PySem.dunder op.info.2)).isSome && ((PySem.W.findIn K (.type "int") (PySem.dunderR op.info.2)).isSome &&
  decide (PySem.W.subIn K (.type "int") (.ref (He.ga K x)) = some false)))))
theorem opiB_ok {op : Operator} (h : opiB K x op = true) : OpI K (He.ga K x) op (He.ma K (He.ga K x) (PySem.dunder op.info.2)) := by
  obtain ⟨h1, h⟩ := and2 h
  obtain ⟨h2, h⟩ := and2 h
  obtain ⟨h3, h⟩ := and2 h
  obtain ⟨h4, h⟩ := and2 h
  obtain ⟨h5, h6⟩ := and2 h
  exact ⟨h1, (cmoB_ok h2).1, (cmoB_ok h2).2, of_decide_eq_true h3, h4, h5, of_decide_eq_true h6⟩
def calB (K : PySem.W.Frag) (x : Str) : Bool := cmoB K x "__call__" && PySem.W.fnIn K (He.ma K (He.ga K x) "__call__")
theorem calB_ok (h : calB K x = true) : StX.CallO K (He.ga K x) (He.ma K (He.ga K x) "__call__") := ⟨(cmoB_ok (and2 h).1).1, (cmoB_ok (and2 h).1).2, (and2 h).2⟩
def crdB (K : PySem.W.Frag) (x : Str) : Bool := PySem.W.readsIn K (He.ga K x) (.type "type") && decide (PySem.W.specialIn K (.ref (He.ga K x)) "__getattribute__" = some (some (.builtin "type.__getattribute__")))
theorem crdB_ok (h : crdB K x = true) : ClX.CRead K (He.ga K x) (.type "type") := ⟨(and2 h).1, of_decide_eq_true (and2 h).2⟩
def recB (K : PySem.W.Frag) (T : String) (p g : Addr) : Bool := match PySem.W.recIn K p T with
  | some (.ref a :: _) => decide (a = g)
  | _ => false
theorem recB_ok {T : String} {p g : Addr} (h : recB K T p g = true) : ∃ rest, PySem.W.recIn K p T = some (.ref g :: rest) := by
  unfold recB at h
  split at h
  · rename_i a r e
    rw [of_decide_eq_true h] at e
    exact ⟨_, e⟩
  · cases h
def getB (K : PySem.W.Frag) (x m : Str) : Bool := match PySem.W.findCls K (.ref (He.ga K x)) (.type "type") m with
  | some (.get (.builtin b) (.ref p) .none (.ref c)) => decide (b = "classmethod.__get__") && (decide (p = He.ma K (He.ga K x) m) && decide (c = He.ga K x))
  | _ => false
theorem getB_ok (h : getB K x m = true) : PySem.W.findCls K (.ref (He.ga K x)) (.type "type") m = some (.get (.builtin "classmethod.__get__") (.ref (He.ma K (He.ga K x) m)) .none (.ref (He.ga K x))) := by
  unfold getB at h
  split at h
  · rename_i b p c e
    obtain ⟨h1, h⟩ := and2 h
    obtain ⟨h2, h3⟩ := and2 h
    rw [of_decide_eq_true h1, of_decide_eq_true h2, of_decide_eq_true h3] at e
    exact e
  · cases h
def cmtB (K : PySem.W.Frag) (x m : Str) : Bool := getB K x m && (recB K "classmethod" (He.ma K (He.ga K x) m) (recAd "classmethod" K x m) && PySem.W.fnIn K (recAd "classmethod" K x m))
theorem cmtB_ok (h : cmtB K x m = true) : ClX.CMet K (He.ga K x) (.type "type") m (He.ma K (He.ga K x) m) (recAd "classmethod" K x m) := ⟨getB_ok (and2 h).1, recB_ok (and2 (and2 h).2).1, (and2 (and2 h).2).2⟩
def cvlB (K : PySem.W.Frag) (x m : Str) (i : Int) : Bool := match PySem.W.findCls K (.ref (He.ga K x)) (.type "type") m with
  | some (.val (.int j _)) => decide (j = i)
  | _ => false
theorem cvlB_ok {i : Int} (h : cvlB K x m i = true) : ∃ u, ClX.CVal K (He.ga K x) (.type "type") m (.int i) u := by
  unfold cvlB at h
  split at h
  · rename_i j t e
    exact ⟨_, e, t, by rw [of_decide_eq_true h]⟩
  · cases h
/-- isinstance(x, D), x of the class C -/
structure IsiC (K : PySem.W.Frag) (C : Addr) : Prop where
  cls : Cls K C
  ca : PySem.W.findIn K (.ref C) "__class__" = some (some (.builtin "object.__class__"))
  cn : PySem.W.specialIn K (.builtin "object.__class__") "__get__" = some (some (.builtin "getset_descriptor.__get__"))
  ct : PySem.W.takesIn K (.builtin "object.__class__") = some true
  cm : PySem.W.mroIn K C (.type "object") = some true
def isiB (K : PySem.W.Frag) (x : Str) : Bool := (He.Fa.cls x).ok K && (decide (PySem.W.findIn K (.ref (He.ga K x)) "__class__" = some (some (.builtin "object.__class__"))) && (decide (PySem.W.specialIn K (.builtin "object.__class__") "__get__" = some (some (.builtin "getset_descriptor.__get__"))) &&
  (decide (PySem.W.takesIn K (.builtin "object.__class__") = some true) && decide (PySem.W.mroIn K (He.ga K x) (.type "object") = some true))))
theorem isiB_ok (h : isiB K x = true) : IsiC K (He.ga K x) := by
  obtain ⟨h1, h⟩ := and2 h
  obtain ⟨h2, h⟩ := and2 h
  obtain ⟨h3, h⟩ := and2 h
  obtain ⟨h4, h5⟩ := and2 h
  exact ⟨He.cls_ok h1, of_decide_eq_true h2, of_decide_eq_true h3, of_decide_eq_true h4, of_decide_eq_true h5⟩
theorem w_isiO {H : Hp} {Q : VK} {a C D dx : Addr} {fs : List (Str × V)} {b : Bool} (I : IsiC K C) (h : H a = some (.ins C dx fs)) (hk : PySem.W.kitOne K (.ref C) (.ref D) = some b) (q : Q (.bl b) H) : rIsi K [.ref a, .ref D] H Q :=
  ⟨.ref a, .ref D, .ref C, .ref D, b, rfl, .own D, .base (.ins h I.cls I.ca I.cn I.ct I.cm), hk, q⟩
end
/-! ### walks -/
section
variable {K : PySem.W.Frag} {C : Addr} {sp : Sp} {E : L2.St → XK} {ta tb tf : TE} {t : TA} {σ : L2.St} {H : Hp} {Q : VK} {m : Str}
def kMake (C : Addr) (sp : Sp) (E : XK) (vs : List V) (H1 : Hp) (Q : VK) : Prop := ∀ x dx, H1 x = Option.none → H1 dx = Option.none → dx ≠ x → sp (V.ref x :: vs) (mkHp H1 x dx C) (fun v H2 => v = .non ∧ Q (.ref x) H2) E
def kRef (C : Addr) (y : V) (P : Prop) : Prop := y = .ref C ∧ P
theorem w_kRef {P : Prop} (h : P) : kRef C (.ref C) P := ⟨rfl, h⟩
theorem w_makeS (h : tf σ H fun y H0 => kRef C y (t σ H0 fun vs H1 => kMake C sp (E σ) vs H1 Q)) : tMakeS C sp E tf t σ H Q := h
theorem w_cmethS (h : ta σ H fun y H0 => kRef C y (t σ H0 fun vs H1 => sp (.ref C :: vs) H1 Q (E σ))) : tCMethS C sp E ta t σ H Q := h
def rBinO (C : Addr) (sp : Sp) (E : XK) (x y : V) (H2 : Hp) (Q : VK) : Prop := ∃ a dx fs b dy gs, x = .ref a ∧ y = .ref b ∧ H2 a = some (.ins C dx fs) ∧ H2 b = some (.ins C dy gs) ∧ sp [x, y] H2 Q E
theorem w_binS (h : ta σ H fun x H1 => tb σ H1 fun y H2 => rBinO C sp (E σ) x y H2 Q) : tBinS C sp E ta tb σ H Q := h
def rBinI (C : Addr) (sp : Sp) (E : XK) (x y : V) (H2 : Hp) (Q : VK) : Prop := ∃ a dx fs i, x = .ref a ∧ y = .int i ∧ H2 a = some (.ins C dx fs) ∧ sp [x, y] H2 Q E
theorem w_binI (h : ta σ H fun x H1 => tb σ H1 fun y H2 => rBinI C sp (E σ) x y H2 Q) : tBinI C sp E ta tb σ H Q := h
def rInvO (C : Addr) (sp : Sp) (E : XK) (x : V) (H2 : Hp) (Q : VK) : Prop := ∃ a dx fs, x = .ref a ∧ H2 a = some (.ins C dx fs) ∧ sp [x] H2 Q E
theorem w_invS (h : ta σ H fun x H1 => rInvO C sp (E σ) x H1 Q) : tInvS C sp E ta σ H Q := h
def rCalO (C : Addr) (sp : Sp) (E : XK) (t : TA) (σ : L2.St) (y : V) (H1 : Hp) (Q : VK) : Prop := ∃ a, y = V.ref a ∧ t σ H1 fun vs H2 => (∃ dx fs, H2 a = some (.ins C dx fs)) ∧ sp (V.ref a :: vs) H2 Q E
theorem w_callOS (h : tf σ H fun y H1 => rCalO C sp (E σ) t σ y H1 Q) : tCallOS C sp E tf t σ H Q := h
def rMetO (C : Addr) (m : Str) (sp : Sp) (E : XK) (t : TA) (σ : L2.St) (y : V) (H1 : Hp) (Q : VK) : Prop := ∃ a dx fs, y = .ref a ∧ H1 a = some (.ins C dx fs) ∧ fs.lookup m = none ∧ t σ H1 fun vs H2 => sp (y :: vs) H2 Q E
theorem w_methS (h : ta σ H fun y H1 => rMetO C m sp (E σ) t σ y H1 Q) : tMethSS C m sp E ta t σ H Q := h
def rCVal (K : PySem.W.Frag) (f : Str) (x : V) (H : Hp) (Q : VK) : Prop := ∃ C mc v u, x = .ref C ∧ ClX.CRead K C mc ∧ ClX.CVal K C mc f v u ∧ Q v H
theorem w_cval {f : Str} (h : ta σ H fun x H1 => rCVal K f x H1 Q) : ClX.tCVal K ta f σ H Q := h
theorem w_rCVal {f : Str} {v : V} {mc : Value} (r : ClX.CRead K C mc) (k : ∃ u, ClX.CVal K C mc f v u) (q : Q v H) : rCVal K f (.ref C) H Q := by
  obtain ⟨u, k⟩ := k
  exact ⟨C, mc, v, u, rfl, r, k, q⟩
def kLstRg (a b : Int) (H1 : Hp) (Q : VK) : Prop := RgOk a b ∧ ∀ q, H1 q = none → Q (.ref q) (upd H1 q (.lst (rgV a b)))
def kTupRg (a b : Int) (H1 : Hp) (Q : VK) : Prop := RgOk a b ∧ ∀ q, H1 q = none → Q (.ref q) (upd H1 q (.tup (rgV a b)))
def kRg1 (x : V) (R : Int → Int → Hp → Prop) (H : Hp) : Prop := ∃ n, x = .int n ∧ R 0 n H
theorem w_lstRg {te : L2.St → Hp → (Int → Int → Hp → Prop) → Prop} (h : te σ H fun a b H1 => kLstRg a b H1 Q) : tLstRg te σ H Q := h
theorem w_tupRg {te : L2.St → Hp → (Int → Int → Hp → Prop) → Prop} (h : te σ H fun a b H1 => kTupRg a b H1 Q) : tTupRg te σ H Q := h
theorem w_tRg1 {R : Int → Int → Hp → Prop} (h : ta σ H fun x H1 => kRg1 x R H1) : tRg1 ta σ H R := h
theorem w_kRg1 {n : Int} {R : Int → Int → Hp → Prop} (h : R 0 n H) : kRg1 (.int n) R H := ⟨n, rfl, h⟩
/-- 0, 1, .. n - 1 -/
def rg (n : Nat) : List Int := (List.range n).map fun (i : Nat) => (i : Int)
theorem rgV_eq (n : Nat) : rgV 0 n = (rg n).map V.int := by
  unfold rgV rg
  rw [List.map_map, show ((n : Int) - 0).toNat = n by omega]
  exact List.map_congr_left fun i _ => by show V.int (0 + (i : Nat)) = V.int (i : Int); rw [Int.zero_add]
theorem w_kLstRg {n : Nat} (hn : n ≤ 1000000) (h : ∀ q H', H q = none → Gr [] H H' → H' q = some (.lst ((rg n).map V.int)) → Q (.ref q) H') : kLstRg 0 n H Q :=
  ⟨.of_le (by omega) (by omega) (by omega) (by omega), fun q hq => h q _ hq (Gr.new hq) (by rw [rgV_eq]; exact upd_same)⟩
theorem w_kTupRg {n : Nat} (hn : n ≤ 1000000) (h : ∀ q H', H q = none → Gr [] H H' → H' q = some (.tup ((rg n).map V.int)) → Q (.ref q) H') : kTupRg 0 n H Q :=
  ⟨.of_le (by omega) (by omega) (by omega) (by omega), fun q hq => h q _ hq (Gr.new hq) (by rw [rgV_eq]; exact upd_same)⟩
end
/-! ### while, list + list -/
def kWh (Pv : Nat → L2.St → Hp → Prop) (tb : TS) (D : Ends) (m : Nat) (σ : L2.St) (H1 : Hp) : Prop := ∃ N : L2.St → Hp → Prop, (∀ σ' H', N σ' H' → ∃ m', m' < m ∧ Pv m' σ' H') ∧ tb { D with nx := N, ct := N, bk := D.nx } σ H1
theorem w_kWh {Pv : Nat → L2.St → Hp → Prop} {tb : TS} {D : Ends} {m : Nat} {σ : L2.St} {H1 : Hp} (h : tb { D with nx := fun σ' H' => ∃ m', m' < m ∧ Pv m' σ' H', ct := fun σ' H' => ∃ m', m' < m ∧ Pv m' σ' H', bk := D.nx } σ H1) : kWh Pv tb D m σ H1 := ⟨_, fun _ _ h => h, h⟩
theorem w_while {c : TT} {tb : TS} {D : Ends} {σ : L2.St} {H : Hp} (Pv : Nat → L2.St → Hp → Prop) (m0 : Nat) (h0 : Pv m0 σ H) (hs : ∀ m σ H, Pv m σ H → c σ H fun b H1 => if b = true then kWh Pv tb D m σ H1 else D.nx σ H1) : tWhile c tb D σ H := ⟨Pv, ⟨m0, h0⟩, hs⟩
theorem w_cat {l b : Addr} {xs zs : List V} {H : Hp} {Q : VK} (h1 : H l = some (.lst xs)) (h2 : H b = some (.lst zs)) (hl : xs.length + zs.length ≤ 100000) (h : ∀ p H', H p = none → Gr [] H H' → H' p = some (.lst (xs ++ zs)) → Q (.ref p) H') : rCat (.ref l) (.ref b) H Q :=
  ⟨l, b, xs, zs, rfl, rfl, h1, h2, small hl, fun p hp => h p _ hp (Gr.new hp) upd_same⟩
/-! ### list comprehensions, one clause -/
abbrev Blk (α : Type) : Type := Shared → Hp → Addr → List (Str × Addr) → List Addr → α
section
variable {X : Cx} {elt tg iter : Expr} {ifs : List Expr} {scope : Scope} {own : List (Str × Nat)} {pos spos : Pos} {wi : TI} {g : TG} {tt : Blk TT} {te : Blk TE} {i : Nat} {y : Str} {py : Pos}
theorem pe_lcD (hc : X.calm = true) (hN : X.N.Nodup) (hi : PI X tg iter wi) (ok : BlkOk X.N X.env.scope scope own)
    (hg : ∀ s H C cl fp, PG (X.blk s H scope (compEnvC scope cl C X.env) fp) tg g) (ht : ∀ s H C cl fp, PTs (X.blk s H scope (compEnvC scope cl C X.env) fp) ifs (tt s H C cl fp))
    (he : ∀ s H C cl fp, PE (X.blk s H scope (compEnvC scope cl C X.env) fp) elt (te s H C cl fp)) (ht0 : ∀ s H C cl fp, tt s H C cl fp = tt X.s_0 X.H_0 0 [] [] := by intros; rfl) (he0 : ∀ s H C cl fp, te s H C cl fp = te X.s_0 X.H_0 0 [] [] := by intros; rfl)
    (hs : ∀ x, foldedSetIterable iter X.env x = pure x := by intro _; rfl) :
    PE X (.ListComp elt [⟨tg, iter, ifs, 0⟩] scope pos) (tLc wi g (tt X.s_0 X.H_0 0 [] []) (te X.s_0 X.H_0 0 [] []) (own.map (·.2))) :=
  pe_lc hc hN hi ok hg (fun s H C cl fp => by rw [← ht0 s H C cl fp]; exact ht s H C cl fp) (fun s H C cl fp => by rw [← he0 s H C cl fp]; exact he s H C cl fp) hs
theorem ps_setLcD (hc : X.calm = true) (hN : X.N.Nodup) (hy : X.N[i]? = some y) (hyl : X.env.scope.names.lookup y = some .local)
    (hsw : swapsWith (.ListComp elt [⟨tg, iter, ifs, 0⟩] scope pos) (some (.Name y py)) spos.line X.env = pure true) (hi : PI X tg iter wi) (ok : BlkOk X.N X.env.scope scope own)
    (hg : ∀ s H C cl fp, PG (X.blk s H scope (compEnvC scope cl C X.env) fp) tg g) (ht : ∀ s H C cl fp, PTs (X.blk s H scope (compEnvC scope cl C X.env) fp) ifs (tt s H C cl fp))
    (he : ∀ s H C cl fp, PE (X.blk s H scope (compEnvC scope cl C X.env) fp) elt (te s H C cl fp)) (ht0 : ∀ s H C cl fp, tt s H C cl fp = tt X.s_0 X.H_0 0 [] [] := by intros; rfl) (he0 : ∀ s H C cl fp, te s H C cl fp = te X.s_0 X.H_0 0 [] [] := by intros; rfl)
    (hs : ∀ x, foldedSetIterable iter X.env x = pure x := by intro _; rfl) :
    PS X (.Assign [.Name y py] (.ListComp elt [⟨tg, iter, ifs, 0⟩] scope pos) spos) (tAsg (tLc wi g (tt X.s_0 X.H_0 0 [] []) (te X.s_0 X.H_0 0 [] []) (own.map (·.2))) (gName i)) :=
  ps_setLc hc hN hy hyl hsw hi ok hg (fun s H C cl fp => by rw [← ht0 s H C cl fp]; exact ht s H C cl fp) (fun s H C cl fp => by rw [← he0 s H C cl fp]; exact he s H C cl fp) hs
end
def kLc (g : TG) (tt : TT) (te : TE) (vs : List Nat) (σ : L2.St) : It → Hp → VK → Prop := fun J H1 Q => ∀ D, H1 D = none → ∃ W : Nat → Nat → Hp → Prop, (∃ m, W 0 m (upd H1 D (.lst []))) ∧ ∀ i m H, W i m H →
  (J.stop i H ∧ Q (.ref D) H) ∨ (J.go i H ∧ ∃ Nx : Hp → Prop, (∀ H', Nx H' → ∃ m', m' < m ∧ W (i + 1) m' H') ∧ ∀ x H', J.yld i H x H' → g x (wipe σ vs) H' fun σ2 H2 => wipe σ2 vs = wipe σ vs ∧ tt σ2 H2 fun b H3 =>
    if b = true then te σ2 H3 fun y H4 => ∃ acc, H4 D = some (.lst acc) ∧ acc.length < sizeLine ∧ Nx (upd H4 D (.lst (acc ++ [y]))) else Nx H3)
section
variable {K : PySem.W.Frag} {σ : L2.St} {H H1 : Hp} {Q : VK} {wi : TI} {g : TG} {tt : TT} {te : TE} {vs : List Nat} {n : Nat} {lo : Int} {a : Addr} {xs : List V}
theorem w_lc (h : wi σ H fun J H1 => kLc g tt te vs σ J H1 Q) : tLc wi g tt te vs σ H Q := h
/-- the item y goes onto the list at D -/
def rApp (D : Addr) (Nx : Hp → Prop) (y : V) (H4 : Hp) : Prop := ∃ acc, H4 D = some (.lst acc) ∧ acc.length < sizeLine ∧ Nx (upd H4 D (.lst (acc ++ [y])))
/-- behind i turns -/
def kNx (D : Addr) (Pv : Addr → Nat → List V → Hp → Prop) (i : Nat) (H : Hp) : Prop := ∃ acc, acc.length ≤ i ∧ H D = some (.lst acc) ∧ Pv D i acc H
theorem w_rApp {D : Addr} {Pv : Addr → Nat → List V → Hp → Prop} {i : Nat} {y : V} {acc : List V} (h : H D = some (.lst acc)) (hl : acc.length ≤ i) (hi : i < 100000) (k : ∀ H5, Gr [D] H H5 → H5 D = some (.lst (acc ++ [y])) → Pv D (i + 1) (acc ++ [y]) H5) : rApp D (kNx D Pv (i + 1)) y H :=
  ⟨acc, h, smallLt (by omega), acc ++ [y], by simp; omega, upd_same, k _ (Gr.wr h) upd_same⟩
def kIf (b : Bool) (A B : Prop) : Prop := if b = true then A else B
def kTrn (g : TG) (tt : TT) (te : TE) (vs : List Nat) (σ : L2.St) (D : Addr) (Nx : Hp → Prop) (x : V) (H : Hp) : Prop := g x (wipe σ vs) H fun σ2 H2 => wipe σ2 vs = wipe σ vs ∧ tt σ2 H2 fun b H3 => kIf b (te σ2 H3 (rApp D Nx)) (Nx H3)
/-- without a test -/
theorem w_trn {D : Addr} {Nx : Hp → Prop} {x : V} (h : g x (wipe σ vs) H fun σ2 H2 => wipe σ2 vs = wipe σ vs ∧ te σ2 H2 (rApp D Nx)) : kTrn g tYes te vs σ D Nx x H := h
theorem k_lcRng (Pv : Addr → Nat → List V → Hp → Prop) (h0 : ∀ D H2, H1 D = none → Gr [] H1 H2 → H2 D = some (.lst []) → Pv D 0 [] H2)
    (hs : ∀ D i acc H2, H1 D = none → i < n → acc.length ≤ i → H2 D = some (.lst acc) → Pv D i acc H2 → kTrn g tt te vs σ D (kNx D Pv (i + 1)) (.int (lo + i)) H2)
    (hd : ∀ D acc H2, H1 D = none → acc.length ≤ n → H2 D = some (.lst acc) → Pv D n acc H2 → Q (.ref D) H2) : kLc g tt te vs σ (Itr lo n) H1 Q := fun D hD =>
  lc_range (kNx D Pv) ⟨[], Nat.zero_le _, upd_same, h0 D _ hD (Gr.new hD) upd_same⟩ (fun i H hi ⟨acc, hl, ha, hp⟩ => hs D i acc H hD hi hl ha hp) fun H ⟨acc, hl, ha, hp⟩ => hd D acc H hD hl ha hp
theorem k_lcLst (Pv : Addr → Nat → List V → Hp → Prop) (h0 : ∀ D H2, H1 D = none → Gr [] H1 H2 → H2 D = some (.lst []) → Pv D 0 [] H2)
    (hl : ∀ D i acc H2, H1 D = none → i ≤ xs.length → H2 D = some (.lst acc) → Pv D i acc H2 → SqL K H2 a xs)
    (hs : ∀ D i x acc H2, H1 D = none → xs[i]? = some x → acc.length ≤ i → H2 D = some (.lst acc) → Pv D i acc H2 → kTrn g tt te vs σ D (kNx D Pv (i + 1)) x H2)
    (hd : ∀ D acc H2, H1 D = none → acc.length ≤ xs.length → H2 D = some (.lst acc) → Pv D xs.length acc H2 → Q (.ref D) H2) : kLc g tt te vs σ (Itl K a) H1 Q := fun D hD =>
  lc_list (kNx D Pv) ⟨[], Nat.zero_le _, upd_same, h0 D _ hD (Gr.new hD) upd_same⟩ (fun i H hi ⟨acc, _, ha, hp⟩ => hl D i acc H hD hi ha hp) (fun i x H hi ⟨acc, hl, ha, hp⟩ => hs D i x acc H hD hi hl ha hp) fun H ⟨acc, hl, ha, hp⟩ => hd D acc H hD hl ha hp
theorem k_lcTup (Pv : Addr → Nat → List V → Hp → Prop) (h0 : ∀ D H2, H1 D = none → Gr [] H1 H2 → H2 D = some (.lst []) → Pv D 0 [] H2)
    (hl : ∀ D i acc H2, H1 D = none → i ≤ xs.length → H2 D = some (.lst acc) → Pv D i acc H2 → SqT K H2 a xs)
    (hs : ∀ D i x acc H2, H1 D = none → xs[i]? = some x → acc.length ≤ i → H2 D = some (.lst acc) → Pv D i acc H2 → kTrn g tt te vs σ D (kNx D Pv (i + 1)) x H2)
    (hd : ∀ D acc H2, H1 D = none → acc.length ≤ xs.length → H2 D = some (.lst acc) → Pv D xs.length acc H2 → Q (.ref D) H2) : kLc g tt te vs σ (Itt K a) H1 Q := fun D hD =>
  lc_tup (kNx D Pv) ⟨[], Nat.zero_le _, upd_same, h0 D _ hD (Gr.new hD) upd_same⟩ (fun i H hi ⟨acc, _, ha, hp⟩ => hl D i acc H hD hi ha hp) (fun i x H hi ⟨acc, hl, ha, hp⟩ => hs D i x acc H hD hi hl ha hp) fun H ⟨acc, hl, ha, hp⟩ => hd D acc H hD hl ha hp
/-- every item by itself, nothing else written -/
def pvM (H1 : Hp) (f : Nat → V) : Addr → Nat → List V → Hp → Prop := fun D i acc H2 => Gr [] H1 H2 ∧ acc = (List.range i).map f
theorem pvM_step {f : Nat → V} {D : Addr} {i : Nat} {y : V} {acc : List V} {H2 H4 : Hp} (hD : H1 D = none) (hd : H2 D = some (.lst acc)) (hl : acc.length ≤ i) (hi : i < 100000) (p : pvM H1 f D i acc H2) (g : Gr [] H2 H4) (e : y = f i) : rApp D (kNx D (pvM H1 f) (i + 1)) y H4 :=
  w_rApp (g.get0 hd) hl hi fun H5 g5 h5 => ⟨(p.1.trans0 g).transN g5 hD, by rw [p.2, e, List.range_succ, List.map_append] <;> rfl⟩
theorem k_lcRngM (f : Nat → V) (hn : n ≤ 100000) (hs : ∀ D i H2, i < n → Gr [] H1 H2 → (∀ y H4, Gr [] H2 H4 → y = f i → rApp D (kNx D (pvM H1 f) (i + 1)) y H4) → kTrn g tt te vs σ D (kNx D (pvM H1 f) (i + 1)) (.int (lo + i)) H2)
    (hd : ∀ D H2, H1 D = none → Gr [] H1 H2 → H2 D = some (.lst ((List.range n).map f)) → Q (.ref D) H2) : kLc g tt te vs σ (Itr lo n) H1 Q :=
  k_lcRng (pvM H1 f) (fun D H2 _ g _ => ⟨g, rfl⟩) (fun D i acc H2 hD hi hl ha p => hs D i H2 hi p.1 fun y H4 g e => pvM_step hD ha hl (by omega) p g e) fun D acc H2 hD _ ha p => hd D H2 hD p.1 (by rw [ha, p.2])
theorem k_lcTupM (f : Nat → V) (hn : xs.length ≤ 100000) (hx : SqT K H1 a xs) (hs : ∀ D i x H2, xs[i]? = some x → i < xs.length → Gr [] H1 H2 → (∀ y H4, Gr [] H2 H4 → y = f i → rApp D (kNx D (pvM H1 f) (i + 1)) y H4) → kTrn g tt te vs σ D (kNx D (pvM H1 f) (i + 1)) x H2)
    (hd : ∀ D H2, H1 D = none → Gr [] H1 H2 → H2 D = some (.lst ((List.range xs.length).map f)) → Q (.ref D) H2) : kLc g tt te vs σ (Itt K a) H1 Q :=
  k_lcTup (pvM H1 f) (fun D H2 _ g _ => ⟨g, rfl⟩) (fun D i acc H2 _ _ _ p => p.1.sqt hx) (fun D i x acc H2 hD hx hl ha p => hs D i x H2 hx (List.getElem?_eq_some_iff.mp hx).1 p.1 fun y H4 g e => pvM_step hD ha hl (by have := (List.getElem?_eq_some_iff.mp hx).1; omega) p g e) fun D acc H2 hD _ ha p => hd D H2 hD p.1 (by rw [ha, p.2])
theorem k_lcLstM (f : Nat → V) (hn : xs.length ≤ 100000) (hx : SqL K H1 a xs) (hs : ∀ D i x H2, xs[i]? = some x → i < xs.length → Gr [] H1 H2 → (∀ y H4, Gr [] H2 H4 → y = f i → rApp D (kNx D (pvM H1 f) (i + 1)) y H4) → kTrn g tt te vs σ D (kNx D (pvM H1 f) (i + 1)) x H2)
    (hd : ∀ D H2, H1 D = none → Gr [] H1 H2 → H2 D = some (.lst ((List.range xs.length).map f)) → Q (.ref D) H2) : kLc g tt te vs σ (Itl K a) H1 Q :=
  k_lcLst (pvM H1 f) (fun D H2 _ g _ => ⟨g, rfl⟩) (fun D i acc H2 _ _ _ p => p.1.sql0 hx) (fun D i x acc H2 hD hx hl ha p => hs D i x H2 hx (List.getElem?_eq_some_iff.mp hx).1 p.1 fun y H4 g e => pvM_step hD ha hl (by have := (List.getElem?_eq_some_iff.mp hx).1; omega) p g e) fun D acc H2 hD _ ha p => hd D H2 hD p.1 (by rw [ha, p.2])
theorem range_getD {α β : Type} (xs : List α) (d : α) (f : α → β) : ((List.range xs.length).map fun i => f (xs.getD i d)) = xs.map f := by
  refine List.ext_getElem? fun i => ?_
  rw [List.getElem?_map, List.getElem?_map]
  by_cases hi : i < xs.length
  · rw [List.getElem?_range hi, List.getElem?_eq_getElem hi]
    show some (f (xs.getD i d)) = some (f _)
    rw [List.getD_eq_getElem?_getD, List.getElem?_eq_getElem hi] <;> rfl
  · rw [List.getElem?_eq_none (by rw [List.length_range]; omega), List.getElem?_eq_none (by omega)] <;> rfl
theorem int_get {ns : List Int} {i : Nat} {x : V} (h : (ns.map V.int)[i]? = some x) : ∃ y, ns[i]? = some y ∧ x = .int y := by
  rw [List.getElem?_map] at h
  obtain ⟨y, hy, e⟩ := Option.map_eq_some_iff.mp h
  exact ⟨y, hy, e.symm⟩
/-- over ints, each by itself -/
theorem k_lcTupI {ns : List Int} (f : Int → V) (hn : ns.length ≤ 100000) (hx : SqT K H1 a (ns.map V.int)) (hs : ∀ D i y H2, ns[i]? = some y → i < ns.length → Gr [] H1 H2 → (∀ z H4, Gr [] H2 H4 → z = f y → rApp D (kNx D (pvM H1 (fun i => f (ns.getD i 0))) (i + 1)) z H4) → kTrn g tt te vs σ D (kNx D (pvM H1 (fun i => f (ns.getD i 0))) (i + 1)) (.int y) H2)
    (hd : ∀ D H2, H1 D = none → Gr [] H1 H2 → H2 D = some (.lst (ns.map f)) → Q (.ref D) H2) : kLc g tt te vs σ (Itt K a) H1 Q :=
  k_lcTupM (xs := ns.map V.int) (fun i => f (ns.getD i 0)) (by rw [List.length_map]; exact hn) hx (fun D i x H2 hx hi gr hk => by
    obtain ⟨y, hy, rfl⟩ := int_get hx
    have eg : ns.getD i 0 = y := by rw [List.getD_eq_getElem?_getD, hy] <;> rfl
    exact hs D i y H2 hy (by rw [List.length_map] at hi; exact hi) gr fun z H4 g4 e => hk z H4 g4 (by rw [e, eg])) fun D H2 n2 g2 h2 => hd D H2 n2 g2 (by rw [h2, List.length_map, range_getD ns 0 f])
theorem k_lcLstI {ns : List Int} (f : Int → V) (hn : ns.length ≤ 100000) (hx : SqL K H1 a (ns.map V.int)) (hs : ∀ D i y H2, ns[i]? = some y → i < ns.length → Gr [] H1 H2 → (∀ z H4, Gr [] H2 H4 → z = f y → rApp D (kNx D (pvM H1 (fun i => f (ns.getD i 0))) (i + 1)) z H4) → kTrn g tt te vs σ D (kNx D (pvM H1 (fun i => f (ns.getD i 0))) (i + 1)) (.int y) H2)
    (hd : ∀ D H2, H1 D = none → Gr [] H1 H2 → H2 D = some (.lst (ns.map f)) → Q (.ref D) H2) : kLc g tt te vs σ (Itl K a) H1 Q :=
  k_lcLstM (xs := ns.map V.int) (fun i => f (ns.getD i 0)) (by rw [List.length_map]; exact hn) hx (fun D i x H2 hx hi gr hk => by
    obtain ⟨y, hy, rfl⟩ := int_get hx
    have eg : ns.getD i 0 = y := by rw [List.getD_eq_getElem?_getD, hy] <;> rfl
    exact hs D i y H2 hy (by rw [List.length_map] at hi; exact hi) gr fun z H4 g4 e => hk z H4 g4 (by rw [e, eg])) fun D H2 n2 g2 h2 => hd D H2 n2 g2 (by rw [h2, List.length_map, range_getD ns 0 f])
end
end LW

namespace LW
open PySem PySem.Spec PyProof.Rows L2

/-! ### numberings, plain -/
theorem eraseIdx_mapL {α β : Type} (f : α → β) : ∀ (l : List α) (i : Nat), (l.map f).eraseIdx i = (l.eraseIdx i).map f
  | [], _ => rfl
  | _ :: _, 0 => rfl
  | a :: l, i + 1 => congrArg (f a :: ·) (eraseIdx_mapL f l i)
theorem eraseIdx_permL {α : Type} : ∀ {l : List α} {i : Nat} {v : α}, l[i]? = some v → (v :: l.eraseIdx i).Perm l
  | [], _, _, h => by simp at h
  | a :: l, 0, v, h => by
    have e : a = v := by simpa using h
    subst e
    exact .refl _
  | a :: l, i + 1, v, h => by
    have h : l[i]? = some v := by simpa using h
    exact (List.Perm.swap a v _).trans ((eraseIdx_permL h).cons a)
theorem nodup_part {α : Type} [BEq α] [LawfulBEq α] : ∀ {l m : List α}, l.Nodup → (∀ x ∈ l, x ∈ m) → ∃ r, m.Perm (l ++ r)
  | [], m, _, _ => ⟨m, .refl _⟩
  | a :: l, m, hn, hs => by
    obtain ⟨ha, hn⟩ := List.nodup_cons.mp hn
    have h1 : m.Perm (a :: m.erase a) := List.perm_cons_erase (hs a List.mem_cons_self)
    obtain ⟨r, hr⟩ := nodup_part (m := m.erase a) hn fun x hx => by
      have hm := hs x (List.mem_cons_of_mem _ hx)
      have hne : x ≠ a := fun e => ha (e ▸ hx)
      exact (List.mem_erase_of_ne hne).mpr hm
    exact ⟨r, h1.trans (hr.cons a)⟩
theorem perm_of {α : Type} [BEq α] [LawfulBEq α] {l m : List α} (hn : l.Nodup) (hs : ∀ x ∈ l, x ∈ m) (hl : m.length ≤ l.length) : l.Perm m := by
  obtain ⟨r, hr⟩ := nodup_part hn hs
  have e := hr.length_eq
  rw [List.length_append] at e
  have : r = [] := List.eq_nil_of_length_eq_zero (by omega)
  rw [this, List.append_nil] at hr
  exact hr.symm
theorem mem_rg {n : Nat} {x : Int} : x ∈ rg n ↔ 0 ≤ x ∧ x < n := by
  unfold rg
  rw [List.mem_map]
  refine ⟨fun ⟨i, hi, e⟩ => ?_, fun ⟨h0, h1⟩ => ⟨x.toNat, List.mem_range.mpr (by omega), by omega⟩⟩
  have := List.mem_range.mp hi
  omega
theorem length_rg (n : Nat) : (rg n).length = n := by unfold rg; rw [List.length_map, List.length_range]
theorem nodup_rg (n : Nat) : (rg n).Nodup := by
  unfold rg
  exact List.Pairwise.map _ (fun a b h e => h (by omega)) List.nodup_range
theorem sorted_rg (n : Nat) : (rg n).Pairwise (· ≤ ·) := by
  unfold rg
  refine List.Pairwise.map _ (fun a b h => ?_) (List.pairwise_lt_range (n := n))
  exact Int.ofNat_le.mpr (Nat.le_of_lt h)
theorem rg_get {n i : Nat} (h : i < n) : (rg n)[i]? = some (i : Int) := by
  unfold rg
  simp [h]
/-- each of 0 .. length - 1 once, 1 to 12 of them -/
def IsNum (ps : List Int) : Prop := 1 ≤ ps.length ∧ ps.length ≤ 12 ∧ ps.Perm (rg ps.length)
section
variable {ps qs : List Int} {n : Nat}
theorem IsNum.of (h1 : 1 ≤ n) (h2 : n ≤ 12) (hl : ps.length = n) (hn : ps.Nodup) (hb : ∀ x ∈ ps, 0 ≤ x ∧ x < n) : IsNum ps := by
  subst hl
  exact ⟨h1, h2, perm_of hn (fun x hx => mem_rg.mpr (hb x hx)) (by rw [length_rg]; omega)⟩
theorem IsNum.nodup (h : IsNum ps) : ps.Nodup := h.2.2.symm.nodup (nodup_rg _)
theorem IsNum.mem (h : IsNum ps) {x : Int} : x ∈ ps ↔ 0 ≤ x ∧ x < ps.length := by rw [h.2.2.mem_iff]; exact mem_rg
theorem IsNum.get (h : IsNum ps) {i : Nat} {x : Int} (e : ps[i]? = some x) : 0 ≤ x ∧ x < ps.length := h.mem.mp (List.mem_of_getElem? e)
theorem isNum_rg (h1 : 1 ≤ n) (h2 : n ≤ 12) : IsNum (rg n) := .of h1 h2 (length_rg n) (nodup_rg n) fun _ hx => mem_rg.mp hx
/-- sorted is 0, 1, .. -/
theorem sorted_iff {ns : List Int} (h : ns.Perm ps) (hs : ns.Pairwise (· ≤ ·)) : ns = rg ps.length ↔ ps.Perm (rg ps.length) := by
  refine ⟨fun e => e ▸ h.symm, fun p => ?_⟩
  exact List.Perm.eq_of_pairwise (le := (· ≤ ·)) (fun a b _ _ h1 h2 => Int.le_antisymm h1 h2) hs (sorted_rg _) (h.trans p)
end

/-! ### sorted, a list or a tuple of ints -/
def rSortedA (K : PySem.W.Frag) : List V → Hp → VK → Prop := fun vs H Q => ∃ (a : Addr) (ns : List Int), vs = [V.ref a] ∧ (SqL K H a (ns.map V.int) ∨ SqT K H a (ns.map V.int)) ∧ ns.length < 64 ∧
  ∀ (ns' : List Int) (p : Addr), ns'.Perm ns → ns'.Pairwise (· ≤ ·) → H p = none → Q (.ref p) (upd H p (.lst (ns'.map V.int)))
section
variable {prog : Program} {w : World} {A : Around} {s : Shared} {E : Value → Shared → Prop}
theorem sorted_any {a : Addr} {T : String} {o : Obj} {n : Nat} {vs : List Value} {ns : List Int} {Q : Value → Shared → Prop} (hT : T = "list" ∨ T = "tuple") (ho : s.heap.get? a = some o) (hc : o.cls = .type T) (hd : o.data = .seq vs.toArray n) (hI : IntsAre vs ns) (h64 : vs.length < 64)
    (h : ∀ (h' h2 : Heap) (out : Array Value) (e : Nat) (ns' : List Int), (∀ b o', s.heap.get? b = some o' → h'.get? b = some o') → (∀ b o', h'.get? b = some o' → h2.get? b = some o') → h2.get? h'.objs.size = some (seqObj "list" out e) → IntsAre out.toList ns' → ns'.Perm ns → ns'.Pairwise (· ≤ ·) → Q (.ref h'.objs.size) { s with heap := h2 }) :
    wpAny (model prog w) A (call (.builtin "sorted") [.ref a]) Q E s := by
  refine Calls.call_function_entry kind_sorted plain_sorted entry_sorted (args_sorted1 _) ?_
  unfold Builtin.«sorted»
  refine wpAny_bind (m := checkCount "sorted" 1 1 _) (wpAny_pure ?_)
  refine wpAny_bind (wpAny_collect_seq a hT ho hc hd (fun h' hk => ?_) (by show vs.length ≤ sizeLine; rw [sizeLine_eq]; omega))
  refine wpAny_bind (wpAny_newList ?_)
  have e1 : vs.toArray.toList = vs := by simp
  rw [e1]
  have hoL : (h'.push (seqObj "list" vs.toArray 0)).get? h'.objs.size = some (seqObj "list" vs.toArray 0) := Heap.get?_push_size _ rfl
  refine wpAny_bind (wpAny_holding (wpAny_call_entry slot_list_sort ⟨_, hoL, rfl⟩ entry_list_sort (list_sort_tree hoL hI h64 fun out ns' a1 a2 a3 => ⟨_, rfl, ?_⟩) (args_list_sort _)))
  obtain ⟨e, he⟩ := sortedHeap_at (vs := vs) (out := out) (n := 0) hoL
  refine wpAny_pure ⟨_, rfl, h h' _ out e ns' hk (fun b o' q => ?_) he a1 a2 a3⟩
  have lt := Heap.lt_size q
  rw [sortedHeap_old (Nat.ne_of_lt lt) (by show b < (h'.push _).objs.size; rw [size_push']; exact Nat.lt_succ_of_lt lt)]
  exact Heap.get?_push_of_some _ q
end
theorem cr_sortedA {X : Cx} : CallR X (.builtin "sorted") (rSortedA X.K) := by
  intro pins s σ H vs us Q I r h
  obtain ⟨a, ns, rfl, hs, h64, q⟩ := h
  obtain ⟨u, rfl, ru⟩ := r.one
  cases (show u = Value.ref a from ru)
  have fin : ∀ {T : String} {o : Obj} {n : Nat} {its : List Value}, (T = "list" ∨ T = "tuple") → s.heap.get? a = some o → o.cls = .type T → o.data = .seq its.toArray n → Vals (ns.map V.int) its → wpAny (model X.prog X.w) X.A (call (.builtin "sorted") [.ref a]) (EP X pins σ Q) X.xe s := fun {T o n its} hT ho hc hd rv => by
    have hi := rv.ints
    refine sorted_any hT ho hc hd hi (by rw [hi.length]; exact h64) fun h' h2 out e ns' hk hk2 he h1 h2' h3 => ?_
    have I1 : Inv X pins σ H { s with heap := h' } := I.kept (t' := s.toks) hk
    have hlen : (ns'.map V.int).length ≤ sizeLine := by rw [List.length_map, h2'.length_eq]; exact small (by omega)
    exact ⟨.ref _, upd H h'.objs.size (.lst (ns'.map V.int)), I1.laid (t' := s.toks) hk2 (Nat.le_refl _) ⟨hlen, out.toList, e, vals_of_ints h1, he⟩, rfl, q ns' _ h2' h3 (I1.hok.fresh (Nat.le_refl _))⟩
  rcases hs with hs | hs
  · obtain ⟨its, rv, hl, _⟩ := I.list hs
    obtain ⟨o, ho, hc, n, hd⟩ := hl.isList
    exact fin (.inl rfl) ho hc hd rv
  · obtain ⟨its, rv, ⟨o, ho, hc, n, hd⟩, _⟩ := I.tuple hs
    exact fin (.inr rfl) ho hc hd rv
theorem w_sorted {K : PySem.W.Frag} {H : Hp} {Q : VK} {a : Addr} {ns : List Int} (h : SqL K H a (ns.map V.int) ∨ SqT K H a (ns.map V.int)) (hl : ns.length < 64)
    (k : ∀ (ns' : List Int) p H', H p = none → Gr [] H H' → H' p = some (.lst (ns'.map V.int)) → ns'.Perm ns → ns'.Pairwise (· ≤ ·) → Q (.ref p) H') : rSortedA K [.ref a] H Q :=
  ⟨a, ns, rfl, h, hl, fun ns' p hp hs h0 => k ns' p _ h0 (Gr.new h0) upd_same hp hs⟩

/-- t.index(x): the first place of x, t a tuple of ints -/
def rIndexT (K : PySem.W.Frag) : V → List V → Hp → VK → Prop := fun x xs H Q => ∃ (p : Addr) (ns : List Int) (z : Int), x = .ref p ∧ xs = [.int z] ∧ SqT K H p (ns.map V.int) ∧ z ∈ ns ∧ Q (.int (ns.idxOf z : Nat)) H
theorem flat_ints (ns : List Int) : (ns.map V.int).all flatV = true := by
  rw [List.all_map]
  exact List.all_eq_true.mpr fun _ _ => rfl
theorem mt_tindex {X : Cx} : MtR X "tuple.index" (rIndexT X.K) := by
  intro pins s σ H x xs v us Q I rx rs h
  obtain ⟨p, ns, z, rfl, rfl, hq, hz, q⟩ := h
  cases rx
  obtain ⟨u, rfl, t, rfl⟩ := vals1 rs
  obtain ⟨its, r, ⟨⟨cls, dd, dt, sl⟩, ho, hc, n, hd⟩, hzz⟩ := I.tuple hq
  simp only at hc hd
  subst hc hd
  have hl : its.toArray.size = ns.length := by rw [List.size_toArray, ← r.length, List.length_map]
  have at' : ∀ (m : Nat) (hm : m < its.toArray.size), ∃ (y : Int) (t' : Tok), ns[m]? = some y ∧ its.toArray[m] = Value.int y t' := fun m hm => by
    have hm' : m < ns.length := by rw [← hl]; exact hm
    obtain ⟨w, hw, t', hw'⟩ := r.get (i := m) (x := .int ns[m]) (by simp [hm'])
    refine ⟨ns[m], t', List.getElem?_eq_getElem hm', ?_⟩
    have e := (List.getElem?_eq_some_iff.mp hw).2
    rw [← hw', ← e]
    simp
  have hj0 : ns.idxOf z < ns.length := List.idxOf_lt_length_of_mem hz
  have hj : ns.idxOf z < its.toArray.size := by rw [hl]; exact hj0
  refine call_meets PySem.F.slot_tuple_index ⟨_, ho, rfl⟩ PySem.F.entry_tuple_index (PySem.F.args_tuple_index_2 _ _) (TI.tuple_indexAt p its.toArray n dd sl (.int z t) (eqU (.int z)) (ns.idxOf z) hj ?_ ?_)
    ⟨ho, fun w hw => mem_eqAt (x := .int z) ⟨t, rfl⟩ rfl r (flat_ints ns) w (by simpa using hw), ⟨.int (ns.idxOf z : Nat), H, I.tok _, ⟨_, rfl⟩, q⟩⟩
  · obtain ⟨y, t', h1, h2⟩ := at' _ hj
    rw [List.getElem?_eq_getElem hj0, List.getElem_idxOf hj0] at h1
    cases h1
    rw [h2]
    show (z == z) = true
    exact beq_self_eq_true z
  · intro m hm hmj
    obtain ⟨y, t', h1, h2⟩ := at' m hm
    rw [h2]
    show (y == z) = false
    refine beq_eq_false_iff_ne.mpr fun e => ?_
    subst e
    have z1 := List.not_of_lt_findIdx (xs := ns) (p := (· == y)) (i := m) hmj
    obtain ⟨hml, hme⟩ := List.getElem?_eq_some_iff.mp h1
    exact absurd (beq_iff_eq.mpr hme) (by simpa using z1)
theorem w_indexT {K : PySem.W.Frag} {H : Hp} {Q : VK} {p : Addr} {ns : List Int} {z : Int} (h : SqT K H p (ns.map V.int)) (hz : z ∈ ns) (q : Q (.int (ns.idxOf z : Nat)) H) : rIndexT K (.ref p) [.int z] H Q := ⟨p, ns, z, rfl, rfl, h, hz, q⟩
/-- a method of such a tuple -/
def kTupX (x : V) (H : Hp) (P : Prop) : Prop := (∃ p ys, x = .ref p ∧ TupX H p ys) ∧ P
def tBMX (r : V → List V → Hp → VK → Prop) (to : TE) (t : TA) : TE := fun σ H Q => to σ H fun x H1 => kTupX x H1 (t σ H1 fun xs H2 => r x xs H2 Q)
theorem pe_bmX {X : Cx} {o e : Expr} {es : List Expr} {to : TE} {t : TA} {name : Str} {apos cpos : Pos} {id : String} {r : V → List V → Hp → VK → Prop} (slot : Slot "tuple" name id) (hty : typeOf (.builtin id) = pure (.type "method_descriptor")) (hm : MtR X id r) (ho : PE X o to) (ha : PA X (e :: es) t)
    (hbase : attributeBase o name X.env (eval o X.env) = eval o X.env := by rfl)
    (hfew : ((backTo cpos (starEach (e :: es) X.env)).all (fun x => !x.1) && (backToKw cpos (keywordEach [] X.env)).all (fun x => x.1.isSome)
      && decide ((e :: es).length + ([] : List Keyword).length + (if ([] : List Keyword).isEmpty then 0 else 1) < 30)) = true := by rfl)
    (hline : (apos.endLine == cpos.line) = true := by rfl) (hs : starEach (e :: es) X.env = (false, eval e X.env) :: starEach es X.env := by rfl) (hplain : (backTo cpos (starEach es X.env)).any (·.1) = false := by rfl) :
    PE X (.Call (.Attribute o name apos) (e :: es) [] cpos) (tBMX r to t) := by
  refine ⟨fun pins s σ H Q I h => ?_⟩
  refine wpAny_Call_method_late hbase hfew hline rfl (thn (ho.run pins s σ H _ I h) fun v s1 ⟨x, H1, I1, r1, ⟨p, ys, ex, ob, ep, hd⟩, q1⟩ => ?_)
  subst ex
  cases (show v = Value.ref p from r1)
  obtain ⟨g1, _, its, rv, o2, g2, g3, n, g4⟩ := (show ObjOk X.prog X.w H1 s1.heap p (.frz ob (.tup ys)) from I1.hok p _ ep)
  have e2 : o2 = ob := Option.some.inj (g2.symm.trans g1)
  subst e2
  refine ⟨"tuple", id, PySem.F.plainAttrs_tuple, slot, hty, ⟨_, g1, g3⟩, fun a e => ?_, ?_⟩
  · cases e
    exact ⟨_, g1, hd⟩
  have hA := ha.run cpos pins s1 σ H1 _ I1 q1
  rw [hs] at hA ⊢
  refine Calls.callWith_builtin (by show (false || (backTo cpos (starEach es X.env)).any (·.1)) = false; rw [hplain] <;> rfl) (Calls.evalArgs_plain ?_)
  exact thn hA fun us s2 ⟨vs, H2, I2, r2, q2⟩ => hm pins s2 σ H2 (.ref p) vs (.ref p) us Q I2 rfl r2 q2
theorem w_bmX {r : V → List V → Hp → VK → Prop} {to : TE} {t : TA} {σ : L2.St} {H : Hp} {Q : VK} (h : to σ H fun x H1 => kTupX x H1 (t σ H1 fun xs H2 => r x xs H2 Q)) : tBMX r to t σ H Q := h
theorem w_kTupX {p : Addr} {ys : List V} {H : Hp} {P : Prop} (h0 : TupX H p ys) (h : P) : kTupX (.ref p) H P := ⟨⟨p, ys, rfl, h0⟩, h⟩

theorem w_indexL {K : PySem.W.Frag} {H : Hp} {Q : VK} {p : Addr} {ns : List Int} {z : Int} (h : SqL K H p (ns.map V.int)) (hz : z ∈ ns) (q : Q (.int (ns.idxOf z : Nat)) H) : rIndex K (.ref p) [.int z] H Q := by
  have hj := List.idxOf_lt_length_of_mem hz
  refine ⟨p, ns.map V.int, .int z, ns.idxOf z, .int z, rfl, rfl, h, rfl, flat_ints ns, by rw [List.getElem?_map, List.getElem?_eq_getElem hj, List.getElem_idxOf hj] <;> rfl, by show (z == z) = true; exact beq_self_eq_true z, fun m z' hm hz' => ?_, q⟩
  obtain ⟨y, hy, rfl⟩ := int_get hz'
  obtain ⟨hml, hme⟩ := List.getElem?_eq_some_iff.mp hy
  have z1 := List.not_of_lt_findIdx (xs := ns) (p := (· == z)) (i := m) hm
  show (y == z) = false
  rw [← hme]
  simpa using z1
/-! ### numberings in the heap -/
abbrev NC (K : PySem.W.Frag) : Addr := He.ga K "Numbering"
structure NumC (K : PySem.W.Frag) : Prop where
  cls : Cls K (NC K)
  na : NoAttr K (NC K) "places"
def Num (K : PySem.W.Frag) (H : Hp) (a : Addr) (ps : List Int) : Prop := IsNum ps ∧ ∃ dx t, H a = some (.ins (NC K) dx [("places", .ref t)]) ∧ TupX H t (ps.map V.int)
section
variable {K : PySem.W.Frag} {H H' H1 : Hp} {Q : VK} {E : XK} {a x p : Addr} {ps ns : List Int} {S : List Addr}
theorem Num.gr (h : Num K H a ps) (g : Gr S H H') : Num K H' a ps := by
  obtain ⟨h0, dx, t, h1, h2⟩ := h
  exact ⟨h0, dx, t, g.get h1 rfl, h2.gr g⟩
theorem Num.ins (h : Num K H a ps) : ∃ dx fs, H a = some (.ins (NC K) dx fs) := by
  obtain ⟨_, dx, t, h1, _⟩ := h
  exact ⟨_, _, h1⟩
theorem w_places (c : NumC K) (h : Num K H a ps) (q : ∀ t, TupX H t (ps.map V.int) → Q (.ref t) H) : rFld K "places" (.ref a) H Q := by
  obtain ⟨_, dx, t, h1, h2⟩ := h
  exact w_rFld h1 c.cls c.na rfl (q t h2)
theorem Gr.made {dx C : Addr} (hx : H x = none) (hd : H dx = none) : Gr [] H (mkHp H x dx C) := ⟨fun b u e _ => by
    unfold mkHp
    rw [upd_ne (ne_of_none e hx), upd_ne (ne_of_none e hd)]
    exact e, fun _ m => by cases m⟩
/-- Numbering.__init__ -/
def sp_Numbering___init__ (K : PySem.W.Frag) : Sp := fun vs H Q E => ∃ (x dx p : Addr) (ns : List Int), vs = [.ref x, .ref p] ∧ H x = some (.ins (NC K) dx []) ∧ (SqL K H p (ns.map V.int) ∨ TupX H p (ns.map V.int)) ∧
  ((¬ IsNum ns ∧ ∀ H', Gr [] H H' → E (.ref (He.ga K "BadNumbering")) none H') ∨ (IsNum ns ∧ ∀ t H', Gr [x] H H' → H' x = some (.ins (NC K) dx [("places", .ref t)]) → TupX H' t (ns.map V.int) → Q .non H'))
theorem w_num (h : SqL K H p (ns.map V.int) ∨ TupX H p (ns.map V.int)) (hn : IsNum ns) (q : ∀ a H', H a = none → Gr [] H H' → Num K H' a ns → Q (.ref a) H') : kMake (NC K) (sp_Numbering___init__ K) E [.ref p] H Q := by
  intro x dx hx hd ne
  have g := Gr.made (C := NC K) hx hd
  refine ⟨x, dx, p, ns, rfl, upd_same, h.imp g.sql0 (·.gr g), .inr ⟨hn, fun t H' g' h1 h2 => ⟨rfl, q x H' hx (g.transN g' hx) ⟨hn, dx, t, h1, h2⟩⟩⟩⟩
theorem w_numBad (h : SqL K H p (ns.map V.int) ∨ TupX H p (ns.map V.int)) (hn : ¬ IsNum ns) (q : ∀ H', Gr [] H H' → E (.ref (He.ga K "BadNumbering")) none H') : kMake (NC K) (sp_Numbering___init__ K) E [.ref p] H Q := by
  intro x dx hx hd ne
  have g := Gr.made (C := NC K) hx hd
  exact ⟨x, dx, p, ns, rfl, upd_same, h.imp g.sql0 (·.gr g), .inl ⟨hn, fun H' g' => q H' (g.trans0 g')⟩⟩
/-- Numbering.turn -/
def turnP (n : Nat) (by_ : Int) : List Int := (List.range n).map fun (k : Nat) => ((k : Int) + by_) % n
theorem isNum_turn {n : Nat} {b : Int} (h1 : 1 ≤ n) (h2 : n ≤ 12) : IsNum (turnP n b) := by
  refine .of h1 h2 (by unfold turnP; rw [List.length_map, List.length_range]) ?_ fun x hx => ?_
  · unfold turnP
    refine List.pairwise_map.mpr (List.Pairwise.imp_of_mem (fun {a c} ha hc (hne : a ≠ c) e => hne ?_) List.nodup_range)
    have ha := List.mem_range.mp ha
    have hc := List.mem_range.mp hc
    have z : ((a : Int) - c) % n = 0 := by
      have := Int.emod_eq_emod_iff_emod_sub_eq_zero.mp e
      rw [show ((a : Int) + b) - (c + b) = a - c by omega] at this
      exact this
    have d : (n : Int) ∣ (a : Int) - c := Int.dvd_of_emod_eq_zero z
    obtain ⟨k, hk⟩ := d
    rcases Int.lt_trichotomy k 0 with q | q | q
    · have : (n : Int) * k ≤ n * (-1) := Int.mul_le_mul_of_nonneg_left (by omega) (by omega)
      omega
    · rw [q] at hk; omega
    · have : (n : Int) * 1 ≤ n * k := Int.mul_le_mul_of_nonneg_left (by omega) (by omega)
      omega
  · obtain ⟨k, _, rfl⟩ := List.mem_map.mp hx
    exact ⟨Int.emod_nonneg _ (by omega), Int.emod_lt_of_pos _ (by omega)⟩
def sp_Numbering_turn (K : PySem.W.Frag) : Sp := fun vs H Q E => ∃ n b : Int, vs = [.ref (NC K), .int n, .int b] ∧
  ((¬ (1 ≤ n ∧ n ≤ 12) ∧ ∀ H', Gr [] H H' → E (.ref (He.ga K "BadSize")) none H') ∨ (1 ≤ n ∧ n ≤ 12 ∧ ∀ a H', H a = none → Gr [] H H' → Num K H' a (turnP n.toNat b) → Q (.ref a) H'))
def sp_Numbering_plain (K : PySem.W.Frag) : Sp := fun vs H Q E => ∃ n : Int, vs = [.ref (NC K), .int n] ∧
  ((¬ (1 ≤ n ∧ n ≤ 12) ∧ ∀ H', Gr [] H H' → E (.ref (He.ga K "BadSize")) none H') ∨ (1 ≤ n ∧ n ≤ 12 ∧ ∀ a H', H a = none → Gr [] H H' → Num K H' a (turnP n.toNat 0) → Q (.ref a) H'))
/-- the place of k -/
def atP (ps : List Int) (k : Int) : Int := ps.getD k.toNat 0
theorem atP_at {k : Int} (h0 : 0 ≤ k) (h : k < ps.length) : atI (ps.map V.int) k = some (.int (atP ps k)) := by
  have hl : k.toNat < ps.length := by omega
  refine atI_of h0 ?_
  unfold atP
  rw [List.getElem?_map, List.getD_eq_getElem?_getD, List.getElem?_eq_getElem hl] <;> rfl
theorem atP_mem {k : Int} (h0 : 0 ≤ k) (h : k < ps.length) : atP ps k ∈ ps := by
  have hl : k.toNat < ps.length := by omega
  unfold atP
  rw [List.getD_eq_getElem?_getD, List.getElem?_eq_getElem hl]
  exact List.getElem_mem hl
/-- a place called: one that is there -/
def sp_Numbering___call__ (K : PySem.W.Frag) : Sp := fun vs H Q _ => ∃ (a : Addr) (ps : List Int) (k : Int), vs = [.ref a, .int k] ∧ Num K H a ps ∧ 0 ≤ k ∧ k < ps.length ∧ Q (.int (atP ps k)) H
/-- the product, the inverse -/
def mulP (ps qs : List Int) : List Int := qs.map (atP ps)
def sp_Numbering___mul__ (K : PySem.W.Frag) : Sp := fun vs H Q E => ∃ (a b : Addr) (ps qs : List Int), vs = [.ref a, .ref b] ∧ Num K H a ps ∧ Num K H b qs ∧
  ((ps.length ≠ qs.length ∧ ∀ H', Gr [] H H' → E (.ref (He.ga K "BadNumbering")) none H') ∨ (ps.length = qs.length ∧ ∀ c H', H c = none → Gr [] H H' → Num K H' c (mulP ps qs) → Q (.ref c) H'))
theorem atP_inj (h : IsNum ps) {i j : Int} (hi : 0 ≤ i ∧ i < ps.length) (hj : 0 ≤ j ∧ j < ps.length) (e : atP ps i = atP ps j) : i = j := by
  unfold atP at e
  have li : i.toNat < ps.length := by omega
  have lj : j.toNat < ps.length := by omega
  rw [List.getD_eq_getElem?_getD, List.getD_eq_getElem?_getD, List.getElem?_eq_getElem li, List.getElem?_eq_getElem lj] at e
  have e : ps[i.toNat] = ps[j.toNat] := e
  have z := List.pairwise_iff_getElem.mp h.nodup
  rcases Nat.lt_trichotomy i.toNat j.toNat with q | q | q
  · exact absurd e (z _ _ li lj q)
  · omega
  · exact absurd e.symm (z _ _ lj li q)
theorem isNum_mul {qs : List Int} (hp : IsNum ps) (hq : IsNum qs) (hl : ps.length = qs.length) : IsNum (mulP ps qs) := by
  refine .of hq.1 hq.2.1 (by unfold mulP; rw [List.length_map]) ?_ fun x hx => ?_
  · unfold mulP
    refine List.pairwise_map.mpr (List.Pairwise.imp_of_mem (fun {i j} hi hj (hne : i ≠ j) e => hne ?_) hq.nodup)
    have hi := hq.mem.mp hi
    have hj := hq.mem.mp hj
    exact atP_inj hp (by omega) (by omega) e
  · obtain ⟨i, hi, rfl⟩ := List.mem_map.mp hx
    have hi := hq.mem.mp hi
    rw [← hl]
    exact hp.mem.mp (atP_mem (by omega) (by omega))
def sp_Numbering___eq__ (K : PySem.W.Frag) : Sp := fun vs H Q _ => ∃ (a b : Addr) (ps qs : List Int), vs = [.ref a, .ref b] ∧ Num K H a ps ∧ Num K H b qs ∧ Q (.bl (decide (ps = qs))) H
def sp_Numbering___lt__ (K : PySem.W.Frag) : Sp := fun vs H Q _ => ∃ (a b : Addr) (ps qs : List Int), vs = [.ref a, .ref b] ∧ Num K H a ps ∧ Num K H b qs ∧ Q (.bl (HT.lexLt ps qs)) H
def sp_Numbering___len__ (K : PySem.W.Frag) : Sp := fun vs H Q _ => ∃ (a : Addr) (ps : List Int), vs = [.ref a] ∧ Num K H a ps ∧ Q (.int ps.length) H
theorem w_numOp {sp : Sp} {b : Addr} {qs : List Int} (ha : Num K H a ps) (hb : Num K H b qs) (h : sp [.ref a, .ref b] H Q E) : rBinO (NC K) sp E (.ref a) (.ref b) H Q := by
  obtain ⟨dx, fs, h1⟩ := ha.ins
  obtain ⟨dy, gs, h2⟩ := hb.ins
  exact ⟨a, dx, fs, b, dy, gs, rfl, rfl, h1, h2, h⟩
theorem w_numInv {sp : Sp} (ha : Num K H a ps) (h : sp [.ref a] H Q E) : rInvO (NC K) sp E (.ref a) H Q := by
  obtain ⟨dx, fs, h1⟩ := ha.ins
  exact ⟨a, dx, fs, rfl, h1, h⟩
theorem w_mul {b : Addr} {qs : List Int} (ha : Num K H a ps) (hb : Num K H b qs) (hl : ps.length = qs.length) (q : ∀ c H', H c = none → Gr [] H H' → Num K H' c (mulP ps qs) → Q (.ref c) H') : rBinO (NC K) (sp_Numbering___mul__ K) E (.ref a) (.ref b) H Q := w_numOp ha hb ⟨a, b, ps, qs, rfl, ha, hb, .inr ⟨hl, q⟩⟩
theorem w_numEq {b : Addr} {qs : List Int} (ha : Num K H a ps) (hb : Num K H b qs) (q : Q (.bl (decide (ps = qs))) H) : rBinO (NC K) (sp_Numbering___eq__ K) E (.ref a) (.ref b) H Q := w_numOp ha hb ⟨a, b, ps, qs, rfl, ha, hb, q⟩
theorem w_turn {m : Nat} {b : Int} (h1 : 1 ≤ m) (h2 : m ≤ 12) (q : ∀ a H', H a = none → Gr [] H H' → Num K H' a (turnP m b) → Q (.ref a) H') : sp_Numbering_turn K [.ref (NC K), .int m, .int b] H Q E := ⟨m, b, rfl, .inr ⟨by omega, by omega, by rw [Int.toNat_natCast]; exact q⟩⟩
theorem w_plain {m : Nat} (h1 : 1 ≤ m) (h2 : m ≤ 12) (q : ∀ a H', H a = none → Gr [] H H' → Num K H' a (turnP m 0) → Q (.ref a) H') : sp_Numbering_plain K [.ref (NC K), .int m] H Q E := ⟨m, rfl, .inr ⟨by omega, by omega, by rw [Int.toNat_natCast]; exact q⟩⟩
theorem length_turn (m : Nat) (b : Int) : (turnP m b).length = m := by unfold turnP; rw [List.length_map, List.length_range]
theorem turn_zero (m : Nat) : turnP m 0 = rg m := by
  unfold turnP rg
  refine List.map_congr_left fun k hk => ?_
  have := List.mem_range.mp hk
  rw [Int.add_zero]
  exact Int.emod_eq_of_lt (by omega) (by omega)
theorem turn_at {m : Nat} {b k : Int} (h0 : 0 ≤ k) (h : k < m) : atP (turnP m b) k = (k + b) % m := by
  unfold atP turnP
  rw [List.getD_eq_getElem?_getD, List.getElem?_map, List.getElem?_range (by omega)]
  show ((k.toNat : Int) + b) % m = _
  rw [Int.toNat_of_nonneg h0]
theorem mul_turn {m : Nat} (hm : 1 ≤ m) (b c : Int) : mulP (turnP m b) (turnP m c) = turnP m (b + c) := by
  have e : turnP m c = (List.range m).map fun (k : Nat) => ((k : Int) + c) % m := rfl
  unfold mulP
  rw [e, List.map_map]
  unfold turnP
  refine List.map_congr_left fun k hk => ?_
  show atP (turnP m b) (((k : Int) + c) % m) = _
  rw [turn_at (Int.emod_nonneg _ (by omega)) (Int.emod_lt_of_pos _ (by omega)), Int.emod_add_emod]
  congr 1
  omega
theorem w_isiNum {b : Bool} {D : Addr} (hk : PySem.W.kitOne K (.ref (NC K)) (.ref D) = some b) (I : IsiC K (NC K)) (h : Num K H a ps) (q : Q (.bl b) H) : rIsi K [.ref a, .ref D] H Q := by
  obtain ⟨dx, fs, h1⟩ := h.ins
  exact w_isiO I h1 hk q
theorem w_numCal {sp : Sp} {t : TA} {σ : L2.St} {E : XK} (h : t σ H fun vs H2 => (∃ dx fs, H2 a = some (.ins (NC K) dx fs)) ∧ sp (V.ref a :: vs) H2 Q E) : rCalO (NC K) sp E t σ (.ref a) H Q := ⟨a, rfl, h⟩
theorem w_place {k : Int} (h : Num K H a ps) (h0 : 0 ≤ k) (h1 : k < ps.length) (q : Q (.int (atP ps k)) H) : (∃ dx fs, H a = some (.ins (NC K) dx fs)) ∧ sp_Numbering___call__ K [.ref a, .int k] H Q E := ⟨h.ins, a, ps, k, rfl, h, h0, h1, q⟩
theorem w_numLen {ps : List Int} (h : Num K H a ps) (q : Q (.int ps.length) H) : rLenO (NC K) (sp_Numbering___len__ K) [.ref a] H Q := by
  obtain ⟨dx, fs, h1⟩ := h.ins
  have := h.1.2.1
  exact ⟨a, dx, fs, rfl, h1, a, ps, rfl, h, ps.length, rfl, by omega, by omega, q⟩
theorem mul_turnP {m : Nat} {b : Int} (hp : IsNum ps) (hl : ps.length = m) : mulP (turnP m b) ps = ps.map fun p => (p + b) % m := by
  unfold mulP
  refine List.map_congr_left fun p hp' => ?_
  have := hp.mem.mp hp'
  exact turn_at this.1 (by omega)
theorem mul_rg (hp : IsNum ps) (b : Int) (hb : b % ps.length = 0) : mulP (turnP ps.length b) ps = ps := by
  rw [mul_turnP hp rfl]
  refine (List.map_congr_left fun p hp' => ?_).trans (List.map_id ps)
  have h := hp.mem.mp hp'
  show (p + b) % ps.length = p
  rw [Int.add_emod, hb, Int.add_zero, Int.emod_emod]
  exact Int.emod_eq_of_lt h.1 h.2
/-- rings.ring -/
def sp_ring (K : PySem.W.Frag) : Sp := fun vs H Q E => ∃ (a : Addr) (s : Int) (ps : List Int), vs = [.ref a, .int s] ∧ Num K H a ps ∧
  ((¬ (1 ≤ s ∧ (ps.length : Int) % s = 0) ∧ ∀ H', Gr [] H H' → E (.ref (He.ga K "BadSize")) none H') ∨ (1 ≤ s ∧ (ps.length : Int) % s = 0 ∧ ∀ l (bs : List Addr) H', H l = none → Gr [] H H' → SqT K H' l (bs.map V.ref) → bs.length = s.toNat →
    (∀ (i : Nat) b, bs[i]? = some b → Num K H' b (mulP (turnP ps.length (i * (ps.length / s))) ps)) → Q (.ref l) H'))
/-! ### the inverse -/
/-- where k stands -/
def invP (ps : List Int) : List Int := (rg ps.length).map fun k => (ps.idxOf k : Int)
theorem idx_lt (h : IsNum ps) {k : Int} (h0 : 0 ≤ k) (h1 : k < ps.length) : ps.idxOf k < ps.length := List.idxOf_lt_length_of_mem (h.mem.mpr ⟨h0, h1⟩)
theorem idx_at (h : IsNum ps) {k : Int} (h0 : 0 ≤ k) (h1 : k < ps.length) : atP ps (ps.idxOf k : Int) = k := by
  unfold atP
  rw [List.getD_eq_getElem?_getD, Int.toNat_natCast, List.getElem?_eq_getElem (idx_lt h h0 h1)]
  exact List.getElem_idxOf (idx_lt h h0 h1)
theorem length_inv : (invP ps).length = ps.length := by unfold invP; rw [List.length_map, length_rg]
theorem inv_get {k : Int} (h0 : 0 ≤ k) (h1 : k < ps.length) : atP (invP ps) k = (ps.idxOf k : Int) := by
  unfold atP invP
  rw [List.getD_eq_getElem?_getD, List.getElem?_map, rg_get (by omega)]
  show ((ps.idxOf (k.toNat : Int) : Nat) : Int) = _
  rw [Int.toNat_of_nonneg h0]
theorem isNum_inv (h : IsNum ps) : IsNum (invP ps) := by
  refine .of h.1 h.2.1 length_inv ?_ fun x hx => ?_
  · unfold invP
    refine List.pairwise_map.mpr (List.Pairwise.imp_of_mem (fun {i j} hi hj (hne : i ≠ j) e => hne ?_) (nodup_rg _))
    have hi := mem_rg.mp hi
    have hj := mem_rg.mp hj
    have z := idx_at h hi.1 hi.2
    rw [e, idx_at h hj.1 hj.2] at z
    exact z.symm
  · obtain ⟨k, hk, rfl⟩ := List.mem_map.mp hx
    have hk := mem_rg.mp hk
    have := idx_lt h hk.1 hk.2
    omega
/-- two lists of one length, alike at each place -/
theorem ext_at {qs : List Int} (hl : ps.length = qs.length) (h : ∀ k : Int, 0 ≤ k → k < ps.length → atP ps k = atP qs k) : ps = qs := by
  refine List.ext_getElem hl fun i h1 h2 => ?_
  have z := h i (by omega) (by omega)
  unfold atP at z
  rw [List.getD_eq_getElem?_getD, List.getD_eq_getElem?_getD, Int.toNat_natCast, List.getElem?_eq_getElem h1, List.getElem?_eq_getElem h2] at z
  exact z
theorem length_mul {qs : List Int} : (mulP ps qs).length = qs.length := by unfold mulP; rw [List.length_map]
theorem mul_at {qs : List Int} {k : Int} (h0 : 0 ≤ k) (h1 : k < qs.length) : atP (mulP ps qs) k = atP ps (atP qs k) := by
  have hl : k.toNat < qs.length := by omega
  have e : (mulP ps qs).getD k.toNat 0 = atP ps (qs.getD k.toNat 0) := by
    unfold mulP
    rw [List.getD_eq_getElem?_getD, List.getD_eq_getElem?_getD, List.getElem?_map, List.getElem?_eq_getElem hl] <;> rfl
  exact e
theorem rg_at {n : Nat} {k : Int} (h0 : 0 ≤ k) (h1 : k < n) : atP (rg n) k = k := by
  unfold atP
  rw [List.getD_eq_getElem?_getD, rg_get (by omega)]
  show ((k.toNat : Nat) : Int) = k
  exact Int.toNat_of_nonneg h0
theorem atP_lt (h : IsNum ps) {k : Int} (h0 : 0 ≤ k) (h1 : k < ps.length) : 0 ≤ atP ps k ∧ atP ps k < ps.length := h.mem.mp (atP_mem h0 h1)
theorem mul_inv (h : IsNum ps) : mulP ps (invP ps) = rg ps.length := by
  refine ext_at (by rw [length_mul, length_inv, length_rg]) fun k h0 h1 => ?_
  rw [length_mul, length_inv] at h1
  rw [mul_at h0 (by rw [length_inv]; exact h1), inv_get h0 h1, idx_at h h0 h1, rg_at h0 h1]
theorem inv_mul (h : IsNum ps) : mulP (invP ps) ps = rg ps.length := by
  refine ext_at (by rw [length_mul, length_rg]) fun k h0 h1 => ?_
  rw [length_mul] at h1
  have z := atP_lt h h0 h1
  rw [mul_at h0 h1, inv_get z.1 z.2, rg_at h0 h1]
  have y := idx_at h z.1 z.2
  have := idx_lt h z.1 z.2
  exact atP_inj h (by omega) (by omega) y
theorem mul_assoc {qs rs : List Int} (hr : IsNum rs) (hl : rs.length = qs.length) : mulP (mulP ps qs) rs = mulP ps (mulP qs rs) := by
  refine ext_at (by rw [length_mul, length_mul, length_mul]) fun k h0 h1 => ?_
  rw [length_mul] at h1
  have z := atP_lt hr h0 h1
  rw [mul_at h0 h1, mul_at z.1 (by omega), mul_at h0 (by rw [length_mul]; exact h1), mul_at h0 h1]
theorem inv_unique {qs : List Int} (hp : IsNum ps) (hq : IsNum qs) (hl : ps.length = qs.length) (h : mulP ps qs = rg ps.length) : qs = invP ps := by
  refine ext_at (by rw [length_inv, hl]) fun k h0 h1 => ?_
  have z := atP_lt hq h0 h1
  have e : atP (mulP ps qs) k = k := by rw [h]; exact rg_at h0 (by omega)
  rw [mul_at h0 h1] at e
  rw [inv_get h0 (by omega)]
  have y := idx_at hp h0 (by omega)
  have := idx_lt hp h0 (by omega)
  exact atP_inj hp (by omega) (by omega) (e.trans y.symm)
theorem mul_rgL {qs : List Int} (hq : IsNum qs) : mulP (rg qs.length) qs = qs := by
  refine ext_at length_mul fun k h0 h1 => ?_
  rw [length_mul] at h1
  have z := atP_lt hq h0 h1
  rw [mul_at h0 h1, rg_at z.1 z.2]
theorem inv_mulP {qs : List Int} (hp : IsNum ps) (hq : IsNum qs) (hl : ps.length = qs.length) : invP (mulP ps qs) = mulP (invP qs) (invP ps) := by
  have hip := isNum_inv hp
  have hiq := isNum_inv hq
  have h1 : (invP ps).length = ps.length := length_inv
  have h2 : (invP qs).length = qs.length := length_inv
  refine (inv_unique (isNum_mul hp hq hl) (isNum_mul hiq hip (by omega)) (by rw [length_mul, length_mul]; omega) ?_).symm
  rw [mul_assoc (isNum_mul hiq hip (by omega)) (by rw [length_mul]; omega), ← mul_assoc (ps := qs) hip (by omega), mul_inv hq]
  have e : qs.length = (invP ps).length := by omega
  rw [e, mul_rgL hip, mul_inv hp, length_mul]
  congr 1
def sp_Numbering___invert__ (K : PySem.W.Frag) : Sp := fun vs H Q _ => ∃ (a : Addr) (ps : List Int), vs = [.ref a] ∧ Num K H a ps ∧ ∀ c H', H c = none → Gr [] H H' → Num K H' c (invP ps) → Q (.ref c) H'
theorem w_inv (ha : Num K H a ps) (q : ∀ c H', H c = none → Gr [] H H' → Num K H' c (invP ps) → Q (.ref c) H') : rInvO (NC K) (sp_Numbering___invert__ K) E (.ref a) H Q := w_numInv ha ⟨a, ps, rfl, ha, q⟩
end
end LW

namespace LW
open PySem PySem.Spec PyProof.Rows L2

/-! ### powers of a numbering, plain -/
/-- the place reached from k by n steps -/
def itP (ps : List Int) : Nat → Int → Int
  | 0, k => k
  | n + 1, k => atP ps (itP ps n k)
section
variable {ps qs : List Int} {n m : Nat} {k : Int}
theorem itP_add : ∀ (n m : Nat), itP ps (n + m) k = itP ps n (itP ps m k)
  | 0, m => by rw [Nat.zero_add] <;> rfl
  | n + 1, m => by
    rw [Nat.succ_add]
    show atP ps (itP ps (n + m) k) = atP ps (itP ps n (itP ps m k))
    rw [itP_add n m]
theorem itP_lt (h : IsNum ps) (h0 : 0 ≤ k) (h1 : k < ps.length) : ∀ n : Nat, 0 ≤ itP ps n k ∧ itP ps n k < ps.length
  | 0 => ⟨h0, h1⟩
  | n + 1 => atP_lt h (itP_lt h h0 h1 n).1 (itP_lt h h0 h1 n).2
theorem itP_inj (h : IsNum ps) {j : Int} (h0 : 0 ≤ k) (h1 : k < ps.length) (j0 : 0 ≤ j) (j1 : j < ps.length) : ∀ n : Nat, itP ps n k = itP ps n j → k = j
  | 0, e => e
  | n + 1, e => itP_inj h h0 h1 j0 j1 n (atP_inj h (itP_lt h h0 h1 n) (itP_lt h j0 j1 n) e)
/-- k is reached again after at most as many steps as there are cells -/
theorem itP_back (h : IsNum ps) (h0 : 0 ≤ k) (h1 : k < ps.length) : ∃ L : Nat, 1 ≤ L ∧ L ≤ ps.length ∧ itP ps L k = k := by
  have hnd : ¬ ((List.range (ps.length + 1)).map fun i => itP ps i k).Nodup := fun hn => by
    obtain ⟨r, hr⟩ := nodup_part (m := rg ps.length) hn fun x hx => by
      obtain ⟨i, _, rfl⟩ := List.mem_map.mp hx
      exact mem_rg.mpr (itP_lt h h0 h1 i)
    have e := hr.length_eq
    rw [length_rg, List.length_append, List.length_map, List.length_range] at e
    omega
  have hex : ∃ i j : Nat, i < j ∧ j < ps.length + 1 ∧ itP ps i k = itP ps j k := by
    refine Classical.byContradiction fun hne => hnd ?_
    refine List.pairwise_map.mpr (List.Pairwise.imp_of_mem (fun {i j} hi hj (hlt : i < j) e => hne ⟨i, j, hlt, List.mem_range.mp hj, e⟩) List.pairwise_lt_range)
  obtain ⟨i, j, hij, hj, e⟩ := hex
  refine ⟨j - i, by omega, by omega, ?_⟩
  have e2 : j = i + (j - i) := by omega
  rw [e2, itP_add] at e
  have z := itP_lt h h0 h1 (j - i)
  exact (itP_inj h h0 h1 z.1 z.2 i e).symm
theorem itP_mul {L : Nat} (e : itP ps L k = k) : ∀ c : Nat, itP ps (L * c) k = k
  | 0 => rfl
  | c + 1 => by rw [Nat.mul_succ, itP_add, e]; exact itP_mul e c
theorem itP_mod {L : Nat} (e : itP ps L k = k) (n : Nat) : itP ps (n % L) k = itP ps n k := by
  have z : n = n % L + L * (n / L) := (Nat.mod_add_div n L).symm
  have y : itP ps (n % L + L * (n / L)) k = itP ps (n % L) k := by rw [itP_add, itP_mul e]
  rw [← z] at y
  exact y.symm
/-- every cycle's length divides this -/
abbrev bigL : Nat := 27720
theorem dvd_big {L : Nat} (h1 : 1 ≤ L) (h2 : L ≤ 12) : L ∣ bigL := by
  have z : ∀ L : Nat, L < 13 → 1 ≤ L → bigL % L = 0 := by decide +kernel
  exact Nat.dvd_of_mod_eq_zero (z L (by omega) h1)
theorem itP_big (h : IsNum ps) (h0 : 0 ≤ k) (h1 : k < ps.length) : itP ps bigL k = k := by
  obtain ⟨L, l1, l2, e⟩ := itP_back h h0 h1
  obtain ⟨c, hc⟩ := dvd_big l1 (Nat.le_trans l2 h.2.1)
  rw [hc]
  exact itP_mul e c
/-- the power -/
def powP (ps : List Int) (e : Int) : List Int := (rg ps.length).map fun k => itP ps (e % bigL).toNat k
theorem length_pow {e : Int} : (powP ps e).length = ps.length := by unfold powP; rw [List.length_map, length_rg]
theorem pow_at {e : Int} (h0 : 0 ≤ k) (h1 : k < ps.length) : atP (powP ps e) k = itP ps (e % bigL).toNat k := by
  unfold atP powP
  rw [List.getD_eq_getElem?_getD, List.getElem?_map, rg_get (by omega)]
  show itP ps _ ((k.toNat : Nat) : Int) = _
  rw [Int.toNat_of_nonneg h0]
/-- any cycle of k will do -/
theorem itP_cyc {L : Nat} {e : Int} (h : IsNum ps) (h0 : 0 ≤ k) (h1 : k < ps.length) (l1 : 1 ≤ L) (l2 : L ≤ 12) (he : itP ps L k = k) : itP ps (e % L).toNat k = itP ps (e % bigL).toNat k := by
  rw [← itP_mod he (e % bigL).toNat]
  obtain ⟨c, hc⟩ := dvd_big l1 l2
  congr 1
  have z : (e % (bigL : Int)) % (L : Int) = e % L := Int.emod_emod_of_dvd _ ⟨(c : Int), by rw [hc, Int.natCast_mul]⟩
  have y0 := Int.emod_nonneg e (show (bigL : Int) ≠ 0 by decide)
  have y1 := Int.emod_nonneg e (show (L : Int) ≠ 0 by omega)
  have y2 : (((e % (bigL : Int)).toNat % L : Nat) : Int) = ((e % (L : Int)).toNat : Int) := by
    rw [Int.natCast_emod, Int.toNat_of_nonneg y0, Int.toNat_of_nonneg y1, z]
  exact (Int.ofNat_inj.mp y2).symm
theorem pow_step {a b : Int} (h : IsNum ps) (h0 : 0 ≤ k) (h1 : k < ps.length) : itP ps ((a + b) % bigL).toNat k = itP ps (a % bigL).toNat (itP ps (b % bigL).toNat k) := by
  have hb := itP_big h h0 h1
  rw [← itP_add, ← itP_mod hb ((a % bigL).toNat + (b % bigL).toNat)]
  congr 1
  have ya := Int.emod_nonneg a (show (bigL : Int) ≠ 0 by decide)
  have yb := Int.emod_nonneg b (show (bigL : Int) ≠ 0 by decide)
  have yc := Int.emod_nonneg (a + b) (show (bigL : Int) ≠ 0 by decide)
  have z := Int.add_emod a b bigL
  have y2 : ((((a % bigL).toNat + (b % bigL).toNat) % bigL : Nat) : Int) = (((a + b) % bigL).toNat : Int) := by
    rw [Int.natCast_emod, Int.natCast_add, Int.toNat_of_nonneg ya, Int.toNat_of_nonneg yb, Int.toNat_of_nonneg yc, z]
  exact (Int.ofNat_inj.mp y2).symm
theorem isNum_pow {e : Int} (h : IsNum ps) : IsNum (powP ps e) := by
  refine .of h.1 h.2.1 length_pow ?_ fun x hx => ?_
  · unfold powP
    refine List.pairwise_map.mpr (List.Pairwise.imp_of_mem (fun {i j} hi hj (hne : i ≠ j) e => hne ?_) (nodup_rg _))
    have hi := mem_rg.mp hi
    have hj := mem_rg.mp hj
    exact itP_inj h hi.1 hi.2 hj.1 hj.2 _ e
  · obtain ⟨i, hi, rfl⟩ := List.mem_map.mp hx
    have hi := mem_rg.mp hi
    exact itP_lt h hi.1 hi.2 _
theorem pow_add {a b : Int} (h : IsNum ps) : mulP (powP ps a) (powP ps b) = powP ps (a + b) := by
  refine ext_at (by rw [length_mul, length_pow, length_pow]) fun k h0 h1 => ?_
  rw [length_mul, length_pow] at h1
  have z := atP_lt (isNum_pow (e := b) h) h0 (by rw [length_pow]; exact h1)
  rw [length_pow] at z
  rw [mul_at h0 (by rw [length_pow]; exact h1), pow_at z.1 z.2, pow_at h0 h1, pow_at h0 h1]
  exact (pow_step h h0 h1).symm
theorem pow_zero : powP ps 0 = rg ps.length := by
  refine ext_at (by rw [length_pow, length_rg]) fun k h0 h1 => ?_
  rw [length_pow] at h1
  rw [pow_at h0 h1, rg_at h0 h1]
  rfl
theorem pow_one : powP ps 1 = ps := by
  refine ext_at length_pow fun k h0 h1 => ?_
  rw [length_pow] at h1
  rw [pow_at h0 h1]
  rfl
theorem pow_neg {a : Int} (h : IsNum ps) : invP (powP ps a) = powP ps (-a) := by
  refine (inv_unique (isNum_pow h) (isNum_pow h) (by rw [length_pow, length_pow]) ?_).symm
  rw [pow_add h, Int.add_right_neg, pow_zero, length_pow]
theorem pow_m1 (h : IsNum ps) : invP ps = powP ps (-1) := by
  have z := pow_neg (a := 1) h
  rw [pow_one] at z
  exact z
theorem itP_pow {a : Int} (h : IsNum ps) (h0 : 0 ≤ k) (h1 : k < ps.length) : ∀ n : Nat, itP (powP ps a) n k = itP ps ((a * n) % bigL).toNat k
  | 0 => by
    rw [show a * ((0 : Nat) : Int) = 0 by simp]
    rfl
  | n + 1 => by
    show atP (powP ps a) (itP (powP ps a) n k) = _
    have z := itP_lt h h0 h1 ((a * n) % bigL).toNat
    rw [itP_pow h h0 h1 n, pow_at z.1 z.2, ← pow_step h h0 h1]
    congr 3
    rw [Int.natCast_add, Int.mul_add, Int.add_comm] <;> simp
theorem pow_pow {a b : Int} (h : IsNum ps) : powP (powP ps a) b = powP ps (a * b) := by
  refine ext_at (by rw [length_pow, length_pow, length_pow]) fun k h0 h1 => ?_
  rw [length_pow, length_pow] at h1
  have hb := itP_big h h0 h1
  rw [pow_at h0 (by rw [length_pow]; exact h1), pow_at h0 h1, itP_pow h h0 h1]
  congr 2
  have yb := Int.emod_nonneg b (show (bigL : Int) ≠ 0 by decide)
  rw [Int.toNat_of_nonneg yb, Int.mul_emod, Int.emod_emod, ← Int.mul_emod]
theorem pow_inv {e : Int} (h : IsNum ps) : powP (invP ps) e = powP ps (-e) := by
  rw [pow_m1 h, pow_pow h]
  congr 1
  omega
end
/-! ### in the heap -/
section
variable {K : PySem.W.Frag} {H : Hp} {Q : VK} {E : XK} {a : Addr} {ps : List Int}
def sp_Numbering_power (K : PySem.W.Frag) : Sp := fun vs H Q _ => ∃ (a : Addr) (e : Int) (ps : List Int), vs = [.ref a, .int e] ∧ Num K H a ps ∧ ∀ c H', H c = none → Gr [] H H' → Num K H' c (powP ps e) → Q (.ref c) H'
def sp_Numbering___pow__ (K : PySem.W.Frag) : Sp := fun vs H Q _ => ∃ (a : Addr) (e : Int) (ps : List Int), vs = [.ref a, .int e] ∧ Num K H a ps ∧ ∀ c H', H c = none → Gr [] H H' → Num K H' c (powP ps e) → Q (.ref c) H'
end
end LW

namespace LW
open PySem PySem.Spec PyProof.Rows L2

/-! # The pure layer: data in slots, no heap in sight -/
abbrev ASet := Addr → Prop
def nop : ASet := fun _ => False
/-- the heap grows; what may change stands in T -/
structure GrP (T : ASet) (H H' : Hp) : Prop where
  keep : ∀ a o, H a = some o → (pers o = true ∨ ¬ T a) → H' a = some o
  live : ∀ a, H' a = none → H a = none
section
variable {T T' U : ASet} {H H' H1 H2 : Hp} {a l p : Addr} {o : HO}
theorem GrP.refl (T : ASet) (H : Hp) : GrP T H H := ⟨fun _ _ h _ => h, fun _ h => h⟩
theorem GrP.mono (g : GrP U H H') (h : ∀ a, U a → T a) : GrP T H H' := ⟨fun a o e q => g.keep a o e (q.imp id fun n u => n (h a u)), g.live⟩
theorem GrP.trans (g : GrP T H H1) (g' : GrP T' H1 H2) (h : ∀ a, T' a → T a ∨ H a = none) : GrP T H H2 :=
  ⟨fun a o e q => g'.keep a o (g.keep a o e q) (q.imp id fun n t => (h a t).elim n fun z => by rw [e] at z; cases z), fun a e => g.live a (g'.live a e)⟩
theorem GrP.trans0 (g : GrP T H H1) (g' : GrP nop H1 H2) : GrP T H H2 := g.trans g' fun _ h => h.elim
theorem GrP.new (h : H p = none) : GrP nop H (upd H p o) := ⟨fun a u e _ => by rw [upd_ne (ne_of_none e h)]; exact e, fun a e => by
  by_cases z : a = p
  · rw [z, upd_same] at e; cases e
  · rw [upd_ne z] at e; exact e⟩
theorem GrP.wr (h : T p) (h2 : ∀ u, H p = some u → pers u = false) : GrP T H (upd H p o) := ⟨fun a u e q => by
  by_cases z : a = p
  · subst z
    rcases q with q | q
    · rw [h2 u e] at q; cases q
    · exact absurd h q
  · rw [upd_ne z]; exact e, fun a e => by
  by_cases z : a = p
  · rw [z, upd_same] at e; cases e
  · rw [upd_ne z] at e; exact e⟩
theorem Gr.p0 (g : Gr [] H H') : GrP nop H H' := ⟨fun a o e _ => g.get0 e, fun a e => by
  cases q : H a with
  | none => rfl
  | some u => rw [g.get0 q] at e; cases e⟩
theorem GrP.g0 (g : GrP nop H H') : Gr [] H H' := ⟨fun a o e _ => g.keep a o e (.inr fun h => h), fun a h => by cases h⟩
theorem Gr.p1 (g : Gr [l] H H') (e : ∃ o, H' l = some o) : GrP (fun a => a = l) H H' := ⟨fun a o e q => by
  rcases q with q | q
  · exact g.get e q
  · exact g.keep a o e (by simpa using q), fun a e' => by
  obtain ⟨o, e⟩ := e
  cases q : H a with
  | none => rfl
  | some u =>
    by_cases z : a = l
    · rw [z, e] at e'; cases e'
    · rw [g.keep a u q (by simpa using z)] at e'; cases e'⟩
end

/-! ### data at hand, no list of S in it -/
/-- a tuple whose object has no dict -/
def TupN (K : PySem.W.Frag) (H : Hp) (a : Addr) (xs : List V) : Prop := TupX H a xs
theorem TupN.sqt {K : PySem.W.Frag} {H : Hp} {a : Addr} {xs : List V} (h : TupN K H a xs) : SqT K H a xs := TupX.sqt h
theorem TupN.ext {K : PySem.W.Frag} {T : ASet} {H H' : Hp} {a : Addr} {xs : List V} (h : TupN K H a xs) (g : GrP T H H') : TupN K H' a xs := by
  obtain ⟨o, h, d⟩ := h
  exact ⟨o, g.keep _ _ h (.inl rfl), d⟩
mutual
inductive RepA (K : PySem.W.Frag) (H : Hp) (S : ASet) : D → V → Prop
  | non : RepA K H S .non .non
  | bl (b : Bool) : RepA K H S (.bl b) (.bl b)
  | int (i : Int) : RepA K H S (.int i) (.int i)
  | str (s : Str) : RepA K H S (.str s) (.str s)
  | adr (a : Addr) : RepA K H S (.adr a) (.ref a)
  | tup {a : Addr} {xs : List V} {ds : List D} : TupN K H a xs → RepsA K H S ds xs → RepA K H S (.tup ds) (.ref a)
  | lst {a : Addr} {xs : List V} {ds : List D} : H a = some (.lst xs) → ¬ S a → RepsA K H S ds xs → RepA K H S (.lst ds) (.ref a)
  | lsf {a : Addr} {o : Obj} {xs : List V} {ds : List D} : H a = some (.frz o (.lst xs)) → RepsA K H S ds xs → RepA K H S (.lst ds) (.ref a)
  | ins {a C dx : Addr} {ns : List Str} {xs : List V} {ds : List D} : H a = some (.ins C dx (ns.zip xs)) → imm ns = true → ns.length = ds.length → RepsA K H S ds xs → RepA K H S (.ins C ns ds) (.ref a)
inductive RepsA (K : PySem.W.Frag) (H : Hp) (S : ASet) : List D → List V → Prop
  | nil : RepsA K H S [] []
  | cons {d : D} {ds : List D} {v : V} {vs : List V} : RepA K H S d v → RepsA K H S ds vs → RepsA K H S (d :: ds) (v :: vs)
end
theorem RepsA.len {K : PySem.W.Frag} {H : Hp} {S : ASet} : ∀ {ds : List D} {vs : List V}, RepsA K H S ds vs → vs.length = ds.length
  | _, _, .nil => rfl
  | _, _, .cons _ r => congrArg Nat.succ (RepsA.len r)
theorem pers_ins {C dx : Addr} {ns : List Str} {xs : List V} (i : imm ns = true) (l : ns.length = xs.length) : pers (.ins C dx (ns.zip xs)) = true := by
  show imm ((ns.zip xs).map (·.1)) = true
  rw [List.map_fst_zip (by omega)]
  exact i
mutual
theorem RepA.ext {K : PySem.W.Frag} {T S S' : ASet} {H H' : Hp} (g : GrP T H H') (hT : ∀ a, T a → S a ∨ H a = none) (hS : ∀ a, S' a → S a ∨ H a = none) : ∀ {d : D} {v : V}, RepA K H S d v → RepA K H' S' d v
  | _, _, .non => .non
  | _, _, .bl b => .bl b
  | _, _, .int b => .int b
  | _, _, .str b => .str b
  | _, _, .adr b => .adr b
  | _, _, .tup h r => .tup (h.ext g) (RepsA.ext g hT hS r)
  | _, _, .lst h n r => .lst (g.keep _ _ h (.inr fun t => (hT _ t).elim n fun z => by rw [h] at z; cases z)) (fun s => (hS _ s).elim n fun z => by rw [h] at z; cases z) (RepsA.ext g hT hS r)
  | _, _, .lsf h r => .lsf (g.keep _ _ h (.inl rfl)) (RepsA.ext g hT hS r)
  | _, _, .ins h i l r => .ins (g.keep _ _ h (.inl (pers_ins i (by have := RepsA.len r; omega)))) i l (RepsA.ext g hT hS r)
theorem RepsA.ext {K : PySem.W.Frag} {T S S' : ASet} {H H' : Hp} (g : GrP T H H') (hT : ∀ a, T a → S a ∨ H a = none) (hS : ∀ a, S' a → S a ∨ H a = none) : ∀ {ds : List D} {vs : List V}, RepsA K H S ds vs → RepsA K H' S' ds vs
  | _, _, .nil => .nil
  | _, _, .cons h r => .cons (RepA.ext g hT hS h) (RepsA.ext g hT hS r)
end
theorem RepA.less {K : PySem.W.Frag} {S S' : ASet} {H : Hp} {d : D} {v : V} (h : RepA K H S d v) (hS : ∀ a, S' a → S a) : RepA K H S' d v := h.ext (GrP.refl nop H) (fun _ z => z.elim) fun a s => .inl (hS a s)
theorem RepsA.less {K : PySem.W.Frag} {S S' : ASet} {H : Hp} {ds : List D} {vs : List V} (h : RepsA K H S ds vs) (hS : ∀ a, S' a → S a) : RepsA K H S' ds vs := h.ext (GrP.refl nop H) (fun _ z => z.elim) fun a s => .inl (hS a s)
mutual
theorem RepA.any {K : PySem.W.Frag} {S S' : ASet} {H : Hp} : ∀ {d : D} {v : V}, RepA K H S d v → d.pure = true → RepA K H S' d v
  | _, _, .non, _ => .non
  | _, _, .bl b, _ => .bl b
  | _, _, .int b, _ => .int b
  | _, _, .str b, _ => .str b
  | _, _, .adr b, _ => .adr b
  | _, _, .tup h r, q => .tup h (RepsA.any r q)
  | _, _, .lst h n r, q => nomatch (show false = true from q)
  | _, _, .lsf h r, q => nomatch (show false = true from q)
  | _, _, .ins h i l r, q => .ins h i l (RepsA.any r q)
theorem RepsA.any {K : PySem.W.Frag} {S S' : ASet} {H : Hp} : ∀ {ds : List D} {vs : List V}, RepsA K H S ds vs → D.pures ds = true → RepsA K H S' ds vs
  | _, _, .nil, _ => .nil
  | _, _, .cons h r, q => by
    have q2 := Bool.and_eq_true_iff.mp q
    exact .cons (RepA.any h q2.1) (RepsA.any r q2.2)
end
mutual
theorem RepA.rep {K : PySem.W.Frag} {S : ASet} {H : Hp} : ∀ {d : D} {v : V}, RepA K H S d v → Rep K H d v
  | _, _, .non => .non
  | _, _, .bl b => .bl b
  | _, _, .int b => .int b
  | _, _, .str b => .str b
  | _, _, .adr b => .adr b
  | _, _, .tup h r => .tup h.sqt (RepsA.rep r)
  | _, _, .lst h _ r => .lst (sql_of h) (RepsA.rep r)
  | _, _, .lsf h r => .lst (sql_frz h) (RepsA.rep r)
  | _, _, .ins h i l r => .ins h i l (RepsA.rep r)
theorem RepsA.rep {K : PySem.W.Frag} {S : ASet} {H : Hp} : ∀ {ds : List D} {vs : List V}, RepsA K H S ds vs → Reps K H ds vs
  | _, _, .nil => .nil
  | _, _, .cons h r => .cons (RepA.rep h) (RepsA.rep r)
end
theorem RepsA.get {K : PySem.W.Frag} {S : ASet} {H : Hp} : ∀ {ds : List D} {vs : List V} {i : Nat} {d : D}, RepsA K H S ds vs → ds[i]? = some d → ∃ v, vs[i]? = some v ∧ RepA K H S d v
  | _, _, _, _, .nil, e => by simp at e
  | _, _, 0, _, .cons h _, e => by
    simp at e
    subst e
    exact ⟨_, rfl, h⟩
  | _, _, i + 1, _, .cons _ r, e => by
    obtain ⟨v, h1, h2⟩ := RepsA.get (i := i) r (by simpa using e)
    exact ⟨v, by simpa using h1, h2⟩
theorem RepsA.getV {K : PySem.W.Frag} {S : ASet} {H : Hp} : ∀ {ds : List D} {vs : List V} {i : Nat} {v : V}, RepsA K H S ds vs → vs[i]? = some v → ∃ d, ds[i]? = some d ∧ RepA K H S d v
  | _, _, _, _, .nil, e => by simp at e
  | _, _, 0, _, .cons h _, e => by
    simp at e
    subst e
    exact ⟨_, rfl, h⟩
  | _, _, i + 1, _, .cons _ r, e => by
    obtain ⟨v, h1, h2⟩ := RepsA.getV (i := i) r (by simpa using e)
    exact ⟨v, by simpa using h1, h2⟩
theorem RepsA.append {K : PySem.W.Frag} {S : ASet} {H : Hp} {es : List D} {ws : List V} (h' : RepsA K H S es ws) : ∀ {ds : List D} {vs : List V}, RepsA K H S ds vs → RepsA K H S (ds ++ es) (vs ++ ws)
  | _, _, .nil => h'
  | _, _, .cons h r => .cons h (RepsA.append h' r)
theorem RepsA.set {K : PySem.W.Frag} {S : ASet} {H : Hp} {d : D} {v : V} (h' : RepA K H S d v) : ∀ {ds : List D} {vs : List V} (i : Nat), RepsA K H S ds vs → RepsA K H S (ds.set i d) (vs.set i v)
  | _, _, _, .nil => .nil
  | _, _, 0, .cons _ r => .cons h' r
  | _, _, i + 1, .cons h r => .cons h (RepsA.set h' i r)
theorem RepsA.take {K : PySem.W.Frag} {S : ASet} {H : Hp} : ∀ {ds : List D} {vs : List V} (i : Nat), RepsA K H S ds vs → RepsA K H S (ds.take i) (vs.take i)
  | _, _, 0, _ => .nil
  | _, _, _ + 1, .nil => .nil
  | _, _, i + 1, .cons h r => .cons h (RepsA.take i r)
theorem RepsA.drop {K : PySem.W.Frag} {S : ASet} {H : Hp} : ∀ {ds : List D} {vs : List V} (i : Nat), RepsA K H S ds vs → RepsA K H S (ds.drop i) (vs.drop i)
  | _, _, 0, h => h
  | _, _, _ + 1, .nil => .nil
  | _, _, i + 1, .cons _ r => RepsA.drop i r
theorem RepsA.eraseIdx {K : PySem.W.Frag} {S : ASet} {H : Hp} : ∀ {ds : List D} {vs : List V} (i : Nat), RepsA K H S ds vs → RepsA K H S (ds.eraseIdx i) (vs.eraseIdx i)
  | _, _, _, .nil => .nil
  | _, _, 0, .cons _ r => r
  | _, _, i + 1, .cons h r => .cons h (RepsA.eraseIdx i r)
theorem RepsA.reverse {K : PySem.W.Frag} {S : ASet} {H : Hp} : ∀ {ds : List D} {vs : List V}, RepsA K H S ds vs → RepsA K H S ds.reverse vs.reverse
  | _, _, .nil => .nil
  | _, _, .cons h r => by
    rw [List.reverse_cons, List.reverse_cons]
    exact RepsA.append (.cons h .nil) (RepsA.reverse r)
theorem repsA_ints {K : PySem.W.Frag} {H : Hp} {S : ASet} : ∀ ns : List Int, RepsA K H S (dInts ns) (ns.map V.int)
  | [] => .nil
  | n :: ns => .cons (.int n) (repsA_ints ns)
theorem RepsA.ints {K : PySem.W.Frag} {H : Hp} {S : ASet} : ∀ {ns : List Int} {vs : List V}, RepsA K H S (dInts ns) vs → vs = ns.map V.int
  | [], _, .nil => rfl
  | _ :: _, _, .cons (.int _) r => congrArg _ (RepsA.ints r)

/-- an exception: its class, its one field -/
structure Exn where
  C : Addr
  f : Option (Str × D)
def XDict (K : PySem.W.Frag) (H : Hp) (x : Exn) (dd : Option Addr) : Prop := match x.f with
  | none => dd = none
  | some (f, d) => ∃ a v, dd = some a ∧ H a = some (.xd [(f, v)]) ∧ RepA K H (fun _ => True) d v
def XRep (K : PySem.W.Frag) (H : Hp) (x : Exn) (cls : Value) (dd : Option Addr) : Prop := cls = .ref x.C ∧ XDict K H x dd
theorem XDict.ext {K : PySem.W.Frag} {T : ASet} {H H' : Hp} {x : Exn} {dd : Option Addr} (h : XDict K H x dd) (g : GrP T H H') : XDict K H' x dd := by
  unfold XDict at h ⊢
  split at h
  · exact h
  · obtain ⟨a, v, e, h1, h2⟩ := h
    exact ⟨a, v, e, g.keep _ _ h1 (.inl rfl), h2.ext g (fun _ _ => .inl trivial) fun _ _ => .inl trivial⟩
/-! ### slots -/
inductive Sl
  | no | va (d : D) | ow (l : Addr) (ds : List D) | ex (a : Addr) (dd : Option Addr) (x : Exn)
def owns : List Sl → List Addr
  | [] => []
  | .ow l _ :: r => l :: owns r
  | .no :: r => owns r
  | .va _ :: r => owns r
  | .ex _ _ _ :: r => owns r
inductive SlsR (K : PySem.W.Frag) (H : Hp) (S : ASet) : List Sl → L2.St → Prop
  | nil : SlsR K H S [] []
  | no {ρ : List Sl} {σ : L2.St} {o : Option V} : SlsR K H S ρ σ → SlsR K H S (.no :: ρ) (o :: σ)
  | va {ρ : List Sl} {σ : L2.St} {d : D} {v : V} : RepA K H S d v → SlsR K H S ρ σ → SlsR K H S (.va d :: ρ) (some v :: σ)
  | ex {ρ : List Sl} {σ : L2.St} {a : Addr} {dd : Option Addr} {x : Exn} : XDict K H x dd → SlsR K H S ρ σ → SlsR K H S (.ex a dd x :: ρ) (some (.ref a) :: σ)
  | ow {ρ : List Sl} {σ : L2.St} {l : Addr} {ds : List D} {xs : List V} : H l = some (.lst xs) → RepsA K H S ds xs → SlsR K H S ρ σ → SlsR K H S (.ow l ds :: ρ) (some (.ref l) :: σ)
section
variable {K : PySem.W.Frag} {H H' : Hp} {S S' T : ASet} {ρ : List Sl} {σ : L2.St} {d : D} {v : V} {l : Addr} {ds : List D} {xs : List V}
theorem SlsR.len : ∀ {ρ : List Sl} {σ : L2.St}, SlsR K H S ρ σ → ρ.length = σ.length
  | _, _, .nil => rfl
  | _, _, .no r => congrArg Nat.succ r.len
  | _, _, .va _ r => congrArg Nat.succ r.len
  | _, _, .ex _ r => congrArg Nat.succ r.len
  | _, _, .ow _ _ r => congrArg Nat.succ r.len
theorem SlsR.get_va : ∀ {ρ : List Sl} {σ : L2.St} {i : Nat}, SlsR K H S ρ σ → ρ[i]? = some (.va d) → ∃ v, σ[i]? = some (some v) ∧ RepA K H S d v
  | _, _, _, .nil, e => by simp at e
  | _, _, 0, .no r, e => by simp at e
  | _, _, 0, .va h r, e => by
    simp at e
    subst e
    exact ⟨_, rfl, h⟩
  | _, _, 0, .ow h _ r, e => by simp at e
  | _, _, i + 1, .no r, e => SlsR.get_va (i := i) r (by simpa using e)
  | _, _, i + 1, .va _ r, e => SlsR.get_va (i := i) r (by simpa using e)
  | _, _, 0, .ex _ r, e => by simp at e
  | _, _, i + 1, .ex _ r, e => SlsR.get_va (i := i) r (by simpa using e)
  | _, _, i + 1, .ow _ _ r, e => SlsR.get_va (i := i) r (by simpa using e)
theorem SlsR.get_ow : ∀ {ρ : List Sl} {σ : L2.St} {i : Nat}, SlsR K H S ρ σ → ρ[i]? = some (.ow l ds) → σ[i]? = some (some (.ref l)) ∧ ∃ xs, H l = some (.lst xs) ∧ RepsA K H S ds xs
  | _, _, _, .nil, e => by simp at e
  | _, _, 0, .no r, e => by simp at e
  | _, _, 0, .va h r, e => by simp at e
  | _, _, 0, .ow h h2 r, e => by
    simp at e
    obtain ⟨e1, e2⟩ := e
    subst e1 e2
    exact ⟨rfl, _, h, h2⟩
  | _, _, i + 1, .no r, e => SlsR.get_ow (i := i) r (by simpa using e)
  | _, _, i + 1, .va _ r, e => SlsR.get_ow (i := i) r (by simpa using e)
  | _, _, 0, .ex _ r, e => by simp at e
  | _, _, i + 1, .ex _ r, e => SlsR.get_ow (i := i) r (by simpa using e)
  | _, _, i + 1, .ow _ _ r, e => SlsR.get_ow (i := i) r (by simpa using e)
theorem SlsR.set_va (h : RepA K H S d v) : ∀ {ρ : List Sl} {σ : L2.St} (i : Nat), SlsR K H S ρ σ → SlsR K H S (ρ.set i (.va d)) (σ.set i (some v))
  | _, _, _, .nil => .nil
  | _, _, 0, .no r => .va h r
  | _, _, 0, .va _ r => .va h r
  | _, _, 0, .ow _ _ r => .va h r
  | _, _, i + 1, .no r => .no (r.set_va h i)
  | _, _, i + 1, .va q r => .va q (r.set_va h i)
  | _, _, 0, .ex _ r => .va h r
  | _, _, i + 1, .ex q r => .ex q (r.set_va h i)
  | _, _, i + 1, .ow q q2 r => .ow q q2 (r.set_va h i)
theorem SlsR.set_no (o : Option V) : ∀ {ρ : List Sl} {σ : L2.St} (i : Nat), SlsR K H S ρ σ → SlsR K H S (ρ.set i .no) (σ.set i o)
  | _, _, _, .nil => .nil
  | _, _, 0, .no r => .no r
  | _, _, 0, .va _ r => .no r
  | _, _, 0, .ow _ _ r => .no r
  | _, _, i + 1, .no r => .no (r.set_no o i)
  | _, _, i + 1, .va q r => .va q (r.set_no o i)
  | _, _, 0, .ex _ r => .no r
  | _, _, i + 1, .ex q r => .ex q (r.set_no o i)
  | _, _, i + 1, .ow q q2 r => .ow q q2 (r.set_no o i)
theorem SlsR.set_ex {x : Exn} {dd : Option Addr} {a : Addr} (h : XDict K H x dd) : ∀ {ρ : List Sl} {σ : L2.St} (i : Nat), SlsR K H S ρ σ → SlsR K H S (ρ.set i (.ex a dd x)) (σ.set i (some (.ref a)))
  | _, _, _, .nil => .nil
  | _, _, 0, .no r => .ex h r
  | _, _, 0, .va _ r => .ex h r
  | _, _, 0, .ex _ r => .ex h r
  | _, _, 0, .ow _ _ r => .ex h r
  | _, _, i + 1, .no r => .no (r.set_ex h i)
  | _, _, i + 1, .va q r => .va q (r.set_ex h i)
  | _, _, i + 1, .ex q r => .ex q (r.set_ex h i)
  | _, _, i + 1, .ow q q2 r => .ow q q2 (r.set_ex h i)
theorem SlsR.get_ex {x : Exn} {dd : Option Addr} {a : Addr} : ∀ {ρ : List Sl} {σ : L2.St} {i : Nat}, SlsR K H S ρ σ → ρ[i]? = some (.ex a dd x) → σ[i]? = some (some (.ref a)) ∧ XDict K H x dd
  | _, _, _, .nil, e => by simp at e
  | _, _, 0, .no r, e => by simp at e
  | _, _, 0, .va h r, e => by simp at e
  | _, _, 0, .ow h _ r, e => by simp at e
  | _, _, 0, .ex h r, e => by
    simp at e
    obtain ⟨e1, e2, e3⟩ := e
    subst e1 e2 e3
    exact ⟨rfl, h⟩
  | _, _, i + 1, .no r, e => SlsR.get_ex (i := i) r (by simpa using e)
  | _, _, i + 1, .va _ r, e => SlsR.get_ex (i := i) r (by simpa using e)
  | _, _, i + 1, .ow _ _ r, e => SlsR.get_ex (i := i) r (by simpa using e)
  | _, _, i + 1, .ex _ r, e => SlsR.get_ex (i := i) r (by simpa using e)
theorem SlsR.set_ow (h : H l = some (.lst xs)) (h2 : RepsA K H S ds xs) : ∀ {ρ : List Sl} {σ : L2.St} (i : Nat), SlsR K H S ρ σ → SlsR K H S (ρ.set i (.ow l ds)) (σ.set i (some (.ref l)))
  | _, _, _, .nil => .nil
  | _, _, 0, .no r => .ow h h2 r
  | _, _, 0, .va _ r => .ow h h2 r
  | _, _, 0, .ow _ _ r => .ow h h2 r
  | _, _, i + 1, .no r => .no (r.set_ow h h2 i)
  | _, _, i + 1, .va q r => .va q (r.set_ow h h2 i)
  | _, _, 0, .ex _ r => .ow h h2 r
  | _, _, i + 1, .ex q r => .ex q (r.set_ow h h2 i)
  | _, _, i + 1, .ow q q2 r => .ow q q2 (r.set_ow h h2 i)
/-- the slots behind a growth -/
theorem SlsR.ext (g : GrP T H H') (hT : ∀ a, T a → S a ∨ H a = none) (hS : ∀ a, S' a → S a ∨ H a = none) : ∀ {ρ : List Sl} {σ : L2.St}, (∀ l, l ∈ owns ρ → ¬ T l) → SlsR K H S ρ σ → SlsR K H' S' ρ σ
  | _, _, _, .nil => .nil
  | _, _, ho, .no r => .no (r.ext g hT hS ho)
  | _, _, ho, .va q r => .va (q.ext g hT hS) (r.ext g hT hS ho)
  | _, _, ho, .ex q r => .ex (q.ext g) (r.ext g hT hS ho)
  | _, _, ho, .ow q q2 r => .ow (g.keep _ _ q (.inr (ho _ List.mem_cons_self))) (q2.ext g hT hS) (r.ext g hT hS fun l hl => ho l (List.mem_cons_of_mem _ hl))
theorem owns_mem : ∀ {ρ : List Sl} {i : Nat} {ds : List D}, ρ[i]? = some (Sl.ow l ds) → l ∈ owns ρ
  | [], _, _, e => by simp at e
  | .ow _ _ :: _, 0, _, e => by
    simp at e
    rw [← e.1]
    exact List.mem_cons_self
  | .no :: _, 0, _, e => by simp at e
  | .va _ :: _, 0, _, e => by simp at e
  | .ow _ _ :: r, i + 1, _, e => List.mem_cons_of_mem _ (owns_mem (ρ := r) (i := i) (by simpa using e))
  | .no :: r, i + 1, _, e => owns_mem (ρ := r) (i := i) (by simpa using e)
  | .va _ :: r, i + 1, _, e => owns_mem (ρ := r) (i := i) (by simpa using e)
  | .ex _ _ _ :: _, 0, _, e => by simp at e
  | .ex _ _ _ :: r, i + 1, _, e => owns_mem (ρ := r) (i := i) (by simpa using e)
/-- the list of one slot is written -/
theorem SlsR.wr (h2 : RepsA K H S ds xs) (hS : S l) {i : Nat} {ds0 : List D} (r : SlsR K H S ρ σ) (e : ρ[i]? = some (.ow l ds0)) (n : (owns ρ).Nodup) : SlsR K (upd H l (.lst xs)) S (ρ.set i (.ow l ds)) σ := by
  obtain ⟨-, xs0, e0, -⟩ := r.get_ow e
  have g : GrP (fun a => a = l) H (upd H l (.lst xs)) := GrP.wr rfl fun u hu => by rw [e0] at hu; cases hu; rfl
  have hT : ∀ a, a = l → S a ∨ H a = none := fun a z => by rw [z]; exact .inl hS
  have hS' : ∀ a, S a → S a ∨ H a = none := fun a z => .inl z
  clear e0
  induction r generalizing i with
  | nil => simp at e
  | no r ih =>
    cases i with
    | zero => simp at e
    | succ i => exact .no (ih (by simpa using e) n)
  | va q r ih =>
    cases i with
    | zero => simp at e
    | succ i => exact .va (q.ext g hT hS') (ih (by simpa using e) n)
  | ex q r ih =>
    cases i with
    | zero => simp at e
    | succ i => exact .ex (q.ext g) (ih (by simpa using e) n)
  | ow q q2 r ih =>
    obtain ⟨n1, n2⟩ := List.nodup_cons.mp n
    cases i with
    | zero =>
      simp at e
      obtain ⟨e1, e2⟩ := e
      subst e1
      exact .ow upd_same (h2.ext g hT hS') (r.ext g hT hS' fun b hb z => n1 (z ▸ hb))
    | succ i =>
      have m : l ∈ owns _ := owns_mem (ds := ds0) (i := i) (by simpa using e)
      refine .ow ?_ (q2.ext g hT hS') (ih (by simpa using e) n2)
      rw [upd_ne (fun z => n1 (by rw [z]; exact m))]
      exact q
theorem owns_at : ∀ {ρ : List Sl} {l : Addr}, l ∈ owns ρ → ∃ (i : Nat) (ds : List D), ρ[i]? = some (Sl.ow l ds)
  | [], _, h => by cases h
  | .ow k ds :: r, l, h => by
    rcases List.mem_cons.mp h with z | z
    · exact ⟨0, ds, by rw [z]; rfl⟩
    · obtain ⟨i, ds, e⟩ := owns_at (ρ := r) z
      exact ⟨i + 1, ds, by simpa using e⟩
  | .no :: r, l, h => by
    obtain ⟨i, ds, e⟩ := owns_at (ρ := r) h
    exact ⟨i + 1, ds, by simpa using e⟩
  | .va _ :: r, l, h => by
    obtain ⟨i, ds, e⟩ := owns_at (ρ := r) h
    exact ⟨i + 1, ds, by simpa using e⟩
  | .ex _ _ _ :: r, l, h => by
    obtain ⟨i, ds, e⟩ := owns_at (ρ := r) h
    exact ⟨i + 1, ds, by simpa using e⟩
/-- no list of one's own: a slot holds none -/
def Sl.plain : Sl → Bool
  | .ow _ _ => false
  | _ => true
theorem owns_set_sub {s : Sl} (hs : s.plain = true) : ∀ {ρ : List Sl} (i : Nat), (owns (ρ.set i s)).Sublist (owns ρ)
  | [], _ => List.Sublist.refl _
  | .ow k ds :: r, 0 => by
    cases s with
    | ow a b => cases hs
    | no => show (owns r).Sublist (k :: owns r); exact List.sublist_cons_self _ _
    | va d => show (owns r).Sublist (k :: owns r); exact List.sublist_cons_self _ _
    | ex a dd x => show (owns r).Sublist (k :: owns r); exact List.sublist_cons_self _ _
  | .no :: r, 0 => by
    cases s with
    | ow a b => cases hs
    | no => show (owns r).Sublist (owns r); exact List.Sublist.refl _
    | va d => show (owns r).Sublist (owns r); exact List.Sublist.refl _
    | ex a dd x => show (owns r).Sublist (owns r); exact List.Sublist.refl _
  | .va _ :: r, 0 => by
    cases s with
    | ow a b => cases hs
    | no => show (owns r).Sublist (owns r); exact List.Sublist.refl _
    | va d => show (owns r).Sublist (owns r); exact List.Sublist.refl _
    | ex a dd x => show (owns r).Sublist (owns r); exact List.Sublist.refl _
  | .ex _ _ _ :: r, 0 => by
    cases s with
    | ow a b => cases hs
    | no => show (owns r).Sublist (owns r); exact List.Sublist.refl _
    | va d => show (owns r).Sublist (owns r); exact List.Sublist.refl _
    | ex a dd x => show (owns r).Sublist (owns r); exact List.Sublist.refl _
  | .ow k ds :: r, i + 1 => (owns_set_sub hs (ρ := r) i).cons₂ k
  | .no :: r, i + 1 => owns_set_sub hs (ρ := r) i
  | .va _ :: r, i + 1 => owns_set_sub hs (ρ := r) i
  | .ex _ _ _ :: r, i + 1 => owns_set_sub hs (ρ := r) i
theorem owns_set_same {ds' : List D} : ∀ {ρ : List Sl} {i : Nat} {ds : List D}, ρ[i]? = some (Sl.ow l ds) → owns (ρ.set i (.ow l ds')) = owns ρ
  | [], _, _, e => by simp at e
  | .ow k ds :: r, 0, _, e => by
    simp at e
    rw [e.1] <;> rfl
  | .no :: r, 0, _, e => by simp at e
  | .va _ :: r, 0, _, e => by simp at e
  | .ow k ds :: r, i + 1, _, e => congrArg (k :: ·) (owns_set_same (ρ := r) (i := i) (by simpa using e))
  | .no :: r, i + 1, _, e => owns_set_same (ρ := r) (i := i) (by simpa using e)
  | .va _ :: r, i + 1, _, e => owns_set_same (ρ := r) (i := i) (by simpa using e)
  | .ex _ _ _ :: r, 0, _, e => by simp at e
  | .ex _ _ _ :: r, i + 1, _, e => owns_set_same (ρ := r) (i := i) (by simpa using e)
theorem owns_set_mem {ds : List D} : ∀ {ρ : List Sl} {i : Nat} {k : Addr}, k ∈ owns (ρ.set i (.ow l ds)) → k = l ∨ k ∈ owns ρ
  | [], _, _, h => by cases h
  | .ow a _ :: r, 0, k, h => (List.mem_cons.mp h).imp id fun z => List.mem_cons_of_mem _ z
  | .no :: r, 0, k, h => List.mem_cons.mp h
  | .va _ :: r, 0, k, h => List.mem_cons.mp h
  | .ex _ _ _ :: r, 0, k, h => List.mem_cons.mp h
  | .ow a _ :: r, i + 1, k, h => by
    rcases List.mem_cons.mp h with z | z
    · exact .inr (z ▸ List.mem_cons_self)
    · exact (owns_set_mem (ρ := r) (i := i) z).imp id fun z => List.mem_cons_of_mem _ z
  | .no :: r, i + 1, k, h => owns_set_mem (ρ := r) (i := i) h
  | .va _ :: r, i + 1, k, h => owns_set_mem (ρ := r) (i := i) h
  | .ex _ _ _ :: r, i + 1, k, h => owns_set_mem (ρ := r) (i := i) h
theorem owns_set_nodup {ds : List D} : ∀ {ρ : List Sl} {i : Nat}, (owns ρ).Nodup → l ∉ owns ρ → (owns (ρ.set i (.ow l ds))).Nodup
  | [], _, n, _ => n
  | .ow a _ :: r, 0, n, m => List.nodup_cons.mpr ⟨fun h => m (List.mem_cons_of_mem _ h), (List.nodup_cons.mp n).2⟩
  | .no :: r, 0, n, m => List.nodup_cons.mpr ⟨m, n⟩
  | .va _ :: r, 0, n, m => List.nodup_cons.mpr ⟨m, n⟩
  | .ex _ _ _ :: r, 0, n, m => List.nodup_cons.mpr ⟨m, n⟩
  | .ow a _ :: r, i + 1, n, m => by
    refine List.nodup_cons.mpr ⟨fun h => ?_, owns_set_nodup (ρ := r) (i := i) (List.nodup_cons.mp n).2 fun h => m (List.mem_cons_of_mem _ h)⟩
    rcases owns_set_mem (ρ := r) (i := i) h with z | z
    · exact m (z ▸ List.mem_cons_self)
    · exact (List.nodup_cons.mp n).1 z
  | .no :: r, i + 1, n, m => owns_set_nodup (ρ := r) (i := i) n m
  | .va _ :: r, i + 1, n, m => owns_set_nodup (ρ := r) (i := i) n m
  | .ex _ _ _ :: r, i + 1, n, m => owns_set_nodup (ρ := r) (i := i) n m
end

/-! ### the world besides the slots: the tape, a hall .. -/
structure Wrl where
  Ω : Type
  inv : Ω → ASet → Hp → Prop
  st : ∀ {ω : Ω} {T U : ASet} {H H' : Hp}, inv ω T H → GrP U H H' → (∀ a, U a → ¬ T a) → inv ω T H'
  lv : ∀ {ω : Ω} {T : ASet} {H : Hp} {a : Addr}, inv ω T H → T a → ∃ o, H a = some o ∧ pers o = false
/-- no world -/
@[reducible] def W0 : Wrl where
  Ω := Unit
  inv _ T _ := ∀ a, ¬ T a
  st h _ _ := h
  lv h t := absurd t (h _)
structure Frm where
  H : Hp
  S : ASet
  T : ASet
  hid : List (D × V)
def Frm.add (F : Frm) (h : List (D × V)) : Frm := { F with hid := h ++ F.hid }
def Spr (F : Frm) (T : ASet) (ρ : List Sl) : ASet := fun a => F.S a ∨ T a ∨ a ∈ owns ρ
/-- the heap H0 of the entry, what may change T, the slots; F.hid: values kept aside -/
structure Rel (K : PySem.W.Frag) (W : Wrl) (F : Frm) (T : ASet) (ω : W.Ω) (ρ : List Sl) (σ : L2.St) (H : Hp) : Prop where
  gr : GrP F.T F.H H
  inv : W.inv ω T H
  tn : ∀ a, T a → F.T a ∨ F.H a = none
  own : ∀ l, l ∈ owns ρ → F.H l = none ∧ ¬ T l ∧ ¬ F.S l
  nd : (owns ρ).Nodup
  s0 : ∀ a, F.S a → H a ≠ none ∧ ¬ T a
  hd : ∀ p, p ∈ F.hid → RepA K H (Spr F T ρ) p.1 p.2
  sl : SlsR K H (Spr F T ρ) ρ σ
structure Ext (T : ASet) (H : Hp) (T' : ASet) (H' : Hp) : Prop where
  gr : GrP T H H'
  tn : ∀ a, T' a → T a ∨ H a = none
section
variable {K : PySem.W.Frag} {W : Wrl} {F : Frm} {T T' T2 U : ASet} {ω ω' : W.Ω} {ρ ρ' : List Sl} {σ σ' : L2.St} {H H' H2 : Hp} {d : D} {v : V} {l : Addr} {ds : List D} {xs : List V} {i : Nat}
theorem Ext.refl : Ext T H T H := ⟨GrP.refl T H, fun _ h => .inl h⟩
theorem Ext.trans (e : Ext T H T' H') (e2 : Ext T' H' T2 H2) : Ext T H T2 H2 := ⟨e.gr.trans e2.gr e.tn, fun a h => (e2.tn a h).elim (e.tn a) fun z => .inr (e.gr.live a z)⟩
theorem Ext.of0 (g : GrP nop H H') : Ext T H T H' := ⟨g.mono fun _ h => h.elim, fun _ h => .inl h⟩
theorem Rel.spl (R : Rel K W F T ω ρ σ H) : ∀ a, Spr F T ρ a → H a ≠ none := fun a h e => by
  rcases h with h | h | h
  · exact (R.s0 a h).1 e
  · obtain ⟨o, q, _⟩ := W.lv R.inv h
    rw [q] at e; cases e
  · obtain ⟨i, ds, q⟩ := owns_at h
    obtain ⟨_, xs, q, _⟩ := R.sl.get_ow q
    rw [q] at e; cases e
theorem Rel.fresh (R : Rel K W F T ω ρ σ H) (h : H l = none) : ¬ Spr F T ρ l := fun s => R.spl l s h
theorem Spr.ext (e : Ext T H T' H') : ∀ a, Spr F T' ρ a → Spr F T ρ a ∨ H a = none := fun a s => by
  rcases s with s | s | s
  · exact .inl (.inl s)
  · exact (e.tn a s).imp (fun z => .inr (.inl z)) id
  · exact .inl (.inr (.inr s))
theorem Rel.ext_rep (R : Rel K W F T ω ρ σ H) (e : Ext T H T' H') (h : RepA K H (Spr F T ρ) d v) : RepA K H' (Spr F T' ρ) d v := h.ext e.gr (fun a t => .inl (.inr (.inl t))) (Spr.ext e)
theorem Rel.ext_reps (R : Rel K W F T ω ρ σ H) (e : Ext T H T' H') (h : RepsA K H (Spr F T ρ) ds xs) : RepsA K H' (Spr F T' ρ) ds xs := h.ext e.gr (fun a t => .inl (.inr (.inl t))) (Spr.ext e)
theorem Rel.world (R : Rel K W F T ω ρ σ H) (e : Ext T H T' H') (i : W.inv ω' T' H') : Rel K W F T' ω' ρ σ H' where
  gr := R.gr.trans e.gr R.tn
  inv := i
  tn := fun a h => (e.tn a h).elim (R.tn a) fun z => .inr (R.gr.live a z)
  own := fun l h => ⟨(R.own l h).1, fun t => (e.tn l t).elim (R.own l h).2.1 fun z => R.spl l (.inr (.inr h)) z, (R.own l h).2.2⟩
  nd := R.nd
  s0 := fun a s => ⟨fun z => (R.s0 a s).1 (e.gr.live a z), fun t => (e.tn a t).elim (R.s0 a s).2 (R.s0 a s).1⟩
  hd := fun p hp => R.ext_rep e (R.hd p hp)
  sl := R.sl.ext e.gr (fun a t => .inl (.inr (.inl t))) (Spr.ext e) fun l h => (R.own l h).2.1
theorem Rel.grow (R : Rel K W F T ω ρ σ H) (g : GrP nop H H') : Rel K W F T ω ρ σ H' := R.world (Ext.of0 g) (W.st R.inv g fun _ h => h.elim)
theorem Spr.less (hs : (owns ρ').Sublist (owns ρ)) : ∀ a, Spr F T ρ' a → Spr F T ρ a := fun a s => by
  rcases s with s | s | s
  · exact .inl s
  · exact .inr (.inl s)
  · exact .inr (.inr (hs.subset s))
/-- fewer own lists -/
theorem Rel.less (R : Rel K W F T ω ρ σ H) (hs : (owns ρ').Sublist (owns ρ)) (s : SlsR K H (Spr F T ρ') ρ' σ') : Rel K W F T ω ρ' σ' H :=
  ⟨R.gr, R.inv, R.tn, fun l h => R.own l (hs.subset h), R.nd.sublist hs, R.s0, fun p hp => (R.hd p hp).less (Spr.less hs), s⟩
theorem SlsR.less {S S' : ASet} (h : SlsR K H S ρ σ) (hS : ∀ a, S' a → S a) : SlsR K H S' ρ σ := h.ext (GrP.refl nop H) (fun _ z => z.elim) (fun a s => .inl (hS a s)) fun _ _ z => z
theorem Rel.set_va (R : Rel K W F T ω ρ σ H) (h : RepA K H (Spr F T ρ) d v) (i : Nat) : Rel K W F T ω (ρ.set i (.va d)) (σ.set i (some v)) H :=
  R.less (owns_set_sub rfl i) ((R.sl.set_va h i).less (Spr.less (owns_set_sub rfl i)))
theorem Rel.set_no (R : Rel K W F T ω ρ σ H) (o : Option V) (i : Nat) : Rel K W F T ω (ρ.set i .no) (σ.set i o) H :=
  R.less (owns_set_sub rfl i) ((R.sl.set_no o i).less (Spr.less (owns_set_sub rfl i)))
theorem Rel.set_ex (R : Rel K W F T ω ρ σ H) {x : Exn} {dd : Option Addr} {a : Addr} (h : XDict K H x dd) (i : Nat) : Rel K W F T ω (ρ.set i (.ex a dd x)) (σ.set i (some (.ref a))) H :=
  R.less (owns_set_sub rfl i) ((R.sl.set_ex h i).less (Spr.less (owns_set_sub rfl i)))
/-- values kept aside, forgotten, found -/
theorem Rel.drop {h : List (D × V)} (R : Rel K W (F.add h) T ω ρ σ H) : Rel K W F T ω ρ σ H :=
  ⟨R.gr, R.inv, R.tn, R.own, R.nd, R.s0, fun p hp => R.hd p (List.mem_append_right _ hp), R.sl⟩
theorem Rel.put {h : List (D × V)} (R : Rel K W F T ω ρ σ H) (hh : ∀ p, p ∈ h → RepA K H (Spr F T ρ) p.1 p.2) : Rel K W (F.add h) T ω ρ σ H :=
  ⟨R.gr, R.inv, R.tn, R.own, R.nd, R.s0, fun p hp => (List.mem_append.mp hp).elim (hh p) (R.hd p), R.sl⟩
theorem Rel.kept {h : List (D × V)} (R : Rel K W (F.add h) T ω ρ σ H) {p : D × V} (hp : p ∈ h) : RepA K H (Spr F T ρ) p.1 p.2 := R.hd p (List.mem_append_left _ hp)
/-- a new list comes to a slot as its own; R0: ahead of it -/
theorem Rel.set_ow {T0 : ASet} {ω0 : W.Ω} {H0 : Hp} (R0 : Rel K W F T0 ω0 ρ σ H0) (R : Rel K W F T ω ρ σ H) (e : Ext T0 H0 T H) (h0 : H0 l = none) (hs : ¬ Spr F T ρ l) (h : H l = some (.lst xs)) (hr : RepsA K H (fun a => Spr F T ρ a ∨ a = l) ds xs) (i : Nat) : Rel K W F T ω (ρ.set i (.ow l ds)) (σ.set i (some (.ref l))) H := by
  have sub : ∀ a, Spr F T (ρ.set i (.ow l ds)) a → Spr F T ρ a ∨ a = l := fun a s => by
    rcases s with s | s | s
    · exact .inl (.inl s)
    · exact .inl (.inr (.inl s))
    · exact (owns_set_mem s).elim .inr fun z => .inl (.inr (.inr z))
  have ee : ∀ a, (Spr F T ρ a ∨ a = l) → Spr F T0 ρ a ∨ H0 a = none := fun a z => z.elim (Spr.ext e a) fun z => by rw [z]; exact .inr h0
  have sl' : SlsR K H (fun a => Spr F T ρ a ∨ a = l) ρ σ := R0.sl.ext e.gr (fun a t => .inl (.inr (.inl t))) ee fun l h => (R0.own l h).2.1
  refine ⟨R.gr, R.inv, R.tn, fun k hk => ?_, owns_set_nodup R.nd fun z => hs (.inr (.inr z)), R.s0, fun p hp => ?_, (sl'.set_ow h hr i).less sub⟩
  · rcases owns_set_mem hk with z | z
    · rw [z]
      exact ⟨R0.gr.live l h0, fun t => hs (.inr (.inl t)), fun t => hs (.inl t)⟩
    · exact R.own k z
  · exact ((R0.hd p hp).ext e.gr (fun a t => .inl (.inr (.inl t))) ee).less sub
/-- the own list of slot i is written -/
theorem Rel.wr (R : Rel K W F T ω ρ σ H) {ds0 : List D} (e : ρ[i]? = some (.ow l ds0)) (hr : RepsA K H (Spr F T ρ) ds xs) : Rel K W F T ω (ρ.set i (.ow l ds)) σ (upd H l (.lst xs)) := by
  obtain ⟨-, xs0, e0, -⟩ := R.sl.get_ow e
  have m := owns_mem e
  have g : GrP (fun a => a = l) H (upd H l (.lst xs)) := GrP.wr rfl fun u hu => by rw [e0] at hu; cases hu; rfl
  have es : owns (ρ.set i (.ow l ds)) = owns ρ := owns_set_same e
  have eS : Spr F T (ρ.set i (.ow l ds)) = Spr F T ρ := by unfold Spr; rw [es]
  refine ⟨R.gr.trans g fun a z => ?_, W.st R.inv g fun a z => ?_, R.tn, fun k hk => R.own k (es ▸ hk), by rw [es]; exact R.nd, fun a s => ⟨fun z => (R.s0 a s).1 (g.live a z), (R.s0 a s).2⟩, fun p hp => ?_, ?_⟩
  · rw [z]; exact .inr (R.own l m).1
  · rw [z]; exact (R.own l m).2.1
  · rw [eS]
    exact (R.hd p hp).ext g (fun a z => by rw [z]; exact .inl (.inr (.inr m))) fun a z => .inl z
  · rw [eS]
    exact R.sl.wr hr (.inr (.inr m)) e R.nd
/-- a list of S, held by nobody here, is written -/
theorem Rel.wrS (R : Rel K W F T ω ρ σ H) {o : HO} (hl : F.S l) (h0 : F.H l = none) (hm : ∀ u, H l = some u → pers u = false) : Rel K W F T ω ρ σ (upd H l o) := by
  have g : GrP (fun a => a = l) H (upd H l o) := GrP.wr rfl hm
  refine ⟨R.gr.trans g fun a z => ?_, W.st R.inv g fun a z => ?_, R.tn, R.own, R.nd, fun a s => ⟨fun z => (R.s0 a s).1 (g.live a z), (R.s0 a s).2⟩, fun p hp => ?_, ?_⟩
  · rw [z]; exact .inr h0
  · rw [z]; exact (R.s0 l hl).2
  · exact (R.hd p hp).ext g (fun a z => by rw [z]; exact .inl (.inl hl)) fun a z => .inl z
  · exact R.sl.ext g (fun a z => by rw [z]; exact .inl (.inl hl)) (fun a z => .inl z) fun k hk z => (R.own k hk).2.2 (z ▸ hl)
/-- the own list of slot i is from now on as any other -/
def frz (ρ : List Sl) (i : Nat) : List Sl := match ρ[i]? with
  | some (.ow _ ds) => ρ.set i (.va (.lst ds))
  | _ => ρ
theorem Rel.frz (R : Rel K W F T ω ρ σ H) (i : Nat) : Rel K W F T ω (frz ρ i) σ H := by
  unfold LW.frz
  split
  · rename_i l ds e
    obtain ⟨hv, xs, h1, r⟩ := R.sl.get_ow e
    have m := owns_mem e
    have key : ∀ {ρ : List Sl} {σ : L2.St} {i : Nat} {S : ASet}, SlsR K H S ρ σ → ρ[i]? = some (.ow l ds) → ¬ Spr F T (ρ.set i (.va (.lst ds))) l → True := fun _ _ _ => trivial
    have hσ : σ.set i (some (.ref l)) = σ := by
      refine List.ext_getElem? fun j => ?_
      rw [List.getElem?_set]
      split
      · rename_i z
        subst z
        rw [hv]
        split
        · rfl
        · rename_i z
          rw [List.getElem?_eq_none (by omega)] at hv
          cases hv
      · rfl
    have sub := owns_set_sub (s := .va (.lst ds)) rfl (ρ := ρ) i
    have nl : l ∉ owns (ρ.set i (.va (.lst ds))) := own_out e R.nd
    have nS : ¬ Spr F T (ρ.set i (.va (.lst ds))) l := fun z => by
      rcases z with z | z | z
      · exact (R.own l m).2.2 z
      · exact (R.own l m).2.1 z
      · exact nl z
    have s1 : SlsR K H (Spr F T (ρ.set i (.va (.lst ds)))) ρ σ := R.sl.less (Spr.less sub)
    have s2 := s1.set_va (d := .lst ds) (v := .ref l) (.lst h1 nS (r.less (Spr.less sub))) i
    rw [hσ] at s2
    exact R.less sub s2
  · exact R
where
  own_out : ∀ {ρ : List Sl} {i : Nat} {l : Addr} {ds : List D}, ρ[i]? = some (Sl.ow l ds) → (owns ρ).Nodup → l ∉ owns (ρ.set i (.va (.lst ds)))
  | [], _, _, _, e, _ => by simp at e
  | .ow k es :: r, 0, _, _, e, n => by
    simp at e
    rw [← e.1]
    exact (List.nodup_cons.mp n).1
  | .no :: r, 0, _, _, e, n => by simp at e
  | .va _ :: r, 0, _, _, e, n => by simp at e
  | .ex _ _ _ :: r, 0, _, _, e, n => by simp at e
  | .ow k es :: r, i + 1, l, ds, e, n => fun h => by
    have e' : r[i]? = some (Sl.ow l ds) := by simpa using e
    rcases List.mem_cons.mp h with z | z
    · exact (List.nodup_cons.mp n).1 (z ▸ owns_mem e')
    · exact own_out e' (List.nodup_cons.mp n).2 z
  | .no :: r, i + 1, l, ds, e, n => own_out (ρ := r) (i := i) (by simpa using e) n
  | .va _ :: r, i + 1, l, ds, e, n => own_out (ρ := r) (i := i) (by simpa using e) n
  | .ex _ _ _ :: r, i + 1, l, ds, e, n => own_out (ρ := r) (i := i) (by simpa using e) n
end

/-! ### how a value may stand: apart (A), a slot's own list (O), a tuple just made (C), a new list (F) -/
inductive Md
  | A | O | C | F
def RO (K : PySem.W.Frag) (H : Hp) (S : ASet) (os : List Addr) (d : D) (v : V) : Prop := RepA K H S d v ∨ ∃ l xs ds, v = .ref l ∧ d = .lst ds ∧ l ∈ os ∧ H l = some (.lst xs) ∧ RepsA K H S ds xs
def RC (K : PySem.W.Frag) (H : Hp) (S : ASet) (os : List Addr) (d : D) (v : V) : Prop := RO K H S os d v ∨ ∃ a xs ds, v = .ref a ∧ d = .tup ds ∧ SqT K H a xs ∧ RepsA K H S ds xs
def RF (K : PySem.W.Frag) (H H' : Hp) (S : ASet) (d : D) (v : V) : Prop := ∃ l xs ds, v = .ref l ∧ d = .lst ds ∧ H l = none ∧ ¬ S l ∧ H' l = some (.lst xs) ∧ RepsA K H' (fun a => S a ∨ a = l) ds xs
def RR (m : Md) (K : PySem.W.Frag) (H H' : Hp) (S : ASet) (os : List Addr) (d : D) (v : V) : Prop := match m with
  | .A => RepA K H' S d v
  | .O => RO K H' S os d v
  | .C => RC K H' S os d v
  | .F => RF K H H' S d v
section
variable {K : PySem.W.Frag} {W : Wrl} {F : Frm} {T T' T2 U S S' : ASet} {ω ω' : W.Ω} {ρ ρ' : List Sl} {σ σ' : L2.St} {H H' H2 : Hp} {d : D} {v : V} {l : Addr} {ds : List D} {xs : List V} {i : Nat} {os : List Addr}
theorem Rel.ext_RO (R : Rel K W F T ω ρ σ H) (e : Ext T H T' H') (h : RO K H (Spr F T ρ) (owns ρ) d v) : RO K H' (Spr F T' ρ) (owns ρ) d v := by
  rcases h with h | ⟨l, xs, ds, rfl, rfl, m, h, hr⟩
  · exact .inl (R.ext_rep e h)
  · exact .inr ⟨l, xs, ds, rfl, rfl, m, e.gr.keep _ _ h (.inr (R.own l m).2.1), R.ext_reps e hr⟩
theorem sqt_ext {a : Addr} (h : SqT K H a xs) (g : GrP T H H') : SqT K H' a xs := by
  rcases h with (h | ⟨o, h⟩) | h
  · exact .inl (.inl (g.keep _ _ h (.inl rfl)))
  · exact .inl (.inr ⟨o, g.keep _ _ h (.inl rfl)⟩)
  · exact .inr h
theorem Rel.ext_RC (R : Rel K W F T ω ρ σ H) (e : Ext T H T' H') (h : RC K H (Spr F T ρ) (owns ρ) d v) : RC K H' (Spr F T' ρ) (owns ρ) d v := by
  rcases h with h | ⟨a, xs, ds, rfl, rfl, h, hr⟩
  · exact .inl (R.ext_RO e h)
  · exact .inr ⟨a, xs, ds, rfl, rfl, sqt_ext h e.gr, R.ext_reps e hr⟩
theorem RF.a (h : RF K H H' S d v) : RepA K H' S d v := by
  obtain ⟨l, xs, ds, rfl, rfl, _, n, h, r⟩ := h
  exact .lst h n (r.less fun _ z => .inl z)
theorem RO.lst (h : RO K H S os (.lst ds) v) : ∃ l xs, v = .ref l ∧ SqL K H l xs ∧ RepsA K H S ds xs ∧ (H l = some (.lst xs) ∨ ∃ o, H l = some (.frz o (.lst xs))) := by
  rcases h with h | ⟨l, xs, ds', rfl, e, m, h, r⟩
  · cases h with
    | lst h n r => exact ⟨_, _, rfl, sql_of h, r, .inl h⟩
    | lsf h r => exact ⟨_, _, rfl, sql_frz h, r, .inr ⟨_, h⟩⟩
  · cases e
    exact ⟨l, xs, rfl, sql_of h, r, .inl h⟩
theorem RO.tup (h : RO K H S os (.tup ds) v) : ∃ l xs, v = .ref l ∧ TupN K H l xs ∧ RepsA K H S ds xs := by
  rcases h with h | ⟨l, xs, ds', rfl, e, m, h, r⟩
  · cases h with
    | tup h r => exact ⟨_, _, rfl, h, r⟩
  · cases e
theorem RC.tup (h : RC K H S os (.tup ds) v) : ∃ l xs, v = .ref l ∧ SqT K H l xs ∧ RepsA K H S ds xs := by
  rcases h with h | ⟨a, xs, ds', rfl, e, h, r⟩
  · obtain ⟨l, xs, e, h, r⟩ := h.tup
    exact ⟨l, xs, e, h.sqt, r⟩
  · cases e
    exact ⟨a, xs, rfl, h, r⟩
theorem RC.lst (h : RC K H S os (.lst ds) v) : ∃ l xs, v = .ref l ∧ SqL K H l xs ∧ RepsA K H S ds xs ∧ (H l = some (.lst xs) ∨ ∃ o, H l = some (.frz o (.lst xs))) := by
  rcases h with h | ⟨a, xs, ds', rfl, e, h, r⟩
  · exact h.lst
  · cases e
theorem RC.int {n : Int} (h : RC K H S os (.int n) v) : v = .int n := by
  rcases h with (h | ⟨l, xs, ds', rfl, e, m, h, r⟩) | ⟨a, xs, ds', rfl, e, h, r⟩
  · cases h; rfl
  · cases e
  · cases e
theorem RC.bl {n : Bool} (h : RC K H S os (.bl n) v) : v = .bl n := by
  rcases h with (h | ⟨l, xs, ds', rfl, e, m, h, r⟩) | ⟨a, xs, ds', rfl, e, h, r⟩
  · cases h; rfl
  · cases e
  · cases e
theorem RC.str {n : Str} (h : RC K H S os (.str n) v) : v = .str n := by
  rcases h with (h | ⟨l, xs, ds', rfl, e, m, h, r⟩) | ⟨a, xs, ds', rfl, e, h, r⟩
  · cases h; rfl
  · cases e
  · cases e
theorem RC.non (h : RC K H S os .non v) : v = .non := by
  rcases h with (h | ⟨l, xs, ds', rfl, e, m, h, r⟩) | ⟨a, xs, ds', rfl, e, h, r⟩
  · cases h; rfl
  · cases e
  · cases e
theorem RC.rep (h : RC K H S os d v) : Rep K H d v := by
  rcases h with (h | ⟨l, xs, ds', rfl, rfl, m, h, r⟩) | ⟨a, xs, ds', rfl, rfl, h, r⟩
  · exact h.rep
  · exact .lst (sql_of h) r.rep
  · exact .tup h r.rep
theorem RC.isNon (h : RC K H S os d v) : v = .non ↔ d = .non := by
  rcases h with (h | ⟨l, xs, ds', rfl, rfl, m, h, r⟩) | ⟨a, xs, ds', rfl, rfl, h, r⟩
  · cases h <;> simp
  · simp
  · simp
theorem RC.ins {C : Addr} {ns : List Str} (h : RC K H S os (.ins C ns ds) v) : ∃ a dx xs, v = .ref a ∧ H a = some (.ins C dx (ns.zip xs)) ∧ ns.length = ds.length ∧ RepsA K H S ds xs := by
  rcases h with (h | ⟨l, xs, ds', rfl, e, m, h, r⟩) | ⟨a, xs, ds', rfl, e, h, r⟩
  · cases h with
    | ins h i l r => exact ⟨_, _, _, rfl, h, l, r⟩
  · cases e
  · cases e
end

/-! ### the judgements -/
abbrev QT (W : Wrl) := W.Ω → List Sl → (W.Ω → D → Prop) → (W.Ω → Exn → Prop) → Prop
abbrev QTT (W : Wrl) := W.Ω → List Sl → (W.Ω → Bool → Prop) → (W.Ω → Exn → Prop) → Prop
abbrev QTA (W : Wrl) := W.Ω → List Sl → (W.Ω → List D → Prop) → (W.Ω → Exn → Prop) → Prop
/-- what is told of an exception at these slots -/
def XOk (K : PySem.W.Frag) (W : Wrl) (Wo : WX) (F : Frm) (ρ : List Sl) (σ : L2.St) (Ep : W.Ω → Exn → Prop) : Prop :=
  ∀ T ω x cls dd H, Rel K W F T ω ρ σ H → XRep K H x cls dd → Ep ω x → Wo cls dd σ H
def lfE (m : Md) (K : PySem.W.Frag) (W : Wrl) (Wo : WX) (q : QT W) : TE := fun σ H Q => ∃ (F : Frm) (T : ASet) (ω : W.Ω) (ρ : List Sl) (Qp : W.Ω → D → Prop) (Ep : W.Ω → Exn → Prop), Rel K W F T ω ρ σ H ∧ q ω ρ Qp Ep ∧ XOk K W Wo F ρ σ Ep ∧
  ∀ T' ω' d v H', Rel K W F T' ω' ρ σ H' → Ext T H T' H' → RR m K H H' (Spr F T' ρ) (owns ρ) d v → Qp ω' d → Q v H'
def lfT (K : PySem.W.Frag) (W : Wrl) (Wo : WX) (q : QTT W) : TT := fun σ H Q => ∃ (F : Frm) (T : ASet) (ω : W.Ω) (ρ : List Sl) (Qp : W.Ω → Bool → Prop) (Ep : W.Ω → Exn → Prop), Rel K W F T ω ρ σ H ∧ q ω ρ Qp Ep ∧ XOk K W Wo F ρ σ Ep ∧
  ∀ T' ω' b H', Rel K W F T' ω' ρ σ H' → Ext T H T' H' → Qp ω' b → Q b H'
inductive ROs (m : Md) (K : PySem.W.Frag) (H : Hp) (S : ASet) (os : List Addr) : List D → List V → Prop
  | nil : ROs m K H S os [] []
  | cons {d : D} {ds : List D} {v : V} {vs : List V} : RR m K H H S os d v → ROs m K H S os ds vs → ROs m K H S os (d :: ds) (v :: vs)
def lfA (m : Md) (K : PySem.W.Frag) (W : Wrl) (Wo : WX) (q : QTA W) : TA := fun σ H Q => ∃ (F : Frm) (T : ASet) (ω : W.Ω) (ρ : List Sl) (Qp : W.Ω → List D → Prop) (Ep : W.Ω → Exn → Prop), Rel K W F T ω ρ σ H ∧ q ω ρ Qp Ep ∧ XOk K W Wo F ρ σ Ep ∧
  ∀ T' ω' ds vs H', Rel K W F T' ω' ρ σ H' → Ext T H T' H' → ROs m K H' (Spr F T' ρ) (owns ρ) ds vs → Qp ω' ds → Q vs H'
def QE (X : Cx) (m : Md) (W : Wrl) (Wo : WX) (e : Expr) (q : QT W) : Prop := PE X e (lfE m X.K W Wo q)
def QB (X : Cx) (W : Wrl) (Wo : WX) (e : Expr) (q : QTT W) : Prop := PT X e (lfT X.K W Wo q)
def QA (X : Cx) (m : Md) (W : Wrl) (Wo : WX) (es : List Expr) (q : QTA W) : Prop := PA X es (lfA m X.K W Wo q)
structure PEn (W : Wrl) where
  nx : W.Ω → List Sl → Prop
  rt : W.Ω → D → Prop
  bk : W.Ω → List Sl → Prop := fun _ _ => False
  ct : W.Ω → List Sl → Prop := fun _ _ => False
  ex : W.Ω → Exn → List Sl → Prop := fun _ _ _ => False
abbrev QTS (W : Wrl) := PEn W → W.Ω → List Sl → Prop
/-- what is handed back: apart from the caller's lists (A), or a new list (F) -/
def RT (mr : Md) (K : PySem.W.Frag) (F : Frm) (T : ASet) (H : Hp) (d : D) (v : V) : Prop := match mr with
  | .F => RF K F.H H (fun a => F.S a ∨ T a) d v
  | _ => RepA K H (fun a => F.S a ∨ T a) d v
structure Sim (mr : Md) (K : PySem.W.Frag) (W : Wrl) (Wo : WX) (F : Frm) (P : PEn W) (D : Ends) : Prop where
  nx : ∀ T ω ρ σ H, Rel K W F T ω ρ σ H → P.nx ω ρ → D.nx σ H
  bk : ∀ T ω ρ σ H, Rel K W F T ω ρ σ H → P.bk ω ρ → D.bk σ H
  ct : ∀ T ω ρ σ H, Rel K W F T ω ρ σ H → P.ct ω ρ → D.ct σ H
  rt : ∀ T ω ρ σ H d v, Rel K W F T ω ρ σ H → RT mr K F T H d v → P.rt ω d → D.rt v H
  ex : ∀ T ω ρ σ H x cls dd, Rel K W F T ω ρ σ H → XRep K H x cls dd → P.ex ω x ρ → Wo cls dd σ H
def lfS (mr : Md) (K : PySem.W.Frag) (W : Wrl) (Wo : WX) (q : QTS W) : TS := fun D σ H => ∃ (F : Frm) (T : ASet) (ω : W.Ω) (ρ : List Sl) (P : PEn W), Rel K W F T ω ρ σ H ∧ q P ω ρ ∧ Sim mr K W Wo F P D
def QS (X : Cx) (mr : Md) (W : Wrl) (Wo : WX) (st : Stmt) (q : QTS W) : Prop := PS X st (lfS mr X.K W Wo q)
def QSs (X : Cx) (mr : Md) (W : Wrl) (Wo : WX) (st : List Stmt) (q : QTS W) : Prop := PSs X st (lfS mr X.K W Wo q)
theorem PE.imp {X : Cx} {e : Expr} {t t' : TE} (h : PE X e t) (k : ∀ σ H Q, t' σ H Q → t σ H Q) : PE X e t' := ⟨fun pins s σ H Q I q => h.run pins s σ H Q I (k σ H Q q)⟩
theorem PT.imp {X : Cx} {e : Expr} {t t' : TT} (h : PT X e t) (k : ∀ σ H Q, t' σ H Q → t σ H Q) : PT X e t' := ⟨fun pins s σ H Q I q => h.run pins s σ H Q I (k σ H Q q)⟩
theorem PW.imp {X : Cx} {e : Expr} {t t' : TT} (h : PW X e t) (k : ∀ σ H Q, t' σ H Q → t σ H Q) : PW X e t' := ⟨fun wh pins s σ H Q I q => h.run wh pins s σ H Q I (k σ H Q q)⟩
theorem PA.imp {X : Cx} {e : List Expr} {t t' : TA} (h : PA X e t) (k : ∀ σ H Q, t' σ H Q → t σ H Q) : PA X e t' := ⟨fun p pins s σ H Q I q => h.run p pins s σ H Q I (k σ H Q q)⟩
theorem PS.imp {X : Cx} {e : Stmt} {t t' : TS} (h : PS X e t) (k : ∀ D σ H, t' D σ H → t D σ H) : PS X e t' := ⟨fun pins s σ H D I q => h.run pins s σ H D I (k D σ H q)⟩
theorem PSs.imp {X : Cx} {e : List Stmt} {t t' : TS} (h : PSs X e t) (k : ∀ D σ H, t' D σ H → t D σ H) : PSs X e t' := ⟨fun pins s σ H D I q => h.run pins s σ H D I (k D σ H q)⟩
end LW

namespace LW
open PySem PySem.Spec PyProof.Rows L2
/-! # rules of the pure layer: expressions -/
section
variable {K : PySem.W.Frag} {W : Wrl} {Wo : WX} {F : Frm} {T T' T2 U S S' : ASet} {ω ω' : W.Ω} {ρ ρ' : List Sl} {σ σ' : L2.St} {H H' H2 : Hp} {d : D} {v : V} {l : Addr} {ds : List D} {xs : List V} {i : Nat} {os : List Addr} {m m1 m2 m3 : Md}
theorem RR.c : ∀ {m : Md}, RR m K H H' S os d v → RC K H' S os d v
  | .A, h => .inl (.inl h)
  | .O, h => .inl h
  | .C, h => h
  | .F, h => .inl (.inl (RF.a h))
def Md.st : Md → Bool
  | .A => true
  | .F => true
  | _ => false
theorem RR.a : ∀ {m : Md}, m.st = true → RR m K H H' S os d v → RepA K H' S d v
  | .A, _, h => h
  | .F, _, h => RF.a h
def Md.ow : Md → Bool
  | .C => false
  | _ => true
theorem RR.o : ∀ {m : Md}, m.ow = true → RR m K H H' S os d v → RO K H' S os d v
  | .A, _, h => .inl h
  | .O, _, h => h
  | .F, _, h => .inl (RF.a h)
def Md.le (m m' : Md) : Bool := match m' with
  | .A => m.st
  | .O => m.ow
  | .C => true
  | .F => match m with
    | .F => true
    | _ => false
theorem RR.up : ∀ {m m' : Md}, m.le m' = true → RR m K H H' S os d v → RR m' K H H' S os d v
  | _, .A, q, h => h.a q
  | _, .O, q, h => h.o q
  | _, .C, _, h => h.c
  | .F, .F, _, h => h
  | .A, .F, q, h => nomatch q
  | .O, .F, q, h => nomatch q
  | .C, .F, q, h => nomatch q
theorem RR.at : ∀ {m : Md}, m ≠ .F → RR m K H H' S os d v → RR m K H' H' S os d v
  | .A, _, h => h
  | .O, _, h => h
  | .C, _, h => h
  | .F, n, h => absurd rfl n
theorem RR.back (g : ∀ a, H' a = none → H a = none) : ∀ {m : Md}, RR m K H' H2 S os d v → RR m K H H2 S os d v
  | .A, h => h
  | .O, h => h
  | .C, h => h
  | .F, ⟨l, xs, ds, h1, h2, h3, h4, h5, h6⟩ => ⟨l, xs, ds, h1, h2, g l h3, h4, h5, h6⟩
def Md.sta : Md → Bool
  | .F => false
  | _ => true
theorem Rel.ext_RR (R : Rel K W F T ω ρ σ H) (e : Ext T H T' H') : ∀ {m : Md}, m.sta = true → RR m K H H (Spr F T ρ) (owns ρ) d v → RR m K H' H' (Spr F T' ρ) (owns ρ) d v
  | .A, _, h => R.ext_rep e h
  | .O, _, h => R.ext_RO e h
  | .C, _, h => R.ext_RC e h
theorem Rel.ext_ROs (R : Rel K W F T ω ρ σ H) (e : Ext T H T' H') (hm : m.sta = true) : ∀ {ds : List D} {vs : List V}, ROs m K H (Spr F T ρ) (owns ρ) ds vs → ROs m K H' (Spr F T' ρ) (owns ρ) ds vs
  | _, _, .nil => .nil
  | _, _, .cons h r => .cons (R.ext_RR e hm h) (R.ext_ROs e hm r)
theorem ROs.reps : ∀ {ds : List D} {vs : List V}, ROs .A K H S os ds vs → RepsA K H S ds vs
  | _, _, .nil => .nil
  | _, _, .cons h r => .cons h r.reps
theorem ROs.one (h : ROs m K H S os [d] xs) : ∃ v, xs = [v] ∧ RR m K H H S os d v := by
  cases h with
  | cons h r => cases r; exact ⟨_, rfl, h⟩
theorem ROs.two {e : D} (h : ROs m K H S os [d, e] xs) : ∃ v w, xs = [v, w] ∧ RR m K H H S os d v ∧ RR m K H H S os e w := by
  cases h with
  | cons h r => cases r with
    | cons h2 r => cases r; exact ⟨_, _, rfl, h, h2⟩
/-- arguments told as apart where no list of the caller's own is meant -/
theorem ROs.off (hS : ∀ a, S' a → S a) (ho : ∀ l, l ∈ os → ¬ S' l) : ∀ {ds : List D} {vs : List V}, ROs .O K H S os ds vs → RepsA K H S' ds vs
  | _, _, .nil => .nil
  | _, _, .cons h r => .cons (by
    rcases h with h | ⟨l, xs, ds, rfl, rfl, m, h, q⟩
    · exact h.less hS
    · exact .lst h (ho l m) (q.less hS)) (r.off hS ho)
end
section
variable {X : Cx} {W : Wrl} {Wo : WX} {m m1 m2 m3 : Md} {e a b c : Expr} {es : List Expr} {i : Nat} {pos : Pos} {q qa qb qc : QT W} {qs : QTA W} {qt : QTT W}
/-! ### names, constants -/
def slD : Option Sl → Option D
  | some (.va d) => some d
  | some (.ow _ ds) => some (.lst ds)
  | _ => none
def qV (i : Nat) : QT W := fun ω ρ Q _ => ∃ d, slD ρ[i]? = some d ∧ Q ω d
def qVa (i : Nat) : QT W := fun ω ρ Q _ => ∃ d, ρ[i]? = some (.va d) ∧ Q ω d
theorem qe_v (h : PE X e (tVar i)) : QE X .O W Wo e (qV i) := PE.imp h fun σ H Q ⟨F, T, ω, ρ, Qp, Ep, R, ⟨d, hd, q⟩, hx, k⟩ => by
  cases e : ρ[i]? with
  | none => rw [e] at hd; cases hd
  | some s =>
    rw [e] at hd
    cases s with
    | no => cases hd
    | ex a dd x => cases hd
    | va d' =>
      cases hd
      obtain ⟨v, hv, r⟩ := R.sl.get_va e
      exact ⟨v, hv, k T ω _ v H R .refl (.inl r) q⟩
    | ow l ds =>
      cases hd
      obtain ⟨hv, xs, h1, r⟩ := R.sl.get_ow e
      exact ⟨_, hv, k T ω _ _ H R .refl (.inr ⟨l, xs, ds, rfl, rfl, owns_mem e, h1, r⟩) q⟩
theorem qe_va (h : PE X e (tVar i)) : QE X .A W Wo e (qVa i) := PE.imp h fun σ H Q ⟨F, T, ω, ρ, Qp, Ep, R, ⟨d, hd, q⟩, hx, k⟩ => by
  obtain ⟨v, hv, r⟩ := R.sl.get_va hd
  exact ⟨v, hv, k T ω _ v H R .refl r q⟩
def qC (d : D) : QT W := fun ω _ Q _ => Q ω d
theorem qe_c {d : D} {v : V} (h : PE X e (tC v)) (r : ∀ H S, RepA X.K H S d v) : QE X .A W Wo e (qC d) := PE.imp h fun σ H Q ⟨F, T, ω, ρ, Qp, Ep, R, q, hx, k⟩ => k T ω d v H R .refl (r _ _) q
theorem qe_int {n : Int} {j} : QE X .A W Wo (.Constant (.int n) j pos) (qC (.int n)) := qe_c pe_int fun _ _ => .int n
theorem qe_str {n : Str} {j} : QE X .A W Wo (.Constant (.str n) j pos) (qC (.str n)) := qe_c pe_str fun _ _ => .str n
theorem qe_bl {n : Bool} {j} : QE X .A W Wo (.Constant (.bool n) j pos) (qC (.bl n)) := qe_c pe_bl fun _ _ => .bl n
theorem qe_non {j} : QE X .A W Wo (.Constant .none j pos) (qC .non) := qe_c pe_non fun _ _ => .non
/-- a tuple of the written part -/
theorem qe_ct {d : List D} {p : Addr} {vs : List V} (h : PE X e (tC (.ref p))) (hq : ∀ H, SqT X.K H p vs) (r : ∀ H S, RepsA X.K H S d vs) : QE X .C W Wo e (qC (.tup d)) := PE.imp h fun σ H Q ⟨F, T, ω, ρ, Qp, Ep, R, q, hx, k⟩ =>
  k T ω _ _ H R .refl (.inr ⟨p, vs, d, rfl, rfl, hq H, r _ _⟩) q

/-! ### operators -/
def OpP (m : Md) (K : PySem.W.Frag) (r : R2) (f : D → D → (D → Prop) → Prop) : Prop := ∀ (S : ASet) (os : List Addr) (H : Hp) (d e : D) (v w : V) (Q : VK) (Qp : D → Prop), (∀ a, S a → H a ≠ none) → RC K H S os d v → RC K H S os e w → f d e Qp →
  (∀ x u H', GrP nop H H' → RR m K H H' S os x u → Qp x → Q u H') → r v w H Q
def UnP (m : Md) (K : PySem.W.Frag) (r : V → Hp → VK → Prop) (f : D → (D → Prop) → Prop) : Prop := ∀ (S : ASet) (os : List Addr) (H : Hp) (d : D) (v : V) (Q : VK) (Qp : D → Prop), (∀ a, S a → H a ≠ none) → RC K H S os d v → f d Qp →
  (∀ x u H', GrP nop H H' → RR m K H H' S os x u → Qp x → Q u H') → r v H Q
def CaP (ma m : Md) (K : PySem.W.Frag) (r : List V → Hp → VK → Prop) (f : List D → (D → Prop) → Prop) : Prop := ∀ (S : ASet) (os : List Addr) (H : Hp) (ds : List D) (vs : List V) (Q : VK) (Qp : D → Prop), (∀ a, S a → H a ≠ none) → ROs ma K H S os ds vs → f ds Qp →
  (∀ x u H', GrP nop H H' → RR m K H H' S os x u → Qp x → Q u H') → r vs H Q
def qOp (f : D → D → (D → Prop) → Prop) (qa qb : QT W) : QT W := fun ω ρ Q E => qa ω ρ (fun ω1 x => qb ω1 ρ (fun ω2 y => f x y (Q ω2)) E) E
def qUn (f : D → (D → Prop) → Prop) (qa : QT W) : QT W := fun ω ρ Q E => qa ω ρ (fun ω1 x => f x (Q ω1)) E
def qCa (f : List D → (D → Prop) → Prop) (qs : QTA W) : QT W := fun ω ρ Q E => qs ω ρ (fun ω1 xs => f xs (Q ω1)) E
theorem lf_op {K : PySem.W.Frag} {r : R2} {f : D → D → (D → Prop) → Prop} (hp : OpP m K r f) (σ : L2.St) (H : Hp) (Q : VK) (h : lfE m K W Wo (qOp f qa qb) σ H Q) : tOp r (lfE m1 K W Wo qa) (lfE m2 K W Wo qb) σ H Q := by
  obtain ⟨F, T, ω, ρ, Qp, Ep, R, q, hx, k⟩ := h
  refine ⟨F, T, ω, ρ, _, Ep, R, q, hx, fun T1 ω1 d v H1 R1 e1 r1 q1 => ?_⟩
  refine ⟨F, T1, ω1, ρ, _, Ep, R1, q1, hx, fun T2 ω2 e w H2 R2 e2 r2 q2 => ?_⟩
  refine hp _ _ H2 d e v w Q _ R2.spl (R1.ext_RC e2 r1.c) r2.c q2 fun x u H' g rr qq => ?_
  exact k T2 ω2 x u H' (R2.grow g) ((e1.trans e2).trans (Ext.of0 g)) (rr.back fun a z => e1.gr.live a (e2.gr.live a z)) qq
theorem lf_un {K : PySem.W.Frag} {r : V → Hp → VK → Prop} {f : D → (D → Prop) → Prop} (hp : UnP m K r f) (σ : L2.St) (H : Hp) (Q : VK) (h : lfE m K W Wo (qUn f qa) σ H Q) : tUn r (lfE m1 K W Wo qa) σ H Q := by
  obtain ⟨F, T, ω, ρ, Qp, Ep, R, q, hx, k⟩ := h
  refine ⟨F, T, ω, ρ, _, Ep, R, q, hx, fun T1 ω1 d v H1 R1 e1 r1 q1 => ?_⟩
  refine hp _ _ H1 d v Q _ R1.spl r1.c q1 fun x u H' g rr qq => ?_
  exact k T1 ω1 x u H' (R1.grow g) (e1.trans (Ext.of0 g)) (rr.back fun a z => e1.gr.live a z) qq
theorem lf_ca {K : PySem.W.Frag} {ma : Md} {r : List V → Hp → VK → Prop} {f : List D → (D → Prop) → Prop} (hp : CaP ma m K r f) (σ : L2.St) (H : Hp) (Q : VK) (h : lfE m K W Wo (qCa f qs) σ H Q) : tCB r (lfA ma K W Wo qs) σ H Q := by
  obtain ⟨F, T, ω, ρ, Qp, Ep, R, q, hx, k⟩ := h
  refine ⟨F, T, ω, ρ, _, Ep, R, q, hx, fun T1 ω1 ds vs H1 R1 e1 r1 q1 => ?_⟩
  refine hp _ _ H1 ds vs Q _ R1.spl r1 q1 fun x u H' g rr qq => ?_
  exact k T1 ω1 x u H' (R1.grow g) (e1.trans (Ext.of0 g)) (rr.back fun a z => e1.gr.live a z) qq
theorem qe_op {op : Operator} {r : R2} {f : D → D → (D → Prop) → Prop} (ho : OpR X (binaryOp op) r) (hp : OpP m X.K r f) (ha : QE X m1 W Wo a qa) (hb : QE X m2 W Wo b qb) : QE X m W Wo (.BinOp a op b pos) (qOp f qa qb) := PE.imp (pe_op ho ha hb) (lf_op hp)
theorem qe_un {op : UnaryOp} {r : V → Hp → VK → Prop} {f : D → (D → Prop) → Prop} (ho : UnR X (unaryOp op) r) (hp : UnP m X.K r f) (ha : QE X m1 W Wo a qa) : QE X m W Wo (.UnaryOp op a pos) (qUn f qa) := PE.imp (pe_un ho ha) (lf_un hp)
theorem qe_cmp {op : CmpOp} {r : R2} {f : D → D → (D → Prop) → Prop} (ho : OpR X (compareOp op) r) (hp : OpP m X.K r f) (ha : QE X m1 W Wo a qa) (hb : QE X m2 W Wo b qb) (hm : behindInMarks op b = false) : QE X m W Wo (.Compare a [op] [b] pos) (qOp f qa qb) := PE.imp (pe_cmpR ho ha hb hm) (lf_op hp)
theorem qe_ix {r : R2} {f : D → D → (D → Prop) → Prop} (hr : IxR X r) (hp : OpP m X.K r f) (ha : QE X m1 W Wo a qa) (hb : QE X m2 W Wo b qb) (hs : PlainIx b) : QE X m W Wo (.Subscript a b pos) (qOp f qa qb) := PE.imp (pe_ix hr ha hb hs) (lf_op hp)
/-- ints -/
def fI0 (g : Int → Int → D) : D → D → (D → Prop) → Prop
  | .int i, .int j, Q => Q (g i j)
  | _, _, _ => False
def fI (C : Int → Int → Prop) (g : Int → Int → D) : D → D → (D → Prop) → Prop
  | .int i, .int j, Q => C i j ∧ Q (g i j)
  | _, _, _ => False
theorem fI0_inv {g : Int → Int → D} {d e : D} {Q : D → Prop} (h : fI0 g d e Q) : ∃ i j, d = .int i ∧ e = .int j ∧ Q (g i j) := by
  cases d <;> cases e <;> first | exact ⟨_, _, rfl, rfl, h⟩ | exact h.elim
theorem fI_inv {C : Int → Int → Prop} {g : Int → Int → D} {d e : D} {Q : D → Prop} (h : fI C g d e Q) : ∃ i j, d = .int i ∧ e = .int j ∧ C i j ∧ Q (g i j) := by
  cases d <;> cases e <;> first | exact ⟨_, _, rfl, rfl, h⟩ | exact h.elim
theorem opI0_int {K : PySem.W.Frag} {g : Int → Int → Int} : OpP .A K (rI0 fun i j => .int (g i j)) (fI0 fun i j => .int (g i j)) := fun S os H d e v w Q Qp hS r1 r2 h k => by
  obtain ⟨i, j, rfl, rfl, h⟩ := fI0_inv h
  exact ⟨i, j, r1.int, r2.int, k _ _ H (GrP.refl _ _) (.int _) h⟩
theorem opI0_bl {K : PySem.W.Frag} {g : Int → Int → Bool} : OpP .A K (rI0 fun i j => .bl (g i j)) (fI0 fun i j => .bl (g i j)) := fun S os H d e v w Q Qp hS r1 r2 h k => by
  obtain ⟨i, j, rfl, rfl, h⟩ := fI0_inv h
  exact ⟨i, j, r1.int, r2.int, k _ _ H (GrP.refl _ _) (.bl _) h⟩
theorem opI_int {K : PySem.W.Frag} {C : Int → Int → Prop} {g : Int → Int → Int} : OpP .A K (rI C fun i j => .int (g i j)) (fI C fun i j => .int (g i j)) := fun S os H d e v w Q Qp hS r1 r2 h k => by
  obtain ⟨i, j, rfl, rfl, hc, h⟩ := fI_inv h
  exact ⟨i, j, r1.int, r2.int, hc, k _ _ H (GrP.refl _ _) (.int _) h⟩
def fNeg : D → (D → Prop) → Prop
  | .int i, Q => Q (.int (-i))
  | _, _ => False
theorem un_negP {K : PySem.W.Frag} : UnP .A K (rU fun i => .int (-i)) fNeg := fun S os H d v Q Qp hS r1 h k => by
  cases d <;> first | exact ⟨_, r1.int, k _ _ H (GrP.refl _ _) (.int _) h⟩ | exact h.elim
/-- == -/
def fEq : D → D → (D → Prop) → Prop
  | .int i, .int j, Q => Q (.bl (decide (i = j)))
  | .str i, .str j, Q => Q (.bl (decide (i = j)))
  | .bl i, .bl j, Q => Q (.bl (decide (i = j)))
  | .non, .non, Q => Q (.bl true)
  | _, _, _ => False
def fNe : D → D → (D → Prop) → Prop
  | .int i, .int j, Q => Q (.bl (!decide (i = j)))
  | .str i, .str j, Q => Q (.bl (!decide (i = j)))
  | .bl i, .bl j, Q => Q (.bl (!decide (i = j)))
  | .non, .non, Q => Q (.bl false)
  | _, _, _ => False
theorem opEqP {K : PySem.W.Frag} : OpP .A K rEq fEq := fun S os H d e v w Q Qp hS r1 r2 h k => by
  cases d <;> cases e <;> first
    | exact h.elim
    | (rw [r1.non, r2.non]; exact ⟨rfl, k _ _ H (GrP.refl _ _) (.bl _) h⟩)
    | (rw [r1.bl, r2.bl]; exact ⟨rfl, k _ _ H (GrP.refl _ _) (.bl _) (by simpa [fEq] using h)⟩)
    | (rw [r1.int, r2.int]; exact ⟨rfl, k _ _ H (GrP.refl _ _) (.bl _) (by simpa [fEq] using h)⟩)
    | (rw [r1.str, r2.str]; exact ⟨rfl, k _ _ H (GrP.refl _ _) (.bl _) (by simpa [fEq] using h)⟩)
theorem opNeP {K : PySem.W.Frag} : OpP .A K rNe fNe := fun S os H d e v w Q Qp hS r1 r2 h k => by
  cases d <;> cases e <;> first
    | exact h.elim
    | (rw [r1.non, r2.non]; exact ⟨rfl, k _ _ H (GrP.refl _ _) (.bl _) h⟩)
    | (rw [r1.bl, r2.bl]; exact ⟨rfl, k _ _ H (GrP.refl _ _) (.bl _) (by simpa [fNe] using h)⟩)
    | (rw [r1.int, r2.int]; exact ⟨rfl, k _ _ H (GrP.refl _ _) (.bl _) (by simpa [fNe] using h)⟩)
    | (rw [r1.str, r2.str]; exact ⟨rfl, k _ _ H (GrP.refl _ _) (.bl _) (by simpa [fNe] using h)⟩)
noncomputable def deq (d e : D) : Bool := @decide (d = e) (Classical.propDecidable (d = e))
theorem deq_t {d e : D} (h : d = e) : deq d e = true := @decide_eq_true _ (Classical.propDecidable (d = e)) h
theorem deq_f {d e : D} (h : d ≠ e) : deq d e = false := @decide_eq_false _ (Classical.propDecidable (d = e)) h
theorem deq_iff {d e : D} : deq d e = true ↔ d = e := by
  refine ⟨fun h => ?_, deq_t⟩
  refine Classical.byContradiction fun n => ?_
  rw [deq_f n] at h
  cases h
/-- == of data -/
def fEqD (d e : D) (Q : D → Prop) : Prop := ∃ n, n ≤ 64 ∧ d.dep n = true ∧ e.dep n = true ∧ Q (.bl (deq d e))
def fNeD (d e : D) (Q : D → Prop) : Prop := ∃ n, n ≤ 64 ∧ d.dep n = true ∧ e.dep n = true ∧ Q (.bl (!deq d e))
theorem opEqDP {K : PySem.W.Frag} : OpP .A K (rEqD K) fEqD := fun S os H d e v w Q Qp hS r1 r2 ⟨n, hn, h1, h2, h⟩ k => by
  refine w_eqD n r1.rep r2.rep h1 h2 hn (fun z => ?_) (fun z => ?_)
  · exact k _ _ H (GrP.refl _ _) (.bl _) (by rw [deq_t z] at h; exact h)
  · exact k _ _ H (GrP.refl _ _) (.bl _) (by rw [deq_f z] at h; exact h)
theorem opNeDP {K : PySem.W.Frag} : OpP .A K (rNeD K) fNeD := fun S os H d e v w Q Qp hS r1 r2 ⟨n, hn, h1, h2, h⟩ k => by
  refine w_neD n r1.rep r2.rep h1 h2 hn (fun z => ?_) (fun z => ?_)
  · exact k _ _ H (GrP.refl _ _) (.bl _) (by rw [deq_t z] at h; exact h)
  · exact k _ _ H (GrP.refl _ _) (.bl _) (by rw [deq_f z] at h; exact h)
/-- x is None -/
def D.isNon : D → Bool
  | .non => true
  | _ => false
theorem isNon_iff {d : D} : d.isNon = true ↔ d = .non := by cases d <;> simp [D.isNon]
def fIsN (neg : Bool) (d e : D) (Q : D → Prop) : Prop := e = .non ∧ Q (.bl (if neg then !d.isNon else d.isNon))
theorem dec_isNon {K : PySem.W.Frag} {H : Hp} {S : ASet} {os : List Addr} {d : D} {v : V} (r : RC K H S os d v) : decide (v = .non) = d.isNon := by
  by_cases h : v = .non
  · rw [decide_eq_true h, (isNon_iff.mpr (r.isNon.mp h))]
  · rw [decide_eq_false h]
    cases q : d.isNon with
    | false => rfl
    | true => exact absurd (r.isNon.mpr (isNon_iff.mp q)) h
theorem opIsP {K : PySem.W.Frag} : OpP .A K (fun x y H Q => y = .non ∧ Q (.bl (decide (x = .non))) H) (fIsN false) := fun S os H d e v w Q Qp hS r1 r2 ⟨z, h⟩ k => by
  subst z
  rw [dec_isNon r1]
  exact ⟨r2.non, k _ _ H (GrP.refl _ _) (.bl _) h⟩
theorem opNotP {K : PySem.W.Frag} : OpP .A K (fun x y H Q => y = .non ∧ Q (.bl (!decide (x = .non))) H) (fIsN true) := fun S os H d e v w Q Qp hS r1 r2 ⟨z, h⟩ k => by
  subst z
  rw [dec_isNon r1]
  exact ⟨r2.non, k _ _ H (GrP.refl _ _) (.bl _) h⟩
/-! texts -/
def fSS (C : Str → Str → Prop) (g : Str → Str → D) : D → D → (D → Prop) → Prop
  | .str i, .str j, Q => C i j ∧ Q (g i j)
  | _, _, _ => False
theorem fSS_inv {C : Str → Str → Prop} {g : Str → Str → D} {d e : D} {Q : D → Prop} (h : fSS C g d e Q) : ∃ i j, d = .str i ∧ e = .str j ∧ C i j ∧ Q (g i j) := by
  cases d <;> cases e <;> first | exact ⟨_, _, rfl, rfl, h⟩ | exact h.elim
abbrev fAddS : D → D → (D → Prop) → Prop := fSS (fun i j => i.length + j.length ≤ sizeLine) (fun i j => .str (i ++ j))
theorem opAddSP {K : PySem.W.Frag} : OpP .A K (fun x y H Q => ∃ i j, x = .str i ∧ y = .str j ∧ i.length + j.length ≤ sizeLine ∧ Q (.str (i ++ j)) H) fAddS := fun S os H d e v w Q Qp hS r1 r2 h k => by
  obtain ⟨i, j, rfl, rfl, hc, h⟩ := fSS_inv h
  exact ⟨i, j, r1.str, r2.str, hc, k _ _ H (GrP.refl _ _) (.str _) h⟩
abbrev fInS : D → D → (D → Prop) → Prop := fSS (fun _ _ => True) (fun i j => .bl (!(Builtin.Str.occurrences j i 0 j.length 1).isEmpty))
theorem opInSP {K : PySem.W.Frag} : OpP .A K (fun x y H Q => ∃ i j, x = .str i ∧ y = .str j ∧ Q (.bl (!(Builtin.Str.occurrences j i 0 j.length 1).isEmpty)) H) fInS := fun S os H d e v w Q Qp hS r1 r2 h k => by
  obtain ⟨i, j, rfl, rfl, hc, h⟩ := fSS_inv h
  exact ⟨i, j, r1.str, r2.str, k _ _ H (GrP.refl _ _) (.bl _) h⟩
abbrev fNotInS : D → D → (D → Prop) → Prop := fSS (fun _ _ => True) (fun i j => .bl (!(!(Builtin.Str.occurrences j i 0 j.length 1).isEmpty)))
theorem opNotInSP {K : PySem.W.Frag} : OpP .A K (fun x y H Q => ∃ i j, x = .str i ∧ y = .str j ∧ Q (.bl (!(!(Builtin.Str.occurrences j i 0 j.length 1).isEmpty))) H) fNotInS := fun S os H d e v w Q Qp hS r1 r2 h k => by
  obtain ⟨i, j, rfl, rfl, hc, h⟩ := fSS_inv h
  exact ⟨i, j, r1.str, r2.str, k _ _ H (GrP.refl _ _) (.bl _) h⟩
/-! items -/
def fIx : D → D → (D → Prop) → Prop
  | .lst ds, .int i, Q => ∃ d, atI ds i = some d ∧ Q d
  | .tup ds, .int i, Q => ∃ d, atI ds i = some d ∧ Q d
  | _, _, _ => False
theorem RepsA.atI {K : PySem.W.Frag} {H : Hp} {S : ASet} {ds : List D} {vs : List V} {i : Int} {d : D} (r : RepsA K H S ds vs) (h : L2.atI ds i = some d) : ∃ v, L2.atI vs i = some v ∧ RepA K H S d v := by
  unfold L2.atI at h ⊢
  rw [r.len]
  cases e : ixN ds.length i with
  | none => rw [e] at h; cases h
  | some j =>
    rw [e] at h
    exact r.get (show ds[j]? = some d from h)
def fIxL : D → D → (D → Prop) → Prop
  | .lst ds, .int i, Q => ∃ d, atI ds i = some d ∧ Q d
  | _, _, _ => False
def fIxT : D → D → (D → Prop) → Prop
  | .tup ds, .int i, Q => ∃ d, atI ds i = some d ∧ Q d
  | _, _, _ => False
theorem ixLP {K : PySem.W.Frag} : OpP .A K (rIxL K) fIxL := fun S os H d e v w Q Qp hS r1 r2 h k => by
  cases d <;> cases e <;> first | (exact h.elim) | skip
  obtain ⟨d, ha, h⟩ := h
  obtain ⟨l, xs, rfl, hl, hr, _⟩ := r1.lst
  obtain ⟨u, hu, ru⟩ := hr.atI ha
  exact ⟨l, xs, _, u, rfl, r2.int, hl, hu, k _ _ H (GrP.refl _ _) ru h⟩
theorem ixTP {K : PySem.W.Frag} : OpP .A K (rIxT K) fIxT := fun S os H d e v w Q Qp hS r1 r2 h k => by
  cases d <;> cases e <;> first | (exact h.elim) | skip
  obtain ⟨d, ha, h⟩ := h
  obtain ⟨l, xs, rfl, hl, hr⟩ := r1.tup
  obtain ⟨u, hu, ru⟩ := hr.atI ha
  exact ⟨l, xs, _, u, rfl, r2.int, hl, hu, k _ _ H (GrP.refl _ _) ru h⟩
def fIxS : D → D → (D → Prop) → Prop
  | .str z, .int i, Q => z.length ≤ sizeLine ∧ ∃ c, atI z.cps.toList i = some c ∧ Q (.str ⟨#[c]⟩)
  | _, _, _ => False
theorem ixSP {K : PySem.W.Frag} : OpP .A K rIxS fIxS := fun S os H d e v w Q Qp hS r1 r2 h k => by
  cases d <;> cases e <;> first | (exact h.elim) | skip
  obtain ⟨hz, c, hc, h⟩ := h
  exact ⟨_, _, c, r1.str, r2.int, hz, hc, k _ _ H (GrP.refl _ _) (.str _) h⟩
/-- x in a list or tuple of scalars -/
def D.flat : D → Bool
  | .int _ => true
  | .str _ => true
  | _ => false
/-- the same scalar -/
def D.same : D → D → Bool
  | .int i, .int j => decide (i = j)
  | .str i, .str j => decide (i = j)
  | _, _ => false
def fIn (neg : Bool) (d e : D) (Q : D → Prop) : Prop := ∃ ds, (e = .lst ds ∨ e = .tup ds) ∧ d.flat = true ∧ ds.all D.flat = true ∧ Q (.bl (if neg then !(ds.any fun x => x.same d) else ds.any fun x => x.same d))
theorem flat_V {K : PySem.W.Frag} {H : Hp} {S : ASet} {d : D} {v : V} (h : d.flat = true) (r : RepA K H S d v) : flatV v = true := by
  cases r <;> first | rfl | (cases h; done)
theorem same_V {K : PySem.W.Frag} {H : Hp} {S : ASet} {d e : D} {v w : V} (h : d.flat = true) (h2 : e.flat = true) (r : RepA K H S d v) (r2 : RepA K H S e w) : eqV v w = d.same e := by
  cases r <;> first | (cases h; done) | (cases r2 <;> first | (cases h2; done) | rfl)
theorem flats_V {K : PySem.W.Frag} {H : Hp} {S : ASet} : ∀ {ds : List D} {vs : List V}, ds.all D.flat = true → RepsA K H S ds vs → vs.all flatV = true
  | _, _, _, .nil => rfl
  | _, _, q, .cons h r => by
    rw [List.all_cons, Bool.and_eq_true] at q ⊢
    exact ⟨flat_V q.1 h, flats_V q.2 r⟩
theorem any_V {K : PySem.W.Frag} {H : Hp} {S : ASet} {e : D} {w : V} (h2 : e.flat = true) (r2 : RepA K H S e w) : ∀ {ds : List D} {vs : List V}, ds.all D.flat = true → RepsA K H S ds vs → inV w vs = ds.any fun x => x.same e
  | _, _, _, .nil => rfl
  | _, _, q, .cons h r => by
    rw [List.all_cons, Bool.and_eq_true] at q
    rw [List.any_cons, ← any_V h2 r2 q.2 r, ← same_V q.1 h2 h r2]
    rfl
theorem RC.flat {K : PySem.W.Frag} {H : Hp} {S : ASet} {os : List Addr} {d : D} {v : V} (h : d.flat = true) (r : RC K H S os d v) : RepA K H S d v := by
  rcases r with (r | ⟨l, xs, ds', rfl, rfl, m, h', r⟩) | ⟨a, xs, ds', rfl, rfl, h', r⟩
  · exact r
  · exact nomatch (show false = true from h)
  · exact nomatch (show false = true from h)
theorem opInP {K : PySem.W.Frag} {neg : Bool} : OpP .A K (rIn K neg) (fIn neg) := fun S os H d e v w Q Qp hS r1 r2 ⟨ds, he, h1, h2, h⟩ k => by
  have ra := r1.flat h1
  have fin : ∀ {p : Addr} {xs : List V}, RepsA K H S ds xs → (SqL K H p xs ∨ SqT K H p xs) → rIn K neg v (.ref p) H Q := fun {p xs} hr hq => by
    refine ⟨p, xs, rfl, hq, flat_V h1 ra, flats_V h2 hr, ?_⟩
    rw [any_V h1 ra h2 hr]
    exact k _ _ H (GrP.refl _ _) (.bl _) h
  rcases he with rfl | rfl
  · obtain ⟨l, xs, rfl, hl, hr, _⟩ := r2.lst
    exact fin hr (.inl hl)
  · obtain ⟨l, xs, rfl, hl, hr⟩ := r2.tup
    exact fin hr (.inr hl)
/-- + of lists -/
def fCat : D → D → (D → Prop) → Prop
  | .lst ds, .lst es, Q => ds.length + es.length ≤ 1000000 ∧ Q (.lst (ds ++ es))
  | _, _, _ => False
theorem small6 {n : Nat} (h : n ≤ 1000000) : n ≤ sizeLine := Nat.le_trans h (by decide)
theorem rf_new {K : PySem.W.Frag} {H : Hp} {S : ASet} {l : Addr} {ds : List D} {xs : List V} (hS : ∀ a, S a → H a ≠ none) (hl : H l = none) (r : RepsA K H S ds xs) : RF K H (upd H l (.lst xs)) S (.lst ds) (.ref l) :=
  ⟨l, xs, ds, rfl, rfl, hl, fun s => hS l s hl, upd_same, r.ext (GrP.new hl) (fun _ z => z.elim) fun a z => z.imp id fun z => by rw [z]; exact hl⟩
def rCatR : R2 := fun x y H Q => ∃ l b xs zs, x = .ref l ∧ y = .ref b ∧ Rd H l (.lst xs) ∧ Rd H b (.lst zs) ∧ xs.length + zs.length ≤ sizeLine ∧ ∀ p, H p = none → Q (.ref p) (upd H p (.lst (xs ++ zs)))
theorem lst_rd {X : Cx} {pins : List (Addr × Obj)} {σ : L2.St} {H : Hp} {s : Shared} {l : Addr} {xs : List V} (I : Inv X pins σ H s) (h : Rd H l (.lst xs)) : xs.length ≤ sizeLine ∧ ∃ (its : List Value) (n : Nat), Vals xs its ∧ s.heap.get? l = some { cls := .type "list", data := .seq its.toArray n } := by
  rcases h with h | ⟨o, h⟩
  · exact I.hok l _ h
  · exact (I.hok l _ h).2
theorem op_catR {X : Cx} : OpR X (binaryOp .Add) rCatR := by
  intro pins s σ H x y v u Q I rx ry h
  obtain ⟨l, b, xs, zs, rfl, rfl, hH, hB, hz, q⟩ := h
  cases rx
  cases ry
  obtain ⟨z, its, n, r, e⟩ := lst_rd I hH
  obtain ⟨z2, its2, n2, r2, e2⟩ := lst_rd I hB
  have hl := r.length
  have hl2 := r2.length
  refine PySem.P.add_list e e2 ?_ (by rw [List.size_toArray, List.size_toArray]; omega)
  have ea : its.toArray ++ its2.toArray = (its ++ its2).toArray := by simp
  rw [ea]
  exact ⟨.ref _, _, I.lnew (t' := s.toks) (r.append r2) (by rw [List.length_append]; omega), rfl, q _ I.fresh⟩
theorem opCatP {K : PySem.W.Frag} : OpP .F K rCatR fCat := fun S os H d e v w Q Qp hS r1 r2 h k => by
  cases d <;> cases e <;> first | (exact h.elim) | skip
  obtain ⟨hz, h⟩ := h
  obtain ⟨l, xs, rfl, hl, hr, z1⟩ := r1.lst
  obtain ⟨l2, ys, rfl, hl2, hr2, z2⟩ := r2.lst
  exact ⟨l, l2, xs, ys, rfl, rfl, z1, z2, by rw [hr.len, hr2.len]; exact small6 hz, fun p hp => k _ _ _ (GrP.new hp) (rf_new hS hp (RepsA.append hr2 hr)) h⟩
/-- slices -/
def qPart : Option (QT W) → W.Ω → List Sl → (W.Ω → Option Int → Prop) → (W.Ω → Exn → Prop) → Prop
  | none => fun ω _ k _ => k ω none
  | some q => fun ω ρ k E => q ω ρ (fun ω' y => ∃ i, y = .int i ∧ k ω' (some i)) E
def qSl (f : D → Option Int → Option Int → (D → Prop) → Prop) (qa : QT W) (lo hi : Option (QT W)) : QT W := fun ω ρ Q E => qa ω ρ (fun ω1 x => qPart lo ω1 ρ (fun ω2 l => qPart hi ω2 ρ (fun ω3 u => f x l u (Q ω3)) E) E) E
def SlP (m : Md) (K : PySem.W.Frag) (r : V → Option Int → Option Int → Hp → VK → Prop) (f : D → Option Int → Option Int → (D → Prop) → Prop) : Prop := ∀ (S : ASet) (os : List Addr) (H : Hp) (d : D) (v : V) (lo hi : Option Int) (Q : VK) (Qp : D → Prop), (∀ a, S a → H a ≠ none) → RC K H S os d v → f d lo hi Qp →
  (∀ x u H', GrP nop H H' → RR m K H H' S os x u → Qp x → Q u H') → r v lo hi H Q
/-- a part of a slice -/
def lfO (K : PySem.W.Frag) (W : Wrl) (Wo : WX) (q : Option (QT W)) : TO := fun σ H Q => ∃ (F : Frm) (T : ASet) (ω : W.Ω) (ρ : List Sl) (Qp : W.Ω → Option Int → Prop) (Ep : W.Ω → Exn → Prop), Rel K W F T ω ρ σ H ∧ qPart q ω ρ Qp Ep ∧ XOk K W Wo F ρ σ Ep ∧
  ∀ T' ω' o H', Rel K W F T' ω' ρ σ H' → Ext T H T' H' → Qp ω' o → Q o H'
def QO (X : Cx) (W : Wrl) (Wo : WX) (e : Option Expr) (q : Option (QT W)) : Prop := PO X e (lfO X.K W Wo q)
theorem PO.imp {X : Cx} {e : Option Expr} {t t' : TO} (h : PO X e t) (k : ∀ σ H Q, t' σ H Q → t σ H Q) : PO X e t' := ⟨fun pins s σ H Q I q => h.run pins s σ H Q I (k σ H Q q)⟩
theorem qo_none : QO X W Wo none none := PO.imp po_none fun σ H Q ⟨F, T, ω, ρ, Qp, Ep, R, q, hx, k⟩ => k T ω none H R .refl q
theorem qo_some (h : QE X m W Wo e q) : QO X W Wo (some e) (some q) := PO.imp (po_some h) fun σ H Q ⟨F, T, ω, ρ, Qp, Ep, R, q, hx, k⟩ =>
  ⟨F, T, ω, ρ, _, Ep, R, q, hx, fun T' ω' d v H' R' e r ⟨i, z, q'⟩ => by subst z; exact ⟨i, r.c.int, k T' ω' _ H' R' e q'⟩⟩
theorem qe_sl {r : V → Option Int → Option Int → Hp → VK → Prop} {f : D → Option Int → Option Int → (D → Prop) → Prop} {lo hi : Option Expr} {ql qh : Option (QT W)} {p2 : Pos} (hr : SlR X r) (hp : SlP m X.K r f) (ha : QE X m1 W Wo a qa) (hl : QO X W Wo lo ql) (hh : QO X W Wo hi qh) :
    QE X m W Wo (.Subscript a (.Slice lo hi none p2) pos) (qSl f qa ql qh) := PE.imp (pe_slice hr ha hl hh) fun σ H Q ⟨F, T, ω, ρ, Qp, Ep, R, q, hx, k⟩ => by
  refine ⟨F, T, ω, ρ, _, Ep, R, q, hx, fun T1 ω1 d v H1 R1 e1 r1 q1 => ?_⟩
  refine ⟨F, T1, ω1, ρ, _, Ep, R1, q1, hx, fun T2 ω2 l H2 R2 e2 q2 => ?_⟩
  refine ⟨F, T2, ω2, ρ, _, Ep, R2, q2, hx, fun T3 ω3 u H3 R3 e3 q3 => ?_⟩
  refine hp _ _ H3 d v l u Q _ R3.spl (R1.ext_RC (e2.trans e3) r1.c) q3 fun x w H' g rr qq => ?_
  exact k T3 ω3 x w H' (R3.grow g) ((e1.trans (e2.trans e3)).trans (Ext.of0 g)) (rr.back fun a z => e1.gr.live a (e2.gr.live a (e3.gr.live a z))) qq
def cutD (xs : List D) (lo hi : Option Int) : List D := (xs.drop (HT.sIx xs.length 0 lo)).take (HT.sIx xs.length xs.length hi - HT.sIx xs.length 0 lo)
theorem RepsA.cut {K : PySem.W.Frag} {H : Hp} {S : ASet} {ds : List D} {vs : List V} {lo hi : Option Int} (r : RepsA K H S ds vs) : RepsA K H S (cutD ds lo hi) (cutV vs lo hi) := by
  unfold cutD cutV
  rw [r.len]
  exact (r.drop _).take _
def fSlL : D → Option Int → Option Int → (D → Prop) → Prop
  | .lst ds, lo, hi, Q => Q (.lst (cutD ds lo hi))
  | _, _, _, _ => False
def fSlT : D → Option Int → Option Int → (D → Prop) → Prop
  | .tup ds, lo, hi, Q => Q (.tup (cutD ds lo hi))
  | _, _, _, _ => False
theorem slLP {K : PySem.W.Frag} : SlP .F K (rSlL K) fSlL := fun S os H d v lo hi Q Qp hS r1 h k => by
  cases d <;> first | (exact h.elim) | skip
  obtain ⟨l, xs, rfl, hl, hr, z1⟩ := r1.lst
  exact ⟨l, xs, rfl, hl, fun p hp => k _ _ _ (GrP.new hp) (rf_new hS hp hr.cut) h⟩
theorem cut_whole {xs : List V} {lo hi : Option Int} (h : HT.sIx xs.length 0 lo = 0 ∧ HT.sIx xs.length xs.length hi = xs.length) : cutV xs lo hi = xs := by
  unfold cutV
  rw [h.1, h.2]
  simp
theorem cut_wholeD {xs : List D} {lo hi : Option Int} (h : HT.sIx xs.length 0 lo = 0 ∧ HT.sIx xs.length xs.length hi = xs.length) : cutD xs lo hi = xs := by
  unfold cutD
  rw [h.1, h.2]
  simp
theorem slTP {K : PySem.W.Frag} : SlP .C K (rSlA K) fSlT := fun S os H d v lo hi Q Qp hS r1 h k => by
  cases d <;> first | (exact h.elim) | skip
  obtain ⟨l, xs, rfl, hl, hr⟩ := r1.tup
  refine ⟨l, xs, rfl, hl, fun z => ?_, fun z p hp => ?_⟩
  · rw [hr.len] at z
    have h : Qp (.tup (cutD _ lo hi)) := h
    rw [cut_wholeD z] at h
    exact k _ _ H (GrP.refl _ _) r1 h
  · exact k _ _ _ (GrP.new hp) (.inr ⟨p, _, _, rfl, rfl, sqt_of upd_same, hr.cut.ext (GrP.new hp) (fun _ z => z.elim) fun a z => .inl z⟩) h
theorem RepsA.nil_of {K : PySem.W.Frag} {H : Hp} {S : ASet} {ds : List D} {vs : List V} (r : RepsA K H S ds vs) (e : vs = []) : ds = [] := by
  subst e
  cases r
  rfl
def fCatT : D → D → (D → Prop) → Prop
  | .tup ds, .tup es, Q => ds.length + es.length ≤ 1000000 ∧ Q (.tup (ds ++ es))
  | _, _, _ => False
theorem opCatTP {K : PySem.W.Frag} : OpP .C K (rCatA K) fCatT := fun S os H d e v w Q Qp hS r1 r2 h k => by
  cases d <;> cases e <;> first | (exact h.elim) | skip
  obtain ⟨hz, h⟩ := h
  obtain ⟨l, xs, rfl, hl, hr⟩ := r1.tup
  obtain ⟨l2, ys, rfl, hl2, hr2⟩ := r2.tup
  refine ⟨l, l2, xs, ys, rfl, rfl, hl, hl2, by rw [hr.len, hr2.len]; exact small6 hz, fun z => ?_, fun z1 z2 => ?_, fun z1 z2 p hp => ?_⟩
  · rw [hr.nil_of z] at h
    exact k _ _ H (GrP.refl _ _) r2 h
  · rw [hr2.nil_of z2, List.append_nil] at h
    exact k _ _ H (GrP.refl _ _) r1 h
  · exact k _ _ _ (GrP.new hp) (.inr ⟨p, _, _, rfl, rfl, sqt_of upd_same, (RepsA.append hr2 hr).ext (GrP.new hp) (fun _ z => z.elim) fun a z => .inl z⟩) h
/-! ### tests -/
def qTe (qa : QT W) : QTT W := fun ω ρ Q E => qa ω ρ (fun ω1 d => ∃ b, d = .bl b ∧ Q ω1 b) E
theorem qb_val (ha : QE X m W Wo a qa) (he : ∀ whole, isTrue a X.env whole = (do let v ← whole; standAt a.pos; holding [v] (truthy v)) := by intro _; rfl) : QB X W Wo a (qTe qa) := PT.imp (pt_val ha he) fun σ H Q ⟨F, T, ω, ρ, Qp, Ep, R, q, hx, k⟩ =>
  ⟨F, T, ω, ρ, _, Ep, R, q, hx, fun T' ω' d v H' R' e r ⟨b, z, q'⟩ => by subst z; exact ⟨b, r.c.bl, k T' ω' b H' R' e q'⟩⟩
theorem qb_cmp {op : CmpOp} {r : R2} {f : D → D → (D → Prop) → Prop} (ho : OpR X (compareOp op) r) (hp : OpP .A X.K r f) (ha : QE X m1 W Wo a qa) (hb : QE X m2 W Wo b qb) (hm : behindInMarks op b = false) : QB X W Wo (.Compare a [op] [b] pos) (qTe (qOp f qa qb)) := PT.imp (pt_cmpR ho ha hb hm) fun σ H Q ⟨F, T, ω, ρ, Qp, Ep, R, q, hx, k⟩ =>
  lf_op hp σ H _ ⟨F, T, ω, ρ, _, Ep, R, q, hx, fun T' ω' d v H' R' e r ⟨b, z, q'⟩ => by subst z; exact ⟨b, (RR.c r).bl, k T' ω' b H' R' e q'⟩⟩
/-- truth of a value -/
def D.tru : D → (Bool → Prop) → Prop
  | .non, Q => Q false
  | .bl b, Q => Q b
  | .int i, Q => Q (i != 0)
  | .lst ds, Q => Q (!ds.isEmpty)
  | .tup ds, Q => Q (!ds.isEmpty)
  | _, _ => False
theorem empty_of {K : PySem.W.Frag} {H : Hp} {S : ASet} {ds : List D} {vs : List V} (r : RepsA K H S ds vs) : (!ds.isEmpty) = !vs.isEmpty := by cases r <;> rfl
def qTru (qa : QT W) : QTT W := fun ω ρ Q E => qa ω ρ (fun ω1 d => d.tru (Q ω1)) E
theorem qb_tru (ha : QE X m W Wo a qa) (he : ∀ whole, isTrue a X.env whole = (do let v ← whole; standAt a.pos; holding [v] (truthy v)) := by intro _; rfl) : QB X W Wo a (qTru qa) := PT.imp (pt_truth ha he) fun σ H Q ⟨F, T, ω, ρ, Qp, Ep, R, q, hx, k⟩ =>
  ⟨F, T, ω, ρ, _, Ep, R, q, hx, fun T' ω' d v H' R' e r q' => by
    have r := r.c
    cases d <;> first | (exact q'.elim) | skip
    · rw [r.non]; exact ⟨_, rfl, k T' ω' _ H' R' e q'⟩
    · rw [r.bl]; exact ⟨_, rfl, k T' ω' _ H' R' e q'⟩
    · rw [r.int]; exact ⟨_, rfl, k T' ω' _ H' R' e q'⟩
    · obtain ⟨l, xs, rfl, hl, hr⟩ := r.tup
      exact ⟨_, .inr (.inl ⟨xs, hl, empty_of hr⟩), k T' ω' _ H' R' e q'⟩
    · obtain ⟨l, xs, rfl, hl, hr, _⟩ := r.lst
      exact ⟨_, .inl ⟨xs, hl, empty_of hr⟩, k T' ω' _ H' R' e q'⟩⟩
def qNotT (qt : QTT W) : QTT W := fun ω ρ Q E => qt ω ρ (fun ω1 b => Q ω1 (!b)) E
theorem qb_not (ha : QB X W Wo a qt) : QB X W Wo (.UnaryOp .Not a pos) (qNotT qt) := PT.imp (pt_not ha) fun σ H Q ⟨F, T, ω, ρ, Qp, Ep, R, q, hx, k⟩ =>
  ⟨F, T, ω, ρ, _, Ep, R, q, hx, fun T' ω' b H' R' e q' => k T' ω' (!b) H' R' e q'⟩
def QW (X : Cx) (W : Wrl) (Wo : WX) (e : Expr) (q : QTT W) : Prop := PW X e (lfT X.K W Wo q)
theorem QW.toB (h : QW X W Wo e qt) : QB X W Wo e qt := PW.pt h
def qAndT (qt qu : QTT W) : QTT W := fun ω ρ Q E => qt ω ρ (fun ω1 b => if b = true then qu ω1 ρ Q E else Q ω1 false) E
def qOrT (qt qu : QTT W) : QTT W := fun ω ρ Q E => qt ω ρ (fun ω1 b => if b = true then Q ω1 true else qu ω1 ρ Q E) E
variable {qu : QTT W} {rest : List Expr}
theorem qw_and1 (ha : QB X W Wo a qt) : QW X W Wo (.BoolOp .And [a] pos) qt := pw_and1 ha
theorem qw_or1 (ha : QB X W Wo a qt) : QW X W Wo (.BoolOp .Or [a] pos) qt := pw_or1 ha
theorem qw_and (ha : QB X W Wo a qt) (hb : QW X W Wo (.BoolOp .And (b :: rest) pos) qu) : QW X W Wo (.BoolOp .And (a :: b :: rest) pos) (qAndT qt qu) := PW.imp (pw_and ha hb) fun σ H Q ⟨F, T, ω, ρ, Qp, Ep, R, q, hx, k⟩ =>
  ⟨F, T, ω, ρ, _, Ep, R, q, hx, fun T' ω' b H' R' e q' => by
    cases b with
    | true => exact ⟨F, T', ω', ρ, _, Ep, R', q', hx, fun T2 ω2 b2 H2 R2 e2 q2 => k T2 ω2 b2 H2 R2 (e.trans e2) q2⟩
    | false => exact k T' ω' false H' R' e q'⟩
theorem qw_or (ha : QB X W Wo a qt) (hb : QW X W Wo (.BoolOp .Or (b :: rest) pos) qu) : QW X W Wo (.BoolOp .Or (a :: b :: rest) pos) (qOrT qt qu) := PW.imp (pw_or ha hb) fun σ H Q ⟨F, T, ω, ρ, Qp, Ep, R, q, hx, k⟩ =>
  ⟨F, T, ω, ρ, _, Ep, R, q, hx, fun T' ω' b H' R' e q' => by
    cases b with
    | false => exact ⟨F, T', ω', ρ, _, Ep, R', q', hx, fun T2 ω2 b2 H2 R2 e2 q2 => k T2 ω2 b2 H2 R2 (e.trans e2) q2⟩
    | true => exact k T' ω' true H' R' e q'⟩
/-- and, or, not as values (of truth values) -/
def qAndV (qa qb : QT W) : QT W := fun ω ρ Q E => qa ω ρ (fun ω1 d => ∃ b, d = .bl b ∧ if b = true then qb ω1 ρ Q E else Q ω1 (.bl false)) E
def qOrV (qa qb : QT W) : QT W := fun ω ρ Q E => qa ω ρ (fun ω1 d => ∃ b, d = .bl b ∧ if b = true then Q ω1 (.bl true) else qb ω1 ρ Q E) E
def qNotV (qa : QT W) : QT W := fun ω ρ Q E => qa ω ρ (fun ω1 d => ∃ b, d = .bl b ∧ Q ω1 (.bl (!b))) E
theorem qe_one {op : BoolOp} (h : QE X m W Wo a qa) : QE X m W Wo (.BoolOp op [a] pos) qa := pe_one h
theorem qe_and (ha : QE X m1 W Wo a qa) (hb : QE X .A W Wo (.BoolOp .And (b :: rest) pos) qb) : QE X .A W Wo (.BoolOp .And (a :: b :: rest) pos) (qAndV qa qb) := PE.imp (pe_and ha hb) fun σ H Q ⟨F, T, ω, ρ, Qp, Ep, R, q, hx, k⟩ =>
  ⟨F, T, ω, ρ, _, Ep, R, q, hx, fun T' ω' d v H' R' e r ⟨b, z, q'⟩ => by
    subst z
    refine ⟨b, r.c.bl, ?_⟩
    cases b with
    | true => exact ⟨F, T', ω', ρ, _, Ep, R', q', hx, fun T2 ω2 b2 v2 H2 R2 e2 r2 q2 => k T2 ω2 b2 v2 H2 R2 (e.trans e2) r2 q2⟩
    | false => exact k T' ω' _ _ H' R' e (.bl false) q'⟩
theorem qe_or (ha : QE X m1 W Wo a qa) (hb : QE X .A W Wo (.BoolOp .Or (b :: rest) pos) qb) : QE X .A W Wo (.BoolOp .Or (a :: b :: rest) pos) (qOrV qa qb) := PE.imp (pe_or ha hb) fun σ H Q ⟨F, T, ω, ρ, Qp, Ep, R, q, hx, k⟩ =>
  ⟨F, T, ω, ρ, _, Ep, R, q, hx, fun T' ω' d v H' R' e r ⟨b, z, q'⟩ => by
    subst z
    refine ⟨b, r.c.bl, ?_⟩
    cases b with
    | false => exact ⟨F, T', ω', ρ, _, Ep, R', q', hx, fun T2 ω2 b2 v2 H2 R2 e2 r2 q2 => k T2 ω2 b2 v2 H2 R2 (e.trans e2) r2 q2⟩
    | true => exact k T' ω' _ _ H' R' e (.bl true) q'⟩
theorem qe_not (ha : QE X m1 W Wo a qa) : QE X .A W Wo (.UnaryOp .Not a pos) (qNotV qa) := PE.imp (pe_not ha) fun σ H Q ⟨F, T, ω, ρ, Qp, Ep, R, q, hx, k⟩ =>
  ⟨F, T, ω, ρ, _, Ep, R, q, hx, fun T' ω' d v H' R' e r ⟨b, z, q'⟩ => by
    subst z
    exact ⟨b, r.c.bl, k T' ω' _ _ H' R' e (.bl _) q'⟩⟩
/-- a < b < c -/
def qChain (f g : D → D → (D → Prop) → Prop) (qa qb qc : QT W) : QT W := fun ω ρ Q E => qa ω ρ (fun ω1 x => qb ω1 ρ (fun ω2 y => f x y fun z => ∃ b, z = .bl b ∧ if b = true then qc ω2 ρ (fun ω3 w => g y w (Q ω3)) E else Q ω2 (.bl false)) E) E
theorem lf_chain {K : PySem.W.Frag} {r r' : R2} {f g : D → D → (D → Prop) → Prop} (hp : OpP .A K r f) (hp' : OpP .A K r' g) (σ : L2.St) (H : Hp) (Q : VK) (h : lfE .A K W Wo (qChain f g qa qb qc) σ H Q) : tChain r r' (lfE m1 K W Wo qa) (lfE m2 K W Wo qb) (lfE m3 K W Wo qc) σ H Q := by
  obtain ⟨F, T, ω, ρ, Qp, Ep, R, q, hx, k⟩ := h
  refine ⟨F, T, ω, ρ, _, Ep, R, q, hx, fun T1 ω1 d v H1 R1 e1 r1 q1 => ?_⟩
  refine ⟨F, T1, ω1, ρ, _, Ep, R1, q1, hx, fun T2 ω2 e w H2 R2 e2 r2 q2 => ?_⟩
  refine hp _ _ H2 d e v w _ _ R2.spl (R1.ext_RC e2 r1.c) r2.c q2 fun x u H3 g3 rr ⟨b, z, qq⟩ => ?_
  subst z
  refine ⟨b, (RR.c (m := .A) rr).bl, ?_⟩
  have R3 := R2.grow g3
  have e3 := (e1.trans e2).trans (Ext.of0 (T := T2) g3)
  cases b with
  | false => exact k T2 ω2 _ _ H3 R3 e3 (.bl false) qq
  | true =>
    refine ⟨F, T2, ω2, ρ, _, Ep, R3, qq, hx, fun T4 ω4 e' w' H4 R4 e4 r4 q4 => ?_⟩
    refine hp' _ _ H4 _ e' _ w' _ _ R4.spl (R3.ext_RC e4 (R2.ext_RC (Ext.of0 g3) r2.c)) r4.c q4 fun x' u' H5 g5 rr' qq' => ?_
    exact k T4 ω4 x' u' H5 (R4.grow g5) ((e3.trans e4).trans (Ext.of0 g5)) rr' qq'
theorem qe_chain {op op' : CmpOp} {r r' : R2} {f g : D → D → (D → Prop) → Prop} (ho : OpR X (compareOp op) r) (ho' : OpR X (compareOp op') r') (hp : OpP .A X.K r f) (hp' : OpP .A X.K r' g) (ha : QE X m1 W Wo a qa) (hb : QE X m2 W Wo b qb) (hc : QE X m3 W Wo c qc) (hm : lastMarks [op, op'] [b, c] = false := by with_unfolding_all rfl) :
    QE X .A W Wo (.Compare a [op, op'] [b, c] pos) (qChain f g qa qb qc) := PE.imp (pe_chain ho ho' ha hb hc hm) (lf_chain hp hp')
theorem qb_chain {op op' : CmpOp} {r r' : R2} {f g : D → D → (D → Prop) → Prop} (ho : OpR X (compareOp op) r) (ho' : OpR X (compareOp op') r') (hp : OpP .A X.K r f) (hp' : OpP .A X.K r' g) (ha : QE X m1 W Wo a qa) (hb : QE X m2 W Wo b qb) (hc : QE X m3 W Wo c qc) (hm : lastMarks [op, op'] [b, c] = false := by with_unfolding_all rfl) :
    QB X W Wo (.Compare a [op, op'] [b, c] pos) (qTe (qChain f g qa qb qc)) := PT.imp (pt_chain ho ho' ha hb hc hm) fun σ H Q ⟨F, T, ω, ρ, Qp, Ep, R, q, hx, k⟩ =>
  lf_chain hp hp' σ H _ ⟨F, T, ω, ρ, _, Ep, R, q, hx, fun T' ω' d v H' R' e r ⟨b, z, q'⟩ => by subst z; exact ⟨b, (RR.c r).bl, k T' ω' b H' R' e q'⟩⟩
/-- a if t else b -/
def qIfE (qt : QTT W) (qa qb : QT W) : QT W := fun ω ρ Q E => qt ω ρ (fun ω1 b => if b = true then qa ω1 ρ Q E else qb ω1 ρ Q E) E
theorem qe_ifE (ht : QB X W Wo c qt) (ha : QE X m1 W Wo a qa) (hb : QE X m2 W Wo b qb) (l1 : m1.le m = true := by rfl) (l2 : m2.le m = true := by rfl) : QE X m W Wo (.IfExp c a b pos) (qIfE qt qa qb) := PE.imp (pe_ifExp ht ha hb) fun σ H Q ⟨F, T, ω, ρ, Qp, Ep, R, q, hx, k⟩ =>
  ⟨F, T, ω, ρ, _, Ep, R, q, hx, fun T' ω' b H' R' e q' => by
    cases b with
    | true => exact ⟨F, T', ω', ρ, _, Ep, R', q', hx, fun T2 ω2 b2 v2 H2 R2 e2 r2 q2 => k T2 ω2 b2 v2 H2 R2 (e.trans e2) ((r2.up l1).back e.gr.live) q2⟩
    | false => exact ⟨F, T', ω', ρ, _, Ep, R', q', hx, fun T2 ω2 b2 v2 H2 R2 e2 r2 q2 => k T2 ω2 b2 v2 H2 R2 (e.trans e2) ((r2.up l2).back e.gr.live) q2⟩⟩

/-! ### arguments, displays -/
def qNil : QTA W := fun ω _ Q _ => Q ω []
def qCons (qa : QT W) (qs : QTA W) : QTA W := fun ω ρ Q E => qa ω ρ (fun ω1 d => qs ω1 ρ (fun ω2 ds => Q ω2 (d :: ds)) E) E
theorem qa_nil : QA X m W Wo [] qNil := PA.imp pa_nil fun σ H Q ⟨F, T, ω, ρ, Qp, Ep, R, q, hx, k⟩ => k T ω [] [] H R .refl .nil q
theorem qa_cons (ha : QE X m1 W Wo e qa) (hr : QA X m W Wo es qs) (hm : m.sta = true := by rfl) (l : m1.le m = true := by rfl) (hs : starEach (e :: es) X.env = (false, eval e X.env) :: starEach es X.env := by rfl) : QA X m W Wo (e :: es) (qCons qa qs) := PA.imp (pa_cons ha hr hs) fun σ H Q ⟨F, T, ω, ρ, Qp, Ep, R, q, hx, k⟩ =>
  ⟨F, T, ω, ρ, _, Ep, R, q, hx, fun T1 ω1 d v H1 R1 e1 r1 q1 => ⟨F, T1, ω1, ρ, _, Ep, R1, q1, hx, fun T2 ω2 ds vs H2 R2 e2 r2 q2 =>
    k T2 ω2 (d :: ds) (v :: vs) H2 R2 (e1.trans e2) (.cons (R1.ext_RR e2 hm ((r1.up l).at (by intro z; subst z; cases hm))) r2) q2⟩⟩
/-- *x -/
def qStar (qa : QT W) (qs : QTA W) : QTA W := fun ω ρ Q E => qa ω ρ (fun ω1 d => ∃ ds, (d = .lst ds ∨ d = .tup ds) ∧ qs ω1 ρ (fun ω2 es => Q ω2 (ds ++ es)) E) E
theorem ROs.of {K : PySem.W.Frag} {H : Hp} {S : ASet} {os : List Addr} {m : Md} (h : ∀ d v, RepA K H S d v → RR m K H H S os d v) : ∀ {ds : List D} {vs : List V}, RepsA K H S ds vs → ROs m K H S os ds vs
  | _, _, .nil => .nil
  | _, _, .cons q r => .cons (h _ _ q) (ROs.of h r)
theorem ROs.append {K : PySem.W.Frag} {H : Hp} {S : ASet} {os : List Addr} {m : Md} {es : List D} {ws : List V} (h' : ROs m K H S os es ws) : ∀ {ds : List D} {vs : List V}, ROs m K H S os ds vs → ROs m K H S os (ds ++ es) (vs ++ ws)
  | _, _, .nil => h'
  | _, _, .cons h r => .cons h (ROs.append h' r)
theorem rr_a {K : PySem.W.Frag} {H : Hp} {S : ASet} {os : List Addr} : ∀ {m : Md}, m.sta = true → ∀ d v, RepA K H S d v → RR m K H H S os d v
  | .A, _, _, _, h => h
  | .O, _, _, _, h => .inl h
  | .C, _, _, _, h => .inl (.inl h)
theorem qa_star {p : Pos} (ha : QE X m1 W Wo e qa) (hr : QA X m W Wo es qs) (hm : m.sta = true := by rfl) (hs : starEach (.Starred e p :: es) X.env = (true, eval e X.env) :: starEach es X.env := by rfl) : QA X m W Wo (.Starred e p :: es) (qStar qa qs) := PA.imp (StX.pa_star ha hr hs) fun σ H Q ⟨F, T, ω, ρ, Qp, Ep, R, q, hx, k⟩ =>
  ⟨F, T, ω, ρ, _, Ep, R, q, hx, fun T1 ω1 d v H1 R1 e1 r1 ⟨ds, z, q1⟩ => by
    have fin : ∀ {a : Addr} {xs : List V}, RepsA X.K H1 (Spr F T1 ρ) ds xs → lfA m X.K W Wo qs σ H1 (fun vs H2 => Q (xs ++ vs) H2) := fun {a xs} hr => ⟨F, T1, ω1, ρ, _, Ep, R1, q1, hx, fun T2 ω2 es vs H2 R2 e2 r2 q2 =>
      k T2 ω2 _ _ H2 R2 (e1.trans e2) (ROs.append r2 (ROs.of (rr_a hm) (R1.ext_reps e2 hr))) q2⟩
    rcases z with rfl | rfl
    · obtain ⟨l, xs, rfl, hl, hr, _⟩ := r1.c.lst
      exact ⟨l, xs, rfl, .inr hl, fin (a := l) hr⟩
    · obtain ⟨l, xs, rfl, hl, hr⟩ := r1.c.tup
      exact ⟨l, xs, rfl, .inl hl, fin (a := l) hr⟩⟩
def fLst (ds : List D) (Q : D → Prop) : Prop := ds.length ≤ 1000000 ∧ Q (.lst ds)
def fTup (ds : List D) (Q : D → Prop) : Prop := ds.length ≤ 1000000 ∧ Q (.tup ds)
theorem lstP {K : PySem.W.Frag} : CaP .A .F K rNewL fLst := fun S os H ds vs Q Qp hS r ⟨hl, h⟩ k => by
  have r := r.reps
  exact ⟨by rw [r.len]; exact small6 hl, fun p hp => k _ _ _ (GrP.new hp) (rf_new hS hp r) h⟩
theorem qe_lst (h : QA X .A W Wo es qs) : QE X .F W Wo (.List es pos) (qCa fLst qs) := PE.imp (pe_lstN h) (lf_ca lstP)
/-- a tuple whose object is known -/
def rNewX : List V → Hp → VK → Prop := fun xs H Q => xs.length ≤ sizeLine ∧ ∀ p o, H p = none → o.dict = none → Q (.ref p) (upd H p (.frz o (.tup xs)))
theorem pe_tupX {X : Cx} {es : List Expr} {t : TA} {pos : Pos} {k : Nat} (h : PA X es t) : PE X (.Tuple es k pos) (tCB rNewX t) := by
  refine ⟨fun pins s σ H Q I hq => ?_⟩
  refine wpAny_Tuple_spliced (thn (h.run pos pins s σ H _ I hq) fun us s1 ⟨xs, H1, I1, r, z, q⟩ => ⟨by rw [← r.length]; exact z, ?_⟩)
  have hf : H1 s1.heap.objs.size = none := I1.hok.fresh (Nat.le_refl _)
  have hg : (s1.heap.push { cls := .type "tuple", data := .seq us.toArray }).get? s1.heap.objs.size = some { cls := .type "tuple", data := .seq us.toArray } := Heap.get?_push_size _ rfl
  refine ⟨.ref s1.heap.objs.size, upd H1 s1.heap.objs.size (.frz { cls := .type "tuple", data := .seq us.toArray } (.tup xs)), I1.laid (t' := s1.toks) (fun b u e => Heap.get?_push_of_some _ e) (Nat.le_refl _) ?_, rfl, q _ _ hf rfl⟩
  exact ⟨hg, z, us, r, ⟨_, hg, rfl, _, rfl⟩⟩
theorem tupP {K : PySem.W.Frag} : CaP .A .A K rNewX fTup := fun S os H ds vs Q Qp hS r ⟨hl, h⟩ k => by
  have r := r.reps
  exact ⟨by rw [r.len]; exact small6 hl, fun p o hp ho => k _ _ _ (GrP.new hp) (.tup ⟨o, upd_same, ho⟩ (r.ext (GrP.new hp) (fun _ z => z.elim) fun a z => .inl z)) h⟩
theorem qe_tup {n : Nat} (h : QA X .A W Wo es qs) : QE X .A W Wo (.Tuple es n pos) (qCa fTup qs) := PE.imp (pe_tupX h) (lf_ca tupP)
end
end LW

namespace LW
open PySem PySem.Spec PyProof.Rows L2
/-! # rules of the pure layer: built-ins, calls -/
section
variable {X : Cx} {W : Wrl} {Wo : WX} {m m1 m2 m3 : Md} {e a b c : Expr} {es : List Expr} {i : Nat} {pos : Pos} {q qa qb qc : QT W} {qs : QTA W} {qt : QTT W}
/-! ### built-ins -/
theorem qe_cB {ma : Md} {r : List V → Hp → VK → Prop} {f : List D → (D → Prop) → Prop} {x : Str} {id : String} {p : Pos} (hc : CallR X (.builtin id) r) (hp : CaP ma m X.K r f) (hg : Gl X x) (hm : X.mg x = none) (hv : bootBuiltins x = some (.builtin id)) (ha : QA X ma W Wo (e :: es) qs)
    (hn : x ≠ "__name__" := by decide) (hdb : (x == ("__debug__" : Str)) = false := by decide) (h1 : starEach (e :: es) X.env = (false, eval e X.env) :: starEach es X.env := by rfl) (h2 : (backTo pos (starEach es X.env)).any (·.1) = false := by rfl) :
    QE X m W Wo (.Call (.Name x p) (e :: es) [] pos) (qCa f qs) := PE.imp (pe_callB hc hg hm hv ha hn hdb h1 h2) (lf_ca hp)
theorem qe_cT {ma : Md} {r : List V → Hp → VK → Prop} {f : List D → (D → Prop) → Prop} {x : Str} {T : String} {p : Pos} (hc : CallR X (.type T) r) (hp : CaP ma m X.K r f) (hg : Gl X x) (hm : X.mg x = none) (hv : bootBuiltins x = some (.type T)) (ha : QA X ma W Wo (e :: es) qs)
    (hn : x ≠ "__name__" := by decide) (hdb : (x == ("__debug__" : Str)) = false := by decide) (h1 : starEach (e :: es) X.env = (false, eval e X.env) :: starEach es X.env := by rfl) (h2 : (backTo pos (starEach es X.env)).any (·.1) = false := by rfl) :
    QE X m W Wo (.Call (.Name x p) (e :: es) [] pos) (qCa f qs) := PE.imp (pe_callTy hc hg hm hv ha hn hdb h1 h2) (lf_ca hp)
def fLen : List D → (D → Prop) → Prop
  | [.lst ds], Q => Q (.int ds.length)
  | [.tup ds], Q => Q (.int ds.length)
  | _, _ => False
theorem lenP {K : PySem.W.Frag} : CaP .C .A K (rLenA K) fLen := fun S os H ds vs Q Qp hS r h k => by
  unfold fLen at h
  split at h
  · obtain ⟨v, rfl, rv⟩ := r.one
    obtain ⟨l, xs, rfl, hl, hr, _⟩ := rv.c.lst
    rw [← hr.len] at h
    exact ⟨l, xs, rfl, .inl hl, k _ _ H (GrP.refl _ _) (.int _) h⟩
  · obtain ⟨v, rfl, rv⟩ := r.one
    obtain ⟨l, xs, rfl, hl, hr⟩ := rv.c.tup
    rw [← hr.len] at h
    exact ⟨l, xs, rfl, .inr hl, k _ _ H (GrP.refl _ _) (.int _) h⟩
  · exact h.elim
def fLenS : List D → (D → Prop) → Prop
  | [.str z], Q => z.length ≤ sizeLine ∧ Q (.int z.length)
  | _, _ => False
def rLenS : List V → Hp → VK → Prop := fun xs H Q => ∃ z, xs = [.str z] ∧ z.length ≤ sizeLine ∧ Q (.int z.length) H
theorem cr_lenS {X : Cx} : CallR X (.builtin "len") rLenS := call_len_str
theorem lenSP {K : PySem.W.Frag} : CaP .C .A K rLenS fLenS := fun S os H ds vs Q Qp hS r h k => by
  unfold fLenS at h
  split at h
  · obtain ⟨v, rfl, rv⟩ := r.one
    rw [rv.c.str]
    exact ⟨_, rfl, h.1, k _ _ H (GrP.refl _ _) (.int _) h.2⟩
  · exact h.elim
/-- list(x) -/
def fList : List D → (D → Prop) → Prop
  | [.lst ds], Q => Q (.lst ds)
  | [.tup ds], Q => Q (.lst ds)
  | _, _ => False
theorem listP {K : PySem.W.Frag} : CaP .C .F K (rListOf K) fList := fun S os H ds vs Q Qp hS r h k => by
  unfold fList at h
  split at h
  · obtain ⟨v, rfl, rv⟩ := r.one
    obtain ⟨l, xs, rfl, hl, hr, _⟩ := rv.c.lst
    exact ⟨l, xs, rfl, .inl hl, fun p hp => k _ _ _ (GrP.new hp) (rf_new hS hp hr) h⟩
  · obtain ⟨v, rfl, rv⟩ := r.one
    obtain ⟨l, xs, rfl, hl, hr⟩ := rv.c.tup
    exact ⟨l, xs, rfl, .inr hl, fun p hp => k _ _ _ (GrP.new hp) (rf_new hS hp hr) h⟩
  · exact h.elim
/-- tuple(x) -/
def fTuple : List D → (D → Prop) → Prop
  | [.lst ds], Q => Q (.tup ds)
  | [.tup ds], Q => Q (.tup ds)
  | _, _ => False
theorem ra_tup {K : PySem.W.Frag} {H : Hp} {S : ASet} {p : Addr} {o : Obj} {xs : List V} {ds : List D} (hp : H p = none) (ho : o.dict = none) (r : RepsA K H S ds xs) : RepA K (upd H p (.frz o (.tup xs))) S (.tup ds) (.ref p) :=
  .tup ⟨o, upd_same, ho⟩ (r.ext (GrP.new hp) (fun _ z => z.elim) fun a z => .inl z)
theorem tupleP {K : PySem.W.Frag} : CaP .O .A K (rTupleOf K) fTuple := fun S os H ds vs Q Qp hS r h k => by
  unfold fTuple at h
  split at h
  · obtain ⟨v, rfl, rv⟩ := r.one
    obtain ⟨l, xs, rfl, hl, hr, _⟩ := RO.lst rv
    exact ⟨l, xs, rfl, .inl ⟨hl, fun p o hp ho => k _ _ _ (GrP.new hp) (ra_tup hp ho hr) h⟩⟩
  · obtain ⟨v, rfl, rv⟩ := r.one
    obtain ⟨l, xs, rfl, hl, hr⟩ := RO.tup rv
    exact ⟨l, xs, rfl, .inr ⟨hl.sqt, k _ _ H (GrP.refl _ _) (.tup hl hr) h⟩⟩
  · exact h.elim
def fAbs : List D → (D → Prop) → Prop
  | [.int i], Q => Q (.int (if i < 0 then -i else i))
  | _, _ => False
theorem absP {K : PySem.W.Frag} : CaP .C .A K rAbs fAbs := fun S os H ds vs Q Qp hS r h k => by
  unfold fAbs at h
  split at h
  · obtain ⟨v, rfl, rv⟩ := r.one
    rw [rv.c.int]
    exact ⟨_, rfl, k _ _ H (GrP.refl _ _) (.int _) h⟩
  · exact h.elim
def fInt : List D → (D → Prop) → Prop
  | [.int i], Q => Q (.int i)
  | [.bl b], Q => Q (.int (if b then 1 else 0))
  | _, _ => False
theorem intP {K : PySem.W.Frag} : CaP .C .A K rInt1 fInt := fun S os H ds vs Q Qp hS r h k => by
  unfold fInt at h
  split at h
  · obtain ⟨v, rfl, rv⟩ := r.one
    rw [rv.c.int]
    exact .inl ⟨_, rfl, k _ _ H (GrP.refl _ _) (.int _) h⟩
  · obtain ⟨v, rfl, rv⟩ := r.one
    rw [rv.c.bl]
    exact .inr ⟨_, rfl, k _ _ H (GrP.refl _ _) (.int _) h⟩
  · exact h.elim
/-- sum, max, min of a list of ints -/
def fSum (ds : List D) (Q : D → Prop) : Prop := ∃ ns : List Int, ds = [.lst (dInts ns)] ∧ Q (.int ns.sum)
def fMax (ds : List D) (Q : D → Prop) : Prop := ∃ ns : List Int, ds = [.lst (dInts ns)] ∧ 0 < ns.length ∧ ∀ m, m ∈ ns → (∀ y, y ∈ ns → y ≤ m) → Q (.int m)
def fMin (ds : List D) (Q : D → Prop) : Prop := ∃ ns : List Int, ds = [.lst (dInts ns)] ∧ 0 < ns.length ∧ ∀ m, m ∈ ns → (∀ y, y ∈ ns → m ≤ y) → Q (.int m)
theorem sumP {K : PySem.W.Frag} : CaP .C .A K (rSum K) fSum := fun S os H ds vs Q Qp hS r ⟨ns, e, h⟩ k => by
  subst e
  obtain ⟨v, rfl, rv⟩ := r.one
  obtain ⟨l, xs, rfl, hl, hr, _⟩ := rv.c.lst
  rw [hr.ints] at hl
  exact ⟨l, ns, rfl, hl, k _ _ H (GrP.refl _ _) (.int _) h⟩
theorem maxP {K : PySem.W.Frag} : CaP .C .A K (rMax K) fMax := fun S os H ds vs Q Qp hS r ⟨ns, e, h0, h⟩ k => by
  subst e
  obtain ⟨v, rfl, rv⟩ := r.one
  obtain ⟨l, xs, rfl, hl, hr, _⟩ := rv.c.lst
  rw [hr.ints] at hl
  exact ⟨l, ns, rfl, hl, h0, fun m h1 h2 => k _ _ H (GrP.refl _ _) (.int _) (h m h1 h2)⟩
theorem minP {K : PySem.W.Frag} : CaP .C .A K (rMin K) fMin := fun S os H ds vs Q Qp hS r ⟨ns, e, h0, h⟩ k => by
  subst e
  obtain ⟨v, rfl, rv⟩ := r.one
  obtain ⟨l, xs, rfl, hl, hr, _⟩ := rv.c.lst
  rw [hr.ints] at hl
  exact ⟨l, ns, rfl, hl, h0, fun m h1 h2 => k _ _ H (GrP.refl _ _) (.int _) (h m h1 h2)⟩
/-! list(range(..)), tuple(range(..)) -/
def rgI (a b : Int) : List Int := (List.range (b - a).toNat).map fun (i : Nat) => a + (i : Int)
theorem rgV_rgI (a b : Int) : rgV a b = (rgI a b).map V.int := by
  unfold rgV rgI
  rw [List.map_map] <;> rfl
theorem rgI_rg (n : Nat) : rgI 0 n = rg n := by
  unfold rgI rg
  rw [show ((n : Int) - 0).toNat = n by omega]
  exact List.map_congr_left fun i _ => Int.zero_add _
def qRg1 (qa : QT W) : W.Ω → List Sl → (W.Ω → Int → Int → Prop) → (W.Ω → Exn → Prop) → Prop := fun ω ρ k E => qa ω ρ (fun ω1 x => ∃ n, x = .int n ∧ k ω1 0 n) E
def qRg2 (qa qb : QT W) : W.Ω → List Sl → (W.Ω → Int → Int → Prop) → (W.Ω → Exn → Prop) → Prop := fun ω ρ k E => qa ω ρ (fun ω1 x => qb ω1 ρ (fun ω2 y => ∃ n k', x = .int n ∧ y = .int k' ∧ k ω2 n k') E) E
abbrev QTR (W : Wrl) := W.Ω → List Sl → (W.Ω → Int → Int → Prop) → (W.Ω → Exn → Prop) → Prop
def qListRg (qr : QTR W) : QT W := fun ω ρ Q E => qr ω ρ (fun ω1 i j => RgOk i j ∧ Q ω1 (.lst (dInts (rgI i j)))) E
def qTupRg (qr : QTR W) : QT W := fun ω ρ Q E => qr ω ρ (fun ω1 i j => RgOk i j ∧ Q ω1 (.tup (dInts (rgI i j)))) E
def lfR (K : PySem.W.Frag) (W : Wrl) (Wo : WX) (q : QTR W) : L2.St → Hp → (Int → Int → Hp → Prop) → Prop := fun σ H Q => ∃ (F : Frm) (T : ASet) (ω : W.Ω) (ρ : List Sl) (Qp : W.Ω → Int → Int → Prop) (Ep : W.Ω → Exn → Prop), Rel K W F T ω ρ σ H ∧ q ω ρ Qp Ep ∧ XOk K W Wo F ρ σ Ep ∧
  ∀ T' ω' i j H', Rel K W F T' ω' ρ σ H' → Ext T H T' H' → Qp ω' i j → Q i j H'
def QR (X : Cx) (W : Wrl) (Wo : WX) (e : Expr) (q : QTR W) : Prop := PRg X e (lfR X.K W Wo q)
theorem PRg.imp {X : Cx} {e : Expr} {t t' : L2.St → Hp → (Int → Int → Hp → Prop) → Prop} (h : PRg X e t) (k : ∀ σ H Q, t' σ H Q → t σ H Q) : PRg X e t' := fun pins s σ H Q I q => h pins s σ H Q I (k σ H Q q)
theorem qr_1 {p : Pos} (hg : Gl X "range") (hm : X.mg "range" = none) (ha : QE X m W Wo a qa) (na : starEach [a] X.env = (false, eval a X.env) :: starEach [] X.env := by rfl) : QR X W Wo (.Call (.Name "range" p) [a] [] pos) (qRg1 qa) := PRg.imp (prg_1 hg hm ha na) fun σ H Q ⟨F, T, ω, ρ, Qp, Ep, R, q, hx, k⟩ =>
  ⟨F, T, ω, ρ, _, Ep, R, q, hx, fun T1 ω1 d v H1 R1 e1 r1 ⟨n, z, q1⟩ => by subst z; exact ⟨n, r1.c.int, k T1 ω1 0 n H1 R1 e1 q1⟩⟩
theorem qe_listRg {p : Pos} {qr : QTR W} (hc : X.calm = true) (hg : Gl X "list") (hm : X.mg "list" = none) (he : QR X W Wo e qr) (na : starEach [e] X.env = (false, eval e X.env) :: starEach [] X.env := by rfl) :
    QE X .F W Wo (.Call (.Name "list" p) [e] [] pos) (qListRg qr) := PE.imp (pe_listRg hc hg hm he na) fun σ H Q ⟨F, T, ω, ρ, Qp, Ep, R, q, hx, k⟩ =>
  ⟨F, T, ω, ρ, _, Ep, R, q, hx, fun T1 ω1 i j H1 R1 e1 ⟨ok, q1⟩ => ⟨ok, fun p hp => k T1 ω1 _ _ _ (R1.grow (GrP.new hp)) (e1.trans (Ext.of0 (GrP.new hp))) (RR.back (m := .F) e1.gr.live (rf_new R1.spl hp (show RepsA X.K H1 _ (dInts (rgI i j)) (rgV i j) from by rw [rgV_rgI]; exact repsA_ints _))) q1⟩⟩
theorem qr_2 {p : Pos} (hg : Gl X "range") (hm : X.mg "range" = none) (ha : QE X m1 W Wo a qa) (hb : QE X m2 W Wo b qb) (na : starEach [a, b] X.env = (false, eval a X.env) :: starEach [b] X.env := by rfl)
    (nb : starEach [b] X.env = (false, eval b X.env) :: starEach [] X.env := by rfl) (hp : (backTo pos (starEach [b] X.env)).any (·.1) = false := by rfl) : QR X W Wo (.Call (.Name "range" p) [a, b] [] pos) (qRg2 qa qb) := PRg.imp (prg_2 hg hm ha hb na nb hp) fun σ H Q ⟨F, T, ω, ρ, Qp, Ep, R, q, hx, k⟩ =>
  ⟨F, T, ω, ρ, _, Ep, R, q, hx, fun T1 ω1 d v H1 R1 e1 r1 q1 => ⟨F, T1, ω1, ρ, _, Ep, R1, q1, hx, fun T2 ω2 d2 v2 H2 R2 e2 r2 ⟨n, n2, z, z2, q2⟩ => by subst z z2; exact ⟨n, n2, r1.c.int, r2.c.int, k T2 ω2 n n2 H2 R2 (e1.trans e2) q2⟩⟩⟩
theorem pe_tupRgX {te : L2.St → Hp → (Int → Int → Hp → Prop) → Prop} {p : Pos} (hc : X.calm = true) (hg : Gl X "tuple") (hm : X.mg "tuple" = none) (he : PRg X e te) (na : starEach [e] X.env = (false, eval e X.env) :: starEach [] X.env := by rfl) : PE X (.Call (.Name "tuple" p) [e] [] pos) (fun σ H Q => te σ H fun a b H1 => RgOk a b ∧ ∀ q o, H1 q = none → o.dict = none → Q (.ref q) (upd H1 q (.frz o (.tup (rgV a b))))) := by
  refine ⟨fun pins s σ H Q I h => ?_⟩
  refine Call_ (ld_blt I hg hm boot_tuple (PyProof.Rows.callWith_type1 (args_cons (thn (he pins s σ H _ I h) fun x s1 ⟨r, a, b, t, u, v, H1, ex, hr, I1, ok, q⟩ => args_nil ?_) na) na))
  subst ex
  obtain ⟨b1, b2, b3, b4, b5⟩ := ok
  refine call_tuple_range (n := (b - a).toNat) (I1.ok.hd hc) hr (small_one b1 b2 b3 b4) (rangeSize_nat a b) b5 fun h' tk acc hk hi => ?_
  have I2 : Inv X pins σ H1 { s1 with heap := h', toks := tk } := I1.kept hk
  have hg2 : (h'.push { cls := .type "tuple", data := .seq acc }).get? h'.objs.size = some { cls := .type "tuple", data := .seq acc } := Heap.get?_push_size _ rfl
  refine ⟨.ref h'.objs.size, upd H1 h'.objs.size (.frz { cls := .type "tuple", data := .seq acc } (.tup (rgV a b))), I2.laid (t' := tk) (fun c o e => Heap.get?_push_of_some _ e) (Nat.le_refl _) (show ObjOk X.prog X.w _ _ _ (.frz _ (.tup (rgV a b))) from ⟨hg2, ?_, acc.toList, vals_rg hi, ?_⟩), rfl, q _ _ (I2.hok.fresh (Nat.le_refl _)) rfl⟩
  · rw [rgV_length, sizeLine_eq]; omega
  · rw [Array.toArray_toList]; exact IsTup.new _ _
theorem qe_tupRg {p : Pos} {qr : QTR W} (hc : X.calm = true) (hg : Gl X "tuple") (hm : X.mg "tuple" = none) (he : QR X W Wo e qr) (na : starEach [e] X.env = (false, eval e X.env) :: starEach [] X.env := by rfl) :
    QE X .A W Wo (.Call (.Name "tuple" p) [e] [] pos) (qTupRg qr) := PE.imp (pe_tupRgX hc hg hm he na) fun σ H Q ⟨F, T, ω, ρ, Qp, Ep, R, q, hx, k⟩ =>
  ⟨F, T, ω, ρ, _, Ep, R, q, hx, fun T1 ω1 i j H1 R1 e1 ⟨ok, q1⟩ => ⟨ok, fun p o hp ho => k T1 ω1 _ _ _ (R1.grow (GrP.new hp)) (e1.trans (Ext.of0 (GrP.new hp))) (ra_tup hp ho (show RepsA X.K H1 _ (dInts (rgI i j)) (rgV i j) from by rw [rgV_rgI]; exact repsA_ints _)) q1⟩⟩
end

/-! ### calls -/
abbrev PSp (W : Wrl) := W.Ω → List D → (W.Ω → D → Prop) → (W.Ω → Exn → Prop) → Prop
/-- a def's promise, told by data -/
def spM (mr : Md) (K : PySem.W.Frag) (W : Wrl) (pf : PSp W) : Sp := fun vs H Q E => ∃ (S T : ASet) (ω : W.Ω) (ds : List D) (Qp : W.Ω → D → Prop) (Ep : W.Ω → Exn → Prop), (∀ a, S a → H a ≠ none ∧ ¬ T a) ∧ W.inv ω T H ∧ RepsA K H (fun a => S a ∨ T a) ds vs ∧ pf ω ds Qp Ep ∧
  (∀ T' ω' d v H', Ext T H T' H' → W.inv ω' T' H' → RT mr K ⟨H, S, T, []⟩ T' H' d v → Qp ω' d → Q v H') ∧ ∀ T' ω' x cls dd H', Ext T H T' H' → W.inv ω' T' H' → XRep K H' x cls dd → Ep ω' x → E cls dd H'
/-- a def that knows no world, called in one -/
def inW (W : Wrl) (pf : PSp W0) : PSp W := fun ω ds Q E => pf () ds (fun _ d => Q ω d) fun _ x => E ω x
/-- what it hands back holds no list -/
def pureP {W : Wrl} (pf : PSp W) : PSp W := fun ω ds Q E => pf ω ds (fun ω' d => d.pure = true ∧ Q ω' d) E
section
variable {K : PySem.W.Frag} {W : Wrl} {Wo : WX} {mr m : Md} {pf : PSp W} {qs : QTA W}
theorem spM_inW {pf : PSp W0} {vs : List V} {H : Hp} {Q : VK} {E : XK} (h : spM mr K W (inW W pf) vs H Q E) : spM mr K W0 pf vs H Q E := by
  obtain ⟨S, T, ω, ds, Qp, Ep, hS, hi, r, q, k, kx⟩ := h
  refine ⟨fun a => S a ∨ T a, nop, (), ds, _, _, fun a z => ⟨fun e => ?_, fun z => z⟩, fun a z => z, r.less fun a z => z.elim id fun z => z.elim, q, fun T' ω' d v H' e i' rt q' => ?_, fun T' ω' x cls dd H' e i' xr q' => ?_⟩
  · rcases z with z | z
    · exact (hS a z).1 e
    · obtain ⟨o, h, _⟩ := W.lv hi z
      rw [h] at e; cases e
  · have e' : Ext T H T H' := Ext.of0 e.gr
    refine k T ω d v H' e' (W.st hi e.gr fun _ z => z.elim) ?_ q'
    cases mr with
    | F =>
      obtain ⟨l, xs, es, h1, h2, h3, h4, h5, h6⟩ := rt
      exact ⟨l, xs, es, h1, h2, h3, fun z => h4 (.inl z), h5, h6.less fun a z => z.imp (fun z => .inl z) id⟩
    | A => exact RepA.less (show RepA K H' _ d v from rt) fun a z => .inl z
    | O => exact RepA.less (show RepA K H' _ d v from rt) fun a z => .inl z
    | C => exact RepA.less (show RepA K H' _ d v from rt) fun a z => .inl z
  · exact kx T ω x cls dd H' (Ext.of0 e.gr) (W.st hi e.gr fun _ z => z.elim) xr q'
theorem FnOk.inW {P : Program} {w : World} {mg : Str → Option Value} {base : Heap} {CX : CXT} {k : Nat} {f : Addr} {fd : FuncData} {ps : List Str} {pf : PSp W0} (F : FnOk P w K mg base CX k f fd ps (spM mr K W0 pf)) (W : Wrl) : FnOk P w K mg base CX k f fd ps (spM mr K W (inW W pf)) := F.imp fun _ _ _ _ => spM_inW
theorem FnR.inW {P : Program} {w : World} {mg : Str → Option Value} {base : Heap} {CX : CXT} {k : Nat} {f : Addr} {pf : PSp W0} (F : FnR P w K mg base CX k f (spM mr K W0 pf)) (W : Wrl) : FnR P w K mg base CX k f (spM mr K W (inW W pf)) := F.imp fun _ _ _ _ => spM_inW
def qCall (pf : PSp W) (qs : QTA W) : QT W := fun ω ρ Q E => qs ω ρ (fun ω1 ds => pf ω1 ds Q E) E
theorem rt_rr {F : Frm} {T T' : ASet} {ρ : List Sl} {H H1 H' : Hp} {d : D} {v : V} (live : ∀ a, H1 a = none → H a = none) (h : RT mr K ⟨H1, fun a => F.S a ∨ a ∈ owns ρ, T, []⟩ T' H' d v) : RR mr K H H' (Spr F T' ρ) (owns ρ) d v := by
  have hs : ∀ a, Spr F T' ρ a → (F.S a ∨ a ∈ owns ρ) ∨ T' a := fun a z => by
    rcases z with z | z | z
    · exact .inl (.inl z)
    · exact .inr z
    · exact .inl (.inr z)
  cases mr with
  | F =>
    obtain ⟨l, xs, es, h1, h2, h3, h4, h5, h6⟩ := h
    exact ⟨l, xs, es, h1, h2, live l h3, fun z => h4 (hs l z), h5, h6.less fun a z => z.imp (hs a) id⟩
  | A => exact RepA.less (show RepA K H' _ d v from h) hs
  | O => exact .inl (RepA.less (show RepA K H' _ d v from h) hs)
  | C => exact .inl (.inl (RepA.less (show RepA K H' _ d v from h) hs))
/-- the promise at the values -/
theorem sp_at {F : Frm} {T T1 : ASet} {ω1 : W.Ω} {ρ : List Sl} {σ : L2.St} {H H1 : Hp} {ds : List D} {vs : List V} {Qp : W.Ω → D → Prop} {Ep : W.Ω → Exn → Prop} {Q : VK} (R1 : Rel K W F T1 ω1 ρ σ H1) (e1 : Ext T H T1 H1) (hx : XOk K W Wo F ρ σ Ep) (r : RepsA K H1 (Spr F T1 ρ) ds vs) (q : pf ω1 ds Qp Ep)
    (k : ∀ T' ω' d v H', Rel K W F T' ω' ρ σ H' → Ext T H T' H' → RR mr K H H' (Spr F T' ρ) (owns ρ) d v → Qp ω' d → Q v H') : spM mr K W pf vs H1 Q (WE Wo σ) := by
  refine ⟨fun a => F.S a ∨ a ∈ owns ρ, T1, ω1, ds, Qp, Ep, fun a z => ⟨R1.spl a (z.imp id fun z => .inr z), z.elim (fun z => (R1.s0 a z).2) fun z => (R1.own a z).2.1⟩, R1.inv, r.less fun a z => ?_, q, fun T' ω' d v H' e i' rt q' => ?_, fun T' ω' x cls dd H' e i' xr q' => ?_⟩
  · rcases z with (z | z) | z
    · exact .inl z
    · exact .inr (.inr z)
    · exact .inr (.inl z)
  · exact k T' ω' d v H' (R1.world e i') (e1.trans e) (rt_rr e1.gr.live rt) q'
  · exact hx T' ω' x cls dd H' (R1.world e i') xr q'
/-- arguments may be lists of the caller's own: what comes back holds no list -/
theorem sp_atO {F : Frm} {T T1 : ASet} {ω1 : W.Ω} {ρ : List Sl} {σ : L2.St} {H H1 : Hp} {ds : List D} {vs : List V} {Qp : W.Ω → D → Prop} {Ep : W.Ω → Exn → Prop} {Q : VK} (R1 : Rel K W F T1 ω1 ρ σ H1) (e1 : Ext T H T1 H1) (hx : XOk K W Wo F ρ σ Ep) (r : ROs .O K H1 (Spr F T1 ρ) (owns ρ) ds vs) (q : pf ω1 ds (fun ω' d => d.pure = true ∧ Qp ω' d) Ep)
    (k : ∀ T' ω' d v H', Rel K W F T' ω' ρ σ H' → Ext T H T' H' → RepA K H' (Spr F T' ρ) d v → Qp ω' d → Q v H') : spM .A K W pf vs H1 Q (WE Wo σ) := by
  refine ⟨F.S, T1, ω1, ds, _, Ep, R1.s0, R1.inv, r.off (fun a z => z.imp id fun z => .inl z) (fun l h z => ?_), q, fun T' ω' d v H' e i' rt ⟨hp, q'⟩ => ?_, fun T' ω' x cls dd H' e i' xr q' => ?_⟩
  · rcases z with z | z
    · exact (R1.own l h).2.2 z
    · exact (R1.own l h).2.1 z
  · exact k T' ω' d v H' (R1.world e i') (e1.trans e) (RepA.any (show RepA K H' _ d v from rt) hp) q'
  · exact hx T' ω' x cls dd H' (R1.world e i') xr q'
end
section
variable {X : Cx} {W : Wrl} {Wo : WX} {mr m m1 m2 : Md} {pf : PSp W} {qs : QTA W} {qo : QT W} {k : Nat} {f C : Addr} {fd : FuncData} {ps : List Str} {x mn : Str} {p pos apos : Pos} {e o a b fe : Expr} {es : List Expr} {qa qb : QT W}
theorem qe_call (F : FnOk X.prog X.w X.K X.mg X.base (L2N.CX X.prog X.w) k f fd ps (spM mr X.K W pf)) (hr : Room k X.A) (hg : Gl X x) (hm : X.mg x = some (.ref f)) (hk : PySem.W.keepIn X.K (.ref f) = true) (hb : Binds X.K fd ps []) (hx : ∀ σ, PassesAt (L2N.CX X.prog X.w) X σ (WE Wo σ))
    (ha : QA X .A W Wo (e :: es) qs) (hdb : (x == ("__debug__" : Str)) = false := by decide) (he : starEach (e :: es) X.env = (false, eval e X.env) :: starEach es X.env := by rfl) (hpl : (backTo pos (starEach es X.env)).any (·.1) = false := by rfl) :
    QE X mr W Wo (.Call (.Name x p) (e :: es) [] pos) (qCall pf qs) := PE.imp (pe_callS F hr hg hm hk hb hx ha hdb he hpl) fun σ H Q ⟨F, T, ω, ρ, Qp, Ep, R, q, hx, k⟩ =>
  ⟨F, T, ω, ρ, _, Ep, R, q, hx, fun T1 ω1 ds vs H1 R1 e1 r1 q1 => sp_at R1 e1 hx r1.reps q1 k⟩
theorem qe_callO (F : FnOk X.prog X.w X.K X.mg X.base (L2N.CX X.prog X.w) k f fd ps (spM .A X.K W pf)) (hr : Room k X.A) (hg : Gl X x) (hm : X.mg x = some (.ref f)) (hk : PySem.W.keepIn X.K (.ref f) = true) (hb : Binds X.K fd ps []) (hx : ∀ σ, PassesAt (L2N.CX X.prog X.w) X σ (WE Wo σ))
    (ha : QA X .O W Wo (e :: es) qs) (hdb : (x == ("__debug__" : Str)) = false := by decide) (he : starEach (e :: es) X.env = (false, eval e X.env) :: starEach es X.env := by rfl) (hpl : (backTo pos (starEach es X.env)).any (·.1) = false := by rfl) :
    QE X .A W Wo (.Call (.Name x p) (e :: es) [] pos) (qCall (pureP pf) qs) := PE.imp (pe_callS F hr hg hm hk hb hx ha hdb he hpl) fun σ H Q ⟨F, T, ω, ρ, Qp, Ep, R, q, hx, k⟩ =>
  ⟨F, T, ω, ρ, _, Ep, R, q, hx, fun T1 ω1 ds vs H1 R1 e1 r1 q1 => sp_atO R1 e1 hx r1 q1 k⟩
/-- methods of instances told as data -/
def qMeth (C : Addr) (mn : Str) (pf : PSp W) (qo : QT W) (qs : QTA W) : QT W := fun ω ρ Q E => qo ω ρ (fun ω1 d => ∃ ns ds, d = .ins C ns ds ∧ mn ∉ ns ∧ qs ω1 ρ (fun ω2 es => pf ω2 (d :: es) Q E) E) E
theorem lookup_zip {ns : List Str} {xs : List V} (h : mn ∉ ns) : (ns.zip xs).lookup mn = none := by
  induction ns generalizing xs with
  | nil => cases xs <;> rfl
  | cons n ns ih =>
    cases xs with
    | nil => rfl
    | cons x xs =>
      have h1 : mn ≠ n := fun z => h (z ▸ List.mem_cons_self)
      rw [List.zip_cons_cons, List.lookup_cons, show (mn == n) = false from beq_eq_false_iff_ne.mpr h1]
      exact ih fun z => h (List.mem_cons_of_mem _ z)
theorem RC.insR {K : PySem.W.Frag} {H : Hp} {S : ASet} {os : List Addr} {ns : List Str} {ds : List D} {v : V} (h : RC K H S os (.ins C ns ds) v) : ∃ a dx xs, v = .ref a ∧ H a = some (.ins C dx (ns.zip xs)) ∧ RepA K H S (.ins C ns ds) (.ref a) := by
  rcases h with (h | ⟨l, xs, ds', rfl, e, m, h, r⟩) | ⟨a, xs, ds', rfl, e, h, r⟩
  · have h' := h
    cases h with
    | ins h i l r => exact ⟨_, _, _, rfl, h, h'⟩
  · cases e
  · cases e
theorem qe_meth (he : QE X m W Wo o qo) (c : Cls X.K C) (hm : Meth X.K C mn f) (F : FnR X.prog X.w X.K X.mg X.base (L2N.CX X.prog X.w) k f (spM mr X.K W pf)) (hr : Room k X.A) (hx : ∀ σ, PassesAt (L2N.CX X.prog X.w) X σ (WE Wo σ)) (ha : QA X .A W Wo (e :: es) qs)
    (hst : starEach (e :: es) X.env = (false, eval e X.env) :: starEach es X.env := by rfl) (hpl : (backTo pos (starEach es X.env)).any (·.1) = false := by rfl)
    {pl : Sem Bool} (ht : eval (.Call (.Attribute o mn apos) (e :: es) [] pos) X.env = (do
      let ov ← eval o X.env
      standAt apos.atName
      let (f, first) ← holding [ov] (getMethod ov mn pl)
      callWith pos f first (backTo pos (starEach (e :: es) X.env)) (backToKw pos (keywordEach [] X.env))) := by rfl) :
    QE X mr W Wo (.Call (.Attribute o mn apos) (e :: es) [] pos) (qMeth C mn pf qo qs) := PE.imp (pe_methS he c hm F hr hx ha hst hpl ht) fun σ H Q ⟨F, T, ω, ρ, Qp, Ep, R, q, hx, k⟩ =>
  ⟨F, T, ω, ρ, _, Ep, R, q, hx, fun T1 ω1 d v H1 R1 e1 r1 ⟨ns, ds, z, hn, q1⟩ => by
    subst z
    obtain ⟨a, dx, xs, rfl, h1, ra⟩ := r1.c.insR
    exact ⟨a, dx, _, rfl, h1, lookup_zip hn, F, T1, ω1, ρ, _, Ep, R1, q1, hx, fun T2 ω2 es vs H2 R2 e2 r2 q2 => sp_at R2 (e1.trans e2) hx (.cons (R1.ext_rep e2 ra) r2.reps) q2 k⟩⟩
theorem qe_methO (he : QE X m W Wo o qo) (c : Cls X.K C) (hm : Meth X.K C mn f) (F : FnR X.prog X.w X.K X.mg X.base (L2N.CX X.prog X.w) k f (spM .A X.K W pf)) (hr : Room k X.A) (hx : ∀ σ, PassesAt (L2N.CX X.prog X.w) X σ (WE Wo σ)) (ha : QA X .O W Wo (e :: es) qs)
    (hst : starEach (e :: es) X.env = (false, eval e X.env) :: starEach es X.env := by rfl) (hpl : (backTo pos (starEach es X.env)).any (·.1) = false := by rfl)
    {pl : Sem Bool} (ht : eval (.Call (.Attribute o mn apos) (e :: es) [] pos) X.env = (do
      let ov ← eval o X.env
      standAt apos.atName
      let (f, first) ← holding [ov] (getMethod ov mn pl)
      callWith pos f first (backTo pos (starEach (e :: es) X.env)) (backToKw pos (keywordEach [] X.env))) := by rfl) :
    QE X .A W Wo (.Call (.Attribute o mn apos) (e :: es) [] pos) (qMeth C mn (pureP pf) qo qs) := PE.imp (pe_methS he c hm F hr hx ha hst hpl ht) fun σ H Q ⟨F, T, ω, ρ, Qp, Ep, R, q, hx, k⟩ =>
  ⟨F, T, ω, ρ, _, Ep, R, q, hx, fun T1 ω1 d v H1 R1 e1 r1 ⟨ns, ds, z, hn, q1⟩ => by
    subst z
    obtain ⟨a, dx, xs, rfl, h1, ra⟩ := r1.c.insR
    exact ⟨a, dx, _, rfl, h1, lookup_zip hn, F, T1, ω1, ρ, _, Ep, R1, q1, hx, fun T2 ω2 es vs H2 R2 e2 r2 q2 => sp_atO R2 (e1.trans e2) hx (.cons (.inl (R1.ext_rep e2 ra)) r2) q2 k⟩⟩
theorem qe_meth0 (he : QE X m W Wo o qo) (c : Cls X.K C) (hm : Meth X.K C mn f) (F : FnR X.prog X.w X.K X.mg X.base (L2N.CX X.prog X.w) k f (spM mr X.K W pf)) (hr : Room k X.A) (hx : ∀ σ, PassesAt (L2N.CX X.prog X.w) X σ (WE Wo σ))
    {pl : Sem Bool} (ht : eval (.Call (.Attribute o mn apos) [] [] pos) X.env = (do
      let ov ← eval o X.env
      standAt apos.atName
      let (f, first) ← holding [ov] (getMethod ov mn pl)
      callWith pos f first (backTo pos (starEach [] X.env)) (backToKw pos (keywordEach [] X.env))) := by rfl) :
    QE X mr W Wo (.Call (.Attribute o mn apos) [] [] pos) (qMeth C mn pf qo qNil) := PE.imp (pe_methS0 he c hm F hr hx ht) fun σ H Q ⟨F, T, ω, ρ, Qp, Ep, R, q, hx, k⟩ =>
  ⟨F, T, ω, ρ, _, Ep, R, q, hx, fun T1 ω1 d v H1 R1 e1 r1 ⟨ns, ds, z, hn, q1⟩ => by
    subst z
    obtain ⟨a, dx, xs, rfl, h1, ra⟩ := r1.c.insR
    exact ⟨a, dx, _, rfl, h1, lookup_zip hn, sp_at R1 e1 hx (.cons ra .nil) q1 k⟩⟩
/-- o(..), o an instance -/
def qObj (C : Addr) (pf : PSp W) (qo : QT W) (qs : QTA W) : QT W := fun ω ρ Q E => qo ω ρ (fun ω1 d => ∃ ns ds, d = .ins C ns ds ∧ qs ω1 ρ (fun ω2 es => pf ω2 (d :: es) Q E) E) E
theorem qe_obj (hf : QE X m W Wo fe qo) (c : StX.CallO X.K C f) (F : FnR X.prog X.w X.K X.mg X.base (L2N.CX X.prog X.w) k f (spM mr X.K W pf)) (hr : Room k X.A) (hx : ∀ σ, PassesAt (L2N.CX X.prog X.w) X σ (WE Wo σ)) (ha : QA X .A W Wo (e :: es) qs)
    (ht : eval (.Call fe (e :: es) [] pos) X.env = (do callWith pos (← eval fe X.env) [] (backTo pos (starEach (e :: es) X.env)) (backToKw pos (keywordEach [] X.env))) := by rfl)
    (he : starEach (e :: es) X.env = (false, eval e X.env) :: starEach es X.env := by rfl) (hpl : (backTo pos (starEach es X.env)).any (·.1) = false := by rfl) : QE X mr W Wo (.Call fe (e :: es) [] pos) (qObj C pf qo qs) := PE.imp (pe_callOS hf c F hr hx ha ht he hpl) fun σ H Q ⟨F, T, ω, ρ, Qp, Ep, R, q, hx, k⟩ =>
  ⟨F, T, ω, ρ, _, Ep, R, q, hx, fun T1 ω1 d v H1 R1 e1 r1 ⟨ns, ds, z, q1⟩ => by
    subst z
    obtain ⟨a, dx, xs, rfl, h1, ra⟩ := r1.c.insR
    exact ⟨a, rfl, F, T1, ω1, ρ, _, Ep, R1, q1, hx, fun T2 ω2 es vs H2 R2 e2 r2 q2 => by
      have ra2 := R1.ext_rep e2 ra
      obtain ⟨a', dx', xs', e', h2, _⟩ := RC.insR (.inl (.inl ra2) : RC X.K H2 _ (owns ρ) _ _)
      cases e'
      exact ⟨⟨dx', _, h2⟩, sp_at R2 (e1.trans e2) hx (.cons ra2 r2.reps) q2 k⟩⟩⟩
/-- operators of one's own -/
def qBin (C : Addr) (pf : PSp W) (qa qb : QT W) : QT W := fun ω ρ Q E => qa ω ρ (fun ω1 x => qb ω1 ρ (fun ω2 y => ∃ ns ds ns' ds', x = .ins C ns ds ∧ y = .ins C ns' ds' ∧ pf ω2 [x, y] Q E) E) E
theorem qe_bin {op : Operator} (c : OpO X.K C (PySem.dunder op.info.2) f) (F : FnR X.prog X.w X.K X.mg X.base (L2N.CX X.prog X.w) k f (spM mr X.K W pf)) (hr : Room k X.A) (hx : ∀ σ, PassesAt (L2N.CX X.prog X.w) X σ (WE Wo σ)) (ha : QE X m1 W Wo a qa) (hb : QE X m2 W Wo b qb) : QE X mr W Wo (.BinOp a op b pos) (qBin C pf qa qb) := PE.imp (pe_binS c F hr hx ha hb) fun σ H Q ⟨F, T, ω, ρ, Qp, Ep, R, q, hx, k⟩ =>
  ⟨F, T, ω, ρ, _, Ep, R, q, hx, fun T1 ω1 d v H1 R1 e1 r1 q1 => ⟨F, T1, ω1, ρ, _, Ep, R1, q1, hx, fun T2 ω2 d2 v2 H2 R2 e2 r2 ⟨ns, ds, ns', ds', z, z', q2⟩ => by
    subst z z'
    obtain ⟨a, dx, xs, rfl, h1, ra⟩ := (R1.ext_RC e2 r1.c).insR
    obtain ⟨a', dx', xs', rfl, h1', ra'⟩ := r2.c.insR
    exact ⟨a, dx, _, a', dx', _, rfl, rfl, h1, h1', sp_at R2 (e1.trans e2) hx (.cons ra (.cons ra' .nil)) q2 k⟩⟩⟩
theorem qe_cmpO {op : CmpOp} (c : CmO X.K C (cmpInfo op).2.1 f) (hop : ∀ a b, compareOp op a b = richCompare op a b) (F : FnR X.prog X.w X.K X.mg X.base (L2N.CX X.prog X.w) k f (spM mr X.K W pf)) (hr : Room k X.A) (hx : ∀ σ, PassesAt (L2N.CX X.prog X.w) X σ (WE Wo σ)) (ha : QE X m1 W Wo a qa) (hb : QE X m2 W Wo b qb) (hm : behindInMarks op b = false) : QE X mr W Wo (.Compare a [op] [b] pos) (qBin C pf qa qb) := PE.imp (pe_cmpS c hop F hr hx ha hb hm) fun σ H Q ⟨F, T, ω, ρ, Qp, Ep, R, q, hx, k⟩ =>
  ⟨F, T, ω, ρ, _, Ep, R, q, hx, fun T1 ω1 d v H1 R1 e1 r1 q1 => ⟨F, T1, ω1, ρ, _, Ep, R1, q1, hx, fun T2 ω2 d2 v2 H2 R2 e2 r2 ⟨ns, ds, ns', ds', z, z', q2⟩ => by
    subst z z'
    obtain ⟨a, dx, xs, rfl, h1, ra⟩ := (R1.ext_RC e2 r1.c).insR
    obtain ⟨a', dx', xs', rfl, h1', ra'⟩ := r2.c.insR
    exact ⟨a, dx, _, a', dx', _, rfl, rfl, h1, h1', sp_at R2 (e1.trans e2) hx (.cons ra (.cons ra' .nil)) q2 k⟩⟩⟩
def qBinI (C : Addr) (pf : PSp W) (qa qb : QT W) : QT W := fun ω ρ Q E => qa ω ρ (fun ω1 x => qb ω1 ρ (fun ω2 y => ∃ ns ds i, x = .ins C ns ds ∧ y = .int i ∧ pf ω2 [x, y] Q E) E) E
theorem qe_binI {op : Operator} (c : OpI X.K C op f) (F : FnR X.prog X.w X.K X.mg X.base (L2N.CX X.prog X.w) k f (spM mr X.K W pf)) (hr : Room k X.A) (hx : ∀ σ, PassesAt (L2N.CX X.prog X.w) X σ (WE Wo σ)) (ha : QE X m1 W Wo a qa) (hb : QE X m2 W Wo b qb) : QE X mr W Wo (.BinOp a op b pos) (qBinI C pf qa qb) := PE.imp (pe_binI c F hr hx ha hb) fun σ H Q ⟨F, T, ω, ρ, Qp, Ep, R, q, hx, k⟩ =>
  ⟨F, T, ω, ρ, _, Ep, R, q, hx, fun T1 ω1 d v H1 R1 e1 r1 q1 => ⟨F, T1, ω1, ρ, _, Ep, R1, q1, hx, fun T2 ω2 d2 v2 H2 R2 e2 r2 ⟨ns, ds, i, z, z', q2⟩ => by
    subst z z'
    obtain ⟨a, dx, xs, rfl, h1, ra⟩ := (R1.ext_RC e2 r1.c).insR
    exact ⟨a, dx, _, i, rfl, r2.c.int, h1, by rw [r2.c.int]; exact sp_at R2 (e1.trans e2) hx (.cons ra (.cons (.int i) .nil)) q2 k⟩⟩⟩
def qInv (C : Addr) (pf : PSp W) (qa : QT W) : QT W := fun ω ρ Q E => qa ω ρ (fun ω1 x => ∃ ns ds, x = .ins C ns ds ∧ pf ω1 [x] Q E) E
theorem qe_inv (c : CmO X.K C "__invert__" f) (F : FnR X.prog X.w X.K X.mg X.base (L2N.CX X.prog X.w) k f (spM mr X.K W pf)) (hr : Room k X.A) (hx : ∀ σ, PassesAt (L2N.CX X.prog X.w) X σ (WE Wo σ)) (ha : QE X m1 W Wo a qa) : QE X mr W Wo (.UnaryOp .Invert a pos) (qInv C pf qa) := PE.imp (pe_invS c F hr hx ha) fun σ H Q ⟨F, T, ω, ρ, Qp, Ep, R, q, hx, k⟩ =>
  ⟨F, T, ω, ρ, _, Ep, R, q, hx, fun T1 ω1 d v H1 R1 e1 r1 ⟨ns, ds, z, q1⟩ => by
    subst z
    obtain ⟨a, dx, xs, rfl, h1, ra⟩ := r1.c.insR
    exact ⟨a, dx, _, rfl, h1, sp_at R1 e1 hx (.cons ra .nil) q1 k⟩⟩
/-- C(..): what its __init__ makes -/
structure MkP (K : PySem.W.Frag) (C : Addr) (sp : Sp) (pf : PSp W0) : Prop where
  run : ∀ (S T : ASet) (ds : List D) (vs : List V) (H : Hp) (Q : VK) (E : XK) (Qp : Unit → D → Prop) (Ep : Unit → Exn → Prop), (∀ a, S a → H a ≠ none) → RepsA K H S ds vs → pf () ds Qp Ep → (∀ d v H', GrP nop H H' → RepA K H' S d v → Qp () d → Q v H') →
    (∀ x cls dd H', GrP nop H H' → XRep K H' x cls dd → Ep () x → E cls dd H') → ∀ x dx, H x = none → H dx = none → dx ≠ x → sp (V.ref x :: vs) (mkHp H x dx C) (fun v H2 => v = .non ∧ Q (.ref x) H2) E
def qMake (C : Addr) (pf : PSp W0) (qf : QT W) (qs : QTA W) : QT W := fun ω ρ Q E => qf ω ρ (fun ω0 d => d = .adr C ∧ qs ω0 ρ (fun ω1 ds => inW W pf ω1 ds Q E) E) E
theorem RC.adr {K : PySem.W.Frag} {H : Hp} {S : ASet} {os : List Addr} {a : Addr} {v : V} (h : RC K H S os (.adr a) v) : v = .ref a := by
  rcases h with (h | ⟨l, xs, ds', rfl, e, m, h, r⟩) | ⟨a, xs, ds', rfl, e, h, r⟩
  · cases h; rfl
  · cases e
  · cases e
theorem qe_adr {v : Addr} (h : PE X e (tC (.ref v))) : QE X .A W Wo e (qC (.adr v)) := qe_c h fun _ _ => .adr v
/-- arguments may be lists of one's own where what is made holds none -/
theorem qe_make {sp : Sp} {pf : PSp W0} {qf : QT W} (hf : QE X m W Wo fe qf) (M : Mk X.K C f) (F : FnR X.prog X.w X.K X.mg X.base (L2N.CX X.prog X.w) k f sp) (mk : MkP X.K C sp pf) (hr : Room (k + 1) X.A) (hx : ∀ σ, PassesAt (L2N.CX X.prog X.w) X σ (WE Wo σ)) (ha : QA X .O W Wo (e :: es) qs)
    (ht : eval (.Call fe (e :: es) [] pos) X.env = (do callWith pos (← eval fe X.env) [] (backTo pos (starEach (e :: es) X.env)) (backToKw pos (keywordEach [] X.env))) := by rfl)
    (he : starEach (e :: es) X.env = (false, eval e X.env) :: starEach es X.env := by rfl) (hpl : (backTo pos (starEach es X.env)).any (·.1) = false := by rfl) : QE X .A W Wo (.Call fe (e :: es) [] pos) (qMake C (pureP pf) qf qs) := PE.imp (pe_makeS hf M F hr hx ha ht he hpl) fun σ H Q ⟨F, T, ω, ρ, Qp, Ep, R, q, hx, k⟩ =>
  ⟨F, T, ω, ρ, _, Ep, R, q, hx, fun T0 ω0 d v H0 R0 e0 r0 ⟨z, q0⟩ => by
    subst z
    refine ⟨r0.c.adr, F, T0, ω0, ρ, _, Ep, R0, q0, hx, fun T1 ω1 ds vs H1 R1 e1 r1 q1 x dx nx ndx ne => ?_⟩
    refine mk.run F.S nop ds vs H1 Q _ _ _ (fun a z => R1.spl a (.inl z)) (r1.off (fun a z => .inl z) fun l h z => (R1.own l h).2.2 z) q1 (fun d v H' g r ⟨hp, q⟩ => ?_) (fun y cls dd H' g r q => ?_) x dx nx ndx ne
    · exact k T1 ω1 d v H' (R1.grow g) ((e0.trans e1).trans (Ext.of0 g)) (RepA.any r hp) q
    · exact hx T1 ω1 y cls dd H' (R1.grow g) r q⟩
/-- C.m(..), m a classmethod -/
def qCMeth (C : Addr) (pf : PSp W) (qf : QT W) (qs : QTA W) : QT W := fun ω ρ Q E => qf ω ρ (fun ω0 d => d = .adr C ∧ qs ω0 ρ (fun ω1 ds => pf ω1 (.adr C :: ds) Q E) E) E
theorem qe_cmeth {mc : Value} {pp : Addr} {pl : Sem Bool} (he : QE X m W Wo o qo) (r : ClX.CRead X.K C mc) (c : ClX.CMet X.K C mc mn pp f) (F : FnR X.prog X.w X.K X.mg X.base (L2N.CX X.prog X.w) k f (spM mr X.K W pf)) (hr : Room k X.A) (hx : ∀ σ, PassesAt (L2N.CX X.prog X.w) X σ (WE Wo σ)) (ha : QA X .A W Wo (e :: es) qs)
    (hst : starEach (e :: es) X.env = (false, eval e X.env) :: starEach es X.env := by rfl) (hpl : (backTo pos (starEach es X.env)).any (·.1) = false := by rfl)
    (ht : eval (.Call (.Attribute o mn apos) (e :: es) [] pos) X.env = (do
      let ov ← eval o X.env
      standAt apos.atName
      let (f, first) ← holding [ov] (getMethod ov mn pl)
      callWith pos f first (backTo pos (starEach (e :: es) X.env)) (backToKw pos (keywordEach [] X.env))) := by rfl) :
    QE X mr W Wo (.Call (.Attribute o mn apos) (e :: es) [] pos) (qCMeth C pf qo qs) := PE.imp (pe_cmethS he r c F hr hx ha hst hpl ht) fun σ H Q ⟨F, T, ω, ρ, Qp, Ep, R, q, hx, k⟩ =>
  ⟨F, T, ω, ρ, _, Ep, R, q, hx, fun T0 ω0 d v H0 R0 e0 r0 ⟨z, q0⟩ => by
    subst z
    exact ⟨r0.c.adr, F, T0, ω0, ρ, _, Ep, R0, q0, hx, fun T1 ω1 ds vs H1 R1 e1 r1 q1 => sp_at R1 (e0.trans e1) hx (.cons (.adr C) r1.reps) q1 k⟩⟩
/-- len(x) by an own __len__ -/
def qLenO (C : Addr) (pf : PSp W) (qs : QTA W) : QT W := fun ω ρ Q E => qs ω ρ (fun ω1 ds => ∃ ns es, ds = [.ins C ns es] ∧ pf ω1 ds (fun ω' d => ∃ n : Int, d = .int n ∧ 0 ≤ n ∧ n < 2 ^ 63 ∧ Q ω' d) (fun _ _ => False)) E
theorem qe_lenO {ma : Md} (c : CmO X.K C "__len__" f) (F : FnR X.prog X.w X.K X.mg X.base (L2N.CX X.prog X.w) k f (spM .A X.K W pf)) (hr : Room (k + 1) X.A) (hg : Gl X "len") (hm : X.mg "len" = none) (ha : QA X ma W Wo (e :: es) qs)
    (h1 : starEach (e :: es) X.env = (false, eval e X.env) :: starEach es X.env := by rfl) (h2 : (backTo pos (starEach es X.env)).any (·.1) = false := by rfl) :
    QE X .A W Wo (.Call (.Name "len" p) (e :: es) [] pos) (qLenO C pf qs) := PE.imp (pe_callB (cr_lenO c F hr) hg hm (by decide +kernel) ha (by decide) (by decide) h1 h2) fun σ H Q ⟨F, T, ω, ρ, Qp, Ep, R, q, hx, k⟩ =>
  ⟨F, T, ω, ρ, _, Ep, R, q, hx, fun T1 ω1 ds vs H1 R1 e1 r1 ⟨ns, es', z, q1⟩ => by
    subst z
    obtain ⟨v, rfl, r⟩ := r1.one
    obtain ⟨a, dx, xs, rfl, h1, ra⟩ := r.c.insR
    refine ⟨a, dx, _, rfl, h1, ?_⟩
    have hz : spM .A X.K W pf [.ref a] H1 (fun v H' => ∃ n : Int, v = .int n ∧ 0 ≤ n ∧ n < 2 ^ 63 ∧ Q (.int n) H') (WE (fun _ _ _ _ => False) σ) := sp_at R1 e1 (fun _ _ _ _ _ _ _ _ z => z) (.cons ra .nil) q1 fun T' ω' d v H' R' e' r' ⟨n, z, h0, h9, q'⟩ => by
      subst z
      exact ⟨n, (RR.c (m := .A) r').int, h0, h9, by rw [← (RR.c (m := .A) r').int]; exact k T' ω' _ v H' R' e' r' q'⟩
    exact hz⟩
/-- x.f, x an instance told as data -/
def fFld (C : Addr) (fn : Str) (d : D) (Q : D → Prop) : Prop := ∃ ns ds x, d = .ins C ns ds ∧ (ns.zip ds).lookup fn = some x ∧ Q x
theorem lookup_rep {K : PySem.W.Frag} {H : Hp} {S : ASet} {fn : Str} : ∀ {ns : List Str} {ds : List D} {xs : List V} {x : D}, RepsA K H S ds xs → (ns.zip ds).lookup fn = some x → ∃ v, (ns.zip xs).lookup fn = some v ∧ RepA K H S x v
  | [], _, _, _, _, h => by simp at h
  | _ :: _, _, _, _, .nil, h => by simp at h
  | n :: ns, _, _, _, .cons r rs, h => by
    rw [List.zip_cons_cons, List.lookup_cons] at h ⊢
    split at h
    · cases h
      exact ⟨_, rfl, r⟩
    · exact lookup_rep rs h
theorem qe_fld {fn : Str} (ha : QE X m W Wo a qa) (c : Cls X.K C) (n : NoAttr X.K C fn) (hb : attributeBase a fn X.env (eval a X.env) = eval a X.env := by rfl) : QE X .A W Wo (.Attribute a fn pos) (qUn (fFld C fn) qa) := PE.imp (pe_fld ha hb) fun σ H Q ⟨F, T, ω, ρ, Qp, Ep, R, q, hx, k⟩ =>
  ⟨F, T, ω, ρ, _, Ep, R, q, hx, fun T1 ω1 d v H1 R1 e1 r1 ⟨ns, ds, x, z, hl, q1⟩ => by
    subst z
    obtain ⟨a, dx, xs, rfl, h1, hlen, ra⟩ := r1.c.ins
    obtain ⟨u, hu, ru⟩ := lookup_rep ra hl
    exact ⟨a, C, dx, _, u, rfl, h1, c, n, hu, k T1 ω1 x u H1 R1 e1 ru q1⟩⟩
end
end LW

namespace LW
open PySem PySem.Spec PyProof.Rows L2
/-! # rules of the pure layer: statements -/
section
variable {K : PySem.W.Frag} {W : Wrl} {Wo : WX} {F : Frm} {mr : Md} {P : PEn W} {D : Ends} {T : ASet} {ω : W.Ω} {ρ : List Sl} {σ : L2.St} {H : Hp}
theorem Sim.xok (S : Sim mr K W Wo F P D) : XOk K W Wo F ρ σ (fun ω x => P.ex ω x ρ) := fun T ω x cls dd H R xr e => S.ex T ω ρ σ H x cls dd R xr e
theorem Sim.drop {h : List (LW.D × V)} (S : Sim mr K W Wo F P D) : Sim mr K W Wo (F.add h) P D where
  nx T ω ρ σ H R q := S.nx T ω ρ σ H R.drop q
  bk T ω ρ σ H R q := S.bk T ω ρ σ H R.drop q
  ct T ω ρ σ H R q := S.ct T ω ρ σ H R.drop q
  rt T ω ρ σ H d v R r q := S.rt T ω ρ σ H d v R.drop r q
  ex T ω ρ σ H x cls dd R r q := S.ex T ω ρ σ H x cls dd R.drop r q
end
section
variable {X : Cx} {W : Wrl} {Wo : WX} {mr m m1 m2 : Md} {e a b c : Expr} {st : Stmt} {sts ss ts : List Stmt} {es : List Expr} {i : Nat} {x : Str} {pos pos' : Pos} {q qa qb qc : QT W} {qs : QTA W} {qt : QTT W} {s u : QTS W}
/-! ### blocks -/
def sNx : QTS W := fun P ω ρ => P.nx ω ρ
def sSeq (s u : QTS W) : QTS W := fun P ω ρ => s { P with nx := u P } ω ρ
theorem qss_nil : QSs X mr W Wo [] sNx := PSs.imp pss_nil fun D σ H ⟨F, T, ω, ρ, P, R, q, S⟩ => S.nx T ω ρ σ H R q
theorem qss_one (h : QS X mr W Wo st s) : QSs X mr W Wo [st] s := pss_one h
theorem qss_cons (h : QS X mr W Wo st s) (h2 : QSs X mr W Wo sts u) : QSs X mr W Wo (st :: sts) (sSeq s u) := PSs.imp (pss_cons h h2) fun D σ H ⟨F, T, ω, ρ, P, R, q, S⟩ =>
  ⟨F, T, ω, ρ, _, R, q, ⟨fun T ω ρ σ H R q => ⟨F, T, ω, ρ, P, R, q, S⟩, S.bk, S.ct, S.rt, S.ex⟩⟩
/-- where ways join -/
def sCut (s u : QTS W) : QTS W := fun P ω ρ => ∃ R : W.Ω → List Sl → Prop, s { P with nx := R } ω ρ ∧ ∀ ω ρ, R ω ρ → u P ω ρ
theorem qss_cut (h : QS X mr W Wo st s) (h2 : QSs X mr W Wo sts u) : QSs X mr W Wo (st :: sts) (sCut s u) := PSs.imp (pss_cons h h2) fun D σ H ⟨F, T, ω, ρ, P, R, ⟨N, q, k⟩, S⟩ =>
  ⟨F, T, ω, ρ, _, R, q, ⟨fun T ω ρ σ H R q => ⟨F, T, ω, ρ, P, R, k ω ρ q, S⟩, S.bk, S.ct, S.rt, S.ex⟩⟩
/-- slot i's own list is given away first -/
def sFrz (i : Nat) (s : QTS W) : QTS W := fun P ω ρ => s P ω (frz ρ i)
theorem qs_frz (i : Nat) (h : QS X mr W Wo st s) : QS X mr W Wo st (sFrz i s) := PS.imp h fun D σ H ⟨F, T, ω, ρ, P, R, q, S⟩ => ⟨F, T, ω, frz ρ i, P, R.frz i, q, S⟩
theorem qss_frz (i : Nat) (h : QSs X mr W Wo sts s) : QSs X mr W Wo sts (sFrz i s) := PSs.imp h fun D σ H ⟨F, T, ω, ρ, P, R, q, S⟩ => ⟨F, T, ω, frz ρ i, P, R.frz i, q, S⟩
/-! ### simple statements -/
def sDrop (qa : QT W) : QTS W := fun P ω ρ => qa ω ρ (fun ω1 _ => P.nx ω1 ρ) fun ω1 x => P.ex ω1 x ρ
theorem qs_expr (he : QE X m W Wo e qa) (hs : swapsWith e none pos.line X.env = pure false := by rfl) : QS X mr W Wo (.Expr e pos) (sDrop qa) := PS.imp (ps_expr he hs) fun D σ H ⟨F, T, ω, ρ, P, R, q, S⟩ =>
  ⟨F, T, ω, ρ, _, _, R, q, S.xok, fun T' ω' d v H' R' e r q' => S.nx T' ω' ρ σ H' R' q'⟩
def sRet (qa : QT W) : QTS W := fun P ω ρ => qa ω ρ (fun ω1 d => P.rt ω1 d) fun ω1 x => P.ex ω1 x ρ
theorem rt_of {K : PySem.W.Frag} {F : Frm} {T T' : ASet} {ω ω' : W.Ω} {ρ : List Sl} {σ : L2.St} {H H' : Hp} {d : D} {v : V} (R : Rel K W F T' ω' ρ σ H') (hm : m.ow = true) (r : RR m K H H' (Spr F T' ρ) (owns ρ) d v) : RepA K H' (fun a => F.S a ∨ T' a) d v := by
  rcases r.o hm with r | ⟨l, xs, ds, rfl, rfl, mem, h, r⟩
  · exact r.less fun a z => z.imp id .inl
  · exact .lst h (fun z => z.elim (R.own l mem).2.2 (R.own l mem).2.1) (r.less fun a z => z.imp id .inl)
theorem qs_ret (he : QE X m W Wo e qa) (hm : m.ow = true := by rfl) : QS X .A W Wo (.Return (some e) pos) (sRet qa) := PS.imp (ps_ret he) fun D σ H ⟨F, T, ω, ρ, P, R, q, S⟩ =>
  ⟨F, T, ω, ρ, _, _, R, q, S.xok, fun T' ω' d v H' R' e r q' => S.rt T' ω' ρ σ H' d v R' (rt_of (ω := ω) (T := T) R' hm r) q'⟩
/-- a new list is handed back as such -/
theorem qs_retF (he : QE X .F W Wo e qa) : QS X .F W Wo (.Return (some e) pos) (sRet qa) := PS.imp (ps_ret he) fun D σ H ⟨F, T, ω, ρ, P, R, q, S⟩ =>
  ⟨F, T, ω, ρ, _, _, R, q, S.xok, fun T' ω' d v H' R' e ⟨l, xs, ds, h1, h2, h3, h4, h5, h6⟩ q' => S.rt T' ω' ρ σ H' d v R' ⟨l, xs, ds, h1, h2, R.gr.live l h3, fun z => h4 (z.imp id .inl), h5, h6.less fun a z => z.imp (fun z => z.imp id .inl) id⟩ q'⟩
/-- an own list is handed back as a new one -/
def sRetO (i : Nat) : QTS W := fun P ω ρ => ∃ l ds, ρ[i]? = some (.ow l ds) ∧ P.rt ω (.lst ds)
theorem qs_retO (he : PE X e (tVar i)) : QS X .F W Wo (.Return (some e) pos) (sRetO i) := PS.imp (ps_ret he) fun D σ H ⟨F, T, ω, ρ, P, R, ⟨l, ds, hi, q⟩, S⟩ => by
  obtain ⟨hv, xs, h1, r⟩ := R.sl.get_ow hi
  have m := owns_mem hi
  refine ⟨_, hv, S.rt T ω ρ σ H _ _ R ⟨l, xs, ds, rfl, rfl, (R.own l m).1, fun z => z.elim (R.own l m).2.2 (R.own l m).2.1, h1, r.less fun a z => ?_⟩ q⟩
  rcases z with (z | z) | z
  · exact .inl z
  · exact .inr (.inl z)
  · rw [z]; exact .inr (.inr m)
def sRetN : QTS W := fun P ω _ => P.rt ω .non
theorem qs_retN : QS X .A W Wo (.Return none pos) sRetN := PS.imp ps_retN fun D σ H ⟨F, T, ω, ρ, P, R, q, S⟩ => S.rt T ω ρ σ H _ _ R .non q
theorem qs_pass : QS X mr W Wo (.Pass pos) sNx := PS.imp ps_pass fun D σ H ⟨F, T, ω, ρ, P, R, q, S⟩ => S.nx T ω ρ σ H R q
def sBrk : QTS W := fun P ω ρ => P.bk ω ρ
def sCnt : QTS W := fun P ω ρ => P.ct ω ρ
theorem qs_break : QS X mr W Wo (.Break pos) sBrk := PS.imp ps_break fun D σ H ⟨F, T, ω, ρ, P, R, q, S⟩ => S.bk T ω ρ σ H R q
theorem qs_continue : QS X mr W Wo (.Continue pos) sCnt := PS.imp ps_continue fun D σ H ⟨F, T, ω, ρ, P, R, q, S⟩ => S.ct T ω ρ σ H R q
def sIf (qt : QTT W) (s u : QTS W) : QTS W := fun P ω ρ => qt ω ρ (fun ω1 b => if b = true then s P ω1 ρ else u P ω1 ρ) fun ω1 x => P.ex ω1 x ρ
theorem qs_if (hc : QB X W Wo c qt) (ha : QSs X mr W Wo ss s) (hb : QSs X mr W Wo ts u) : QS X mr W Wo (.If c ss ts pos) (sIf qt s u) := PS.imp (ps_if hc ha hb) fun D σ H ⟨F, T, ω, ρ, P, R, q, S⟩ =>
  ⟨F, T, ω, ρ, _, _, R, q, S.xok, fun T' ω' b H' R' e q' => by
    cases b with
    | true => exact ⟨F, T', ω', ρ, P, R', q', S⟩
    | false => exact ⟨F, T', ω', ρ, P, R', q', S⟩⟩
/-! ### a name is set -/
def sSet (i : Nat) (qa : QT W) : QTS W := fun P ω ρ => qa ω ρ (fun ω1 d => P.nx ω1 (ρ.set i (.va d))) fun ω1 x => P.ex ω1 x ρ
theorem qs_set (hN : X.N.Nodup) (hi : X.N[i]? = some x) (hx : Loc X.env.scope x) (he : QE X m W Wo e qa) (hm : m.st = true := by rfl) (hs : swapsWith e (some (.Name x pos')) pos.line X.env = pure false := by rfl) (hf : X.fn x = true ∨ X.env.scope.names.lookup x = some .local := by first | exact .inl rfl | exact .inr rfl | assumption) :
    QS X mr W Wo (.Assign [.Name x pos'] e pos) (sSet i qa) := PS.imp (ps_set hN hi hx he hs hf) fun D σ H ⟨F, T, ω, ρ, P, R, q, S⟩ =>
  ⟨F, T, ω, ρ, _, _, R, q, S.xok, fun T' ω' d v H' R' e r q' => S.nx T' ω' _ _ H' (R'.set_va (r.a hm) i) q'⟩
/-- a new list as the slot's own -/
def sSetO (i : Nat) (qa : QT W) : QTS W := fun P ω ρ => qa ω ρ (fun ω1 d => ∃ ds, d = .lst ds ∧ ∀ l, P.nx ω1 (ρ.set i (.ow l ds))) fun ω1 x => P.ex ω1 x ρ
theorem qs_setO (hN : X.N.Nodup) (hi : X.N[i]? = some x) (hx : Loc X.env.scope x) (he : QE X .F W Wo e qa) (hs : swapsWith e (some (.Name x pos')) pos.line X.env = pure false := by rfl) (hf : X.fn x = true ∨ X.env.scope.names.lookup x = some .local := by first | exact .inl rfl | exact .inr rfl | assumption) :
    QS X mr W Wo (.Assign [.Name x pos'] e pos) (sSetO i qa) := PS.imp (ps_set hN hi hx he hs hf) fun D σ H ⟨F, T, ω, ρ, P, R, q, S⟩ =>
  ⟨F, T, ω, ρ, _, _, R, q, S.xok, fun T' ω' d v H' R' e ⟨l, xs, ds, h1, h2, h3, h4, h5, h6⟩ ⟨ds', z, q'⟩ => by
    subst h1 h2
    cases z
    exact S.nx T' ω' _ _ H' (R.set_ow R' e h3 h4 h5 h6 i) (q' l)⟩
/-- x op= e -/
def sAug (i : Nat) (g : Int → Int → Int) (qa : QT W) : QTS W := fun P ω ρ => ∃ n, ρ[i]? = some (.va (.int n)) ∧ qa ω ρ (fun ω1 d => ∃ k, d = .int k ∧ P.nx ω1 (ρ.set i (.va (.int (g n k))))) fun ω1 x => P.ex ω1 x ρ
theorem qs_aug {op : Operator} {g : Int → Int → Int} (hN : X.N.Nodup) (hi : X.N[i]? = some x) (hx : Loc X.env.scope x) (he : QE X m W Wo e qa) (ho : PIp X op (ipI g)) (hf : X.fn x = true ∨ X.env.scope.names.lookup x = some .local := by first | exact .inl rfl | exact .inr rfl | assumption) :
    QS X mr W Wo (.AugAssign (.Name x pos') op e pos) (sAug i g qa) := PS.imp (ps_aug hN hi hx he ho hf) fun D σ H ⟨F, T, ω, ρ, P, R, ⟨n, hn, q⟩, S⟩ => by
  obtain ⟨v, hv, r⟩ := R.sl.get_va hn
  refine ⟨v, hv, F, T, ω, ρ, _, _, R, q, S.xok, fun T' ω' d w H' R' e r' ⟨k, z, q'⟩ => ?_⟩
  subst z
  cases r
  exact ⟨n, k, rfl, r'.c.int, S.nx T' ω' _ _ H' (R'.set_va (.int _) i) q'⟩
/-! ### targets -/
abbrev QTG := D → List Sl → (List Sl → Prop) → Prop
abbrev QTGs := List D → List Sl → (List Sl → Prop) → Prop
def lfG (m : Md) (K : PySem.W.Frag) (W : Wrl) (ts : List Nat) (g : QTG) : TG := fun v σ H Q => ∃ (F : Frm) (T : ASet) (ω : W.Ω) (ρ : List Sl) (d : D) (k : List Sl → Prop), Rel K W F T ω ρ σ H ∧ RR m K H H (Spr F T ρ) (owns ρ) d v ∧ g d ρ k ∧ ∀ ρ' σ', Rel K W F T ω ρ' σ' H → σ'.length = σ.length → (∀ j, j ∉ ts → σ'[j]? = σ[j]?) → k ρ' → Q σ' H
def lfGs (K : PySem.W.Frag) (W : Wrl) (ts : List Nat) (g : QTGs) : TGs := fun vs σ H Q => ∃ (F : Frm) (T : ASet) (ω : W.Ω) (ρ : List Sl) (ds : List D) (k : List Sl → Prop), Rel K W F T ω ρ σ H ∧ RepsA K H (Spr F T ρ) ds vs ∧ g ds ρ k ∧ ∀ ρ' σ', Rel K W F T ω ρ' σ' H → σ'.length = σ.length → (∀ j, j ∉ ts → σ'[j]? = σ[j]?) → k ρ' → Q σ' H
def QG (X : Cx) (m : Md) (W : Wrl) (e : Expr) (ts : List Nat) (g : QTG) : Prop := PG X e (lfG m X.K W ts g)
def QGs (X : Cx) (W : Wrl) (es : List Expr) (ts : List Nat) (g : QTGs) : Prop := PGs X es (lfGs X.K W ts g)
theorem PG.imp {X : Cx} {e : Expr} {t t' : TG} (h : PG X e t) (k : ∀ v σ H Q, t' v σ H Q → t v σ H Q) : PG X e t' := ⟨fun pins s σ H v u Q I r q => h.run pins s σ H v u Q I r (k v σ H _ q)⟩
theorem PGs.imp {X : Cx} {e : List Expr} {t t' : TGs} (h : PGs X e t) (k : ∀ v σ H Q, t' v σ H Q → t v σ H Q) : PGs X e t' := ⟨fun pins s σ H v u Q I r q => h.run pins s σ H v u Q I r (k v σ H _ q)⟩
def gnm (i : Nat) : QTG := fun d ρ k => k (ρ.set i (.va d))
def gtp (n : Nat) (g : QTGs) : QTG := fun d ρ k => ∃ ds, d = .tup ds ∧ ds.length = n ∧ g ds ρ k
def gsn : QTGs := fun ds ρ k => ds = [] ∧ k ρ
def gsc (g : QTG) (gs : QTGs) : QTGs := fun ds ρ k => ∃ d ds', ds = d :: ds' ∧ g d ρ fun ρ' => gs ds' ρ' k
theorem set_ne {σ : L2.St} {i : Nat} {o : Option V} : ∀ j, j ∉ [i] → (σ.set i o)[j]? = σ[j]? := fun j hj => List.getElem?_set_ne (fun z => hj (by rw [z]; exact List.mem_cons_self))
theorem qg_name (hN : X.N.Nodup) (hi : X.N[i]? = some x) (hx : Loc X.env.scope x) (hf : X.fn x = true ∨ X.env.scope.names.lookup x = some .local := by first | exact .inl rfl | exact .inr rfl | assumption) : QG X .A W (.Name x pos) [i] (gnm i) := PG.imp (pg_name hN hi hx hf) fun v σ H Q ⟨F, T, ω, ρ, d, k, R, r, g, kk⟩ =>
  kk _ _ (R.set_va r i) (List.length_set ..) set_ne g
theorem RepsA.pairs {K : PySem.W.Frag} {H : Hp} {S : ASet} : ∀ {ds : List D} {vs : List V}, RepsA K H S ds vs → ∀ p, p ∈ ds.zip vs → RepA K H S p.1 p.2
  | _, _, .nil, p, h => by cases h
  | _, _, .cons q r, p, h => by
    rcases List.mem_cons.mp h with z | z
    · rw [z]; exact q
    · exact r.pairs p z
theorem RepsA.ofPairs {K : PySem.W.Frag} {H : Hp} {S : ASet} : ∀ {ds : List D} {vs : List V}, ds.length = vs.length → (∀ p, p ∈ ds.zip vs → RepA K H S p.1 p.2) → RepsA K H S ds vs
  | [], [], _, _ => .nil
  | [], _ :: _, h, _ => by cases h
  | _ :: _, [], h, _ => by cases h
  | d :: ds, v :: vs, h, hp => .cons (hp (d, v) List.mem_cons_self) (RepsA.ofPairs (Nat.succ.inj h) fun p q => hp p (List.mem_cons_of_mem _ q))
theorem qgs_nil : QGs X W [] [] gsn := PGs.imp pgs_nil fun v σ H Q ⟨F, T, ω, ρ, d, k, R, r, ⟨z, g⟩, kk⟩ => by
  subst z
  cases r
  exact ⟨rfl, kk ρ σ R rfl (fun _ _ => rfl) g⟩
theorem qgs_cons {t1 t2 : List Nat} {g : QTG} {gs : QTGs} (h1 : QG X .A W e t1 g) (h2 : QGs X W es t2 gs) (hs : (assignEach (e :: es) X.env).map (·.2) = assign e X.env :: (assignEach es X.env).map (·.2) := by rfl) : QGs X W (e :: es) (t1 ++ t2) (gsc g gs) := PGs.imp (pgs_cons h1 h2 hs) fun v σ H Q ⟨F, T, ω, ρ, ds, k, R, r, ⟨d, ds', z, g⟩, kk⟩ => by
  subst z
  cases r with
  | cons r rs =>
    refine ⟨_, _, rfl, F.add (ds'.zip _), T, ω, ρ, d, _, R.put rs.pairs, r, g, fun ρ1 σ1 R1 l1 f1 g1 => ?_⟩
    refine ⟨F, T, ω, ρ1, ds', k, R1.drop, RepsA.ofPairs rs.len.symm fun p hp => R1.kept hp, g1, fun ρ2 σ2 R2 l2 f2 g2 => ?_⟩
    exact kk ρ2 σ2 R2 (l2.trans l1) (fun j hj => (f2 j fun z => hj (List.mem_append_right _ z)).trans (f1 j fun z => hj (List.mem_append_left _ z))) g2
theorem qg_tup {n k : Nat} {t : List Nat} {gs : QTGs} (hc : X.calm = true) (h : QGs X W es t gs) (hn : (assignEach es X.env).length = n := by rfl) (hst : (assignEach es X.env).findIdx? (·.1) = none := by rfl) : QG X .C W (.Tuple es k pos) t (gtp n gs) := PG.imp (pg_tup hc h hn hst) fun v σ H Q ⟨F, T, ω, ρ, d, k, R, r, ⟨ds, z, hl, g⟩, kk⟩ => by
  subst z
  obtain ⟨a, xs, rfl, hq, rs⟩ := RC.tup r
  exact ⟨a, xs, rfl, hq, by rw [rs.len, hl], F, T, ω, ρ, ds, k, R, rs, g, kk⟩
/-- a, b = e -/
def sAsg (g : QTG) (qa : QT W) : QTS W := fun P ω ρ => qa ω ρ (fun ω1 d => g d ρ fun ρ' => P.nx ω1 ρ') fun ω1 x => P.ex ω1 x ρ
theorem qs_asg {tg : Expr} {t : List Nat} {g : QTG} (he : QE X m1 W Wo e qa) (hg : QG X m W tg t g) (l : m1.le m = true := by rfl) (hm : m ≠ .F := by intro z; cases z) (hs : swapsWithSole [tg] e pos.line X.env = pure false := by rfl) (hw : swappedStores [tg] e X.env = pure none := by rfl) (h1 : (assignEach [tg] X.env).map (·.2) = [assign tg X.env] := by rfl) : QS X mr W Wo (.Assign [tg] e pos) (sAsg g qa) := PS.imp (ps_asg he hg hs hw h1) fun D σ H ⟨F, T, ω, ρ, P, R, q, S⟩ =>
  ⟨F, T, ω, ρ, _, _, R, q, S.xok, fun T' ω' d v H' R' e r q' => ⟨F, T', ω', ρ, d, _, R', (r.up l).at hm, q', fun ρ1 σ1 R1 _ _ k => S.nx T' ω' ρ1 σ1 H' R1 k⟩⟩
/-! ### own lists are written -/
/-- x.append(e) -/
def sApp (i : Nat) (qa : QT W) : QTS W := fun P ω ρ => ∃ l ds, ρ[i]? = some (.ow l ds) ∧ ds.length < 1000000 ∧ qa ω ρ (fun ω1 d => P.nx ω1 (ρ.set i (.ow l (ds ++ [d])))) fun ω1 x => P.ex ω1 x ρ
theorem qs_app {to : TE} {o : Expr} {apos : Pos} (hto : to = tVar i) (ho : PE X o to) (ha : QE X m W Wo e qa) (hm : m.st = true := by rfl)
    (hbase : attributeBase o "append" X.env (eval o X.env) = eval o X.env := by rfl)
    (hfew : ((backTo pos' (starEach [e] X.env)).all (fun x => !x.1) && (backToKw pos' (keywordEach [] X.env)).all (fun x => x.1.isSome)
      && decide ([e].length + ([] : List Keyword).length + (if ([] : List Keyword).isEmpty then 0 else 1) < 30)) = true := by rfl)
    (hline : (apos.endLine == pos'.line) = true := by rfl) (hst : starEach [e] X.env = (false, eval e X.env) :: starEach [] X.env := by rfl) (hplain : (backTo pos' (starEach [] X.env)).any (·.1) = false := by rfl)
    (hs : swapsWith (.Call (.Attribute o "append" apos) [e] [] pos') none pos.line X.env = pure false := by rfl) :
    QS X mr W Wo (.Expr (.Call (.Attribute o "append" apos) [e] [] pos') pos) (sApp i qa) := PS.imp (ps_expr (pe_bm PySem.F.plainAttrs_list PySem.F.slot_list_append PySem.F.type_list_append mt_append ho (pa_cons ha pa_nil hst) hbase hfew hline hst hplain) hs) fun D σ H ⟨F, T, ω, ρ, P, R, ⟨l, ds, hi, hl, q⟩, S⟩ => by
  subst hto
  obtain ⟨hv, xs, h1, r⟩ := R.sl.get_ow hi
  refine ⟨.ref l, hv, .inl ⟨rfl, xs, sql_of h1⟩, F, T, ω, ρ, _, _, R, q, S.xok, fun T' ω' d v H' R' e r' q' => ?_⟩
  obtain ⟨_, xs', h1', rr⟩ := R'.sl.get_ow hi
  exact ⟨l, xs', v, rfl, rfl, h1', Nat.lt_of_lt_of_le (by rw [rr.len]; exact hl) (by decide), S.nx T' ω' _ _ _ (R'.wr hi (RepsA.append (.cons (r'.a hm) .nil) rr)) q'⟩
/-- x[k] = e -/
def sPut (i : Nat) (qk qa : QT W) : QTS W := fun P ω ρ => qa ω ρ (fun ω1 d => ∃ l ds, ρ[i]? = some (.ow l ds) ∧ qk ω1 ρ (fun ω2 y => ∃ n j, y = .int n ∧ ixN ds.length n = some j ∧ P.nx ω2 (ρ.set i (.ow l (ds.set j d)))) fun ω1 x => P.ex ω1 x ρ) fun ω1 x => P.ex ω1 x ρ
theorem qs_put {to : TE} {o k : Expr} {spos : Pos} {qk : QT W} (hto : to = tVar i) (he : QE X m W Wo e qa) (ho : PE X o to) (hk : QE X m2 W Wo k qk) (hm : m.st = true := by rfl)
    (ha : ∀ v, assign (.Subscript o k spos) X.env v = (do
      let ov ← holding [v] (eval o X.env)
      let iv ← holding [v, ov] (eval k X.env)
      standAt spos
      holding [v, ov, iv] (setItem ov iv v)
      release [v, ov, iv] []) := by intro _; rfl)
    (hs : swapsWithSole [.Subscript o k spos] e pos.line X.env = pure false := by rfl) (hw : swappedStores [.Subscript o k spos] e X.env = pure none := by rfl) (h1 : (assignEach [.Subscript o k spos] X.env).map (·.2) = [assign (.Subscript o k spos) X.env] := by rfl) :
    QS X mr W Wo (.Assign [.Subscript o k spos] e pos) (sPut i qk qa) := PS.imp (ps_asg he (pg_sub ho hk set_list ha) hs hw h1) fun D σ H ⟨F, T, ω, ρ, P, R, q, S⟩ => by
  subst hto
  refine ⟨F, T, ω, ρ, _, _, R, q, S.xok, fun T1 ω1 d v H1 R1 e1 r1 ⟨l, ds, hi, q1⟩ => ?_⟩
  obtain ⟨hv, _⟩ := R1.sl.get_ow hi
  refine ⟨_, hv, F, T1, ω1, ρ, _, _, R1, q1, S.xok, fun T2 ω2 y w H2 R2 e2 r2 ⟨n, j, z, hj, q2⟩ => ?_⟩
  subst z
  obtain ⟨_, xs, h1, rr⟩ := R2.sl.get_ow hi
  exact ⟨l, xs, n, j, rfl, r2.c.int, h1, by rw [rr.len]; exact hj, S.nx T2 ω2 _ _ _ (R2.wr hi (rr.set (R1.ext_rep e2 (r1.a hm)) j)) q2⟩
/-! ### raise -/
def sRaise (x : Exn) : QTS W := fun P ω ρ => P.ex ω x ρ
theorem qs_raise {C : Addr} (h : PS X st (fun _ σ H => Wo (.ref C) none σ H)) : QS X mr W Wo st (sRaise ⟨C, none⟩) := PS.imp h fun D σ H ⟨F, T, ω, ρ, P, R, q, S⟩ => S.ex T ω ρ σ H ⟨C, none⟩ _ _ R ⟨rfl, rfl⟩ q
/-! ### what is walked -/
abbrev QTI (W : Wrl) := W.Ω → List Sl → (W.Ω → List D → Prop) → (W.Ω → Exn → Prop) → Prop
/-- J walks ds while F's values are kept -/
def ItOk (mi : Md) (K : PySem.W.Frag) (W : Wrl) (h : List (D × V)) (ds : List D) (J : It) : Prop := ∀ F T ω ρ σ H, (∀ p, p ∈ h → p ∈ F.hid) → Rel K W F T ω ρ σ H → ∀ i, (i < ds.length → J.go i H) ∧ (ds.length ≤ i → J.stop i H) ∧ ∀ d x H2, ds[i]? = some d → J.yld i H x H2 → GrP nop H H2 ∧ RR mi K H2 H2 (Spr F T ρ) (owns ρ) d x
def lfI (mi : Md) (K : PySem.W.Frag) (W : Wrl) (Wo : WX) (q : QTI W) : TI := fun σ H Rj => ∃ (F : Frm) (T : ASet) (ω : W.Ω) (ρ : List Sl) (Qp : W.Ω → List D → Prop) (Ep : W.Ω → Exn → Prop), Rel K W F T ω ρ σ H ∧ q ω ρ Qp Ep ∧ XOk K W Wo F ρ σ Ep ∧
  ∀ T' ω' h ds J H', Rel K W (F.add h) T' ω' ρ σ H' → Ext T H T' H' → ItOk mi K W h ds J → Qp ω' ds → Rj J H'
def QI (X : Cx) (mi : Md) (W : Wrl) (Wo : WX) (tg iter : Expr) (q : QTI W) : Prop := PI X tg iter (lfI mi X.K W Wo q)
theorem PI.imp {X : Cx} {tg e : Expr} {t t' : TI} (h : PI X tg e t) (k : ∀ σ H R, t' σ H R → t σ H R) : PI X tg e t' := ⟨fun pins s σ H R I q => h.run pins s σ H R I (k σ H R q)⟩
def iSeq (qa : QT W) : QTI W := fun ω ρ Q E => qa ω ρ (fun ω1 d => ∃ ds, d = .lst ds ∧ Q ω1 ds) E
def iTupl (qa : QT W) : QTI W := fun ω ρ Q E => qa ω ρ (fun ω1 d => ∃ ds, d = .tup ds ∧ Q ω1 ds) E
theorem repA_lst {K : PySem.W.Frag} {H : Hp} {S : ASet} {ds : List D} {v : V} (h : RepA K H S (.lst ds) v) : ∃ l xs, v = .ref l ∧ SqL K H l xs ∧ RepsA K H S ds xs := by
  cases h with
  | lst h n r => exact ⟨_, _, rfl, sql_of h, r⟩
  | lsf h r => exact ⟨_, _, rfl, sql_frz h, r⟩
theorem repA_tup {K : PySem.W.Frag} {H : Hp} {S : ASet} {ds : List D} {v : V} (h : RepA K H S (.tup ds) v) : ∃ l xs, v = .ref l ∧ SqT K H l xs ∧ RepsA K H S ds xs := by
  cases h with
  | tup h r => exact ⟨_, _, rfl, h.sqt, r⟩
theorem qi_lst {tg : Expr} (ha : QE X m W Wo a qa) (hm : m.st = true := by rfl) : QI X .A W Wo tg a (iSeq qa) := PI.imp (pi_list ha) fun σ H Rj ⟨F, T, ω, ρ, Qp, Ep, R, q, hx, k⟩ =>
  ⟨F, T, ω, ρ, _, Ep, R, q, hx, fun T1 ω1 d v H1 R1 e1 r1 ⟨ds, z, q1⟩ => by
    subst z
    have ra := r1.a hm
    obtain ⟨l, xs, rfl, hl, _⟩ := repA_lst ra
    refine ⟨l, rfl, ⟨xs, hl⟩, k T1 ω1 [(.lst ds, .ref l)] ds _ H1 (R1.put fun p hp => ?_) e1 (fun F T ω ρ σ H hh R i => ?_) q1⟩
    · have : p = (.lst ds, .ref l) := by simpa using hp
      rw [this]; exact ra
    · obtain ⟨l', xs', e', hl', rr⟩ := repA_lst (R.hd _ (hh (.lst ds, .ref l) List.mem_cons_self))
      cases e'
      refine ⟨fun hi => ?_, fun hi => ⟨xs', hl', by rw [rr.len]; exact hi⟩, fun d x H2 hd hy => ?_⟩
      · obtain ⟨v, hv, _⟩ := rr.get (List.getElem?_eq_getElem hi)
        exact ⟨xs', v, hl', hv⟩
      · obtain ⟨z, hx⟩ := hy
        subst z
        obtain ⟨v, hv, rv⟩ := rr.get hd
        have := hx xs' hl'
        rw [hv] at this
        cases this
        exact ⟨GrP.refl _ _, rv⟩⟩
theorem qi_tup {tg : Expr} (ha : QE X m W Wo a qa) (hm : m.st = true := by rfl) : QI X .A W Wo tg a (iTupl qa) := PI.imp (pi_tup ha) fun σ H Rj ⟨F, T, ω, ρ, Qp, Ep, R, q, hx, k⟩ =>
  ⟨F, T, ω, ρ, _, Ep, R, q, hx, fun T1 ω1 d v H1 R1 e1 r1 ⟨ds, z, q1⟩ => by
    subst z
    have ra := r1.a hm
    obtain ⟨l, xs, rfl, hl, _⟩ := repA_tup ra
    refine ⟨l, rfl, ⟨xs, hl⟩, k T1 ω1 [(.tup ds, .ref l)] ds _ H1 (R1.put fun p hp => ?_) e1 (fun F T ω ρ σ H hh R i => ?_) q1⟩
    · have : p = (.tup ds, .ref l) := by simpa using hp
      rw [this]; exact ra
    · obtain ⟨l', xs', e', hl', rr⟩ := repA_tup (R.hd _ (hh (.tup ds, .ref l) List.mem_cons_self))
      cases e'
      refine ⟨fun hi => ?_, fun hi => ⟨xs', hl', by rw [rr.len]; exact hi⟩, fun d x H2 hd hy => ?_⟩
      · obtain ⟨v, hv, _⟩ := rr.get (List.getElem?_eq_getElem hi)
        exact ⟨xs', v, hl', hv⟩
      · obtain ⟨z, hx⟩ := hy
        subst z
        obtain ⟨v, hv, rv⟩ := rr.get hd
        have := hx xs' hl'
        rw [hv] at this
        cases this
        exact ⟨GrP.refl _ _, rv⟩⟩
theorem itr_ok {K : PySem.W.Frag} {lo : Int} {n : Nat} : ItOk .A K W [] (dInts (rgI lo (lo + n))) (Itr lo n) := fun F T ω ρ σ H _ R i => by
  have hl : (dInts (rgI lo (lo + n))).length = n := by unfold dInts rgI; rw [List.length_map, List.length_map, List.length_range]; omega
  refine ⟨fun h => by rw [hl] at h; exact h, fun h => by rw [hl] at h; exact h, fun d x H2 hd hy => ?_⟩
  obtain ⟨z, hx⟩ := hy
  subst z hx
  have hi : i < n := by rw [← hl]; exact (List.getElem?_eq_some_iff.mp hd).1
  unfold dInts rgI at hd
  rw [List.getElem?_map, List.getElem?_map, List.getElem?_range (by omega)] at hd
  cases hd
  exact ⟨GrP.refl _ _, .int _⟩
def RgB (i : Int) : Prop := -(2 ^ 62) ≤ i ∧ i < 2 ^ 62
def iRg1 (qa : QT W) : QTI W := fun ω ρ Q E => qa ω ρ (fun ω1 d => ∃ n, d = .int n ∧ RgB n ∧ Q ω1 (dInts (rgI 0 n))) E
def iRg2 (qa qb : QT W) : QTI W := fun ω ρ Q E => qa ω ρ (fun ω1 d => qb ω1 ρ (fun ω2 d2 => ∃ n k, d = .int n ∧ d2 = .int k ∧ RgB n ∧ RgB k ∧ Q ω2 (dInts (rgI n k))) E) E
theorem rgI_nat {lo hi : Int} : rgI lo (lo + ((hi - lo).toNat : Nat)) = rgI lo hi := by
  unfold rgI
  rw [show (lo + ((hi - lo).toNat : Nat) - lo).toNat = (hi - lo).toNat by omega]
theorem frm_add0 (F : Frm) : F.add [] = F := rfl
theorem qi_rg1 {tg : Expr} {p : Pos} (hg : Gl X "range") (hm : X.mg "range" = none) (ha : QE X m W Wo a qa) (h1 : starEach [a] X.env = (false, eval a X.env) :: starEach [] X.env := by rfl) (hs : starEach [a] X.env = [(false, eval a X.env)] := by rfl) : QI X .A W Wo tg (.Call (.Name "range" p) [a] [] pos) (iRg1 qa) := PI.imp (pi_range1 hg hm (pa_cons ha pa_nil h1) hs) fun σ H Rj ⟨F, T, ω, ρ, Qp, Ep, R, q, hx, k⟩ =>
  ⟨F, T, ω, ρ, _, Ep, R, q, hx, fun T1 ω1 d v H1 R1 e1 r1 ⟨n, z, hb, q1⟩ => by
    subst z
    refine ⟨n, by rw [r1.c.int], hb.1, hb.2, k T1 ω1 [] _ _ H1 R1 e1 itr_ok ?_⟩
    have := rgI_nat (lo := 0) (hi := n)
    rw [Int.sub_zero] at this
    rw [this]
    exact q1⟩
theorem qi_rg2 {tg : Expr} {p : Pos} (hg : Gl X "range") (hm : X.mg "range" = none) (ha : QE X m1 W Wo a qa) (hb : QE X m2 W Wo b qb) (h1 : starEach [a, b] X.env = (false, eval a X.env) :: starEach [b] X.env := by rfl) (h2 : starEach [b] X.env = (false, eval b X.env) :: starEach [] X.env := by rfl)
    (hs : starEach [a, b] X.env = [(false, eval a X.env), (false, eval b X.env)] := by rfl) (hs2 : starEach [b] X.env = [(false, eval b X.env)] := by rfl) : QI X .A W Wo tg (.Call (.Name "range" p) [a, b] [] pos) (iRg2 qa qb) := PI.imp (pi_range2 hg hm (pa_cons ha (pa_cons hb pa_nil h2) h1) hs hs2) fun σ H Rj ⟨F, T, ω, ρ, Qp, Ep, R, q, hx, k⟩ =>
  ⟨F, T, ω, ρ, _, Ep, R, q, hx, fun T1 ω1 d v H1 R1 e1 r1 q1 => ⟨F, T1, ω1, ρ, _, Ep, R1, q1, hx, fun T2 ω2 d2 v2 H2 R2 e2 r2 ⟨n, n2, z, z2, hb, hb2, q2⟩ => by
    subst z z2
    refine ⟨n, n2, by rw [r1.c.int, r2.c.int], ⟨hb.1, hb.2, hb2.1, hb2.2⟩, k T2 ω2 [] _ _ H2 R2 (e1.trans e2) itr_ok ?_⟩
    rw [rgI_nat]
    exact q2⟩⟩
/-! ### for -/
def sFor (qi : QTI W) (g : QTG) (s : QTS W) : QTS W := fun P ω ρ => qi ω ρ (fun ω1 ds => ∃ I : Nat → W.Ω → List Sl → Prop, I 0 ω1 ρ ∧ (∀ i d ω ρ, ds[i]? = some d → I i ω ρ → g d ρ fun ρ' => s { P with nx := I (i + 1), ct := I (i + 1), bk := P.nx } ω ρ') ∧ ∀ ω ρ, I ds.length ω ρ → P.nx ω ρ) fun ω1 x => P.ex ω1 x ρ
theorem qs_for {tg iter : Expr} {t : List Nat} {qi : QTI W} {g : QTG} {body : List Stmt} (hp : PassesOwn (model X.prog X.w) X.A X.env X.xe) (hc : X.calm = true) (hi : QI X m W Wo tg iter qi) (hg : QG X m W tg t g) (hb : QSs X mr W Wo body s)
    (hs : ∀ x, foldedSetIterable iter X.env x = pure x := by intro _; rfl) : QS X mr W Wo (.For tg iter body [] pos) (sFor qi g s) := PS.imp (ps_for hp hc hi hg hb hs) fun D σ H ⟨F, T, ω, ρ, P, R, q, S⟩ =>
  ⟨F, T, ω, ρ, _, _, R, q, S.xok, fun T1 ω1 h ds J H1 R1 e1 it ⟨I, i0, hs, hd⟩ => by
    refine ⟨fun i n σ H => i + n = ds.length ∧ ∃ T ω ρ, Rel X.K W (F.add h) T ω ρ σ H ∧ I i ω ρ, ⟨ds.length, by omega, T1, ω1, ρ, R1, i0⟩, fun i n σ H ⟨hn, T2, ω2, ρ2, R2, q2⟩ => ?_⟩
    obtain ⟨h1, h2, h3⟩ := it _ T2 ω2 ρ2 σ H (fun p hp => List.mem_append_left _ hp) R2 i
    rcases Nat.lt_or_ge i ds.length with hi | hi
    · refine .inr ⟨h1 hi, fun σ H => ∃ T ω ρ, Rel X.K W (F.add h) T ω ρ σ H ∧ I (i + 1) ω ρ, fun σ' H' q => ⟨n - 1, by omega, by omega, q⟩, fun x H2 hy => ?_⟩
      obtain ⟨g2, rx⟩ := h3 ds[i] x H2 (List.getElem?_eq_getElem hi) hy
      have R3 := R2.grow g2
      refine ⟨F.add h, T2, ω2, ρ2, ds[i], _, R3, rx, hs i _ ω2 ρ2 (List.getElem?_eq_getElem hi) q2, fun ρ4 σ4 R4 _ _ q4 => ?_⟩
      exact ⟨F.add h, T2, ω2, ρ4, _, R4, q4, ⟨fun T ω ρ σ H R q => ⟨T, ω, ρ, R, q⟩, fun T ω ρ σ H R q => S.nx T ω ρ σ H R.drop q, fun T ω ρ σ H R q => ⟨T, ω, ρ, R, q⟩, fun T ω ρ σ H d v R r q => S.rt T ω ρ σ H d v R.drop r q, fun T ω ρ σ H x cls dd R r q => S.ex T ω ρ σ H x cls dd R.drop r q⟩⟩
    · have : i = ds.length := by omega
      subst this
      exact .inl ⟨h2 hi, S.nx T2 ω2 ρ2 σ H R2.drop (hd ω2 ρ2 q2)⟩⟩
/-! ### while -/
def sWhile (qt : QTT W) (s : QTS W) : QTS W := fun P ω ρ => ∃ I : Nat → W.Ω → List Sl → Prop, (∃ n, I n ω ρ) ∧ ∀ n ω ρ, I n ω ρ → qt ω ρ (fun ω1 b => if b = true then s { P with nx := fun ω ρ => ∃ n', n' < n ∧ I n' ω ρ, ct := fun ω ρ => ∃ n', n' < n ∧ I n' ω ρ, bk := P.nx } ω1 ρ else P.nx ω1 ρ) fun ω1 x => P.ex ω1 x ρ
theorem qs_while {body : List Stmt} (hp : PassesOwn (model X.prog X.w) X.A X.env X.xe) (hc : QB X W Wo c qt) (hb : QSs X mr W Wo body s) : QS X mr W Wo (.While c body [] pos) (sWhile qt s) := PS.imp (ps_while hp hc hb) fun D σ H ⟨F, T, ω, ρ, P, R, ⟨I, ⟨n0, i0⟩, hs⟩, S⟩ => by
  refine ⟨fun n σ H => ∃ T ω ρ, Rel X.K W F T ω ρ σ H ∧ I n ω ρ, ⟨n0, T, ω, ρ, R, i0⟩, fun n σ H ⟨T1, ω1, ρ1, R1, q1⟩ => ?_⟩
  refine ⟨F, T1, ω1, ρ1, _, _, R1, hs n ω1 ρ1 q1, S.xok, fun T2 ω2 b H2 R2 e2 q2 => ?_⟩
  cases b with
  | true =>
    exact ⟨fun σ H => ∃ T ω ρ, Rel X.K W F T ω ρ σ H ∧ ∃ n', n' < n ∧ I n' ω ρ, fun σ' H' ⟨T, ω, ρ, R, n', h, q⟩ => ⟨n', h, T, ω, ρ, R, q⟩, F, T2, ω2, ρ1, _, R2, q2, ⟨fun T ω ρ σ H R q => ⟨T, ω, ρ, R, q⟩, S.nx, fun T ω ρ σ H R q => ⟨T, ω, ρ, R, q⟩, S.rt, S.ex⟩⟩
  | false => exact S.nx T2 ω2 ρ1 σ H2 R2 q2
end
end LW

namespace LW
open PySem PySem.Spec PyProof.Rows L2
/-! # the pure layer: comprehensions, defs, try -/
/-! ### slots wiped and found again -/
def wipeP (ρ : List Sl) : List Nat → List Sl
  | [] => ρ
  | v :: vs => (wipeP ρ vs).set v .no
def Sl.pv : Sl → Bool
  | .no => true
  | .va _ => true
  | _ => false
/-- the slots at vs hold no list of their own -/
def still (ρ : List Sl) : List Nat → Bool
  | [] => true
  | v :: vs => (match (wipeP ρ vs)[v]? with
    | some s => s.pv
    | none => true) && still ρ vs
section
variable {K : PySem.W.Frag} {W : Wrl} {F : Frm} {T T' T2 U : ASet} {ω ω' : W.Ω} {ρ ρ' : List Sl} {σ σ' : L2.St} {H H' H2 : Hp} {d : D} {v : V} {l : Addr} {ds : List D} {xs : List V} {i : Nat}
theorem Rel.wipe (R : Rel K W F T ω ρ σ H) : ∀ vs : List Nat, Rel K W F T ω (wipeP ρ vs) (L2.wipe σ vs) H
  | [] => R
  | v :: vs => (R.wipe vs).set_no none v
theorem set_set_self {α : Type} {xs : List α} {i : Nat} {a b : α} (h : xs[i]? = some a) : (xs.set i b).set i a = xs := by
  rw [List.set_set]
  refine List.ext_getElem? fun j => ?_
  rw [List.getElem?_set]
  split
  · rename_i z
    subst z
    rw [h]
    split
    · rfl
    · rename_i z
      rw [List.getElem?_eq_none (by omega)] at h
      cases h
  · rfl
theorem set_out {α : Type} {xs : List α} {i : Nat} {b : α} (h : xs[i]? = none) : xs.set i b = xs := List.set_eq_of_length_le (List.getElem?_eq_none_iff.mp h)
theorem wipeHid : ∀ (vs : List Nat), still ρ vs = true → Rel K W F T ω ρ σ H → ∃ hv : List (D × V), Rel K W (F.add hv) T ω (wipeP ρ vs) (L2.wipe σ vs) H ∧ ∀ F2 T2 ω2 H2, (∀ p, p ∈ hv → p ∈ F2.hid) → Rel K W F2 T2 ω2 (wipeP ρ vs) (L2.wipe σ vs) H2 → Rel K W F2 T2 ω2 ρ σ H2
  | [], _, R => ⟨[], R, fun F2 T2 ω2 H2 _ R2 => R2⟩
  | v :: vs, h, R => by
    have h' : ((match (wipeP ρ vs)[v]? with | some s => s.pv | none => true) && still ρ vs) = true := h
    obtain ⟨h1, h2⟩ := Bool.and_eq_true_iff.mp h'
    obtain ⟨hv, R1, back⟩ := wipeHid vs h2 R
    have R2 := R1.set_no none v
    cases e : (wipeP ρ vs)[v]? with
    | none =>
      refine ⟨hv, R2, fun F2 T2 ω2 H2 hh Rb => back F2 T2 ω2 H2 hh ?_⟩
      have e2 : (L2.wipe σ vs)[v]? = none := by
        rw [List.getElem?_eq_none_iff, ← R1.sl.len]
        exact List.getElem?_eq_none_iff.mp e
      have Rb' : Rel K W F2 T2 ω2 ((wipeP ρ vs).set v .no) ((L2.wipe σ vs).set v none) H2 := Rb
      rw [set_out e, set_out e2] at Rb'
      exact Rb'
    | some s =>
      rw [e] at h1
      obtain ⟨o, e2⟩ : ∃ o, (L2.wipe σ vs)[v]? = some o := by
        have := (List.getElem?_eq_some_iff.mp e).1
        rw [R1.sl.len] at this
        exact ⟨_, List.getElem?_eq_getElem this⟩
      cases s with
      | no =>
        refine ⟨hv, R2, fun F2 T2 ω2 H2 hh Rb => back F2 T2 ω2 H2 hh ?_⟩
        have Rb' : Rel K W F2 T2 ω2 ((wipeP ρ vs).set v .no) ((L2.wipe σ vs).set v none) H2 := Rb
        have Rc := Rb'.set_no o v
        rw [set_set_self e, set_set_self e2] at Rc
        exact Rc
      | va d =>
        obtain ⟨x, hx, rx⟩ := R1.sl.get_va e
        rw [e2] at hx
        cases hx
        refine ⟨(d, x) :: hv, ?_, fun F2 T2 ω2 H2 hh Rb => back F2 T2 ω2 H2 (fun p hp => hh p (List.mem_cons_of_mem _ hp)) ?_⟩
        · have : Rel K W ((F.add hv).add [(d, x)]) T ω (wipeP ρ vs) (L2.wipe σ vs) H := R1.put fun p hp => by
            have : p = (d, x) := by simpa using hp
            rw [this]; exact rx
          exact this.set_no none v
        · have Rb' : Rel K W F2 T2 ω2 ((wipeP ρ vs).set v .no) ((L2.wipe σ vs).set v none) H2 := Rb
          have Rc := Rb'.set_va (Rb'.hd _ (hh (d, x) List.mem_cons_self)) v
          rw [set_set_self e, set_set_self e2] at Rc
          exact Rc
      | ow l ds => cases h1
      | ex a dd x => cases h1
theorem owns_set_pv : ∀ {ρ : List Sl} {v : Nat}, (match ρ[v]? with | some s => s.pv | none => true) = true → owns (ρ.set v .no) = owns ρ
  | [], _, _ => rfl
  | .ow k ds :: r, 0, h => nomatch (show false = true from h)
  | .ex a b c :: r, 0, h => nomatch (show false = true from h)
  | .no :: r, 0, _ => rfl
  | .va _ :: r, 0, _ => rfl
  | .ow k ds :: r, v + 1, h => congrArg (k :: ·) (owns_set_pv (ρ := r) (v := v) (by simpa using h))
  | .no :: r, v + 1, h => owns_set_pv (ρ := r) (v := v) (by simpa using h)
  | .va _ :: r, v + 1, h => owns_set_pv (ρ := r) (v := v) (by simpa using h)
  | .ex _ _ _ :: r, v + 1, h => owns_set_pv (ρ := r) (v := v) (by simpa using h)
theorem owns_wipe : ∀ {vs : List Nat}, still ρ vs = true → owns (wipeP ρ vs) = owns ρ
  | [], _ => rfl
  | v :: vs, h => by
    have h' : ((match (wipeP ρ vs)[v]? with | some s => s.pv | none => true) && still ρ vs) = true := h
    obtain ⟨h1, h2⟩ := Bool.and_eq_true_iff.mp h'
    exact (owns_set_pv h1).trans (owns_wipe h2)
theorem owns_wipe_sub : ∀ vs : List Nat, (owns (wipeP ρ vs)).Sublist (owns ρ)
  | [] => List.Sublist.refl _
  | v :: vs => (owns_set_sub rfl v).trans (owns_wipe_sub vs)
theorem wipe_get {σ : L2.St} {j : Nat} : ∀ {vs : List Nat}, (L2.wipe σ vs)[j]? = if j ∈ vs then (if j < σ.length then some none else none) else σ[j]?
  | [] => by simp [L2.wipe]
  | v :: vs => by
    unfold L2.wipe
    rw [List.getElem?_set]
    by_cases h : v = j
    · subst h
      rw [if_pos rfl, wipe_length, if_pos List.mem_cons_self]
    · rw [if_neg h, wipe_get (vs := vs)]
      by_cases h2 : j ∈ vs
      · rw [if_pos h2, if_pos (List.mem_cons_of_mem _ h2)]
      · rw [if_neg h2, if_neg (by simp [h2]; exact fun z => h z.symm)]
theorem wipe_same {σ σ4 : L2.St} {vs ts : List Nat} (hl : σ4.length = (L2.wipe σ vs).length) (hf : ∀ j, j ∉ ts → σ4[j]? = (L2.wipe σ vs)[j]?) (ht : ∀ j, j ∈ ts → j ∈ vs) : L2.wipe σ4 vs = L2.wipe σ vs := by
  rw [wipe_length] at hl
  refine List.ext_getElem? fun j => ?_
  rw [wipe_get, wipe_get, hl]
  by_cases h : j ∈ vs
  · rw [if_pos h, if_pos h]
  · rw [if_neg h, if_neg h, hf j fun z => h (ht j z), wipe_get, if_neg h]
/-- one more list is out of reach -/
def Frm.grd (F : Frm) (l : Addr) : Frm := { F with S := fun a => F.S a ∨ a = l }
theorem Spr.grd {F : Frm} : ∀ a, Spr (F.grd l) T ρ a → Spr F T ρ a ∨ a = l := fun a z => by
  rcases z with (z | z) | z | z
  · exact .inl (.inl z)
  · exact .inr z
  · exact .inl (.inr (.inl z))
  · exact .inl (.inr (.inr z))
theorem Spr.ungrd {F : Frm} : ∀ a, Spr F T ρ a → Spr (F.grd l) T ρ a := fun a z => by
  rcases z with z | z | z
  · exact .inl (.inl z)
  · exact .inr (.inl z)
  · exact .inr (.inr z)
theorem Rel.guard (R : Rel K W F T ω ρ σ H) (h : H l = none) (o : HO) : Rel K W (F.grd l) T ω ρ σ (upd H l o) := by
  have g : GrP nop H (upd H l o) := GrP.new h
  have R1 := R.grow g
  have ee : ∀ a, Spr (F.grd l) T ρ a → Spr F T ρ a ∨ H a = none := fun a z => (Spr.grd a z).imp id fun z => by rw [z]; exact h
  refine ⟨R1.gr, R1.inv, R1.tn, fun k hk => ⟨(R1.own k hk).1, (R1.own k hk).2.1, fun z => Or.elim (show F.S k ∨ k = l from z) (R1.own k hk).2.2 fun z => R.spl k (.inr (.inr hk)) (by rw [z]; exact h)⟩, R1.nd, fun a z => ?_, fun p hp => (R.hd p hp).ext g (fun _ z => z.elim) ee, R.sl.ext g (fun _ z => z.elim) ee fun _ _ z => z⟩
  rcases z with z | z
  · exact R1.s0 a z
  · rw [z]
    exact ⟨fun z => (by rw [upd_same] at z; cases z), fun t => R.spl l (.inr (.inl t)) h⟩
theorem Rel.unguard (R : Rel K W (F.grd l) T ω ρ σ H) : Rel K W F T ω ρ σ H :=
  ⟨R.gr, R.inv, R.tn, fun k hk => ⟨(R.own k hk).1, (R.own k hk).2.1, fun z => (R.own k hk).2.2 (.inl z)⟩, R.nd, fun a z => R.s0 a (.inl z), fun p hp => (R.hd p hp).less Spr.ungrd, R.sl.less Spr.ungrd⟩
end
/-! ### list comprehensions, one clause -/
abbrev Wo0 : WX := fun _ _ _ _ => False
section
variable {X : Cx} {W : Wrl} {Wo : WX} {mi m : Md} {qi : QTI W} {g : QTG} {qt : QTT W} {qe : QT W} {vs ts : List Nat} {c : Expr} {ifs : List Expr}
def qLc (qi : QTI W) (g : QTG) (qt : QTT W) (qe : QT W) (vs : List Nat) : QT W := fun ω ρ Q E => qi ω ρ (fun ω1 ds => still ρ vs = true ∧ ds.length ≤ 1000000 ∧ ∃ I : Nat → W.Ω → List D → Prop, I 0 ω1 [] ∧
  (∀ i d ω acc, ds[i]? = some d → I i ω acc → acc.length ≤ i → g d (wipeP ρ vs) fun ρ2 => wipeP ρ2 vs = wipeP ρ vs ∧ qt ω ρ2 (fun ω2 b => if b = true then qe ω2 ρ2 (fun ω3 y => I (i + 1) ω3 (acc ++ [y])) (fun _ _ => False) else I (i + 1) ω2 acc) (fun _ _ => False)) ∧
  ∀ ω acc, I ds.length ω acc → Q ω (.lst acc)) E
def qYes : QTT W := fun ω _ Q _ => Q ω true
theorem PTs.imp {t t' : TT} (h : PTs X ifs t) (k : ∀ σ H Q, t' σ H Q → t σ H Q) : PTs X ifs t' := ⟨fun pins s σ H Q I q => h.run pins s σ H Q I (k σ H Q q)⟩
def QTs (X : Cx) (W : Wrl) (Wo : WX) (ifs : List Expr) (q : QTT W) : Prop := PTs X ifs (lfT X.K W Wo q)
theorem qts_nil : QTs X W Wo [] qYes := PTs.imp pts_nil fun σ H Q ⟨F, T, ω, ρ, Qp, Ep, R, q, hx, k⟩ => k T ω true H R .refl q
theorem qts_one (h : QB X W Wo c qt) : QTs X W Wo [c] qt := pts_one h
theorem lf_lc {K : PySem.W.Frag} (hts : ∀ j, j ∈ ts → j ∈ vs) (σ : L2.St) (H : Hp) (Q : VK) (h : lfE .F K W Wo (qLc qi g qt qe vs) σ H Q) : tLc (lfI mi K W Wo qi) (lfG mi K W ts g) (lfT K W Wo0 qt) (lfE .A K W Wo0 qe) vs σ H Q := by
  obtain ⟨F, T, ω, ρ, Qp, Ep, R, q, hx, k⟩ := h
  refine ⟨F, T, ω, ρ, _, Ep, R, q, hx, fun T1 ω1 h ds J H1 R1 e1 it ⟨hst, hlen, I, i0, hstep, hend⟩ D hD => ?_⟩
  obtain ⟨hv, Rw, back⟩ := wipeHid vs hst R1
  have F1D : F.H D = none := R1.gr.live D hD
  have Rg := Rw.guard hD (.lst [])
  have eD : Ext T1 H1 T1 (upd H1 D (.lst [])) := Ext.of0 (GrP.new hD)
  have hh : ∀ p, p ∈ h → p ∈ (((F.add h).add hv).grd D).hid := fun p hp => List.mem_append_right _ (List.mem_append_left _ hp)
  have hhv : ∀ p, p ∈ hv → p ∈ ((F.add h).add hv).hid := fun p hp => List.mem_append_left _ hp
  refine ⟨fun i n H => i + n = ds.length ∧ ∃ T ω acc xs, Rel K W (((F.add h).add hv).grd D) T ω (wipeP ρ vs) (L2.wipe σ vs) H ∧ Ext T1 H1 T H ∧ H D = some (.lst xs) ∧ RepsA K H (Spr (((F.add h).add hv).grd D) T (wipeP ρ vs)) acc xs ∧ acc.length ≤ i ∧ I i ω acc, ⟨ds.length, by omega, T1, ω1, [], [], Rg, eD, upd_same, .nil, Nat.le_refl _, i0⟩, fun i n H2 ⟨hn, T2, ω2, acc, xs, R2, e2, hD2, ra, hl, q2⟩ => ?_⟩
  obtain ⟨h1, h2, h3⟩ := it _ T2 ω2 _ _ H2 hh R2 i
  rcases Nat.lt_or_ge i ds.length with hi | hi
  · refine .inr ⟨h1 hi, fun H' => ∃ T ω acc xs, Rel K W (((F.add h).add hv).grd D) T ω (wipeP ρ vs) (L2.wipe σ vs) H' ∧ Ext T1 H1 T H' ∧ H' D = some (.lst xs) ∧ RepsA K H' (Spr (((F.add h).add hv).grd D) T (wipeP ρ vs)) acc xs ∧ acc.length ≤ i + 1 ∧ I (i + 1) ω acc, fun H' q => ⟨n - 1, by omega, by omega, q⟩, fun x H3 hy => ?_⟩
    obtain ⟨g3, rx⟩ := h3 ds[i] x H3 (List.getElem?_eq_getElem hi) hy
    have R3 := R2.grow g3
    have x3 : Ext T2 H2 T2 H3 := Ext.of0 g3
    refine ⟨_, T2, ω2, _, ds[i], _, R3, rx, hstep i _ ω2 acc (List.getElem?_eq_getElem hi) q2 hl, fun ρ4 σ4 R4 l4 f4 ⟨w4, q4⟩ => ⟨wipe_same l4 f4 hts, _, T2, ω2, ρ4, _, _, R4, q4, fun _ _ _ _ _ _ _ _ z => z, fun T5 ω5 b H5 R5 e5 q5 => ?_⟩⟩
    have sw : L2.wipe σ4 vs = L2.wipe σ vs := wipe_same l4 f4 hts
    have done : ∀ T6 ω6 H6, Rel K W (((F.add h).add hv).grd D) T6 ω6 ρ4 σ4 H6 → Ext T2 H3 T6 H6 → Rel K W (((F.add h).add hv).grd D) T6 ω6 (wipeP ρ vs) (L2.wipe σ vs) H6 ∧ Ext T1 H1 T6 H6 ∧ H6 D = some (.lst xs) ∧ RepsA K H6 (Spr (((F.add h).add hv).grd D) T6 (wipeP ρ vs)) acc xs := fun T6 ω6 H6 R6 e6 => by
      have z := R6.wipe vs
      rw [w4, sw] at z
      refine ⟨z, e2.trans (x3.trans e6), (x3.trans e6).gr.keep _ _ hD2 (.inr (R2.s0 D (.inr rfl)).2), R2.ext_reps (x3.trans e6) ra⟩
    cases b with
    | false =>
      obtain ⟨z1, z2, z3, z4⟩ := done T5 ω5 H5 R5 e5
      exact ⟨T5, ω5, acc, xs, z1, z2, z3, z4, by omega, q5⟩
    | true =>
      refine ⟨_, T5, ω5, ρ4, _, _, R5, q5, fun _ _ _ _ _ _ _ _ z => z, fun T6 ω6 y w H6 R6 e6 r6 q6 => ?_⟩
      obtain ⟨z1, z2, z3, z4⟩ := done T6 ω6 H6 R6 (e5.trans e6)
      have gD : GrP (fun a => a = D) H6 (upd H6 D (.lst (xs ++ [w]))) := GrP.wr rfl fun u hu => by rw [z3] at hu; cases hu; rfl
      have ry : RepA K H6 (Spr (((F.add h).add hv).grd D) T6 (wipeP ρ vs)) y w := RepA.less r6 fun a z => by
        rcases z with z | z | z
        · exact .inl z
        · exact .inr (.inl z)
        · exact .inr (.inr ((owns_wipe_sub vs).subset (by rw [w4]; exact z)))
      have hxl : xs.length ≤ 1000000 := by have := z4.len; omega
      refine ⟨xs, z3, Nat.lt_of_le_of_lt hxl (by decide), T6, ω6, acc ++ [y], xs ++ [w], z1.wrS (.inr rfl) F1D (fun u hu => by rw [z3] at hu; cases hu; rfl), ⟨z2.gr.trans gD fun a z => by rw [z]; exact .inr hD, z2.tn⟩, upd_same, ?_, by rw [List.length_append]; show acc.length + 1 ≤ i + 1; omega, q6⟩
      exact (RepsA.append (.cons ry .nil) z4).ext gD (fun a z => by rw [z]; exact .inl (.inl (.inr rfl))) fun a z => .inl z
  · have : i = ds.length := by omega
    subst this
    refine .inl ⟨h2 hi, ?_⟩
    have Rf : Rel K W F T2 ω2 ρ σ H2 := (back _ T2 ω2 H2 hhv R2.unguard).drop.drop
    refine k T2 ω2 (.lst acc) (.ref D) H2 Rf (e1.trans e2) ⟨D, xs, acc, rfl, rfl, e1.gr.live D hD, fun z => ?_, hD2, ra.less fun a z => ?_⟩ (hend ω2 acc q2)
    · rcases z with z | z | z
      · exact (R1.s0 D z).1 hD
      · exact (R2.s0 D (.inr rfl)).2 z
      · exact R1.spl D (.inr (.inr z)) hD
    · rcases z with (z | z | z) | z
      · exact .inl (.inl z)
      · exact .inr (.inl z)
      · exact .inr (.inr (by rw [owns_wipe hst]; exact z))
      · exact .inl (.inr z)
variable {elt tg iter : Expr} {scope : Scope} {own : List (Str × Nat)} {pos spos py : Pos} {i : Nat} {y : Str}
theorem qe_lc (hc : X.calm = true) (hN : X.N.Nodup) (hi : QI X mi W Wo tg iter qi) (ok : BlkOk X.N X.env.scope scope own)
    (hg : ∀ (s : Shared) (H : Hp) (C : Addr) (cl : List (Str × Addr)) (fp : List Addr), QG (X.blk s H scope (compEnvC scope cl C X.env) fp) mi W tg ts g) (ht : ∀ (s : Shared) (H : Hp) (C : Addr) (cl : List (Str × Addr)) (fp : List Addr), QTs (X.blk s H scope (compEnvC scope cl C X.env) fp) W Wo0 ifs qt)
    (he : ∀ (s : Shared) (H : Hp) (C : Addr) (cl : List (Str × Addr)) (fp : List Addr), QE (X.blk s H scope (compEnvC scope cl C X.env) fp) .A W Wo0 elt qe) (hts : ∀ j, j ∈ ts → j ∈ own.map (·.2) := by decide) (hs : ∀ x, foldedSetIterable iter X.env x = pure x := by intro _; rfl) :
    QE X .F W Wo (.ListComp elt [⟨tg, iter, ifs, 0⟩] scope pos) (qLc qi g qt qe (own.map (·.2))) := PE.imp (pe_lc (g := lfG mi X.K W ts g) (tt := lfT X.K W Wo0 qt) (te := lfE .A X.K W Wo0 qe) hc hN hi ok hg ht he hs) (lf_lc hts)
/-- x = [..], x's slot -/
theorem ps_setQ (hc : X.calm = true) (hN : X.N.Nodup) (hy : X.N[i]? = some y) (hyl : X.env.scope.names.lookup y = some .local)
    (hsw : swapsWith (.ListComp elt [⟨tg, iter, ifs, 0⟩] scope pos) (some (.Name y py)) spos.line X.env = pure true) (hi : QI X mi W Wo tg iter qi) (ok : BlkOk X.N X.env.scope scope own)
    (hg : ∀ (s : Shared) (H : Hp) (C : Addr) (cl : List (Str × Addr)) (fp : List Addr), QG (X.blk s H scope (compEnvC scope cl C X.env) fp) mi W tg ts g) (ht : ∀ (s : Shared) (H : Hp) (C : Addr) (cl : List (Str × Addr)) (fp : List Addr), QTs (X.blk s H scope (compEnvC scope cl C X.env) fp) W Wo0 ifs qt)
    (he : ∀ (s : Shared) (H : Hp) (C : Addr) (cl : List (Str × Addr)) (fp : List Addr), QE (X.blk s H scope (compEnvC scope cl C X.env) fp) .A W Wo0 elt qe) (hts : ∀ j, j ∈ ts → j ∈ own.map (·.2)) (hs : ∀ x, foldedSetIterable iter X.env x = pure x) :
    PS X (.Assign [.Name y py] (.ListComp elt [⟨tg, iter, ifs, 0⟩] scope pos) spos) (tAsg (lfE .F X.K W Wo (qLc qi g qt qe (own.map (·.2)))) (gName i)) := PS.imp (ps_setLc (g := lfG mi X.K W ts g) (tt := lfT X.K W Wo0 qt) (te := lfE .A X.K W Wo0 qe) hc hN hy hyl hsw hi ok hg ht he hs) fun D σ H h => lf_lc hts σ H _ h
variable {mr : Md}
theorem qs_setLc (hc : X.calm = true) (hN : X.N.Nodup) (hy : X.N[i]? = some y) (hyl : X.env.scope.names.lookup y = some .local)
    (hsw : swapsWith (.ListComp elt [⟨tg, iter, ifs, 0⟩] scope pos) (some (.Name y py)) spos.line X.env = pure true) (hi : QI X mi W Wo tg iter qi) (ok : BlkOk X.N X.env.scope scope own)
    (hg : ∀ (s : Shared) (H : Hp) (C : Addr) (cl : List (Str × Addr)) (fp : List Addr), QG (X.blk s H scope (compEnvC scope cl C X.env) fp) mi W tg ts g) (ht : ∀ (s : Shared) (H : Hp) (C : Addr) (cl : List (Str × Addr)) (fp : List Addr), QTs (X.blk s H scope (compEnvC scope cl C X.env) fp) W Wo0 ifs qt)
    (he : ∀ (s : Shared) (H : Hp) (C : Addr) (cl : List (Str × Addr)) (fp : List Addr), QE (X.blk s H scope (compEnvC scope cl C X.env) fp) .A W Wo0 elt qe) (hts : ∀ j, j ∈ ts → j ∈ own.map (·.2) := by decide) (hs : ∀ x, foldedSetIterable iter X.env x = pure x := by intro _; rfl) :
    QS X mr W Wo (.Assign [.Name y py] (.ListComp elt [⟨tg, iter, ifs, 0⟩] scope pos) spos) (sSet i (qLc qi g qt qe (own.map (·.2)))) := PS.imp (ps_setQ hc hN hy hyl hsw hi ok hg ht he hts hs) fun D σ H ⟨F, T, ω, ρ, P, R, q, S⟩ =>
  ⟨F, T, ω, ρ, _, _, R, q, S.xok, fun T' ω' d v H' R' e r q' => S.nx T' ω' _ _ H' (R'.set_va (RF.a r) i) q'⟩
theorem qs_setLcO (hc : X.calm = true) (hN : X.N.Nodup) (hy : X.N[i]? = some y) (hyl : X.env.scope.names.lookup y = some .local)
    (hsw : swapsWith (.ListComp elt [⟨tg, iter, ifs, 0⟩] scope pos) (some (.Name y py)) spos.line X.env = pure true) (hi : QI X mi W Wo tg iter qi) (ok : BlkOk X.N X.env.scope scope own)
    (hg : ∀ (s : Shared) (H : Hp) (C : Addr) (cl : List (Str × Addr)) (fp : List Addr), QG (X.blk s H scope (compEnvC scope cl C X.env) fp) mi W tg ts g) (ht : ∀ (s : Shared) (H : Hp) (C : Addr) (cl : List (Str × Addr)) (fp : List Addr), QTs (X.blk s H scope (compEnvC scope cl C X.env) fp) W Wo0 ifs qt)
    (he : ∀ (s : Shared) (H : Hp) (C : Addr) (cl : List (Str × Addr)) (fp : List Addr), QE (X.blk s H scope (compEnvC scope cl C X.env) fp) .A W Wo0 elt qe) (hts : ∀ j, j ∈ ts → j ∈ own.map (·.2) := by decide) (hs : ∀ x, foldedSetIterable iter X.env x = pure x := by intro _; rfl) :
    QS X mr W Wo (.Assign [.Name y py] (.ListComp elt [⟨tg, iter, ifs, 0⟩] scope pos) spos) (sSetO i (qLc qi g qt qe (own.map (·.2)))) := PS.imp (ps_setQ hc hN hy hyl hsw hi ok hg ht he hts hs) fun D σ H ⟨F, T, ω, ρ, P, R, q, S⟩ =>
  ⟨F, T, ω, ρ, _, _, R, q, S.xok, fun T' ω' d v H' R' e ⟨l, xs, ds, h1, h2, h3, h4, h5, h6⟩ ⟨ds', z, q'⟩ => by
    subst h1 h2
    cases z
    exact S.nx T' ω' _ _ H' (R.set_ow R' e h3 h4 h5 h6 i) (q' l)⟩
end
end LW

namespace LW
open PySem PySem.Spec PyProof.Rows L2
/-! # the pure layer: defs -/
def startP (N : List Str) (ds : List D) : List Sl := ds.map .va ++ List.replicate (N.length - ds.length) .no
theorem owns_start (N : List Str) (ds : List D) : owns (startP N ds) = [] := by
  unfold startP
  induction ds with
  | nil =>
    have : ∀ n, owns (List.replicate n Sl.no) = [] := fun n => by
      induction n with
      | zero => rfl
      | succ n ih => exact ih
    exact this _
  | cons d ds ih =>
    have : ∀ (a b : List Sl), owns (Sl.va d :: a ++ b) = owns (a ++ b) := fun a b => rfl
    have h2 : ∀ (ds : List D) (n : Nat), owns (ds.map Sl.va ++ List.replicate n Sl.no) = [] := fun ds n => by
      induction ds with
      | nil =>
        induction n with
        | zero => rfl
        | succ n ih => exact ih
      | cons d ds ih => exact ih
    exact h2 _ _
theorem slsR_start {K : PySem.W.Frag} {H : Hp} {S : ASet} (N : List Str) : ∀ {ds : List D} {vs : List V}, RepsA K H S ds vs → ∀ n, SlsR K H S (ds.map .va ++ List.replicate n .no) (vs.map some ++ List.replicate n none)
  | _, _, .nil, n => by
    induction n with
    | zero => exact .nil
    | succ n ih => exact .no ih
  | _, _, .cons h r, n => .va h (slsR_start N r n)
/-- the end that a def's body meets -/
def endP (mr : Md) (W : Wrl) (Q : W.Ω → D → Prop) (E : W.Ω → Exn → Prop) : PEn W := { nx := fun ω _ => (match mr with | .F => False | _ => Q ω .non), rt := Q, ex := fun ω x _ => E ω x }
theorem okQ {P : Program} {w : World} {K : PySem.W.Frag} {mg : Str → Option Value} {base : Heap} {x qual : Str} {params : Arguments} {body : List Stmt} {scope : Scope} {dvs : List V} {kws : List (Str × V)} {f : Addr} {fd : FuncData} {N ps : List Str} {k : Nat} {mr : Md} {W : Wrl} {pf : PSp W} {s : QTS W}
    (F : FunD K x qual params body scope dvs kws f fd) (S : FnScope N ps scope) (hl : ∀ ω ds Q E, pf ω ds Q E → ds.length = ps.length)
    (hb : ∀ (cdv : Value) (A : Around) (outer : List Env) (s0 : Shared) (H : Hp) (E : XK), Room k (A.deeper (envOfC qual scope s0.heap.objs.size f cdv)) →
      L2N.Takes (cxOf (L2N.CX P w) P w K mg base N qual scope f cdv A outer s0 H E) (fun cls d _ H' => E cls d H') →
      PassesOwn (model P w) (cxOf (L2N.CX P w) P w K mg base N qual scope f cdv A outer s0 H E).A (cxOf (L2N.CX P w) P w K mg base N qual scope f cdv A outer s0 H E).env (cxOf (L2N.CX P w) P w K mg base N qual scope f cdv A outer s0 H E).xe →
      QSs (cxOf (L2N.CX P w) P w K mg base N qual scope f cdv A outer s0 H E) mr W (fun cls d _ H' => E cls d H') body s)
    (hq : ∀ ω ds Q E, pf ω ds Q E → s (endP mr W Q E) ω (startP N ds)) : FnOk P w K mg base (L2N.CX P w) (k + 1) f fd ps (spM mr K W pf) := by
  refine okT F S (fun vs H Q E h => ?_) fun cdv A outer s0 H vs Q E hr h tk pown => ⟨_, hb cdv A outer s0 H E hr tk pown, ?_⟩
  · obtain ⟨S', T, ω, ds, Qp, Ep, hS, hi, r, q, k, kx⟩ := h
    exact r.len.trans (hl _ _ _ _ q)
  · obtain ⟨S', T, ω, ds, Qp, Ep, hS, hi, r, q, k, kx⟩ := h
    have es : ∀ a, Spr ⟨H, S', T, []⟩ T (startP N ds) a → S' a ∨ T a := fun a z => by
      rcases z with z | z | z
      · exact .inl z
      · exact .inr z
      · rw [owns_start] at z; cases z
    have en : N.length - vs.length = N.length - ds.length := by rw [r.len]
    have R : Rel K W ⟨H, S', T, []⟩ T ω (startP N ds) (L2.start N vs) H := by
      refine ⟨GrP.refl _ _, hi, fun a z => .inl z, fun l hl => ?_, ?_, hS, fun p hp => ?_, ?_⟩
      · rw [owns_start] at hl; cases hl
      · rw [owns_start]; exact List.nodup_nil
      · cases hp
      · unfold L2.start startP
        rw [en]
        exact (slsR_start N (r.less es) _)
    refine ⟨⟨H, S', T, []⟩, T, ω, startP N ds, endP mr W Qp Ep, R, hq ω ds Qp Ep q, ⟨fun T' ω' ρ' σ' H' R' q' => ?_, fun _ _ _ _ _ _ z => z.elim, fun _ _ _ _ _ _ z => z.elim, fun T' ω' ρ' σ' H' d v R' rt q' => k T' ω' d v H' ⟨R'.gr, R'.tn⟩ R'.inv rt q', fun T' ω' ρ' σ' H' x cls dd R' xr q' => kx T' ω' x cls dd H' ⟨R'.gr, R'.tn⟩ R'.inv xr q'⟩⟩
    cases mr with
    | F => exact (show False from q').elim
    | A => exact k T' ω' .non .non H' ⟨R'.gr, R'.tn⟩ R'.inv (show RepA K H' _ .non .non from .non) q'
    | O => exact k T' ω' .non .non H' ⟨R'.gr, R'.tn⟩ R'.inv (show RepA K H' _ .non .non from .non) q'
    | C => exact k T' ω' .non .non H' ⟨R'.gr, R'.tn⟩ R'.inv (show RepA K H' _ .non .non from .non) q'
/-! ### try -/
def endsNP {W : Wrl} (i : Nat) (P : PEn W) : PEn W := { nx := fun ω ρ => P.nx ω (ρ.set i .no), rt := P.rt, bk := fun ω ρ => P.bk ω (ρ.set i .no), ct := fun ω ρ => P.ct ω (ρ.set i .no), ex := fun _ _ _ => False }
def noEx {W : Wrl} (P : PEn W) : PEn W := { P with ex := fun _ _ _ => False }
/-- the clauses: class, slot, suite -/
abbrev Cls3 (W : Wrl) := List (Addr × Option Nat × (Exn → Addr → Option Addr → QTS W))
def hsel (K : PySem.W.Frag) {W : Wrl} : Cls3 W → PEn W → W.Ω → Exn → List Sl → Prop
  | [], P, ω, x, ρ => P.ex ω x ρ
  | (C, o, u) :: r, P, ω, x, ρ => ∃ b, PySem.W.exmOne K (.ref x.C) (.ref C) = some b ∧ if b = true then (match o with
    | some i => ∀ a dd, u x a dd (endsNP i P) ω (ρ.set i (.ex a dd x))
    | none => ∀ a dd, u x a dd (noEx P) ω ρ) else hsel K r P ω x ρ
def sTry (K : PySem.W.Frag) {W : Wrl} (s : QTS W) (hs : Cls3 W) : QTS W := fun P ω ρ => s { P with ex := fun ω x ρ => hsel K hs P ω x ρ } ω ρ
section
variable {X : Cx} {W : Wrl} {Wo : WX} {mr : Md} {s : QTS W} {body : List Stmt} {h0 : ExceptHandler} {hds : List ExceptHandler} {pos : Pos}
/-- a suite's reading at an exception -/
def lfX (mr : Md) (K : PySem.W.Frag) (W : Wrl) (u : Exn → Addr → Option Addr → QTS W) (a : Addr) (cls : Value) (d : Option Addr) : TS := fun D σ H => ∃ x, cls = .ref x.C ∧ XDict K H x d ∧ ∃ (F : Frm) (T : ASet) (ω : W.Ω) (ρ : List Sl) (P : PEn W), Rel K W F T ω ρ σ H ∧ u x a d P ω ρ ∧ Sim mr K W Wo0 F P D
inductive QHd (X : Cx) (mr : Md) (W : Wrl) : List ExceptHandler → Cls3 W → Prop
  | nil : QHd X mr W [] []
  | only {x : Str} {C : Addr} {u : Exn → Addr → Option Addr → QTS W} {b0 : Stmt} {su : List Stmt} {np p : Pos} {hds : List ExceptHandler} {l : Cls3 W} (hc : Names X x (.ref C))
      (hsu : ∀ (a : Addr) (oe : Obj) (d : Option Addr) (pn : List (Addr × Obj)) (x : Exn), L2N.Zn (.ref x.C) d oe → (∃ vs, oe.data = .fields vs) → QSs (X.suite a ((a, oe) :: pn)) mr W Wo0 (b0 :: su) (u x a d)) (r : QHd X mr W hds l) :
      QHd X mr W (.ExceptHandler (some (.Name x np)) none (b0 :: su) p :: hds) ((C, none, u) :: l)
  | as_ {x n : Str} {i : Nat} {C : Addr} {u : Exn → Addr → Option Addr → QTS W} {b0 : Stmt} {su : List Stmt} {np p : Pos} {hds : List ExceptHandler} {l : Cls3 W} (hN : X.N.Nodup) (hi : X.N[i]? = some n) (hln : X.env.kindOf n = some .local) (hc : Names X x (.ref C))
      (hsu : ∀ (a : Addr) (oe : Obj) (d : Option Addr) (pn : List (Addr × Obj)) (x : Exn), L2N.Zn (.ref x.C) d oe → (∃ vs, oe.data = .fields vs) → QSs (X.suite a ((a, oe) :: pn)) mr W Wo0 (b0 :: su) (u x a d)) (r : QHd X mr W hds l) :
      QHd X mr W (.ExceptHandler (some (.Name x np)) (some n) (b0 :: su) p :: hds) ((C, some i, u) :: l)
def toL (mr : Md) (K : PySem.W.Frag) {W : Wrl} : Cls3 W → List (Value × Option Nat × TSu)
  | [] => []
  | (C, o, u) :: r => (.ref C, o, fun a cls d => lfX mr K W u a cls d) :: toL mr K r
theorem QHd.to {hds : List ExceptHandler} {l : Cls3 W} (h : QHd X mr W hds l) : HdsE X hds (toL mr X.K l) := by
  induction h with
  | nil => exact .nil
  | only hc hsu r ih =>
    rename_i u _ _ _ _ _ _
    exact .only (ts := fun a cls d _ _ => lfX mr X.K W u a cls d) hc (fun a oe cls d pn hz hf => ⟨fun pins s σ H D I ⟨x, e, xd, F, T, ω, ρ, P, R, q, S⟩ => by
      subst e
      exact (hsu a oe d pn x hz hf).run pins s σ H D I ⟨F, T, ω, ρ, P, R, q, S⟩⟩) ih
  | as_ hN hi hln hc hsu r ih =>
    rename_i i _ u _ _ _ _ _ _
    exact .as_ (ts := fun a cls d _ _ => lfX mr X.K W u a cls d) hN hi hln hc (fun a oe cls d pn hz hf => ⟨fun pins s σ H D I ⟨x, e, xd, F, T, ω, ρ, P, R, q, S⟩ => by
      subst e
      exact (hsu a oe d pn x hz hf).run pins s σ H D I ⟨F, T, ω, ρ, P, R, q, S⟩⟩) ih
theorem hsel_ok {K : PySem.W.Frag} {F : Frm} {P : PEn W} {D : Ends} (S : Sim mr K W Wo F P D) : ∀ {l : Cls3 W} {T : ASet} {ω : W.Ω} {ρ : List Sl} {σ : L2.St} {H : Hp} {x : Exn} {d : Option Addr}, Rel K W F T ω ρ σ H → XDict K H x d → hsel K l P ω x ρ → wHds K Wo D (toL mr K l) (.ref x.C) d σ H
  | [], _, _, _, _, _, _, _, R, xd, q => S.ex _ _ _ _ _ _ _ _ R ⟨rfl, xd⟩ q
  | (C, o, u) :: r, T, ω, ρ, σ, H, x, d, R, xd, ⟨b, hb, q⟩ => by
    refine ⟨b, hb, fun hb1 a na => ?_, fun hb0 => ?_⟩
    · subst hb1
      rw [if_pos rfl] at q
      cases o with
      | none => exact ⟨x, rfl, xd, F, T, ω, ρ, noEx P, R, q a d, ⟨S.nx, S.bk, S.ct, S.rt, fun _ _ _ _ _ _ _ _ _ _ z => z⟩⟩
      | some i => exact ⟨x, rfl, xd, F, T, ω, ρ.set i (.ex a d x), endsNP i P, R.set_ex xd i, q a d, ⟨fun T ω ρ σ H R q => S.nx T ω _ _ H (R.set_no none i) q, fun T ω ρ σ H R q => S.bk T ω _ _ H (R.set_no none i) q, fun T ω ρ σ H R q => S.ct T ω _ _ H (R.set_no none i) q, S.rt, fun _ _ _ _ _ _ _ _ _ _ z => z⟩⟩
    · subst hb0
      rw [if_neg Bool.false_ne_true] at q
      exact hsel_ok S R xd q
theorem qs_try {K : PySem.W.Frag} {l : Cls3 W} (hK : X.K = K) (hs : X.stack = X.env :: X.outer) (hf : X.env.frame = some X.env.locals) (tk : L2N.Takes X Wo)
    (hb : ∀ (Wq : WX) (pn : List (Addr × Obj)) (xe : Value → Shared → Prop), L2N.Takes (X.tr pn xe) Wq → PassesOwn (model X.prog X.w) X.A X.env xe → QSs (X.tr pn xe) mr W Wq body s) (hh : QHd X mr W (h0 :: hds) l) :
    QS X mr W Wo (.Try body (h0 :: hds) [] [] pos) (sTry K s l) := by subst hK; exact PS.imp (ps_tryE (tb := fun Wq _ _ => lfS mr X.K W Wq s) hs hf tk hb hh.to) fun D σ H ⟨F, T, ω, ρ, P, R, q, S⟩ =>
  ⟨F, T, ω, ρ, _, R, q, ⟨S.nx, S.bk, S.ct, S.rt, fun T ω ρ σ H x cls dd R ⟨e, xd⟩ q => by
    subst e
    exact hsel_ok S R xd q⟩⟩
end
/-! ### in a suite: isinstance(e, C), e.f -/
section
variable {X : Cx} {W : Wrl} {Wo : WX} {a C : Addr} {oe : Obj} {d : Option Addr} {pn : List (Addr × Obj)} {x : Exn} {i : Nat} {e e2 : Expr} {p pos : Pos}
def qIsE (K : PySem.W.Frag) (i : Nat) (x : Exn) (a : Addr) (d : Option Addr) (C : Addr) : QT W := fun ω ρ Q _ => ρ[i]? = some (.ex a d x) ∧ ExcC K x.C ∧ ∃ b, PySem.W.kitOne K (.ref x.C) (.ref C) = some b ∧ Q ω (.bl b)
end
end LW

namespace LW
open PySem PySem.Spec PyProof.Rows L2
/-! # readings of the pure layer, answered from the left -/
section
variable {W : Wrl} {P : PEn W} {ω : W.Ω} {ρ : List Sl} {Q : W.Ω → D → Prop} {E : W.Ω → Exn → Prop} {QB : W.Ω → Bool → Prop} {QL : W.Ω → List D → Prop} {Q1 : D → Prop} {B1 : Bool → Prop} {q qa qb qc : QT W} {qt qu : QTT W} {qs : QTA W} {s u : QTS W} {i j : Int} {n : Nat} {d e : D} {ds es : List D} {g : QTG} {gs : QTGs} {qi : QTI W} {k : List Sl → Prop} {pf : PSp W} {C : Addr} {m : Str}
theorem v_seq (h : s { P with nx := u P } ω ρ) : sSeq s u P ω ρ := h
theorem v_nx (h : P.nx ω ρ) : sNx P ω ρ := h
theorem v_drop (h : qa ω ρ (fun ω1 _ => P.nx ω1 ρ) fun ω1 x => P.ex ω1 x ρ) : sDrop qa P ω ρ := h
theorem v_ret (h : qa ω ρ (fun ω1 d => P.rt ω1 d) fun ω1 x => P.ex ω1 x ρ) : sRet qa P ω ρ := h
theorem v_retO {l : Addr} (h1 : ρ[n]? = some (.ow l ds)) (h : P.rt ω (.lst ds)) : sRetO n P ω ρ := ⟨l, ds, h1, h⟩
theorem v_retN (h : P.rt ω .non) : sRetN P ω ρ := h
theorem v_brk (h : P.bk ω ρ) : sBrk P ω ρ := h
theorem v_cnt (h : P.ct ω ρ) : sCnt P ω ρ := h
theorem v_frz (h : s P ω (frz ρ n)) : sFrz n s P ω ρ := h
theorem v_if (h : qt ω ρ (fun ω1 b => if b = true then s P ω1 ρ else u P ω1 ρ) fun ω1 x => P.ex ω1 x ρ) : sIf qt s u P ω ρ := h
theorem v_set (h : qa ω ρ (fun ω1 d => P.nx ω1 (ρ.set n (.va d))) fun ω1 x => P.ex ω1 x ρ) : sSet n qa P ω ρ := h
def kSetO (n : Nat) (P : PEn W) (ω1 : W.Ω) (ρ : List Sl) (d : D) : Prop := ∃ ds, d = .lst ds ∧ ∀ l, P.nx ω1 (ρ.set n (.ow l ds))
theorem v_setO (h : qa ω ρ (fun ω1 d => kSetO n P ω1 ρ d) fun ω1 x => P.ex ω1 x ρ) : sSetO n qa P ω ρ := h
theorem v_kSetO (h : ∀ l, P.nx ω (ρ.set n (.ow l ds))) : kSetO n P ω ρ (.lst ds) := ⟨ds, rfl, h⟩
def kAug (n : Nat) (f : Int → Int → Int) (i : Int) (P : PEn W) (ω1 : W.Ω) (ρ : List Sl) (d : D) : Prop := ∃ k, d = .int k ∧ P.nx ω1 (ρ.set n (.va (.int (f i k))))
theorem v_aug {f : Int → Int → Int} (h1 : ρ[n]? = some (.va (.int i))) (h : qa ω ρ (fun ω1 d => kAug n f i P ω1 ρ d) fun ω1 x => P.ex ω1 x ρ) : sAug n f qa P ω ρ := ⟨i, h1, h⟩
theorem v_kAug {f : Int → Int → Int} (h : P.nx ω (ρ.set n (.va (.int (f i j))))) : kAug n f i P ω ρ (.int j) := ⟨j, rfl, h⟩
theorem v_asg (h : qa ω ρ (fun ω1 d => g d ρ fun ρ' => P.nx ω1 ρ') fun ω1 x => P.ex ω1 x ρ) : sAsg g qa P ω ρ := h
theorem v_gnm (h : k (ρ.set n (.va d))) : gnm n d ρ k := h
theorem v_gtp (h1 : ds.length = n) (h : gs ds ρ k) : gtp n gs (.tup ds) ρ k := ⟨ds, rfl, h1, h⟩
theorem v_gsn (h : k ρ) : gsn [] ρ k := ⟨rfl, h⟩
theorem v_gsc (h : g d ρ fun ρ' => gs ds ρ' k) : gsc g gs (d :: ds) ρ k := ⟨d, ds, rfl, h⟩
theorem v_app {l : Addr} (h1 : ρ[n]? = some (.ow l ds)) (h2 : ds.length < 1000000) (h : qa ω ρ (fun ω1 d => P.nx ω1 (ρ.set n (.ow l (ds ++ [d])))) fun ω1 x => P.ex ω1 x ρ) : sApp n qa P ω ρ := ⟨l, ds, h1, h2, h⟩
def kPut2 (n : Nat) (P : PEn W) (ω2 : W.Ω) (ρ : List Sl) (l : Addr) (ds : List D) (d y : D) : Prop := ∃ i j, y = .int i ∧ ixN ds.length i = some j ∧ P.nx ω2 (ρ.set n (.ow l (ds.set j d)))
def kPut (n : Nat) (qk : QT W) (P : PEn W) (ω1 : W.Ω) (ρ : List Sl) (d : D) : Prop := ∃ l ds, ρ[n]? = some (.ow l ds) ∧ qk ω1 ρ (fun ω2 y => kPut2 n P ω2 ρ l ds d y) fun ω1 x => P.ex ω1 x ρ
theorem v_put {qk : QT W} (h : qa ω ρ (fun ω1 d => kPut n qk P ω1 ρ d) fun ω1 x => P.ex ω1 x ρ) : sPut n qk qa P ω ρ := h
theorem v_kPut {qk : QT W} {l : Addr} (h1 : ρ[n]? = some (.ow l ds)) (h : qk ω ρ (fun ω2 y => kPut2 n P ω2 ρ l ds d y) fun ω1 x => P.ex ω1 x ρ) : kPut n qk P ω ρ d := ⟨l, ds, h1, h⟩
theorem ixN_nat {n : Nat} {i : Int} (h0 : 0 ≤ i) (h : i < n) : ixN n i = some i.toNat := by unfold ixN; rw [if_pos h0, if_pos h]
theorem v_kPut2 {l : Addr} {j : Nat} (h1 : ixN ds.length i = some j) (h : P.nx ω (ρ.set n (.ow l (ds.set j d)))) : kPut2 n P ω ρ l ds d (.int i) := ⟨i, j, rfl, h1, h⟩
theorem v_raise {x : Exn} (h : P.ex ω x ρ) : sRaise x P ω ρ := h
/-! loops -/
def kFor (g : QTG) (s : QTS W) (P : PEn W) (ω1 : W.Ω) (ρ : List Sl) (ds : List D) : Prop := ∃ I : Nat → W.Ω → List Sl → Prop, I 0 ω1 ρ ∧ (∀ i d ω ρ, ds[i]? = some d → I i ω ρ → g d ρ fun ρ' => s { P with nx := I (i + 1), ct := I (i + 1), bk := P.nx } ω ρ') ∧ ∀ ω ρ, I ds.length ω ρ → P.nx ω ρ
theorem v_for (h : qi ω ρ (fun ω1 ds => kFor g s P ω1 ρ ds) fun ω1 x => P.ex ω1 x ρ) : sFor qi g s P ω ρ := h
theorem v_kFor (I : Nat → W.Ω → List Sl → Prop) (h0 : I 0 ω ρ) (hs : ∀ i d ω ρ, ds[i]? = some d → I i ω ρ → g d ρ fun ρ' => s { P with nx := I (i + 1), ct := I (i + 1), bk := P.nx } ω ρ') (hd : ∀ ω ρ, I ds.length ω ρ → P.nx ω ρ) : kFor g s P ω ρ ds := ⟨I, h0, hs, hd⟩
/-- over ints -/
theorem v_kForI {ns : List Int} (I : Nat → W.Ω → List Sl → Prop) (h0 : I 0 ω ρ) (hs : ∀ i y ω ρ, ns[i]? = some y → I i ω ρ → g (.int y) ρ fun ρ' => s { P with nx := I (i + 1), ct := I (i + 1), bk := P.nx } ω ρ') (hd : ∀ ω ρ, I ns.length ω ρ → P.nx ω ρ) : kFor g s P ω ρ (dInts ns) := by
  refine ⟨I, h0, fun i d ω ρ hd => ?_, fun ω ρ h => hd ω ρ (by unfold dInts at h; rw [List.length_map] at h; exact h)⟩
  unfold dInts at hd
  rw [List.getElem?_map] at hd
  obtain ⟨y, hy, rfl⟩ := Option.map_eq_some_iff.mp hd
  exact hs i y ω ρ hy
/-- the same at every turn -/
theorem v_kForS (I : W.Ω → List Sl → Prop) (h0 : I ω ρ) (hs : ∀ d ω ρ, d ∈ ds → I ω ρ → g d ρ fun ρ' => s { P with nx := I, ct := I, bk := P.nx } ω ρ') (hd : ∀ ω ρ, I ω ρ → P.nx ω ρ) : kFor g s P ω ρ ds :=
  ⟨fun _ => I, h0, fun i d ω ρ hd hi => hs d ω ρ (List.mem_of_getElem? hd) hi, hd⟩
theorem v_kForSI {ns : List Int} (I : W.Ω → List Sl → Prop) (h0 : I ω ρ) (hs : ∀ y ω ρ, y ∈ ns → I ω ρ → g (.int y) ρ fun ρ' => s { P with nx := I, ct := I, bk := P.nx } ω ρ') (hd : ∀ ω ρ, I ω ρ → P.nx ω ρ) : kFor g s P ω ρ (dInts ns) :=
  v_kForI (fun _ => I) h0 (fun i y ω ρ hy hi => hs y ω ρ (List.mem_of_getElem? hy) hi) hd
theorem rg_iff {n i : Nat} {y : Int} : (rg n)[i]? = some y ↔ i < n ∧ y = i := by
  by_cases h : i < n
  · rw [rg_get h]
    simp [h]
    exact eq_comm
  · rw [List.getElem?_eq_none (by rw [length_rg]; omega)]
    simp [h]
/-- over range(n) -/
theorem v_kForR {n : Nat} (I : Nat → W.Ω → List Sl → Prop) (h0 : I 0 ω ρ) (hs : ∀ (i : Nat) ω ρ, i < n → I i ω ρ → g (.int i) ρ fun ρ' => s { P with nx := I (i + 1), ct := I (i + 1), bk := P.nx } ω ρ') (hd : ∀ ω ρ, I n ω ρ → P.nx ω ρ) : kFor g s P ω ρ (dInts (rgI 0 n)) := by
  rw [rgI_rg]
  refine v_kForI I h0 (fun i y ω ρ hy => ?_) fun ω ρ h => hd ω ρ (by rw [length_rg] at h; exact h)
  obtain ⟨hi, rfl⟩ := rg_iff.mp hy
  exact hs i ω ρ hi
theorem v_while (I : Nat → W.Ω → List Sl → Prop) (n0 : Nat) (h0 : I n0 ω ρ) (hs : ∀ n ω ρ, I n ω ρ → qt ω ρ (fun ω1 b => if b = true then s { P with nx := fun ω ρ => ∃ n', n' < n ∧ I n' ω ρ, ct := fun ω ρ => ∃ n', n' < n ∧ I n' ω ρ, bk := P.nx } ω1 ρ else P.nx ω1 ρ) fun ω1 x => P.ex ω1 x ρ) : sWhile qt s P ω ρ := ⟨I, ⟨n0, h0⟩, hs⟩
theorem v_iSeq (h : qa ω ρ (fun ω1 d => ∃ ds, d = .lst ds ∧ QL ω1 ds) E) : iSeq qa ω ρ QL E := h
theorem v_iTupl (h : qa ω ρ (fun ω1 d => ∃ ds, d = .tup ds ∧ QL ω1 ds) E) : iTupl qa ω ρ QL E := h
theorem v_exl {R : List D → Prop} (h : R ds) : ∃ ds', D.lst ds = .lst ds' ∧ R ds' := ⟨ds, rfl, h⟩
theorem v_ext {R : List D → Prop} (h : R ds) : ∃ ds', D.tup ds = .tup ds' ∧ R ds' := ⟨ds, rfl, h⟩
def kRg (x : D) (R : Int → Prop) : Prop := ∃ n, x = .int n ∧ RgB n ∧ R n
theorem v_iRg1 (h : qa ω ρ (fun ω1 d => kRg d fun n => QL ω1 (dInts (rgI 0 n))) E) : iRg1 qa ω ρ QL E := h
theorem v_kRg {R : Int → Prop} (h1 : RgB i) (h : R i) : kRg (.int i) R := ⟨i, rfl, h1, h⟩
def kRg2 (x y : D) (R : Int → Int → Prop) : Prop := ∃ n k, x = .int n ∧ y = .int k ∧ RgB n ∧ RgB k ∧ R n k
theorem v_iRg2 (h : qa ω ρ (fun ω1 d => qb ω1 ρ (fun ω2 d2 => kRg2 d d2 fun n k => QL ω2 (dInts (rgI n k))) E) E) : iRg2 qa qb ω ρ QL E := h
theorem v_kRg2 {R : Int → Int → Prop} (h1 : RgB i) (h2 : RgB j) (h : R i j) : kRg2 (.int i) (.int j) R := ⟨i, j, rfl, rfl, h1, h2, h⟩
theorem rgB (h0 : -1000000000 ≤ i) (h : i ≤ 1000000000) : RgB i := ⟨by omega, by omega⟩
/-! comprehensions -/
def kLcQ (g : QTG) (qt : QTT W) (qe : QT W) (vs : List Nat) (ρ : List Sl) (Q : W.Ω → D → Prop) (ω1 : W.Ω) (ds : List D) : Prop := still ρ vs = true ∧ ds.length ≤ 1000000 ∧ ∃ I : Nat → W.Ω → List D → Prop, I 0 ω1 [] ∧
  (∀ i d ω acc, ds[i]? = some d → I i ω acc → acc.length ≤ i → g d (wipeP ρ vs) fun ρ2 => wipeP ρ2 vs = wipeP ρ vs ∧ qt ω ρ2 (fun ω2 b => if b = true then qe ω2 ρ2 (fun ω3 y => I (i + 1) ω3 (acc ++ [y])) (fun _ _ => False) else I (i + 1) ω2 acc) (fun _ _ => False)) ∧
  ∀ ω acc, I ds.length ω acc → Q ω (.lst acc)
variable {qe : QT W} {vs : List Nat}
theorem v_lc (h : qi ω ρ (fun ω1 ds => kLcQ g qt qe vs ρ Q ω1 ds) E) : qLc qi g qt qe vs ω ρ Q E := h
/-- by an invariant, no test -/
theorem v_kLcW (I : Nat → W.Ω → List D → Prop) (hl : ds.length ≤ 1000000) (h0 : I 0 ω []) (hst : still ρ vs = true)
    (hs : ∀ i d ω acc, ds[i]? = some d → I i ω acc → acc.length ≤ i → g d (wipeP ρ vs) fun ρ2 => wipeP ρ2 vs = wipeP ρ vs ∧ qe ω ρ2 (fun ω3 y => I (i + 1) ω3 (acc ++ [y])) (fun _ _ => False))
    (hd : ∀ ω acc, I ds.length ω acc → Q ω (.lst acc)) : kLcQ g qYes qe vs ρ Q ω ds := by
  refine ⟨hst, hl, I, h0, fun i d ω acc hd hi hl => ?_, hd⟩
  have z := hs i d ω acc hd hi hl
  exact z
/-- each item by itself, the world untouched -/
theorem v_kLcM (f : D → D) (hl : ds.length ≤ 1000000) (hst : still ρ vs = true)
    (hs : ∀ (i : Nat) (d : D) (Q' : W.Ω → D → Prop), ds[i]? = some d → Q' ω (f d) → g d (wipeP ρ vs) fun ρ2 => wipeP ρ2 vs = wipeP ρ vs ∧ qe ω ρ2 Q' (fun _ _ => False))
    (hd : Q ω (.lst (ds.map f))) : kLcQ g qYes qe vs ρ Q ω ds := by
  refine v_kLcW (fun i ω' acc => ω' = ω ∧ acc = (ds.take i).map f) hl ⟨rfl, rfl⟩ hst (fun i d ω' acc hi ⟨e1, e2⟩ _ => ?_) (fun ω' acc ⟨e1, e2⟩ => by rw [e1, e2, List.take_length]; exact hd)
  subst e1 e2
  exact hs i d _ hi ⟨rfl, by rw [List.take_succ, hi, List.map_append] <;> rfl⟩
theorem v_kLcMI {ns : List Int} (f : Int → D) (hl : ns.length ≤ 1000000) (hst : still ρ vs = true)
    (hs : ∀ (i : Nat) (y : Int) (Q' : W.Ω → D → Prop), ns[i]? = some y → Q' ω (f y) → g (.int y) (wipeP ρ vs) fun ρ2 => wipeP ρ2 vs = wipeP ρ vs ∧ qe ω ρ2 Q' (fun _ _ => False))
    (hd : Q ω (.lst (ns.map f))) : kLcQ g qYes qe vs ρ Q ω (dInts ns) := by
  refine v_kLcM (fun d => match d with | .int y => f y | _ => .non) (by unfold dInts; rw [List.length_map]; exact hl) hst (fun i d Q' hi hq => ?_) (by unfold dInts; rw [List.map_map]; exact hd)
  unfold dInts at hi
  rw [List.getElem?_map] at hi
  obtain ⟨y, hy, rfl⟩ := Option.map_eq_some_iff.mp hi
  exact hs i y Q' hy hq
/-! expressions -/
theorem v_V (h1 : slD ρ[n]? = some d) (h : Q ω d) : qV n ω ρ Q E := ⟨d, h1, h⟩
theorem v_Va (h1 : ρ[n]? = some (.va d)) (h : Q ω d) : qVa n ω ρ Q E := ⟨d, h1, h⟩
theorem v_C (h : Q ω d) : qC d ω ρ Q E := h
theorem v_op {f : D → D → (D → Prop) → Prop} (h : qa ω ρ (fun ω1 x => qb ω1 ρ (fun ω2 y => f x y (Q ω2)) E) E) : qOp f qa qb ω ρ Q E := h
theorem v_un {f : D → (D → Prop) → Prop} (h : qa ω ρ (fun ω1 x => f x (Q ω1)) E) : qUn f qa ω ρ Q E := h
theorem v_ca {f : List D → (D → Prop) → Prop} (h : qs ω ρ (fun ω1 xs => f xs (Q ω1)) E) : qCa f qs ω ρ Q E := h
theorem v_nil (h : QL ω []) : qNil ω ρ QL E := h
theorem v_cons (h : qa ω ρ (fun ω1 d => qs ω1 ρ (fun ω2 ds => QL ω2 (d :: ds)) E) E) : qCons qa qs ω ρ QL E := h
theorem v_star (h : qa ω ρ (fun ω1 d => ∃ ds, (d = .lst ds ∨ d = .tup ds) ∧ qs ω1 ρ (fun ω2 es => QL ω2 (ds ++ es)) E) E) : qStar qa qs ω ρ QL E := h
theorem v_sta {R : List D → Prop} (h : R ds) : ∃ ds', (D.lst ds = .lst ds' ∨ D.lst ds = .tup ds') ∧ R ds' := ⟨ds, .inl rfl, h⟩
theorem v_stb {R : List D → Prop} (h : R ds) : ∃ ds', (D.tup ds = .lst ds' ∨ D.tup ds = .tup ds') ∧ R ds' := ⟨ds, .inr rfl, h⟩
theorem v_sl {f : D → Option Int → Option Int → (D → Prop) → Prop} {lo hi : Option (QT W)} (h : qa ω ρ (fun ω1 x => qPart lo ω1 ρ (fun ω2 l => qPart hi ω2 ρ (fun ω3 u => f x l u (Q ω3)) E) E) E) : qSl f qa lo hi ω ρ Q E := h
theorem v_pn {R : W.Ω → Option Int → Prop} (h : R ω none) : qPart none ω ρ R E := h
theorem v_ps {R : W.Ω → Option Int → Prop} (h : q ω ρ (fun ω' y => ∃ i, y = .int i ∧ R ω' (some i)) E) : qPart (some q) ω ρ R E := h
theorem v_exi {R : Int → Prop} (h : R i) : ∃ j, D.int i = .int j ∧ R j := ⟨i, rfl, h⟩
theorem v_te (h : qa ω ρ (fun ω1 d => ∃ b, d = .bl b ∧ QB ω1 b) E) : qTe qa ω ρ QB E := h
theorem v_exb {b : Bool} (h : B1 b) : ∃ b', D.bl b = .bl b' ∧ B1 b' := ⟨b, rfl, h⟩
theorem v_tru (h : qa ω ρ (fun ω1 d => d.tru (QB ω1)) E) : qTru qa ω ρ QB E := h
theorem v_truL (h : B1 (!ds.isEmpty)) : (D.lst ds).tru B1 := h
theorem v_truT (h : B1 (!ds.isEmpty)) : (D.tup ds).tru B1 := h
theorem v_truB {b : Bool} (h : B1 b) : (D.bl b).tru B1 := h
theorem v_truN (h : B1 false) : D.non.tru B1 := h
theorem v_notT (h : qt ω ρ (fun ω1 b => QB ω1 (!b)) E) : qNotT qt ω ρ QB E := h
theorem v_andT (h : qt ω ρ (fun ω1 b => if b = true then qu ω1 ρ QB E else QB ω1 false) E) : qAndT qt qu ω ρ QB E := h
theorem v_orT (h : qt ω ρ (fun ω1 b => if b = true then QB ω1 true else qu ω1 ρ QB E) E) : qOrT qt qu ω ρ QB E := h
theorem v_yes (h : QB ω true) : qYes ω ρ QB E := h
theorem v_andV (h : qa ω ρ (fun ω1 d => ∃ b, d = .bl b ∧ if b = true then qb ω1 ρ Q E else Q ω1 (.bl false)) E) : qAndV qa qb ω ρ Q E := h
theorem v_orV (h : qa ω ρ (fun ω1 d => ∃ b, d = .bl b ∧ if b = true then Q ω1 (.bl true) else qb ω1 ρ Q E) E) : qOrV qa qb ω ρ Q E := h
theorem v_notV (h : qa ω ρ (fun ω1 d => ∃ b, d = .bl b ∧ Q ω1 (.bl (!b))) E) : qNotV qa ω ρ Q E := h
theorem v_chain {f f' : D → D → (D → Prop) → Prop} (h : qa ω ρ (fun ω1 x => qb ω1 ρ (fun ω2 y => f x y fun z => ∃ b, z = .bl b ∧ if b = true then qc ω2 ρ (fun ω3 w => f' y w (Q ω3)) E else Q ω2 (.bl false)) E) E) : qChain f f' qa qb qc ω ρ Q E := h
theorem v_ifE (h : qt ω ρ (fun ω1 b => if b = true then qa ω1 ρ Q E else qb ω1 ρ Q E) E) : qIfE qt qa qb ω ρ Q E := h
theorem v_fI0 {f : Int → Int → D} (h : Q1 (f i j)) : fI0 f (.int i) (.int j) Q1 := h
theorem v_fI {c : Int → Int → Prop} {f : Int → Int → D} (hc : c i j) (h : Q1 (f i j)) : fI c f (.int i) (.int j) Q1 := ⟨hc, h⟩
theorem v_eqI (h : Q1 (.bl (decide (i = j)))) : fEq (.int i) (.int j) Q1 := h
theorem v_neI (h : Q1 (.bl (!decide (i = j)))) : fNe (.int i) (.int j) Q1 := h
theorem v_eqS {x y : Str} (h : Q1 (.bl (decide (x = y)))) : fEq (.str x) (.str y) Q1 := h
theorem v_neS {x y : Str} (h : Q1 (.bl (!decide (x = y)))) : fNe (.str x) (.str y) Q1 := h
theorem v_eqB {x y : Bool} (h : Q1 (.bl (decide (x = y)))) : fEq (.bl x) (.bl y) Q1 := h
theorem v_neB {x y : Bool} (h : Q1 (.bl (!decide (x = y)))) : fNe (.bl x) (.bl y) Q1 := h
theorem v_eqD (k : Nat) (hk : k ≤ 64) (h1 : d.dep k = true) (h2 : e.dep k = true) (h : Q1 (.bl (deq d e))) : fEqD d e Q1 := ⟨k, hk, h1, h2, h⟩
theorem v_neD (k : Nat) (hk : k ≤ 64) (h1 : d.dep k = true) (h2 : e.dep k = true) (h : Q1 (.bl (!deq d e))) : fNeD d e Q1 := ⟨k, hk, h1, h2, h⟩
theorem v_isN {b : Bool} (h : Q1 (.bl (if b then !d.isNon else d.isNon))) : fIsN b d .non Q1 := ⟨rfl, h⟩
theorem v_neg (h : Q1 (.int (-i))) : fNeg (.int i) Q1 := h
theorem v_lenL (h : Q1 (.int ds.length)) : fLen [.lst ds] Q1 := h
theorem v_lenT (h : Q1 (.int ds.length)) : fLen [.tup ds] Q1 := h
theorem v_listL (h : Q1 (.lst ds)) : fList [.lst ds] Q1 := h
theorem v_listT (h : Q1 (.lst ds)) : fList [.tup ds] Q1 := h
theorem v_tupleL (h : Q1 (.tup ds)) : fTuple [.lst ds] Q1 := h
theorem v_tupleT (h : Q1 (.tup ds)) : fTuple [.tup ds] Q1 := h
theorem v_absI (h : Q1 (.int (if i < 0 then -i else i))) : fAbs [.int i] Q1 := h
theorem v_intI (h : Q1 (.int i)) : fInt [.int i] Q1 := h
theorem v_intB {b : Bool} (h : Q1 (.int (if b then 1 else 0))) : fInt [.bl b] Q1 := h
theorem v_fLst (hl : ds.length ≤ 1000000) (h : Q1 (.lst ds)) : fLst ds Q1 := ⟨hl, h⟩
theorem v_fTup (hl : ds.length ≤ 1000000) (h : Q1 (.tup ds)) : fTup ds Q1 := ⟨hl, h⟩
theorem v_ixL (h1 : atI ds i = some d) (h : Q1 d) : fIxL (.lst ds) (.int i) Q1 := ⟨d, h1, h⟩
theorem v_ixT (h1 : atI ds i = some d) (h : Q1 d) : fIxT (.tup ds) (.int i) Q1 := ⟨d, h1, h⟩
theorem v_catL (hl : ds.length + es.length ≤ 1000000) (h : Q1 (.lst (ds ++ es))) : fCat (.lst ds) (.lst es) Q1 := ⟨hl, h⟩
theorem v_catT (hl : ds.length + es.length ≤ 1000000) (h : Q1 (.tup (ds ++ es))) : fCatT (.tup ds) (.tup es) Q1 := ⟨hl, h⟩
theorem v_slL {lo hi : Option Int} (h : Q1 (.lst (cutD ds lo hi))) : fSlL (.lst ds) lo hi Q1 := h
theorem v_slT {lo hi : Option Int} (h : Q1 (.tup (cutD ds lo hi))) : fSlT (.tup ds) lo hi Q1 := h
theorem v_addS {x y : Str} (hl : x.length + y.length ≤ sizeLine) (h : Q1 (.str (x ++ y))) : fSS (fun i j => i.length + j.length ≤ sizeLine) (fun i j => .str (i ++ j)) (.str x) (.str y) Q1 := ⟨hl, h⟩
theorem v_inL {b : Bool} (h1 : d.flat = true) (h2 : ds.all D.flat = true) (h : Q1 (.bl (if b then !(ds.any fun x => x.same d) else ds.any fun x => x.same d))) : fIn b d (.lst ds) Q1 := ⟨ds, .inl rfl, h1, h2, h⟩
theorem v_inT {b : Bool} (h1 : d.flat = true) (h2 : ds.all D.flat = true) (h : Q1 (.bl (if b then !(ds.any fun x => x.same d) else ds.any fun x => x.same d))) : fIn b d (.tup ds) Q1 := ⟨ds, .inr rfl, h1, h2, h⟩
theorem v_fld {f : Str} {ns : List Str} {x : D} (h1 : (ns.zip ds).lookup f = some x) (h : Q1 x) : fFld C f (.ins C ns ds) Q1 := ⟨ns, ds, x, rfl, h1, h⟩
theorem v_call (h : qs ω ρ (fun ω1 ds => pf ω1 ds Q E) E) : qCall pf qs ω ρ Q E := h
theorem v_inW {pf : PSp W0} (h : pf () ds (fun _ d => Q ω d) fun _ x => E ω x) : inW W pf ω ds Q E := h
theorem v_pureP (h : pf ω ds (fun ω' d => d.pure = true ∧ Q ω' d) E) : pureP pf ω ds Q E := h
def kIns (C : Addr) (m : Str) (d : D) (R : Prop) : Prop := ∃ ns ds, d = .ins C ns ds ∧ m ∉ ns ∧ R
theorem v_meth (h : q ω ρ (fun ω1 d => kIns C m d (qs ω1 ρ (fun ω2 es => pf ω2 (d :: es) Q E) E)) E) : qMeth C m pf q qs ω ρ Q E := by
  have e : qMeth C m pf q qs ω ρ Q E = q ω ρ (fun ω1 d => kIns C m d (qs ω1 ρ (fun ω2 es => pf ω2 (d :: es) Q E) E)) E := by
    unfold qMeth
    rfl
  rw [e]
  exact h
theorem v_kIns {ns : List Str} {R : Prop} (h1 : m ∉ ns) (h : R) : kIns C m (.ins C ns ds) R := ⟨ns, ds, rfl, h1, h⟩
def kObj (C : Addr) (d : D) (R : Prop) : Prop := ∃ ns ds, d = .ins C ns ds ∧ R
theorem v_kObj {ns : List Str} {R : Prop} (h : R) : kObj C (.ins C ns ds) R := ⟨ns, ds, rfl, h⟩
theorem v_obj (h : q ω ρ (fun ω1 d => kObj C d (qs ω1 ρ (fun ω2 es => pf ω2 (d :: es) Q E) E)) E) : qObj C pf q qs ω ρ Q E := h
def kBin (C : Addr) (x y : D) (R : Prop) : Prop := ∃ ns ds ns' ds', x = .ins C ns ds ∧ y = .ins C ns' ds' ∧ R
theorem v_kBin {ns ns' : List Str} {R : Prop} (h : R) : kBin C (.ins C ns ds) (.ins C ns' es) R := ⟨ns, ds, ns', es, rfl, rfl, h⟩
theorem v_bin (h : qa ω ρ (fun ω1 x => qb ω1 ρ (fun ω2 y => kBin C x y (pf ω2 [x, y] Q E)) E) E) : qBin C pf qa qb ω ρ Q E := h
def kBinI (C : Addr) (x y : D) (R : Prop) : Prop := ∃ ns ds i, x = .ins C ns ds ∧ y = .int i ∧ R
theorem v_kBinI {ns : List Str} {R : Prop} (h : R) : kBinI C (.ins C ns ds) (.int i) R := ⟨ns, ds, i, rfl, rfl, h⟩
theorem v_binI (h : qa ω ρ (fun ω1 x => qb ω1 ρ (fun ω2 y => kBinI C x y (pf ω2 [x, y] Q E)) E) E) : qBinI C pf qa qb ω ρ Q E := h
theorem v_inv (h : qa ω ρ (fun ω1 x => kObj C x (pf ω1 [x] Q E)) E) : qInv C pf qa ω ρ Q E := h
def kAdr (C : Addr) (d : D) (R : Prop) : Prop := d = .adr C ∧ R
theorem v_kAdr {R : Prop} (h : R) : kAdr C (.adr C) R := ⟨rfl, h⟩
theorem v_make {pf : PSp W0} (h : q ω ρ (fun ω0 d => kAdr C d (qs ω0 ρ (fun ω1 ds => inW W pf ω1 ds Q E) E)) E) : qMake C pf q qs ω ρ Q E := h
theorem v_cmeth (h : q ω ρ (fun ω0 d => kAdr C d (qs ω0 ρ (fun ω1 ds => pf ω1 (.adr C :: ds) Q E) E)) E) : qCMeth C pf q qs ω ρ Q E := h
def kLenO (C : Addr) (ds : List D) (R : Prop) : Prop := ∃ ns es, ds = [.ins C ns es] ∧ R
theorem v_kLenO {ns : List Str} {R : Prop} (h : R) : kLenO C [.ins C ns ds] R := ⟨ns, ds, rfl, h⟩
def kN63 (d : D) (R : Prop) : Prop := ∃ n : Int, d = .int n ∧ 0 ≤ n ∧ n < 2 ^ 63 ∧ R
theorem v_kN63 {R : Prop} (h0 : 0 ≤ i) (h1 : i < 1000000000) (h : R) : kN63 (.int i) R := ⟨i, rfl, h0, by omega, h⟩
theorem v_lenO (h : qs ω ρ (fun ω1 ds => kLenO C ds (pf ω1 ds (fun ω' d => kN63 d (Q ω' d)) (fun _ _ => False))) E) : qLenO C pf qs ω ρ Q E := h
theorem v_listRg {qr : QTR W} (h : qr ω ρ (fun ω1 i j => RgOk i j ∧ Q ω1 (.lst (dInts (rgI i j)))) E) : qListRg qr ω ρ Q E := h
theorem v_tupRg {qr : QTR W} (h : qr ω ρ (fun ω1 i j => RgOk i j ∧ Q ω1 (.tup (dInts (rgI i j)))) E) : qTupRg qr ω ρ Q E := h
theorem v_rg1 {R : W.Ω → Int → Int → Prop} (h : qa ω ρ (fun ω1 x => ∃ n, x = .int n ∧ R ω1 0 n) E) : qRg1 qa ω ρ R E := h
def kTwo (x y : D) (R : Int → Int → Prop) : Prop := ∃ n k', x = .int n ∧ y = .int k' ∧ R n k'
theorem v_kTwo {R : Int → Int → Prop} (h : R i j) : kTwo (.int i) (.int j) R := ⟨i, j, rfl, rfl, h⟩
theorem v_rg2 {R : W.Ω → Int → Int → Prop} (h : qa ω ρ (fun ω1 x => qb ω1 ρ (fun ω2 y => kTwo x y fun n k => R ω2 n k) E) E) : qRg2 qa qb ω ρ R E := h
end
theorem v_try {K : PySem.W.Frag} {W : Wrl} {s : QTS W} {l : Cls3 W} {P : PEn W} {ω : W.Ω} {ρ : List Sl} (h : s { P with ex := fun ω x ρ => hsel K l P ω x ρ } ω ρ) : sTry K s l P ω ρ := h
end LW

namespace LW
open PySem
open Sem (wp)
/-! # generators that sleep while code runs are as they were: the code does well where none of them can be woken -/
def deadK : Resume → Sem PySem.Fin := fun _ => .unsupported "asleep"
def offG : GenState → GenState
  | .suspended _ l c p fs cl => .suspended deadK l c p fs cl
  | g => g
def isSus : GenState → Bool
  | .suspended .. => true
  | _ => false
def NoG (fs : List Frame) : Prop := ∀ F ∈ fs, ∃ k h g l c p kp, F = .ret k h g l c p kp
theorem NoG.nil : NoG [] := fun _ h => by cases h
theorem NoG.cons {k h g l c p kp fs} (x : NoG fs) : NoG (.ret k h g l c p kp :: fs) := fun F hF => by
  rcases List.mem_cons.mp hF with rfl | hF
  · exact ⟨_, _, _, _, _, _, _, rfl⟩
  · exact x F hF
theorem NoG.append {a b : List Frame} (x : NoG a) (y : NoG b) : NoG (a ++ b) := fun F hF => (List.mem_append.mp hF).elim (x F) (y F)
theorem NoG.split : ∀ {fs : List Frame}, NoG fs → splitAtGen fs = none
  | [], _ => rfl
  | F :: fs, x => by
    obtain ⟨k, h, g, l, c, p, kp, rfl⟩ := x F List.mem_cons_self
    show (splitAtGen fs).map _ = none
    rw [NoG.split fun G hG => x G (List.mem_cons_of_mem _ hG)]
    rfl
structure OffG (O : Nat → Prop) (g0 G T : Array GenState) : Prop where
  size : G.size = T.size
  off : ∀ i, O i → G[i]? = g0[i]? ∧ ∃ k l c p fs cl, G[i]? = some (.suspended k l c p fs cl) ∧ T[i]? = some (.suspended deadK l c p fs cl)
  on : ∀ i, ¬ O i → G[i]? = T[i]? ∧ ∀ k l c p fs cl, T[i]? = some (.suspended k l c p fs cl) → NoG fs
def NoGS : GenState → Prop
  | .suspended _ _ _ _ fs _ => NoG fs
  | _ => True
def NoGE : End → Prop
  | .susp _ _ _ _ _ _ fs => NoG fs
  | _ => True
theorem NoGE.st {e : End} (h : NoGE e) : NoGS e.genState := by
  cases e with
  | ret r => trivial
  | susp v g l k c p fs => exact h
variable {O : Nat → Prop} {g0 G T : Array GenState} {M : Model}
theorem getSet {A : Array GenState} {g i : Nat} {x : GenState} : (A.setIfInBounds g x)[i]? = if i = g then (if g < A.size then some x else none) else A[i]? := by
  rw [Array.getElem?_setIfInBounds]
  by_cases h : g = i
  · subst h
    simp
  · rw [if_neg h, if_neg (fun z => h z.symm)]
theorem OffG.set {g : Nat} {x : GenState} (h : OffG O g0 G T) (hg : ¬ O g) (hx : NoGS x) : OffG O g0 (G.setIfInBounds g x) (T.setIfInBounds g x) where
  size := by rw [Array.size_setIfInBounds, Array.size_setIfInBounds]; exact h.size
  off i hi := by
    have hn : i ≠ g := fun z => hg (z ▸ hi)
    rw [getSet, if_neg hn, getSet, if_neg hn]
    exact h.off i hi
  on i hi := by
    rw [getSet (A := G), getSet (A := T), h.size]
    by_cases hn : i = g
    · rw [if_pos hn, if_pos hn]
      refine ⟨rfl, fun k l c p fs cl e => ?_⟩
      split at e
      · cases e; exact hx
      · cases e
    · rw [if_neg hn, if_neg hn]
      exact h.on i hi
theorem OffG.push {c : Code} (h : OffG O g0 G T) (hO : ∀ i, O i → i < G.size) : OffG O g0 (G.push (.fresh c)) (T.push (.fresh c)) where
  size := by rw [Array.size_push, Array.size_push, h.size]
  off i hi := by
    have h1 := hO i hi
    have h2 : i < T.size := by rw [← h.size]; exact h1
    have := h.off i hi
    rw [Array.getElem?_eq_getElem h1, Array.getElem?_eq_getElem h2] at this
    rw [Array.getElem?_push_lt h1, Array.getElem?_push_lt h2]
    exact this
  on i hi := by
    rw [Array.getElem?_push, Array.getElem?_push, h.size]
    split
    · exact ⟨rfl, fun k l c p fs cl e => by cases e⟩
    · exact h.on i hi
theorem OffG.lt {i : Nat} (h : OffG O g0 G T) (hi : O i) : i < G.size := by
  obtain ⟨_, k, l, c, p, fs, cl, e, _⟩ := h.off i hi
  exact (Array.getElem?_eq_some_iff.mp e).1
theorem OffG.notO {i : Nat} {y : GenState} (h : OffG O g0 G T) (e : T[i]? = some y) (hy : isSus y = false) : ¬ O i := fun z => by
  obtain ⟨_, k, l, c, p, fs, cl, _, e2⟩ := h.off i z
  rw [e] at e2
  cases e2
  cases hy
/-- the states are alike but for the sleepers -/
theorem OffG.seen {i : Nat} {x : GenState} (h : OffG O g0 G T) (e : T[i]? = some x) : ∃ y, G[i]? = some y ∧ y.seen = x.seen := by
  by_cases hi : O i
  · obtain ⟨_, k, l, c, p, fs, cl, e1, e2⟩ := h.off i hi
    rw [e2] at e
    cases e
    exact ⟨_, e1, rfl⟩
  · exact ⟨x, (h.on i hi).1.trans e, rfl⟩
theorem dead_runs {Γ : Ctx} {p : Pos} {w : String} {fs : List Frame} {s s' : Shared} {e : End} : ¬ Runs M Γ p (.unsupported w) fs s e s' := by
  intro h
  cases h with
  | segRet h1 _ => cases h1
  | segGen h1 _ => cases h1
  | segSuspOut _ h1 => cases h1
  | segSuspGen _ h1 _ _ => cases h1
theorem runs_off {Γ : Ctx} {p : Pos} {t : Sem PySem.Fin} {fs : List Frame} {s s' : Shared} {e : End} (h : Runs M Γ p t fs s e s') : NoG fs → ∀ G, OffG O g0 G s.gens →
    ∃ G', Runs M Γ p t fs { s with gens := G } e { s' with gens := G' } ∧ OffG O g0 G' s'.gens ∧ NoGE e := by
  induction h with
  | done => intro _ G r; exact ⟨G, .done, r, trivial⟩
  | raise => intro _ G r; exact ⟨G, .raise, r, trivial⟩
  | again hq _ ih => intro n G r; obtain ⟨G', a, b, c⟩ := ih n G r; exact ⟨G', .again hq a, b, c⟩
  | rule _ ih => intro n G r; obtain ⟨G', a, b, c⟩ := ih n G r; exact ⟨G', .rule a, b, c⟩
  | «at» _ ih => intro n G r; obtain ⟨G', a, b, c⟩ := ih n G r; exact ⟨G', .at a, b, c⟩
  | load ho _ ih => intro n G r; obtain ⟨G', a, b, c⟩ := ih n G r; exact ⟨G', .load ho a, b, c⟩
  | update ho _ ih => intro n G r; obtain ⟨G', a, b, c⟩ := ih n G r; exact ⟨G', .update ho a, b, c⟩
  | loadIfAlive _ ih => intro n G r; obtain ⟨G', a, b, c⟩ := ih n G r; exact ⟨G', .loadIfAlive a, b, c⟩
  | point _ ih => intro n G r; obtain ⟨G', a, b, c⟩ := ih n G r; exact ⟨G', .point a, b, c⟩
  | alloc _ ih => intro n G r; obtain ⟨G', a, b, c⟩ := ih n G r; exact ⟨G', .alloc a, b, c⟩
  | fresh _ ih => intro n G r; obtain ⟨G', a, b, c⟩ := ih n G r; exact ⟨G', .fresh a, b, c⟩
  | ask _ ih => intro n G r; obtain ⟨G', a, b, c⟩ := ih n G r; exact ⟨G', .ask a, b, c⟩
  | choose hn _ ih => intro n G r; obtain ⟨G', a, b, c⟩ := ih n G r; exact ⟨G', .choose hn a, b, c⟩
  | os _ ih => intro n G r; obtain ⟨G', a, b, c⟩ := ih n G r; exact ⟨G', .os a, b, c⟩
  | handled _ ih => intro n G r; obtain ⟨G', a, b, c⟩ := ih n G r; exact ⟨G', .handled a, b, c⟩
  | genState hg _ ih =>
    intro n G r
    obtain ⟨y, hy, e⟩ := r.seen hg
    obtain ⟨G', a, b, c⟩ := ih n G r
    exact ⟨G', .genState hy (by rw [e]; exact a), b, c⟩
  | stack _ ih => intro n G r; obtain ⟨G', a, b, c⟩ := ih n G r; exact ⟨G', .stack a, b, c⟩
  | thread _ ih => intro n G r; obtain ⟨G', a, b, c⟩ := ih n G r; exact ⟨G', .thread a, b, c⟩
  | @newGen Γ p k s e s' c _ ih =>
    intro n G r
    obtain ⟨G', a, b, d⟩ := ih n (G.push (.fresh c)) (r.push fun i hi => r.lt hi)
    exact ⟨G', .newGen (by show Runs M Γ p (k G.size) _ _ _ _; rw [r.size]; exact a), b, d⟩
  | call _ _ ih1 ih2 =>
    intro n G r
    obtain ⟨G1, a1, b1, _⟩ := ih1 .nil G r
    obtain ⟨G2, a2, b2, c2⟩ := ih2 n G1 b1
    exact ⟨G2, .call a1 a2, b2, c2⟩
  | callSusp _ ih =>
    intro n G r
    obtain ⟨G1, a1, b1, c1⟩ := ih .nil G r
    exact ⟨G1, .callSusp a1, b1, NoG.append c1 (.cons .nil)⟩
  | yield => intro _ G r; exact ⟨G, .yield, r, NoG.nil⟩
  | @resumeFresh Γ p g l k s c e₁ s₁ e s' hg _ hq _ ih1 ih2 =>
    intro n G r
    have hO : ¬ O g := fun z => by
      obtain ⟨_, k, l, c, p, fs, cl, _, e⟩ := r.off g z
      rw [hg] at e; cases e
    obtain ⟨G1, a1, b1, c1⟩ := ih1 .nil (G.setIfInBounds g .running) (r.set hO (x := .running) trivial)
    obtain ⟨G2, a2, b2, c2⟩ := ih2 n (G1.setIfInBounds g e₁.genState) (b1.set hO c1.st)
    exact ⟨G2, .resumeFresh (s := { s with gens := G }) (s₁ := { s₁ with gens := G1 }) ((r.on g hO).1.trans hg) a1 hq a2, b2, c2⟩
  | @resumeSuspended Γ p g r' l k s k₀ l₀ c₀ p₀ fs cl e₁ s₁ e s' hg h1 hq _ ih1 ih2 =>
    intro n G r
    have hO : ¬ O g := fun z => by
      obtain ⟨_, k, l, c, p, fs, cl, _, e⟩ := r.off g z
      rw [hg] at e; cases e
      exact dead_runs h1
    obtain ⟨G1, a1, b1, c1⟩ := ih1 ((r.on g hO).2 _ _ _ _ _ _ hg) (G.setIfInBounds g .running) (r.set hO (x := .running) trivial)
    obtain ⟨G2, a2, b2, c2⟩ := ih2 n (G1.setIfInBounds g e₁.genState) (b1.set hO c1.st)
    exact ⟨G2, .resumeSuspended (s := { s with gens := G }) (s₁ := { s₁ with gens := G1 }) ((r.on g hO).1.trans hg) a1 hq a2, b2, c2⟩
  | resumeJustStarted hg hv _ ih =>
    intro n G r
    have hO := r.notO hg rfl
    obtain ⟨G1, a1, b1, c1⟩ := ih n G r
    exact ⟨G1, .resumeJustStarted ((r.on _ hO).1.trans hg) hv a1, b1, c1⟩
  | resumeThrowFresh hg _ ih =>
    intro n G r
    have hO := r.notO hg rfl
    obtain ⟨G1, a1, b1, c1⟩ := ih n _ (r.set (x := .finished) hO trivial)
    exact ⟨G1, .resumeThrowFresh ((r.on _ hO).1.trans hg) a1, b1, c1⟩
  | resumeRunning hg _ ih =>
    intro n G r
    have hO := r.notO hg rfl
    obtain ⟨G1, a1, b1, c1⟩ := ih n G r
    exact ⟨G1, .resumeRunning ((r.on _ hO).1.trans hg) a1, b1, c1⟩
  | resumeFinished hg _ ih =>
    intro n G r
    have hO := r.notO hg rfl
    obtain ⟨G1, a1, b1, c1⟩ := ih n G r
    exact ⟨G1, .resumeFinished ((r.on _ hO).1.trans hg) a1, b1, c1⟩
  | segRet _ _ ih1 ih2 =>
    intro n G r
    obtain ⟨G1, a1, b1, _⟩ := ih1 .nil G r
    obtain ⟨G2, a2, b2, c2⟩ := ih2 (fun F hF => n F (List.mem_cons_of_mem _ hF)) G1 b1
    exact ⟨G2, .segRet a1 a2, b2, c2⟩
  | segGen _ _ _ _ =>
    intro n
    obtain ⟨_, _, _, _, _, _, _, z⟩ := n _ List.mem_cons_self
    cases z
  | segSuspOut hs _ ih =>
    intro n G r
    obtain ⟨G1, a1, b1, c1⟩ := ih .nil G r
    exact ⟨G1, .segSuspOut hs a1, b1, NoG.append c1 n⟩
  | segSuspGen hs _ _ _ _ _ =>
    intro n
    rw [n.split] at hs
    cases hs
theorem wakes_off {Γ : Ctx} {p : Pos} {g : Nat} {r : Resume} {s s' : Shared} {res : GenResult} (h : Wakes M Γ p g r s res s') {G : Array GenState} (x : OffG O g0 G s.gens) :
    ∃ G', Wakes M Γ p g r { s with gens := G } res { s' with gens := G' } ∧ OffG O g0 G' s'.gens := by
  unfold Wakes at h
  split at h
  · exact h.elim
  · rename_i c hg
    have hO : ¬ O g := fun z => by
      obtain ⟨_, k, l, c, p, fs, cl, _, e⟩ := x.off g z
      rw [hg] at e; cases e
    have hg' : G[g]? = some (.fresh c) := (x.on g hO).1.trans hg
    split at h
    · obtain ⟨e₁, s₁, hr, hq, rfl, rfl⟩ := h
      obtain ⟨G1, a1, b1, c1⟩ := runs_off hr .nil (G.setIfInBounds g .running) (x.set hO (x := .running) trivial)
      refine ⟨G1.setIfInBounds g e₁.genState, ?_, b1.set hO c1.st⟩
      unfold Wakes
      dsimp only
      rw [hg']
      exact ⟨e₁, _, a1, hq, rfl, rfl⟩
    · rename_i v hv
      obtain ⟨rfl, rfl⟩ := h
      refine ⟨G, ?_, x⟩
      unfold Wakes
      dsimp only
      rw [hg']
      cases v <;> first | exact ⟨rfl, rfl⟩ | exact absurd rfl hv
    · obtain ⟨rfl, rfl⟩ := h
      refine ⟨G.setIfInBounds g .finished, ?_, x.set hO (x := .finished) trivial⟩
      unfold Wakes
      dsimp only
      rw [hg']
      exact ⟨rfl, rfl⟩
  · rename_i k₀ l₀ c₀ p₀ fs cl hg
    obtain ⟨e₁, s₁, hr, hq, rfl, rfl⟩ := h
    have hO : ¬ O g := fun z => by
      obtain ⟨_, k, l, c, p, fs, cl, _, e⟩ := x.off g z
      rw [hg] at e; cases e
      exact dead_runs hr
    obtain ⟨h1, h2⟩ := x.on g hO
    obtain ⟨G1, a1, b1, c1⟩ := runs_off hr (h2 _ _ _ _ _ _ hg) (G.setIfInBounds g .running) (x.set hO (x := .running) trivial)
    refine ⟨G1.setIfInBounds g e₁.genState, ?_, b1.set hO c1.st⟩
    unfold Wakes
    dsimp only
    rw [h1.trans hg]
    exact ⟨e₁, _, a1, hq, rfl, rfl⟩
  · rename_i hg
    obtain ⟨rfl, rfl⟩ := h
    have hO : ¬ O g := fun z => by
      obtain ⟨_, k, l, c, p, fs, cl, _, e⟩ := x.off g z
      rw [hg] at e; cases e
    refine ⟨G, ?_, x⟩
    unfold Wakes
    dsimp only
    rw [(x.on g hO).1.trans hg]
    exact ⟨rfl, rfl⟩
  · rename_i hg
    obtain ⟨rfl, rfl⟩ := h
    have hO : ¬ O g := fun z => by
      obtain ⟨_, k, l, c, p, fs, cl, _, e⟩ := x.off g z
      rw [hg] at e; cases e
    refine ⟨G, ?_, x⟩
    unfold Wakes
    dsimp only
    rw [(x.on g hO).1.trans hg]
    exact ⟨rfl, rfl⟩
theorem wp_off {α : Type} {Γ : Ctx} (t : Sem α) : ∀ {Q : α → Pos → Shared → Prop} {E : Value → Pos → Shared → Prop} {p : Pos} {s : Shared} {G : Array GenState}, OffG O g0 G s.gens → wp M Γ t Q E p s →
    wp M Γ t (fun a p' s' => ∃ T, OffG O g0 s'.gens T ∧ Q a p' { s' with gens := T }) (fun e p' s' => ∃ T, OffG O g0 s'.gens T ∧ E e p' { s' with gens := T }) p { s with gens := G } := by
  induction t with
  | pure a => intro Q E p s G x h; exact ⟨s.gens, x, h⟩
  | raise e => intro Q E p s G x h; exact ⟨s.gens, x, h⟩
  | unsupported w => intro Q E p s G x h; exact h.elim
  | finish e => intro Q E p s G x h; exact h.elim
  | register a k => intro Q E p s G x h; exact h.elim
  | yield v g l k => intro Q E p s G x h; exact h.elim
  | fork c k => intro Q E p s G x h; exact h.elim
  | await a f d l k => intro Q E p s G x h; exact h.elim
  | rule tag k ih => intro Q E p s G x h; exact ih () x h
  | «at» p' k ih => intro Q E p s G x h; exact ih () x h
  | load a part k ih => intro Q E p s G x h; obtain ⟨o, ho, h⟩ := h; exact ⟨o, ho, ih o x h⟩
  | update a part f k ih => intro Q E p s G x h; exact ⟨h.1, ih () (s := { s with heap := s.heap.update a f }) x h.2⟩
  | alloc o k ih => intro Q E p s G x h; exact ih _ (s := { s with heap := s.heap.push o }) x h
  | loadIfAlive a k ih => intro Q E p s G x h; exact ih _ x h
  | point l k ih => intro Q E p s G x h; exact ih () x h
  | fresh k ih => intro Q E p s G x h; exact ih _ (s := { s with toks := s.toks + 1 }) x h
  | ask k ih => intro Q E p s G x h; exact ih _ x h
  | choose src n k ih => intro Q E p s G x h; exact ⟨h.1, ih _ (s := { s with drawn := s.drawn.bump src }) x h.2⟩
  | os q l k ih => intro Q E p s G x h; exact ih _ (s := { s with os := (Os.step s.os q).1 }) x h
  | call c hd g l k ih =>
    intro Q E p s G x h
    obtain ⟨r, s₁, hr, h⟩ := h
    obtain ⟨G1, a1, b1, _⟩ := runs_off hr .nil G x
    exact ⟨r, _, a1, ih r b1 h⟩
  | handled own k ih => intro Q E p s G x h; exact ih _ x h
  | genState g k ih =>
    intro Q E p s G x h
    obtain ⟨st, hg, h⟩ := h
    obtain ⟨y, hy, e⟩ := x.seen hg
    exact ⟨y, hy, by rw [e]; exact ih _ x h⟩
  | newGen c k ih =>
    intro Q E p s G x h
    have := ih s.gens.size (s := { s with gens := s.gens.push (.fresh c) }) (x.push (c := c) fun i hi => x.lt hi) h
    rw [← x.size] at this
    exact this
  | resume g r l k ih =>
    intro Q E p s G x h
    obtain ⟨res, s₁, hw, h⟩ := h
    obtain ⟨G1, a1, b1⟩ := wakes_off hw x
    exact ⟨res, _, a1, ih res b1 h⟩
  | stack k ih => intro Q E p s G x h; exact ih _ x h
  | thread k ih => intro Q E p s G x h; exact ih _ x h
theorem offG_map (G : Array GenState) : OffG (fun i => ∃ g, G[i]? = some g ∧ isSus g = true) G G (G.map offG) where
  size := by rw [Array.size_map]
  off i hi := by
    obtain ⟨g, hg, hs⟩ := hi
    cases g with
    | suspended k l c p fs cl => exact ⟨rfl, k, l, c, p, fs, cl, hg, by rw [Array.getElem?_map, hg]; rfl⟩
    | fresh c => cases hs
    | running => cases hs
    | finished => cases hs
  on i hi := by
    rw [Array.getElem?_map]
    cases e : G[i]? with
    | none => exact ⟨rfl, fun k l c p fs cl z => by cases z⟩
    | some g =>
      cases g with
      | suspended k l c p fs cl => exact absurd ⟨_, e, rfl⟩ hi
      | fresh c => exact ⟨rfl, fun k l c p fs cl z => by cases z⟩
      | running => exact ⟨rfl, fun k l c p fs cl z => by cases z⟩
      | finished => exact ⟨rfl, fun k l c p fs cl z => by cases z⟩
/-- THE RULE: what sleeps ahead of the code sleeps behind it, as it was -/
theorem wpAny_asleep {α : Type} {A : Around} {t : Sem α} {Q : α → Shared → Prop} {E : Value → Shared → Prop} {s : Shared}
    (h : wpAny M A t (fun a s' => ∀ G : Array GenState, G.size = s'.gens.size → (∀ (i : Nat) (g : GenState), s.gens[i]? = some g → isSus g = true → G[i]? = some g) → (PyProof.Rows.AllBare s'.gens → PyProof.Rows.AllBare G) → Q a { s' with gens := G })
      (fun e s' => ∀ G : Array GenState, G.size = s'.gens.size → (∀ (i : Nat) (g : GenState), s.gens[i]? = some g → isSus g = true → G[i]? = some g) → (PyProof.Rows.AllBare s'.gens → PyProof.Rows.AllBare G) → E e { s' with gens := G }) { s with gens := s.gens.map offG }) : wpAny M A t Q E s := by
  have fin : ∀ (G T : Array GenState), OffG (fun i => ∃ g, s.gens[i]? = some g ∧ isSus g = true) s.gens G T → G.size = T.size ∧ (∀ (i : Nat) (g : GenState), s.gens[i]? = some g → isSus g = true → G[i]? = some g) ∧ (PyProof.Rows.AllBare T → PyProof.Rows.AllBare G) := fun G T x =>
    ⟨x.size, fun i g hg hs => ((x.off i ⟨g, hg, hs⟩).1).trans hg, fun b y hy => by
      obtain ⟨i, hi, rfl⟩ := Array.mem_iff_getElem.mp hy
      have e : G[i]? = some G[i] := Array.getElem?_eq_getElem hi
      obtain ⟨z, hz⟩ : ∃ z, T[i]? = some z := ⟨_, Array.getElem?_eq_getElem (x.size ▸ hi)⟩
      have hb := b z (Array.mem_of_getElem? hz)
      by_cases hO : ∃ g, s.gens[i]? = some g ∧ isSus g = true
      · obtain ⟨_, k, l, c, p, fs, cl, e1, e2⟩ := x.off i hO
        rw [e2] at hz
        cases hz
        rw [e1] at e
        rw [← Option.some.inj e]
        exact hb
      · have := (x.on i hO).1
        rw [e, hz] at this
        rw [Option.some.inj this]
        exact hb⟩
  intro Γ p hΓ
  have := wp_off t (offG_map s.gens) (h Γ p hΓ)
  refine Sem.wp_mono M Γ t (fun a p' s' ⟨T, x, q⟩ => ?_) (fun e p' s' ⟨T, x, q⟩ => ?_) p _ this
  · obtain ⟨a1, a2, a3⟩ := fin _ _ x
    exact q s'.gens a1 a2 a3
  · obtain ⟨a1, a2, a3⟩ := fin _ _ x
    exact q s'.gens a1 a2 a3
end LW

namespace LW
open PySem PySem.Spec PyProof.Rows L2 GenW
/-! # a generator's code from one rest to the next, whatever is wanted of the end -/
abbrev FinP := End → Shared → Prop
def Sg (M : Model) (A : Around) (Φ : FinP) (c : Code) (t : Sem PySem.Fin) (fs : List Frame) (s : Shared) : Prop :=
  ∀ (Γ : PySem.Ctx) (p : Pos), Γ.code = c → Γ.Woken A → ∃ e s', PySem.Runs M Γ p t fs s e s' ∧ Φ e s'
section
variable {M : Model} {A : Around} {Φ Ψ : FinP} {c : Code} {fs : List Frame} {s : Shared}
theorem Sg.mono {t : Sem PySem.Fin} (h : Sg M A Φ c t fs s) (k : ∀ e s, Φ e s → Ψ e s) : Sg M A Ψ c t fs s := fun Γ p h1 h2 => by
  obtain ⟨e, s', a, b⟩ := h Γ p h1 h2
  exact ⟨e, s', a, k e s' b⟩
theorem sg_wrap {α : Type} {m : Sem α} {K : α → Sem PySem.Fin} {H : Value → Sem PySem.Fin} {gd : Bool → Bool} {lv : List Value → List Value}
    (h : wpAny M (A.over c fs) m (fun a s' => Sg M A Φ c (K a) fs s') (fun x s' => Sg M A Φ c (H x) fs s') s) : Sg M A Φ c (m.wrap K H gd lv) fs s := by
  rintro Γ p rfl hΓ
  exact runs_wrap_of_wp K H gd lv m (h (Γ.over fs) p (hΓ.over fs)) (fun a p' s' h' => h' Γ p' rfl hΓ) (fun x p' s' h' => h' Γ p' rfl hΓ)
theorem sg_bind {α : Type} {m : Sem α} {K : α → Sem PySem.Fin} (h : wpAny M (A.over c fs) m (fun a s' => Sg M A Φ c (K a) fs s') (fun x s' => Sg M A Φ c (.raise x) fs s') s) : Sg M A Φ c (m >>= K) fs s := by
  rw [Sem.bind_eq_wrap']; exact sg_wrap h
theorem sg_bind_wrap {α β : Type} {m : Sem α} {K : α → Sem β} {K' : β → Sem PySem.Fin} {H' : Value → Sem PySem.Fin} {gd : Bool → Bool} {lv : List Value → List Value}
    (h : wpAny M (A.over c fs) m (fun a s' => Sg M A Φ c ((K a).wrap K' H' gd lv) fs s') (fun x s' => Sg M A Φ c (H' x) fs s') s) : Sg M A Φ c ((m >>= K).wrap K' H' gd lv) fs s := by
  rw [Sem.bind_eq_wrap', Sem.wrap_wrap]; exact sg_wrap h
theorem sg_bind2 {α β γ : Type} {m : Sem α} {f : α → Sem β} {f2 : β → Sem γ} {K : γ → Sem PySem.Fin} {J : Value → Sem PySem.Fin} {gd : Bool → Bool} {lv : List Value → List Value}
    (h : wpAny M (A.over c fs) m (fun a s' => Sg M A Φ c ((f a).wrap (fun b => (f2 b).wrap K J gd lv) J gd lv) fs s') (fun x s' => Sg M A Φ c (J x) fs s') s) :
    Sg M A Φ c (((m >>= f) >>= f2).wrap K J gd lv) fs s := by
  rw [Sem.bind_eq_wrap' (m >>= f) f2, Sem.wrap_wrap]
  exact sg_bind_wrap h
theorem sg_at {p' : Pos} {k : Unit → Sem PySem.Fin} (h : Sg M A Φ c (k ()) fs s) : Sg M A Φ c (.at p' k) fs s :=
  sg_wrap (m := standAt p') (K := k) (H := .raise) (gd := id) (lv := id) (wpAny_standAt h)
theorem sg_point {l : List Value} {k : Unit → Sem PySem.Fin} (h : Sg M A Φ c (k ()) fs s) : Sg M A Φ c (.point l k) fs s :=
  sg_wrap (m := point) (K := k) (H := .raise) (gd := id) (lv := fun _ => l) (wpAny_point h)
theorem sg_call {c' : Code} {h : Option Value} {g : Bool} {l : List Value} {k : Result → Sem PySem.Fin} (hc : ∀ p, Sg M A Φ c' (M.den c') (.ret k h g l c p [] :: fs) s) : Sg M A Φ c (.call c' h g l k) fs s := by
  rintro Γ p rfl hΓ
  obtain ⟨e, s', hr, he⟩ := hc p (Γ.goto c') p rfl (hΓ.goto c')
  exact ⟨e, s', runs_call_seg hr, he⟩
theorem sg_leaf {k : Result → Sem PySem.Fin} {h : Option Value} {g : Bool} {l kp : List Value} {c₁ : Code} {p₁ : Pos} (r : Result) (hk : Sg M A Φ c₁ (k r) fs s) : Sg M A Φ c (leafOf r) (.ret k h g l c₁ p₁ kp :: fs) s := by
  rintro Γ p rfl hΓ
  obtain ⟨e, s', hr, he⟩ := hk (Γ.goto c₁) p₁ rfl (hΓ.goto c₁)
  exact ⟨e, s', Runs.pop r hr, he⟩
theorem sg_again {c' : Code} (hq : c'.quiet = true) (hc : Sg M A Φ c' (M.den c') fs s) : Sg M A Φ c (.pure (.again c')) fs s := by
  rintro Γ p rfl hΓ
  obtain ⟨e, s', hr, he⟩ := hc (Γ.goto c') p rfl (hΓ.goto c')
  exact ⟨e, s', Runs.head (c₁ := c') (fun _ _ x => .again hq x) hr, he⟩
theorem sg_end (r : Result) (h : Φ (.ret r) s) : Sg M A Φ c (leafOf r) [] s := by
  rintro Γ p rfl _
  exact ⟨.ret r, s, Runs.leaf r, h⟩
theorem sg_yield {v : Value} {g : Bool} {l : List Value} {k : Resume → Sem PySem.Fin} (hfs : splitAtGen fs = none) (h : ∀ p, Φ (.susp v g l k c p fs) s) : Sg M A Φ c (.yield v g l k) fs s := by
  rintro Γ p rfl _
  exact ⟨_, s, Runs.yield' fs hfs, h p⟩
end
section
variable {prog : Program} {w : World} {A : Around} {Φ : FinP} {c : Code} {fs : List Frame} {s : Shared} {env : Env} {K : Flow → Sem PySem.Fin} {J : Value → Sem PySem.Fin} {gd : Bool → Bool} {lv : List Value → List Value}
theorem sg_execs_nil (h : Sg (model prog w) A Φ c (K .next) fs s) : Sg (model prog w) A Φ c ((execs [] env).wrap K J gd lv) fs s := h
theorem sg_execs_cons {st : Stmt} {rest : List Stmt} (h : Sg (model prog w) A Φ c ((exec st env).wrap (fun f => match f with | .next => (execs rest env).wrap K J gd lv | f => K f) J gd lv) fs s) :
    Sg (model prog w) A Φ c ((execs (st :: rest) env).wrap K J gd lv) fs s := by rw [execs_cons_wrap]; exact h
theorem sg_Expr_Yield {e : Expr} {ypos pos : Pos} (hfs : splitAtGen fs = none) (hgd : gd false = false)
    (h : wpAny (model prog w) (A.over c fs) (eval e env) (fun v s' => ∀ (l : List Value) (kk : Resume → Sem PySem.Fin) (p : Pos),
        (∀ Ψ s'', Sg (model prog w) A Ψ c (K .next) fs s'' → Sg (model prog w) A Ψ c (kk (.send .none)) fs s'') → Φ (.susp v false l kk c p fs) s')
      (fun x s' => Sg (model prog w) A Φ c (J x) fs s') s) (hco : env.scope.isCoroutine = false := by rfl) (hi : interactive env = false := by rfl) :
    Sg (model prog w) A Φ c ((exec (.Expr (.Yield (some e) ypos) pos) env).wrap K J gd lv) fs s := by
  rw [exec_Expr env _ pos hi rfl]
  show Sg (model prog w) A Φ c (.at pos fun _ => ((eval e env >>= fun v => (standAt ypos >>= fun _ => yieldOut env v)) >>= fun x =>
    dropValue (.Yield (some e) ypos) pos x).wrap K J gd lv) fs s
  have hy : ∀ v, yieldOut env v = yieldValue v := fun v => by simp only [yieldOut, hco, Bool.false_eq_true, if_false]
  simp only [hy]
  refine sg_at ?_
  rw [Sem.bind_eq_wrap', Sem.bind_eq_wrap', Sem.wrap_wrap, Sem.wrap_wrap]
  refine sg_wrap (wpAny_mono h (fun v s' h' => ?_) fun _ _ x => x)
  refine sg_at ?_
  show Sg _ A Φ c (.yield v (gd false) _ _) fs s'
  rw [hgd]
  refine sg_yield hfs fun p => h' _ _ p fun Ψ s'' hx => ?_
  exact hx
theorem sg_func {body : List Stmt}
    (h : Sg (model prog w) A Φ (.func body env) ((execs body env).wrap (fun f => .pure (.done (.ret (match f with | .ret v => v | _ => .none))))
      (fun e => (leaving env e).wrap (fun _ => .raise e) .raise id id) id id) fs s) :
    Sg (model prog w) A Φ (.func body env) ((model prog w).den (.func body env)) fs s := by
  show Sg _ A Φ _ (.point [] fun _ => ((execs body env).onRaise (leaving env)) >>= _) fs s
  refine sg_point ?_
  rw [Sem.onRaise_eq_wrap, Sem.bind_eq_wrap', Sem.wrap_wrap]
  rw [Sem.wrap_congr (execs body env) _ _ (K' := fun f => .pure (.done (.ret (match f with | .ret v => v | _ => .none))))
    (H' := fun e => (leaving env e).wrap (fun _ => .raise e) .raise id id) (fun f => by cases f <;> rfl)
    (fun e => by rw [Sem.bind_eq_wrap, Sem.wrap_wrap]; rfl)]
  exact h
/-- the frame below a loop's code -/
abbrev ownRet (env : Env) (K : Flow → Sem PySem.Fin) (J : Value → Sem PySem.Fin) (gd : Bool → Bool) (lv : List Value → List Value) (c : Code) (p : Pos) : Frame :=
  .ret (fun r => ((match r with | .ok f => (.pure f : Sem Flow) | .error e => .raise e).onRaise (cameBack env)).wrap K J gd lv) none (gd false) (lv []) c p []
theorem sg_For {target iter : Expr} {body orelse : List Stmt} {pos : Pos}
    (h : wpAny (model prog w) (A.over c fs) (eval iter env) (fun x s₁ => wpAny (model prog w) (A.over c fs) (pyIter x) (fun it s₂ => ∀ p,
        Sg (model prog w) A Φ (.forLoop target it body orelse env) ((model prog w).den (.forLoop target it body orelse env)) (ownRet env K J gd lv c p :: fs) s₂)
        (fun e s' => Sg (model prog w) A Φ c (J e) fs s') s₁) (fun e s' => Sg (model prog w) A Φ c (J e) fs s') s)
    (hs : ∀ x, foldedSetIterable iter env x = pure x := by intro _; rfl) :
    Sg (model prog w) A Φ c ((exec (.For target iter body orelse pos) env).wrap K J gd lv) fs s := by
  rw [exec_For]
  refine sg_bind_wrap (wpAny_standAt ?_)
  refine sg_bind_wrap (wpAny_mono h (fun x s₁ h₁ => ?_) fun _ _ x => x)
  refine sg_bind_wrap (wpAny_of_eq (hs x) ?_)
  refine sg_bind_wrap (wpAny_standAt ?_)
  refine sg_bind_wrap (wpAny_holding (wpAny_mono h₁ (fun it s₂ h₂ => ?_) fun _ _ x => x))
  exact sg_call h₂
theorem sg_forLoop {target : Expr} {it : Value} {body orelse : List Stmt}
    (h : wpAny (model prog w) (A.over (.forLoop target it body orelse env) fs) (pyNext it) (fun r s₁ => match r with
      | none => Sg (model prog w) A Φ (.forLoop target it body orelse env) (.pure (.again (.block orelse env))) fs s₁
      | some v => wpAny (model prog w) (A.over (.forLoop target it body orelse env) fs) (letOwnedTupleGo target it v) (fun _ s₂ => wpAny (model prog w) (A.over (.forLoop target it body orelse env) fs) (assign target env v) (fun _ s₃ =>
          Sg (model prog w) A Φ (.forLoop target it body orelse env) ((execs body env).wrap (fun f => match f with
            | .next | .cont => .pure (.again (.forLoop target it body orelse env))
            | .brk => .pure (.done .next)
            | .ret v => .pure (.done (.ret v))) (fun e => (do noteFrame e env; theTreesLotGoes e : Sem Unit).wrap (fun _ => .raise e) .raise id id) id id) fs s₃)
          (fun x s' => Sg (model prog w) A Φ (.forLoop target it body orelse env) ((do noteFrame x env; theTreesLotGoes x : Sem Unit).wrap (fun _ => .raise x) .raise id id) fs s') s₂)
        (fun x s' => Sg (model prog w) A Φ (.forLoop target it body orelse env) ((do noteFrame x env; theTreesLotGoes x : Sem Unit).wrap (fun _ => .raise x) .raise id id) fs s') s₁)
      (fun x s' => Sg (model prog w) A Φ (.forLoop target it body orelse env) ((do noteFrame x env; theTreesLotGoes x : Sem Unit).wrap (fun _ => .raise x) .raise id id) fs s') s) :
    Sg (model prog w) A Φ (.forLoop target it body orelse env) ((model prog w).den (.forLoop target it body orelse env)) fs s := by
  show Sg _ A Φ _ ((forTurn target it body orelse env).onRaise (fun x => do noteFrame x env; theTreesLotGoes x)) fs s
  have e1 : ∀ x : Value, (do noteFrame x env; theTreesLotGoes x : Sem Unit).bind (fun _ => (.raise x : Sem PySem.Fin)) = (do noteFrame x env; theTreesLotGoes x : Sem Unit).wrap (fun _ => .raise x) .raise id id := fun x => Sem.bind_eq_wrap _ _
  unfold forTurn
  rw [Sem.onRaise_eq_wrap]
  refine sg_bind_wrap (wpAny_standAt ?_)
  refine sg_bind_wrap (wpAny_onRaise (wpAny_mono h (fun r s₁ h₁ => ?_) fun x s' hx => wpAny_standAt ?_))
  · cases r with
    | none => exact h₁
    | some v =>
      refine sg_bind_wrap (wpAny_mono h₁ (fun _ s₂ h₂ => ?_) fun x s' hx => ?_)
      · refine sg_bind_wrap (wpAny_mono h₂ (fun _ s₃ h₃ => ?_) fun x s' hx => ?_)
        · rw [Sem.bind_eq_wrap', Sem.wrap_wrap]
          rw [Sem.wrap_congr (execs body env) (fun g => id (id g)) (fun l => id (id l)) (K' := fun f => match f with
            | .next | .cont => .pure (.again (.forLoop target it body orelse env))
            | .brk => .pure (.done .next)
            | .ret v => .pure (.done (.ret v))) (H' := (fun e => (do noteFrame e env; theTreesLotGoes e : Sem Unit).wrap (fun _ => .raise e) .raise id id))
            (fun f => by cases f <;> rfl) (fun e => by first | exact e1 e | (show (do noteFrame e env; theTreesLotGoes e : Sem Unit).bind (fun _ => .raise e) = _; exact e1 e))]
          exact h₃
        · rw [e1]; exact hx
      · rw [e1]; exact hx
  · rw [e1]; exact hx
theorem sg_block {body : List Stmt} (h : Sg (model prog w) A Φ (.block body env) ((execs body env).wrap (fun f => .pure (.done f)) (fun e => (do noteFrame e env; theTreesLotGoes e : Sem Unit).wrap (fun _ => .raise e) .raise id id) id id) fs s) :
    Sg (model prog w) A Φ (.block body env) ((model prog w).den (.block body env)) fs s := by
  show Sg _ A Φ _ ((execs body env).onRaise (fun x => do noteFrame x env; theTreesLotGoes x) >>= fun f => pure (.done f)) fs s
  rw [Sem.onRaise_eq_wrap, Sem.bind_eq_wrap', Sem.wrap_wrap]
  rw [Sem.wrap_congr (execs body env) _ _ (K' := fun f => .pure (.done f)) (H' := fun e => (do noteFrame e env; theTreesLotGoes e : Sem Unit).wrap (fun _ => .raise e) .raise id id) (fun f => by rfl)
    (fun e => by rw [Sem.bind_eq_wrap, Sem.wrap_wrap]; rfl)]
  exact h
end
/-- a generator is woken -/
def GoesZ (M : Model) (A : Around) (Φ : FinP) (gs : GenState) (s : Shared) : Prop :=
  match gs with
  | .fresh c => Sg M A Φ c (M.den c) [] s
  | .suspended k _ c _ fs _ => Sg M A Φ c (k (.send .none)) fs s
  | _ => False
theorem wpAny_resumeZ {M : Model} {A : Around} {Φ : FinP} {E : Value → Shared → Prop} {s : Shared} {g : Nat} {gs : GenState} {l : List Value} {α : Type} {k : GenResult → Sem α} {Q : α → Shared → Prop} (hg : s.gens[g]? = some gs)
    (hgo : GoesZ M A Φ gs (s.setGen g .running))
    (hR : ∀ x s₁, Φ (.ret x) s₁ → wpAny M A (k (End.ret x).result) Q E (s₁.setGen g .finished))
    (hY : ∀ v g' l' k' c' p' fs' s₁, Φ (.susp v g' l' k' c' p' fs') s₁ → (End.susp v g' l' k' c' p' fs').quiet = true ∧ wpAny M A (k (.yielded v)) Q E (s₁.setGen g (.suspended k' l' c' p' fs' (g' || fs'.any Frame.guarded)))) :
    wpAny M A (.resume g (.send .none) l k) Q E s := by
  intro Γ p hΓ
  rw [Sem.wp_resume]
  have fin : ∀ e₁ s₁, Φ e₁ s₁ → e₁.quiet = true ∧ Sem.wp M Γ (k e₁.result) (fun a _ s' => Q a s') (fun e _ s' => E e s') p (s₁.setGen g e₁.genState) := by
    intro e₁ s₁ he
    cases e₁ with
    | ret x => exact ⟨rfl, hR x s₁ he Γ p hΓ⟩
    | susp v g₀ l₀ k₀ c₀ p₀ fs₀ =>
      obtain ⟨a, b⟩ := hY v g₀ l₀ k₀ c₀ p₀ fs₀ s₁ he
      exact ⟨a, b Γ p hΓ⟩
  cases gs with
  | fresh c =>
    obtain ⟨e₁, s₁, hr, he⟩ := hgo (Γ.wake c p) p rfl (hΓ.wake c p)
    exact ⟨_, _, by unfold Wakes; rw [hg]; exact ⟨e₁, s₁, hr, (fin e₁ s₁ he).1, rfl, rfl⟩, (fin e₁ s₁ he).2⟩
  | suspended k₀ l₀ c₀ p₀ fs₀ cl =>
    obtain ⟨e₁, s₁, hr, he⟩ := hgo (Γ.wake c₀ p) p₀ rfl (hΓ.wake c₀ p)
    exact ⟨_, _, by unfold Wakes; rw [hg]; exact ⟨e₁, s₁, hr, (fin e₁ s₁ he).1, rfl, rfl⟩, (fin e₁ s₁ he).2⟩
  | running => exact hgo.elim
  | finished => exact hgo.elim
end LW

namespace LW
open PySem PySem.Spec PyProof.Rows L2 GenW
/-! # a generator def's body: pure, whoever wakes it -/
/-! ### the older part of a heap -/
def cutS (s : Shared) (n : Nat) : Shared := { s with heap := { s.heap with objs := s.heap.objs.extract 0 n } }
theorem cutS_get {s : Shared} {n b : Nat} (h : b < n) : (cutS s n).heap.get? b = s.heap.get? b := by
  show Heap.get? { s.heap with objs := s.heap.objs.extract 0 n } b = _
  unfold Heap.get?
  have e : (s.heap.objs.extract 0 n)[b]? = s.heap.objs[b]? := by
    rw [Array.getElem?_extract]
    split
    · rw [Nat.zero_add]
    · rename_i z
      rw [Array.getElem?_eq_none (by omega)]
  show (match (s.heap.objs.extract 0 n)[b]? with | some ⟨_, _, .freed, _⟩ => none | o => o) = _
  rw [e] <;> rfl
theorem cutS_none {s : Shared} {n b : Nat} (h : n ≤ b) : (cutS s n).heap.get? b = none := by
  show Heap.get? { s.heap with objs := s.heap.objs.extract 0 n } b = _
  unfold Heap.get?
  have e : (s.heap.objs.extract 0 n)[b]? = none := by
    rw [Array.getElem?_extract]
    split
    · omega
    · rfl
  show (match (s.heap.objs.extract 0 n)[b]? with | some ⟨_, _, .freed, _⟩ => none | o => o) = _
  rw [e]
theorem cutS_of {s : Shared} {n b : Nat} {o : Obj} (h : (cutS s n).heap.get? b = some o) : b < n ∧ s.heap.get? b = some o := by
  rcases Nat.lt_or_ge b n with z | z
  · rw [cutS_get z] at h; exact ⟨z, h⟩
  · rw [cutS_none z] at h; cases h
theorem cutS_size {s : Shared} {n : Nat} (h : n ≤ s.heap.objs.size) : (cutS s n).heap.objs.size = n := by
  show (s.heap.objs.extract 0 n).size = n
  rw [Array.size_extract]; omega
/-! ### the contexts of one generator's body -/
structure GZ where
  P : Program
  w : World
  K : PySem.W.Frag
  mg : Str → Option Value
  base : Heap
  N : List Str
  qual : Str
  scope : Scope
  f : Addr
  cd : Value
  A : Around
  outer : List Env
  L : Nat
  fin : Option Exn
/-- how it was woken last: the state (cut), the tracked heap, the lists that may change, pins -/
structure GIx where
  s : Shared
  H : Hp
  S : ASet
  pn : List (Addr × Obj)
@[reducible] def GZ.env (Z : GZ) : Env := envOfC Z.qual Z.scope Z.L Z.f Z.cd
def GZ.EX (Z : GZ) (ys : List D) (i : GIx) : XK := fun cls dd H' => ys = [] ∧ GrP nop i.H H' ∧ ∃ x, Z.fin = some x ∧ XRep Z.K H' x cls dd
@[reducible] def GZ.X (Z : GZ) (ys : List D) (i : GIx) : Cx where
  prog := Z.P
  w := Z.w
  K := Z.K
  mg := Z.mg
  base := Z.base
  A := Z.A.deeper Z.env
  N := Z.N
  s_0 := i.s
  H_0 := i.H
  env := Z.env
  outer := Z.outer
  stack := Z.env :: Z.outer
  ex := []
  calm := true
  fn := fun _ => true
  pn := i.pn
  xe := fun e s' => wpAny (model Z.P Z.w) (Z.A.deeper Z.env) (leaving Z.env e) (fun _ s'' => L2N.CX Z.P Z.w Z.outer i.H i.s (Z.EX ys i) e s'' ∧ ∀ p ∈ i.pn, s''.heap.get? p.1 = some p.2) (fun _ _ => False) s'
/-- it leaves the def; what is pinned stays -/
theorem XE.leaveG {X : Cx} {W : WX} {E : XK} {s' : Shared} (hs : X.stack = X.env :: X.outer) (hf : X.env.frame = some X.env.locals) (hex : X.ex = []) {E₁ : Value → Shared → Prop} (hW : ∀ cls d σ H, W cls d σ H → E cls d H) {u : Value} (x : L2N.XE X W u s') :
    wpAny (model X.prog X.w) X.A (leaving X.env u) (fun _ s'' => L2N.CX X.prog X.w X.outer X.H_0 X.s_0 E u s'' ∧ ∀ p ∈ X.pn, s''.heap.get? p.1 = some p.2) E₁ s' := by
  obtain ⟨a, B, sI, pins, σ, H, cls, d, rfl, I, nb, up, sky, na, os, ag, w⟩ := x
  have hfr : X.A.frames = some (X.env :: X.outer) := by rw [I.ok.frames, hs]
  have nst : ∀ b o, X.s_0.heap.get? b = some o → b ∉ X.fs → b ∉ frs X.stack := fun b o e hb hm => by
    rcases List.mem_cons.mp (I.stkSub b hm) with z | z
    · have h1 := Heap.lt_size e
      have h2 := I.ok.above
      rw [z] at h1
      exact absurd (Nat.lt_of_lt_of_le h1 h2) (Nat.lt_irrefl _)
    · exact hb z
  have hex' : ∀ b, b ∉ X.ex := fun b hb => by rw [hex] at hb; cases hb
  have hokB := I.inGround nb
  have pinB : ∀ p ∈ X.pn, B.get? p.1 = some p.2 := fun p hp => by
    obtain ⟨h1, _, h3, h4, _⟩ := I.pin p (List.mem_append_left _ hp)
    refine nb p.1 p.2 h1 fun hm => ?_
    rcases List.mem_cons.mp (I.stkSub p.1 hm) with z | z
    · exact h3 z
    · exact h4 z
  have fin : ∀ h', HandSPX.FlyingZ B X.outer a (L2N.Zn cls d) h' → s'.heap.UpToSlots h' → (L2N.CX X.prog X.w X.outer X.H_0 X.s_0 E (.ref a) { s' with heap := h' } ∧ ∀ p ∈ X.pn, ({ s' with heap := h' } : Shared).heap.get? p.1 = some p.2) := fun h' fl up' => by
    refine ⟨⟨a, B, H, cls, d, rfl, fl, hokB, ⟨fun b o e n hb => nb b o (I.base.keep b o e n hb (hex' b)) (nst b o e hb), fun b o e hb => ?_, fun b o e n => I.base.free b o e n (hex' b), fun b o e hb => ?_, I.base.tups, I.base.frzs, I.base.tbls⟩,
      na, os.trans I.os, ag, hW _ _ _ _ w⟩, fun p hp => fl.1 p.1 p.2 (pinB p hp)⟩
    · obtain ⟨_, o₀, e₀, hnf⟩ := I.ok.funs.mem hb
      rw [e] at e₀; cases e₀
      obtain ⟨sl, e1⟩ := I.base.slot b o e (I.ok.frf b hb) hb (hex' b)
      obtain ⟨sl2, e2⟩ := up b _ e1 hnf
      obtain ⟨sl3, e3⟩ := up' b _ e2 hnf
      exact ⟨sl3, e3⟩
    · obtain ⟨o', e1⟩ := I.base.there b o e (hex' b)
      exact ⟨o', nb b o' e1 (nst b o e hb)⟩
  rw [hs] at sky
  rcases sky with ⟨hB, hn, hl, oe, vs, he, hz, hd, h1⟩ | fl | hd
  · exact PXN.leaving_firstZ L2N.Zn.steady hfr hl hf he hB hn hd h1 hz fin
  · exact PXN.leaves_onZ L2N.Zn.steady hfr hf fl fin
  · exact HandSPX.leaves_heldZ hf hd fin
theorem takesG (Z : GZ) (ys : List D) (i : GIx) : L2N.Takes (Z.X ys i) (fun cls d _ H' => Z.EX ys i cls d H') := fun u s' x =>
  XE.leaveG (W := fun cls d _ H' => Z.EX ys i cls d H') (E := Z.EX ys i) rfl rfl rfl (fun _ _ _ _ h => h) x
theorem ownsG (Z : GZ) (ys : List D) (i : GIx) : PassesOwn (model (Z.X ys i).prog (Z.X ys i).w) (Z.X ys i).A (Z.X ys i).env (Z.X ys i).xe :=
  passes_of (X := Z.X ys i) (K := fun e s'' => L2N.CX Z.P Z.w Z.outer i.H i.s (Z.EX ys i) e s'' ∧ ∀ p ∈ i.pn, s''.heap.get? p.1 = some p.2) (E₁ := fun _ _ => False) rfl
/-! ### what is told at a rest, what is wanted for waking -/
/-- what holds of the state, seen from the one that woke it -/
structure GZ.Left (Z : GZ) (i : GIx) (H : Hp) (s : Shared) : Prop where
  os : s.os = i.s.os
  bare : AllBare s.gens
  gr : GrP nop i.H H
  un : Un (frs Z.outer) [] i.H H i.s.heap s.heap
  hok : HOk Z.P Z.w H s.heap
  pn : ∀ p ∈ i.pn, s.heap.get? p.1 = some p.2 ∧ H p.1 = none
/-- the generator's own objects -/
def GZ.Own (Z : GZ) (gp : List (Addr × Obj)) (H : Hp) (s : Shared) : Prop := ∀ p ∈ gp, s.heap.get? p.1 = some p.2 ∧ H p.1 = none ∧ Z.L ≤ p.1 ∧ p.1 ∉ frs Z.outer ∧ ∀ v, p.2.data ≠ .cell v
structure GZ.Wake (Z : GZ) (gp : List (Addr × Obj)) (hv : List (D × V)) (i : GIx) (s : Shared) : Prop where
  ix : i.s = cutS s Z.L
  sz : Z.L ≤ s.heap.objs.size
  bare : AllBare s.gens
  hok : HOk Z.P Z.w i.H s.heap
  base : ∀ b o, Z.base.get? b = some o → s.heap.get? b = some o ∧ i.H b = none
  funs : s.heap.FunFrames Z.base Z.outer
  frf : ∀ b ∈ frs Z.outer, i.H b = none ∧ b < Z.L
  own : ∀ p ∈ gp, s.heap.get? p.1 = some p.2 ∧ i.H p.1 = none
  pn : ∀ p ∈ i.pn, s.heap.get? p.1 = some p.2 ∧ i.H p.1 = none ∧ p.1 ∉ frs Z.outer ∧ (∀ v, p.2.data ≠ .cell v) ∧ ∀ q ∈ gp, p.1 ≠ q.1
  s0 : ∀ a, i.S a → i.H a ≠ none
  hv : ∀ p ∈ hv, RepA Z.K i.H i.S p.1 p.2
def GZ.Phi (Z : GZ) : List D → GIx → FinP
  | [] => fun i e s => match e with
    | .ret r => ((r = .ok (.ret .none) ∨ r = .ok .next) ∧ Z.fin = none ∧ ∃ H, Z.Left i H s) ∨ ∃ x, r = .error x ∧ L2N.CX Z.P Z.w Z.outer i.H i.s (Z.EX [] i) x s ∧ ∀ p ∈ i.pn, s.heap.get? p.1 = some p.2
    | .susp _ _ _ _ _ _ _ => False
  | d :: ys => fun i e s => match e with
    | .ret _ => False
    | .susp v g l k c p fs => (End.susp v g l k c p fs).quiet = true ∧ ∃ (x : V) (H : Hp) (gp : List (Addr × Obj)) (hv : List (D × V)), RelV x v ∧ Z.Left i H s ∧ Z.Own gp H s ∧ (∀ p ∈ i.pn, ∀ q ∈ gp, p.1 ≠ q.1) ∧ RepA Z.K H i.S d x ∧ (∀ p ∈ hv, RepA Z.K H i.S p.1 p.2) ∧
        ∀ i' s', Z.Wake gp hv i' s' → Sg (model Z.P Z.w) Z.A (Z.Phi ys i') c (k (.send .none)) fs s'
/-! ### the state of a running body -/
structure GSt (Z : GZ) (ip : List (Addr × Obj)) (hid : List (D × V)) (ys : List D) (i : GIx) (ρ : List Sl) (σ : L2.St) (H : Hp) (s : Shared) : Prop where
  inv : Inv (Z.X ys i) ip σ H s
  rel : ∃ T, Rel Z.K W0 ⟨i.H, i.S, nop, hid⟩ T () ρ σ H
  sz : i.s.heap.objs.size = Z.L
  dis : ∀ p ∈ i.pn, ∀ q ∈ ip, p.1 ≠ q.1
  big : ∀ q ∈ ip, Z.L ≤ q.1
  frl : ∀ b ∈ frs Z.outer, b < Z.L
  nc : ∀ x, Z.env.cells.lookup x = none
structure PGn where
  nx : List D → List Sl → Prop
  rt : List D → Prop
  bk : List D → List Sl → Prop := fun _ _ => False
  ct : List D → List Sl → Prop := fun _ _ => False
  ex : List D → Exn → Prop
abbrev QTGn := PGn → List D → List Sl → Prop
def GSP1 (Z : GZ) (ip : List (Addr × Obj)) (hid : List (D × V)) (P : PGn) (ys : List D) (i : GIx) (f : Flow) (s : Shared) : Prop :=
  match f with
  | .next => ∃ ρ σ H, GSt Z ip hid ys i ρ σ H s ∧ P.nx ys ρ
  | .brk => ∃ ρ σ H, GSt Z ip hid ys i ρ σ H s ∧ P.bk ys ρ
  | .cont => ∃ ρ σ H, GSt Z ip hid ys i ρ σ H s ∧ P.ct ys ρ
  | .ret u => u = .none ∧ ∃ σ H, Inv (Z.X ys i) ip σ H s ∧ GrP nop i.H H ∧ P.rt ys
structure GC1 (Z : GZ) (c : Code) (fs : List Frame) (gd : Bool → Bool) : Prop where
  over : Z.A.over c fs = Z.A.deeper Z.env
  split : splitAtGen fs = none
  guard : fs.any Frame.guarded = false
  gd : gd false = false
structure GK1 (Z : GZ) (ip : List (Addr × Obj)) (hid : List (D × V)) (c : Code) (fs : List Frame) (Kc : Flow → Sem PySem.Fin) (J : Value → Sem PySem.Fin) (P : PGn) : Prop where
  ok : ∀ ys i f s, GSP1 Z ip hid P ys i f s → Sg (model Z.P Z.w) Z.A (Z.Phi ys i) c (Kc f) fs s
  exc : ∀ ys i e s, (Z.X ys i).xe e s → Sg (model Z.P Z.w) Z.A (Z.Phi ys i) c (J e) fs s
  ex : ∀ ys x, P.ex ys x → ys = [] ∧ Z.fin = some x
structure GS1 (Z : GZ) (st : Stmt) (q : QTGn) : Prop where
  run : ∀ (ip : List (Addr × Obj)) (hid : List (D × V)) (ys : List D) (i : GIx) (c : Code) (fs : List Frame) (Kc : Flow → Sem PySem.Fin) (J : Value → Sem PySem.Fin) (gd : Bool → Bool) (lv : List Value → List Value) (ρ : List Sl) (σ : L2.St) (H : Hp) (s : Shared) (P : PGn),
    GC1 Z c fs gd → GK1 Z ip hid c fs Kc J P → GSt Z ip hid ys i ρ σ H s → q P ys ρ → Sg (model Z.P Z.w) Z.A (Z.Phi ys i) c ((exec st Z.env).wrap Kc J gd lv) fs s
structure GSs1 (Z : GZ) (st : List Stmt) (q : QTGn) : Prop where
  run : ∀ (ip : List (Addr × Obj)) (hid : List (D × V)) (ys : List D) (i : GIx) (c : Code) (fs : List Frame) (Kc : Flow → Sem PySem.Fin) (J : Value → Sem PySem.Fin) (gd : Bool → Bool) (lv : List Value → List Value) (ρ : List Sl) (σ : L2.St) (H : Hp) (s : Shared) (P : PGn),
    GC1 Z c fs gd → GK1 Z ip hid c fs Kc J P → GSt Z ip hid ys i ρ σ H s → q P ys ρ → Sg (model Z.P Z.w) Z.A (Z.Phi ys i) c ((execs st Z.env).wrap Kc J gd lv) fs s
/-- an exception that leaves a loop's code, back in its own frame -/
theorem sg_cameBack {Z : GZ} {ip : List (Addr × Obj)} {hid : List (D × V)} {c : Code} {fs : List Frame} {Kc : Flow → Sem PySem.Fin} {J : Value → Sem PySem.Fin} {gd : Bool → Bool} {lv : List Value → List Value} {P : PGn} {ys : List D} {i : GIx} {e : Value} {s : Shared}
    (g : GC1 Z c fs gd) (k : GK1 Z ip hid c fs Kc J P) (h : cameBackBy (model Z.P Z.w) (Z.X ys i).A Z.env (Z.X ys i).xe e s) :
    Sg (model Z.P Z.w) Z.A (Z.Phi ys i) c (((Sem.raise e : Sem Flow).onRaise (cameBack Z.env)).wrap Kc J gd lv) fs s := by
  show Sg _ _ _ _ (((cameBack Z.env e).bind fun _ => (Sem.raise e : Sem Flow)).wrap Kc J gd lv) _ _
  rw [Sem.bind_eq_wrap, Sem.wrap_wrap]
  refine sg_wrap ?_
  rw [g.over]
  exact wpAny_mono h (fun _ s' hx => k.exc ys i e s' hx) fun x s' hx => k.exc ys i x s' hx
section
variable {Z : GZ} {st : Stmt} {rest : List Stmt} {q u : QTGn}
def toPEn (P : PGn) (ys : List D) : PEn W0 := { nx := fun _ ρ => P.nx ys ρ, rt := fun _ d => d = .non ∧ P.rt ys, bk := fun _ ρ => P.bk ys ρ, ct := fun _ ρ => P.ct ys ρ, ex := fun _ x _ => P.ex ys x }
def gPl (s : QTS W0) : QTGn := fun P ys ρ => s (toPEn P ys) () ρ
theorem gk_plain {ip : List (Addr × Obj)} {hid : List (D × V)} {ys : List D} {i : GIx} {c : Code} {fs : List Frame} {Kc : Flow → Sem PySem.Fin} {J : Value → Sem PySem.Fin} {P : PGn} {ρ : List Sl} {σ : L2.St} {H : Hp} {s : Shared} (k : GK1 Z ip hid c fs Kc J P) (h : GSt Z ip hid ys i ρ σ H s) :
    ∃ D : Ends, Sim .A Z.K W0 (fun cls d _ H' => Z.EX ys i cls d H') ⟨i.H, i.S, nop, hid⟩ (toPEn P ys) D ∧ ∀ f s', SP (Z.X ys i) ip D f s' → GSP1 Z ip hid P ys i f s' := by
  have mk : ∀ {ρ' : List Sl} {σ' : L2.St} {H' : Hp} {s' : Shared}, Inv (Z.X ys i) ip σ' H' s' → (∃ T, Rel Z.K W0 ⟨i.H, i.S, nop, hid⟩ T () ρ' σ' H') → GSt Z ip hid ys i ρ' σ' H' s' := fun I R => ⟨I, R, h.sz, h.dis, h.big, h.frl, h.nc⟩
  let R : List Sl → L2.St → Hp → Prop := fun ρ' σ' H' => ∃ T, Rel Z.K W0 ⟨i.H, i.S, nop, hid⟩ T () ρ' σ' H'
  refine ⟨{ nx := fun σ' H' => ∃ ρ', R ρ' σ' H' ∧ P.nx ys ρ', rt := fun v H' => v = .non ∧ GrP nop i.H H' ∧ P.rt ys, bk := fun σ' H' => ∃ ρ', R ρ' σ' H' ∧ P.bk ys ρ', ct := fun σ' H' => ∃ ρ', R ρ' σ' H' ∧ P.ct ys ρ' },
    ⟨fun T ω ρ σ H R q => ⟨ρ, ⟨T, R⟩, q⟩, fun T ω ρ σ H R q => ⟨ρ, ⟨T, R⟩, q⟩, fun T ω ρ σ H R q => ⟨ρ, ⟨T, R⟩, q⟩, fun T ω ρ σ H d v R r q => ?_, fun T ω ρ σ H x cls dd R xr q => ?_⟩, fun f s' hs => ?_⟩
  · obtain ⟨rfl, q⟩ := q
    have r : RepA Z.K H _ .non v := r
    cases r
    exact ⟨rfl, R.gr, q⟩
  · obtain ⟨h1, h2⟩ := k.ex ys x q
    exact ⟨h1, R.gr, x, h2, xr⟩
  · cases f with
    | next => obtain ⟨σ', H', I, ρ', R, q⟩ := hs; exact ⟨ρ', σ', H', mk I R, q⟩
    | brk => obtain ⟨σ', H', I, ρ', R, q⟩ := hs; exact ⟨ρ', σ', H', mk I R, q⟩
    | cont => obtain ⟨σ', H', I, ρ', R, q⟩ := hs; exact ⟨ρ', σ', H', mk I R, q⟩
    | ret u =>
      obtain ⟨v, σ', H', I, rv, ev, gr, q⟩ := hs
      subst ev
      have eu : u = Value.none := rv
      exact ⟨eu, σ', H', I, gr, q⟩
theorem gs_plain {s : QTS W0} (h : ∀ ys i, L2N.Takes (Z.X ys i) (fun cls d _ H' => Z.EX ys i cls d H') → PassesOwn (model (Z.X ys i).prog (Z.X ys i).w) (Z.X ys i).A (Z.X ys i).env (Z.X ys i).xe → QS (Z.X ys i) .A W0 (fun cls d _ H' => Z.EX ys i cls d H') st s) : GS1 Z st (gPl s) := by
  refine ⟨fun ip hid ys i c fs Kc J gd lv ρ σ H s' P g k hs hq => ?_⟩
  refine sg_wrap ?_
  rw [g.over]
  obtain ⟨D, hS, hD⟩ := gk_plain k hs
  obtain ⟨T, R⟩ := hs.rel
  exact wpAny_mono ((h ys i (takesG Z ys i) (ownsG Z ys i)).run ip s' σ H D hs.inv ⟨⟨i.H, i.S, nop, hid⟩, T, (), ρ, toPEn P ys, R, hq, hS⟩) (fun f s2 h2 => k.ok ys i f s2 (hD f s2 h2)) fun e s2 he => k.exc ys i e s2 he
end
end LW

namespace LW
open PySem PySem.Spec PyProof.Rows L2 GenW
/-! # a generator's body: blocks, yield, for -/
section
variable {Z : GZ} {st : Stmt} {rest : List Stmt} {q u : QTGn}
def gNx : QTGn := fun P ys ρ => P.nx ys ρ
def gSeq (q u : QTGn) : QTGn := fun P ys ρ => q { P with nx := u P } ys ρ
theorem gss_nil : GSs1 Z [] gNx := ⟨fun ip hid ys i c fs Kc J gd lv ρ σ H s P g k h hq => sg_execs_nil (k.ok ys i .next s ⟨ρ, σ, H, h, hq⟩)⟩
theorem gss_cons (a : GS1 Z st q) (b : GSs1 Z rest u) : GSs1 Z (st :: rest) (gSeq q u) := by
  refine ⟨fun ip hid ys i c fs Kc J gd lv ρ σ H s P g k h hq => ?_⟩
  refine sg_execs_cons ?_
  refine a.run ip hid ys i c fs _ J gd lv ρ σ H s { P with nx := u P } g ⟨fun ys' i' f s' hs => ?_, k.exc, k.ex⟩ h hq
  cases f with
  | next =>
    obtain ⟨ρ', σ', H', h', q'⟩ := hs
    exact b.run ip hid ys' i' c fs Kc J gd lv ρ' σ' H' s' P g k h' q'
  | brk => exact k.ok ys' i' .brk s' hs
  | cont => exact k.ok ys' i' .cont s' hs
  | ret v => exact k.ok ys' i' (.ret v) s' hs
theorem gss_one (a : GS1 Z st q) : GSs1 Z [st] q := by
  refine ⟨fun ip hid ys i c fs Kc J gd lv ρ σ H s P g k h hq => ?_⟩
  refine sg_execs_cons ?_
  refine a.run ip hid ys i c fs _ J gd lv ρ σ H s P g ⟨fun ys' i' f s' hs => ?_, k.exc, k.ex⟩ h hq
  cases f with
  | next => exact sg_execs_nil (k.ok ys' i' .next s' hs)
  | brk => exact k.ok ys' i' .brk s' hs
  | cont => exact k.ok ys' i' .cont s' hs
  | ret v => exact k.ok ys' i' (.ret v) s' hs
end
/-! ### the slots over a rest -/
def slotPairs : List Sl → L2.St → List (D × V)
  | .va d :: ρ, some v :: σ => (d, v) :: slotPairs ρ σ
  | _ :: ρ, _ :: σ => slotPairs ρ σ
  | _, _ => []
def allVa : List Sl → Bool
  | [] => true
  | .va _ :: ρ => allVa ρ
  | .no :: ρ => allVa ρ
  | _ => false
theorem allVa_owns : ∀ {ρ : List Sl}, allVa ρ = true → owns ρ = []
  | [], _ => rfl
  | .va _ :: ρ, h => allVa_owns (ρ := ρ) h
  | .no :: ρ, h => allVa_owns (ρ := ρ) h
  | .ow _ _ :: _, h => nomatch (show false = true from h)
  | .ex _ _ _ :: _, h => nomatch (show false = true from h)
theorem slots_pairs {K : PySem.W.Frag} {H : Hp} {S : ASet} : ∀ {ρ : List Sl} {σ : L2.St}, SlsR K H S ρ σ → allVa ρ = true → ∀ p ∈ slotPairs ρ σ, RepA K H S p.1 p.2
  | _, _, .nil, _, p, hp => by cases hp
  | _, _, .no r, h, p, hp => slots_pairs r h p (by unfold slotPairs at hp; exact hp)
  | _, _, .va q r, h, p, hp => by
    unfold slotPairs at hp
    rcases List.mem_cons.mp hp with z | z
    · rw [z]; exact q
    · exact slots_pairs r h p z
  | _, _, .ex _ _, h, _, _ => nomatch (show false = true from h)
  | _, _, .ow _ _ _, h, _, _ => nomatch (show false = true from h)
theorem slots_back {K : PySem.W.Frag} {H H' : Hp} {S S' : ASet} : ∀ {ρ : List Sl} {σ : L2.St}, SlsR K H S ρ σ → allVa ρ = true → (∀ p ∈ slotPairs ρ σ, RepA K H' S' p.1 p.2) → SlsR K H' S' ρ σ
  | _, _, .nil, _, _ => .nil
  | _, _, .no r, h, k => .no (slots_back r h fun p hp => k p (by unfold slotPairs; exact hp))
  | _, _, .va q r, h, k => .va (k (_, _) (by unfold slotPairs; exact List.mem_cons_self)) (slots_back r h fun p hp => k p (by unfold slotPairs; exact List.mem_cons_of_mem _ hp))
  | _, _, .ex _ _, h, _ => nomatch (show false = true from h)
  | _, _, .ow _ _ _, h, _ => nomatch (show false = true from h)
theorem funFrames_cut {s : Shared} {n : Nat} {base : Heap} : ∀ {l : List Env}, (∀ b ∈ frs l, b < n) → s.heap.FunFrames base l → (cutS s n).heap.FunFrames base l
  | [], _, _ => trivial
  | env :: rest, hl, ⟨hk, ⟨L, o, hf, hn, ho, hd⟩, hr⟩ => by
    have hL : L ∈ frs (env :: rest) := by unfold frs; rw [List.filterMap_cons, hf]; exact List.mem_cons_self
    refine ⟨hk, ⟨L, o, hf, hn, (cutS_get (hl L hL)).trans ho, hd⟩, funFrames_cut (fun b hb => hl b ?_) hr⟩
    unfold frs at hb ⊢
    rw [List.filterMap_cons, hf]
    exact List.mem_cons_of_mem _ hb
theorem spr_va {F : Frm} {T : ASet} {ρ : List Sl} (hT : ∀ a, ¬ T a) (h : allVa ρ = true) : ∀ a, Spr F T ρ a → F.S a := fun a z => by
  rcases z with z | z | z
  · exact z
  · exact absurd z (hT a)
  · rw [allVa_owns h] at z; cases z
theorem GSt.obj {Z : GZ} {ip : List (Addr × Obj)} {hid : List (D × V)} {ys : List D} {i : GIx} {ρ : List Sl} {σ : L2.St} {H : Hp} {s : Shared} (h : GSt Z ip hid ys i ρ σ H s) : ∃ oL, s.heap.get? Z.L = some oL :=
  let ⟨_, ⟨oL, _, _, eL, _⟩, _⟩ := h.inv.loc
  ⟨oL, eL⟩
/-- the body's state over a rest -/
theorem GSt.rest {Z : GZ} {ip : List (Addr × Obj)} {hid : List (D × V)} {ys : List D} {i : GIx} {ρ : List Sl} {σ : L2.St} {H : Hp} {s : Shared} {oL : Obj} (h : GSt Z ip hid ys i ρ σ H s) (hv : allVa ρ = true) (eo' : s.heap.get? Z.L = some oL) :
    Z.Left i H s ∧ Z.Own ((Z.L, oL) :: ip) H s ∧ (∀ p ∈ i.pn, ∀ q ∈ (Z.L, oL) :: ip, p.1 ≠ q.1) ∧ (∀ p ∈ hid ++ slotPairs ρ σ, RepA Z.K H i.S p.1 p.2) ∧ ∀ ys' i' s', Z.Wake ((Z.L, oL) :: ip) (hid ++ slotPairs ρ σ) i' s' → GSt Z ip hid ys' i' ρ σ i'.H s' := by
  obtain ⟨I, ⟨T, R⟩, sz, dis, big, frl, nc⟩ := h
  have hT : ∀ a, ¬ T a := R.inv
  obtain ⟨m, ⟨oL', es, ep, eL, dL, hk, hm⟩, hloc⟩ := id I.loc
  have e0 : s.heap.get? Z.L = some oL' := eL
  rw [eo'] at e0
  cases e0
  have less : ∀ a, i.S a → Spr ⟨i.H, i.S, nop, hid⟩ T ρ a := fun a z => .inl z
  have cellL : ∀ v, oL.data ≠ .cell v := fun v z => by rw [dL] at z; cases z
  have LnotF : Z.L ∉ frs Z.outer := fun z => Nat.lt_irrefl _ (frl _ z)
  refine ⟨⟨I.os, I.bare, R.gr, I.base, I.hok, fun p hp => ?_⟩, fun p hp => ?_, fun p hp q hq => ?_, fun p hp => ?_, fun ys' i' s' wk => ?_⟩
  · obtain ⟨a, b, _⟩ := I.pin p (List.mem_append_left _ hp)
    exact ⟨a, b⟩
  · rcases List.mem_cons.mp hp with rfl | hp
    · exact ⟨eL, I.free, Nat.le_refl _, LnotF, cellL⟩
    · obtain ⟨a, b, _, d, e⟩ := I.pin p (List.mem_append_right _ hp)
      exact ⟨a, b, big p hp, d, e⟩
  · rcases List.mem_cons.mp hq with rfl | hq
    · exact (I.pin p (List.mem_append_left _ hp)).2.2.1
    · exact dis p hp q hq
  · rcases List.mem_append.mp hp with hp | hp
    · exact (R.hd p hp).less less
    · exact (slots_pairs R.sl hv p hp).less less
  · have ok := I.ok
    obtain ⟨eo, hoL⟩ := wk.own (Z.L, oL) List.mem_cons_self
    have esz : i'.s.heap.objs.size = Z.L := by rw [wk.ix]; exact cutS_size wk.sz
    have bL : ∀ b o, Z.base.get? b = some o → b < Z.L := fun b o e => by
      have h2 : Z.base.objs.size ≤ i.s.heap.objs.size := ok.bsz
      rw [sz] at h2
      exact Nat.lt_of_lt_of_le (Heap.lt_size e) h2
    have nocell : ∀ {x : Str} {c : Addr} {P : Prop}, Z.env.cells.lookup x = some c → P := fun {x c P} e => by rw [nc x] at e; cases e
    refine ⟨⟨⟨ok.mod, ok.kind, ok.glob, ok.blt, ?_, ok.inj, ok.has, fun x c _ e => nocell e, ok.hd, ok.frames, ok.stk, (fun b hb => by cases hb), fun b o e => ?_, ?_, (fun b o e hb => by cases hb), (fun b hb => by cases hb), ?_, fun b hb => (wk.frf b hb).1⟩, ?_, wk.bare, ?_, ⟨m, ⟨oL, es, ep, eo, dL, hk, hm⟩, fun j x v h1 h2 h3 => ?_⟩, fun x c e => nocell e, hoL, fun x c e => nocell e, fun p hp => ?_, wk.hok, I.len⟩, ⟨nop, GrP.refl _ _, fun _ z => z, fun _ z => z.elim, fun l hl => ?_, ?_, fun a sa => ⟨wk.s0 a sa, fun z => z⟩, fun p hp => ?_, ?_⟩, esz, fun p hp q hq => ?_, big, frl, nc⟩
    · show i'.s.heap.objs.size ≤ Z.L
      omega
    · refine ⟨?_, (wk.base b o e).2⟩
      show i'.s.heap.get? b = some o
      rw [wk.ix, cutS_get (bL b o e)]
      exact (wk.base b o e).1
    · show Z.base.objs.size ≤ i'.s.heap.objs.size
      have h2 : Z.base.objs.size ≤ i.s.heap.objs.size := ok.bsz
      omega
    · show i'.s.heap.FunFrames Z.base Z.outer
      rw [wk.ix]
      exact funFrames_cut frl wk.funs
    · show s'.os = i'.s.os
      rw [wk.ix] <;> rfl
    · show Un (frs Z.outer) [] i'.H i'.H i'.s.heap s'.heap
      rw [wk.ix]
      exact Un.kept fun b o e => (cutS_of e).2
    · obtain ⟨u, ru, lk⟩ := hloc j x v h1 h2 h3
      refine ⟨u, ru, ?_⟩
      rcases lk with lk | ⟨_, c, e, _⟩
      · exact .inl lk
      · exact nocell e
    · rcases List.mem_append.mp hp with hp | hp
      · obtain ⟨a, b, c, d, e⟩ := wk.pn p hp
        exact ⟨a, b, e (Z.L, oL) List.mem_cons_self, c, d⟩
      · obtain ⟨_, _, c, d, e⟩ := I.pin p (List.mem_append_right _ hp)
        obtain ⟨a, b⟩ := wk.own p (List.mem_cons_of_mem _ hp)
        exact ⟨a, b, c, d, e⟩
    · rw [allVa_owns hv] at hl; cases hl
    · rw [allVa_owns hv]; exact List.nodup_nil
    · exact (wk.hv p (List.mem_append_left _ hp)).less fun a z => spr_va (fun _ z => z) hv a z
    · exact slots_back R.sl hv fun p hp => (wk.hv p (List.mem_append_right _ hp)).less fun a z => spr_va (fun _ z => z) hv a z
    · exact (wk.pn p hp).2.2.2.2 q (List.mem_cons_of_mem _ hq)
/-! ### yield -/
def gYield (qa : QT W0) : QTGn := fun P ys ρ => allVa ρ = true ∧ qa () ρ (fun _ d => ∃ ys', ys = d :: ys' ∧ P.nx ys' ρ) fun _ x => P.ex ys x
theorem gs_yield {Z : GZ} {e : Expr} {yp pos : Pos} {m : Md} {qa : QT W0} (he : ∀ ys i, L2N.Takes (Z.X ys i) (fun cls d _ H' => Z.EX ys i cls d H') → PassesOwn (model (Z.X ys i).prog (Z.X ys i).w) (Z.X ys i).A (Z.X ys i).env (Z.X ys i).xe → QE (Z.X ys i) m W0 (fun cls d _ H' => Z.EX ys i cls d H') e qa) (hm : m.st = true := by rfl)
    (hco : Z.scope.isCoroutine = false := by rfl) (hi : interactive Z.env = false := by rfl) : GS1 Z (.Expr (.Yield (some e) yp) pos) (gYield qa) := by
  refine ⟨fun ip hid ys i c fs Kc J gd lv ρ σ H s P g k hs ⟨hv, hq⟩ => ?_⟩
  refine sg_Expr_Yield g.split g.gd ?_ hco hi
  rw [g.over]
  obtain ⟨D0, hS, _⟩ := gk_plain k hs
  obtain ⟨T, R⟩ := hs.rel
  refine wpAny_mono ((he ys i (takesG Z ys i) (ownsG Z ys i)).run ip s σ H (fun x H' => ∃ T' d, Rel Z.K W0 ⟨i.H, i.S, nop, hid⟩ T' () ρ σ H' ∧ RepA Z.K H' (Spr ⟨i.H, i.S, nop, hid⟩ T' ρ) d x ∧ ∃ ys', ys = d :: ys' ∧ P.nx ys' ρ) hs.inv
    ⟨⟨i.H, i.S, nop, hid⟩, T, (), ρ, _, _, R, hq, hS.xok, fun T' ω' d v H' R' _ rr q' => ⟨T', d, R', rr.a hm, q'⟩⟩) (fun v s' hv' => ?_) fun x s' hx => k.exc ys i x s' hx
  obtain ⟨x, H', I', rv, T', d, R', rd, ys', rfl, hn⟩ := hv'
  have hs' : GSt Z ip hid (d :: ys') i ρ σ H' s' := ⟨I', ⟨T', R'⟩, hs.sz, hs.dis, hs.big, hs.frl, hs.nc⟩
  obtain ⟨oL, eo⟩ := hs'.obj
  obtain ⟨left, own, dis, hvr, wake⟩ := hs'.rest hv eo
  intro l kk p hk
  refine ⟨?_, x, H', _, _, rv, left, own, dis, rd.less fun a z => .inl z, hvr, fun i' s'' wk => ?_⟩
  · show (!(false || fs.any Frame.guarded)) = true
    rw [g.guard] <;> rfl
  · exact hk _ s'' (k.ok ys' i' .next s'' ⟨ρ, σ, i'.H, wake ys' i' s'' wk, hn⟩)
/-! ### for -/
def gFor (qi : QTI W0) (g : QTG) (q : QTGn) : QTGn := fun P ys ρ => qi () ρ (fun _ ds => ∃ I : Nat → List D → List Sl → Prop, I 0 ys ρ ∧ (∀ k d ys ρ, ds[k]? = some d → I k ys ρ → g d ρ fun ρ' => q { P with nx := I (k + 1), ct := I (k + 1), bk := P.nx } ys ρ') ∧ ∀ ys ρ, I ds.length ys ρ → P.nx ys ρ) fun _ x => P.ex ys x
theorem gc_loop1 {Z : GZ} {c c' : Code} {fs : List Frame} {gd : Bool → Bool} {k : Result → Sem PySem.Fin} {l kp : List Value} {p : Pos} (g : GC1 Z c fs gd) (hw : c'.weight = 0) (hu : c'.cUnits = 0) : GC1 Z c' (.ret k none (gd false) l c p kp :: fs) id where
  over := (over_loop hw hu).trans g.over
  split := by
    show (splitAtGen fs).map _ = none
    rw [g.split]; rfl
  guard := by
    show (gd false || fs.any Frame.guarded) = false
    rw [g.gd, g.guard]; rfl
  gd := rfl
theorem GSt.hdrop {Z : GZ} {ip : List (Addr × Obj)} {h hid : List (D × V)} {ys : List D} {i : GIx} {ρ : List Sl} {σ : L2.St} {H : Hp} {s : Shared} (x : GSt Z ip (h ++ hid) ys i ρ σ H s) : GSt Z ip hid ys i ρ σ H s :=
  ⟨x.inv, let ⟨T, R⟩ := x.rel; ⟨T, Rel.drop (F := ⟨i.H, i.S, nop, hid⟩) (h := h) R⟩, x.sz, x.dis, x.big, x.frl, x.nc⟩
theorem GSt.unpin {Z : GZ} {ip pl : List (Addr × Obj)} {hid : List (D × V)} {ys : List D} {i : GIx} {ρ : List Sl} {σ : L2.St} {H : Hp} {s : Shared} (x : GSt Z (ip ++ pl) hid ys i ρ σ H s) : GSt Z ip hid ys i ρ σ H s :=
  ⟨x.inv.unpinned, x.rel, x.sz, fun p hp q hq => x.dis p hp q (List.mem_append_left _ hq), fun q hq => x.big q (List.mem_append_left _ hq), x.frl, x.nc⟩
theorem gs_for {Z : GZ} {tg iter : Expr} {body : List Stmt} {pos : Pos} {m : Md} {t : List Nat} {qi : QTI W0} {g : QTG} {q : QTGn}
    (hi : ∀ ys i, L2N.Takes (Z.X ys i) (fun cls d _ H' => Z.EX ys i cls d H') → PassesOwn (model (Z.X ys i).prog (Z.X ys i).w) (Z.X ys i).A (Z.X ys i).env (Z.X ys i).xe → QI (Z.X ys i) m W0 (fun cls d _ H' => Z.EX ys i cls d H') tg iter qi)
    (hg : ∀ ys i, QG (Z.X ys i) m W0 tg t g) (hb : GSs1 Z body q) (hs : ∀ x, foldedSetIterable iter Z.env x = pure x := by intro _; rfl) : GS1 Z (.For tg iter body [] pos) (gFor qi g q) := by
  refine ⟨fun ip hid ys0 i0 c fs Kc J gd lv ρ0 σ0 H0 s0 P gc k hst hq => ?_⟩
  refine sg_For ?_ hs
  rw [gc.over]
  obtain ⟨D0, hS, _⟩ := gk_plain k hst
  obtain ⟨T0, R0⟩ := hst.rel
  refine wpAny_mono ((hi ys0 i0 (takesG Z ys0 i0) (ownsG Z ys0 i0)).run ip s0 σ0 H0 (fun Jt H' => ∃ T' h ds, Rel Z.K W0 (Frm.add ⟨i0.H, i0.S, nop, hid⟩ h) T' () ρ0 σ0 H' ∧ ItOk m Z.K W0 h ds Jt ∧ ∃ I : Nat → List D → List Sl → Prop, I 0 ys0 ρ0 ∧ (∀ k d ys ρ, ds[k]? = some d → I k ys ρ → g d ρ fun ρ' => q { P with nx := I (k + 1), ct := I (k + 1), bk := P.nx } ys ρ') ∧ ∀ ys ρ, I ds.length ys ρ → P.nx ys ρ) hst.inv
    ⟨⟨i0.H, i0.S, nop, hid⟩, T0, (), ρ0, _, _, R0, hq, hS.xok, fun T' ω' h ds Jt H' R' _ it q' => ⟨T', h, ds, R', it, q'⟩⟩) (fun v s1 h1 => ?_) fun x s' hx => k.exc ys0 i0 x s' hx
  refine wpAny_mono h1 (fun itv s2 h2 => ?_) fun x s' hx => k.exc ys0 i0 x s' hx
  obtain ⟨it, fp, tn, Jt, H2, rfl, I2, T, st2, f2, T2, h, ds, R2, itok, Iv, iv0, ivs, ivd⟩ := h2
  intro p
  have gl : GC1 Z (.forLoop tg (.ref it) body [] Z.env) (ownRet Z.env Kc J gd lv c p :: fs) id := gc_loop1 gc rfl rfl
  have ee : ∀ (ys : List D) (i : GIx) (x : Value) (s' : Shared), (Z.X ys i).xe x s' → Sg (model Z.P Z.w) Z.A (Z.Phi ys i) (.forLoop tg (.ref it) body [] Z.env)
      ((do noteFrame x Z.env; theTreesLotGoes x : Sem Unit).wrap (fun _ => .raise x) .raise id id) (ownRet Z.env Kc J gd lv c p :: fs) s' := fun ys i x s' hx => by
    refine sg_wrap ?_
    rw [gl.over]
    refine wpAny_bind (wpAny_mono (ownsG Z ys i x s' hx) (fun _ s'' hcb => wpAny_theTreesLotGoes ?_) fun y s'' hcb => ?_)
    · exact sg_leaf (.error x) (sg_cameBack gc k hcb)
    · exact sg_leaf (.error y) (sg_cameBack gc k hcb)
  have loop : ∀ (r j : Nat) (ys : List D) (i : GIx) (ρ : List Sl) (σ : L2.St) (H : Hp) (s : Shared), j + r = ds.length → GSt Z ip (h ++ hid) ys i ρ σ H s → tn j s.heap → (∀ b ∈ fp, FpOk (Z.X ys i) ip H b) → Iv j ys ρ →
      Sg (model Z.P Z.w) Z.A (Z.Phi ys i) (.forLoop tg (.ref it) body [] Z.env) ((model Z.P Z.w).den (.forLoop tg (.ref it) body [] Z.env)) (ownRet Z.env Kc J gd lv c p :: fs) s := by
    intro r
    induction r with
    | zero =>
      intro j ys i ρ σ H s hj hst hn hf hiv
      obtain ⟨T', R'⟩ := hst.rel
      have hj' : j = ds.length := by omega
      subst hj'
      refine sg_forLoop ?_
      rw [gl.over]
      refine wpAny_mono (T.done (Z.X ys i) rfl rfl rfl rfl _ ip s σ H _ hst.inv hf hn ((itok _ _ _ _ _ _ (fun p hp => List.mem_append_left _ hp) R' _).2.1 (Nat.le_refl _))) (fun r s1 ⟨hr, I1⟩ => ?_) fun x s' hx => hx
      subst hr
      refine sg_again rfl (sg_block (sg_execs_nil ?_))
      refine sg_leaf (.ok .next) (k.ok ys i .next s1 ⟨ρ, σ, H, ?_, ivd ys ρ hiv⟩)
      exact GSt.hdrop ⟨I1, ⟨T', R'⟩, hst.sz, hst.dis, hst.big, hst.frl, hst.nc⟩
    | succ r ih =>
      intro j ys i ρ σ H s hj hst hn hf hiv
      obtain ⟨T', R'⟩ := hst.rel
      have hjl : j < ds.length := by omega
      obtain ⟨go, _, yld⟩ := itok _ _ _ _ _ _ (fun p hp => List.mem_append_left _ hp) R' j
      refine sg_forLoop ?_
      rw [gl.over]
      refine wpAny_mono (T.item (Z.X ys i) rfl rfl rfl rfl j ip s σ H _ hst.inv hf hn (go hjl)) (fun r1 s1 hr => ?_) fun x s' hx => hx
      obtain ⟨u, rfl, h4⟩ := hr
      refine wpAny_mono h4 (fun _ s5 h5 => ?_) fun x s' hx => hx
      obtain ⟨x, H5, I5, r5, y5, st5, fr5⟩ := h5
      obtain ⟨g5, rr5⟩ := yld ds[j] x H5 (List.getElem?_eq_getElem hjl) y5
      have hf5 : ∀ b ∈ fp, FpOk (Z.X ys i) ip H5 b := fun b hb => ⟨fr5 b hb, (hf b hb).2⟩
      have I5' := I5.pinned hf5 (T.obj _ _ st5)
      have R5 := R'.grow g5
      refine wpAny_mono ((hg ys i).run _ s5 σ H5 x u (fun σ6 H6 => ∃ ρ6 T6, Rel Z.K W0 (Frm.add ⟨i.H, i.S, nop, hid⟩ h) T6 () ρ6 σ6 H6 ∧ q { P with nx := Iv (j + 1), ct := Iv (j + 1), bk := P.nx } ys ρ6) I5' r5
        ⟨_, T', (), ρ, ds[j], _, R5, rr5, ivs j _ ys ρ (List.getElem?_eq_getElem hjl) hiv, fun ρ4 σ4 R4 _ _ q4 => ⟨ρ4, T', R4, q4⟩⟩) (fun _ s6 h6 => ?_) fun x s' hx => ee ys i x s' hx
      obtain ⟨σ6, H6, I6, ρ6, T6, R6, q6⟩ := h6
      have st6 : GSt Z (ip ++ pinsAt fp s5.heap) (h ++ hid) ys i ρ6 σ6 H6 s6 := by
        refine ⟨I6, ⟨T6, R6⟩, hst.sz, fun p hp z hz => ?_, fun z hz => ?_, hst.frl, hst.nc⟩
        · rcases List.mem_append.mp hz with hz | hz
          · exact hst.dis p hp z hz
          · exact (hf5 z.1 (of_pinsAt hz).1).2.2.2.2.2 p (List.mem_append_left _ hp)
        · rcases List.mem_append.mp hz with hz | hz
          · exact hst.big z hz
          · rcases (hf5 z.1 (of_pinsAt hz).1).2.2.2.1 with w | w
            · cases w
            · have w : i.s.heap.objs.size ≤ z.1 := w
              rw [hst.sz] at w
              exact w
      have again : ∀ {ys' : List D} {i' : GIx} {ρ7 : List Sl} {σ7 : L2.St} {H7 : Hp} {s7 : Shared}, GSt Z (ip ++ pinsAt fp s5.heap) (h ++ hid) ys' i' ρ7 σ7 H7 s7 → Iv (j + 1) ys' ρ7 →
          Sg (model Z.P Z.w) Z.A (Z.Phi ys' i') (.forLoop tg (.ref it) body [] Z.env) (.pure (.again (.forLoop tg (.ref it) body [] Z.env))) (ownRet Z.env Kc J gd lv c p :: fs) s7 := fun {ys' i' ρ7 σ7 H7 s7} st7 hiv7 => by
        refine sg_again rfl (ih (j + 1) ys' i' ρ7 σ7 H7 s7 (by omega) st7.unpin (T.keep _ _ _ st5 fun b hb o e => (st7.inv.pin (b, o) (List.mem_append_right _ (List.mem_append_right _ (mem_pinsAt hb e)))).1) (fun b hb => ?_) hiv7)
        obtain ⟨o, e, d⟩ := T.obj _ _ st5 b hb
        have hm := mem_pinsAt hb e
        obtain ⟨p1, p2, p3, p4, p5⟩ := st7.inv.pin (b, o) (List.mem_append_right _ (List.mem_append_right _ hm))
        refine ⟨p2, p3, p4, .inr ?_, fun x c e => ?_, fun z hz => ?_⟩
        · show i'.s.heap.objs.size ≤ b
          rw [st7.sz]
          exact st7.big (b, o) (List.mem_append_right _ hm)
        · rw [hst.nc x] at e; cases e
        · rcases List.mem_append.mp hz with hz | hz
          · exact st7.dis z hz (b, o) (List.mem_append_right _ hm)
          · exact (hf b hb).2.2.2.2.2 z (List.mem_append_right _ hz)
      refine hb.run (ip ++ pinsAt fp s5.heap) (h ++ hid) ys i _ _ _ _ id id ρ6 σ6 H6 s6 { P with nx := Iv (j + 1), ct := Iv (j + 1), bk := P.nx } gl ⟨fun ys' i' f s7 h7 => ?_, ee, k.ex⟩ st6 q6
      cases f with
      | next => obtain ⟨ρ7, σ7, H7, st7, q7⟩ := h7; exact again st7 q7
      | cont => obtain ⟨ρ7, σ7, H7, st7, q7⟩ := h7; exact again st7 q7
      | brk =>
        obtain ⟨ρ7, σ7, H7, st7, q7⟩ := h7
        exact sg_leaf (.ok .next) (k.ok ys' i' .next s7 ⟨ρ7, σ7, H7, st7.unpin.hdrop, q7⟩)
      | ret v =>
        obtain ⟨e, σ7, H7, I7, g7, q7⟩ := h7
        exact sg_leaf (.ok (.ret v)) (k.ok ys' i' (.ret v) s7 ⟨e, σ7, H7, I7.unpinned, g7, q7⟩)
  exact loop ds.length 0 ys0 i0 ρ0 σ0 H2 s2 (Nat.zero_add _) ⟨I2, ⟨T2, R2⟩, hst.sz, hst.dis, hst.big, hst.frl, hst.nc⟩ st2 f2 iv0
end LW

namespace LW
open PySem PySem.Spec PyProof.Rows L2 GenW
/-! # a generator def: called, it gives a generator that has not begun -/
/-- called with ds: what is handed out, and how it ends -/
abbrev PSpG := List D → List D → Option Exn → Prop
abbrev mkZ (P : Program) (w : World) (K : PySem.W.Frag) (mg : Str → Option Value) (base : Heap) (N : List Str) (qual : Str) (scope : Scope) (f : Addr) (cd : Value) (A : Around) (outer : List Env) (L : Nat) (fin : Option Exn) : GZ :=
  ⟨P, w, K, mg, base, N, qual, scope, f, cd, A, outer, L, fin⟩
/-- the generator's object -/
structure GObj (go : Obj) (g : Nat) : Prop where
  cls : go.cls = .type "generator"
  data : ∃ nm qn, go.data = .fields #[.int g 0, nm, qn]
  slots : go.slots = #[]
theorem GObj.is {go : Obj} {g : Nat} {h : Heap} {a : Addr} (x : GObj go g) (e : h.get? a = some go) : h.IsGen a g :=
  let ⟨nm, qn, d⟩ := x.data
  ⟨go, nm, qn, e, x.cls, d, x.slots⟩
/-- what such a call gives; H, sc: at the call -/
def GMadeZ (P : Program) (w : World) (K : PySem.W.Frag) (base : Heap) (k : Nat) (outer : List Env) (H : Hp) (S : ASet) (sc : Shared) (ys : List D) (fin : Option Exn) (u : Value) (s' : Shared) : Prop :=
  ∃ (a : Addr) (g : Nat) (c : Code) (go : Obj) (gp : List (Addr × Obj)) (hv : List (D × V)) (mg : Str → Option Value) (N : List Str) (qual : Str) (scope : Scope) (f : Addr) (cd : Value),
    u = .ref a ∧ GObj go g ∧ s'.heap.get? a = some go ∧ sc.heap.objs.size ≤ a ∧ s'.gens[g]? = some (.fresh c) ∧ s'.os = sc.os ∧ AllBare s'.gens ∧ (∀ b o, sc.heap.get? b = some o → s'.heap.get? b = some o) ∧
    (∀ p ∈ gp, s'.heap.get? p.1 = some p.2 ∧ sc.heap.objs.size ≤ p.1 ∧ p.1 ≠ a ∧ ∀ v, p.2.data ≠ .cell v) ∧ (∀ p ∈ hv, RepA K H S p.1 p.2) ∧
    ∀ A, Room k A → A.frames = some outer → ∀ i s2, (mkZ P w K mg base N qual scope f cd A outer sc.heap.objs.size fin).Wake gp hv i s2 → Sg (model P w) A ((mkZ P w K mg base N qual scope f cd A outer sc.heap.objs.size fin).Phi ys i) c ((model P w).den c) [] s2
structure GFnZ (P : Program) (w : World) (K : PySem.W.Frag) (mg : Str → Option Value) (base : Heap) (k : Nat) (f : Addr) (fd : FuncData) (ps : List Str) (pf : PSpG) : Prop where
  len : ∀ ds ys fin, pf ds ys fin → ds.length = ps.length
  run : ∀ (A : Around) (outer : List Env) (s : Shared) (H : Hp) (S : ASet) (args : Args) (us : List Value) (vs : List V) (ds ys : List D) (fin : Option Exn), Room k A → Env0 P w K mg base A outer s H → BindsTo s fd args (ps.zip us) → Vals vs us → (∀ a, S a → H a ≠ none) → RepsA K H S ds vs → pf ds ys fin →
    codeAny (model P w) A (.call (.ref f) args) (fun r s' => match r with | .ok (.ret u) => GMadeZ P w K base k outer H S s ys fin u s' | _ => False) s
theorem allVa_start (N : List Str) : ∀ ds : List D, allVa (startP N ds) = true := fun ds => by
  unfold startP
  generalize N.length - ds.length = n
  induction ds with
  | nil =>
    induction n with
    | zero => rfl
    | succ n ih => exact ih
  | cons d ds ih => exact ih
theorem cells_none : ∀ (names : List (Str × NameKind)), (∀ y ∈ names, y.2 ≠ .cell) → ∀ (n : Nat) (acc : List (Str × Addr)), cellsFrom n names acc = acc
  | [], _, _, _ => rfl
  | (x, k) :: r, h, n, acc => by
    unfold cellsFrom
    have hk : (k == NameKind.cell) = false := by
      cases k <;> first | rfl | exact absurd rfl (h _ List.mem_cons_self)
    rw [hk, if_neg Bool.false_ne_true]
    exact cells_none r (fun y hy => h y (List.mem_cons_of_mem _ hy)) n acc
theorem inv_xe {X : Cx} {f : Value → Shared → Prop} {pins : List (Addr × Obj)} {σ : L2.St} {H : Hp} {s : Shared} (I : Inv X pins σ H s) : Inv { X with xe := f } pins σ H s :=
  ⟨⟨I.ok.mod, I.ok.kind, I.ok.glob, I.ok.blt, I.ok.above, I.ok.inj, I.ok.has, I.ok.cab, I.ok.hd, I.ok.frames, I.ok.stk, I.ok.exf, I.ok.bs, I.ok.bsz, I.ok.noex, I.ok.exfs, I.ok.funs, I.ok.frf⟩, I.os, I.bare, I.base, I.loc, I.cell, I.free, I.freeC, I.pin, I.hok, I.len⟩
/-- THE RULE: a generator def, by its body -/
theorem gfnZ_of {P : Program} {w : World} {K : PySem.W.Frag} {mg : Str → Option Value} {base : Heap} {k : Nat} {f : Addr} {name qual : Str} {params : Arguments} {body : List Stmt} {scope : Scope} {dV kV doc pm cdv ct oc : Value} {an od : Option Addr}
    {osl : Array (Option Value)} {N ps : List Str} {pf : PSpG} {q : QTGn} (lk : K.lookup f = some ⟨oc, od, .func (PySem.W.fnOf name qual params body scope dV kV doc pm an cdv ct), osl⟩) (hcd : PySem.W.codeIn K cdv qual = true) (S : GScope N ps scope)
    (hnc : ∀ y ∈ scope.names, y.2 ≠ .cell)
    (len : ∀ ds ys fin, pf ds ys fin → ds.length = ps.length)
    (hbody : ∀ (A : Around) (outer : List Env) (L : Nat) (fin : Option Exn), Room k (A.deeper (envOfC qual scope L f cdv)) → GSs1 (mkZ P w K mg base N qual scope f cdv A outer L fin) body q)
    (hq : ∀ ds ys fin, pf ds ys fin → q { nx := fun ys' _ => ys' = [] ∧ fin = none, rt := fun ys' => ys' = [] ∧ fin = none, ex := fun ys' x => ys' = [] ∧ fin = some x } ys (startP N ds)) :
    GFnZ P w K mg base (k + 1) f (PySem.W.fnOf name qual params body scope dV kV doc pm an cdv ct) ps pf := by
  refine ⟨len, fun A outer s H SS args us vs ds ys fin hr e0 hb r hS hrep hpf => ?_⟩
  have hlv : vs.length = ds.length := hrep.len
  have hl : vs.length = ps.length := hlv.trans (len _ _ _ hpf)
  have KX : K.In s.heap := e0.mod.kin.keeps fun b o e => (e0.bs b o e).1
  have lim : s.heap.NoLimit := e0.mod.nolimit.keeps fun b o e => (e0.bs b o e).1
  have nocell : ∀ y, scope.names.lookup y ≠ some .cell := fun y e => hnc _ (PySem.mem_of_lookup e) rfl
  have hkind : ∀ y ∈ ps.zip us, scope.names.lookup y.1 = some .local ∨ (scope.names.lookup y.1 = some .cell ∧ ((cellsFrom (s.heap.objs.size + 1) scope.names []).lookup y.1).isSome = true) := fun ⟨n, v⟩ hy => by
    rcases S.par n (List.of_mem_zip hy).1 with q | q
    · exact .inl q
    · exact absurd q (nocell n)
  have nolook : ∀ (L : Nat) (x : Str), (cellsFrom (L + 1) scope.names []).lookup x = none := fun L x => by
    rw [cells_none scope.names hnc]
    rfl
  refine codeAny_call_generator hr.depth (KX _ _ lk) rfl S.co S.gen rfl (PySem.W.codeRec_of KX hcd) (hb _ _ _ _ ?_)
  refine wpAny_newFunctionEnv_cells S.kind hkind fun env he s1 x => ?_
  subst he
  have lim1 : s1.heap.NoLimit := lim.keeps x.toInCall.keep
  refine ⟨lim1, ?_⟩
  obtain ⟨h1, tk, es1, hk1⟩ := x.done
  have os1 : s1.os = s.os := by rw [es1]
  have gen1 : s1.gens = s.gens := by rw [es1]
  have lt1 : s.heap.objs.size < s1.heap.objs.size := x.toInCall.ns.lt
  have sz1 : s.heap.objs.size ≤ s1.heap.objs.size := Nat.le_of_lt lt1
  have kp1 : ∀ b o, s.heap.get? b = some o → s1.heap.get? b = some o := x.toInCall.keep
  have main : ∀ (go : Obj) (nm qn : Value) (tk2 : Nat), go.cls = .type "generator" → go.data = .fields #[.int s1.gens.size 0, nm, qn] → go.slots = #[] → (∀ h : Heap, (h.push go).get? h.objs.size = some go) →
      GMadeZ P w K base (k + 1) outer H SS s ys fin (.ref s1.heap.objs.size) { s1 with gens := s1.gens.push (.fresh (.func body (envOfC qual scope s.heap.objs.size f cdv))), toks := tk2, heap := s1.heap.push go } := by
    intro go nm qn tk2 hgc hgd0 hgs hgp
    have hpushed : (s1.heap.push go).get? s1.heap.objs.size = some go := hgp _
    obtain ⟨m0, ⟨oL, esL, epL, eL, dL, hkL, hmL⟩⟩ : ∃ m, s1.heap.Ns s.heap.objs.size m := ⟨_, x.toInCall.ns⟩
    have eL2 : (s1.heap.push go).get? s.heap.objs.size = some oL := Heap.get?_push_of_some _ eL
    have hba2 : AllBare (s1.gens.push (.fresh (.func body (envOfC qual scope s.heap.objs.size f cdv)))) := AllBare.push (by rw [gen1]; exact e0.bare) rfl
    have frl : ∀ b ∈ frs outer, b < s.heap.objs.size := fun b hb => by
      obtain ⟨_, o, ho, _⟩ := e0.funs.mem hb
      exact Heap.lt_size ho
    have st : ∀ A, Room (k + 1) A → A.frames = some outer → GSt (mkZ P w K mg base N qual scope f cdv A outer s.heap.objs.size fin) [] [] ys ⟨s, H, SS, []⟩ (startP N ds) (L2.start N vs) H { s1 with gens := s1.gens.push (.fresh (.func body (envOfC qual scope s.heap.objs.size f cdv))), toks := tk2, heap := s1.heap.push go } := fun Aw hrw hfr => by
      have e0w : Env0 P w K mg base Aw outer s H := ⟨hfr, e0.mod, e0.bs, e0.bsz, e0.funs, e0.frf, e0.hok, e0.bare⟩
      have I1 : Inv (gcxOf P w K mg base N qual scope f cdv Aw outer s H (fun _ _ _ => False) []) [] (L2.start N vs) H s1 := inv_startG S hrw.hd e0w hl r x
      have kp2 : ∀ b o, s1.heap.get? b = some o → (s1.heap.push go).get? b = some o := fun b o e => Heap.get?_push_of_some _ e
      have I2 := I1.call' (s' := { s1 with gens := s1.gens.push (.fresh (.func body (envOfC qual scope s.heap.objs.size f cdv))), toks := tk2, heap := s1.heap.push go }) (ch := []) rfl (Un.kept kp2) (I1.hok.kept kp2) hba2 fun b z => by simp at z
      refine ⟨⟨⟨I2.ok.mod, I2.ok.kind, I2.ok.glob, I2.ok.blt, I2.ok.above, I2.ok.inj, I2.ok.has, I2.ok.cab, I2.ok.hd, I2.ok.frames, I2.ok.stk, I2.ok.exf, I2.ok.bs, I2.ok.bsz, I2.ok.noex, I2.ok.exfs, I2.ok.funs, I2.ok.frf⟩, I2.os, I2.bare, I2.base, I2.loc, I2.cell, I2.free, I2.freeC, I2.pin, I2.hok, I2.len⟩, ⟨nop, ?_⟩, rfl, (fun p hp => by cases hp), (fun p hp => by cases hp), frl, nolook _⟩
      have ow : owns (startP N ds) = [] := allVa_owns (allVa_start N ds)
      refine ⟨GrP.refl _ _, fun _ z => z, fun _ z => z.elim, fun l hl => ?_, ?_, fun a sa => ⟨hS a sa, fun z => z⟩, (fun p hp => by cases hp), ?_⟩
      · rw [ow] at hl; cases hl
      · rw [ow]; exact List.nodup_nil
      · have en : N.length - vs.length = N.length - ds.length := by rw [hlv]
        unfold L2.start startP
        rw [en]
        exact slsR_start N (hrep.less fun a z => spr_va (fun _ z => z) (allVa_start N ds) a z) _
    obtain ⟨A0, hA0⟩ : ∃ A0 : Around, A0 = A := ⟨_, rfl⟩
    obtain ⟨_, own0, _, hv0, _⟩ := (st A hr e0.frames).rest (allVa_start N ds) eL2
    refine ⟨s1.heap.objs.size, s1.gens.size, _, go, [(s.heap.objs.size, oL)], _, mg, N, qual, scope, f, cdv, rfl, ⟨hgc, ⟨nm, qn, hgd0⟩, hgs⟩, hpushed, sz1, Array.getElem?_push_size .., os1, hba2, fun b o e => Heap.get?_push_of_some _ (kp1 b o e), fun p hp => ?_, hv0, fun Aw hrw hfr i s2 wk => ?_⟩
    · obtain ⟨a1, a2, a3, a4, a5⟩ := own0 p hp
      refine ⟨a1, a3, ?_, a5⟩
      have : p = (s.heap.objs.size, oL) := by simpa using hp
      rw [this]
      exact Nat.ne_of_lt lt1
    · have stw := ((st Aw hrw hfr).rest (allVa_start N ds) eL2).2.2.2.2 ys i s2 wk
      refine sg_func ?_
      refine (hbody Aw outer s.heap.objs.size fin (hrw.deeper _)).run [] [] ys i _ [] _ _ id id (startP N ds) (L2.start N vs) i.H s2 _ ⟨over_func, rfl, rfl, rfl⟩ ⟨fun ys' i' fl s' h => ?_, fun ys' i' e s' hx => ?_, fun ys' x h => h⟩ stw (hq ds ys fin hpf)
      · cases fl with
        | next =>
          obtain ⟨ρ, σ, H', h', e1, e2⟩ := h
          subst e1
          obtain ⟨T, R⟩ := h'.rel
          refine sg_end (.ok (.ret .none)) (.inl ⟨.inl rfl, e2, H', h'.inv.os, h'.inv.bare, R.gr, h'.inv.base, h'.inv.hok, fun p hp => ?_⟩)
          obtain ⟨a, b, _⟩ := h'.inv.pin p (List.mem_append_left _ hp)
          exact ⟨a, b⟩
        | brk => obtain ⟨_, _, _, _, z⟩ := h; exact z.elim
        | cont => obtain ⟨_, _, _, _, z⟩ := h; exact z.elim
        | ret v =>
          obtain ⟨ev, σ, H', I', gr, e1, e2⟩ := h
          subst ev e1
          refine sg_end (.ok (.ret .none)) (.inl ⟨.inl rfl, e2, H', I'.os, I'.bare, gr, I'.base, I'.hok, fun p hp => ?_⟩)
          obtain ⟨a, b, _⟩ := I'.pin p (List.mem_append_left _ hp)
          exact ⟨a, b⟩
      · refine sg_wrap ?_
        rw [over_func]
        refine wpAny_mono (show wpAny (model P w) (Aw.deeper (envOfC qual scope s.heap.objs.size f cdv)) (leaving (envOfC qual scope s.heap.objs.size f cdv) e) (fun _ s'' => L2N.CX P w outer i'.H i'.s ((mkZ P w K mg base N qual scope f cdv Aw outer s.heap.objs.size fin).EX ys' i') e s'' ∧ ∀ p ∈ i'.pn, s''.heap.get? p.1 = some p.2) (fun _ _ => False) s' from hx) (fun _ s'' q => ?_) fun _ s'' q => q.elim
        obtain ⟨q1, q2⟩ := q
        have hys : ys' = [] := by
          obtain ⟨_, _, _, _, _, _, _, _, _, _, _, _, z, _⟩ := q1
          exact z
        subst hys
        exact sg_end (.error e) (.inr ⟨e, rfl, q1, q2⟩)
  exact main _ _ _ _ rfl rfl rfl fun h => Heap.get?_push_size _ rfl
end LW

namespace LW
open PySem PySem.Spec PyProof.Rows L2 GenW
/-! # who wakes a generator -/
def ads (L n : Nat) : List Addr := (List.range n).filter fun b => decide (L ≤ b)
theorem mem_ads {L n b : Nat} : b ∈ ads L n ↔ L ≤ b ∧ b < n := by
  unfold ads
  rw [List.mem_filter, List.mem_range]
  simp [and_comm]
theorem un_cut {fs : List Addr} {H H1 : Hp} {s : Shared} {h' : Heap} {L : Nat} (u : Un fs [] H H1 (cutS s L).heap h') : Un fs (ads L s.heap.objs.size) H H1 s.heap h' := by
  have lt : ∀ {b o}, s.heap.get? b = some o → b ∉ ads L s.heap.objs.size → (cutS s L).heap.get? b = some o := fun {b o} e hn => by
    have hb : b < L := Nat.lt_of_not_le fun z => hn (mem_ads.mpr ⟨z, Heap.lt_size e⟩)
    rw [cutS_get hb]; exact e
  have no : ∀ b : Addr, b ∉ ([] : List Addr) := fun b z => by cases z
  exact ⟨fun b o e n hb hx => u.keep b o (lt e hx) n hb (no b), fun b o e n hb hx => u.slot b o (lt e hx) n hb (no b), fun b o e n hx => u.free b o (lt e hx) n (no b), fun b o e hx => u.there b o (lt e hx) (no b), u.tups, u.frzs, u.tbls⟩
/-- these were there ahead of L -/
structure Old (X : Cx) (pins : List (Addr × Obj)) (L : Nat) : Prop where
  s0 : X.s_0.heap.objs.size ≤ L
  loc : X.env.locals < L
  cell : ∀ x c, X.env.cells.lookup x = some c → c < L
  pin : ∀ p ∈ X.pn ++ pins, p.1 < L
  fr : ∀ b ∈ frs X.stack, b < L
theorem inv_old {X : Cx} {pins : List (Addr × Obj)} {σ : L2.St} {H : Hp} {s : Shared} (I : Inv X pins σ H s) : Old X pins s.heap.objs.size where
  s0 := I.sz
  loc := I.lt
  cell := fun x c e => let ⟨v, q⟩ := I.cell x c e; q.lt
  pin := fun p hp => Heap.lt_size (I.pin p hp).1
  fr := fun b hb => let ⟨_, o, ho, _⟩ := I.stack.mem hb; Heap.lt_size ho
theorem Old.ch {X : Cx} {pins : List (Addr × Obj)} {L n : Nat} (o : Old X pins L) : ∀ b ∈ ads L n, (b ∈ X.ex ∨ X.s_0.heap.objs.size ≤ b) ∧ b ≠ X.env.locals ∧ (∀ x c, X.env.cells.lookup x = some c → c ≠ b) ∧ ∀ p ∈ X.pn ++ pins, p.1 ≠ b := fun b hb => by
  have h := (mem_ads.mp hb).1
  exact ⟨.inr (Nat.le_trans o.s0 h), Nat.ne_of_gt (Nat.lt_of_lt_of_le o.loc h), fun x c e => Nat.ne_of_lt (Nat.lt_of_lt_of_le (o.cell x c e) h), fun p hp => Nat.ne_of_lt (Nat.lt_of_lt_of_le (o.pin p hp) h)⟩
section
variable {X : Cx} {pins : List (Addr × Obj)} {σ : L2.St} {H H1 : Hp} {s s' : Shared} {L : Nat}
theorem inv_cut (I : Inv X pins σ H s) (o : Old X pins L) (os : s'.os = s.os) (un : Un (frs X.stack) [] H H1 (cutS s L).heap s'.heap) (hok : HOk X.prog X.w H1 s'.heap) (hb : AllBare s'.gens) : Inv X pins σ H1 s' :=
  I.call' (ch := ads L s.heap.objs.size) os (un_cut un) hok hb o.ch
/-- an exception from a generator, in our air -/
theorem xe_cut {W : WX} {E : XK} (I : Inv X pins σ H s) (ol : Old X pins L) (hW : ∀ cls d H', E cls d H' → W cls d σ H') {u : Value} (c : L2N.CX X.prog X.w X.stack H (cutS s L) E u s') : L2N.XE X W u s' := by
  obtain ⟨a, B, H', cls, d, rfl, fl, hok, ub, na, os, ag, hE⟩ := c
  obtain ⟨G, g1, g2⟩ := restrict s'.heap fun b => (B.get? b).isSome || decide (b ∈ frs X.stack)
  have st : B.StaysIn s'.heap := fl.1
  have gB : ∀ b o, B.get? b = some o → G.get? b = some o := fun b o e => by
    rw [g1 b (by simp [e])]
    exact st b o e
  have gF : ∀ b, b ∈ frs X.stack → G.get? b = s'.heap.get? b := fun b hb => g1 b (by simp [hb])
  have og : ∀ b o, G.get? b = some o → s'.heap.get? b = some o ∧ ((B.get? b).isSome = true ∨ b ∈ frs X.stack) := fun b o e => by
    cases q : ((B.get? b).isSome || decide (b ∈ frs X.stack)) with
    | false => rw [g2 b q] at e; cases e
    | true =>
      rw [g1 b q] at e
      exact ⟨e, by simpa [Bool.or_eq_true] using q⟩
  have uc : Un (frs X.stack) [] H H' (cutS s L).heap G := by
    refine ⟨fun b o e n hb _ => gB b o (ub.keep b o e n hb), fun b o e n hb _ => ?_, fun b o e n _ => ub.free b o e n, fun b o e _ => ?_, ub.tups, ub.frzs, ub.tbls⟩
    · obtain ⟨sl, q⟩ := ub.slot b o e hb
      exact ⟨sl, by rw [gF b hb]; exact q⟩
    · by_cases hb : b ∈ frs X.stack
      · obtain ⟨sl, q⟩ := ub.slot b o e hb
        exact ⟨_, by rw [gF b hb]; exact q⟩
      · obtain ⟨o', q⟩ := ub.there b o e hb
        exact ⟨o', gB b o' q⟩
  refine ⟨a, B, { s with heap := G, gens := s'.gens, drawn := s'.drawn, toks := s'.toks }, pins, σ, H', cls, d, rfl, inv_cut I ol rfl uc (hok.kept gB) ag, fun b o e hb => ?_, Heap.UpToSlots.of_keeps fun b o e => (og b o e).1, .inr (.inl fl), na, os, ag, hW _ _ _ hE⟩
  obtain ⟨e', h⟩ := og b o e
  rcases h with h | h
  · obtain ⟨o', q⟩ := Option.isSome_iff_exists.mp h
    have z := st b o' q
    rw [e'] at z; cases z
    exact q
  · exact absurd h hb
theorem xe_gens {W : WX} {u : Value} {G : Array GenState} (x : L2N.XE X W u s') (h : AllBare G) : L2N.XE X W u { s' with gens := G } := by
  obtain ⟨a, B, sI, pins, σ, H, cls, d, rfl, I, nb, up, sky, na, os, ag, w⟩ := x
  exact ⟨a, B, sI, pins, σ, H, cls, d, rfl, I, nb, up, sky, na, os, h, w⟩
end
theorem notStop_ofN {P : Program} {w : World} {K : PySem.W.Frag} {outer : List Env} {H : Hp} {s s' : Shared} {E : XK} {e : Value} (hE : NoStop K E) (kin : K.In s'.heap) (c : L2N.CX P w outer H s E e s') : NotStop (model P w) e s'.heap := by
  obtain ⟨a, B, H', cls, d, rfl, fl, _, _, _, _, _, hW⟩ := c
  obtain ⟨oe, vs, he, hz, hd⟩ := fl.there
  have L := PySem.W.looks_subIn (M := model P w) kin (hE cls d H' hW)
  intro A Q E' s2 hs hq
  simp only [isInstance]
  refine wpAny_bind (wpAny_typeOf_ref (o := oe) (by rw [hs]; exact he) ?_)
  rw [hz.1]
  exact L A Q E' s2 (fun b o z => by rw [hs]; exact z) hq
/-- a sleeping generator, what it still hands out: ys -/
structure Rdy (P : Program) (w : World) (K : PySem.W.Frag) (base : Heap) (A : Around) (outer : List Env) (L : Nat) (fin : Option Exn) (a g : Nat) (go : Obj) (S : ASet) (ys : List D) (gp : List (Addr × Obj)) (hv : List (D × V)) (gs : GenState) (H : Hp) (s : Shared) : Prop where
  obj : s.heap.get? a = some go
  ho : H a = none
  own : ∀ p ∈ gp, s.heap.get? p.1 = some p.2 ∧ H p.1 = none ∧ L ≤ p.1 ∧ p.1 ≠ a ∧ ∀ v, p.2.data ≠ .cell v
  hvr : ∀ p ∈ hv, RepA K H S p.1 p.2
  gsa : s.gens[g]? = some gs
  goes : ∃ (mg : Str → Option Value) (N : List Str) (qual : Str) (scope : Scope) (f : Addr) (cd : Value), ∀ i s2, (mkZ P w K mg base N qual scope f cd A outer L fin).Wake gp hv i s2 → GoesZ (model P w) A ((mkZ P w K mg base N qual scope f cd A outer L fin).Phi ys i) gs s2
/-- what the code that is run meanwhile keeps -/
theorem Rdy.keep {P : Program} {w : World} {K : PySem.W.Frag} {base : Heap} {A : Around} {outer : List Env} {L : Nat} {fin : Option Exn} {a g : Nat} {go : Obj} {S S' : ASet} {ys : List D} {gp : List (Addr × Obj)} {hv : List (D × V)} {gs : GenState} {H H' : Hp} {s s' : Shared} (r : Rdy P w K base A outer L fin a g go S ys gp hv gs H s)
    (ho : s'.heap.get? a = some go ∧ H' a = none) (hp : ∀ p ∈ gp, s'.heap.get? p.1 = some p.2 ∧ H' p.1 = none) (hh : ∀ p ∈ hv, RepA K H' S' p.1 p.2) (hg : s'.gens[g]? = some gs) : Rdy P w K base A outer L fin a g go S' ys gp hv gs H' s' :=
  ⟨ho.1, ho.2, fun p hp' => ⟨(hp p hp').1, (hp p hp').2, (r.own p hp').2.2⟩, hh, hg, r.goes⟩
theorem next_gz {X : Cx} {W : Wrl} {F : Frm} {T : ASet} {ω : W.Ω} {ρ : List Sl} {pins : List (Addr × Obj)} {σ : L2.St} {H : Hp} {s : Shared} {A : Around} {L : Nat} {fin : Option Exn} {a g : Nat} {go : Obj} {ys : List D} {gp : List (Addr × Obj)} {hv : List (D × V)} {gs : GenState} {Q : Option Value → Shared → Prop} {E : Value → Shared → Prop} (xp : List (Addr × Obj))
    (hxp : ∀ p ∈ xp, s.heap.get? p.1 = some p.2 ∧ H p.1 = none ∧ p.1 ∉ frs X.stack ∧ (∀ v, p.2.data ≠ .cell v) ∧ ∀ q ∈ gp, p.1 ≠ q.1) (hh : A.handled = none) (hdep : A.depth < recursionLimit) (I : Inv X pins σ H s) (R : Rel X.K W F T ω ρ σ H) (ol : Old X pins L) (hgo : GObj go g) (hLa : L ≤ a)
    (r : Rdy X.prog X.w X.K X.base A.in1 X.stack L fin a g go (Spr F T ρ) ys gp hv gs H s) (hns : ∀ x, fin = some x → PySem.W.subIn X.K (.ref x.C) (.type "StopIteration") = some false)
    (hY : ∀ d ys' v x s1 H1 gp' hv' gs', ys = d :: ys' → (∀ p ∈ xp, s1.heap.get? p.1 = some p.2 ∧ H1 p.1 = none ∧ ∀ q ∈ gp', p.1 ≠ q.1) → Inv X pins σ H1 s1 → GrP nop H H1 → RelV x v → RepA X.K H1 (Spr F T ρ) d x → isSus gs' = true → Rdy X.prog X.w X.K X.base A.in1 X.stack L fin a g go (Spr F T ρ) ys' gp' hv' gs' H1 s1 → Q (some v) s1)
    (hD : ∀ s1 H1, ys = [] → fin = none → (∀ p ∈ xp, s1.heap.get? p.1 = some p.2 ∧ H1 p.1 = none) → Inv X pins σ H1 s1 → GrP nop H H1 → Q none s1)
    (hE : ∀ x e s1, ys = [] → fin = some x → L2N.XE X (fun cls dd σ' H' => σ' = σ ∧ GrP nop H H' ∧ XRep X.K H' x cls dd) e s1 → E e s1) : wpAny (model X.prog X.w) A (pyNext (.ref a)) Q E s := by
  have hg : s.heap.IsGen a g := hgo.is r.obj
  have hgs := r.gsa
  refine wpAny_gsz (n := g + 1) (Array.getElem?_eq_some_iff.mp hgs).1 ?_
  obtain ⟨mg, N, qual, scope, f, cd, hgoes⟩ := r.goes
  have hL : L ≤ s.heap.objs.size := Nat.le_trans hLa (Nat.le_of_lt (Heap.lt_size r.obj))
  obtain ⟨gnm, gqn, gdat⟩ := hgo.data
  have gcell : ∀ v, go.data ≠ .cell v := fun v z => by rw [gdat] at z; cases z
  have gfr : a ∉ frs X.stack := fun z => Nat.lt_irrefl _ (Nat.lt_of_lt_of_le (ol.fr a z) hLa)
  have wk : (mkZ X.prog X.w X.K mg X.base N qual scope f cd A.in1 X.stack L fin).Wake gp hv ⟨cutS (s.setGen g .running) L, H, Spr F T ρ, (a, go) :: xp⟩ (s.setGen g .running) :=
    ⟨rfl, hL, allBare_setGen I.bare rfl, I.hok, I.bs, I.stack, fun b hb => ⟨I.stkFree b hb, ol.fr b hb⟩, fun p hp => ⟨(r.own p hp).1, (r.own p hp).2.1⟩, fun p hp => by
      rcases List.mem_cons.mp hp with z | z
      · rw [z]
        exact ⟨r.obj, r.ho, gfr, gcell, fun q hq => fun z => (r.own q hq).2.2.2.1 z.symm⟩
      · exact hxp p z, R.spl, r.hvr⟩
  have hgo' := hgoes _ _ wk
  have kin : ∀ {s1 : Shared} {H1 : Hp}, Un (frs X.stack) [] H H1 (cutS s L).heap s1.heap → X.K.In s1.heap := fun {s1 H1} un => by
    refine I.ok.mod.kin.keeps fun b o eb => ?_
    obtain ⟨e1, e2⟩ := I.bs b o eb
    have hbL : b < L := Nat.lt_of_lt_of_le (Heap.lt_size eb) (Nat.le_trans I.ok.bsz ol.s0)
    refine un.keep b o (by rw [cutS_get hbL]; exact e1) e2 (fun hm => ?_) (fun z => by cases z)
    have := I.stack.mem hm
    rw [this.1] at eb; cases eb
  unfold pyNext
  refine wpAny_bind (wpAny_attempt (wpAny_callSpecial?_slot (name := Str.ofString "__next__") hg.typeIs slot_gen_next
    (wpAny_call_entry slot_gen_next hg.typeIs entry_gen_next ?_ (args_gen_next _))))
  show wpAny _ A.in1 (Builtin.Generator.genWake (.ref a) (.send .none)) _ _ s
  unfold Builtin.Generator.genWake
  refine wpAny_bind (wpAny_holding (wpAny_genNumber hg (wpAny_bind (wpAny_genState hgs ?_))))
  cases gs with
  | running => exact hgo'.elim
  | finished => exact hgo'.elim
  | _ =>
    refine wpAny_bind (wpAny_roomToWake I.nolimit hdep ?_)
    show wpAny _ A.in1 (.resume g (.send .none) [] _) _ _ s
    refine wpAny_resumeZ hgs hgo' (fun x s₁ hx => ?_) (fun v g' l' k' c' p' fs' s₁ hy => ?_)
    · cases ys with
      | cons d ys => exact False.elim hx
      | nil =>
        rcases hx with ⟨hr, hfin, H1, left⟩ | ⟨e, rfl, hcx, hpin⟩
        · have hres : End.result (.ret x) = .returned .none := by
            rcases hr with hr | hr <;> rw [hr] <;> rfl
          first | rw [hres] | simp only [hres]
          show wpAny _ A.in1 (newExc (.type "StopIteration") [] >>= _) _ _ _
          refine wpAny_bind ?_
          simp only [newExc, newTuple]
          refine wpAny_bind (wpAny_newObj_type ?_ (by size_fits))
          refine wpAny_bind (m := firstArgMember _ _) (wpAny_of_eq (a := Value.none) (by first | rfl | (simp only [firstArgMember]; rfl)) ?_)
          refine wpAny_newObj_type ?_ (by size_fits)
          simp only [raiseNew]
          refine wpAny_bind (wpAny_bind (wpAny_handled ?_))
          first | rw [show A.in1.handled = none from hh] | rw [hh]
          refine wpAny_throw ?_
          refine wpAny_bind (wpAny_isInstance (T := "StopIteration") (b := true) ⟨_, Heap.get?_push_size _ rfl, rfl⟩ isSubtype_stop ?_)
          have kp : ∀ (h' : Heap), (∀ b o, s₁.heap.get? b = some o → h'.get? b = some o) → (g + 1 ≤ ({ s₁.setGen g .finished with heap := h' } : Shared).gens.size → Q none { s₁.setGen g .finished with heap := h' }) := fun h' hk _ =>
            hD _ H1 rfl hfin (fun p hp => ⟨hk _ _ (left.pn p (List.mem_cons_of_mem _ hp)).1, (left.pn p (List.mem_cons_of_mem _ hp)).2⟩) (inv_cut I ol left.os ((show Un (frs X.stack) [] H H1 (cutS s L).heap s₁.heap from left.un).trans (Un.kept hk)) (left.hok.kept hk) (allBare_setGen left.bare rfl)) left.gr
          exact wpAny_pure (kp _ fun b o hb => Heap.get?_push_of_some _ (Heap.get?_push_of_some _ hb))
        · have hcx' : L2N.CX X.prog X.w X.stack H (cutS (s.setGen g .running) L) _ e s₁ := hcx
          have hg1 : s₁.heap.IsGen a g := hgo.is (hpin (a, go) List.mem_cons_self)
          have hxx : ∃ x, fin = some x := by
            obtain ⟨_, _, _, _, _, _, _, _, _, _, _, _, _, _, x, hx, _⟩ := hcx
            exact ⟨x, hx⟩
          obtain ⟨x, hx⟩ := hxx
          have nst : NoStop X.K ((mkZ X.prog X.w X.K mg X.base N qual scope f cd A.in1 X.stack L fin).EX [] ⟨cutS (s.setGen g .running) L, H, Spr F T ρ, (a, go) :: xp⟩) := fun cls d H' h => by
            obtain ⟨_, _, x', hx', hr⟩ := h
            have hx' : fin = some x' := hx'
            rw [hx] at hx'
            cases hx'
            rw [hr.1]
            exact hns x hx
          have kin1 : X.K.In s₁.heap := by
            obtain ⟨_, B, H', _, _, _, fl, _, ub, _⟩ := id hcx'
            refine I.ok.mod.kin.keeps fun b o eb => ?_
            obtain ⟨e1, e2⟩ := I.bs b o eb
            have hbL : b < L := Nat.lt_of_lt_of_le (Heap.lt_size eb) (Nat.le_trans I.ok.bsz ol.s0)
            refine fl.1 b o (ub.keep b o (by rw [cutS_get hbL]; exact e1) e2 fun hm => ?_)
            have := I.stack.mem hm
            rw [this.1] at eb; cases eb
          have hns1 := notStop_ofN nst kin1 hcx'
          have hq : g + 1 ≤ (s₁.setGen g .finished).gens.size → E e (s₁.setGen g .finished) := by
            intro _
            have ag : AllBare s₁.gens := by
              obtain ⟨_, _, _, _, _, _, _, _, _, _, _, ag, _⟩ := id hcx'
              exact ag
            refine hE x e _ rfl hx (xe_gens (xe_cut I ol (fun cls d H' h => ?_) hcx') (allBare_setGen ag rfl))
            obtain ⟨_, gr, x', hx', hr⟩ := h
            have hx' : fin = some x' := hx'
            rw [hx] at hx'
            cases hx'
            exact ⟨rfl, gr, hr⟩
          obtain ⟨o, nm, qn, ho, hc, hd, hsl⟩ := hg1
          show wpAny _ A.in1 (Builtin.Generator.genLeft (.ref a) e) _ _ _
          unfold Builtin.Generator.genLeft Builtin.Generator.madeByALambda
          refine wpAny_bind (wpAny_bind (wpAny_load (o := o) ho (wpAny_pure ?_)))
          refine wpAny_bind (hns1 _ _ _ _ rfl ?_)
          rw [Bool.and_false, if_neg Bool.false_ne_true]
          unfold Builtin.Generator.genEscaped
          first
            | refine wpAny_bind (hns1 _ _ _ _ rfl ?_)
            | refine wpAny_bind (wpAny_pure (wpAny_bind (hns1 _ _ _ _ rfl ?_)))
          rw [if_pos (show (!false) = true from rfl)]
          first
            | refine wpAny_throw ?_
            | refine wpAny_bind (wpAny_throw ?_)
          refine wpAny_bind (hns1 _ _ _ _ rfl ?_)
          rw [if_neg Bool.false_ne_true]
          exact wpAny_throw hq
    · cases ys with
      | nil => exact False.elim hy
      | cons d ys =>
        obtain ⟨hq, x, H1, gp', hv', rv, left, own, dis, rd, hvr, wake⟩ := hy
        refine ⟨hq, ?_⟩
        have hI : Inv X pins σ H1 (s₁.setGen g (.suspended k' l' c' p' fs' (g' || fs'.any Frame.guarded))) :=
          inv_cut I ol left.os left.un left.hok (allBare_setGen left.bare (by
            show (!(g' || fs'.any Frame.guarded)) = true
            exact hq))
        refine wpAny_pure ⟨v, rfl, wpAny_pure fun hsz => hY d ys v x _ H1 gp' hv' _ rfl (fun p hp => ⟨(left.pn p (List.mem_cons_of_mem _ hp)).1, (left.pn p (List.mem_cons_of_mem _ hp)).2, dis p (List.mem_cons_of_mem _ hp)⟩) hI left.gr rv rd rfl ⟨(left.pn (a, go) List.mem_cons_self).1, (left.pn (a, go) List.mem_cons_self).2, fun p hp => ?_, hvr, setGen_at ?_, mg, N, qual, scope, f, cd, wake⟩⟩
        · obtain ⟨a1, a2, a3, a4, a5⟩ := own p hp
          exact ⟨a1, a2, a3, fun z => dis (a, go) List.mem_cons_self p hp z.symm, a5⟩
        · have q : (s₁.setGen g (.suspended k' l' c' p' fs' (g' || fs'.any Frame.guarded))).gens.size = s₁.gens.size := setGen_size _ _ _
          omega
end LW

namespace LW
open PySem PySem.Spec PyProof.Rows L2 GenW
/-! # rules of the pure layer: generators made, walked, listed -/
abbrev QTGen (W : Wrl) := W.Ω → List Sl → (W.Ω → List D → Option Exn → Prop) → (W.Ω → Exn → Prop) → Prop
/-- an expression whose value is a generator that has not begun -/
structure QGen (X : Cx) (k : Nat) (W : Wrl) (Wo : WX) (e : Expr) (qg : QTGen W) : Prop where
  run : ∀ (pins : List (Addr × Obj)) (s : Shared) (σ : L2.St) (H : Hp) (F : Frm) (T : ASet) (ω : W.Ω) (ρ : List Sl) (Qp : W.Ω → List D → Option Exn → Prop) (Ep : W.Ω → Exn → Prop), Inv X pins σ H s → Rel X.K W F T ω ρ σ H → qg ω ρ Qp Ep → XOk X.K W Wo F ρ σ Ep →
    wpAny (model X.prog X.w) X.A (eval e X.env) (fun u s' => ∃ (H1 : Hp) (sc : Shared) (T1 : ASet) (ω1 : W.Ω) (ys : List D) (fin : Option Exn), Inv X pins σ H1 sc ∧ Rel X.K W F T1 ω1 ρ σ H1 ∧ Ext T H T1 H1 ∧ GMadeZ X.prog X.w X.K X.base k X.stack H1 (Spr F T1 ρ) sc ys fin u s' ∧ Qp ω1 ys fin) X.xe s
section
variable {X : Cx} {W : Wrl} {Wo : WX} {mr m m1 m2 : Md} {pf : PSpG} {qs : QTA W} {qo : QT W} {k : Nat} {f C : Addr} {fd : FuncData} {ps : List Str} {x mn : Str} {p pos apos : Pos} {e o a b fe : Expr} {es : List Expr}
theorem run_gfnZ {pins : List (Addr × Obj)} {σ : L2.St} {H : Hp} {s : Shared} {F : Frm} {T : ASet} {ω : W.Ω} {ρ : List Sl} {us : List Value} {vs : List V} {ds ys : List D} {fin : Option Exn} {E1 : Value → Shared → Prop} (G : GFnZ X.prog X.w X.K X.mg X.base k f fd ps pf) (hr : Room k X.A) (hb : Binds X.K fd ps [])
    (I : Inv X pins σ H s) (R : Rel X.K W F T ω ρ σ H) (r : Vals vs us) (rep : RepsA X.K H (Spr F T ρ) ds vs) (h : pf ds ys fin) :
    wpAny (model X.prog X.w) X.A (call (.ref f) us) (fun u s' => GMadeZ X.prog X.w X.K X.base k X.stack H (Spr F T ρ) s ys fin u s') E1 s := by
  have hl : us.length = ps.length := by rw [← r.length, rep.len]; exact G.len _ _ _ h
  have b := hb s us I.kIn (by rw [List.append_nil]; exact hl)
  rw [List.append_nil] at b
  refine wpAny_call (codeAny_mono (G.run X.A X.stack s H _ ⟨us, []⟩ us vs ds ys fin hr I.env0 b r R.spl rep h) fun r s' hq => ?_)
  cases r with
  | error e => exact False.elim hq
  | ok fl =>
    cases fl with
    | ret u => exact hq
    | next => exact False.elim hq
    | brk => exact False.elim hq
    | cont => exact False.elim hq
def qGMeth (C : Addr) (mn : Str) (pf : PSpG) (qo : QT W) (qs : QTA W) : QTGen W := fun ω ρ Q E => qo ω ρ (fun ω1 d => ∃ ns ds, d = .ins C ns ds ∧ mn ∉ ns ∧ qs ω1 ρ (fun ω2 es => ∃ ys fin, pf (d :: es) ys fin ∧ Q ω2 ys fin) E) E
theorem qg_meth (he : QE X m W Wo o qo) (c : Cls X.K C) (hm : Meth X.K C mn f) (G : GFnZ X.prog X.w X.K X.mg X.base k f fd ps pf) (hr : Room k X.A) (hb : Binds X.K fd ps []) (ha : QA X .A W Wo (e :: es) qs)
    (hst : starEach (e :: es) X.env = (false, eval e X.env) :: starEach es X.env := by rfl) (hpl : (backTo pos (starEach es X.env)).any (·.1) = false := by rfl)
    {pl : Sem Bool} (ht : eval (.Call (.Attribute o mn apos) (e :: es) [] pos) X.env = (do
      let ov ← eval o X.env
      standAt apos.atName
      let (f, first) ← holding [ov] (getMethod ov mn pl)
      callWith pos f first (backTo pos (starEach (e :: es) X.env)) (backToKw pos (keywordEach [] X.env))) := by rfl) :
    QGen X k W Wo (.Call (.Attribute o mn apos) (e :: es) [] pos) (qGMeth C mn pf qo qs) := by
  refine ⟨fun pins s σ H F T ω ρ Qp Ep I R hq hx => ?_⟩
  refine PySem.W.methodCall_KW (pl := pl) (thn (PE.run he pins s σ H (fun v H1 => ∃ T1 ω1 d, Rel X.K W F T1 ω1 ρ σ H1 ∧ Ext T H T1 H1 ∧ RC X.K H1 (Spr F T1 ρ) (owns ρ) d v ∧ ∃ ns ds, d = .ins C ns ds ∧ mn ∉ ns ∧ qs ω1 ρ (fun ω2 es => ∃ ys fin, pf (d :: es) ys fin ∧ Qp ω2 ys fin) Ep) I
    ⟨F, T, ω, ρ, _, Ep, R, hq, hx, fun T1 ω1 d v H1 R1 e1 r1 q1 => ⟨T1, ω1, d, R1, e1, r1.c, q1⟩⟩) fun u s1 ⟨v, H1, I1, rv, T1, ω1, d, R1, e1, r1, ns, ds, z, hn, q1⟩ => ?_) ht
  subst z
  obtain ⟨a, dx, xs, rfl, h1, ra⟩ := r1.insR
  obtain rfl : u = Value.ref a := rv
  refine getmeth_ok I1 h1 c hm (lookup_zip hn) ?_
  refine PySem.W.callWith_K (first := [.ref a]) (h₀ := X.base) I.ok.mod.kin hm.kp (thn (PA.run ha pos pins s1 σ H1 (fun vs H2 => ∃ T2 ω2 es, Rel X.K W F T2 ω2 ρ σ H2 ∧ Ext T1 H1 T2 H2 ∧ RepsA X.K H2 (Spr F T2 ρ) es vs ∧ ∃ ys fin, pf (.ins C ns ds :: es) ys fin ∧ Qp ω2 ys fin) I1
    ⟨F, T1, ω1, ρ, _, Ep, R1, q1, hx, fun T2 ω2 es vs H2 R2 e2 r2 q2 => ⟨T2, ω2, es, R2, e2, r2.reps, q2⟩⟩) fun us s2 ⟨vs, H2, I2, r, T2, ω2, es, R2, e2, r2, ys, fin, hp, q2⟩ => ⟨I2.kIn, ?_⟩) hst hpl
  exact thn (run_gfnZ (us := .ref a :: us) (vs := .ref a :: vs) G hr hb I2 R2 (.cons rfl r) (.cons (R1.ext_rep e2 ra) r2) hp) fun u' s' made => ⟨H2, s2, T2, ω2, ys, fin, I2, R2, e1.trans e2, made, q2⟩
def qGCall (pf : PSpG) (qs : QTA W) : QTGen W := fun ω ρ Q E => qs ω ρ (fun ω1 es => ∃ ys fin, pf es ys fin ∧ Q ω1 ys fin) E
theorem qg_call (G : GFnZ X.prog X.w X.K X.mg X.base k f fd ps pf) (hr : Room k X.A) (hg : Gl X x) (hm : X.mg x = some (.ref f)) (hk : PySem.W.keepIn X.K (.ref f) = true) (hb : Binds X.K fd ps [])
    (ha : QA X .A W Wo (e :: es) qs) (hdb : (x == ("__debug__" : Str)) = false := by decide) (he : starEach (e :: es) X.env = (false, eval e X.env) :: starEach es X.env := by rfl) (hpl : (backTo pos (starEach es X.env)).any (·.1) = false := by rfl) :
    QGen X k W Wo (.Call (.Name x p) (e :: es) [] pos) (qGCall pf qs) := by
  refine ⟨fun pins s σ H F T ω ρ Qp Ep I R hq hx => ?_⟩
  refine wpAny_Call_Name_kw (ld_glob I hg hm ?_ hdb)
  refine PySem.W.callWith_K (h₀ := X.base) I.ok.mod.kin hk (thn (PA.run ha pos pins s σ H (fun vs H2 => ∃ T2 ω2 es, Rel X.K W F T2 ω2 ρ σ H2 ∧ Ext T H T2 H2 ∧ RepsA X.K H2 (Spr F T2 ρ) es vs ∧ ∃ ys fin, pf es ys fin ∧ Qp ω2 ys fin) I
    ⟨F, T, ω, ρ, _, Ep, R, hq, hx, fun T2 ω2 es vs H2 R2 e2 r2 q2 => ⟨T2, ω2, es, R2, e2, r2.reps, q2⟩⟩) fun us s2 ⟨vs, H2, I2, r, T2, ω2, es, R2, e2, r2, ys, fin, hp, q2⟩ => ⟨I2.kIn, ?_⟩) he hpl
  exact thn (run_gfnZ G hr hb I2 R2 r r2 hp) fun u' s' made => ⟨H2, s2, T2, ω2, ys, fin, I2, R2, e2, made, q2⟩
end
theorem inv_gens {X : Cx} {pins : List (Addr × Obj)} {σ : L2.St} {H : Hp} {s : Shared} {G : Array GenState} (I : Inv X pins σ H s) (h : AllBare G) : Inv X pins σ H { s with gens := G } :=
  ⟨I.ok, I.os, h, I.base, I.loc, I.cell, I.free, I.freeC, I.pin, I.hok, I.len⟩
theorem inv_gens' {X : Cx} {pins : List (Addr × Obj)} {σ : L2.St} {H : Hp} {s : Shared} {G : Array GenState} (I : Inv X pins σ H { s with gens := G }) (h : AllBare s.gens) : Inv X pins σ H s :=
  ⟨I.ok, I.os, h, I.base, I.loc, I.cell, I.free, I.freeC, I.pin, I.hok, I.len⟩
theorem bare_off {G : Array GenState} (h : AllBare G) : AllBare (G.map offG) := fun y hy => by
  obtain ⟨x, hx, rfl⟩ := Array.mem_map.mp hy
  have := h x hx
  cases x <;> exact this
/-- what a call that made a generator leaves, seen from the caller -/
theorem made_rdy {X : Cx} {W : Wrl} {F : Frm} {T : ASet} {ω : W.Ω} {ρ : List Sl} {pins : List (Addr × Obj)} {σ : L2.St} {H : Hp} {sc s' : Shared} {k : Nat} {ys : List D} {fin : Option Exn} {u : Value} {A : Around} (hr : Room k A) (hfr : A.frames = some X.stack)
    (I : Inv X pins σ H sc) (R : Rel X.K W F T ω ρ σ H) (made : GMadeZ X.prog X.w X.K X.base k X.stack H (Spr F T ρ) sc ys fin u s') :
    ∃ (a g : Nat) (go : Obj) (gp : List (Addr × Obj)) (hv : List (D × V)) (gs : GenState), u = .ref a ∧ Inv X pins σ H s' ∧ Old X pins sc.heap.objs.size ∧ GObj go g ∧ sc.heap.objs.size ≤ a ∧ (∀ p ∈ gp, sc.heap.objs.size ≤ p.1 ∧ p.1 < s'.heap.objs.size) ∧
      Rdy X.prog X.w X.K X.base A X.stack sc.heap.objs.size fin a g go (Spr F T ρ) ys gp hv gs H s' := by
  obtain ⟨a, g, c, go, gp, hv, mg, N, qual, scope, f, cd, rfl, hgo, hobj, hLa, hgens, hos, hba, hkeep, hown, hhv, hrun⟩ := made
  refine ⟨a, g, go, gp, hv, .fresh c, rfl, I.call' (ch := []) hos (Un.kept hkeep) (I.hok.kept hkeep) hba (fun b z => by simp at z), inv_old I, hgo, hLa, fun p hp => ⟨(hown p hp).2.1, Heap.lt_size (hown p hp).1⟩, hobj, I.hok.fresh hLa, fun p hp => ?_, hhv, hgens, mg, N, qual, scope, f, cd, fun i s2 wk => hrun A hr hfr i s2 wk⟩
  obtain ⟨a1, a2, a3, a4⟩ := hown p hp
  exact ⟨a1, I.hok.fresh a2, a2, a3, a4⟩
/-! ### for x in g -/
def kForG {W : Wrl} (K : PySem.W.Frag) (g : QTG) (s : QTS W) (P : PEn W) (ω1 : W.Ω) (ρ : List Sl) (ys : List D) (fin : Option Exn) : Prop :=
  (∀ x, fin = some x → PySem.W.subIn K (.ref x.C) (.type "StopIteration") = some false) ∧ ∃ I : Nat → W.Ω → List Sl → Prop, I 0 ω1 ρ ∧
    (∀ i d ω ρ, ys[i]? = some d → I i ω ρ → g d ρ fun ρ' => s { P with nx := I (i + 1), ct := I (i + 1), bk := P.nx, ex := fun _ _ _ => False } ω ρ') ∧ ∀ ω ρ, I ys.length ω ρ → match fin with | none => P.nx ω ρ | some x => P.ex ω x ρ
def sForG {W : Wrl} (K : PySem.W.Frag) (qg : QTGen W) (g : QTG) (s : QTS W) : QTS W := fun P ω ρ => qg ω ρ (fun ω1 ys fin => kForG K g s P ω1 ρ ys fin) fun ω1 x => P.ex ω1 x ρ
theorem qs_forG {X : Cx} {W : Wrl} {Wo : WX} {mr m : Md} {tg iter : Expr} {body : List Stmt} {pos : Pos} {k : Nat} {t : List Nat} {qg : QTGen W} {g : QTG} {s : QTS W} (hp : PassesOwn (model X.prog X.w) X.A X.env X.xe) (hc : X.calm = true) (tk : L2N.Takes X Wo) (hk : Room (k + 1) X.A)
    (hgen : QGen X k W Wo iter qg) (hg : QG { X with xe := fun _ _ => False } m W tg t g) (hb : QSs { X with xe := fun _ _ => False } mr W Wo0 body s) (hm : m.sta = true := by rfl)
    (hs : ∀ x, foldedSetIterable iter X.env x = pure x := by intro _; rfl) : QS X mr W Wo (.For tg iter body [] pos) (sForG X.K qg g s) := by
  refine ⟨fun pins s0 σ0 H0 D I0 ⟨F, T0, ω0, ρ0, P, R0, hq, S⟩ => ?_⟩
  have hcal := I0.ok.hd hc
  refine wpAny_For (thn (hgen.run pins s0 σ0 H0 F T0 ω0 ρ0 _ _ I0 R0 hq S.xok) fun u s1 h1 => ?_) hs
  obtain ⟨H1, sc, T1, ω1, ys, fin, I1, R1, e1, made, hns, Iv, iv0, ivs, ivd⟩ := h1
  obtain ⟨a, g', go, gp, hv, gs, rfl, I1', ol, hgo, hLa, hgp, rdy⟩ := made_rdy (A := X.A.in1) ⟨hk.hd, by have := hk.dp; show X.A.depth + 3 * k + 5 < _; omega, by have := hk.un; show X.A.units + 1 + 16 * k + 200 < _; omega⟩ I1.ok.frames I1 R1 made
  refine wpAny_pyIter_gen (hgo.is rdy.obj) ?_
  refine codeAny_forLoop_any (fun n s' => ∃ (j : Nat) (T : ASet) (ω : W.Ω) (ρ : List Sl) (σ : L2.St) (H : Hp) (gs : GenState) (gp : List (Addr × Obj)) (hv : List (LW.D × V)), j + n = ys.length ∧ Inv X pins σ H s' ∧ Rel X.K W F T ω ρ σ H ∧ Iv j ω ρ ∧
      Rdy X.prog X.w X.K X.base X.A.in1 X.stack sc.heap.objs.size fin a g' go (Spr F T ρ) (ys.drop j) gp hv gs H s') ?_ ys.length ⟨0, T1, ω1, ρ0, σ0, H1, gs, gp, hv, Nat.zero_add _, I1', R1, iv0, rdy⟩
  rintro n s3 ⟨j, T, ω, ρ, σ, H, gs, gp, hv, hjn, I3, R3, iv3, r3⟩
  refine wpAny_passesOwn hp (next_gz (xp := []) (fun p hp => by cases hp) hcal (by have := hk.dp; show X.A.depth < _; omega) I3 R3 ol hgo hLa r3 hns (fun d ys' v x s4 H4 gp' hv' gs' hys _ I4 g4 rv rd hsus r4 => ?_) (fun s4 H4 hys hfin _ I4 g4 => ?_) fun x e s4 hys hfin hxe => ?_)
  · have hjl : j < ys.length := by
      rcases Nat.lt_or_ge j ys.length with z | z
      · exact z
      · rw [List.drop_of_length_le z] at hys; cases hys
    have hd : ys[j]? = some d := by
      have := congrArg List.head? hys
      rw [List.head?_drop] at this
      exact this
    have hys' : ys.drop (j + 1) = ys' := by rw [← List.tail_drop, hys] <;> rfl
    have R4 := R3.grow g4
    obtain ⟨gnm, gqn, gdat⟩ := hgo.data
    refine go_of r4.obj hgo.cls gdat rfl ?_
    have pinOk : ∀ p ∈ (a, go) :: gp', s4.heap.get? p.1 = some p.2 ∧ H4 p.1 = none ∧ p.1 ≠ X.env.locals ∧ p.1 ∉ X.fs ∧ ∀ v, p.2.data ≠ .cell v := fun p hp => by
      have fsub : ∀ b, sc.heap.objs.size ≤ b → b ≠ X.env.locals ∧ b ∉ X.fs := fun b hb => ⟨Nat.ne_of_gt (Nat.lt_of_lt_of_le ol.loc hb), fun z => by
        obtain ⟨_, o, ho, _⟩ := I1.ok.funs.mem z
        exact Nat.lt_irrefl _ (Nat.lt_of_lt_of_le (Nat.lt_of_lt_of_le (Heap.lt_size ho) I1.sz) hb)⟩
      rcases List.mem_cons.mp hp with z | z
      · rw [z]
        exact ⟨r4.obj, r4.ho, (fsub a hLa).1, (fsub a hLa).2, fun v z => by rw [gdat] at z; cases z⟩
      · obtain ⟨a1, a2, a3, a4, a5⟩ := r4.own p z
        exact ⟨a1, a2, (fsub _ a3).1, (fsub _ a3).2, a5⟩
    have I4p : Inv X (pins ++ (a, go) :: gp') σ H4 s4 := I4.pins_of fun p hp => by
      rcases List.mem_append.mp hp with z | z
      · exact I4.pin p (List.mem_append_right _ z)
      · exact pinOk p z
    refine wpAny_asleep ?_
    refine wpAny_mono (hg.run (pins ++ (a, go) :: gp') { s4 with gens := s4.gens.map offG } σ H4 x v (fun σ6 H6 => ∃ ρ6 T6 ω6, Rel X.K W (F.add hv') T6 ω6 ρ6 σ6 H6 ∧ s { P with nx := Iv (j + 1), ct := Iv (j + 1), bk := P.nx, ex := fun _ _ _ => False } ω6 ρ6) (inv_xe (inv_gens I4p (bare_off I4.bare))) rv
      ⟨F.add hv', T, ω, ρ, d, _, R4.put r4.hvr, rr_a hm d x rd, ivs j d ω ρ hd iv3, fun ρ6 σ6 R6 _ _ q6 => ⟨ρ6, T, ω, R6, q6⟩⟩) (fun _ s6 h6 => ?_) fun _ _ z => z.elim
    obtain ⟨σ6, H6, I6, ρ6, T6, ω6, R6, q6⟩ := h6
    intro G6 _ hG6 hB6
    have I6' : Inv { X with xe := fun _ _ => False } (pins ++ (a, go) :: gp') σ6 H6 { s6 with gens := G6 } := inv_gens I6 (hB6 I6.bare)
    refine wpAny_asleep ?_
    refine wpAny_mono (hb.run (pins ++ (a, go) :: gp') { s6 with gens := G6.map offG } σ6 H6 { nx := fun σ H => ∃ T ω ρ, Rel X.K W (F.add hv') T ω ρ σ H ∧ Iv (j + 1) ω ρ, ct := fun σ H => ∃ T ω ρ, Rel X.K W (F.add hv') T ω ρ σ H ∧ Iv (j + 1) ω ρ, bk := D.nx, rt := D.rt } (inv_gens I6 (bare_off (hB6 I6.bare)))
      ⟨F.add hv', T6, ω6, ρ6, _, R6, q6, ⟨fun T ω ρ σ H R q => ⟨T, ω, ρ, R, q⟩, fun T ω ρ σ H R q => S.nx T ω ρ σ H R.drop q, fun T ω ρ σ H R q => ⟨T, ω, ρ, R, q⟩, fun T ω ρ σ H d v R r q => S.rt T ω ρ σ H d v R.drop r q, fun _ _ _ _ _ _ _ _ _ _ z => z⟩⟩) (fun f s7 h7 => ?_) fun _ _ z => z.elim
    intro G7 _ hG7 hB7
    have gsg : G7[g']? = some gs' := hG7 g' gs' (hG6 g' gs' r4.gsa hsus) hsus
    have again : ∀ {σ7 : L2.St} {H7 : Hp}, Inv { X with xe := fun _ _ => False } (pins ++ (a, go) :: gp') σ7 H7 s7 → (∃ T ω ρ, Rel X.K W (F.add hv') T ω ρ σ7 H7 ∧ Iv (j + 1) ω ρ) → ∃ m, m < n ∧ ∃ (j : Nat) (T : ASet) (ω : W.Ω) (ρ : List Sl) (σ : L2.St) (H : Hp) (gs : GenState) (gp : List (Addr × Obj)) (hv : List (LW.D × V)), j + m = ys.length ∧ Inv X pins σ H { s7 with gens := G7 } ∧ Rel X.K W F T ω ρ σ H ∧ Iv j ω ρ ∧
      Rdy X.prog X.w X.K X.base X.A.in1 X.stack sc.heap.objs.size fin a g' go (Spr F T ρ) (ys.drop j) gp hv gs H { s7 with gens := G7 } := fun {σ7 H7} I7 ⟨T7, ω7, ρ7, R7, iv7⟩ => by
      have I7' : Inv X (pins ++ (a, go) :: gp') σ7 H7 { s7 with gens := G7 } := inv_xe (X := { X with xe := fun _ _ => False }) (f := X.xe) (inv_gens I7 (hB7 I7.bare))
      have pk : ∀ p ∈ (a, go) :: gp', s7.heap.get? p.1 = some p.2 ∧ H7 p.1 = none := fun p hp => by
        obtain ⟨a1, a2, _⟩ := I7.pin p (List.mem_append_right _ (List.mem_append_right _ hp))
        exact ⟨a1, a2⟩
      refine ⟨n - 1, by omega, j + 1, T7, ω7, ρ7, σ7, H7, gs', gp', hv', by omega, I7'.unpinned, R7.drop, iv7, ?_⟩
      rw [hys']
      exact r4.keep (pk _ List.mem_cons_self) (fun p hp => pk p (List.mem_cons_of_mem _ hp)) (fun p hp => R7.kept hp) gsg
    have back : ∀ {σ7 : L2.St} {H7 : Hp}, Inv { X with xe := fun _ _ => False } (pins ++ (a, go) :: gp') σ7 H7 s7 → Inv X pins σ7 H7 { s7 with gens := G7 } := fun I7 => (inv_xe (X := { X with xe := fun _ _ => False }) (f := X.xe) (inv_gens I7 (hB7 I7.bare))).unpinned
    cases f with
    | next => obtain ⟨σ7, H7, I7, q7⟩ := h7; exact again I7 q7
    | cont => obtain ⟨σ7, H7, I7, q7⟩ := h7; exact again I7 q7
    | brk => obtain ⟨σ7, H7, I7, q7⟩ := h7; exact ⟨σ7, H7, back I7, q7⟩
    | ret v' => obtain ⟨x7, σ7, H7, I7, r7, q7⟩ := h7; exact ⟨x7, σ7, H7, back I7, r7, q7⟩
  · have hj : j = ys.length := by
      have := congrArg List.length hys
      rw [List.length_drop] at this
      have hz : ([] : List LW.D).length = 0 := rfl
      omega
    subst hj
    have q := ivd ω ρ iv3
    rw [hfin] at q
    exact wpAny_execs_nil ⟨σ, H4, I4, S.nx T ω ρ σ H4 (R3.grow g4) q⟩
  · have hj : j = ys.length := by
      have := congrArg List.length hys
      rw [List.length_drop] at this
      have hz : ([] : List LW.D).length = 0 := rfl
      omega
    subst hj
    have q := ivd ω ρ iv3
    rw [hfin] at q
    refine tk e s4 ?_
    obtain ⟨a', B, sI, pins', σ', H', cls, d, rfl, I', nb, up, sky, na, os, ag, w1, w2, w3⟩ := hxe
    subst w1
    exact ⟨a', B, sI, pins', σ', H', cls, d, rfl, I', nb, up, sky, na, os, ag, S.ex T ω ρ σ' H' x cls d (R3.grow w2) w3 q⟩
end LW

namespace LW
open PySem PySem.Spec PyProof.Rows L2 GenW
/-! # list(g) -/
section
variable {X : Cx} {pins : List (Addr × Obj)} {σ : L2.St} {H : Hp} {s : Shared} {S : Addr} {acc : Array Value} {c : Nat} {xs : List V}
/-- a list that is nobody's is tracked -/
theorem inv_track (I : Inv X pins σ H s) (hn : H S = none) (e : s.heap.get? S = some (lstObj acc c)) (hv : Vals xs acc.toList) (hl : xs.length ≤ sizeLine) (h0 : X.s_0.heap.objs.size ≤ S) (hL : S ≠ X.env.locals) (hc : ∀ x c, X.env.cells.lookup x = some c → c ≠ S)
    (hp : ∀ p ∈ X.pn ++ pins, p.1 ≠ S) : Inv X pins σ (upd H S (.lst xs)) s := by
  have old : ∀ b o, X.s_0.heap.get? b = some o → b ≠ S := fun b o q => Nat.ne_of_lt (Nat.lt_of_lt_of_le (Heap.lt_size q) h0)
  refine ⟨I.ok, I.os, I.bare, ⟨I.base.keep, I.base.slot, fun b o q n hx => ?_, I.base.there, fun b ys q => ?_, fun b o u q => ?_, fun b ps q => ?_⟩, I.loc, I.cell, ?_, fun x c q => ?_, fun p hpp => ?_, ?_, I.len⟩
  · rw [upd_ne (old b o q)]; exact I.base.free b o q n hx
  · have q2 := I.base.tups b ys q
    rw [upd_ne (ne_of_none q2 hn)]; exact q2
  · have q2 := I.base.frzs b o u q
    rw [upd_ne (ne_of_none q2 hn)]; exact q2
  · obtain ⟨more, q2⟩ := I.base.tbls b ps q
    exact ⟨more, by rw [upd_ne (ne_of_none q2 hn)]; exact q2⟩
  · rw [upd_ne (Ne.symm hL)]; exact I.free
  · rw [upd_ne (hc x c q)]; exact I.freeC x c q
  · obtain ⟨a1, a2, a3⟩ := I.pin p hpp
    exact ⟨a1, by rw [upd_ne (hp p hpp)]; exact a2, a3⟩
  · exact I.hok.laidN (fun _ _ q => q) hn ⟨hl, acc.toList, c, hv, by rw [e]⟩
end
theorem drainZ {X : Cx} {W : Wrl} {F : Frm} {T : ASet} {ω : W.Ω} {ρ : List Sl} {pins : List (Addr × Obj)} {σ : L2.St} {A : Around} {L : Nat} {a g : Nat} {go : Obj} {zs : List D} {R : Result → Shared → Prop} {S : Addr} {H0 : Hp}
    (hh : A.handled = none) (hdep : A.depth < recursionLimit) (ol : Old X pins L) (hgo : GObj go g) (hLa : L ≤ a) (hSa : S ≠ a) (hSL : L ≤ S) (hSf : S ∉ frs X.stack) (hz : zs.length ≤ sizeLine)
    (hend : ∀ s' acc c H' xs, Inv X pins σ H' s' → H' S = none → s'.heap.get? S = some (lstObj acc c) → Vals xs acc.toList → RepsA X.K H' (Spr F T ρ) zs xs → Rel X.K W F T ω ρ σ H' → GrP nop H0 H' → R (.ok (.ret .none)) s') :
    ∀ (ys ds : List D) (s : Shared) (H : Hp) (xs : List V) (acc : Array Value) (c : Nat) (gs : GenState) (gp : List (Addr × Obj)) (hv : List (D × V)), zs = ds ++ ys → Inv X pins σ H s → Rel X.K W F T ω ρ σ H → GrP nop H0 H → s.heap.get? S = some (lstObj acc c) → H S = none → (∀ p ∈ gp, S ≠ p.1) → Vals xs acc.toList → RepsA X.K H (Spr F T ρ) ds xs →
      Rdy X.prog X.w X.K X.base A.in1.in1 X.stack L none a g go (Spr F T ρ) ys gp hv gs H s → codeAny (model X.prog X.w) A (.builtin "list.extend.loop" ⟨[.ref S, .ref a, .none], []⟩) R s := by
  have SneL : S ≠ X.env.locals := Nat.ne_of_gt (Nat.lt_of_lt_of_le ol.loc hSL)
  have Sc : ∀ x c, X.env.cells.lookup x = some c → c ≠ S := fun x c e => Nat.ne_of_lt (Nat.lt_of_lt_of_le (ol.cell x c e) hSL)
  have Sp : ∀ p ∈ X.pn ++ pins, p.1 ≠ S := fun p hp => Nat.ne_of_lt (Nat.lt_of_lt_of_le (ol.pin p hp) hSL)
  have S0 : X.s_0.heap.objs.size ≤ S := Nat.le_trans ol.s0 hSL
  intro ys
  induction ys with
  | nil =>
    intro ds s H xs acc c gs gp hv ez I R gr hS hn hgp hvals hrep r
    refine codeAny_builtin PySem.F.entry_extend_loop ?_
    rw [Around.under_plainId PySem.F.plain_extend_loop _]
    show wpAny _ A.in1 (pyNext (.ref a) >>= _) _ _ s
    refine wpAny_bind (next_gz (A := A.in1) (xp := [(S, lstObj acc c)]) (fun p hp => ?_) hh hdep I R ol hgo hLa r (fun x hx => by cases hx) (fun d ys' v x s1 H1 gp' hv' gs' hys _ _ _ _ _ _ _ => ?_) (fun s1 H1 _ _ hx1 I1 g1 => ?_) fun x e s1 _ hx _ => ?_)
    · rw [List.mem_singleton.mp hp]
      exact ⟨hS, hn, hSf, fun v z => (by cases z), hgp⟩
    · cases hys
    · obtain ⟨e1, e2⟩ := hx1 (S, lstObj acc c) List.mem_cons_self
      rw [List.append_nil] at ez
      subst ez
      exact wpAny_pure (hend _ acc c H1 xs I1 e2 e1 hvals (hrep.ext g1 (fun _ z => z.elim) fun b z => .inl z) (R.grow g1) (gr.trans0 g1))
    · cases hx
  | cons d ys ih =>
    intro ds s H xs acc c gs gp hv ez I R gr hS hn hgp hvals hrep r
    refine codeAny_builtin PySem.F.entry_extend_loop ?_
    rw [Around.under_plainId PySem.F.plain_extend_loop _]
    show wpAny _ A.in1 (pyNext (.ref a) >>= _) _ _ s
    refine wpAny_bind (next_gz (A := A.in1) (xp := [(S, lstObj acc c)]) (fun p hp => ?_) hh hdep I R ol hgo hLa r (fun x hx => by cases hx) (fun d' ys' v x s1 H1 gp' hv' gs' hys hx1 I1 g1 rv rd hsus r1 => ?_) (fun s1 H1 hys _ _ _ _ => ?_) fun x e s1 _ hx _ => ?_)
    · rw [List.mem_singleton.mp hp]
      exact ⟨hS, hn, hSf, fun v z => (by cases z), hgp⟩
    · cases hys
      obtain ⟨e1, e2, e3⟩ := hx1 (S, lstObj acc c) List.mem_cons_self
      have hlen : acc.size < sizeLine := by
        have q1 := hvals.length
        have q2 := hrep.len
        have q3 : acc.toList.length = acc.size := by simp
        have q4 : zs.length = ds.length + (ys.length + 1) := by rw [ez, List.length_append, List.length_cons]
        omega
      show wpAny _ A.in1 (updateSeq S (·.push v) >>= _) _ _ _
      refine wpAny_bind ?_
      refine wpAny_updateSeq e1 rfl (wpAny_pure ⟨plainId_quiet PySem.F.plain_extend_loop _, ?_⟩) (Nat.le_of_lt hlen) (by show (acc.push v).size ≤ sizeLine + 1; rw [Array.size_push]; omega)
      have keep3 : ∀ b o, b ≠ S → s1.heap.get? b = some o → (s1.heap.update S (Obj.mapSeq (·.push v))).get? b = some o := fun b o hbS e => (Heap.get?_update_other _ _ (Ne.symm hbS)).trans e
      obtain ⟨c', ec'⟩ : ∃ c', (s1.heap.update S (Obj.mapSeq (·.push v))).get? S = some (lstObj (acc.push v) c') := ⟨_, Heap.get?_update_self _ e1 rfl⟩
      refine ih (ds ++ [d]) { s1 with heap := s1.heap.update S (Obj.mapSeq (·.push v)) } H1 (xs ++ [x]) (acc.push v) c' gs' gp' hv' (by rw [ez, List.append_assoc] <;> rfl) (I1.turned (it := S) (t' := s1.toks) keep3 e2 SneL (.inr S0) Sc Sp) (R.grow g1) (gr.trans0 g1) ec' e2 e3 ?_ ?_ ?_
      · rw [Array.toList_push]
        exact hvals.append (.cons rv .nil)
      · exact RepsA.append (.cons rd .nil) (hrep.ext g1 (fun _ z => z.elim) fun b z => .inl z)
      · exact r1.keep ⟨keep3 a go (Ne.symm hSa) r1.obj, r1.ho⟩ (fun p hp => ⟨keep3 _ _ (Ne.symm (e3 p hp)) (r1.own p hp).1, (r1.own p hp).2.1⟩) r1.hvr r1.gsa
    · cases hys
    · cases hx
def qListG {W : Wrl} (qg : QTGen W) : QT W := fun ω ρ Q E => qg ω ρ (fun ω1 ys fin => fin = none ∧ ys.length ≤ 1000000 ∧ Q ω1 (.lst ys)) E
theorem qe_listG {X : Cx} {W : Wrl} {Wo : WX} {e : Expr} {p pos : Pos} {k : Nat} {qg : QTGen W} (hgen : QGen X k W Wo e qg) (hr : Room (k + 3) X.A) (hg : Gl X "list") (hmg : X.mg "list" = none)
    (he : starEach [e] X.env = (false, eval e X.env) :: starEach [] X.env := by rfl) : QE X .F W Wo (.Call (.Name "list" p) [e] [] pos) (qListG qg) := by
  refine ⟨fun pins s0 σ H0 Q I0 ⟨F, T0, ω0, ρ, Qp, Ep, R0, hq, hx, kk⟩ => ?_⟩
  refine wpAny_Call_Name_kw (ld_blt I0 hg hmg (by decide +kernel : bootBuiltins "list" = some (.type "list")) ?_ (by decide) (by decide))
  refine PyProof.Rows.callWith_type1 ?_ he rfl
  rw [he]
  show wpAny _ _ (spliced ((false, eval e X.env) :: backTo pos (starEach [] X.env))) _ _ s0
  refine Calls.spliced_cons (thn (hgen.run pins s0 σ H0 F T0 ω0 ρ _ Ep I0 R0 hq hx) fun u s ⟨H1, sc, T, ω, ys, fin, I1, R1, e1, made, hfin, hys, hQ⟩ => ?_)
  subst hfin
  refine Calls.spliced_nil ?_
  obtain ⟨a, g, go, gp, hv, gs, rfl, I, ol, hgo, hLa, hgp, rdy⟩ := made_rdy (A := X.A.in1.in1.in1) ⟨hr.hd, by have := hr.dp; show X.A.depth + 3 * k + 5 < _; omega, by have := hr.un; show X.A.units + 1 + 1 + 1 + 16 * k + 200 < _; omega⟩ I1.ok.frames I1 R1 made
  have hg' : s.heap.IsGen a g := hgo.is rdy.obj
  have hl := I.nolimit
  have hSa : s.heap.objs.size ≠ a := Nat.ne_of_gt (Heap.lt_size rdy.obj)
  refine callType_codes (Q₁ := fun obj s₁ => obj = .ref s.heap.objs.size ∧ s₁ = { s with heap := s.heap.push { cls := .type "list", data := .seq #[] } }) PySem.F.called_list (PySem.F.typeCall_list_1 _) PySem.F.entry_list_init
    (code_list_new _ ⟨rfl, rfl⟩) fun obj s₁ h₁ => ?_
  obtain ⟨rfl, rfl⟩ := h₁
  have hS : (s.heap.push { cls := .type "list", data := .seq #[] }).get? s.heap.objs.size = some { cls := .type "list", data := .seq #[] } := Heap.get?_push_size _ rfl
  refine ⟨⟨_, hS, rfl⟩, PySem.F.args_list_init_2 _ _, ?_⟩
  show wpAny _ X.A.in1.in1 (do let old ← Builtin.List.listItems (.ref s.heap.objs.size); Builtin.List.listUpdate (.ref s.heap.objs.size) (fun _ => #[]); letGo old.toList.reverse; Builtin.List.listExtendWith (.ref s.heap.objs.size) (.ref a) .none) _ _ _
  refine wpAny_bind ?_
  unfold Builtin.List.listItems
  refine wpAny_bind (wpAny_seqItems hS rfl (wpAny_pure ?_))
  show wpAny _ X.A.in1.in1 (updateSeq s.heap.objs.size (fun _ => #[]) >>= fun _ => letGo (#[] : Array Value).toList.reverse >>= fun _ => Builtin.List.listExtendWith (.ref s.heap.objs.size) (.ref a) .none) _ _ _
  refine wpAny_bind (wpAny_updateSeq hS rfl ?_)
  have hS2 := Heap.get?_update_self (Obj.mapSeq (fun _ => (#[] : Array Value))) hS rfl
  refine wpAny_bind (wpAny_letGo ?_)
  unfold Builtin.List.listExtendWith
  have up : ∀ (h : Heap) (f : Obj → Obj), (∀ b o, s.heap.get? b = some o → h.get? b = some o) → ∀ b o, s.heap.get? b = some o → (h.update s.heap.objs.size f).get? b = some o := fun h f q b o e =>
    (Heap.get?_update_other _ _ (Ne.symm (Nat.ne_of_lt (Heap.lt_size e)))).trans (q b o e)
  have k1 : ∀ b o, s.heap.get? b = some o → (s.heap.push { cls := .type "list", data := .seq #[] }).get? b = some o := fun b o e => Heap.get?_push_of_some _ e
  have k2 := up _ (Obj.mapSeq (fun _ => (#[] : Array Value))) k1
  have gty : ∀ {h : Heap}, (∀ b o, s.heap.get? b = some o → h.get? b = some o) → h.IsGen a g := fun {h} q => hg'.keeps q
  refine wpAny_bind (wpAny_typeOf (Heap.IsGen.typeIs (s := { s with heap := _ }) (gty k2)) ?_)
  have h1 : Builtin.List.listSameRef (.ref s.heap.objs.size) (.ref a) = false := by simp [Builtin.List.listSameRef, hSa]
  have h2 : (Value.type "generator" == Value.type "list") = false := by decide
  have h3 : (Value.type "generator" == Value.type "tuple") = false := by decide
  simp only [h1, h2, h3, Bool.or_false, Bool.false_eq_true, if_false]
  refine wpAny_bind (wpAny_pyIter_gen (s := { s with heap := _ }) (gty k2) ?_)
  refine wpAny_bind (wpAny_holding ?_)
  unfold Builtin.List.listLengthHint
  refine wpAny_bind (wpAny_specialOf (Heap.IsGen.typeIs (s := { s with heap := _ }) (gty k2)) PySem.F.gen_no_len ?_)
  show wpAny _ X.A.in1.in1 (specialOf (Value.ref a) (Str.ofString "__length_hint__") >>= _) _ _ _
  refine wpAny_bind (wpAny_specialOf (Heap.IsGen.typeIs (s := { s with heap := _ }) (gty k2)) PySem.F.gen_no_hint ?_)
  refine wpAny_pure ?_
  show wpAny _ X.A.in1.in1 (rule "list.extend.makes-room" >>= fun _ => Builtin.List.listTouch (.ref s.heap.objs.size) >>= fun _ =>
    again (.builtin "list.extend.loop" ⟨[.ref s.heap.objs.size, .ref a, .none], []⟩)) _ _ _
  refine wpAny_bind (wpAny_rule ?_)
  refine wpAny_bind ?_
  show wpAny _ X.A.in1.in1 (updateSeq s.heap.objs.size (·.push .none) >>= fun _ => updateSeq s.heap.objs.size (·.pop)) _ _ _
  refine wpAny_bind (wpAny_updateSeq hS2 rfl ?_)
  have hS3 := Heap.get?_update_self (Obj.mapSeq (·.push Value.none)) hS2 rfl
  refine wpAny_updateSeq (hz := by seq_fits) hS3 rfl ?_
  have hS4 := Heap.get?_update_self (Obj.mapSeq (·.pop)) hS3 rfl
  have k4 := up _ (Obj.mapSeq (·.pop)) (up _ (Obj.mapSeq (·.push Value.none)) k2)
  refine wpAny_pure ⟨plainId_quiet PySem.F.plain_extend_loop _, ?_⟩
  have hSL : sc.heap.objs.size ≤ s.heap.objs.size := Nat.le_trans hLa (Nat.le_of_lt (Heap.lt_size rdy.obj))
  refine drainZ (H0 := H1) (zs := ys) (F := F) (T := T) (ω := ω) (ρ := ρ) (σ := σ) (A := X.A.in1) hr.hd (by have := hr.dp; show X.A.depth < _; omega) ol hgo hLa hSa hSL (fun z => Nat.lt_irrefl _ (Nat.lt_of_lt_of_le (ol.fr _ z) hSL)) (Nat.le_trans hys (by decide))
    (fun s' acc c H' xs I' hn' hS' hvals hrep R' gr => ⟨rfl, ?_⟩) ys [] _ H1 [] _ _ gs gp hv rfl (I.call' (ch := []) rfl (Un.kept k4) (I.hok.kept k4) I.bare (fun b z => by simp at z)) R1 (GrP.refl _ _) hS4 (I.hok.fresh (Nat.le_refl _)) (fun p hp => Nat.ne_of_gt (hgp p hp).2) .nil .nil
    (rdy.keep ⟨k4 _ _ rdy.obj, rdy.ho⟩ (fun p hp => ⟨k4 _ _ (rdy.own p hp).1, (rdy.own p hp).2.1⟩) rdy.hvr rdy.gsa)
  have hlen : xs.length ≤ sizeLine := by rw [hrep.len]; exact Nat.le_trans hys (by decide)
  refine ⟨.ref s.heap.objs.size, upd H' s.heap.objs.size (.lst xs), inv_track I' hn' hS' hvals hlen (Nat.le_trans ol.s0 hSL) (Nat.ne_of_gt (Nat.lt_of_lt_of_le ol.loc hSL)) (fun x c e => Nat.ne_of_lt (Nat.lt_of_lt_of_le (ol.cell x c e) hSL)) (fun p hp => Nat.ne_of_lt (Nat.lt_of_lt_of_le (ol.pin p hp) hSL)), rfl, ?_⟩
  exact kk T ω _ _ _ (R'.grow (GrP.new hn')) (e1.trans (Ext.of0 (gr.trans0 (GrP.new hn')))) (RR.back (m := .F) (fun b z => e1.gr.live b (gr.live b z)) (rf_new R'.spl hn' hrep)) hQ
end LW

namespace LW
open PySem PySem.Spec PyProof.Rows L2 GenW
/-! # generator defs as snippets have them; readings answered from the left -/
theorem okG {P : Program} {w : World} {K : PySem.W.Frag} {mg : Str → Option Value} {base : Heap} {x qual : Str} {params : Arguments} {body : List Stmt} {scope : Scope} {dvs : List V} {kws : List (Str × V)} {f : Addr} {fd : FuncData} {N ps : List Str} {k : Nat} {pf : PSpG} {q : QTGn}
    (F : FunD K x qual params body scope dvs kws f fd) (S : GScope N ps scope) (hnc : ∀ y ∈ scope.names, y.2 ≠ .cell) (len : ∀ ds ys fin, pf ds ys fin → ds.length = ps.length)
    (hb : ∀ (cdv : Value) (A : Around) (outer : List Env) (L : Nat) (fin : Option Exn), Room k (A.deeper (envOfC qual scope L f cdv)) → GSs1 (mkZ P w K mg base N qual scope f cdv A outer L fin) body q)
    (hq : ∀ ds ys fin, pf ds ys fin → q { nx := fun ys' _ => ys' = [] ∧ fin = none, rt := fun ys' => ys' = [] ∧ fin = none, ex := fun ys' x => ys' = [] ∧ fin = some x } ys (startP N ds)) : GFnZ P w K mg base (k + 1) f fd ps pf := by
  obtain ⟨oc, od, dV, kV, doc, pm, an, cdv, ct, osl, rfl, lk, hcd, _, _⟩ := F.ex
  exact gfnZ_of lk hcd S hnc len (fun A outer L fin hr => hb cdv A outer L fin hr) hq
/-- a for over a generator, as it is printed -/
theorem qs_forG' {X : Cx} {W : Wrl} {Wo : WX} {mr m : Md} {tg iter : Expr} {body : List Stmt} {pos : Pos} {k : Nat} {t : List Nat} {qg : QTGen W} {g : QTG} {s : QTS W} {K : PySem.W.Frag} (hK : X.K = K) (hp : PassesOwn (model X.prog X.w) X.A X.env X.xe) (hc : X.calm = true) (tk : L2N.Takes X Wo)
    (hgen : QGen X k W Wo iter qg) (hk : Room (k + 1) X.A) (hg : QG { X with xe := fun _ _ => False } m W tg t g)
    (hb : L2N.Takes { X with xe := fun _ _ => False } Wo0 → PassesOwn (model X.prog X.w) X.A X.env (fun _ _ => False) → QSs { X with xe := fun _ _ => False } mr W Wo0 body s) (hm : m.sta = true := by rfl)
    (hs : ∀ x, foldedSetIterable iter X.env x = pure x := by intro _; rfl) : QS X mr W Wo (.For tg iter body [] pos) (sForG K qg g s) := by
  subst hK
  exact qs_forG hp hc tk hk hgen hg (hb (fun u s' ⟨_, _, _, _, _, _, _, _, _, _, _, _, _, _, _, _, z⟩ => z.elim) PassesOwn.never) hm hs
theorem qe_listG' {X : Cx} {W : Wrl} {Wo : WX} {e : Expr} {p pos : Pos} {k : Nat} {qg : QTGen W} (hgen : QGen X k W Wo e qg) (hr : Room (k + 3) X.A) (hg : Gl X "list") (hmg : X.mg "list" = none)
    (he : starEach [e] X.env = (false, eval e X.env) :: starEach [] X.env := by rfl) : QE X .F W Wo (.Call (.Name "list" p) [e] [] pos) (qListG qg) := qe_listG hgen hr hg hmg he
/-! ### over a list or a tuple -/
def iAny {W : Wrl} (qa : QT W) : QTI W := fun ω ρ Q E => qa ω ρ (fun ω1 d => ∃ ds, (d = .lst ds ∨ d = .tup ds) ∧ Q ω1 ds) E
theorem pi_any {X : Cx} {tg l : Expr} {tl : TE} (hl : PE X l tl) : PI X tg l (fun σ H R => tl σ H fun v H1 => (∃ a, v = .ref a ∧ (∃ xs, SqL X.K H1 a xs) ∧ R (Itl X.K a) H1) ∨ (∃ a, v = .ref a ∧ (∃ xs, SqT X.K H1 a xs) ∧ R (Itt X.K a) H1)) := by
  refine ⟨fun pins s σ H R I h => ?_⟩
  refine thn (hl.run pins s σ H _ I h) fun v s1 ⟨x, H1, I1, r1, q1⟩ => ?_
  rcases q1 with ⟨a, e, ⟨xs, hq⟩, q⟩ | ⟨a, e, ⟨xs, hq⟩, q⟩
  · subst e
    cases r1
    obtain ⟨its, rv, p, hz⟩ := I1.list hq
    refine wpAny_pyIter_list p.isList ?_
    refine ⟨s1.heap.objs.size, [s1.heap.objs.size], _, _, H1, rfl, I1.kept (t' := s1.toks) fun b o e => Heap.get?_push_of_some _ e, turn_list a _, ⟨_, Heap.get?_push_size _ rfl, rfl, rfl⟩, fun b hb => ?_, q⟩
    have e : b = s1.heap.objs.size := by simpa using hb
    subst e
    exact I1.fpOk (Nat.le_refl _) (I1.hok.fresh (Nat.le_refl _))
  · subst e
    cases r1
    obtain ⟨its, rv, p, hz⟩ := I1.tuple hq
    refine wpAny_pyIter_tuple (show s1.heap.IsTuple a its.toArray from p) ?_
    refine ⟨s1.heap.objs.size, [s1.heap.objs.size], _, _, H1, rfl, I1.kept (t' := s1.toks) fun b o e => Heap.get?_push_of_some _ e, turn_tuple a _, ⟨_, Heap.get?_push_size _ rfl, rfl, rfl⟩, fun b hb => ?_, q⟩
    have e : b = s1.heap.objs.size := by simpa using hb
    subst e
    exact I1.fpOk (Nat.le_refl _) (I1.hok.fresh (Nat.le_refl _))
theorem qi_any {X : Cx} {W : Wrl} {Wo : WX} {m : Md} {tg a : Expr} {qa : QT W} (ha : QE X m W Wo a qa) (hm : m.st = true := by rfl) : QI X .A W Wo tg a (iAny qa) := PI.imp (pi_any ha) fun σ H Rj ⟨F, T, ω, ρ, Qp, Ep, R, q, hx, k⟩ =>
  ⟨F, T, ω, ρ, _, Ep, R, q, hx, fun T1 ω1 d v H1 R1 e1 r1 ⟨ds, z, q1⟩ => by
    rcases z with z | z
    · subst z
      have ra := r1.a hm
      obtain ⟨l, xs, rfl, hl, _⟩ := repA_lst ra
      refine .inl ⟨l, rfl, ⟨xs, hl⟩, k T1 ω1 [(.lst ds, .ref l)] ds _ H1 (R1.put fun p hp => ?_) e1 (fun F T ω ρ σ H hh R i => ?_) q1⟩
      · have : p = (.lst ds, .ref l) := by simpa using hp
        rw [this]; exact ra
      · obtain ⟨l', xs', e', hl', rr⟩ := repA_lst (R.hd _ (hh (.lst ds, .ref l) List.mem_cons_self))
        cases e'
        refine ⟨fun hi => ?_, fun hi => ⟨xs', hl', by rw [rr.len]; exact hi⟩, fun d x H2 hd hy => ?_⟩
        · obtain ⟨v, hv, _⟩ := rr.get (List.getElem?_eq_getElem hi)
          exact ⟨xs', v, hl', hv⟩
        · obtain ⟨z, hx⟩ := hy
          subst z
          obtain ⟨v, hv, rv⟩ := rr.get hd
          have := hx xs' hl'
          rw [hv] at this
          cases this
          exact ⟨GrP.refl _ _, rv⟩
    · subst z
      have ra := r1.a hm
      obtain ⟨l, xs, rfl, hl, _⟩ := repA_tup ra
      refine .inr ⟨l, rfl, ⟨xs, hl⟩, k T1 ω1 [(.tup ds, .ref l)] ds _ H1 (R1.put fun p hp => ?_) e1 (fun F T ω ρ σ H hh R i => ?_) q1⟩
      · have : p = (.tup ds, .ref l) := by simpa using hp
        rw [this]; exact ra
      · obtain ⟨l', xs', e', hl', rr⟩ := repA_tup (R.hd _ (hh (.tup ds, .ref l) List.mem_cons_self))
        cases e'
        refine ⟨fun hi => ?_, fun hi => ⟨xs', hl', by rw [rr.len]; exact hi⟩, fun d x H2 hd hy => ?_⟩
        · obtain ⟨v, hv, _⟩ := rr.get (List.getElem?_eq_getElem hi)
          exact ⟨xs', v, hl', hv⟩
        · obtain ⟨z, hx⟩ := hy
          subst z
          obtain ⟨v, hv, rv⟩ := rr.get hd
          have := hx xs' hl'
          rw [hv] at this
          cases this
          exact ⟨GrP.refl _ _, rv⟩⟩
section
variable {W : Wrl} {P : PEn W} {ω : W.Ω} {ρ : List Sl} {Q : W.Ω → D → Prop} {E : W.Ω → Exn → Prop} {QL : W.Ω → List D → Prop} {qa qo : QT W} {qs : QTA W} {s : QTS W} {d : D} {ds ys : List D} {g : QTG} {pf : PSpG} {C : Addr} {m : Str} {qg : QTGen W} {K : PySem.W.Frag} {fin : Option Exn} {QG : W.Ω → List D → Option Exn → Prop}
theorem v_iAny (h : qa ω ρ (fun ω1 d => ∃ ds, (d = .lst ds ∨ d = .tup ds) ∧ QL ω1 ds) E) : iAny qa ω ρ QL E := h
theorem v_forG (h : qg ω ρ (fun ω1 ys fin => kForG K g s P ω1 ρ ys fin) fun ω1 x => P.ex ω1 x ρ) : sForG K qg g s P ω ρ := h
theorem v_kForG (I : Nat → W.Ω → List Sl → Prop) (h0 : I 0 ω ρ) (hs : ∀ i d ω ρ, ys[i]? = some d → I i ω ρ → g d ρ fun ρ' => s { P with nx := I (i + 1), ct := I (i + 1), bk := P.nx, ex := fun _ _ _ => False } ω ρ') (hd : ∀ ω ρ, I ys.length ω ρ → P.nx ω ρ) : kForG K g s P ω ρ ys none :=
  ⟨(fun x hx => nomatch hx), I, h0, hs, hd⟩
theorem v_kForGX {x : Exn} (hn : PySem.W.subIn K (.ref x.C) (.type "StopIteration") = some false) (I : Nat → W.Ω → List Sl → Prop) (h0 : I 0 ω ρ) (hs : ∀ i d ω ρ, ys[i]? = some d → I i ω ρ → g d ρ fun ρ' => s { P with nx := I (i + 1), ct := I (i + 1), bk := P.nx, ex := fun _ _ _ => False } ω ρ') (hd : ∀ ω ρ, I ys.length ω ρ → P.ex ω x ρ) : kForG K g s P ω ρ ys (some x) :=
  ⟨(fun y hy => by cases hy; exact hn), I, h0, hs, hd⟩
theorem v_gmeth (h : qo ω ρ (fun ω1 d => kIns C m d (qs ω1 ρ (fun ω2 es => ∃ ys fin, pf (d :: es) ys fin ∧ QG ω2 ys fin) E)) E) : qGMeth C m pf qo qs ω ρ QG E := h
theorem v_gcall (h : qs ω ρ (fun ω1 es => ∃ ys fin, pf es ys fin ∧ QG ω1 ys fin) E) : qGCall pf qs ω ρ QG E := h
def kLG (fin : Option Exn) (ys : List D) (R : Prop) : Prop := fin = none ∧ ys.length ≤ 1000000 ∧ R
theorem v_kLG {R : Prop} (hl : ys.length ≤ 1000000) (h : R) : kLG none ys R := ⟨rfl, hl, h⟩
theorem v_listG (h : qg ω ρ (fun ω1 ys fin => kLG fin ys (Q ω1 (.lst ys))) E) : qListG qg ω ρ Q E := h
end
section
variable {P : PGn} {ρ : List Sl} {ys ds : List D} {q u : QTGn} {s : QTS W0} {qa : QT W0} {qi : QTI W0} {g : QTG} {d : D}
theorem v_gNx (h : P.nx ys ρ) : gNx P ys ρ := h
theorem v_gSeq (h : q { P with nx := u P } ys ρ) : gSeq q u P ys ρ := h
theorem v_gPl (h : s { nx := fun _ ρ => P.nx ys ρ, rt := fun _ d => d = .non ∧ P.rt ys, bk := fun _ ρ => P.bk ys ρ, ct := fun _ ρ => P.ct ys ρ, ex := fun _ x _ => P.ex ys x } () ρ) : gPl s P ys ρ := h
def kYd (P : PGn) (ys : List D) (ρ : List Sl) (d : D) : Prop := ∃ ys', ys = d :: ys' ∧ P.nx ys' ρ
theorem v_kYd (h : P.nx ys ρ) : kYd P (d :: ys) ρ d := ⟨ys, rfl, h⟩
theorem v_gYield (hv : allVa ρ = true) (h : qa () ρ (fun _ d => kYd P ys ρ d) fun _ x => P.ex ys x) : gYield qa P ys ρ := ⟨hv, h⟩
def kGFor (g : QTG) (q : QTGn) (P : PGn) (ys : List D) (ρ : List Sl) (ds : List D) : Prop := ∃ I : Nat → List D → List Sl → Prop, I 0 ys ρ ∧ (∀ k d ys ρ, ds[k]? = some d → I k ys ρ → g d ρ fun ρ' => q { P with nx := I (k + 1), ct := I (k + 1), bk := P.nx } ys ρ') ∧ ∀ ys ρ, I ds.length ys ρ → P.nx ys ρ
theorem v_kGFor (I : Nat → List D → List Sl → Prop) (h0 : I 0 ys ρ) (hs : ∀ k d ys ρ, ds[k]? = some d → I k ys ρ → g d ρ fun ρ' => q { P with nx := I (k + 1), ct := I (k + 1), bk := P.nx } ys ρ') (hd : ∀ ys ρ, I ds.length ys ρ → P.nx ys ρ) : kGFor g q P ys ρ ds := ⟨I, h0, hs, hd⟩
theorem v_gFor (h : qi () ρ (fun _ ds => kGFor g q P ys ρ ds) fun _ x => P.ex ys x) : gFor qi g q P ys ρ := h
end
end LW

namespace LW
open PySem PySem.Spec PyProof.Rows L2
/-! # more rules of the pure layer -/
def sDead {W : Wrl} : QTS W := fun _ _ _ => False
section
variable {X : Cx} {W : Wrl} {Wo : WX} {mr m m1 m2 : Md} {a b e o : Expr} {es : List Expr} {st : Stmt} {sts : List Stmt} {pos p apos : Pos} {qa qb qo : QT W} {qs : QTA W} {C D : Addr} {k : Bool}
theorem qs_dead : QS X mr W Wo st sDead := PS.imp ps_dead fun D σ H ⟨F, T, ω, ρ, P, R, q, S⟩ => q
theorem qss_dead : QSs X mr W Wo sts sDead := PSs.imp pss_dead fun D σ H ⟨F, T, ω, ρ, P, R, q, S⟩ => q
/-- isinstance(x, D), x an instance -/
def qIsO (C : Addr) (k : Bool) (qa : QT W) : QT W := fun ω ρ Q E => qa ω ρ (fun ω1 d => kObj C d (Q ω1 (.bl k))) E
theorem qe_isiO (I : IsiC X.K C) (hk : PySem.W.kitOne X.K (.ref C) (.ref D) = some k) (hg : Gl X "isinstance") (hm : X.mg "isinstance" = none) (ha : QE X m W Wo a qa) (hb : PE X b (tC (.ref D))) (h0 : starEach [a, b] X.env = (false, eval a X.env) :: starEach [b] X.env := by rfl) (h01 : starEach [b] X.env = (false, eval b X.env) :: starEach [] X.env := by rfl) (h2 : (backTo pos (starEach [b] X.env)).any (·.1) = false := by rfl) :
    QE X .A W Wo (.Call (.Name "isinstance" p) [a, b] [] pos) (qIsO C k qa) := PE.imp (pe_callB call_isi hg hm (by decide +kernel) (pa_cons ha (pa_cons hb pa_nil h01) h0) (by decide) (by decide) h0 h2) fun σ H Q ⟨F, T, ω, ρ, Qp, Ep, R, q, hx, kk⟩ =>
  ⟨F, T, ω, ρ, _, Ep, R, q, hx, fun T1 ω1 d v H1 R1 e1 r1 ⟨ns, ds, z, q1⟩ => by
    subst z
    obtain ⟨a, dx, xs, rfl, h1, ra⟩ := r1.c.insR
    exact w_isiO I h1 hk (kk T1 ω1 (.bl k) _ H1 R1 e1 (RepA.bl k) q1)⟩
theorem v_isiO' {ω : W.Ω} {ρ : List Sl} {Q : W.Ω → LW.D → Prop} {E : W.Ω → Exn → Prop} (h : qa ω ρ (fun ω1 d => kObj C d (Q ω1 (.bl k))) E) : qIsO C k qa ω ρ Q E := h
/-- isinstance(x, T), T built in -/
def kIsT (T : String) (d : LW.D) (R : Bool → Prop) : Prop := d.isIns = false ∧ ∃ b, kitB d.tyn T = some b ∧ R b
def qIsT (T : String) (qa : QT W) : QT W := fun ω ρ Q E => qa ω ρ (fun ω1 d => kIsT T d fun b => Q ω1 (.bl b)) E
theorem qe_isiT {T : String} (hg : Gl X "isinstance") (hm : X.mg "isinstance" = none) (ha : QE X m W Wo a qa) (hb : PE X b (tC (.ty T))) (h0 : starEach [a, b] X.env = (false, eval a X.env) :: starEach [b] X.env := by rfl) (h01 : starEach [b] X.env = (false, eval b X.env) :: starEach [] X.env := by rfl) (h2 : (backTo pos (starEach [b] X.env)).any (·.1) = false := by rfl) :
    QE X .A W Wo (.Call (.Name "isinstance" p) [a, b] [] pos) (qIsT T qa) := PE.imp (pe_callB call_isi hg hm (by decide +kernel) (pa_cons ha (pa_cons hb pa_nil h01) h0) (by decide) (by decide) h0 h2) fun σ H Q ⟨F, T0, ω, ρ, Qp, Ep, R, q, hx, kk⟩ =>
  ⟨F, T0, ω, ρ, _, Ep, R, q, hx, fun T1 ω1 d v H1 R1 e1 r1 ⟨hi, bb, hb, q1⟩ => w_isi r1.c.rep hi hb (kk T1 ω1 (.bl bb) _ H1 R1 e1 (RepA.bl bb) q1)⟩
theorem v_isT {T : String} {ω : W.Ω} {ρ : List Sl} {Q : W.Ω → LW.D → Prop} {E : W.Ω → Exn → Prop} (h : qa ω ρ (fun ω1 d => kIsT T d fun b => Q ω1 (.bl b)) E) : qIsT T qa ω ρ Q E := h
theorem v_kIsT {T : String} {d : LW.D} {R : Bool → Prop} {b : Bool} (h1 : d.isIns = false) (h2 : kitB d.tyn T = some b) (h : R b) : kIsT T d R := ⟨h1, b, h2, h⟩
/-- methods of tuples -/
def MtQ (m : Md) (K : PySem.W.Frag) (r : V → List V → Hp → VK → Prop) (f : LW.D → List LW.D → (LW.D → Prop) → Prop) : Prop := ∀ (S : ASet) (os : List Addr) (H : Hp) (d : LW.D) (ds : List LW.D) (v : V) (vs : List V) (Q : VK) (Qp : LW.D → Prop), (∀ a, S a → H a ≠ none) → RC K H S os d v → ROs .C K H S os ds vs → f d ds Qp →
  (∀ x u H', GrP nop H H' → RR m K H H' S os x u → Qp x → Q u H') → r v vs H Q
def qMt (f : LW.D → List LW.D → (LW.D → Prop) → Prop) (qo : QT W) (qs : QTA W) : QT W := fun ω ρ Q E => qo ω ρ (fun ω1 d => qs ω1 ρ (fun ω2 es => f d es (Q ω2)) E) E
def qMtT (f : LW.D → List LW.D → (LW.D → Prop) → Prop) (qo : QT W) (qs : QTA W) : QT W := fun ω ρ Q E => qo ω ρ (fun ω1 d => ∃ ds, d = .tup ds ∧ qs ω1 ρ (fun ω2 es => f d es (Q ω2)) E) E
def qMtL (f : LW.D → List LW.D → (LW.D → Prop) → Prop) (qo : QT W) (qs : QTA W) : QT W := fun ω ρ Q E => qo ω ρ (fun ω1 d => ∃ ds, d = .lst ds ∧ qs ω1 ρ (fun ω2 es => f d es (Q ω2)) E) E
theorem RO.tupX {K : PySem.W.Frag} {H : Hp} {S : ASet} {os : List Addr} {ds : List LW.D} {v : V} (h : RO K H S os (.tup ds) v) : ∃ l xs, v = .ref l ∧ TupX H l xs ∧ RepsA K H S ds xs := h.tup
theorem qe_bmT {name : Str} {id : String} {r : V → List V → Hp → VK → Prop} {f : LW.D → List LW.D → (LW.D → Prop) → Prop} (slot : Slot "tuple" name id) (hty : typeOf (.builtin id) = pure (.type "method_descriptor")) (hm : MtR X id r) (hp : MtQ .A X.K r f) (ho : QE X m1 W Wo o qo) (ha : QA X .C W Wo (e :: es) qs) (hmo : m1.ow = true := by rfl)
    (hbase : attributeBase o name X.env (eval o X.env) = eval o X.env := by rfl)
    (hfew : ((backTo pos (starEach (e :: es) X.env)).all (fun x => !x.1) && (backToKw pos (keywordEach [] X.env)).all (fun x => x.1.isSome)
      && decide ((e :: es).length + ([] : List Keyword).length + (if ([] : List Keyword).isEmpty then 0 else 1) < 30)) = true := by rfl)
    (hline : (apos.endLine == pos.line) = true := by rfl) (hs : starEach (e :: es) X.env = (false, eval e X.env) :: starEach es X.env := by rfl) (hplain : (backTo pos (starEach es X.env)).any (·.1) = false := by rfl) :
    QE X .A W Wo (.Call (.Attribute o name apos) (e :: es) [] pos) (qMtT f qo qs) := PE.imp (pe_bmX slot hty hm ho ha hbase hfew hline hs hplain) fun σ H Q ⟨F, T, ω, ρ, Qp, Ep, R, q, hx, kk⟩ =>
  ⟨F, T, ω, ρ, _, Ep, R, q, hx, fun T1 ω1 d v H1 R1 e1 r1 ⟨ds, z, q1⟩ => by
    subst z
    obtain ⟨l, xs, rfl, ⟨ob, h1, hd⟩, hr⟩ := (r1.o hmo).tup
    exact ⟨⟨l, xs, rfl, ob, h1, hd⟩, F, T1, ω1, ρ, _, Ep, R1, q1, hx, fun T2 ω2 es' vs H2 R2 e2 r2 q2 => hp _ _ H2 _ es' _ vs Q _ R2.spl (R1.ext_RC e2 r1.c) r2 q2 fun x u H' g rr qq => kk T2 ω2 x u H' (R2.grow g) ((e1.trans e2).trans (Ext.of0 g)) rr qq⟩⟩
theorem qe_bmL {name : Str} {id : String} {r : V → List V → Hp → VK → Prop} {f : LW.D → List LW.D → (LW.D → Prop) → Prop} (slot : Slot "list" name id) (hty : typeOf (.builtin id) = pure (.type "method_descriptor")) (hm : MtR X id r) (hp : MtQ .A X.K r f) (ho : QE X m1 W Wo o qo) (ha : QA X .C W Wo (e :: es) qs)
    (hbase : attributeBase o name X.env (eval o X.env) = eval o X.env := by rfl)
    (hfew : ((backTo pos (starEach (e :: es) X.env)).all (fun x => !x.1) && (backToKw pos (keywordEach [] X.env)).all (fun x => x.1.isSome)
      && decide ((e :: es).length + ([] : List Keyword).length + (if ([] : List Keyword).isEmpty then 0 else 1) < 30)) = true := by rfl)
    (hline : (apos.endLine == pos.line) = true := by rfl) (hs : starEach (e :: es) X.env = (false, eval e X.env) :: starEach es X.env := by rfl) (hplain : (backTo pos (starEach es X.env)).any (·.1) = false := by rfl) :
    QE X .A W Wo (.Call (.Attribute o name apos) (e :: es) [] pos) (qMtL f qo qs) := PE.imp (pe_bm PySem.F.plainAttrs_list slot hty hm ho ha hbase hfew hline hs hplain) fun σ H Q ⟨F, T, ω, ρ, Qp, Ep, R, q, hx, kk⟩ =>
  ⟨F, T, ω, ρ, _, Ep, R, q, hx, fun T1 ω1 d v H1 R1 e1 r1 ⟨ds, z, q1⟩ => by
    subst z
    obtain ⟨l, xs, rfl, hl, hr, _⟩ := r1.c.lst
    exact ⟨.inl ⟨rfl, xs, hl⟩, F, T1, ω1, ρ, _, Ep, R1, q1, hx, fun T2 ω2 es' vs H2 R2 e2 r2 q2 => hp _ _ H2 _ es' _ vs Q _ R2.spl (R1.ext_RC e2 r1.c) r2 q2 fun x u H' g rr qq => kk T2 ω2 x u H' (R2.grow g) ((e1.trans e2).trans (Ext.of0 g)) rr qq⟩⟩
theorem v_mtT {f : LW.D → List LW.D → (LW.D → Prop) → Prop} {ω : W.Ω} {ρ : List Sl} {Q : W.Ω → LW.D → Prop} {E : W.Ω → Exn → Prop} (h : qo ω ρ (fun ω1 d => ∃ ds, d = .tup ds ∧ qs ω1 ρ (fun ω2 es => f d es (Q ω2)) E) E) : qMtT f qo qs ω ρ Q E := h
theorem v_mtL {f : LW.D → List LW.D → (LW.D → Prop) → Prop} {ω : W.Ω} {ρ : List Sl} {Q : W.Ω → LW.D → Prop} {E : W.Ω → Exn → Prop} (h : qo ω ρ (fun ω1 d => ∃ ds, d = .lst ds ∧ qs ω1 ρ (fun ω2 es => f d es (Q ω2)) E) E) : qMtL f qo qs ω ρ Q E := h
/-- x.index(k) of ints -/
def fIndexT (d : LW.D) (es : List LW.D) (Q : LW.D → Prop) : Prop := ∃ (ns : List Int) (z : Int), d = .tup (dInts ns) ∧ es = [.int z] ∧ z ∈ ns ∧ Q (.int (ns.idxOf z : Nat))
def fIndexL (d : LW.D) (es : List LW.D) (Q : LW.D → Prop) : Prop := ∃ (ns : List Int) (z : Int), d = .lst (dInts ns) ∧ es = [.int z] ∧ z ∈ ns ∧ Q (.int (ns.idxOf z : Nat))
theorem tindexP {K : PySem.W.Frag} : MtQ .A K (rIndexT K) fIndexT := fun S os H d ds v vs Q Qp hS r rs ⟨ns, z, hd, he, hz, h⟩ k => by
  subst he hd
  obtain ⟨w, rfl, rw'⟩ := rs.one
  obtain ⟨l, xs, rfl, hl, hr⟩ := r.tup
  rw [hr.ints] at hl
  exact ⟨l, ns, z, rfl, by rw [rw'.c.int], hl, hz, k _ _ H (GrP.refl _ _) (RepA.int _) h⟩
theorem lindexP {K : PySem.W.Frag} : MtQ .A K (rIndex K) fIndexL := fun S os H d ds v vs Q Qp hS r rs ⟨ns, z, hd, he, hz, h⟩ k => by
  subst he hd
  obtain ⟨w, rfl, rw'⟩ := rs.one
  obtain ⟨l, xs, rfl, hl, hr, _⟩ := r.lst
  rw [hr.ints] at hl
  rw [rw'.c.int]
  exact w_indexL hl hz (k _ _ H (GrP.refl _ _) (RepA.int _) h)
theorem v_tindex {ns : List Int} {z : Int} {Q : LW.D → Prop} (hz : z ∈ ns) (h : Q (.int (ns.idxOf z : Nat))) : fIndexT (.tup (dInts ns)) [.int z] Q := ⟨ns, z, rfl, rfl, hz, h⟩
theorem v_lindex {ns : List Int} {z : Int} {Q : LW.D → Prop} (hz : z ∈ ns) (h : Q (.int (ns.idxOf z : Nat))) : fIndexL (.lst (dInts ns)) [.int z] Q := ⟨ns, z, rfl, rfl, hz, h⟩
/-- sorted -/
def fSorted (ds : List LW.D) (Q : LW.D → Prop) : Prop := ∃ ns : List Int, (ds = [.lst (dInts ns)] ∨ ds = [.tup (dInts ns)]) ∧ ns.length < 64 ∧ ∀ ns' : List Int, ns'.Perm ns → ns'.Pairwise (· ≤ ·) → Q (.lst (dInts ns'))
theorem sortedP {K : PySem.W.Frag} : CaP .C .F K (rSortedA K) fSorted := fun S os H ds vs Q Qp hS r ⟨ns, hd, h64, h⟩ k => by
  rcases hd with rfl | rfl
  · obtain ⟨v, rfl, rv⟩ := r.one
    obtain ⟨l, xs, rfl, hl, hr, _⟩ := rv.c.lst
    rw [hr.ints] at hl
    exact ⟨l, ns, rfl, .inl hl, h64, fun ns' p h1 h2 hp => k _ _ _ (GrP.new hp) (rf_new hS hp (repsA_ints ns')) (h ns' h1 h2)⟩
  · obtain ⟨v, rfl, rv⟩ := r.one
    obtain ⟨l, xs, rfl, hl, hr⟩ := rv.c.tup
    rw [hr.ints] at hl
    exact ⟨l, ns, rfl, .inr hl, h64, fun ns' p h1 h2 hp => k _ _ _ (GrP.new hp) (rf_new hS hp (repsA_ints ns')) (h ns' h1 h2)⟩
theorem v_sorted {ns : List Int} {Q : LW.D → Prop} (h64 : ns.length < 64) (h : ∀ ns' : List Int, ns'.Perm ns → ns'.Pairwise (· ≤ ·) → Q (.lst (dInts ns'))) : fSorted [.lst (dInts ns)] Q := ⟨ns, .inl rfl, h64, h⟩
/-- a constant of a class -/
def qCv (v : LW.D) (qa : QT W) : QT W := fun ω ρ Q E => qa ω ρ (fun ω1 d => ∃ C, d = .adr C ∧ Q ω1 v) E
end
end LW

namespace LW
open PySem PySem.Spec PyProof.Rows L2
/-! # exceptions, in a suite -/
/-- isinstance(e, C): e the exception that the suite holds, its dict told -/
def rIsX (K : PySem.W.Frag) (a : Addr) (cls : Value) (d : Option Addr) : List V → Hp → VK → Prop := fun xs H Q => ∃ (D C : Addr) (b : Bool), cls = .ref D ∧ (d = none ∨ ∃ dd fs, d = some dd ∧ H dd = some (.xd fs)) ∧ ExcC K D ∧ xs = [.ref a, .ref C] ∧ PySem.W.kitOne K (.ref D) (.ref C) = some b ∧ Q (.bl b) H
theorem cr_isX {X : Cx} {a : Addr} {oe : Obj} {cls : Value} {d : Option Addr} {pn : List (Addr × Obj)} (hz : L2N.Zn cls d oe) (hf : ∃ vs, oe.data = .fields vs) : CallR (X.suite a ((a, oe) :: pn)) (.builtin "isinstance") (rIsX X.K a cls d) := by
  intro pins s σ H xs us Q I r h
  obtain ⟨D, C, b, e1, hd, hC, e3, hk, q⟩ := h
  subst e1 e3
  cases r with
  | cons rx rr =>
    cases rr with
    | cons rt rr =>
      cases rr
      obtain rfl : _ = Value.ref a := rx
      obtain rfl : _ = Value.ref C := rt
      obtain ⟨hget, _⟩ := I.pin (a, oe) (List.mem_append.mpr (.inl List.mem_cons_self))
      obtain ⟨vs, hv⟩ := hf
      have J : ∃ od, PySem.W.InstAt s.heap a oe D od := by
        have nc : PySem.W.notCls oe := by unfold PySem.W.notCls; rw [hv] <;> rfl
        rcases hd with hd | ⟨dd, fs, hd, hh⟩
        · subst hd
          exact ⟨none, hget, hz.1, nc, by rw [hz.2.1]; trivial⟩
        · subst hd
          obtain ⟨mA, hns, _⟩ := (I.hok dd _ hh : ObjOk X.prog X.w H s.heap dd (.xd fs))
          obtain ⟨od, ho, _⟩ := lookIn_ns hns
          exact ⟨some od, hget, hz.1, nc, by rw [hz.2.1]; exact ho⟩
      obtain ⟨od, J⟩ := J
      have hcl : (PySem.W.clsIn X.K D).isSome = true := by
        obtain ⟨cd, hc, _⟩ := PySem.W.any_some hC.hd
        rw [hc] <;> rfl
      exact PySem.W.kia_one (PySem.W.kitx_exc hcl hC.hg hC.hk hC.hs hC.ha hC.hn hC.ht hC.hm) I.kIn J hk (fun z => nomatch z) fun tk => ⟨.bl b, H, I.kept (t' := tk) fun _ _ z => z, rfl, q⟩
theorem hotc {X : Cx} {a : Addr} {oe : Obj} {cls : Value} {d : Option Addr} {pn : List (Addr × Obj)} (hz : L2N.Zn cls d oe) (hf : ∃ vs, oe.data = .fields vs) : L2H.HotC (X.suite a ((a, oe) :: pn)) := by
  obtain ⟨vs, e⟩ := hf
  exact ⟨(a, oe), ⟨rfl, vs, e, hz.2.2 vs e⟩, List.mem_cons_self⟩
theorem passN {X : Cx} (σ : L2.St) : PassesAt (L2N.CX X.prog X.w) X σ (WE Wo0 σ) := fun _ _ _ e s' I c => by
  obtain ⟨_, _, _, _, _, _, _, _, _, _, _, _, z⟩ := c
  exact z.elim
section
variable {X : Cx} {W : Wrl} {Wo : WX} {a C : Addr} {oe : Obj} {d : Option Addr} {pn : List (Addr × Obj)} {x : Exn} {i : Nat} {e b : Expr} {p pos : Pos}
theorem XDict.cs {K : PySem.W.Frag} {H : Hp} {x : Exn} {d : Option Addr} (h : XDict K H x d) : d = none ∨ ∃ dd fs, d = some dd ∧ H dd = some (.xd fs) := by
  unfold XDict at h
  split at h
  · exact .inl h
  · obtain ⟨a, v, e, hh, _⟩ := h
    exact .inr ⟨a, _, e, hh⟩
/-- in a suite: isinstance(e, C) -/
theorem qe_isE {K : PySem.W.Frag} (hK : X.K = K) {oe : Obj} (hz : L2N.Zn (.ref x.C) d oe) (hf : ∃ vs, oe.data = .fields vs) (hg : Gl X "isinstance") (hm : X.mg "isinstance" = none) (ha : PE (X.suite a ((a, oe) :: pn)) e (tVar i)) (hb : PE (X.suite a ((a, oe) :: pn)) b (tC (.ref C)))
    (h0 : starEach [e, b] X.env = (false, eval e X.env) :: starEach [b] X.env := by rfl) (h01 : starEach [b] X.env = (false, eval b X.env) :: starEach [] X.env := by rfl) (h2 : (backTo pos (starEach [b] X.env)).any (·.1) = false := by rfl) :
    QE (X.suite a ((a, oe) :: pn)) .A W Wo (.Call (.Name "isinstance" p) [e, b] [] pos) (qIsE K i x a d C) := by
  subst hK
  refine PE.imp (pe_callB (cr_isX hz hf) hg hm (by decide +kernel) (pa_cons ha (pa_cons hb pa_nil h01) h0) (by decide) (by decide) h0 h2) fun σ H Q ⟨F, T, ω, ρ, Qp, Ep, R, ⟨hi, hC, k, hk, q⟩, hx, kk⟩ => ?_
  obtain ⟨hs, xd⟩ := R.sl.get_ex hi
  exact ⟨.ref a, hs, x.C, C, k, rfl, xd.cs, hC, rfl, hk, kk T ω (.bl k) _ H R .refl (RepA.bl k) q⟩
/-- in a suite: e.f -/
def qFldE (i : Nat) (x : Exn) (a : Addr) (d : Option Addr) (C : Addr) (n : Str) : QT W := fun ω ρ Q _ => ρ[i]? = some (.ex a d x) ∧ x.C = C ∧ ∃ y, x.f = some (n, y) ∧ Q ω y
theorem qe_fldE {oe : Obj} {n : Str} (T : XfC X.K C) (hno : PySem.W.findIn X.K (.ref C) n = some none) (hz : L2N.Zn (.ref x.C) d oe) (hf : ∃ vs, oe.data = .fields vs) (he : PE (X.suite a ((a, oe) :: pn)) e (tVar i)) (hb : attributeBase e n X.env (eval e X.env) = eval e X.env := by rfl) :
    QE (X.suite a ((a, oe) :: pn)) .A W Wo (.Attribute e n pos) (qFldE i x a d C n) := PE.imp (pe_xf (pos := pos) T hno hz.zc hf he hb) fun σ H Q ⟨F, T, ω, ρ, Qp, Ep, R, ⟨hi, hc, y, hy, q⟩, hx, kk⟩ => by
  obtain ⟨hs, xd⟩ := R.sl.get_ex hi
  unfold XDict at xd
  rw [hy] at xd
  obtain ⟨dd, v, hd, hh, rv⟩ := xd
  refine ⟨.ref a, hs, rfl, by rw [hc], dd, _, v, hd, hh, by simp [List.lookup], kk T ω y v H R .refl (rv.less fun _ _ => trivial) q⟩
/-- in a suite: f(..) -/
theorem qe_callH {mr : Md} {k : Nat} {f : Addr} {fd : FuncData} {ps : List Str} {fx : Str} {es : List Expr} {pf : PSp W} {qs : QTA W} (F : L2H.FnH X.prog X.w X.K X.mg X.base (L2N.CX X.prog X.w) k f fd ps (spM mr X.K W pf)) (hr : L2H.RoomH k X.A) (hc : L2H.HotC X) (hg : Gl X fx) (hm : X.mg fx = some (.ref f)) (hk : PySem.W.keepIn X.K (.ref f) = true) (hb : Binds X.K fd ps []) (hx : ∀ σ, PassesAt (L2N.CX X.prog X.w) X σ (WE Wo σ))
    (ha : QA X .A W Wo (e :: es) qs) (hdb : (fx == ("__debug__" : Str)) = false := by decide) (he : starEach (e :: es) X.env = (false, eval e X.env) :: starEach es X.env := by rfl) (hpl : (backTo pos (starEach es X.env)).any (·.1) = false := by rfl) :
    QE X mr W Wo (.Call (.Name fx p) (e :: es) [] pos) (qCall pf qs) := PE.imp (L2H.pe_callH F hr hc hg hm hk hb hx ha hdb he hpl) fun σ H Q ⟨F, T, ω, ρ, Qp, Ep, R, q, hx, k⟩ =>
  ⟨F, T, ω, ρ, _, Ep, R, q, hx, fun T1 ω1 ds vs H1 R1 e1 r1 q1 => sp_at R1 e1 hx r1.reps q1 k⟩
end
theorem v_isE {K : PySem.W.Frag} {W : Wrl} {i : Nat} {x : Exn} {a C : Addr} {d : Option Addr} {k : Bool} {ω : W.Ω} {ρ : List Sl} {Q : W.Ω → D → Prop} {E : W.Ω → Exn → Prop} (hi : ρ[i]? = some (.ex a d x)) (hC : ExcC K x.C) (hk : PySem.W.kitOne K (.ref x.C) (.ref C) = some k) (h : Q ω (.bl k)) : qIsE K i x a d C ω ρ Q E := ⟨hi, hC, k, hk, h⟩
theorem v_fldE {W : Wrl} {i : Nat} {x : Exn} {a C : Addr} {d : Option Addr} {n : Str} {y : D} {ω : W.Ω} {ρ : List Sl} {Q : W.Ω → D → Prop} {E : W.Ω → Exn → Prop} (hi : ρ[i]? = some (.ex a d x)) (hc : x.C = C) (hy : x.f = some (n, y)) (h : Q ω y) : qFldE i x a d C n ω ρ Q E := ⟨hi, hc, y, hy, h⟩
/-- the clause that takes it: the first, another -/
theorem v_hd {K : PySem.W.Frag} {W : Wrl} {C : Addr} {i : Nat} {u : Exn → Addr → Option Addr → QTS W} {r : Cls3 W} {P : PEn W} {ω : W.Ω} {x : Exn} {ρ : List Sl} (hm : PySem.W.exmOne K (.ref x.C) (.ref C) = some true) (h : ∀ a dd, u x a dd (endsNP i P) ω (ρ.set i (.ex a dd x))) : hsel K ((C, some i, u) :: r) P ω x ρ := ⟨true, hm, h⟩
theorem v_hdN {K : PySem.W.Frag} {W : Wrl} {C : Addr} {u : Exn → Addr → Option Addr → QTS W} {r : Cls3 W} {P : PEn W} {ω : W.Ω} {x : Exn} {ρ : List Sl} (hm : PySem.W.exmOne K (.ref x.C) (.ref C) = some true) (h : ∀ a dd, u x a dd (noEx P) ω ρ) : hsel K ((C, none, u) :: r) P ω x ρ := ⟨true, hm, h⟩
theorem v_hdF {K : PySem.W.Frag} {W : Wrl} {C : Addr} {o : Option Nat} {u : Exn → Addr → Option Addr → QTS W} {r : Cls3 W} {P : PEn W} {ω : W.Ω} {x : Exn} {ρ : List Sl} (hm : PySem.W.exmOne K (.ref x.C) (.ref C) = some false) (h : hsel K r P ω x ρ) : hsel K ((C, o, u) :: r) P ω x ρ := ⟨false, hm, h⟩
/-- a def called within an except suite -/
theorem okTH {P : Program} {w : World} {K : PySem.W.Frag} {mg : Str → Option Value} {base : Heap} {x qual : Str} {params : Arguments} {body : List Stmt} {scope : Scope} {dvs : List V} {kws : List (Str × V)} {f : Addr} {fd : FuncData} {N ps : List Str} {k : Nat} {sp : Sp}
    (F : FunD K x qual params body scope dvs kws f fd) (S : FnScope N ps scope) (len : ∀ vs H Q E, sp vs H Q E → vs.length = ps.length)
    (hbody : ∀ (cdv : Value) (A : Around) (outer : List Env) (s : Shared) (H : Hp) (vs : List V) (Q : VK) (E : XK) (p : Addr × Obj), L2H.Hot1 A p → L2H.RoomH k (A.deeper (envOfC qual scope s.heap.objs.size f cdv)) → sp vs H Q E →
      L2N.Takes (L2H.cxH (L2N.CX P w) P w K mg base N qual scope f cdv A outer s H E p) (fun cls d _ H' => E cls d H') →
      PassesOwn (model P w) (L2H.cxH (L2N.CX P w) P w K mg base N qual scope f cdv A outer s H E p).A (L2H.cxH (L2N.CX P w) P w K mg base N qual scope f cdv A outer s H E p).env (L2H.cxH (L2N.CX P w) P w K mg base N qual scope f cdv A outer s H E p).xe →
      ∃ t, PSs (L2H.cxH (L2N.CX P w) P w K mg base N qual scope f cdv A outer s H E p) body t ∧ t { nx := fun _ H' => Q .non H', rt := Q } (start N vs) H) : L2H.FnH P w K mg base (L2N.CX P w) (k + 1) f fd ps sp := by
  obtain ⟨oc, od, dV, kV, doc, pm, an, cdv, ct, osl, rfl, lk, hcd, _, _⟩ := F.ex
  exact L2H.fn_ofH lk hcd S len fun A outer s H vs Q E p hot hr hsp => hbody cdv A outer s H vs Q E p hot hr hsp (L2N.takes_of rfl rfl rfl rfl) (passes_of rfl)
theorem FnH_imp {P : Program} {w : World} {K : PySem.W.Frag} {mg : Str → Option Value} {base : Heap} {CX : CXT} {k : Nat} {f : Addr} {fd : FuncData} {ps : List Str} {sp sp' : Sp} (F : L2H.FnH P w K mg base CX k f fd ps sp) (h : ∀ vs H Q E, sp' vs H Q E → sp vs H Q E) : L2H.FnH P w K mg base CX k f fd ps sp' :=
  ⟨fun vs H Q E q => F.len vs H Q E (h vs H Q E q), fun A outer s H args us vs Q E p hr hot hpin e0 hb r q => F.run A outer s H args us vs Q E p hr hot hpin e0 hb r (h vs H Q E q)⟩
def xfB2 (K : PySem.W.Frag) (C : Addr) (n : Str) : Bool := xfB K C && decide (PySem.W.findIn K (.ref C) n = some none)
theorem xfB2_ok {K : PySem.W.Frag} {C : Addr} {n : Str} (h : xfB2 K C n = true) : XfC K C ∧ PySem.W.findIn K (.ref C) n = some none := by
  obtain ⟨h1, h2⟩ := Bool.and_eq_true_iff.mp h
  exact ⟨xfB_ok h1, of_decide_eq_true h2⟩
theorem FnH.inW {P : Program} {w : World} {K : PySem.W.Frag} {mg : Str → Option Value} {base : Heap} {CX : CXT} {k : Nat} {f : Addr} {fd : FuncData} {ps : List Str} {mr : Md} {pf : PSp W0} (F : L2H.FnH P w K mg base CX k f fd ps (spM mr K W0 pf)) (W : Wrl) : L2H.FnH P w K mg base CX k f fd ps (spM mr K W (inW W pf)) := FnH_imp F fun _ _ _ _ h => spM_inW h
theorem roomH_s {k : Nat} {A : Around} {o : Option Value} (r : Room k A) : L2H.RoomH k (A.mark o) := ⟨by have := r.dp; show A.depth + 3 * k + 5 < recursionLimit; omega, by have := r.un; show A.units + 16 * k + 200 < cLine; omega⟩
end LW

namespace LW
open PySem PySem.Spec PyProof.Rows L2
/-! # texts -/
def dStrs (ys : List Str) : List D := ys.map D.str
theorem repsA_strs {K : PySem.W.Frag} {H : Hp} {S : ASet} : ∀ ys : List Str, RepsA K H S (dStrs ys) (ys.map V.str)
  | [] => .nil
  | n :: ns => .cons (.str n) (repsA_strs ns)
theorem RepsA.strs {K : PySem.W.Frag} {H : Hp} {S : ASet} : ∀ {ys : List Str} {vs : List V}, RepsA K H S (dStrs ys) vs → vs = ys.map V.str
  | [], _, .nil => rfl
  | _ :: _, _, .cons (.str _) r => congrArg _ (RepsA.strs r)
/-- constant tuples of the text -/
def valB : V → Value → Bool
  | .int i, .int j _ => decide (i = j)
  | .str a, .str b _ => decide (a = b)
  | _, _ => false
def valsB : List V → List Value → Bool
  | [], [] => true
  | v :: vs, u :: us => valB v u && valsB vs us
  | _, _ => false
theorem valB_ok {v : V} {u : Value} (h : valB v u = true) : RelV v u := by
  cases v <;> cases u <;> first | (cases h; done) | skip
  · rename_i i j t
    have e : i = j := of_decide_eq_true h
    subst e
    exact ⟨t, rfl⟩
  · rename_i i j t
    have e : i = j := of_decide_eq_true h
    subst e
    exact ⟨t, rfl⟩
theorem valsB_ok : ∀ {vs : List V} {us : List Value}, valsB vs us = true → Vals vs us
  | [], [], _ => .nil
  | [], _ :: _, h => by cases h
  | _ :: _, [], h => by cases h
  | v :: vs, u :: us, h => by
    obtain ⟨h1, h2⟩ := Bool.and_eq_true_iff.mp h
    exact .cons (valB_ok h1) (valsB_ok h2)
def ctB (K : PySem.W.Frag) (x : Str) (vs : List V) : Bool := match K.lookup (He.ga K x) with
  | some ⟨.type "tuple", none, .seq its _, _⟩ => decide (its.size ≤ sizeLine) && valsB vs its.toList
  | _ => false
theorem ctB_ok {K : PySem.W.Frag} {x : Str} {vs : List V} (h : ctB K x vs = true) : ∀ H : Hp, SqT K H (He.ga K x) vs := fun H => by
  unfold ctB at h
  split at h
  · rename_i its n sl e
    obtain ⟨h1, h2⟩ := Bool.and_eq_true_iff.mp h
    exact .inr ⟨_, its, n, e, rfl, rfl, of_decide_eq_true h1, valsB_ok h2⟩
  · cases h
section
variable {X : Cx} {W : Wrl} {Wo : WX} {m m1 m2 : Md} {e o : Expr} {pos apos p : Pos} {qo qe : QT W}
/-- o.m(e), o a text -/
def SmP (m : Md) (K : PySem.W.Frag) (r : V → List V → Hp → VK → Prop) (f : D → D → (D → Prop) → Prop) : Prop := ∀ (S : ASet) (os : List Addr) (H : Hp) (a : Str) (y : D) (w : V) (Q : VK) (Qp : D → Prop), (∀ a, S a → H a ≠ none) → RC K H S os y w → f (.str a) y Qp → (∀ x u H', GrP nop H H' → RR m K H H' S os x u → Qp x → Q u H') → r (.str a) [w] H Q
def qSm (f : D → D → (D → Prop) → Prop) (qo qe : QT W) : QT W := fun ω ρ Q E => qo ω ρ (fun ω1 x => ∃ a, x = .str a ∧ qe ω1 ρ (fun ω2 y => f (.str a) y (Q ω2)) E) E
theorem qe_sm {id : String} {name : Str} {r : V → List V → Hp → VK → Prop} {f : D → D → (D → Prop) → Prop} (slot : Slot "str" name id) (ty : typeOf (.builtin id) = pure (.type "method_descriptor")) (rule : MtR X id r) (hp : SmP m X.K r f) (ho : QE X m1 W Wo o qo) (he : QE X m2 W Wo e qe)
    (hs : starEach [e] X.env = [(false, eval e X.env)] := by rfl) (hbase : attributeBase o name X.env (eval o X.env) = eval o X.env := by rfl) (hline : (apos.endLine == pos.line) = true := by rfl) :
    QE X m W Wo (.Call (.Attribute o name apos) [e] [] pos) (qSm f qo qe) := PE.imp (pe_m1 slot ty rule ho he hs hbase hline) fun σ H Q ⟨F, T, ω, ρ, Qp, Ep, R, q, hx, k⟩ =>
  ⟨F, T, ω, ρ, _, Ep, R, q, hx, fun T1 ω1 d v H1 R1 e1 r1 ⟨a, z, q1⟩ => by
    subst z
    rw [r1.c.str]
    exact ⟨⟨a, rfl⟩, F, T1, ω1, ρ, _, Ep, R1, q1, hx, fun T2 ω2 y w H2 R2 e2 r2 q2 => hp _ _ H2 a y w Q _ R2.spl r2.c q2 fun x u H' g rr qq => k T2 ω2 x u H' (R2.grow g) ((e1.trans e2).trans (Ext.of0 g)) (RR.back (fun a z => (e1.trans e2).gr.live a z) rr) qq⟩⟩
/-! the methods -/
def fSplit : D → D → (D → Prop) → Prop
  | .str a, .str b, Q => b.length ≠ 0 ∧ a.length + 2 ≤ sizeLine ∧ Q (.lst (dStrs (Txt.split a b)))
  | _, _, _ => False
theorem splitP {K : PySem.W.Frag} : SmP .F K (fun x xs H Q => ∃ a b, x = .str a ∧ xs = [.str b] ∧ (b.length == 0) = false ∧ a.length + 2 ≤ sizeLine ∧ rNewStrs (Txt.split a b) H Q) fSplit := fun S os H a y w Q Qp hS ry h k => by
  unfold fSplit at h
  split at h
  · rename_i e
    cases e
    rw [ry.str]
    refine ⟨_, _, rfl, rfl, ?_, h.2.1, fun p hp => k _ _ _ (GrP.new hp) (rf_new hS hp (repsA_strs _)) h.2.2⟩
    exact beq_eq_false_iff_ne.mpr h.1
  · exact h.elim
def fEnds : D → D → (D → Prop) → Prop
  | .str a, .str b, Q => Q (.bl (Txt.endswith a b))
  | _, _, _ => False
theorem endsP {K : PySem.W.Frag} : SmP .A K (fun x xs H Q => ∃ a b, x = .str a ∧ xs = [.str b] ∧ Q (.bl (Txt.endswith a b)) H) fEnds := fun S os H a y w Q Qp hS ry h k => by
  unfold fEnds at h
  split at h
  · rename_i e
    cases e
    rw [ry.str]
    exact ⟨_, _, rfl, rfl, k _ _ H (GrP.refl _ _) (.bl _) h⟩
  · exact h.elim
def fRemS : D → D → (D → Prop) → Prop
  | .str a, .str b, Q => a.length ≤ sizeLine ∧ Q (.str (Txt.removesuffix a b))
  | _, _, _ => False
theorem remSP {K : PySem.W.Frag} : SmP .A K (fun x xs H Q => ∃ a b, x = .str a ∧ xs = [.str b] ∧ a.length ≤ sizeLine ∧ Q (.str (Txt.removesuffix a b)) H) fRemS := fun S os H a y w Q Qp hS ry h k => by
  unfold fRemS at h
  split at h
  · rename_i e
    cases e
    rw [ry.str]
    exact ⟨_, _, rfl, rfl, h.1, k _ _ H (GrP.refl _ _) (.str _) h.2⟩
  · exact h.elim
def fJoin (x y : D) (Q : D → Prop) : Prop := ∃ (a : Str) (ys : List Str), x = .str a ∧ (y = .lst (dStrs ys) ∨ y = .tup (dStrs ys)) ∧ (ys.map (·.length)).sum + ys.length * a.length ≤ 16777216 ∧ Q (.str (Txt.join a ys))
theorem joinP {K : PySem.W.Frag} : SmP .A K (fun x xs H Q => ∃ a p, ∃ ys : List Str, x = .str a ∧ xs = [.ref p] ∧ (SqL K H p (ys.map V.str) ∨ SqT K H p (ys.map V.str)) ∧ (ys.map (·.length)).sum + ys.length * a.length ≤ 16777216 ∧ Q (.str (Txt.join a ys)) H) fJoin := fun S os H a y w Q Qp hS ry ⟨a', ys, e, hy, hl, h⟩ k => by
  cases e
  rcases hy with rfl | rfl
  · obtain ⟨l, xs, rfl, hs, hr, _⟩ := ry.lst
    rw [hr.strs] at hs
    exact ⟨_, l, ys, rfl, rfl, .inl hs, hl, k _ _ H (GrP.refl _ _) (.str _) h⟩
  · obtain ⟨l, xs, rfl, hs, hr⟩ := ry.tup
    rw [hr.strs] at hs
    exact ⟨_, l, ys, rfl, rfl, .inr hs, hl, k _ _ H (GrP.refl _ _) (.str _) h⟩
/-- str(an int) -/
def fStrI : List D → (D → Prop) → Prop
  | [.int i], Q => i.natAbs.log2 < 1920 ∧ Q (.str (toString i))
  | _, _ => False
def rStrI : List V → Hp → VK → Prop := fun xs H Q => ∃ i, xs = [.int i] ∧ i.natAbs.log2 < 1920 ∧ Q (.str (toString i)) H
theorem cr_strI {X : Cx} : CallR X (.type "str") rStrI := call_str_int
theorem strIP {K : PySem.W.Frag} : CaP .C .A K rStrI fStrI := fun S os H ds vs Q Qp hS r h k => by
  unfold fStrI at h
  split at h
  · obtain ⟨v, rfl, rv⟩ := r.one
    rw [rv.c.int]
    exact ⟨_, rfl, h.1, k _ _ H (GrP.refl _ _) (RepA.str _) h.2⟩
  · exact h.elim
end
section
variable {W : Wrl} {f : D → D → (D → Prop) → Prop} {qo qe : QT W} {ω : W.Ω} {ρ : List Sl} {Q : W.Ω → D → Prop} {E : W.Ω → Exn → Prop} {Q1 : D → Prop} {a b : Str} {i : Int}
theorem v_sm (h : qo ω ρ (fun ω1 x => ∃ a, x = .str a ∧ qe ω1 ρ (fun ω2 y => f (.str a) y (Q ω2)) E) E) : qSm f qo qe ω ρ Q E := h
theorem v_exs {R : Str → Prop} (h : R a) : ∃ b, D.str a = .str b ∧ R b := ⟨a, rfl, h⟩
theorem v_split (h1 : b.length ≠ 0) (h2 : a.length + 2 ≤ sizeLine) (h : Q1 (.lst (dStrs (Txt.split a b)))) : fSplit (.str a) (.str b) Q1 := ⟨h1, h2, h⟩
theorem v_ends (h : Q1 (.bl (Txt.endswith a b))) : fEnds (.str a) (.str b) Q1 := h
theorem v_remS (h1 : a.length ≤ sizeLine) (h : Q1 (.str (Txt.removesuffix a b))) : fRemS (.str a) (.str b) Q1 := ⟨h1, h⟩
theorem v_joinL {ys : List Str} (h1 : (ys.map (·.length)).sum + ys.length * a.length ≤ 16777216) (h : Q1 (.str (Txt.join a ys))) : fJoin (.str a) (.lst (dStrs ys)) Q1 := ⟨a, ys, rfl, .inl rfl, h1, h⟩
theorem v_joinT {ys : List Str} (h1 : (ys.map (·.length)).sum + ys.length * a.length ≤ 16777216) (h : Q1 (.str (Txt.join a ys))) : fJoin (.str a) (.tup (dStrs ys)) Q1 := ⟨a, ys, rfl, .inr rfl, h1, h⟩
theorem v_strI (h1 : i.natAbs.log2 < 1920) (h : Q1 (.str (toString i))) : fStrI [.int i] Q1 := ⟨h1, h⟩
theorem any_strs {x : Str} : ∀ {ys : List Str}, ((dStrs ys).any fun y => y.same (.str x)) = decide (x ∈ ys)
  | [] => rfl
  | y :: ys => by
    show (decide (y = x) || (dStrs ys).any fun y => y.same (.str x)) = _
    rw [any_strs (ys := ys)]
    by_cases h : y = x
    · have h1 : x ∈ y :: ys := by rw [h]; exact List.mem_cons_self
      rw [decide_eq_true h, decide_eq_true h1] <;> rfl
    · rw [decide_eq_false h, Bool.false_or]
      by_cases h2 : x ∈ ys
      · have h1 : x ∈ y :: ys := List.mem_cons_of_mem _ h2
        rw [decide_eq_true h2, decide_eq_true h1]
      · have h1 : ¬ x ∈ y :: ys := fun z => (List.mem_cons.mp z).elim (fun q => h q.symm) h2
        rw [decide_eq_false h2, decide_eq_false h1]
theorem flat_strs : ∀ ys : List Str, (dStrs ys).all D.flat = true
  | [] => rfl
  | _ :: ys => flat_strs ys
theorem v_inTS {x : Str} {ys : List Str} (h : Q1 (.bl (decide (x ∈ ys)))) : fIn false (.str x) (.tup (dStrs ys)) Q1 := ⟨dStrs ys, .inr rfl, rfl, flat_strs ys, by rw [any_strs]; exact h⟩
theorem v_inLS {x : Str} {ys : List Str} (h : Q1 (.bl (decide (x ∈ ys)))) : fIn false (.str x) (.lst (dStrs ys)) Q1 := ⟨dStrs ys, .inl rfl, rfl, flat_strs ys, by rw [any_strs]; exact h⟩
theorem length_dStrs (ys : List Str) : (dStrs ys).length = ys.length := by unfold dStrs; rw [List.length_map]
theorem dStrs_append (a b : List Str) : dStrs a ++ dStrs b = dStrs (a ++ b) := by unfold dStrs; rw [List.map_append]
theorem dStrs_one (a : Str) : [D.str a] = dStrs [a] := rfl
theorem atI_strs {ys : List Str} {k : Nat} {y : Str} (h : ys[k]? = some y) : atI (dStrs ys) k = some (.str y) := by
  refine atI_of (by omega) ?_
  unfold dStrs
  rw [List.getElem?_map, Int.toNat_natCast, h] <;> rfl
theorem atI_lastS {ys : List Str} (h : ys ≠ []) : atI (dStrs ys) (-1) = some (.str (ys.getLastD "")) := by
  have hl : 0 < ys.length := List.length_pos_iff.mpr h
  have e : ixN (dStrs ys).length (-1) = some (ys.length - 1) := by
    unfold ixN
    rw [if_neg (by decide), if_pos (by rw [length_dStrs]; omega), length_dStrs]
    congr 1
    omega
  unfold atI
  rw [e]
  show (dStrs ys)[ys.length - 1]? = _
  unfold dStrs
  rw [List.getElem?_map, ← List.getLast?_eq_getElem?, List.getLastD_eq_getLast?]
  cases q : ys.getLast? with
  | none => exact absurd (List.getLast?_eq_none_iff.mp q) h
  | some y => rfl
theorem lev_strs (ys : List Str) (n : Nat) : (dStrs ys).all (D.lev n) = true := by
  rw [List.all_eq_true]
  intro d hd
  obtain ⟨i, _, rfl⟩ := List.mem_map.mp hd
  cases n <;> rfl
theorem lev_tupS {ys : List Str} (h : ys.length ≤ 1000000) : (D.tup (dStrs ys)).lev 8 = true := Bool.and_eq_true_iff.mpr ⟨decide_eq_true (by rw [length_dStrs]; exact h), lev_strs ys 7⟩
theorem lev_lstS {ys : List Str} (h : ys.length ≤ 1000000) : (D.lst (dStrs ys)).lev 8 = true := Bool.and_eq_true_iff.mpr ⟨decide_eq_true (by rw [length_dStrs]; exact h), lev_strs ys 7⟩
end
end LW

namespace LW
open PySem PySem.Spec PyProof.Rows L2
/-! # an __init__ in the pure layer: the instance at x as a world, its state the fields so far -/
def yes : ASet := fun _ => True
theorem putF_new {f : Str} {v : V} : ∀ {fs : List (Str × V)}, f ∉ fs.map (·.1) → putF f v fs = fs ++ [(f, v)]
  | [], _ => rfl
  | (g, x) :: r, h => by
    have h1 : g ≠ f := fun z => h (by rw [z]; exact List.mem_cons_self)
    show (if g = f then _ else (g, x) :: putF f v r) = _
    rw [if_neg h1, putF_new (fs := r) fun z => h (List.mem_cons_of_mem _ z)] <;> rfl
theorem zip_self {α β : Type} : ∀ l : List (α × β), (l.map (·.1)).zip (l.map (·.2)) = l
  | [] => rfl
  | (a, b) :: l => by
    show (a, b) :: (l.map (·.1)).zip (l.map (·.2)) = _
    rw [zip_self l]
theorem zip_fst {α β : Type} : ∀ {a : List α} {b : List β}, a.length = b.length → (a.zip b).map (·.1) = a
  | [], _, _ => by simp
  | x :: a, [], h => by cases h
  | x :: a, y :: b, h => by
    show x :: (a.zip b).map (·.1) = _
    rw [zip_fst (Nat.succ.inj h)]
theorem zip_snd {α β : Type} : ∀ {a : List α} {b : List β}, a.length = b.length → (a.zip b).map (·.2) = b
  | [], [], _ => rfl
  | [], _ :: _, h => by cases h
  | x :: a, [], h => by cases h
  | x :: a, y :: b, h => by
    show y :: (a.zip b).map (·.2) = _
    rw [zip_snd (Nat.succ.inj h)]
theorem reps_app {K : PySem.W.Frag} {H : Hp} {S : ASet} : ∀ {ds : List D} {vs : List V} {d : D} {v : V}, RepsA K H S ds vs → RepA K H S d v → RepsA K H S (ds ++ [d]) (vs ++ [v])
  | _, _, _, _, .nil, r => .cons r .nil
  | _, _, _, _, .cons h t, r => .cons h (reps_app t r)
def invM (K : PySem.W.Frag) (x C dx : Addr) (ω : List (Str × D)) (T : ASet) (H : Hp) : Prop := (∀ y, T y ↔ (y = x ∧ imm (ω.map (·.1)) = false)) ∧ ∃ fs : List (Str × V), H x = some (.ins C dx fs) ∧ fs.map (·.1) = ω.map (·.1) ∧ RepsA K H yes (ω.map (·.2)) (fs.map (·.2))
@[reducible] def WM (K : PySem.W.Frag) (x C dx : Addr) : Wrl where
  Ω := List (Str × D)
  inv := invM K x C dx
  st := by
    intro ω T U H H' ⟨h1, fs, h2, h3, h4⟩ g hU
    refine ⟨h1, fs, g.keep _ _ h2 ?_, h3, h4.ext g (fun _ _ => .inl trivial) fun _ _ => .inl trivial⟩
    cases e : imm (ω.map (·.1)) with
    | true =>
      refine .inl ?_
      show imm (fs.map (·.1)) = true
      rw [h3]; exact e
    | false => exact .inr fun u => hU x u ((h1 x).mpr ⟨rfl, e⟩)
  lv := by
    intro ω T H a ⟨h1, fs, h2, h3, h4⟩ t
    obtain ⟨rfl, e⟩ := (h1 a).mp t
    exact ⟨_, h2, by show imm (fs.map (·.1)) = false; rw [h3]; exact e⟩
section
variable {X : Cx} {x C dx : Addr} {Wo : WX} {mr : Md} {o e : Expr} {f : Str} {i : Nat} {pos p' : Pos} {K : PySem.W.Frag}
/-- self.f = e -/
def sFset (x : Addr) (i : Nat) (f : Str) (qa : QT (WM K x C dx)) : QTS (WM K x C dx) := fun P ω ρ => qa ω ρ (fun ω1 d => ρ[i]? = some (.va (.adr x)) ∧ d.pure = true ∧ f ∉ ω1.map (·.1) ∧ imm (ω1.map (·.1)) = false ∧ ω1.length < 1000 ∧ P.nx (ω1 ++ [(f, d)]) ρ) fun ω1 y => P.ex ω1 y ρ
theorem qs_fset {qa : QT (WM K x C dx)} (hK : X.K = K) (c : Cls K C) (n : NoAttr K C f) (he : QE X .A (WM K x C dx) Wo e qa) (ho : PE X o (tVar i)) (hs : swapsWith e (some (.Attribute o f p')) pos.line X.env = pure false := by rfl) :
    QS X mr (WM K x C dx) Wo (.Assign [.Attribute o f p'] e pos) (sFset x i f qa) := by
  subst hK
  refine PS.imp (ps_fld ho he hs) fun D σ H ⟨F, T, ω, ρ, P, R, q, S⟩ => ⟨F, T, ω, ρ, _, _, R, q, S.xok, fun T1 ω1 d v H1 R1 e1 r1 ⟨hi, hp, hf, him, hl, q1⟩ => ?_⟩
  obtain ⟨h1, fs, h2, h3, h4⟩ := R1.inv
  obtain ⟨u, hu, ru⟩ := R1.sl.get_va hi
  cases ru
  have hlen : fs.length = ω1.length := by have := congrArg List.length h3; rwa [List.length_map, List.length_map] at this
  refine ⟨.ref x, hu, x, C, dx, fs, rfl, h2, c, n, by omega, ?_⟩
  rw [putF_new (by rw [h3]; exact hf)]
  have tx : T1 x := (h1 x).mpr ⟨rfl, him⟩
  have g : GrP T1 H1 (upd H1 x (.ins C dx (fs ++ [(f, v)]))) := GrP.wr tx fun u hu => by
    rw [h2] at hu
    cases hu
    show imm (fs.map (·.1)) = false
    rw [h3]; exact him
  have ex : Ext T1 H1 (fun y => y = x ∧ imm ((ω1 ++ [(f, d)]).map (·.1)) = false) (upd H1 x (.ins C dx (fs ++ [(f, v)]))) := ⟨g, fun a z => .inl (by rw [z.1]; exact tx)⟩
  refine S.nx _ (ω1 ++ [(f, d)]) ρ σ _ (R1.world ex ⟨fun y => Iff.rfl, _, upd_same, ?_, ?_⟩) q1
  · rw [List.map_append, List.map_append, h3] <;> rfl
  · rw [List.map_append, List.map_append]
    have a1 : RepsA X.K (upd H1 x (.ins C dx (fs ++ [(f, v)]))) yes (ω1.map (·.2)) (fs.map (·.2)) := h4.ext g (fun _ _ => .inl trivial) fun _ _ => .inl trivial
    have a2 : RepA X.K (upd H1 x (.ins C dx (fs ++ [(f, v)]))) yes d v := ((show RepA X.K H1 _ d v from r1).any (S' := yes) hp).ext g (fun _ _ => .inl trivial) fun _ _ => .inl trivial
    exact reps_app a1 a2
/-- what an __init__ promises, told by what stands at the end -/
def pfM (K : PySem.W.Frag) (C : Addr) (pf : PSp W0) (x dx : Addr) : PSp (WM K x C dx) := fun ω ds Q E => ω = [] ∧ ∃ args, ds = .adr x :: args ∧ pf () args (fun _ d => ∀ ns es, d = .ins C ns es → ns.length = es.length → imm ns = true → Q (ns.zip es) .non) fun _ y => ∀ ω', E ω' y
def spMk (K : PySem.W.Frag) (C : Addr) (pf : PSp W0) : Sp := fun vs H Q E => ∃ x dx : Addr, spM .A K (WM K x C dx) (pfM K C pf x dx) vs H Q E
theorem FnOk_mk {P : Program} {w : World} {mg : Str → Option Value} {base : Heap} {CX : CXT} {k : Nat} {g : Addr} {fd : FuncData} {ps : List Str} {pf : PSp W0} (h : ∀ x dx : Addr, FnOk P w K mg base CX k g fd ps (spM .A K (WM K x C dx) (pfM K C pf x dx))) : FnOk P w K mg base CX k g fd ps (spMk K C pf) :=
  ⟨fun vs H Q E ⟨x, dx, q⟩ => (h x dx).len vs H Q E q, fun A outer s H args us vs Q E hr e0 hb r ⟨x, dx, q⟩ => (h x dx).run A outer s H args us vs Q E hr e0 hb r q⟩
def Mono (pf : PSp W0) : Prop := ∀ (ds : List D) (Q Q' : Unit → D → Prop) (E E' : Unit → Exn → Prop), pf () ds Q E → (∀ d, Q () d → Q' () d) → (∀ y, E () y → E' () y) → pf () ds Q' E'
theorem mkp_of {pf : PSp W0} (hm : Mono pf) : MkP K C (spMk K C pf) pf where
  run := by
    intro S T ds vs H Q E Qp Ep hS r q k kx x dx nx ndx ne
    have mx : mkHp H x dx C x = some (.ins C dx []) := upd_same
    have g0 : GrP nop H (mkHp H x dx C) := ((Gr.made (C := C) nx ndx).p0)
    refine ⟨x, dx, S, (fun y => y = x), [], .adr x :: ds, fun ω' d => d = .non ∧ imm (ω'.map (·.1)) = true ∧ Qp () (.ins C (ω'.map (·.1)) (ω'.map (·.2))), fun _ y => Ep () y, fun a s => ⟨fun z => hS a s (g0.live a z), fun z => hS a s (by rw [z]; exact nx)⟩, ⟨fun y => ⟨fun z => ⟨z, by decide⟩, fun z => z.1⟩, [], mx, rfl, .nil⟩, .cons (.adr x) (r.ext g0 (fun _ z => z.elim) fun a z => z.imp id fun z => by rw [z]; exact nx), ⟨rfl, ds, rfl, hm ds Qp _ Ep _ q (fun d hd ns es e hl hi => ?_) fun y hy _ => hy⟩, ?_, ?_⟩
    · subst e
      exact ⟨rfl, by rw [zip_fst hl]; exact hi, by rw [zip_fst hl, zip_snd hl]; exact hd⟩
    · intro T' ω' d v H' ex hi rt ⟨ed, him, hq⟩
      subst ed
      obtain ⟨h1, fs, h2, h3, h4⟩ := hi
      have hv : v = .non := RC.non (os := []) (.inl (.inl (show RepA K H' _ .non v from rt)))
      refine ⟨hv, k (.ins C (ω'.map (·.1)) (ω'.map (·.2))) (.ref x) H' ⟨fun a u hu _ => ex.gr.keep a u (g0.keep a u hu (.inr fun z => z)) (.inr fun z => ?_), fun a z => g0.live a (ex.gr.live a z)⟩ (.ins (dx := dx) (xs := fs.map (·.2)) ?_ him (by rw [List.length_map, List.length_map]) (h4.less fun _ _ => trivial)) hq⟩
      · rw [z] at hu
        rw [nx] at hu
        cases hu
      · rw [← h3, zip_self]; exact h2
    · intro T' ω' y cls dd H' ex hi xr hy
      refine kx y cls dd H' ⟨fun a u hu _ => ex.gr.keep a u (g0.keep a u hu (.inr fun z => z)) (.inr fun z => ?_), fun a z => g0.live a (ex.gr.live a z)⟩ xr hy
      rw [z] at hu
      rw [nx] at hu
      cases hu
end
section
variable {K : PySem.W.Frag} {x C dx : Addr} {f : Str} {i : Nat} {qa : QT (WM K x C dx)} {P : PEn (WM K x C dx)} {ω : List (Str × D)} {ρ : List Sl} {d : D}
def kFset (x : Addr) (i : Nat) (f : Str) (P : PEn (WM K x C dx)) (ρ : List Sl) (ω1 : List (Str × D)) (d : D) : Prop := ρ[i]? = some (.va (.adr x)) ∧ d.pure = true ∧ f ∉ ω1.map (·.1) ∧ imm (ω1.map (·.1)) = false ∧ ω1.length < 1000 ∧ P.nx (ω1 ++ [(f, d)]) ρ
theorem v_fset (h : qa ω ρ (fun ω1 d => kFset x i f P ρ ω1 d) fun ω1 y => P.ex ω1 y ρ) : sFset x i f qa P ω ρ := h
theorem v_kFset (h1 : ρ[i]? = some (.va (.adr x))) (h2 : d.pure = true) (h3 : f ∉ ω.map (·.1)) (h4 : imm (ω.map (·.1)) = false) (h5 : ω.length < 1000) (h : P.nx (ω ++ [(f, d)]) ρ) : kFset x i f P ρ ω d := ⟨h1, h2, h3, h4, h5, h⟩
end
end LW

namespace LW
open PySem PySem.Spec PyProof.Rows L2
/-! # enumerate over a list or a tuple, from any number on -/
def SqB (K : PySem.W.Frag) : Bool → Hp → Addr → List V → Prop
  | true, H, a, xs => SqT K H a xs
  | false, H, a, xs => SqL K H a xs
def IterB : Bool → Heap → Addr → Addr → Nat → Prop
  | true, h, it, a, i => h.IsTupleIter it a i
  | false, h, it, a, i => h.IsListIter it a i
def SeqB : Bool → Heap → Addr → Array Value → Prop
  | true, h, a, its => h.IsTuple a its
  | false, h, a, its => h.IsList a its
theorem IterB.ob {b : Bool} {h : Heap} {it a : Addr} {i : Nat} (x : IterB b h it a i) : ∃ o vs, h.get? it = some o ∧ o.data = .fields vs := by
  cases b with
  | true => obtain ⟨o, ho, _, hd⟩ := (x : h.IsTupleIter it a i); exact ⟨o, _, ho, hd⟩
  | false => obtain ⟨o, ho, _, hd⟩ := (x : h.IsListIter it a i); exact ⟨o, _, ho, hd⟩
theorem IterB.at {b : Bool} {h h' : Heap} {it a : Addr} {i : Nat} (x : IterB b h it a i) (k : ∀ o, h.get? it = some o → h'.get? it = some o) : IterB b h' it a i := by
  cases b with
  | true => obtain ⟨o, ho, r⟩ := (x : h.IsTupleIter it a i); exact ⟨o, k o ho, r⟩
  | false => obtain ⟨o, ho, r⟩ := (x : h.IsListIter it a i); exact ⟨o, k o ho, r⟩
theorem SeqB.ob {b : Bool} {h : Heap} {a : Addr} {its : Array Value} (x : SeqB b h a its) : ∃ o n, h.get? a = some o ∧ o.data = .seq its n := by
  cases b with
  | true => obtain ⟨o, ho, _, n, hd⟩ := (x : h.IsTuple a its); exact ⟨o, n, ho, hd⟩
  | false => obtain ⟨o, ho, _, n, hd⟩ := (x : h.IsList a its); exact ⟨o, n, ho, hd⟩
theorem SeqB.at {b : Bool} {h h' : Heap} {a : Addr} {its : Array Value} (x : SeqB b h a its) (k : ∀ o, h.get? a = some o → h'.get? a = some o) : SeqB b h' a its := by
  cases b with
  | true => obtain ⟨o, ho, r⟩ := (x : h.IsTuple a its); exact ⟨o, k o ho, r⟩
  | false => obtain ⟨o, ho, r⟩ := (x : h.IsList a its); exact ⟨o, k o ho, r⟩
theorem drawsB {prog : Program} {w : World} {A : Around} (b : Bool) (hh : A.handled = none) (it a : Addr) (hne : a ≠ it) (its : Array Value) : Draws prog w A it [it, a] its.size (fun i v => its[i]? = some v) (fun i h => IterB b h it a i ∧ SeqB b h a its) := by
  cases b with
  | true => exact Draws.tuple hh it a hne its
  | false => exact Draws.list hh it a hne its
/-- at its end, wherever that is -/
theorem drawsE {prog : Program} {w : World} {A : Around} (b : Bool) (hh : A.handled = none) (it a : Addr) (its : Array Value) (i : Nat) (hn : its[i]? = none) : Draws prog w A it [it, a] i (fun _ _ => True) (fun j h => j = i ∧ IterB b h it a i ∧ SeqB b h a its) where
  live := fun _ _ st => let ⟨o, _, ho, _⟩ := st.2.1.ob; ⟨o, ho⟩
  frame := fun _ _ _ st hk => ⟨st.1, st.2.1.at fun o e => hk it (by simp) o e, st.2.2.at fun o e => hk a (by simp) o e⟩
  item := fun j s Q E hj st _ => absurd st.1 (by omega)
  done := fun s Q E st hE => by
    cases b with
    | true => exact wpAny_nextOf_tuple_end hh st.2.1 st.2.2 hn hE
    | false => exact wpAny_nextOf_list_end hh st.2.1 st.2.2 hn hE
section
variable {X : Cx} {pins : List (Addr × Obj)} {σ : L2.St} {H : Hp} {s : Shared} {a : Addr} {xs ys : List V} {b : Bool}
theorem seqB (I : Inv X pins σ H s) (h : SqB X.K b H a xs) : ∃ its : List Value, Vals xs its ∧ SeqB b s.heap a its.toArray := by
  cases b with
  | true => obtain ⟨its, r, p, _⟩ := I.tuple h; exact ⟨its, r, p⟩
  | false => obtain ⟨its, r, p, _⟩ := I.list h; exact ⟨its, r, p.isList⟩
theorem injB (I : Inv X pins σ H s) (h : SqB X.K b H a xs) (h' : SqB X.K b H a ys) : xs = ys := by
  cases b with
  | true => exact I.tuple_inj h h'
  | false => exact I.list_inj h h'
end
def ItB (K : PySem.W.Frag) (b : Bool) (a : Addr) (k0 : Int) : It :=
  ⟨fun i H => ∃ (xs : List V) (x : V), SqB K b H a xs ∧ xs[i]? = some x, fun i H v H' => ∃ T x, v = .ref T ∧ H T = none ∧ H' = upd H T (.tup [.int (k0 + (i : Nat)), x]) ∧ ∀ xs, SqB K b H a xs → xs[i]? = some x, fun i H => ∃ xs : List V, SqB K b H a xs ∧ xs.length ≤ i⟩
theorem enum_apart {h : Heap} {e it : Addr} {c : Int} {old : Value} {a : Addr} {its : Array Value} {b : Bool} (he : IsEnum h e it c old) (p : SeqB b h a its) : a ≠ e := fun z => by
  obtain ⟨o, n, ho, hd⟩ := p.ob
  subst z
  have he' : h.get? a = some _ := he
  rw [ho] at he'
  cases he'
  cases hd
theorem iter_apart {h : Heap} {it a : Addr} {i : Nat} {its : Array Value} {b : Bool} (x : IterB b h it a i) (p : SeqB b h a its) : a ≠ it := fun z => by
  obtain ⟨o, n, ho, hd⟩ := p.ob
  obtain ⟨o', vs, ho', hd'⟩ := x.ob
  rw [z, ho'] at ho
  cases ho
  rw [hd'] at hd
  cases hd
theorem turn_enumB {P : Program} {w : World} {K : PySem.W.Frag} {elts : List Expr} {kk : Nat} {tpos : Pos} (b : Bool) (a e it : Addr) (k0 : Int) :
    Turn P w K (.Tuple elts kk tpos) (ItB K b a k0) [e, it] e (fun i h => (∃ old, IsEnum h e it (k0 + ((i : Nat) : Int)) old) ∧ IterB b h it a i ∧ e ≠ it) where
  mem := by simp
  obj := fun i h st c hc => by
    obtain ⟨⟨old, he⟩, x, _⟩ := st
    have z : c = e ∨ c = it := by simpa using hc
    rcases z with z | z
    · subst z; exact ⟨_, he, fun v q => nomatch q⟩
    · subst z
      obtain ⟨o, vs, ho, hd⟩ := x.ob
      exact ⟨o, ho, fun v q => by rw [hd] at q; cases q⟩
  keep := fun i h h' st k => let ⟨⟨old, he⟩, hi, hne⟩ := st; ⟨⟨old, k e (by simp) _ he⟩, hi.at fun o q => k it (by simp) o q, hne⟩
  item := by
    intro X hP hw hK hc i pins s σ H E I hf st hg
    subst hP hw hK
    obtain ⟨⟨old, he⟩, hit, hne⟩ := st
    obtain ⟨xs, x, hq, hx⟩ := hg
    obtain ⟨its, rv, p⟩ := seqB I hq
    obtain ⟨u, hu, ru⟩ := rv.get hx
    have hi : i < its.toArray.size := by
      have := (List.getElem?_eq_some_iff.mp hu).1
      simpa using this
    have n1 := enum_apart he p
    have n2 := iter_apart hit p
    have hel : e < s.heap.objs.size := Heap.lt_size he
    have hil : it < s.heap.objs.size := by obtain ⟨_, _, q, _⟩ := hit.ob; exact Heap.lt_size q
    refine wpAny_pyNext_enum_itemC (drawsB (A := X.A.in1) b (show X.A.in1.handled = none from I.ok.hd hc) it a n2 its.toArray) he ⟨hit, p⟩ hi hne (by simp [hne, Ne.symm n1]) fun v h' tk hv ho st' hT hsz hk => ?_
    have hvu : v = u := by
      have hv' : its.toArray[i]? = some v := hv
      rw [List.getElem?_toArray, hu] at hv'
      exact (Option.some.inj hv').symm
    subst hvu
    refine ⟨_, rfl, wpAny_letOwnedTupleGo_enum (s := { s with heap := h', toks := tk + 1 }) ho fun h'' he' sb => ?_⟩
    have hT2 := (sb.2 _ (Nat.ne_of_gt hel)).trans hT
    have new : ObjOk X.prog X.w (upd H s.heap.objs.size (.tup [.int (k0 + (i : Nat)), x])) h'' s.heap.objs.size (.tup [.int (k0 + (i : Nat)), x]) :=
      ⟨by show 2 ≤ sizeLine; decide, [.int (k0 + (i : Nat)) tk, v], .cons ⟨_, rfl⟩ (.cons ru .nil), ⟨_, hT2, rfl, _, rfl⟩⟩
    have I1 : Inv X pins σ (upd H s.heap.objs.size (.tup [.int (k0 + (i : Nat)), x])) { s with heap := h'', toks := tk + 1 } :=
      I.turnedNew (ch := [e, it]) (fun c ob hb q => (sb.2 c (fun z => hb (by simp [z]))).trans (hk c ob (fun z => hb (by simp [z])) (fun z => hb (by simp [z])) q)) hf (Nat.le_refl _) new
    refine ⟨.ref s.heap.objs.size, _, I1, rfl, ⟨_, x, rfl, I.hok.fresh (Nat.le_refl _), rfl, fun ys hy => by rw [injB I hy hq]; exact hx⟩, ⟨⟨v, ?_⟩, st'.1.at fun o q => (sb.2 it (Ne.symm hne)).trans q, hne⟩, fun c hc => ?_⟩
    · have e1 : k0 + ((i + 1 : Nat) : Int) = k0 + (i : Int) + 1 := by omega
      rw [e1]; exact he'
    · have lt : c < s.heap.objs.size := by
        have z : c = e ∨ c = it := by simpa using hc
        rcases z with z | z
        · rw [z]; exact hel
        · rw [z]; exact hil
      rw [upd_ne (Nat.ne_of_lt lt)]
      exact (hf c hc).1
  done := by
    intro X hP hw hK hc i pins s σ H E I hf st hg
    subst hP hw hK
    obtain ⟨⟨old, he⟩, hit, hne⟩ := st
    obtain ⟨xs, hq, hx⟩ := hg
    obtain ⟨its, rv, p⟩ := seqB I hq
    obtain ⟨f0, f1, f2, f3, f4, f5⟩ := hf it (by simp)
    have hl := rv.length
    exact wpAny_pyNext_enum_endD (drawsE (A := X.A.in1) b (show X.A.in1.handled = none from I.ok.hd hc) it a its.toArray i (by simp; omega)) he ⟨rfl, hit, p⟩ fun h' eb => ⟨rfl, I.turned (t' := s.toks) (fun c o hb q => eb c o hb q) f0 f1 f3 f4 f5⟩
  self := fun A i s Q E st h => let ⟨⟨_, he⟩, _⟩ := st; wpAny_pyIter_enum he h
/-! ### made of one argument -/
theorem enum_new1 {v : Value} {o : Obj} {J : Heap → Prop} (B : Begins v o J) : Meets (Builtin.«enumerate.__new__» ⟨[.type "enumerate", v], []⟩) (fun _ R s => J s.heap ∧
    R (.ok (.ret (.ref (s.heap.push o).objs.size))) { s with heap := (s.heap.push o).push { cls := .type "enumerate", data := .fields #[.none, .bool false, .ref s.heap.objs.size, rawInt 0, .none, .none] } }) :=
  .of_wp fun prog w A R s h => by
    obtain ⟨hp, g, d, tk, os⟩ := s; obtain ⟨h1, h⟩ := h
    have hsub := sub_enumerate
    have q1 : ∀ {A' : Around} {E : Value → Shared → Prop} {Q : Value → Shared → Prop}, Q (.ref hp.objs.size) ⟨hp.push o, g, d, tk, os⟩ → wpAny (model prog w) A' (pyIter v) Q E ⟨hp, g, d, tk, os⟩ :=
      fun q => B.iter prog w _ _ ⟨hp, g, d, tk, os⟩ _ h1 q
    wp_walk using q1
    refine wpAny_stack_any fun st => wpAny_pure ?_
    split
    · rename_i c _ _ _ _ _
      cases (c == Value.type "enumerate")
      · wp_walk using q1
        exact ⟨_, rfl, h⟩
      · wp_walk using q1
        exact ⟨_, rfl, h⟩
    · wp_walk using q1
      exact ⟨_, rfl, h⟩
def itOb : Bool → Addr → Obj
  | true, a => { cls := .type "tuple_iterator", data := .fields #[.ref a, .int 0 0] }
  | false, a => { cls := .type "list_iterator", data := .fields #[.ref a, .int 0 0] }
theorem beginsB (b : Bool) (a : Addr) (its : Array Value) : Begins (.ref a) (itOb b a) fun h => SeqB b h a its := by
  cases b with
  | true => exact begins_tuple a its
  | false => exact begins_list a its
theorem iterB_of {b : Bool} {h : Heap} {it a : Addr} (e : h.get? it = some (itOb b a)) : IterB b h it a 0 := by
  cases b with
  | true => exact ⟨_, e, rfl, rfl⟩
  | false => exact ⟨_, e, rfl, rfl⟩
theorem call_enumB {prog : Program} {w : World} {A : Around} {E : Value → Shared → Prop} {s : Shared} {b : Bool} {a : Addr} {its : Array Value} {Q : Value → Shared → Prop} (hs : SeqB b s.heap a its)
    (h : ∀ h', IsEnum h' (s.heap.objs.size + 1) s.heap.objs.size 0 .none → IterB b h' s.heap.objs.size a 0 → (∀ b o, s.heap.get? b = some o → h'.get? b = some o) → Q (.ref (s.heap.objs.size + 1)) { s with heap := h' }) :
    wpAny (model prog w) A (call (.type "enumerate") [.ref a]) Q E s := by
  have B := beginsB b a its
  refine callType_new F.called_enumerate (by decide) (F.typeCall_enumerate_1 _) (F.newCall_enumerate_1 _) (fun obj => F.args_object_init_2 obj _) F.entry_enumerate_new (enum_new1 B) ⟨hs, ?_⟩
  have hz : (s.heap.push (itOb b a)).objs.size = s.heap.objs.size + 1 := Heap.size_push ..
  have key := Heap.get?_push_size (s.heap.push (itOb b a)) (o := { cls := .type "enumerate", data := .fields #[.none, .bool false, .ref s.heap.objs.size, rawInt 0, .none, .none] }) rfl
  show _ ∧ _
  rw [hz] at key ⊢
  exact ⟨⟨_, key, rfl⟩, h _ key (iterB_of (Heap.get?_push_of_some _ (Heap.get?_push_size _ B.free))) fun c o x => Heap.get?_push_of_some _ (Heap.get?_push_of_some _ x)⟩
def iEnB (K : PySem.W.Frag) (k0 : Int) (ta : TA) : TI := fun σ H R => ta σ H fun vs H1 => ∃ b a xs, vs = [.ref a] ∧ SqB K b H1 a xs ∧ R (ItB K b a k0) H1
theorem pi_enumB {X : Cx} {e : Expr} {ta : TA} {p pos tpos : Pos} {elts : List Expr} {kk : Nat} (hg : Gl X "enumerate") (hm : X.mg "enumerate" = none) (ha : PA X [e] ta) (hs : starEach [e] X.env = [(false, eval e X.env)] := by rfl) :
    PI X (.Tuple elts kk tpos) (.Call (.Name "enumerate" p) [e] [] pos) (iEnB X.K 0 ta) := by
  refine ⟨fun pins s σ H R I h => ?_⟩
  refine Call_ (ld_blt I hg hm boot_enumerate (PyProof.Rows.callWith_type1 (thn (ha.run pos pins s σ H _ I h) fun us s1 ⟨vs, H1, I1, r1, b, a, xs, ex, hq, q⟩ => ?_) hs rfl))
  subst ex
  cases r1 with
  | cons r rr =>
    cases rr
    obtain rfl : _ = Value.ref a := r
    obtain ⟨its, rv, p'⟩ := seqB I1 hq
    refine call_enumB p' fun h' he hit hk => wpAny_pyIter_enum he ?_
    have I2 : Inv X pins σ H1 { s1 with heap := h' } := I1.kept (t' := s1.toks) hk
    refine ⟨s1.heap.objs.size + 1, [s1.heap.objs.size + 1, s1.heap.objs.size], _, _, H1, rfl, I2, turn_enumB b a (s1.heap.objs.size + 1) s1.heap.objs.size 0, ⟨⟨.none, he⟩, hit, Nat.succ_ne_self _⟩, fun c hc => ?_, q⟩
    have hle : s1.heap.objs.size ≤ c := by
      have z : c = s1.heap.objs.size + 1 ∨ c = s1.heap.objs.size := by simpa using hc
      rcases z with z | z
      · rw [z]; exact Nat.le_add_right _ _
      · rw [z]; exact Nat.le_refl _
    exact I1.fpOk hle (I1.hok.fresh hle)
/-! ### in the pure layer -/
def enumD : Int → List D → List D
  | _, [] => []
  | k, d :: r => .tup [.int k, d] :: enumD (k + 1) r
theorem enumD_length : ∀ (k : Int) (ds : List D), (enumD k ds).length = ds.length
  | _, [] => rfl
  | k, _ :: r => congrArg Nat.succ (enumD_length (k + 1) r)
theorem enumD_get : ∀ (k : Int) (ds : List D) (i : Nat), (enumD k ds)[i]? = ds[i]?.map fun d => .tup [.int (k + i), d]
  | _, [], _ => by simp [enumD]
  | k, d :: r, 0 => by simp [enumD]
  | k, d :: r, i + 1 => by
    show (enumD (k + 1) r)[i]? = r[i]?.map _
    rw [enumD_get (k + 1) r i, show k + 1 + (i : Int) = k + ((i + 1 : Nat) : Int) by omega]
section
variable {X : Cx} {W : Wrl} {Wo : WX} {m : Md} {a : Expr} {qa : QT W} {p pos tpos : Pos} {elts : List Expr} {kk : Nat}
def iEnumQ (k0 : Int) (qa : QT W) : QTI W := fun ω ρ Q E => qa ω ρ (fun ω1 d => ∃ ds, (d = .lst ds ∨ d = .tup ds) ∧ Q ω1 (enumD k0 ds)) E
theorem itB_ok {K : PySem.W.Frag} {b : Bool} {l : Addr} {d0 : D} {ds : List D} {k0 : Int} (hr : ∀ {H : Hp} {S : ASet}, RepA K H S d0 (.ref l) → ∃ xs, SqB K b H l xs ∧ RepsA K H S ds xs) : ItOk .C K W [(d0, .ref l)] (enumD k0 ds) (ItB K b l k0) := by
  intro F T ω ρ σ H hh R i
  obtain ⟨xs, hl, rr⟩ := hr (R.hd _ (hh (d0, .ref l) List.mem_cons_self))
  rw [enumD_length]
  refine ⟨fun hi => ?_, fun hi => ⟨xs, hl, by rw [rr.len]; exact hi⟩, fun d x H2 hd hy => ?_⟩
  · obtain ⟨v, hv, _⟩ := rr.get (List.getElem?_eq_getElem hi)
    exact ⟨xs, v, hl, hv⟩
  · obtain ⟨Tq, y, rfl, hT, rfl, hx⟩ := hy
    rw [enumD_get] at hd
    obtain ⟨d1, hd1, rfl⟩ := Option.map_eq_some_iff.mp hd
    obtain ⟨v, hv, rv⟩ := rr.get hd1
    have e := hx xs hl
    rw [hv] at e
    cases e
    have g : GrP nop H (upd H Tq (.tup [.int (k0 + (i : Nat)), y])) := GrP.new hT
    exact ⟨g, .inr ⟨Tq, [.int (k0 + (i : Nat)), y], _, rfl, rfl, .inl (.inl upd_same), .cons (.int _) (.cons (rv.ext g (fun _ z => z.elim) fun a z => .inl z) .nil)⟩⟩
theorem qi_enumQ (hg : Gl X "enumerate") (hm : X.mg "enumerate" = none) (ha : QE X m W Wo a qa) (hms : m.st = true := by rfl) (hs : starEach [a] X.env = (false, eval a X.env) :: starEach [] X.env := by rfl) :
    QI X .C W Wo (.Tuple elts kk tpos) (.Call (.Name "enumerate" p) [a] [] pos) (iEnumQ 0 qa) := PI.imp (pi_enumB hg hm (pa_cons ha pa_nil hs) hs) fun σ H Rj ⟨F, T, ω, ρ, Qp, Ep, R, q, hx, k⟩ =>
  ⟨F, T, ω, ρ, _, Ep, R, q, hx, fun T1 ω1 d v H1 R1 e1 r1 ⟨ds, z, q1⟩ => by
    have ra := r1.a hms
    rcases z with rfl | rfl
    · obtain ⟨l, xs, rfl, hl, _⟩ := repA_lst ra
      refine ⟨false, l, xs, rfl, hl, k T1 ω1 [(.lst ds, .ref l)] (enumD 0 ds) _ H1 (R1.put fun p hp => ?_) e1 (itB_ok fun r => ?_) q1⟩
      · have : p = (.lst ds, .ref l) := by simpa using hp
        rw [this]; exact ra
      · obtain ⟨l', xs', e', hl', rr⟩ := repA_lst r
        cases e'
        exact ⟨xs', hl', rr⟩
    · obtain ⟨l, xs, rfl, hl, _⟩ := repA_tup ra
      refine ⟨true, l, xs, rfl, hl, k T1 ω1 [(.tup ds, .ref l)] (enumD 0 ds) _ H1 (R1.put fun p hp => ?_) e1 (itB_ok fun r => ?_) q1⟩
      · have : p = (.tup ds, .ref l) := by simpa using hp
        rw [this]; exact ra
      · obtain ⟨l', xs', e', hl', rr⟩ := repA_tup r
        cases e'
        exact ⟨xs', hl', rr⟩⟩
theorem v_iEnumQ {k0 : Int} {ω : W.Ω} {ρ : List Sl} {QL : W.Ω → List D → Prop} {E : W.Ω → Exn → Prop} (h : qa ω ρ (fun ω1 d => ∃ ds, (d = .lst ds ∨ d = .tup ds) ∧ QL ω1 (enumD k0 ds)) E) : iEnumQ k0 qa ω ρ QL E := h
end
/-! ### a constant of a class, an int -/
section
variable {X : Cx} {W : Wrl} {Wo : WX} {m : Md} {a : Expr} {qa : QT W} {pos : Pos} {C : Addr} {mc : Value} {f : Str} {i : Int}
def qCvI (C : Addr) (i : Int) (qa : QT W) : QT W := fun ω ρ Q E => qa ω ρ (fun ω1 d => kAdr C d (Q ω1 (.int i))) E
theorem qe_cval (ha : QE X m W Wo a qa) (r : ClX.CRead X.K C mc) (k : ∃ u, ClX.CVal X.K C mc f (.int i) u) (hb : attributeBase a f X.env (eval a X.env) = eval a X.env := by rfl) : QE X .A W Wo (.Attribute a f pos) (qCvI C i qa) := PE.imp (ClX.pe_cval ha hb) fun σ H Q ⟨F, T, ω, ρ, Qp, Ep, R, q, hx, kk⟩ =>
  ⟨F, T, ω, ρ, _, Ep, R, q, hx, fun T1 ω1 d v H1 R1 e1 r1 ⟨z, q1⟩ => by
    subst z
    obtain ⟨u, k⟩ := k
    exact ⟨C, mc, .int i, u, r1.c.adr, r, k, kk T1 ω1 (.int i) _ H1 R1 e1 (RepA.int i) q1⟩⟩
theorem v_cvI {ω : W.Ω} {ρ : List Sl} {Q : W.Ω → D → Prop} {E : W.Ω → Exn → Prop} (h : qa ω ρ (fun ω1 d => kAdr C d (Q ω1 (.int i))) E) : qCvI C i qa ω ρ Q E := h
end
/-! ### f() -/
section
variable {X : Cx} {W : Wrl} {Wo : WX} {mr : Md} {k : Nat} {f : Addr} {fd : FuncData} {ps : List Str} {fx : Str} {pf : PSp W} {p pos : Pos}
theorem qe_call0 (F : FnOk X.prog X.w X.K X.mg X.base (L2N.CX X.prog X.w) k f fd ps (spM mr X.K W pf)) (hr : Room k X.A) (hg : Gl X fx) (hm : X.mg fx = some (.ref f)) (hk : PySem.W.keepIn X.K (.ref f) = true) (hb : Binds X.K fd ps []) (hx : ∀ σ, PassesAt (L2N.CX X.prog X.w) X σ (WE Wo σ)) (hdb : (fx == ("__debug__" : Str)) = false := by decide) :
    QE X mr W Wo (.Call (.Name fx p) [] [] pos) (qCall pf qNil) := by
  refine ⟨fun pins s σ H Q I ⟨G, T, ω, ρ, Qp, Ep, R, q, hx', kk⟩ => ?_⟩
  refine wpAny_Call_Name_kw (ld_glob I hg hm ?_ hdb)
  exact PySem.W.callWith_K0 I.kIn hk (run_fnS (us := []) F hr hb (hx σ) I .nil (sp_at R .refl hx' .nil q kk))
end
end LW

namespace LW
open PySem PySem.Spec PyProof.Rows L2
/-! # own iteration: __iter__ hands back iter(self.f), f a tuple -/
/-- a promise that knows how many objects stood at the entry -/
def FnRN (P : Program) (w : World) (K : PySem.W.Frag) (mg : Str → Option Value) (base : Heap) (CX : CXT) (k : Nat) (f : Addr) (sp : Nat → Sp) : Prop :=
  ∀ (A : Around) (outer : List Env) (s : Shared) (H : Hp) (us : List Value) (vs : List V) (Q : VK) (E : XK), Room k A → Env0 P w K mg base A outer s H → Vals vs us → sp s.heap.objs.size vs H Q E →
    codeAny (model P w) A (.call (.ref f) ⟨us, []⟩) (CR CX outer P w H s Q E) s
theorem fn_ofN {CX : CXT} {P : Program} {w : World} {K : PySem.W.Frag} {mg : Str → Option Value} {base : Heap} {k : Nat} {f : Addr} {name qual : Str} {params : Arguments} {body : List Stmt} {scope : Scope} {dvs : List V} {kws : List (Str × V)} {fd : FuncData} {N ps : List Str} {sp : Nat → Sp}
    (F : FunD K name qual params body scope dvs kws f fd) (S : FnScope N ps scope) (hbi : Binds K fd ps []) (len : ∀ n vs H Q E, sp n vs H Q E → vs.length = ps.length)
    (hbody : ∀ (cdv : Value) (A : Around) (outer : List Env) (s : Shared) (H : Hp) (vs : List V) (Q : VK) (E : XK), Room k (A.deeper (envOfC qual scope s.heap.objs.size f cdv)) → sp s.heap.objs.size vs H Q E →
      ∃ t, PSs (cxOf CX P w K mg base N qual scope f cdv A outer s H E) body t ∧ t { nx := fun _ H' => Q .non H', rt := Q } (start N vs) H) : FnRN P w K mg base CX (k + 1) f sp := by
  obtain ⟨oc, od, dV, kV, doc, pm, an, cdv, ct, osl, rfl, lk, hcd, _, _⟩ := F.ex
  refine fun A outer s H us vs Q E hr e0 r hsp => ?_
  have hl := len _ _ _ _ _ hsp
  have KX : K.In s.heap := e0.mod.kin.keeps fun b o e => (e0.bs b o e).1
  have lim : s.heap.NoLimit := e0.mod.nolimit.keeps fun b o e => (e0.bs b o e).1
  have hb := hbi s us KX (by rw [List.append_nil, ← r.length]; exact hl)
  rw [List.append_nil] at hb
  have hkind : ∀ y ∈ ps.zip us, scope.names.lookup y.1 = some .local ∨ (scope.names.lookup y.1 = some .cell ∧ ((cellsFrom (s.heap.objs.size + 1) scope.names []).lookup y.1).isSome = true) := fun ⟨n, v⟩ hy => by
    rcases S.par n (List.of_mem_zip hy).1 with q | q
    · exact .inl q
    · exact .inr ⟨q, PySem.W.cellsFrom_some _ _ _ (.inl q)⟩
  refine codeAny_call_function hr.depth (KX _ _ lk) rfl S.co S.gen rfl (PySem.W.codeRec_of KX hcd) (hb _ _ _ _ ?_)
  refine wpAny_newFunctionEnv_cells S.kind hkind fun env he s1 x => ?_
  subst he
  refine ⟨lim.keeps x.toInCall.keep, codeAny_func ?_⟩
  obtain ⟨t, ht, hq⟩ := hbody cdv A outer s H vs Q E (hr.deeper _) hsp
  have I : Inv (cxOf CX P w K mg base N qual scope f cdv A outer s H E) [] (start N vs) H s1 := inv_start S hr.hd e0 hl r x
  refine wpAny_mono (ht.run [] s1 (start N vs) H _ I hq) (fun fl s' hs => ?_) fun e s' hs => hs
  have fin : ∀ {σ' : L2.St} {H' : Hp} {v : V} {u : Value}, Inv (cxOf CX P w K mg base N qual scope f cdv A outer s H E) [] σ' H' s' → RelV v u → Q v H' → CE outer P w H s Q u s' :=
    fun {σ' H' v u} J rv q => ⟨v, H', J.os, J.bare, J.base, J.hok, rv, q⟩
  cases fl with
  | ret u =>
    obtain ⟨v, σ', H', J, rv, q⟩ := hs
    exact fin J rv q
  | next =>
    obtain ⟨σ', H', J, q⟩ := hs
    exact fin (v := V.non) (u := Value.none) J rfl q
  | brk =>
    obtain ⟨_, _, _, q⟩ := hs
    exact False.elim q
  | cont =>
    obtain ⟨_, _, _, q⟩ := hs
    exact False.elim q
/-! ### iter(x), x a tuple -/
abbrev itTup (l : Addr) (i : Nat) : Obj := { cls := .type "tuple_iterator", data := .fields #[.ref l, .int i 0] }
theorem call_iterTup {prog : Program} {w : World} {A : Around} {E : Value → Shared → Prop} {s : Shared} {l : Addr} {items : Array Value} {Q : Value → Shared → Prop} (hl : s.heap.IsTuple l items) (h : Q (.ref s.heap.objs.size) { s with heap := s.heap.push (itTup l 0) }) : wpAny (model prog w) A (call (.builtin "iter") [.ref l]) Q E s := by
  refine Calls.call_function_entry (by decide +kernel) (by decide +kernel) PySem.W.kdk_entry_iter (PySem.W.kdk_args_iter _) ?_
  unfold Builtin.«iter»
  refine wpAny_bind (m := someArgs "iter" 1 2 _) (wpAny_of_eq (a := [Value.ref l]) (by first | rfl | kernel_rfl!) ?_)
  show wpAny _ _ (pyIter (.ref l) >>= _) _ _ _
  refine wpAny_bind (wpAny_pyIter_tuple hl ?_)
  exact wpAny_pure ⟨_, rfl, h⟩
def ItT (l it : Addr) (i : Nat) : HO := .ext fun h => h.get? it = some (itTup l i)
theorem itT_ok {P : Program} {w : World} {H : Hp} {h : Heap} {l it : Addr} {i : Nat} (e : h.get? it = some (itTup l i)) : ObjOk P w H h it (ItT l it i) := ⟨e, ⟨_, e⟩, fun h1 h2 q k => k _ q⟩
def rIterT (K : PySem.W.Frag) (n : Nat) : List V → Hp → VK → Prop := fun xs H Q => ∃ (l : Addr) (zs : List V), xs = [.ref l] ∧ SqT K H l zs ∧ ∀ it, H it = none → n ≤ it → Q (.ref it) (upd H it (ItT l it 0))
theorem call_iterTN {X : Cx} : CallR X (.builtin "iter") (rIterT X.K X.s_0.heap.objs.size) := by
  intro pins s σ H xs us Q I r h
  obtain ⟨l, zs, rfl, hq, q⟩ := h
  obtain ⟨u, rfl, ru⟩ := r.one
  cases (show u = Value.ref l from ru)
  obtain ⟨its, rv, pl, hz⟩ := I.tuple hq
  refine call_iterTup pl ?_
  exact ⟨.ref s.heap.objs.size, _, I.laid (t' := s.toks) (fun b u e => Heap.get?_push_of_some _ e) (Nat.le_refl _) (itT_ok (Heap.get?_push_size _ rfl)), rfl, q _ (I.hok.fresh (Nat.le_refl _)) I.sz⟩
/-! ### __iter__ -/
def spIt (K : PySem.W.Frag) (C : Addr) (f : Str) (n : Nat) : Sp := fun vs H Q _ => ∃ (a dx : Addr) (fs : List (Str × V)) (p : Addr) (xs : List V), vs = [.ref a] ∧ H a = some (.ins C dx fs) ∧ fs.lookup f = some (.ref p) ∧ SqT K H p xs ∧ ∀ it, n ≤ it → H it = none → Q (.ref it) (upd H it (ItT p it 0))
/-- the body of such a def -/
theorem body_it {X : Cx} {C : Addr} {f : Str} {o : Expr} {p p2 pos pos2 : Pos} {vs : List V} {H : Hp} {Q : VK} {E : XK} (c : Cls X.K C) (n : NoAttr X.K C f) (hg : Gl X "iter") (hm : X.mg "iter" = none) (ho : PE X o (tVar 0))
    (hb : attributeBase o f X.env (eval o X.env) = eval o X.env)
    (h1 : starEach [.Attribute o f p2] X.env = (false, eval (.Attribute o f p2) X.env) :: starEach [] X.env)
    (h : spIt X.K C f X.s_0.heap.objs.size vs H Q E) : ∃ t, PSs X [.Return (some (.Call (.Name "iter" p) [.Attribute o f p2] [] pos)) pos2] t ∧ t { nx := fun _ H' => Q .non H', rt := Q } (start ["self"] vs) H := by
  refine ⟨_, pss_one (ps_ret (pe_callB call_iterTN hg hm (by decide +kernel) (pa_cons (pe_fld ho hb) pa_nil h1) (by decide) (by decide) h1 rfl)), ?_⟩
  obtain ⟨a, dx, fs, q, xs, rfl, ha, hf, hq, k⟩ := h
  exact ⟨.ref a, rfl, a, C, dx, fs, .ref q, rfl, ha, c, n, hf, q, xs, rfl, hq, fun it h1 h2 => k it h2 h1⟩
structure ItOw (K : PySem.W.Frag) (C g : Addr) : Prop where
  it : PySem.W.findIn K (.ref C) "__iter__" = some (some (.ref g))
  itF : PySem.W.isFn K (.ref g) = true
def itoB (K : PySem.W.Frag) (x : Str) : Bool := cmoB K x "__iter__"
theorem itoB_ok {K : PySem.W.Frag} {x : Str} (h : itoB K x = true) : ItOw K (He.ga K x) (He.ma K (He.ga K x) "__iter__") := ⟨(cmoB_ok h).1, (cmoB_ok h).2⟩
theorem next_tup {M : Model} {A : Around} {E : Value → Shared → Prop} {s : Shared} {Q : Value → Shared → Prop} {it l : Addr} {i : Nat} (e : s.heap.get? it = some (itTup l i)) (h : Q (.ref it) s) : PySem.W.OwitIt M A Q E (.ref it) s := by
  unfold PySem.W.OwitIt
  have hT : s.TypeIs (.ref it) "tuple_iterator" := ⟨_, e, rfl⟩
  exact wpAny_bind (wpAny_typeOf hT (wpAny_of_eq PySem.F.slot_tuple_iterator_next.lookup h))
section
variable {X : Cx} {pins : List (Addr × Obj)} {σ : L2.St} {H : Hp} {s : Shared} {C g a dx p : Addr} {fs : List (Str × V)} {xs : List V} {f : Str} {k : Nat}
/-- the iterator comes -/
theorem own_iter {A : Around} {Q : Value → Shared → Prop} (c : ItOw X.K C g) (F : FnRN X.prog X.w X.K X.mg X.base (L2N.CX X.prog X.w) k g (spIt X.K C f)) (hr : Room k A) (e0 : Env0 X.prog X.w X.K X.mg X.base A X.stack s H) (I : Inv X pins σ H s)
    (ha : H a = some (.ins C dx fs)) (hf : fs.lookup f = some (.ref p)) (hq : SqT X.K H p xs) (h : ∀ it s', Inv X pins σ H s' → s'.heap.get? it = some (itTup p 0) → FpOk X pins H it → s.heap.objs.size ≤ it → Q (.ref it) s') : wpAny (model X.prog X.w) A (pyIter (.ref a)) Q X.xe s := by
  obtain ⟨ox, od, J⟩ := ins_at I ha
  obtain ⟨m, hF⟩ := I.fr
  refine PySem.W.owit_iter hF I.ok.mod.kin J c.it c.itF ?_
  refine wpAny_call (codeAny_mono (F A X.stack s H [.ref a] [.ref a] (fun v H' => ∃ it, v = .ref it ∧ s.heap.objs.size ≤ it ∧ H it = none ∧ H' = upd H it (ItT p it 0)) (fun _ _ _ => False) hr e0 (.cons rfl .nil) ⟨a, dx, fs, p, xs, rfl, ha, hf, hq, fun it h1 h2 => ⟨it, rfl, h1, h2, rfl⟩⟩) fun r s' hq' => ?_)
  rcases r with e | fl
  · exact passAt0 (X := X) σ pins H s e s' I hq'
  · cases fl with
    | next => exact False.elim hq'
    | brk => exact False.elim hq'
    | cont => exact False.elim hq'
    | ret u =>
      obtain ⟨v, H', I', rv, it, ev, hn, hi, eH⟩ := I.after hq'
      subst ev eH
      cases (show u = Value.ref it from rv)
      have ei : s'.heap.get? it = some (itTup p 0) := (I'.hok it _ upd_same).1
      refine next_tup ei ?_
      have I2 := ItX.inv_drop I' (a := it) (φ := fun h => h.get? it = some (itTup p 0)) upd_same
      have fp := ItX.inv_fp I' (a := it) upd_same (Nat.le_trans I.sz hn)
      rw [ItX.dropH_upd hi] at I2 fp
      exact h it s' I2 ei fp hn
end
/-! ### walked -/
def iOwn (K : PySem.W.Frag) (C : Addr) (f : Str) (ta : TE) : TI := fun σ H R => ta σ H fun x H1 => ∃ (a dx : Addr) (fs : List (Str × V)) (p : Addr) (xs : List V), x = .ref a ∧ H1 a = some (.ins C dx fs) ∧ fs.lookup f = some (.ref p) ∧ SqT K H1 p xs ∧ R (Itt K p) H1
theorem pi_own {X : Cx} {C g : Addr} {f : Str} {k : Nat} {e tg : Expr} {ta : TE} (c : ItOw X.K C g) (F : FnRN X.prog X.w X.K X.mg X.base (L2N.CX X.prog X.w) k g (spIt X.K C f)) (hr : Room k X.A) (ha : PE X e ta) : PI X tg e (iOwn X.K C f ta) := by
  refine ⟨fun pins s σ H R I h => ?_⟩
  refine wpAny_mono (ha.run pins s σ H _ I h) (fun v s1 hq => ?_) fun _ _ z => z
  obtain ⟨x, H1, I1, rx, a, dx, fs, p, xs, ex, ea, ef, hq, q⟩ := hq
  subst ex
  cases (show v = Value.ref a from rx)
  refine own_iter c F hr I1.env0 I1 ea ef hq fun it s' I2 hit fp _ => ?_
  exact ⟨it, [it], fun i h => h.IsTupleIter it p i, Itt X.K p, H1, rfl, I2, turn_tuple p it, ⟨_, hit, rfl, rfl⟩, fun b hb => by rw [List.mem_singleton.mp hb]; exact fp, q⟩
section
variable {X : Cx} {W : Wrl} {Wo : WX} {m : Md} {a tg : Expr} {qa : QT W} {C g : Addr} {f : Str} {k : Nat}
def kOwn (C : Addr) (f : Str) (d : D) (R : List D → Prop) : Prop := ∃ ns ds xs, d = .ins C ns ds ∧ (ns.zip ds).lookup f = some (.tup xs) ∧ R xs
def iOwnQ (C : Addr) (f : Str) (qa : QT W) : QTI W := fun ω ρ Q E => qa ω ρ (fun ω1 d => kOwn C f d fun xs => Q ω1 xs) E
theorem repA_insT {K : PySem.W.Frag} {H : Hp} {S : ASet} {v : V} {C : Addr} {ns : List Str} {ds xs : List D} (h : RepA K H S (.ins C ns ds) v) (hl : (ns.zip ds).lookup f = some (.tup xs)) : ∃ (a dx : Addr) (fs : List (Str × V)) (p : Addr) (vs : List V), v = .ref a ∧ H a = some (.ins C dx fs) ∧ fs.lookup f = some (.ref p) ∧ SqT K H p vs ∧ RepA K H S (.tup xs) (.ref p) ∧ RepsA K H S xs vs := by
  cases h with
  | ins h i l r =>
    obtain ⟨u, hu, ru⟩ := lookup_rep r hl
    have ru' := ru
    obtain ⟨l', vs, rfl, hs, rr⟩ := repA_tup ru'
    exact ⟨_, _, _, l', vs, rfl, h, hu, hs, ru, rr⟩
theorem qi_own (c : ItOw X.K C g) (F : FnRN X.prog X.w X.K X.mg X.base (L2N.CX X.prog X.w) k g (spIt X.K C f)) (hr : Room k X.A) (ha : QE X m W Wo a qa) (hms : m.st = true := by rfl) : QI X .A W Wo tg a (iOwnQ C f qa) := PI.imp (pi_own c F hr ha) fun σ H Rj ⟨F, T, ω, ρ, Qp, Ep, R, q, hx, kk⟩ =>
  ⟨F, T, ω, ρ, _, Ep, R, q, hx, fun T1 ω1 d v H1 R1 e1 r1 ⟨ns, ds, xs, z, hl, q1⟩ => by
    subst z
    obtain ⟨a, dx, fs, p, vs, rfl, ea, ef, hs, rt, rr⟩ := repA_insT (r1.a hms) hl
    refine ⟨a, dx, fs, p, vs, rfl, ea, ef, hs, kk T1 ω1 [(.tup xs, .ref p)] xs _ H1 (R1.put fun q hq => ?_) e1 (fun F T ω ρ σ H hh R i => ?_) q1⟩
    · rw [List.mem_singleton.mp hq]; exact rt
    · obtain ⟨l', xs', e', hl', rr⟩ := repA_tup (R.hd _ (hh (.tup xs, .ref p) List.mem_cons_self))
      cases e'
      refine ⟨fun hi => ?_, fun hi => ⟨xs', hl', by rw [rr.len]; exact hi⟩, fun d x H2 hd hy => ?_⟩
      · obtain ⟨v, hv, _⟩ := rr.get (List.getElem?_eq_getElem hi)
        exact ⟨xs', v, hl', hv⟩
      · obtain ⟨z, hx⟩ := hy
        subst z
        obtain ⟨v, hv, rv⟩ := rr.get hd
        have := hx xs' hl'
        rw [hv] at this
        cases this
        exact ⟨GrP.refl _ _, rv⟩⟩
theorem v_iOwn {ω : W.Ω} {ρ : List Sl} {QL : W.Ω → List D → Prop} {E : W.Ω → Exn → Prop} (h : qa ω ρ (fun ω1 d => kOwn C f d fun xs => QL ω1 xs) E) : iOwnQ C f qa ω ρ QL E := h
theorem v_kOwn {ns : List Str} {ds xs : List D} {R : List D → Prop} (h1 : (ns.zip ds).lookup f = some (.tup xs)) (h : R xs) : kOwn C f (.ins C ns ds) R := ⟨ns, ds, xs, rfl, h1, h⟩
end
/-! ### list(o) -/
section
variable {X : Cx} {pins : List (Addr × Obj)} {σ : L2.St} {C g gl a dx p q : Addr} {fs : List (Str × V)} {xs : List V} {f : Str} {k kl : Nat}
/-- the loop over the rest -/
theorem ownt_loop {A1 : Around} {Rs : Result → Shared → Prop} {it : Addr} (hA : A1.in1.handled = none) (hqn : q ≠ it) :
    ∀ (n i : Nat) (H : Hp) (s : Shared), xs.length = i + n → xs.length ≤ 1000000 → Inv X pins σ H s → SqT X.K H p xs → s.heap.IsTupleIter it p i → FpOk X pins H it → H q = some (.lst (xs.take i)) →
      (∀ H' s', (∃ ys, H' = upd H q (.lst ys)) → H' q = some (.lst xs) → Inv X pins σ H' s' → Rs (.ok (.ret .none)) s') →
      codeAny (model X.prog X.w) A1 (.builtin "list.extend.loop" ⟨[.ref q, .ref it, .none], []⟩) Rs s := by
  intro n
  induction n with
  | zero =>
    intro i H s hn hl I hs hit fp hH hd
    refine codeAny_builtin PySem.F.entry_extend_loop ?_
    rw [Around.under_plainId PySem.F.plain_extend_loop _]
    show wpAny _ A1.in1 (pyNext (.ref it) >>= _) _ _ s
    obtain ⟨its, rv, pl, hz⟩ := I.tuple hs
    obtain ⟨f0, f1, f2, f3, f4, f5⟩ := fp
    have hl' := rv.length
    refine wpAny_bind (wpAny_pyNext_tuple_end hA hit (show s.heap.IsTuple p its.toArray from pl) (by simp; omega) fun h' eb => ?_)
    have I1 : Inv X pins σ H { s with heap := h' } := I.turned (t' := s.toks) (fun b o hb e => eb b o hb e) f0 f1 f3 f4 f5
    refine wpAny_pure (hd H _ ⟨xs, ?_⟩ (by rw [hH, List.take_of_length_le (by omega)]) I1)
    funext b
    by_cases hb : b = q
    · rw [hb, upd_same, hH, List.take_of_length_le (by omega)]
    · rw [upd_ne hb]
  | succ n ih =>
    intro i H s hn hl I hs hit fp hH hd
    refine codeAny_builtin PySem.F.entry_extend_loop ?_
    rw [Around.under_plainId PySem.F.plain_extend_loop _]
    show wpAny _ A1.in1 (pyNext (.ref it) >>= _) _ _ s
    obtain ⟨its, rv, pl, hz⟩ := I.tuple hs
    have hl' := rv.length
    obtain ⟨x, hx⟩ : ∃ x, xs[i]? = some x := ⟨_, List.getElem?_eq_getElem (by omega)⟩
    obtain ⟨u, hu, ru⟩ := rv.get hx
    have fp' := fp
    obtain ⟨f0, f1, f2, f3, f4, f5⟩ := fp
    refine wpAny_bind (wpAny_pyNext_tuple_item hit (show s.heap.IsTuple p its.toArray from pl) (x := u) (by simpa using hu) fun h' st' sb => ?_)
    have I1 : Inv X pins σ H { s with heap := h' } := I.turned (t' := s.toks) (fun b o hb e => (sb.2 b hb).trans e) f0 f1 f3 f4 f5
    show wpAny _ A1.in1 (updateSeq q (·.push u) >>= _) _ _ _
    obtain ⟨z, its2, k2, r2, hl2, e2⟩ := I1.lstM hH
    have lt : (xs.take i).length = i := by rw [List.length_take]; omega
    have l2 := r2.length
    rw [lt] at l2
    have z6 : (1000000 : Nat) < sizeLine := by rw [sizeLine_eq]; decide
    refine wpAny_bind (wpAny_updateSeq e2 rfl (wpAny_pure ⟨plainId_quiet PySem.F.plain_extend_loop _, ?_⟩) (by rw [List.size_toArray]; omega) (by show (its2.toArray.push u).size ≤ sizeLine + 1; rw [Array.size_push, List.size_toArray]; omega))
    have I2 := I1.lset (f := (·.push u)) (its' := its2 ++ [u]) (ys := xs.take i ++ [x]) (t' := s.toks) hH e2 (by simp) (r2.append (.cons ru .nil)) (by rw [List.length_append, lt, List.length_singleton]; omega)
    have tk : xs.take i ++ [x] = xs.take (i + 1) := by rw [List.take_succ, hx] <;> rfl
    rw [tk] at I2
    have hpq : H q = some (.lst (xs.take i)) := hH
    refine ih (i + 1) (upd H q (.lst (xs.take (i + 1)))) _ (by omega) hl I2 ?_ ?_ ?_ upd_same ?_
    · rcases hs with (hs | ⟨o, hs⟩) | hs
      · exact .inl (.inl (by rw [upd_ne (fun z => by rw [z, hpq] at hs; cases hs)]; exact hs))
      · exact .inl (.inr ⟨o, by rw [upd_ne (fun z => by rw [z, hpq] at hs; cases hs)]; exact hs⟩)
      · exact .inr hs
    · exact st'.at fun o e => Heap.get?_update_of_ne _ hqn e
    · exact ⟨by rw [upd_ne (Ne.symm hqn)]; exact fp'.1, fp'.2⟩
    · rintro H' s' ⟨ys, rfl⟩ h1 h2
      exact hd _ s' ⟨ys, by rw [upd_upd]⟩ h1 h2
/-- list(o), o of a class whose __iter__ is iter(self.f) and that has a __len__ -/
def rOwnL (K : PySem.W.Frag) (C : Addr) (f : Str) (sp : Sp) : List V → Hp → VK → Prop := fun vs H Q => ∃ (a dx : Addr) (fs : List (Str × V)) (p : Addr) (zs : List V), vs = [.ref a] ∧ H a = some (.ins C dx fs) ∧ fs.lookup f = some (.ref p) ∧ SqT K H p zs ∧ zs.length ≤ 1000000 ∧
  ∀ q, H q = none → sp [.ref a] (upd H q (.lst [])) (fun v H2 => ∃ n : Int, v = .int n ∧ 0 ≤ n ∧ n ≤ 1000000 ∧ H2 q = some (.lst []) ∧ SqT K H2 p zs ∧ Q (.ref q) (upd H2 q (.lst zs))) (fun _ _ _ => False)
theorem sqt_upd {K : PySem.W.Frag} {H : Hp} {p q : Addr} {zs : List V} {o : HO} (h : SqT K H p zs) (hq : ∀ u, H q = some u → (∃ ys, u = .lst ys)) : SqT K (upd H q o) p zs := by
  rcases h with (h | ⟨o', h⟩) | h
  · exact .inl (.inl (by rw [upd_ne (fun z => by obtain ⟨ys, e⟩ := hq _ (z ▸ h); cases e)]; exact h))
  · exact .inl (.inr ⟨o', by rw [upd_ne (fun z => by obtain ⟨ys, e⟩ := hq _ (z ▸ h); cases e)]; exact h⟩)
  · exact .inr h
theorem call_listOw {sp : Sp} (c : ItOw X.K C g) (cn : CmO X.K C "__len__" gl) (F : FnRN X.prog X.w X.K X.mg X.base (L2N.CX X.prog X.w) k g (spIt X.K C f)) (FL : FnR X.prog X.w X.K X.mg X.base (L2N.CX X.prog X.w) k gl sp) (hr : Room (k + 3) X.A) (hc : X.calm = true) : CallR X (.type "list") (rOwnL X.K C f sp) := by
  intro pins s σ H vs us Q I rv h
  obtain ⟨a, dx, fs, p, zs, rfl, ha, hf, hs, hl, hq⟩ := h
  obtain ⟨u, rfl, ru⟩ := rv.one
  cases (show u = Value.ref a from ru)
  have r2 : Room k X.A.in1.in1 := (Room.in1 (Room.in1 (hr.mono (Nat.le_succ (k + 2)) : Room (k + 2) X.A) : Room (k + 1) X.A.in1))
  have r3 : Room k X.A.in1.in1.in1 := Room.in1 (Room.in1 (Room.in1 (hr : Room (k + 2 + 1) X.A) : Room (k + 1 + 1) X.A.in1) : Room (k + 1) X.A.in1.in1)
  refine callType_codes (Q₁ := fun obj s₁ => obj = .ref s.heap.objs.size ∧ s₁ = { s with heap := s.heap.push { cls := .type "list", data := .seq #[] } }) PySem.F.called_list (PySem.F.typeCall_list_1 _) PySem.F.entry_list_init
    (code_list_new _ ⟨rfl, rfl⟩) fun obj s₁ h₁ => ?_
  obtain ⟨rfl, rfl⟩ := h₁
  have hS : (s.heap.push { cls := .type "list", data := .seq #[] }).get? s.heap.objs.size = some { cls := .type "list", data := .seq #[] } := Heap.get?_push_size _ rfl
  refine ⟨⟨_, hS, rfl⟩, PySem.F.args_list_init_2 _ _, ?_⟩
  have fr : H s.heap.objs.size = none := I.hok.fresh (Nat.le_refl _)
  have hsp := hq _ fr
  have I1 : Inv X pins σ (upd H s.heap.objs.size (.lst [])) { s with heap := s.heap.push { cls := .type "list", data := .seq #[] } } := I.lnew (its := []) (t' := s.toks) .nil (Nat.zero_le _)
  show wpAny _ _ (do let old ← Builtin.List.listItems (.ref s.heap.objs.size); Builtin.List.listUpdate (.ref s.heap.objs.size) (fun _ => #[]); letGo old.toList.reverse; Builtin.List.listExtendWith (.ref s.heap.objs.size) (.ref a) .none) _ _ _
  refine wpAny_bind ?_
  unfold Builtin.List.listItems
  refine wpAny_bind (wpAny_seqItems hS rfl (wpAny_pure ?_))
  show wpAny _ _ (updateSeq s.heap.objs.size (fun _ => #[]) >>= fun _ => letGo (#[] : Array Value).toList.reverse >>= fun _ => Builtin.List.listExtendWith (.ref s.heap.objs.size) (.ref a) .none) _ _ _
  refine wpAny_bind (wpAny_updateSeq hS rfl ?_)
  have I2 := I1.lset (f := fun _ => #[]) (its := []) (its' := []) (ys := []) (t' := s.toks) upd_same hS rfl .nil (Nat.zero_le _)
  rw [upd_upd] at I2
  refine wpAny_bind (wpAny_letGo ?_)
  have ha2 : upd H s.heap.objs.size (.lst []) a = some (.ins C dx fs) := by rw [upd_ne (ne_of_none ha fr)]; exact ha
  have hs2 : SqT X.K (upd H s.heap.objs.size (.lst [])) p zs := sqt_upd hs fun u z => by rw [fr] at z; cases z
  generalize hq0 : s.heap.objs.size = q at *
  clear hq0 hS I1
  have hne : q ≠ a := fun z => ne_of_none ha fr z.symm
  obtain ⟨ox, od, J⟩ := ins_at I2 ha2
  unfold Builtin.List.listExtendWith
  refine wpAny_bind (J.type.here ?_)
  have h1 : Builtin.List.listSameRef (.ref q) (.ref a) = false := by simp [Builtin.List.listSameRef, hne]
  have h2 : (Value.ref C == Value.type "list") = false := rfl
  have h3 : (Value.ref C == Value.type "tuple") = false := rfl
  simp only [h1, h2, h3, Bool.or_false, Bool.false_eq_true, if_false]
  have e0 : Env0 X.prog X.w X.K X.mg X.base X.A.in1.in1 X.stack _ (upd H q (.lst [])) := I2.env0.in1.in1
  refine wpAny_bind (wpAny_mono (own_iter (Q := fun v s' => ∃ it, v = .ref it ∧ Inv X pins σ (upd H q (.lst [])) s' ∧ s'.heap.get? it = some (itTup p 0) ∧ FpOk X pins (upd H q (.lst [])) it) c F r2 e0 I2 ha2 hf hs2 fun it s' I' hit fp _ => ?_) (fun v s' hv => ?_) fun e s' he => ?_)
  · exact ⟨it, rfl, I', hit, fp⟩
  · obtain ⟨it, rfl, I3, hit, fp⟩ := hv
    obtain ⟨ox', od', J'⟩ := ins_at I3 ha2
    obtain ⟨m3, hF3⟩ := I3.fr
    have key : wpAny (model X.prog X.w) X.A.in1.in1 (Builtin.List.listLengthHint (.ref a)) (fun _ s2 => ∃ H2, Inv X pins σ H2 s2 ∧ s2.heap.get? it = some (itTup p 0) ∧ FpOk X pins H2 it ∧ H2 q = some (.lst []) ∧ SqT X.K H2 p zs ∧ Q (.ref q) (upd H2 q (.lst zs))) X.xe s' := by
      unfold Builtin.List.listLengthHint
      refine wpAny_bind (wpAny_bind (J'.type.here ((PySem.W.looks_findIn I3.kIn cn.at_).here ?_)))
      show wpAny _ _ ((call (.builtin "len") [.ref a]).attempt >>= _) _ _ _
      refine wpAny_bind (wpAny_attempt (PySem.W.len_K hF3 I3.ok.mod.kin J' cn.at_ cn.fn (wpAny_call (codeAny_mono (FL X.A.in1.in1.in1 X.stack s' (upd H q (.lst [])) [.ref a] [.ref a] _ (fun _ _ _ => False) r3 I3.env0.in1.in1.in1 (.cons rfl .nil) hsp) fun r s4 hq' => ?_))))
      rcases r with e | fl
      · obtain ⟨_, _, _, _, _, _, _, _, _, _, _, zz⟩ := hq'
        exact zz.2.elim
      · cases fl with
        | next => exact False.elim hq'
        | brk => exact False.elim hq'
        | cont => exact False.elim hq'
        | ret u =>
          have I4 := I3.after hq'
          obtain ⟨v', H4, os4, bare4, un4, hok4, rv4, n, ev, n0, n1, hq4, hs4, hQ⟩ := hq'
          subst ev
          obtain ⟨tk, rfl⟩ := (show ∃ t, u = Value.int n t from rv4)
          have nfr : it ∉ frs X.stack := fun z => (List.mem_cons.mp (I3.stkSub it z)).elim fp.2.1 fp.2.2.1
          have hit4 : s4.heap.get? it = some (itTup p 0) := un4.keep it _ hit fp.1 nfr (by simp)
          have hn4 : H4 it = none := un4.free it _ hit fp.1 (by simp)
          refine ⟨⟨n0, by omega⟩, ?_⟩
          refine wpAny_bind (wpAny_pure ?_)
          show wpAny _ _ (if Builtin.List.listTooLong n.toNat = true then _ else _) _ _ _
          have z6 : (1000000 : Nat) < sizeLine := by rw [sizeLine_eq]; decide
          rw [if_neg (by unfold Builtin.List.listTooLong; rw [decide_eq_true_iff]; omega)]
          exact wpAny_pure ⟨H4, (I3.call' os4 un4 hok4 bare4 fun b z => absurd z (by simp)).tok _, hit4, ⟨hn4, fp.2⟩, hq4, hs4, hQ⟩
    refine wpAny_bind (wpAny_holding (wpAny_mono key (fun room s2 hr2 => ?_) fun e s' he => he))
    obtain ⟨H2, I5, hit5, fp5, hq5, hs5, hQ⟩ := hr2
    have hqi : q ≠ it := fun z => by rw [z, fp5.1] at hq5; cases hq5
    have fin : ∀ H5 s5, Inv X pins σ H5 s5 → s5.heap.get? it = some (itTup p 0) → H5 = H2 → codeAny (model X.prog X.w) X.A.in1 (.builtin "list.extend.loop" ⟨[.ref q, .ref it, .none], []⟩) (wants (fun r s₂ => r = .none ∧ EP X pins σ Q (.ref q) s₂) X.xe) s5 := fun H5 s5 J5 hit e => by
      subst e
      refine ownt_loop (X := X) (pins := pins) (σ := σ) (p := p) (q := q) (xs := zs) (it := it) r2.hd hqi zs.length 0 _ s5 (by omega) hl J5 hs5 ⟨_, hit, rfl, rfl⟩ fp5 hq5 ?_
      rintro H' s' ⟨ys, rfl⟩ h1 h2
      rw [upd_same] at h1
      cases h1
      exact ⟨rfl, .ref q, _, h2, rfl, hQ⟩
    refine wpAny_ite_split (fun _ => ?_) (fun _ => wpAny_pure ⟨plainId_quiet PySem.F.plain_extend_loop _, fin H2 s2 I5 hit5 rfl⟩)
    refine wpAny_bind (wpAny_rule ?_)
    refine wpAny_bind ?_
    obtain ⟨z3, its3, k3, rr3, hl3, e3⟩ := I5.lstM hq5
    cases rr3
    show wpAny _ _ (updateSeq q (·.push .none) >>= fun _ => updateSeq q (·.pop)) _ _ _
    refine wpAny_bind (wpAny_updateSeq e3 rfl ?_)
    have I6 := I5.lset (f := (·.push Value.none)) (its' := [Value.none]) (ys := [.non]) (t' := s2.toks) hq5 e3 (by simp) (.cons rfl .nil) (by rw [List.length_singleton, sizeLine_eq]; decide)
    obtain ⟨z4, its4, k4, r4, hl4, e4⟩ := I6.lstM upd_same
    obtain ⟨u4, rfl, ru4⟩ := r4.one
    refine wpAny_updateSeq e4 rfl ?_ (by show 1 ≤ sizeLine; rw [sizeLine_eq]; decide) (by show 0 ≤ sizeLine + 1; exact Nat.zero_le _)
    refine wpAny_pure ⟨plainId_quiet PySem.F.plain_extend_loop _, ?_⟩
    have I7 := I6.lset (f := (·.pop)) (its := [u4]) (its' := []) (ys := []) (t' := s2.toks) upd_same e4 (by rfl) .nil (Nat.zero_le _)
    rw [upd_upd] at I7
    have hH : upd H2 q (.lst []) = H2 := by
      funext b
      by_cases hb : b = q
      · rw [hb, upd_same, hq5]
      · rw [upd_ne hb]
    rw [hH] at I7
    exact fin H2 _ I7 (Heap.get?_update_of_ne _ hqi (Heap.get?_update_of_ne _ hqi hit5)) rfl
  · exact he
end
/-! a list of one's own that no slot holds -/
def Frm.ad (F : Frm) (q : Addr) : Frm := { F with S := fun a => F.S a ∨ a = q }
section
variable {K : PySem.W.Frag} {W : Wrl} {F : Frm} {T : ASet} {ω : W.Ω} {ρ : List Sl} {σ : L2.St} {H : Hp} {q : Addr} {o : HO}
theorem Rel.addS (R : Rel K W F T ω ρ σ H) (hn : H q = none) : Rel K W (F.ad q) T ω ρ σ (upd H q o) := by
  have g : GrP nop H (upd H q o) := GrP.new hn
  have R2 := R.grow g
  have hS : ∀ a, Spr (F.ad q) T ρ a → Spr F T ρ a ∨ H a = none := fun a z => by
    rcases z with (z | z) | z | z
    · exact .inl (.inl z)
    · rw [z]; exact .inr hn
    · exact .inl (.inr (.inl z))
    · exact .inl (.inr (.inr z))
  refine ⟨R2.gr, R2.inv, R2.tn, fun l hl => ⟨(R2.own l hl).1, (R2.own l hl).2.1, fun z => z.elim (R2.own l hl).2.2 fun z => R.fresh hn (.inr (.inr (z ▸ hl)))⟩, R2.nd, fun a z => ?_, fun p hp => (R.hd p hp).ext g (fun _ z => z.elim) hS, R.sl.ext g (fun _ z => z.elim) hS fun _ _ z => z⟩
  rcases z with z | z
  · exact R2.s0 a z
  · subst z
    exact ⟨fun z => (by rw [upd_same] at z; cases z), fun z => R.fresh hn (.inr (.inl z))⟩
theorem Rel.subS (R : Rel K W (F.ad q) T ω ρ σ H) : Rel K W F T ω ρ σ H := by
  have hS : ∀ a, Spr F T ρ a → Spr (F.ad q) T ρ a := fun a z => by
    rcases z with z | z | z
    · exact .inl (.inl z)
    · exact .inr (.inl z)
    · exact .inr (.inr z)
  exact ⟨R.gr, R.inv, R.tn, fun l hl => ⟨(R.own l hl).1, (R.own l hl).2.1, fun z => (R.own l hl).2.2 (.inl z)⟩, R.nd, fun a z => R.s0 a (.inl z), fun p hp => (R.hd p hp).less hS, R.sl.less hS⟩
end
section
variable {X : Cx} {W : Wrl} {Wo : WX} {m : Md} {e : Expr} {es : List Expr} {qs : QTA W} {C g gl : Addr} {f : Str} {k : Nat} {pf : PSp W} {p pos : Pos}
def kListO (C : Addr) (f : Str) (ds : List D) (R : List D → Prop) : Prop := ∃ ns es xs, ds = [.ins C ns es] ∧ (ns.zip es).lookup f = some (.tup xs) ∧ xs.length ≤ 1000000 ∧ R xs
def kN6 (d : D) (R : Prop) : Prop := ∃ n : Int, d = .int n ∧ 0 ≤ n ∧ n ≤ 1000000 ∧ R
def qListO (C : Addr) (f : Str) (pf : PSp W) (qs : QTA W) : QT W := fun ω ρ Q E => qs ω ρ (fun ω1 ds => kListO C f ds fun xs => pf ω1 ds (fun ω' d => kN6 d (Q ω' (.lst xs))) (fun _ _ => False)) E
theorem qe_listOw (c : ItOw X.K C g) (cn : CmO X.K C "__len__" gl) (F : FnRN X.prog X.w X.K X.mg X.base (L2N.CX X.prog X.w) k g (spIt X.K C f)) (FL : FnR X.prog X.w X.K X.mg X.base (L2N.CX X.prog X.w) k gl (spM .A X.K W pf)) (hr : Room (k + 3) X.A) (hc : X.calm = true) (hg : Gl X "list") (hm : X.mg "list" = none) (ha : QA X .A W Wo (e :: es) qs)
    (h1 : starEach (e :: es) X.env = (false, eval e X.env) :: starEach es X.env := by rfl) (h2 : (backTo pos (starEach es X.env)).any (·.1) = false := by rfl) :
    QE X .F W Wo (.Call (.Name "list" p) (e :: es) [] pos) (qListO C f pf qs) := PE.imp (pe_callTy (call_listOw c cn F FL hr hc) hg hm (by decide +kernel) ha (by decide) (by decide) h1 h2) fun σ H Q ⟨F, T, ω, ρ, Qp, Ep, R, q, hx, kk⟩ =>
  ⟨F, T, ω, ρ, _, Ep, R, q, hx, fun T1 ω1 ds vs H1 R1 e1 r1 ⟨ns, es', xs, z, hl, hxl, q1⟩ => by
    subst z
    obtain ⟨v, rfl, r⟩ := r1.one
    have r : RepA X.K H1 (Spr F T1 ρ) (.ins C ns es') v := r
    obtain ⟨a, dx, fs, p, zs, rfl, ea, ef, hs, rt, rr⟩ := repA_insT r hl
    refine ⟨a, dx, fs, p, zs, rfl, ea, ef, hs, by rw [rr.len]; exact hxl, fun q hq => ?_⟩
    have R2 := R1.addS (o := .lst []) hq
    have e2 : Ext T1 H1 T1 (upd H1 q (.lst [])) := Ext.of0 (GrP.new hq)
    have hS : ∀ a, Spr (F.ad q) T1 ρ a → Spr F T1 ρ a ∨ H1 a = none := fun a z => by
      rcases z with (z | z) | z | z
      · exact .inl (.inl z)
      · rw [z]; exact .inr hq
      · exact .inl (.inr (.inl z))
      · exact .inl (.inr (.inr z))
    have r3 : RepA X.K (upd H1 q (.lst [])) (Spr (F.ad q) T1 ρ) (.ins C ns es') (.ref a) := r.ext (GrP.new hq) (fun _ z => z.elim) hS
    have rt3 : RepA X.K (upd H1 q (.lst [])) (Spr (F.ad q) T1 ρ) (.tup xs) (.ref p) := rt.ext (GrP.new hq) (fun _ z => z.elim) hS
    have nT : ¬ T1 q := fun z => R1.fresh hq (.inr (.inl z))
    have hz : spM .A X.K W pf [.ref a] (upd H1 q (.lst [])) (fun v H2 => ∃ n : Int, v = .int n ∧ 0 ≤ n ∧ n ≤ 1000000 ∧ H2 q = some (.lst []) ∧ SqT X.K H2 p zs ∧ Q (.ref q) (upd H2 q (.lst zs))) (WE (fun _ _ _ _ => False) σ) := sp_at (F := F.ad q) R2 (Ext.refl (T := T1)) (fun _ _ _ _ _ _ _ _ z => z) (.cons r3 .nil) q1 fun T' ω' d v H' R' e' r' ⟨n, z, h0, h9, q'⟩ => by
      subst z
      have hq' : H' q = some (.lst []) := e'.gr.keep q _ upd_same (.inr nT)
      refine ⟨n, (RR.c (m := .A) r').int, h0, h9, hq', sqt_ext (sqt_ext hs (GrP.new hq)) e'.gr, ?_⟩
      have h0q : F.H q = none := R1.gr.live q hq
      have R5 := (R'.wrS (l := q) (o := .lst zs) (.inr rfl) h0q fun u hu => by rw [hq'] at hu; cases hu; rfl)
      have g5 : GrP (fun a => a = q) H' (upd H' q (.lst zs)) := GrP.wr rfl fun u hu => by rw [hq'] at hu; cases hu; rfl
      have gg : Ext T H T' (upd H' q (.lst zs)) := by
        refine ⟨⟨fun a o h z => ?_, fun a z => ?_⟩, fun a z => ?_⟩
        · refine g5.keep a o ((e1.trans (e2.trans e')).gr.keep a o h z) (.inr fun z => ?_)
          have := e1.gr.live q hq
          rw [z] at h
          rw [this] at h
          cases h
        · exact (e1.trans (e2.trans e')).gr.live a (g5.live a z)
        · exact (e1.trans (e2.trans e')).tn a z
      have rr' : RepsA X.K H' (Spr (F.ad q) T' ρ) xs zs := R2.ext_reps e' (rr.ext (GrP.new hq) (fun _ z => z.elim) hS)
      refine kk T' ω' (.lst xs) (.ref q) _ R5.subS gg ⟨q, zs, xs, rfl, rfl, e1.gr.live q hq, fun z => ?_, upd_same, ?_⟩ q'
      · rcases z with z | z | z
        · exact R1.fresh hq (.inl z)
        · exact (e'.tn q z).elim nT fun z => by rw [upd_same] at z; cases z
        · exact R1.fresh hq (.inr (.inr z))
      · exact (rr'.ext (S' := Spr (F.ad q) T' ρ) g5 (fun a z => by rw [z]; exact .inl (.inl (.inr rfl))) fun a z => .inl z).less fun a z => by
          rcases z with (z | z | z) | z
          · exact .inl (.inl z)
          · exact .inr (.inl z)
          · exact .inr (.inr z)
          · exact .inl (.inr z)
    exact hz⟩
end
/-! ### properties -/
theorem passNox {X : Cx} : Passes (L2N.CX X.prog X.w) X.nox (fun _ _ _ => False) := fun _ _ _ _ _ _ _ c => by
  obtain ⟨_, _, _, _, _, _, _, _, _, _, _, z⟩ := c
  exact z.2.elim
def prpB (K : PySem.W.Frag) (x m : Str) : Bool := decide (PySem.W.findIn K (.ref (He.ga K x)) m = some (some (.ref (He.ma K (He.ga K x) m)))) && (decide (PySem.W.specialIn K (.ref (He.ma K (He.ga K x) m)) "__get__" = some (some (.builtin "property.__get__"))) && (decide (PySem.W.takesIn K (.ref (He.ma K (He.ga K x) m)) = some true) && recB K "property" (He.ma K (He.ga K x) m) (recAd "property" K x m)))
theorem prpB_ok {K : PySem.W.Frag} {x m : Str} (h : prpB K x m = true) : PropOf K (He.ga K x) m (He.ma K (He.ga K x) m) (recAd "property" K x m) := by
  obtain ⟨h1, h⟩ := and2 h
  obtain ⟨h2, h⟩ := and2 h
  obtain ⟨h3, h4⟩ := and2 h
  exact ⟨of_decide_eq_true h1, of_decide_eq_true h2, of_decide_eq_true h3, recB_ok h4⟩
section
variable {X : Cx} {W : Wrl} {Wo : WX} {m : Md} {a : Expr} {qa : QT W} {C p g : Addr} {f : Str} {k : Nat} {pf : PSp W} {fd : FuncData} {ps : List Str} {pos : Pos}
def qProp (C : Addr) (pf : PSp W) (qa : QT W) : QT W := fun ω ρ Q E => qa ω ρ (fun ω1 d => kObj C d (pf ω1 [d] Q (fun _ _ => False))) E
theorem qe_prop (he : QE X m W Wo a qa) (c : Cls X.K C) (hp : PropOf X.K C f p g) (F : FnOk X.prog X.w X.K X.mg X.base (L2N.CX X.prog X.w) k g fd ps (spM .A X.K W pf)) (hr : Room (k + 1) X.A) (hb : Binds X.K fd ps [])
    (hab : attributeBase a f X.env (eval a X.env) = eval a X.env := by rfl) : QE X .A W Wo (.Attribute a f pos) (qProp C pf qa) := PE.imp (pe_prop he c hp F hr hb .nil passNox hab) fun σ H Q ⟨F, T, ω, ρ, Qp, Ep, R, q, hx, kk⟩ =>
  ⟨F, T, ω, ρ, _, Ep, R, q, hx, fun T1 ω1 d v H1 R1 e1 r1 ⟨ns, ds, z, q1⟩ => by
    subst z
    obtain ⟨a, dx, xs, rfl, h1, ra⟩ := r1.c.insR
    have hz : spM .A X.K W pf [.ref a] H1 Q (WE (fun _ _ _ _ => False) σ) := sp_at R1 e1 (fun _ _ _ _ _ _ _ _ z => z) (.cons ra .nil) q1 kk
    exact ⟨a, dx, _, rfl, h1, hz⟩⟩
theorem v_prop {ω : W.Ω} {ρ : List Sl} {Q : W.Ω → D → Prop} {E : W.Ω → Exn → Prop} (h : qa ω ρ (fun ω1 d => kObj C d (pf ω1 [d] Q (fun _ _ => False))) E) : qProp C pf qa ω ρ Q E := h
theorem v_listO {qs : QTA W} {ω : W.Ω} {ρ : List Sl} {Q : W.Ω → D → Prop} {E : W.Ω → Exn → Prop} (h : qs ω ρ (fun ω1 ds => kListO C f ds fun xs => pf ω1 ds (fun ω' d => kN6 d (Q ω' (.lst xs))) (fun _ _ => False)) E) : qListO C f pf qs ω ρ Q E := h
end
theorem v_kListO {C : Addr} {f : Str} {ns : List Str} {es xs : List D} {R : List D → Prop} (h1 : (ns.zip es).lookup f = some (.tup xs)) (h2 : xs.length ≤ 1000000) (h : R xs) : kListO C f [.ins C ns es] R := ⟨ns, es, xs, rfl, h1, h2, h⟩
theorem v_kN6 {i : Int} {R : Prop} (h0 : 0 ≤ i) (h1 : i ≤ 1000000) (h : R) : kN6 (.int i) R := ⟨i, rfl, h0, h1, h⟩
/-! a new list as any value -/
theorem qe_FA {X : Cx} {W : Wrl} {Wo : WX} {e : Expr} {q : QT W} (h : QE X .F W Wo e q) : QE X .A W Wo e q := PE.imp h fun σ H Q ⟨F, T, ω, ρ, Qp, Ep, R, q, hx, k⟩ =>
  ⟨F, T, ω, ρ, Qp, Ep, R, q, hx, fun T' ω' d v H' R' e r q' => k T' ω' d v H' R' e (RR.a (m := .F) rfl r) q'⟩
theorem v_puB {b : Bool} {R : Prop} (h : R) : (D.bl b).pure = true ∧ R := ⟨rfl, h⟩
theorem v_puI {b : Int} {R : Prop} (h : R) : (D.int b).pure = true ∧ R := ⟨rfl, h⟩
theorem v_puS {b : Str} {R : Prop} (h : R) : (D.str b).pure = true ∧ R := ⟨rfl, h⟩
theorem v_puN {R : Prop} (h : R) : D.non.pure = true ∧ R := ⟨rfl, h⟩
end LW

namespace LW
open PySem PySem.Spec PyProof.Rows L2
/-! # defs that say super() -/
abbrev envS (qual : Str) (scope : Scope) (L f : Addr) (cd : Value) (cc : Addr) : Env := PySem.W.ksEnv qual scope L f cd cc
/-- what the written part says of a def whose one free name is __class__ -/
structure SupD (K : PySem.W.Frag) (F0 : Str) (x qual : Str) (params : Arguments) (body : List Stmt) (scope : Scope) (f D cda cc : Addr) (fd : FuncData) : Prop where
  ex : ∃ (oc : Value) (od : Option Addr) (dV kV doc pm : Value) (an : Option Addr) (ct : Value) (osl : Array (Option Value)),
    fd = PySem.W.ksFn x qual params body scope dV kV doc pm an (.ref cda) ct cc ∧ K.lookup f = some ⟨oc, od, .func fd, osl⟩ ∧ dV = .none
  code : PySem.W.codeIn K (.ref cda) qual = true
  file : ∃ (ccl : Value) (cdd : Option Addr) (vs : Array Value) (ccs : Array (Option Value)) (tf : Tok), K.lookup cda = some ⟨ccl, cdd, .fields vs, ccs⟩ ∧ vs[2]? = some (.str F0 tf)
  cell : ∃ (cl : Value) (cld : Option Addr) (csl : Array (Option Value)), K.lookup cc = some ⟨cl, cld, .cell (some (.ref D)), csl⟩
  clsD : ∃ cd, PySem.W.clsIn K D = some cd
  kp : PySem.W.keepIn K (.ref f) = true
/-- what is asked of the text's program -/
class PG (P : Program) : Prop where
  file : (P.main.file : Str) = "/claim/cut.py"
  sup : (P.main.scope.names.lookup ("super" : Str)).isSome = false
/-- a def's names: the parameters first; __class__ free -/
structure SScope (N P : List Str) (sc : Scope) : Prop where
  kind : sc.kind = .function
  co : sc.isCoroutine = false
  gen : sc.isGenerator = false
  nd : N.Nodup
  pre : N.take P.length = P
  par : ∀ x ∈ P, sc.names.lookup x = some .local
  nocell : ∀ y ∈ sc.names, y.2 ≠ .cell
  free : ∀ y, sc.names.lookup y = some .free → y = "__class__"
  cls : sc.names.lookup ("__class__" : Str) = some .free
  sup : sc.names.lookup ("super" : Str) = some .globalImplicit
theorem SScope.free_of {sc : Scope} (h : (sc.names.all fun p => (match p.2 with | .free => false | _ => true) || decide (p.1 = "__class__")) = true) : ∀ y, sc.names.lookup y = some .free → y = "__class__" := fun y hy => by
  have := List.all_eq_true.mp h _ (PySem.mem_of_lookup hy)
  simpa using this
def cxS (CX : CXT) (P : Program) (w : World) (K : PySem.W.Frag) (mg : Str → Option Value) (base : Heap) (N : List Str) (qual : Str) (scope : Scope) (f : Addr) (cda cc : Addr) (A : Around) (outer : List Env) (s : Shared) (H : Hp) (E : XK) : Cx :=
  { prog := P, w := w, K := K, mg := mg, base := base, A := A.deeper (envS qual scope s.heap.objs.size f (.ref cda) cc), N := N, s_0 := s, H_0 := H, env := envS qual scope s.heap.objs.size f (.ref cda) cc, outer := outer, stack := envS qual scope s.heap.objs.size f (.ref cda) cc :: outer,
    ex := [], fn := fun x => decide (x ≠ "__class__"), calm := true, pn := [],
    xe := fun e s' => wpAny (model P w) (A.deeper (envS qual scope s.heap.objs.size f (.ref cda) cc)) (leaving (envS qual scope s.heap.objs.size f (.ref cda) cc) e) (fun _ s'' => CX outer H s E e s'') (fun e' s'' => CX outer H s E e' s'') s' }
/-- statements under the code that runs -/
structure PSsAt (X : Cx) (full body : List Stmt) (t : TS) : Prop where
  run : ∀ (pins : List (Addr × Obj)) (s : Shared) (σ : L2.St) (H : Hp) (D : Ends), Inv X pins σ H s → t D σ H → PySem.wpAt (model X.prog X.w) X.A (.func full X.env) (execs body X.env) (SP X pins D) X.xe s
theorem pssA_of {X : Cx} {full body : List Stmt} {t : TS} (h : PSs X body t) : PSsAt X full body t := ⟨fun pins s σ H D I q => wpAt_of_wpAny (h.run pins s σ H D I q)⟩

theorem zip_lookup {ps : List Str} {us : List Value} {i : Nat} {y : Str} {u : Value} (nd : ps.Nodup) (h1 : ps[i]? = some y) (h2 : us[i]? = some u) : (ps.zip us).reverse.lookup y = some u := by
  have key : ∀ (l : List (Str × Value)), (l.map (·.1)).Nodup → (y, u) ∈ l → l.lookup y = some u := fun l => by
    induction l with
    | nil => intro _ h; cases h
    | cons p l ih =>
      intro n h
      obtain ⟨a, b⟩ := p
      rw [List.lookup_cons]
      rcases List.mem_cons.mp h with z | z
      · cases z
        simp
      · have n' := List.nodup_cons.mp n
        have ne : (y == a) = false := by
          refine beq_eq_false_iff_ne.mpr fun e => n'.1 ?_
          subst e
          exact List.mem_map.mpr ⟨_, z, rfl⟩
        rw [ne]
        exact ih n'.2 z
  refine key _ ?_ ?_
  · rw [List.map_reverse]
    refine List.pairwise_reverse.mpr ?_
    suffices h : ((ps.zip us).map (·.1)).Nodup from List.Pairwise.imp (fun h => Ne.symm h) h
    have : ((ps.zip us).map (·.1)).Sublist ps := by
      clear h1 h2 key
      induction ps generalizing us with
      | nil => simp
      | cons a ps ih =>
        cases us with
        | nil => simp
        | cons b us => exact (ih (List.nodup_cons.mp nd).2).cons₂ a
    exact nd.sublist this
  · rw [List.mem_reverse]
    have e : (ps.zip us)[i]? = some (y, u) := by
      rw [List.getElem?_zip_eq_some]
      exact ⟨h1, h2⟩
    exact List.mem_of_getElem? e
section
variable {CX : CXT} {P : Program} {w : World} {K : PySem.W.Frag} {mg : Str → Option Value} {base : Heap} {N ps : List Str} {x qual : Str} {params : Arguments} {body : List Stmt} {scope : Scope} {f D cda cc : Addr} {fd : FuncData} {F0 : Str} {k : Nat} {sp : Sp}
theorem inv_startS {A : Around} {outer : List Env} {s : Shared} {h1 : Heap} {H : Hp} {E : XK} {us : List Value} {vs : List V} {tk : Nat} (F : SupD K F0 x qual params body scope f D cda cc fd)
    (S : SScope N ps scope) (hd : A.handled = none) (e0 : Env0 P w K mg base A outer s H) (hl : vs.length = ps.length) (r : Vals vs us)
    (hns : h1.Ns s.heap.objs.size (fun y => (ps.zip us).reverse.lookup y)) (hk : ∀ b o, s.heap.get? b = some o → h1.get? b = some o) :
    Inv (cxS CX P w K mg base N qual scope f cda cc A outer s H E) [] (start N vs) H { s with heap := h1, toks := tk } := by
  have hpl : ps.length ≤ N.length := by have := congrArg List.length S.pre; rw [List.length_take] at this; omega
  have noA : ∀ b : Addr, b ∉ (cxS CX P w K mg base N qual scope f cda cc A outer s H E).ex := fun b z => absurd (show b ∈ ([] : List Addr) from z) (by simp)
  obtain ⟨cl, cld, csl, hcc⟩ := F.cell
  have hcb : base.get? cc = some ⟨cl, cld, .cell (some (.ref D)), csl⟩ := e0.mod.kin _ _ hcc
  have onlyC : ∀ y c, (cxS CX P w K mg base N qual scope f cda cc A outer s H E).env.cells.lookup y = some c → y = "__class__" ∧ c = cc := fun y c h => by
    have h' : ([("__class__", cc)] : List (Str × Addr)).lookup y = some c := h
    rw [List.lookup_cons] at h'
    split at h'
    · rename_i e
      exact ⟨eq_of_beq e, (Option.some.inj h').symm⟩
    · cases h'
  refine ⟨⟨e0.mod, S.kind, rfl, rfl, Nat.le_refl _, fun y z c h1 h2 => ?_, fun y hy => ?_, fun y c hf h => ?_, fun _ => hd, Around.frames_deeper e0.frames, .inr ⟨rfl, rfl⟩, fun b z => absurd z (noA b), e0.bs, e0.bsz, fun b _ _ => noA b, fun b z => absurd z (noA b), e0.funs, e0.frf⟩,
    rfl, e0.bare, Un.kept hk, ⟨_, hns, fun i y v h1 h2 h3 => ?_⟩, fun y c h => ?_, e0.hok.fresh (Nat.le_refl _), fun y c h => ?_, fun p hp => absurd (show p ∈ ([] : List (Addr × Obj)) from hp) (by simp), e0.hok.kept hk, ?_⟩
  · rw [(onlyC y c h1).1, (onlyC z c h2).1]
  · have hy : scope.names.lookup y = some .cell ∨ scope.names.lookup y = some .free := hy
    rcases hy with hy | hy
    · exact absurd rfl (S.nocell _ (PySem.mem_of_lookup hy))
    · rw [S.free y hy]
      exact ⟨cc, rfl⟩
  · have e := (onlyC y c h).1
    subst e
    exact absurd (show decide (("__class__" : Str) ≠ "__class__") = true from hf) (by decide)
  · have hi : i < vs.length := by
      unfold L2.start at h2
      by_cases hi : i < vs.length
      · exact hi
      · rw [List.getElem?_append_right (by simpa using hi)] at h2
        rw [List.getElem?_replicate] at h2
        split at h2 <;> cases h2
    have ha : vs[i]? = some v := by
      unfold L2.start at h2
      rw [List.getElem?_append_left (by simpa using hi), List.getElem?_map] at h2
      cases e : vs[i]? with
      | none => rw [e] at h2; cases h2
      | some a => rw [e] at h2; cases h2; rfl
    obtain ⟨u, hu, rv⟩ := r.get ha
    have hp : ps[i]? = some y := by
      rw [← S.pre, List.getElem?_take_of_lt (by omega)]; exact h1
    have ndP : ps.Nodup := by rw [← S.pre]; exact S.nd.sublist (List.take_sublist _ _)
    exact ⟨u, rv, .inl ⟨S.par y (List.mem_of_getElem? hp), zip_lookup ndP hp hu⟩⟩
  · rw [(onlyC y c h).2]
    exact ⟨_, _, hk _ _ (e0.bs _ _ hcb).1, rfl⟩
  · rw [(onlyC y c h).2]
    exact (e0.bs _ _ hcb).2
  · unfold L2.start
    show _ = N.length
    rw [List.length_append, List.length_map, List.length_replicate]
    omega
theorem fn_ofS (F : SupD K F0 x qual params body scope f D cda cc fd) (S : SScope N ps scope) (len : ∀ vs H Q E, sp vs H Q E → vs.length = ps.length)
    (hbody : ∀ (A : Around) (outer : List Env) (s : Shared) (H : Hp) (vs : List V) (Q : VK) (E : XK), Room k (A.deeper (envS qual scope s.heap.objs.size f (.ref cda) cc)) → sp vs H Q E →
      ∃ t, PSsAt (cxS CX P w K mg base N qual scope f cda cc A outer s H E) body body t ∧ t { nx := fun _ H' => Q .non H', rt := Q } (start N vs) H) : FnOk P w K mg base CX (k + 1) f fd ps sp := by
  obtain ⟨oc, od, dV, kV, doc, pm, an, ct, osl, rfl, lk, edV⟩ := F.ex
  refine ⟨len, fun A outer s H args us vs Q E hr e0 hb r hsp => ?_⟩
  have hl := len _ _ _ _ hsp
  have KX : K.In s.heap := e0.mod.kin.keeps fun b o e => (e0.bs b o e).1
  have lim : s.heap.NoLimit := e0.mod.nolimit.keeps fun b o e => (e0.bs b o e).1
  refine PySem.ks_codeAny_call_defAt hr.depth (KX _ _ lk) rfl lim (PySem.W.codeRec_of KX F.code) rfl hb S.nocell (fun y hy => S.par _ (List.of_mem_zip hy).1) (fun h₀ hns hk => ?_) S.co S.gen S.kind
  obtain ⟨t, ht, hq⟩ := hbody A outer s H vs Q E (hr.deeper _) hsp
  have I : Inv (cxS CX P w K mg base N qual scope f cda cc A outer s H E) [] (start N vs) H _ := inv_startS (tk := s.toks + (ps.zip us).length) F S hr.hd e0 hl r hns hk
  refine PySem.ks_wpAt_mono (ht.run [] _ (start N vs) H _ I hq) (fun fl s' hs => ?_) fun e s' hs => hs
  have fin : ∀ {σ' : L2.St} {H' : Hp} {v : V} {u : Value}, Inv (cxS CX P w K mg base N qual scope f cda cc A outer s H E) [] σ' H' s' → RelV v u → Q v H' → CE outer P w H s Q u s' :=
    fun {σ' H' v u} J rv q => ⟨v, H', J.os, J.bare, J.base, J.hok, rv, q⟩
  cases fl with
  | ret u =>
    obtain ⟨v, σ', H', J, rv, q⟩ := hs
    exact fin J rv q
  | next =>
    obtain ⟨σ', H', J, q⟩ := hs
    exact fin (v := V.non) (u := Value.none) J rfl q
  | brk =>
    obtain ⟨_, _, _, q⟩ := hs
    exact False.elim q
  | cont =>
    obtain ⟨_, _, _, q⟩ := hs
    exact False.elim q
end
/-! ### super() -/
structure SupE (X : Cx) (f D : Addr) : Prop where
  kind : X.env.scope.kind = .function
  ks : X.env.kindOf ("super" : Str) = some .globalImplicit
  kc : X.env.kindOf ("__class__" : Str) = some .free
  ka : X.env.kindOf ("self" : Str) = some .local
  fu : X.env.func = some f
  look : ∃ (oc : Value) (od : Option Addr) (fd : FuncData) (osl : Array (Option Value)) (ar : Arg), X.K.lookup f = some ⟨oc, od, .func fd, osl⟩ ∧ (fd.params.posonlyargs ++ fd.params.args).head? = some ar ∧ ar.arg = ("self" : Str)
  code : ∃ (cda : Addr) (ccl : Value) (cdd : Option Addr) (vs : Array Value) (ccs : Array (Option Value)) (file : Str) (tf : Tok), X.env.code = .ref cda ∧ X.K.lookup cda = some ⟨ccl, cdd, .fields vs, ccs⟩ ∧ vs[2]? = some (.str file tf) ∧ ((X.prog.main.file : Str) == file) = true
  cell : ∃ (cc : Addr) (cl : Value) (cld : Option Addr) (csl : Array (Option Value)), X.env.cells.lookup ("__class__" : Str) = some cc ∧ X.K.lookup cc = some ⟨cl, cld, .cell (some (.ref D)), csl⟩
  top : (X.prog.main.scope.names.lookup ("super" : Str)).isSome = false
  mgs : X.mg "super" = none
  clsD : ∃ cd, PySem.W.clsIn X.K D = some cd
  glo : X.env.globals = mainGlobals
  blt : X.env.builtins = builtinsNs
theorem supE_of {CX : CXT} {P : Program} {w : World} {K : PySem.W.Frag} {mg : Str → Option Value} {base : Heap} {N ps : List Str} {x qual : Str} {params : Arguments} {body : List Stmt} {scope : Scope} {f D cda cc : Addr} {fd : FuncData} {A : Around} {outer : List Env} {s : Shared} {H : Hp} {E : XK} {ar : Arg} [pg : PG P]
    (F : SupD K "/claim/cut.py" x qual params body scope f D cda cc fd) (S : SScope N ps scope) (hm : mg "super" = none) (hps : ps.head? = some "self") (har : (params.posonlyargs ++ params.args).head? = some ar) (har2 : ar.arg = "self") : SupE (cxS CX P w K mg base N qual scope f cda cc A outer s H E) f D := by
  obtain ⟨oc, od, dV, kV, doc, pm, an, ct, osl, rfl, lk, edV⟩ := F.ex
  obtain ⟨ccl, cdd, vs, ccs, tf, h1, h2⟩ := F.file
  obtain ⟨cl, cld, csl, h3⟩ := F.cell
  refine ⟨S.kind, S.sup, S.cls, S.par _ ?_, rfl, ⟨oc, od, _, osl, ar, lk, har, har2⟩, ⟨cda, ccl, cdd, vs, ccs, "/claim/cut.py", tf, rfl, h1, h2, ?_⟩, ⟨cc, cl, cld, csl, rfl, h3⟩, pg.sup, hm, F.clsD, rfl, rfl⟩
  · cases ps with
    | nil => cases hps
    | cons p r => cases hps; exact List.mem_cons_self
  · rw [show (cxS CX P w K mg base N qual scope f cda cc A outer s H E).prog = P from rfl, pg.file]; exact beq_self_eq_true _
section
variable {X : Cx} {pins : List (Addr × Obj)} {σ : L2.St} {H : Hp} {s : Shared} {f D a C : Addr} {full : List Stmt} {p0 p1 : Pos} {attr : Str} {whole : Sem Value}
/-- super() of an instance at a -/
theorem super_at {E : Value → Shared → Prop} {Q : Value → Shared → Prop} {ox : Obj} {odx : Option Obj} (S : SupE X f D) (I : Inv X pins σ H s) (hat : (attr == ("__class__" : Str)) = false) (h0 : X.N[0]? = some ("self" : Str)) (hσ : σ[0]? = some (some (.ref a))) (J : PySem.W.InstAt s.heap a ox C odx)
    (hsub : PySem.W.mroIn X.K C (.ref D) = some true)
    (h : ∀ so h', h'.get? so = some (PySem.W.ks_superObj D a C) → so = s.heap.objs.size → (∀ y o, s.heap.get? y = some o → h'.get? y = some o) → Inv X pins σ H { s with heap := h' } → Q (.ref so) { s with heap := h' }) :
    PySem.wpAt (model X.prog X.w) X.A (.func full X.env) (attributeBase (.Call (.Name "super" p0) [] [] p1) attr X.env whole) Q E s := by
  obtain ⟨oc, od, fd, osl, ar, lk, har, har2⟩ := S.look
  obtain ⟨cda, ccl, cdd, vs, ccs, file, tf, hcd, lcd, hvs, hfile⟩ := S.code
  obtain ⟨cc, cl, cld, csl, hcc, lcc⟩ := S.cell
  obtain ⟨cdD, hD⟩ := S.clsD
  have KX := I.kIn
  obtain ⟨oD, hD1, hD2⟩ : ∃ oD, s.heap.get? D = some oD ∧ oD.data = .cls cdD := by
    unfold PySem.W.clsIn at hD
    split at hD
    · rename_i c d cd' sl ho
      cases hD
      exact ⟨_, KX _ _ ho, rfl⟩
    · cases hD
  obtain ⟨m, hns, hlo⟩ := I.loc
  obtain ⟨u, ru, hu⟩ := hlo 0 "self" (.ref a) h0 hσ (.inl S.ka)
  cases (show u = Value.ref a from ru)
  have hms : m "self" = some (.ref a) := by
    rcases hu with ⟨_, z⟩ | ⟨z, _⟩
    · exact z
    · rw [S.ka] at z
      rcases z with z | z <;> cases z
  have hG : s.heap.Ns mainGlobals X.mg := I.ok.mod.glob.keeps I.bk
  obtain ⟨mb, hmb, hbt⟩ := I.ok.mod.blt
  have I0 := I
  obtain ⟨hh, g, d, t, os⟩ := s
  refine PySem.ks_wpAt_super_base S.ks S.kc hat S.fu (KX _ _ lk) rfl har hcd (KX _ _ lcd) rfl hvs hfile S.top ?_
  refine PySem.W.ks_loadName_global S.kind S.ks (PySem.Calls.loadGlobal_builtin (mb := mb) (by rw [S.glo]; exact hG) S.mgs (by rw [S.blt]; exact hmb.keeps I.bk) ((hbt _ (by decide)).trans (show bootBuiltins "super" = some (.type "super") from by decide +kernel)) ⟨rfl, ?_⟩)
  refine wpAny_loadName_free S.kind S.kc hcc ⟨_, KX _ _ lcc, rfl⟩ ?_
  rw [har2]
  refine wpAny_loadName_local S.kind S.ka hns hms ?_
  refine PySem.ks_wpAny_isType_cls hD1 hD2 ⟨rfl, ?_⟩
  refine PySem.ks_wpAny_call_super hD1 hD2 J.at_ J.cls (fun c e => ?_) (PySem.W.looks_mroIn KX hsub) (fun h' e k => ?_)
  · have := J.no
    unfold PySem.W.notCls at this
    rw [e] at this
    exact Bool.noConfusion this
  · exact h _ h' e rfl k (I0.kept (t' := t) k)
end
/-! ### super().__init__(..) of an own exception over ValueError -/
structure SupX (K : PySem.W.Frag) (C D : Addr) : Prop where
  oex : OexC K C
  init : PySem.W.ks_superIn K C D "__init__" = some (some (.builtin "ValueError.__init__"))
  third : PySem.W.nsIn K cStatics "thirdparty.any" = some none
  sub : PySem.W.mroIn K C (.ref D) = some true
  subV : PySem.W.subIn K (.ref C) (.type "ValueError") = some true
def tSupI (a C : Addr) (ta : TA) (t : TS) : TS := fun D σ H => σ[0]? = some (some (.ref a)) ∧ H a = some (exo a C none) ∧ ta σ H fun vs H1 => vs.length ≤ 1000 ∧ H1 a = some (exo a C none) ∧ t D σ H1
section
variable {X : Cx} {f D a C : Addr} {full rest : List Stmt} {p0 p1 p2 p3 p4 : Pos} {e : Expr} {es : List Expr} {ta : TA} {t : TS}
theorem pssA_supI {pl : Sem Bool} (S : SupE X f D) (T : SupX X.K C D) (h0 : X.N[0]? = some ("self" : Str)) (ha : PA X (e :: es) ta) (hr : PSs X rest t)
    (he : eval (.Call (.Attribute (.Call (.Name "super" p0) [] [] p1) "__init__" p2) (e :: es) [] p3) X.env = (do
      let ov ← attributeBase (.Call (.Name "super" p0) [] [] p1) "__init__" X.env (eval (.Call (.Name "super" p0) [] [] p1) X.env)
      standAt p2.atName
      let (f, first) ← holding [ov] (getMethod ov "__init__" pl)
      callWith p3 f first (backTo p3 (starEach (e :: es) X.env)) []) := by rfl)
    (hst : starEach (e :: es) X.env = (false, eval e X.env) :: starEach es X.env := by rfl) (hpl : (backTo p3 (starEach es X.env)).any (·.1) = false := by rfl)
    (hi : interactive X.env = false := by rfl) (hs : swapsWith (.Call (.Attribute (.Call (.Name "super" p0) [] [] p1) "__init__" p2) (e :: es) [] p3) none p4.line X.env = pure false := by rfl) :
    PSsAt X full (.Expr (.Call (.Attribute (.Call (.Name "super" p0) [] [] p1) "__init__" p2) (e :: es) [] p3) p4 :: rest) (tSupI a C ta t) := by
  refine ⟨fun pins s σ H D' I ⟨hσ, hH, hq⟩ => ?_⟩
  refine PySem.ks_wpAt_execs_cons (PySem.ks_wpAt_Expr_any (PySem.ks_wpAt_MethodCall (pl := pl) ?_ he) hi hs)
  obtain ⟨nm, q, N, bs, bm, sn, sub, ab, col, dd, k0, k1, k2, k3, k5, hC, hbm⟩ := T.oex.cls
  have hcl : PySem.W.clsIn X.K C = some { name := nm, bases := bs, mro := .ref C :: bm, ns := N, qualname := q, hasDict := true, slotNames := sn, subclasses := sub, abstract := ab, collection := col, hasDel := false } := by unfold PySem.W.clsIn; rw [hC] <;> rfl
  obtain ⟨t1, ho⟩ := exo_at I.hok hH
  have J : PySem.W.InstAt s.heap a { cls := .ref C, dict := none, data := .fields #[.ref t1, .none, .none, .none, .bool false, .none] } C none := ⟨ho, rfl, rfl, trivial⟩
  refine super_at S I (by decide) h0 hσ J T.sub fun so h' hso eso k I1 => ?_
  have KX := I1.kIn
  have J1 : PySem.W.InstAt h' a { cls := .ref C, dict := none, data := .fields #[.ref t1, .none, .none, .none, .bool false, .none] } C none := ⟨k _ _ ho, rfl, rfl, trivial⟩
  have hI : PySem.W.Looks (model X.prog X.w) h' (isInstance (.ref a) (.type "ValueError")) true := J1.type.andThen (PySem.W.looks_subIn KX T.subV)
  obtain ⟨hh, g, d, tk, os⟩ := s
  have hm := T.init
  unfold PySem.W.ks_superIn at hm
  rw [hcl] at hm
  refine PySem.W.kxs_getMethod PySem.W.kxs_ValueError hso (PySem.W.looks_opaque KX T.third) (l₀ := .ref C :: bm) ?_ rfl KX hm hI (PySem.W.ks_ne KX J1 hcl) (by decide) ?_
  · exact fun A Q E s k q => wpAny_bind ((PySem.W.looks_clsIn KX hcl) A _ E s k (wpAny_pure q))
  have I2 : Inv X pins σ H ⟨h'.push (PySem.W.kxs_mw "ValueError.__init__" a), g, d, tk + 1, os⟩ := I1.kept (t' := tk + 1) fun b o z => Heap.get?_push_of_some _ z
  have hu : (h'.push (PySem.W.kxs_mw "ValueError.__init__" a)).get? h'.objs.size = some (PySem.W.kxs_mw "ValueError.__init__" a) := Heap.get?_push_at rfl rfl
  have I3 : Inv X ((h'.objs.size, PySem.W.kxs_mw "ValueError.__init__" a) :: pins) σ H ⟨h'.push (PySem.W.kxs_mw "ValueError.__init__" a), g, d, tk + 1, os⟩ :=
    (ClX.pin_new (t' := tk) I1 (fun _ _ z => Heap.get?_push_of_some _ z) (Nat.le_refl _) (Heap.get?_push_size h' rfl) (fun v z => by cases (show Data.fields _ = Data.cell v from z))).tok (tk + 1)
  show wpAny _ _ (callWith p3 (.ref h'.objs.size) [] (backTo p3 (starEach (e :: es) X.env)) []) _ _ _
  have hz := ha.run p3 _ _ σ H _ I3 hq
  rw [hst] at hz ⊢
  refine PySem.W.kxs_callWith (i := "ValueError.__init__") (x := a) (by show (false || (backTo p3 (starEach es X.env)).any (·.1)) = false; rw [hpl] <;> rfl) (PySem.Calls.evalArgs_plain (thn hz fun us s1 ⟨vs, H1, I4, r1, hz, ea, q⟩ => ?_))
  have hu4 : s1.heap.get? h'.objs.size = some (PySem.W.kxs_mw "ValueError.__init__" a) := ClX.pin_at I4
  refine ⟨hu4, ?_⟩
  have I5 := ClX.unpin I4
  obtain ⟨t2, ho2⟩ := exo_at I5.hok ea
  have hC2 := I5.kIn _ _ hC
  obtain ⟨hp, g2, d2, tk2, os2⟩ := s1
  have hlen : us.length ≤ sizeLine := by
    rw [← r1.length, sizeLine_eq]
    omega
  have FB := PySem.F.excBase_ValueError
  refine wpAny_call (codeAny_of_tree ?_)
  show wpAny _ X.A.in1 (callAny (.ref h'.objs.size) ⟨us, []⟩) _ _ _
  simp only [callAny]
  refine wpAny_bind (wpAny_load hu4 ?_)
  simp only [PySem.W.kxs_mw, show (Value.type "method-wrapper" == Value.type "method" || Value.type "method-wrapper" == Value.type "builtin_function_or_method" || Value.type "method-wrapper" == Value.type "method-wrapper") = true by decide, if_true]
  refine PySem.W.KFB.if_so (by decide) ?_
  refine wpAny_bind (PySem.W.check_bound_init FB.toExcCallFacts hC2 ho2 rfl ?_)
  refine wpAny_bind (wpAny_pure (wpAny_pure ?_))
  refine ⟨plainId_quiet FB.init.plain _, codeAny_builtin FB.initEntry ?_⟩
  refine PySem.W.exc_init_tree (cls := .ref C) (t0 := t2) (dv := none) (c2 := .none) (c3 := .none) (b4 := .bool false) ho2 hlen fun h2 k2 e2 t3 => ?_
  have J5 := I5.write (t' := tk2) (x := a) (e := a) (o := exo a C none) (by rw [ea]; exact True.intro) (.inl rfl) k2 ⟨_, e2⟩ (exo_ok e2)
  have eu : upd H1 a (exo a C none) = H1 := by
    funext b
    by_cases hb : b = a
    · rw [hb, upd_same, ea]
    · rw [upd_ne hb]
  rw [eu] at J5
  exact wpAt_of_wpAny (hr.run pins _ σ H1 D' J5 q)
end

theorem DefW.supD {K : PySem.W.Frag} {d : DefW} {C : Str} (hs : d.sup = some C) (hd : d.dfl = []) (e : fnWA K d.sup (d.at_ K) = d.val) (c : d.ok K = true) : ∃ fd cda cc, SupD K "/claim/cut.py" d.name d.qual d.params d.body d.scope (d.at_ K) (He.ga K C) cda cc fd := by
  obtain ⟨kp, c2⟩ := Bool.and_eq_true_iff.mp c
  unfold fnWA at e
  rcases q : K.lookup (d.at_ K) with _ | ⟨oc, od, dt, osl⟩
  · rw [q] at c2
    cases c2
  · rw [q] at c2 e
    cases dt with
    | func fd =>
      obtain ⟨n1, n2, n3, n4, n5, n6, n7, n8, n9, n10, n11, n12, n13, n14, n15⟩ := fd
      unfold DefW.val at e
      rw [hs] at e c2
      have e2 := e
      dsimp only at e2
      simp only [Option.some.injEq, Prod.mk.injEq] at e2
      obtain ⟨h1, h2, h3, h4, h5, h6, h7, h8⟩ := e2
      subst h1 h2 h3 h4 h5 h6 h8
      obtain ⟨c3, c4⟩ := Bool.and_eq_true_iff.mp (show ((PySem.W.codeIn K n13 d.qual && He.dflB K n8 (d.dvs K)) && supB K (He.ga K C) ⟨d.name, d.qual, d.params, .stmts d.body, d.scope, mainGlobals, n7, n8, n9, n10, n11, n12, n13, n14, builtinsNs⟩) = true from c2)
      obtain ⟨k1, k3⟩ := Bool.and_eq_true_iff.mp c3
      obtain ⟨c5, c6⟩ := Bool.and_eq_true_iff.mp c4
      have hdv := He.dflB_ok k3
      unfold DefW.dvs at hdv
      rw [hd] at hdv
      obtain ⟨c7, c8⟩ := Bool.and_eq_true_iff.mp c6
      rcases n7 with _ | ⟨⟨nm, cc⟩, _ | ⟨_, _⟩⟩
      · cases h7
      · have hn : nm = "__class__" := by
          simp at h7
          exact h7
        subst hn
        cases n13 with
        | ref cda =>
          refine ⟨_, cda, cc, ⟨oc, od, n8, n9, n10, n11, n12, n14, osl, rfl, q, (by rcases hdv with ⟨_, z⟩ | ⟨z, _⟩; exact z; exact absurd rfl z)⟩, k1, ?_, ?_, Option.isSome_iff_exists.mp c8, kp⟩
          · dsimp only at c7
            split at c7
            · rename_i ccl cdd vs ccs lk
              split at c7
              · rename_i file tf hv
                rw [of_decide_eq_true c7] at hv
                exact ⟨_, _, _, _, _, lk, hv⟩
              · cases c7
            · cases c7
          · dsimp only at c5
            split at c5
            · rename_i lk
              rw [of_decide_eq_true c5] at lk
              exact ⟨_, _, _, lk⟩
            · cases c5
        | _ => cases c7
      · cases h7
    | _ => cases c2
theorem SupD.fdA_of {K : PySem.W.Frag} {F0 x qual : Str} {params : Arguments} {body : List Stmt} {scope : Scope} {f D : Addr} (h : ∃ fd cda cc, SupD K F0 x qual params body scope f D cda cc fd) : ∃ cda cc, SupD K F0 x qual params body scope f D cda cc (fdA K f) := by
  obtain ⟨fd, cda, cc, h⟩ := h
  have e : fdA K f = fd := by
    obtain ⟨oc, od, dV, kV, doc, pm, an, ct, osl, _, lk, _⟩ := h.ex
    unfold fdA
    rw [lk]
  exact ⟨cda, cc, by rw [e]; exact h⟩
theorem SupD.bindsN {K : PySem.W.Frag} {F0 x qual : Str} {params : Arguments} {body : List Stmt} {scope : Scope} {f D cda cc : Addr} {fd : FuncData} {ps : List Str} (F : SupD K F0 x qual params body scope f D cda cc fd)
    (h : ∀ (kV doc pm : Value) (an : Option Addr) (cdv ct : Value) (cc : Addr) (us : List Value), us.length = ps.length → bindArgs (PySem.W.ksFn x qual params body scope .none kV doc pm an cdv ct cc) ⟨us, []⟩ = pure (ps.zip us)) : Binds K fd ps [] := by
  obtain ⟨oc, od, dV, kV, doc, pm, an, ct, osl, rfl, lk, rfl⟩ := F.ex
  exact .all (h kV doc pm an _ ct cc)
end LW

namespace LW
open PySem PySem.Spec PyProof.Rows L2
/-! # own exceptions whose __init__ says super().__init__('..') and keeps one field -/
def spXI (C : Addr) (f : Str) : Sp := fun vs H Q _ => ∃ (a : Addr) (y : V), vs = [.ref a, y] ∧ H a = some (exo a C none) ∧ ∀ dx, H dx = none → dx ≠ a → Q .non (upd (upd H dx (exd dx [(f, y)])) a (exo a C (some dx)))
theorem xinit_ok {P : Program} {w : World} {K : PySem.W.Frag} {mg : Str → Option Value} {base : Heap} {x qual fp f msg : Str} {params : Arguments} {scope : Scope} {fI C cda cc : Addr} {fd : FuncData} {ar : Arg} [pg : PG P] {body : List Stmt}
    (F : SupD K "/claim/cut.py" x qual params body scope fI C cda cc fd) (S : SScope ["self", fp] ["self", fp] scope) (hm : mg "super" = none) (har : (params.posonlyargs ++ params.args).head? = some ar) (har2 : ar.arg = "self") (T : SupX K C C) (no : PySem.W.findIn K (.ref C) f = some none)
    (hd : ∀ (A : Around) (outer : List Env) (s : Shared) (H : Hp) (E : XK) (a : Addr), SupE (cxS (L2N.CX P w) P w K mg base ["self", fp] qual scope fI cda cc A outer s H E) fI C → PSsAt (cxS (L2N.CX P w) P w K mg base ["self", fp] qual scope fI cda cc A outer s H E) body body (tSupI a C (tCons (tC (.str msg)) tNil) (tOst K f (tVar 0) (tVar 1)))) :
    FnOk P w K mg base (L2N.CX P w) 1 fI fd ["self", fp] (spXI C f) := by
  refine fn_ofS F S (fun vs H Q E ⟨_, _, e, _⟩ => by rw [e] <;> rfl) fun A outer s H vs Q E hr h => ?_
  obtain ⟨a, y, rfl, ha, q⟩ := h
  refine ⟨_, hd A outer s H E a (supE_of (P := P) F S hm rfl har har2), ?_⟩
  refine ⟨rfl, ha, by simp, ha, ?_⟩
  exact ⟨y, rfl, .ref a, rfl, a, C, rfl, T.oex, no, .inl ⟨ha, fun dx n ne => q dx n ne⟩⟩
/-! ### made and raised -/
theorem pmk_oexN {X : Cx} {x : Str} {C fI : Addr} {k : Nat} {fd : FuncData} {ps : List Str} {sp : Sp} {e : Expr} {es : List Expr} {ta : TA} {p pos : Pos} (T : OexC X.K C) (iC : PySem.W.findIn X.K (.ref C) "__init__" = some (some (.ref fI))) (tI : PySem.W.typeIn X.K (.ref fI) = some (.type "function"))
    (F1 : FnOk X.prog X.w X.K X.mg X.base (L2N.CX X.prog X.w) k fI fd ps sp) (hr : Room (k + 1) X.A) (hb : Binds X.K fd ps []) (hg : Gl X x) (hm : X.mg x = some (.ref C)) (ha : PA X (e :: es) ta)
    (hdb : (x == ("__debug__" : Str)) = false := by decide) (he : starEach (e :: es) X.env = (false, eval e X.env) :: starEach es X.env := by rfl) (hpl : (backTo pos (starEach es X.env)).any (·.1) = false := by rfl) :
    L2N.PMk X (.Call (.Name x p) (e :: es) [] pos) (tMkO C sp [] ta) := by
  intro pins s σ H Q I h
  obtain ⟨nm, q, N, bs, bm, sn, sub, ab, col, dd, k0, k1, k2, k3, k5, hC, hbm⟩ := T.cls
  refine wpAny_Call_Name_kw (ld_glob I hg hm ?_ hdb)
  refine PySem.W.callWith_K (h₀ := X.base) I.ok.mod.kin T.kC (thn (ha.run pos pins s σ H _ I h) fun us s1 ⟨vs, H1, I1, r1, hz, q1⟩ => ⟨I1.kIn, ?_⟩) he hpl
  show wpAny _ _ (call (.ref C) us) _ _ _
  obtain ⟨hp, g, dr, tk, os⟩ := s1
  have hsz : hp.objs.size ≤ hp.objs.size + 1 := Nat.le_succ _
  have hn : H1 (hp.objs.size + 1) = none := I1.hok.fresh hsz
  have hq := q1 (hp.objs.size + 1) hn
  rw [List.append_nil] at hq
  have kk : ∀ b o, hp.get? b = some o → ((hp.push (PySem.W.kdv_tup us)).push (PySem.HandSPX.excO C hp.objs.size)).get? b = some o := fun b o e => Heap.get?_push_of_some _ (Heap.get?_push_of_some _ e)
  have hget : ((hp.push (PySem.W.kdv_tup us)).push (PySem.HandSPX.excO C hp.objs.size)).get? (hp.objs.size + 1) = some (PySem.HandSPX.excO C hp.objs.size) := by heap_get
  have I2 : Inv X pins σ (upd H1 (hp.objs.size + 1) (exo (hp.objs.size + 1) C none)) ⟨(hp.push (PySem.W.kdv_tup us)).push (PySem.HandSPX.excO C hp.objs.size), g, dr, tk, os⟩ :=
    I1.laid (t' := tk) (a := hp.objs.size + 1) (o := exo (hp.objs.size + 1) C none) (h' := (hp.push (PySem.W.kdv_tup us)).push (PySem.HandSPX.excO C hp.objs.size)) kk hsz (exo_ok hget)
  have r2 : Vals (V.ref (hp.objs.size + 1) :: vs) (Value.ref (hp.objs.size + 1) :: us) := .cons rfl r1
  have hl : (Value.ref (hp.objs.size + 1) :: us).length = ps.length := by
    have e := r2.length
    rw [F1.len _ _ _ _ hq] at e
    exact e.symm
  have hus : us.length ≤ sizeLine := by
    rw [← Paired.length r1, sizeLine_eq]
    omega
  have hbb := hb _ (Value.ref (hp.objs.size + 1) :: us) I2.kIn (by rw [List.append_nil]; exact hl)
  rw [List.append_nil] at hbb
  refine wpAny_call (PySem.HandSPX.call_own PySem.F.excBase_ValueError (fun Y => PySem.HandSPX.refsVE_contains Y bm hbm) (I1.kIn _ _ hC) (PySem.W.looks_findIn I1.kIn iC) (fun self => PySem.W.bind_fn I1.kIn self tI) hus
    (codeAny_mono (F1.run _ X.stack _ _ ⟨Value.ref (hp.objs.size + 1) :: us, []⟩ (Value.ref (hp.objs.size + 1) :: us) _ _ (fun _ _ _ => False) (hr.make C us []) (I2.env0.make C us []) hbb r2 hq) fun r s' hq' => ?_))
  cases r with
  | error er =>
    obtain ⟨_, _, _, _, _, _, _, _, _, _, _, zz⟩ := hq'
    exact zz.2.elim
  | ok fl =>
    cases fl with
    | ret u =>
      obtain ⟨v, H2, os2, bare2, un2, hok2, rv, ev, d, fs, ea, ed, hd1, q2⟩ := hq'
      subst ev
      obtain ⟨h2, g2, d2, t2, os'⟩ := s'
      obtain ⟨t0, G, J, kG, ge, hoe, na⟩ := mk_end0 (d2 := d2) (t2 := t2) I1 hsz kk un2 hok2 os2 bare2 ea ed hd1
      exact ⟨rv, _, _, _, ⟨G, g2, d2, t2, os'⟩, _, .ref C, some d, rfl, J, kG, ge, hoe, ⟨rfl, rfl, fun vs e => by cases e; rfl⟩, rfl, rfl, na, rfl, bare2, raises_own T.exC T.tyC, q2⟩
    | next => exact False.elim hq'
    | brk => exact False.elim hq'
    | cont => exact False.elim hq'
section
variable {X : Cx} {W : Wrl} {Wo : WX} {mr m : Md} {e : Expr} {es : List Expr} {qa : QT W} {C fI : Addr} {f x : Str} {k : Nat} {fd : FuncData} {ps : List Str} {p pos pos2 : Pos}
def sRaiseX (C : Addr) (f : Str) (qa : QT W) : QTS W := fun P ω ρ => qa ω ρ (fun ω1 d => d.pure = true ∧ P.ex ω1 ⟨C, some (f, d)⟩ ρ) fun ω1 y => P.ex ω1 y ρ
/-- raise C(e) -/
theorem qs_raiseX (hc : X.calm = true) (tk : L2N.Takes X Wo) (T : OexC X.K C) (iC : PySem.W.findIn X.K (.ref C) "__init__" = some (some (.ref fI))) (tI : PySem.W.typeIn X.K (.ref fI) = some (.type "function"))
    (F1 : FnOk X.prog X.w X.K X.mg X.base (L2N.CX X.prog X.w) k fI fd ps (spXI C f)) (hr : Room (k + 1) X.A) (hb : Binds X.K fd ps []) (hg : Gl X x) (hm : X.mg x = some (.ref C)) (he : QE X m W Wo e qa) (hms : m.st = true := by rfl)
    (hdb : (x == ("__debug__" : Str)) = false := by decide) (h1 : starEach [e] X.env = (false, eval e X.env) :: starEach [] X.env := by rfl) :
    QS X mr W Wo (.Raise (some (.Call (.Name x p) [e] [] pos)) none pos2) (sRaiseX C f qa) := PS.imp (L2N.ps_raise hc tk (pmk_oexN T iC tI F1 hr hb hg hm (pa_cons he pa_nil h1) hdb h1)) fun D σ H ⟨F, T0, ω, ρ, P, R, q, S⟩ => by
  refine ⟨F, T0, ω, ρ, _, _, R, q, S.xok, fun T1 ω1 d v H1 R1 e1 r1 ⟨hp, q1⟩ => ?_⟩
  show ([v] : List V).length ≤ 1000 ∧ _
  refine ⟨by simp, fun a na => ?_⟩
  refine ⟨a, v, rfl, upd_same, fun dx n ne => ⟨rfl, dx, _, upd_same, by rw [upd_ne ne]; exact upd_same, ?_, ?_⟩⟩
  · by_cases z : dx = a
    · exact absurd z ne
    · rw [upd_ne z] at n
      exact n
  have nd : H1 dx = none := by rw [upd_ne ne] at n; exact n
  have eH : upd (del (upd (upd (upd H1 a (exo a C none)) dx (exd dx [(f, v)])) a (exo a C (some dx))) a) dx (.xd [(f, v)]) = upd H1 dx (.xd [(f, v)]) := by
    funext b
    by_cases hb : b = dx
    · rw [hb, upd_same, upd_same]
    · rw [upd_ne hb, upd_ne hb]
      by_cases hba : b = a
      · rw [hba, del_same, na]
      · rw [del_ne hba, upd_ne hba, upd_ne hb, upd_ne hba]
  rw [eH]
  have g : GrP nop H1 (upd H1 dx (.xd [(f, v)])) := GrP.new nd
  have ra : RepA X.K H1 (fun _ => True) d v := (RR.a hms r1).any hp
  exact S.ex T1 ω1 ρ σ _ ⟨C, some (f, d)⟩ _ _ (R1.grow g) ⟨rfl, dx, v, rfl, upd_same, ra.ext g (fun _ z => z.elim) fun a z => .inl trivial⟩ q1
theorem v_raiseX {P : PEn W} {ω : W.Ω} {ρ : List Sl} (h : qa ω ρ (fun ω1 d => d.pure = true ∧ P.ex ω1 ⟨C, some (f, d)⟩ ρ) fun ω1 y => P.ex ω1 y ρ) : sRaiseX C f qa P ω ρ := h
end
/-! ### what is asked of the text -/
def oexB (K : PySem.W.Frag) (C : Addr) : Bool := (match K.lookup C with
  | some ⟨.type "type", _, .cls cd, sl⟩ => (match cd.mro, sl.toList with
    | .ref C' :: bm, [_, _, _, _, some (Value.builtin n), _] => decide (C' = C) && (decide (n = "ValueError.__new__") && (!cd.hasDel && (cd.hasDict && PySem.HandSPX.refsVE bm)))
    | _, _ => false)
  | _ => false) && (decide (PySem.W.findIn K (.ref C) "__setattr__" = some (some (.builtin "object.__setattr__"))) && (decide (PySem.W.subIn K (.ref C) (.type "BaseException") = some true) && (decide (PySem.W.typeIn K (.ref C) = some (.type "type")) && PySem.W.keepIn K (.ref C))))
theorem oexB_ok {K : PySem.W.Frag} {C : Addr} (h : oexB K C = true) : OexC K C := by
  obtain ⟨h1, h⟩ := and2 h
  obtain ⟨h2, h⟩ := and2 h
  obtain ⟨h3, h⟩ := and2 h
  obtain ⟨h4, h5⟩ := and2 h
  refine ⟨?_, of_decide_eq_true h2, of_decide_eq_true h3, of_decide_eq_true h4, h5⟩
  split at h1
  · rename_i dd cd sl ho
    split at h1
    · rename_i C' bm k0 k1 k2 k3 n k5 hm hs
      obtain ⟨a1, h1⟩ := and2 h1
      obtain ⟨a2, h1⟩ := and2 h1
      obtain ⟨a3, h1⟩ := and2 h1
      obtain ⟨a4, a5⟩ := and2 h1
      have a1 := of_decide_eq_true a1
      have a2 := of_decide_eq_true a2
      subst a1 a2
      obtain ⟨nm, bs, mro, ns, qn, hd, sn, sub, ab, col, del⟩ := cd
      dsimp only at hm a3 a4
      have a3 : del = false := by simpa using a3
      subst hm a3 a4
      have hsl : sl = #[k0, k1, k2, k3, some (.builtin "ValueError.__new__"), k5] := by
        obtain ⟨l⟩ := sl
        simp at hs
        rw [hs]
      subst hsl
      exact ⟨nm, qn, ns, bs, bm, sn, sub, ab, col, dd, k0, k1, k2, k3, k5, ho, a5⟩
    · cases h1
  · cases h1
def supxB (K : PySem.W.Frag) (x f : Str) : Bool := oexB K (He.ga K x) && (decide (PySem.W.ks_superIn K (He.ga K x) (He.ga K x) "__init__" = some (some (.builtin "ValueError.__init__"))) && (decide (PySem.W.nsIn K cStatics "thirdparty.any" = some none) && (decide (PySem.W.mroIn K (He.ga K x) (.ref (He.ga K x)) = some true) && (decide (PySem.W.subIn K (.ref (He.ga K x)) (.type "ValueError") = some true) &&
  (decide (PySem.W.findIn K (.ref (He.ga K x)) f = some none) && (decide (PySem.W.findIn K (.ref (He.ga K x)) "__init__" = some (some (.ref (He.ma K (He.ga K x) "__init__")))) && decide (PySem.W.typeIn K (.ref (He.ma K (He.ga K x) "__init__")) = some (.type "function"))))))))
structure SupXF (K : PySem.W.Frag) (C fI : Addr) (f : Str) : Prop where
  sx : SupX K C C
  no : PySem.W.findIn K (.ref C) f = some none
  iC : PySem.W.findIn K (.ref C) "__init__" = some (some (.ref fI))
  tI : PySem.W.typeIn K (.ref fI) = some (.type "function")
theorem supxB_ok {K : PySem.W.Frag} {x f : Str} (h : supxB K x f = true) : SupXF K (He.ga K x) (He.ma K (He.ga K x) "__init__") f := by
  obtain ⟨h1, h⟩ := and2 h
  obtain ⟨h2, h⟩ := and2 h
  obtain ⟨h3, h⟩ := and2 h
  obtain ⟨h4, h⟩ := and2 h
  obtain ⟨h5, h⟩ := and2 h
  obtain ⟨h6, h⟩ := and2 h
  obtain ⟨h7, h8⟩ := and2 h
  exact ⟨⟨oexB_ok h1, of_decide_eq_true h2, of_decide_eq_true h3, of_decide_eq_true h4, of_decide_eq_true h5⟩, of_decide_eq_true h6, of_decide_eq_true h7, of_decide_eq_true h8⟩
end LW

namespace LW
open PySem PySem.Spec PyProof.Rows L2
/-! # {e for t in it}, e an int; its length -/
abbrev ScStep (w : World) (D : Addr) (te : TE) (N : Hp → Prop) (τ : L2.St) (G : Hp) : Prop :=
  te τ G fun y G' => ∃ (c : Int) (S : Int → Bool) (n : Nat), y = .int c ∧ G' D = some (SetO w D S n) ∧ n + 1 < scanBound ∧ N (upd G' D (SetO w D (fun j => S j || decide (j = c)) (if S c = true then n else n + 1)))
def tScI (w : World) (wi : TI) (g : TG) (te : TE) (vs : List Nat) : TE := fun τ G Q => wi τ G fun J G1 => ∀ D, G1 D = none → ∃ W : Nat → Nat → Hp → Prop, (∃ m, W 0 m (upd G1 D (SetO w D (fun _ => false) 0))) ∧ ∀ i m G, W i m G →
  (J.stop i G ∧ Q (.ref D) G) ∨ (J.go i G ∧ ∃ N : Hp → Prop, (∀ G', N G' → ∃ m', m' < m ∧ W (i + 1) m' G') ∧ ∀ x G', J.yld i G x G' → g x (L2.wipe τ vs) G' fun τ2 G2 => L2.wipe τ2 vs = L2.wipe τ vs ∧ ScStep w D te N τ2 G2)
theorem addI_ok {X : Cx} {pins : List (Addr × Obj)} {τ : L2.St} {G : Hp} {s : Shared} {E : Value → Shared → Prop} {D : Addr} {S : Int → Bool} {n : Nat} {y : Int} {tk : Tok} {Q : Value → Shared → Prop} (I : Inv X pins τ G s) (hD : G D = some (SetO X.w D S n)) (room : n + 1 < scanBound)
    (h : ∀ s', Inv X pins τ (upd G D (SetO X.w D (fun j => S j || decide (j = y)) (if S y = true then n else n + 1))) s' → Q .none s') : wpAny (model X.prog X.w) X.A (call (.builtin "set.add") [.ref D, .int y tk]) Q E s := by
  refine setR_add (setO_get I hD) room fun h' sb new => h _ (I.write (e := D) (t' := s.toks + 1) (by rw [hD]; trivial) (.inl rfl) (fun b u hb hu => (sb.2 b hb).trans hu) ?_ (setO_new new))
  have ⟨o, _, _, _, ho, _⟩ := new
  exact ⟨o, ho⟩
theorem pe_scI {X : Cx} {elt tg iter : Expr} {scope : Scope} {own : List (Str × Nat)} {pos : Pos} {wi : TI} {g : TG} {te : TE} (hc : X.calm = true) (hN : X.N.Nodup) (hi : PI X tg iter wi) (ok : BlkOk X.N X.env.scope scope own)
    (hg : ∀ (s : Shared) (H : Hp) (C : Addr) (cl : List (Str × Addr)) (fp : List Addr), L2.PG (X.blk s H scope (compEnvC scope cl C X.env) fp) tg g)
    (he : ∀ (s : Shared) (H : Hp) (C : Addr) (cl : List (Str × Addr)) (fp : List Addr), PE (X.blk s H scope (compEnvC scope cl C X.env) fp) elt te) (hs : ∀ x, foldedSetIterable iter X.env x = pure x := by intro _; rfl) :
    PE X (.SetComp elt [⟨tg, iter, [], 0⟩] scope pos) (tScI X.w wi g te (own.map (·.2))) := by
  refine ⟨fun pins s τ G Q I h => ?_⟩
  rw [PpSet.eval_SetComp]
  have fr : ∀ y ∈ scope.names, y.2 = .free → ∃ c, X.env.cells.lookup y.1 = some c := fun y hy e => (ok.free y hy e).elim (fun k => I.ok.has _ (.inl k)) fun k => I.ok.has _ (.inr k)
  refine wpAny_comprehension_free (use := none) rfl hs (closure_ok fr) ok.kind (fun y hy e => by rw [ok.uniq y hy, e]) (thn (hi.run pins s τ G _ I h) fun xv s1 hx => thn hx fun itv s2 ⟨it, fp, tn, J, G2, e, I2, T, st2, f2, q⟩ => ?_)
  subst e
  refine PpSet.newSet_ok (newEnv_comp ?_)
  obtain ⟨D, hD⟩ : ∃ D, s2.heap.objs.size = D := ⟨_, rfl⟩
  rw [hD]
  obtain ⟨W, ⟨m0, w0⟩, turn⟩ := q D (I2.hok.fresh (Nat.le_of_eq hD))
  obtain ⟨s3, hs3⟩ : ∃ s3 : Shared, ({ s2 with heap := s2.heap.push { cls := .type "set", dict := none, data := .set #[] 0 (.fresh 0 0 (!X.w.params.followText "set-order")) } } : Shared) = s3 := ⟨_, rfl⟩
  rw [hs3]
  obtain ⟨G3, hG3⟩ : ∃ G3, upd G2 D (SetO X.w D (fun _ => false) 0) = G3 := ⟨_, rfl⟩
  rw [hG3] at w0
  have kp : ∀ b o, s2.heap.get? b = some o → s3.heap.get? b = some o := fun b o e => by rw [← hs3]; exact Heap.get?_push_of_some _ e
  have I3 : Inv X pins τ G3 s3 := by
    rw [← hs3, ← hG3]
    refine I2.laid (t' := s2.toks) (fun b o e => Heap.get?_push_of_some _ e) (Nat.le_of_eq hD) ?_
    rw [← hD]
    exact setO_new (setR_fresh X.w)
  have f3 : ∀ b ∈ fp, FpOk X pins G3 b ∧ b < s3.heap.objs.size := fun b hb => by
    obtain ⟨o, ho, _⟩ := T.obj _ _ st2 b hb
    refine ⟨⟨?_, (f2 b hb).2⟩, Heap.lt_size (kp b o ho)⟩
    rw [← hG3, upd_ne (by rw [← hD]; exact Nat.ne_of_lt (Heap.lt_size ho))]
    exact (f2 b hb).1
  have I4 := block_start I3 ok hN f3
  obtain ⟨cl, hcl⟩ : ∃ cl, cellsFrom (s3.heap.objs.size + 1) scope.names (cloFrom X.env.cells scope.names []) = cl := ⟨_, rfl⟩
  rw [hcl] at I4
  have pg := hg s3 G3 s3.heap.objs.size cl fp
  have pe := he s3 G3 s3.heap.objs.size cl fp
  obtain ⟨ce, hce⟩ : ∃ ce, compEnvC scope cl s3.heap.objs.size X.env = ce := ⟨_, rfl⟩
  have cL : ce.locals = s3.heap.objs.size := by rw [← hce] <;> rfl
  rw [hce] at I4 pg pe
  obtain ⟨s4, hs4⟩ : ∃ s4 : Shared, ({ s3 with heap := pushCells (s3.heap.push { cls := .type "dict", data := .dict #[] }) scope.names } : Shared) = s4 := ⟨_, rfl⟩
  rw [hs4] at I4
  have st4 : tn 0 s4.heap := T.keep _ _ _ st2 fun b _ o e => by rw [← hs4]; exact pushCells_keeps _ _ _ _ (Heap.get?_push_of_some _ (kp b o e))
  have stat : ∀ {τ' : L2.St} {G' : Hp} {s' : Shared}, Inv (X.blk s3 G3 scope ce fp) [] τ' G' s' → (∀ b ∈ fp, G' b = none) → ∀ b ∈ fp, FpOk (X.blk s3 G3 scope ce fp) [] G' b := fun {τ' G' s'} I' hn b hb =>
    ⟨hn b hb, (I'.ok.exf b hb).1, I'.ok.exfs b hb, .inl hb, fun x c e => (I'.ok.exf b hb).2 x c e, fun p hp => absurd (show p ∈ ([] : List (Addr × Obj)) ++ [] from hp) (by simp)⟩
  have loop : codeAny (model X.prog X.w) X.A (.compLoop (.SetComp elt [⟨tg, iter, [], 0⟩] scope pos) 0 (.ref it) (.ref D) ce) (compPost (model X.prog X.w) X.A X.xe none (EP X pins τ Q) (.ref D) s3.heap.objs.size) s4 := by
    refine PpSet.compLoopS_any (fun n s' => ∃ i G', Inv (X.blk s3 G3 scope ce fp) [] (L2.wipe τ (own.map (·.2))) G' s' ∧ tn i s'.heap ∧ (∀ b ∈ fp, G' b = none) ∧ W i n G') ?_ m0 ⟨0, G3, I4, st4, fun b hb => (f3 b hb).1.1, w0⟩
    rintro n s5 ⟨i, G5, I5, st5, n5, w5⟩
    rcases turn i n G5 w5 with ⟨stop, qq⟩ | ⟨go, N, hN', step⟩
    · refine thnF (T.done (X.blk s3 G3 scope ce fp) rfl rfl rfl hc i [] s5 _ G5 (fun _ _ => False) I5 (stat I5 n5) st5 stop) fun r s6 ⟨hr, I6⟩ => ?_
      subst hr
      have I7 : Inv X pins τ G5 s6 := I3.call' (ch := fp) I6.os I6.base I6.hok I6.bare fun b hb => ⟨(f3 b hb).1.2.2.2.1, (f3 b hb).1.2.1, (f3 b hb).1.2.2.2.2.1, (f3 b hb).1.2.2.2.2.2⟩
      have nC : G5 s3.heap.objs.size = none := by
        rw [← cL]
        exact I6.free
      obtain ⟨m, hn, _⟩ := I6.loc
      have hn : s6.heap.Ns ce.locals m := hn
      rw [cL] at hn
      refine ⟨m, hn, fun h'' sb => ?_⟩
      obtain ⟨a0, a1, a2, a3, a4, a5⟩ := I3.fpOk (Nat.le_refl _) nC
      exact ⟨.ref D, G5, I7.turned (t' := s6.toks) (fun b o hb e => (sb.2 b hb).trans e) a0 a1 a3 a4 a5, rfl, qq⟩
    · refine thnF (T.item (X.blk s3 G3 scope ce fp) rfl rfl rfl hc i [] s5 _ G5 (fun _ _ => False) I5 (stat I5 n5) st5 go) fun r s6 ⟨u, hr, h6⟩ => ?_
      subst hr
      refine thnF h6 fun _ s7 ⟨x, G7, I7, r7, y7, st7, n7⟩ => ?_
      refine thnF (pg.run _ s7 _ G7 x u _ (I7.pinned (stat I7 n7) (T.obj _ _ st7)) r7 (step x G7 y7)) fun _ s8 ⟨τ8, G8, I8, hw8, q8⟩ => ?_
      refine wpAny_pure ?_
      show wpAny _ _ _ _ _ _
      refine thnF (pe.run _ s8 τ8 G8 _ I8 q8) fun z s10 ⟨yv, G10, I10, r10, cb, S0, n0, ey, hD10, hz10, nx⟩ => ?_
      subst ey
      obtain ⟨tk, rfl⟩ := (show ∃ t, z = Value.int cb t from r10)
      refine addI_ok (X := X.blk s3 G3 scope ce fp) I10 hD10 hz10 fun s' I' => ?_
      obtain ⟨m', hm, w'⟩ := hN' _ nx
      have pin' : ∀ b ∈ fp, ∀ o, s7.heap.get? b = some o → s'.heap.get? b = some o ∧ _ := fun b hb o e =>
        let z := I'.pin (b, o) (List.mem_append_right _ (List.mem_append_right _ (mem_pinsAt hb e)))
        ⟨z.1, z.2.1⟩
      have hl : (L2.wipe τ (own.map (·.2))).length = τ8.length := by rw [← hw8, wipe_length]
      refine ⟨m', hm, i + 1, _, (I'.unpinned (pins := [])).weak hl (fun j v e => ?_), T.keep _ _ _ st7 fun b hb o e => (pin' b hb o e).1, fun b hb => ?_, w'⟩
      · rw [← hw8] at e
        exact (wipe_some e).1
      · obtain ⟨o, e, _⟩ := T.obj _ _ st7 b hb
        exact (pin' b hb o e).2
  have fin := PpSet.codeAny_compStart_set (pos := pos) (scope := scope) (elt := elt) (target := tg) (iter := iter) (ifs := []) (rest := []) loop (T.self X.A 0 _ _ _ st4 loop)
  rw [← hs4, ← hce, ← hcl] at fin
  exact fin
def rLenSet (w : World) : List V → Hp → VK → Prop := fun xs H Q => ∃ (a : Addr) (S : Int → Bool) (n : Nat), xs = [.ref a] ∧ H a = some (SetO w a S n) ∧ n ≤ 1000000 ∧ Q (.int n) H
theorem cr_lenSet {X : Cx} : CallR X (.builtin "len") (rLenSet X.w) := by
  intro pins s σ H xs us Q I r h
  obtain ⟨a, S, n, rfl, ha, hz, q⟩ := h
  obtain ⟨u, rfl, ru⟩ := r.one
  cases (show u = Value.ref a from ru)
  have hS : s.heap.SetOf (intKind X.prog X.w) a S n := (setO_get I ha).setOf
  obtain ⟨o, es, ep, t, ho, hex, hd, _, _, _, hf, hn⟩ := hS
  exact call_len_set ho hex hd hf (by rw [hn] <;> omega) ⟨.int n, H, I.tok _, ⟨_, by rw [hn]⟩, q⟩
section
variable {X : Cx} {W : Wrl} {Wo : WX} {mi : Md} {qi : QTI W} {g : QTG} {qe : QT W} {vs ts : List Nat} {elt tg iter : Expr} {scope : Scope} {own : List (Str × Nat)} {pos pos2 p : Pos}
def kSc (g : QTG) (qe : QT W) (vs : List Nat) (ρ : List Sl) (ω1 : W.Ω) (ds : List D) (R : D → Prop) : Prop := still ρ vs = true ∧ ds.length ≤ 1000 ∧ ∃ f : Nat → Int, (∀ i d, ds[i]? = some d → g d (wipeP ρ vs) fun ρ2 => wipeP ρ2 vs = wipeP ρ vs ∧ qe ω1 ρ2 (fun ω2 y => ω2 = ω1 ∧ y = .int (f i)) (fun _ _ => False)) ∧
  ∀ n : Nat, (n = 1 ↔ 0 < ds.length ∧ ∀ i, i < ds.length → f i = f 0) → R (.int n)
def qLenSc (qi : QTI W) (g : QTG) (qe : QT W) (vs : List Nat) : QT W := fun ω ρ Q E => qi ω ρ (fun ω1 ds => kSc g qe vs ρ ω1 ds (Q ω1)) E
/-- the set so far, its size -/
def ScInv (f : Nat → Int) (i : Nat) (S : Int → Bool) (n : Nat) : Prop := (∀ j, S j = true ↔ ∃ k, k < i ∧ f k = j) ∧ n ≤ i ∧ (n = 0 ↔ i = 0) ∧ (n = 1 ↔ 0 < i ∧ ∀ k, k < i → f k = f 0)
theorem ScInv.step {f : Nat → Int} {i n : Nat} {S : Int → Bool} (h : ScInv f i S n) : ScInv f (i + 1) (fun j => S j || decide (j = f i)) (if S (f i) = true then n else n + 1) := by
  obtain ⟨h1, h2, h3, h4⟩ := h
  refine ⟨fun j => ?_, by split <;> omega, ?_, ?_⟩
  · rw [Bool.or_eq_true, h1 j, decide_eq_true_iff]
    refine ⟨fun z => ?_, fun ⟨k, hk, e⟩ => ?_⟩
    · rcases z with ⟨k, hk, e⟩ | z
      · exact ⟨k, by omega, e⟩
      · exact ⟨i, by omega, z.symm⟩
    · by_cases z : k = i
      · exact .inr (by rw [← e, z])
      · exact .inl ⟨k, by omega, e⟩
  · split
    · rename_i hs
      obtain ⟨k, hk, _⟩ := (h1 _).mp hs
      omega
    · omega
  · split
    · rename_i hs
      obtain ⟨k, hk, e⟩ := (h1 _).mp hs
      rw [h4]
      refine ⟨fun ⟨z1, z2⟩ => ⟨by omega, fun m hm => ?_⟩, fun ⟨_, z2⟩ => ⟨by omega, fun m hm => z2 m (by omega)⟩⟩
      by_cases y : m = i
      · rw [y, ← e]; exact z2 k hk
      · exact z2 m (by omega)
    · rename_i hs
      refine ⟨fun z => ⟨by omega, fun m hm => ?_⟩, fun ⟨_, z2⟩ => ?_⟩
      · have : i = 0 := h3.mp (by omega)
        rw [show m = 0 by omega]
      · by_cases y : i = 0
        · have := h3.mpr y
          omega
        · exact absurd ((h1 _).mpr ⟨0, by omega, (z2 i (by omega)).symm⟩) hs
theorem lf_lenSc {K : PySem.W.Frag} {w : World} (hts : ∀ j, j ∈ ts → j ∈ vs) (σ : L2.St) (H : Hp) (Q : VK) (h : lfE .A K W Wo (qLenSc qi g qe vs) σ H Q) : tCB (rLenSet w) (tCons (tScI w (lfI mi K W Wo qi) (lfG mi K W ts g) (lfE .A K W Wo0 qe) vs) tNil) σ H Q := by
  obtain ⟨F, T, ω, ρ, Qp, Ep, R, q, hx, k⟩ := h
  refine ⟨F, T, ω, ρ, _, Ep, R, q, hx, fun T1 ω1 h ds J H1 R1 e1 it ⟨hst, hlen, f, hstep, hend⟩ D hD => ?_⟩
  obtain ⟨hv, Rw, back⟩ := wipeHid vs hst R1
  have F1D : F.H D = none := R1.gr.live D hD
  have Rg := Rw.guard hD (SetO w D (fun _ => false) 0)
  have eD : Ext T1 H1 T1 (upd H1 D (SetO w D (fun _ => false) 0)) := Ext.of0 (GrP.new hD)
  have hh : ∀ p, p ∈ h → p ∈ (((F.add h).add hv).grd D).hid := fun p hp => List.mem_append_right _ (List.mem_append_left _ hp)
  have hhv : ∀ p, p ∈ hv → p ∈ ((F.add h).add hv).hid := fun p hp => List.mem_append_left _ hp
  refine ⟨fun i n H => i + n = ds.length ∧ ∃ T S z, Rel K W (((F.add h).add hv).grd D) T ω1 (wipeP ρ vs) (L2.wipe σ vs) H ∧ Ext T1 H1 T H ∧ H D = some (SetO w D S z) ∧ ScInv f i S z, ⟨ds.length, by omega, T1, _, 0, Rg, eD, upd_same, ⟨fun j => ⟨fun z => (by cases z), fun ⟨k, hk, _⟩ => by omega⟩, Nat.le_refl _, by simp, by simp⟩⟩, fun i n H2 ⟨hn, T2, S, z, R2, e2, hD2, sc⟩ => ?_⟩
  obtain ⟨h1, h2, h3⟩ := it _ T2 ω1 _ _ H2 hh R2 i
  rcases Nat.lt_or_ge i ds.length with hi | hi
  · refine .inr ⟨h1 hi, fun H' => ∃ T S z, Rel K W (((F.add h).add hv).grd D) T ω1 (wipeP ρ vs) (L2.wipe σ vs) H' ∧ Ext T1 H1 T H' ∧ H' D = some (SetO w D S z) ∧ ScInv f (i + 1) S z, fun H' q => ⟨n - 1, by omega, by omega, q⟩, fun x H3 hy => ?_⟩
    obtain ⟨g3, rx⟩ := h3 ds[i] x H3 (List.getElem?_eq_getElem hi) hy
    have R3 := R2.grow g3
    have x3 : Ext T2 H2 T2 H3 := Ext.of0 g3
    refine ⟨_, T2, ω1, _, ds[i], _, R3, rx, hstep i _ (List.getElem?_eq_getElem hi), fun ρ4 σ4 R4 l4 f4 ⟨w4, q4⟩ => ⟨wipe_same l4 f4 hts, ?_⟩⟩
    have sw : L2.wipe σ4 vs = L2.wipe σ vs := wipe_same l4 f4 hts
    refine ⟨_, T2, ω1, ρ4, _, _, R4, q4, fun _ _ _ _ _ _ _ _ z => z, fun T6 ω6 y u H6 R6 e6 r6 ⟨eω, ey⟩ => ?_⟩
    subst eω ey
    have hu : u = .int (f i) := (RR.c (m := .A) r6).int
    have zz := R6.wipe vs
    rw [w4, sw] at zz
    have hD6 : H6 D = some (SetO w D S z) := (x3.trans e6).gr.keep _ _ hD2 (.inr (R2.s0 D (.inr rfl)).2)
    refine ⟨f i, S, z, hu, hD6, ?_, T6, _, _, zz.wrS (.inr rfl) F1D (fun u hu => by rw [hD6] at hu; cases hu; rfl), ?_, upd_same, sc.step⟩
    · have := sc.2.1
      have : (2000 : Nat) < scanBound := by decide
      omega
    · have gD : GrP (fun a => a = D) H6 (upd H6 D (SetO w D (fun j => S j || decide (j = f i)) (if S (f i) = true then z else z + 1))) := GrP.wr rfl fun u hu => by rw [hD6] at hu; cases hu; rfl
      exact ⟨(e2.trans (x3.trans e6)).gr.trans gD fun a z => by rw [z]; exact .inr hD, (e2.trans (x3.trans e6)).tn⟩
  · have : i = ds.length := by omega
    subst this
    refine .inl ⟨h2 hi, ?_⟩
    have Rf : Rel K W F T2 ω1 ρ σ H2 := (back _ T2 ω1 H2 hhv R2.unguard).drop.drop
    exact ⟨D, S, z, rfl, hD2, by have := sc.2.1; omega, k T2 ω1 (.int z) _ H2 Rf (e1.trans e2) (RepA.int _) (hend z sc.2.2.2)⟩
theorem qe_lenSc (hg : Gl X "len") (hm : X.mg "len" = none) (hc : X.calm = true) (hN : X.N.Nodup) (hi : QI X mi W Wo tg iter qi) (ok : BlkOk X.N X.env.scope scope own)
    (hgt : ∀ (s : Shared) (H : Hp) (C : Addr) (cl : List (Str × Addr)) (fp : List Addr), QG (X.blk s H scope (compEnvC scope cl C X.env) fp) mi W tg ts g)
    (he : ∀ (s : Shared) (H : Hp) (C : Addr) (cl : List (Str × Addr)) (fp : List Addr), QE (X.blk s H scope (compEnvC scope cl C X.env) fp) .A W Wo0 elt qe) (hts : ∀ j, j ∈ ts → j ∈ own.map (·.2) := by decide) (hs : ∀ x, foldedSetIterable iter X.env x = pure x := by intro _; rfl)
    (h1 : starEach [.SetComp elt [⟨tg, iter, [], 0⟩] scope pos] X.env = (false, eval (.SetComp elt [⟨tg, iter, [], 0⟩] scope pos) X.env) :: starEach [] X.env := by rfl) (h2 : (backTo pos2 (starEach [] X.env)).any (·.1) = false := by rfl) :
    QE X .A W Wo (.Call (.Name "len" p) [.SetComp elt [⟨tg, iter, [], 0⟩] scope pos] [] pos2) (qLenSc qi g qe (own.map (·.2))) :=
  PE.imp (pe_callB cr_lenSet hg hm (by decide +kernel) (pa_cons (pe_scI (g := lfG mi X.K W ts g) (te := lfE .A X.K W Wo0 qe) hc hN hi ok hgt he hs) pa_nil h1) (by decide) (by decide) h1 h2) (lf_lenSc hts)
theorem v_lenSc {ω : W.Ω} {ρ : List Sl} {Q : W.Ω → D → Prop} {E : W.Ω → Exn → Prop} (h : qi ω ρ (fun ω1 ds => kSc g qe vs ρ ω1 ds (Q ω1)) E) : qLenSc qi g qe vs ω ρ Q E := h
end
end LW

namespace LW
open PySem PySem.Spec PyProof.Rows L2
/-! # count, replace, int(text), defaults -/
/-! ### count -/
def fCountT (d : LW.D) (es : List LW.D) (Q : LW.D → Prop) : Prop := ∃ (ns : List Int) (z : Int), d = .tup (dInts ns) ∧ es = [.int z] ∧ Q (.int (ns.count z : Nat))
def fCountL (d : LW.D) (es : List LW.D) (Q : LW.D → Prop) : Prop := ∃ (ns : List Int) (z : Int), d = .lst (dInts ns) ∧ es = [.int z] ∧ Q (.int (ns.count z : Nat))
def rCntT (K : PySem.W.Frag) : V → List V → Hp → VK → Prop := fun x xs H Q => ∃ (p : Addr) (ns : List Int) (k : Int), x = .ref p ∧ xs = [.int k] ∧ SqT K H p (ns.map V.int) ∧ Q (.int (ns.count k : Nat)) H
theorem mt_tcount {X : Cx} : MtR X "tuple.count" (rCntT X.K) := by
  intro pins s σ H x xs v us Q I rx rxs h
  obtain ⟨p, ns, k, rfl, rfl, hs, q⟩ := h
  cases rx
  obtain ⟨u, rfl, ru⟩ := rxs.one
  obtain ⟨t, rfl⟩ := ru
  obtain ⟨its, rv, ⟨⟨cls, dd, data, sl⟩, ho, hc, n, hd⟩, hlen⟩ := I.tuple hs
  simp only at hc hd
  subst hc hd
  have hi := ints_of_vals rv
  refine call_meets PySem.F.slot_tuple_count ⟨_, ho, rfl⟩ PySem.F.entry_tuple_count (PySem.F.args_tuple_count_2 _ _) (SeqAt.tuple_countAt p its.toArray n dd sl (.int k t) (eqk k)) ⟨ho, fun y hy => (eqk_gives hi y (by simpa using hy)).at _ _, ?_⟩
  refine ⟨.int (ns.count k : Nat), H, I.tok _, ⟨s.toks, ?_⟩, q⟩
  rw [← eqk_count hi]
theorem tcountP {K : PySem.W.Frag} : MtQ .A K (rCntT K) fCountT := fun S os H d ds v vs Q Qp hS r rs ⟨ns, z, hd, he, h⟩ k => by
  subst he hd
  obtain ⟨w, rfl, rw'⟩ := rs.one
  obtain ⟨l, xs, rfl, hl, hr⟩ := r.tup
  rw [hr.ints] at hl
  exact ⟨l, ns, z, rfl, by rw [rw'.c.int], hl, k _ _ H (GrP.refl _ _) (RepA.int _) h⟩
theorem lcountP {K : PySem.W.Frag} : MtQ .A K (rCntI K) fCountL := fun S os H d ds v vs Q Qp hS r rs ⟨ns, z, hd, he, h⟩ k => by
  subst he hd
  obtain ⟨w, rfl, rw'⟩ := rs.one
  obtain ⟨l, xs, rfl, hl, hr, _⟩ := r.lst
  rw [hr.ints] at hl
  exact ⟨l, ns, z, rfl, by rw [rw'.c.int], hl, k _ _ H (GrP.refl _ _) (RepA.int _) h⟩
theorem v_tcount {ns : List Int} {z : Int} {Q : LW.D → Prop} (h : Q (.int (ns.count z : Nat))) : fCountT (.tup (dInts ns)) [.int z] Q := ⟨ns, z, rfl, rfl, h⟩
theorem v_lcount {ns : List Int} {z : Int} {Q : LW.D → Prop} (h : Q (.int (ns.count z : Nat))) : fCountL (.lst (dInts ns)) [.int z] Q := ⟨ns, z, rfl, rfl, h⟩
/-! ### int(text) -/
def fIntS : List D → (D → Prop) → Prop
  | [.str a], Q => a.length ≤ 640 ∧ ∃ n, PySem.intText? a = some n ∧ Q (.int n)
  | _, _ => False
def rIntS : List V → Hp → VK → Prop := fun xs H Q => ∃ a n, xs = [.str a] ∧ PySem.intText? a = some n ∧ a.length ≤ 640 ∧ Q (.int n) H
theorem cr_intS {X : Cx} : CallR X (.type "int") rIntS := call_int_str
theorem intSP {K : PySem.W.Frag} : CaP .C .A K rIntS fIntS := fun S os H ds vs Q Qp hS r h k => by
  unfold fIntS at h
  split at h
  · obtain ⟨v, rfl, rv⟩ := r.one
    obtain ⟨h1, n, h2, h3⟩ := h
    rw [rv.c.str]
    exact ⟨_, n, rfl, h2, h1, k _ _ H (GrP.refl _ _) (RepA.int _) h3⟩
  · exact h.elim
theorem v_intS {a : Str} {n : Int} {Q : D → Prop} (h1 : a.length ≤ 640) (h2 : PySem.intText? a = some n) (h : Q (.int n)) : fIntS [.str a] Q := ⟨h1, n, h2, h⟩
/-! ### a[i].replace(y, z) -/
def PE1 (X : Cx) (e : Expr) (t : TE) : Prop := ∀ (pins : List (Addr × Obj)) (s : Shared) (σ : L2.St) (H : Hp) (Q : VK), Inv X pins σ H s → t σ H Q → wpAny (model X.prog X.w) X.A (eval e X.env) (fun v s' => 1 ≤ s'.toks ∧ EP X pins σ Q v s') X.xe s
theorem pe1_ix {X : Cx} {a : Expr} {n : Int} {j : Nat} {ta : TE} {r : R2} {p q : Pos} (hr : IxR X r) (ha : PE X a ta) (hs : PlainIx (.Constant (.int n) j p)) : PE1 X (.Subscript a (.Constant (.int n) j p) q) (tOp r ta (tC (.int n))) := by
  intro pins s σ H Q I h
  refine Subscript_ (thn (ha.run pins s σ H _ I h) fun v s1 ⟨x, H1, I1, r1, q1⟩ => wpAny_Constant_int ?_)
  refine wpAny_mono (PySem.wpAny_toks (hr a (.Constant (.int n) j p) pins { s1 with toks := s1.toks + 1 } σ H1 x (.int n) v (.int n s1.toks) Q (I1.tok _) r1 ⟨_, rfl⟩ q1 (hs _ _))) (fun u s' z => ⟨?_, z.2⟩) fun _ _ z => z.2
  have := z.1
  dsimp only at this
  omega
theorem pe_repl1 {X : Cx} {o : Expr} {to : TE} {y z : Str} {j k : Nat} {c0 c1 apos pos : Pos} (ho : PE1 X o to) (hyz : (y == z) = false := by decide)
    (hst : starEach [.Constant (.str y) j c0, .Constant (.str z) k c1] X.env = [(false, eval (.Constant (.str y) j c0) X.env), (false, eval (.Constant (.str z) k c1) X.env)] := by rfl)
    (hbase : attributeBase o "replace" X.env (eval o X.env) = eval o X.env := by rfl) (hline : (apos.endLine == pos.line) = true := by rfl) :
    PE X (.Call (.Attribute o "replace" apos) [.Constant (.str y) j c0, .Constant (.str z) k c1] [] pos) (CwR.tReplC to y z) := by
  refine ⟨fun pins s σ H Q I h => ?_⟩
  refine PySem.Call_method2 hbase hst hline (wpAny_mono (ho pins s σ H _ I h) (fun v s1 q => ?_) fun _ _ z => z)
  obtain ⟨hk, v', H1, I1, r1, x, e1, hb, q⟩ := q
  subst e1
  obtain ⟨tx, e2⟩ := (show ∃ t, v = Value.str x t from r1)
  subst e2
  refine ⟨"str", _, PySem.F.plainAttrs_str, PySem.F.slot_str_replace, PySem.F.type_str_replace, typeIs_str _ _ _, (fun _ e => nomatch e), Calls.callWith_builtin rfl (Calls.evalArgs_plain (Calls.spliced_cons (Calls.Constant_str (Calls.spliced_cons (Calls.Constant_str (Calls.spliced_nil ?_))))))⟩
  exact PySem.SC.replace (by show s1.toks ≠ 0; omega) (by show s1.toks + 1 ≠ 0; omega) (by show s1.toks ≠ s1.toks + 1; omega) hyz hb fun t' k => ⟨.str (Txt.replace x y z), H1, I1.tok k, ⟨t', rfl⟩, q⟩
section
variable {X : Cx} {W : Wrl} {Wo : WX} {m : Md} {a : Expr} {qa : QT W} {p q pos apos c0 c1 : Pos} {n : Int} {j k j0 : Nat} {y z : Str}
def fRepl (y z : Str) (d : D) (Q : D → Prop) : Prop := ∃ x, d = .str x ∧ x.length + (x.length + 1) * z.length ≤ 16777216 ∧ Q (.str (Txt.replace x y z))
theorem qe_repl1 (ha : QE X m W Wo a qa) (hyz : (y == z) = false := by decide) (hs : PlainIx (.Constant (.int n) j0 p) := by exact fun _ _ => rfl)
    (hst : starEach [.Constant (.str y) j c0, .Constant (.str z) k c1] X.env = [(false, eval (.Constant (.str y) j c0) X.env), (false, eval (.Constant (.str z) k c1) X.env)] := by rfl)
    (hbase : attributeBase (.Subscript a (.Constant (.int n) j0 p) q) "replace" X.env (eval (.Subscript a (.Constant (.int n) j0 p) q) X.env) = eval (.Subscript a (.Constant (.int n) j0 p) q) X.env := by rfl) (hline : (apos.endLine == pos.line) = true := by rfl) :
    QE X .A W Wo (.Call (.Attribute (.Subscript a (.Constant (.int n) j0 p) q) "replace" apos) [.Constant (.str y) j c0, .Constant (.str z) k c1] [] pos) (qUn (fRepl y z) (qOp fIxL qa (qC (.int n)))) :=
  PE.imp (pe_repl1 (pe1_ix (r := rIxL X.K) ix_list ha hs) hyz hst hbase hline) fun σ H Q ⟨F, T, ω, ρ, Qp, Ep, R, q, hx, kk⟩ => by
    refine ⟨F, T, ω, ρ, _, Ep, R, q, hx, fun T1 ω1 d v H1 R1 e1 r1 q1 => ?_⟩
    show rIxL X.K v (V.int n) H1 (fun v H1 => ∃ x, v = V.str x ∧ x.length + (x.length + 1) * z.length ≤ 16777216 ∧ Q (V.str (Txt.replace x y z)) H1)
    refine ixLP (Spr F T1 ρ) (owns ρ) H1 d (.int n) v (.int n) _ _ R1.spl r1.c (.inl (.inl (.int n))) q1 fun x u H' g rr ⟨xs, hxs, hb, q2⟩ => ?_
    subst hxs
    refine ⟨xs, (RR.c rr).str, hb, ?_⟩
    exact kk T1 ω1 _ _ H' (R1.grow g) (e1.trans (Ext.of0 g)) (RepA.str _) q2
theorem v_repl {x : Str} {Q : D → Prop} (h1 : x.length ≤ 1000) (hz : z.length = 0) (h : Q (.str (Txt.replace x y z))) : fRepl y z (.str x) Q := ⟨x, rfl, by rw [hz]; omega, h⟩
end
/-! ### defaults -/
theorem MkP.dfl {K : PySem.W.Frag} {C : Addr} {sp : Sp} {pf : PSp W0} {dvs : List V} {dds : List D} (h : MkP K C sp pf) (hd : ∀ H S, RepsA K H S dds dvs) : MkP K C (fun vs H Q E => sp (vs ++ dvs) H Q E) (fun ω ds Q E => pf ω (ds ++ dds) Q E) :=
  ⟨fun S T ds vs H Q E Qp Ep hS r q k kx x dx nx ndx ne => h.run S T (ds ++ dds) (vs ++ dvs) H Q E Qp Ep hS (RepsA.append (hd _ _) r) q k kx x dx nx ndx ne⟩
theorem repsA1 {K : PySem.W.Frag} {H : Hp} {S : ASet} {i : Int} : RepsA K H S [.int i] [.int i] := .cons (.int i) .nil
section
variable {X : Cx} {W : Wrl} {Wo : WX} {mr : Md} {pf : PSp W} {qs : QTA W} {k : Nat} {f : Addr} {fd : FuncData} {ps : List Str} {x : Str} {p pos : Pos} {e : Expr} {es : List Expr} {dvs : List V} {dds : List D} {ds : List Value}
theorem qe_callD (F : FnOk X.prog X.w X.K X.mg X.base (L2N.CX X.prog X.w) k f fd ps (spM mr X.K W pf)) (hr : Room k X.A) (hg : Gl X x) (hm : X.mg x = some (.ref f)) (hk : PySem.W.keepIn X.K (.ref f) = true) (hb : Binds X.K fd ps ds) (hd : Vals dvs ds) (hdd : ∀ H S, RepsA X.K H S dds dvs) (hx : ∀ σ, PassesAt (L2N.CX X.prog X.w) X σ (WE Wo σ))
    (ha : QA X .A W Wo (e :: es) qs) (hdb : (x == ("__debug__" : Str)) = false := by decide) (he : starEach (e :: es) X.env = (false, eval e X.env) :: starEach es X.env := by rfl) (hpl : (backTo pos (starEach es X.env)).any (·.1) = false := by rfl) :
    QE X mr W Wo (.Call (.Name x p) (e :: es) [] pos) (qCall (fun ω ds Q E => pf ω (ds ++ dds) Q E) qs) := PE.imp (pe_callSD F hr hg hm hk hb hd hx ha hdb he hpl) fun σ H Q ⟨F, T, ω, ρ, Qp, Ep, R, q, hx, k⟩ =>
  ⟨F, T, ω, ρ, _, Ep, R, q, hx, fun T1 ω1 ds vs H1 R1 e1 r1 q1 => sp_at R1 e1 hx (RepsA.append (hdd _ _) r1.reps) q1 k⟩
end
end LW

namespace LW
open PySem PySem.Spec PyProof.Rows L2
/-- the tape: the script's ints (frozen), the place, the rest of a number, a count of at most b -/
def Tape (b : Nat) (H : Hp) (t : Addr) : Prop := ∃ (a : Addr) (o : Obj) (ns : List Int) (i n k : Int), H t = some (.lst [.ref a, .int i, .int n, .int k]) ∧ H a = some (.frz o (.lst (ns.map V.int))) ∧ ns.length ≤ 63 ∧ 0 ≤ i ∧ 0 ≤ n ∧ 0 ≤ k ∧ k ≤ b
theorem Tape.mono {b b' : Nat} {H : Hp} {t : Addr} (h : Tape b H t) (l : b ≤ b') : Tape b' H t := by
  obtain ⟨a, o, ns, i, n, k, h1, h2, h4, h5, h6, h7, h8⟩ := h
  exact ⟨a, o, ns, i, n, k, h1, h2, h4, h5, h6, h7, by omega⟩
theorem Tape.gr {b : Nat} {H H' : Hp} {t : Addr} {S : List Addr} (h : Tape b H t) (g : Gr S H H') (hn : t ∉ S) : Tape b H' t := by
  obtain ⟨a, o, ns, i, n, k, h1, h2, h3⟩ := h
  exact ⟨a, o, ns, i, n, k, g.keep _ _ h1 hn, g.get h2 rfl, h3⟩
theorem Tape.gr0 {b : Nat} {H H' : Hp} {t : Addr} (h : Tape b H t) (g : Gr [] H H') : Tape b H' t := h.gr g (by simp)
theorem Tape.gr1 {b : Nat} {H H' : Hp} {t l : Addr} (h : Tape b H t) (g : Gr [l] H H') (hn : t ≠ l) : Tape b H' t := h.gr g (by simpa using hn)
theorem Tape.at {b : Nat} {H : Hp} {t : Addr} (h : Tape b H t) : ∃ xs, H t = some (.lst xs) := by
  obtain ⟨a, o, ns, i, n, k, h1, _⟩ := h
  exact ⟨_, h1⟩
theorem Tape.ne {b : Nat} {H : Hp} {t l : Addr} (h : Tape b H t) (e : H l = none) : t ≠ l := by
  obtain ⟨xs, h1⟩ := h.at
  exact ne_of_none h1 e

/-! ### the tape as a world -/
inductive TS
  | scr (a : Addr) (ns : List Int)
  | tape (t : Addr) (b : Nat)
/-- a list that nobody writes -/
def FzL (K : PySem.W.Frag) (H : Hp) (a : Addr) (xs : List V) : Prop := (∃ o, H a = some (.frz o (.lst xs))) ∨
  ∃ (o : Obj) (its : Array Value) (n : Nat), K.lookup a = some o ∧ o.cls = .type "list" ∧ o.dict = none ∧ o.data = .seq its n ∧ its.size ≤ sizeLine ∧ Vals xs its.toList
theorem FzL.sql {K : PySem.W.Frag} {H : Hp} {a : Addr} {xs : List V} (h : FzL K H a xs) : SqL K H a xs := h.imp .inr id
theorem FzL.of {K : PySem.W.Frag} {H : Hp} {a : Addr} {xs : List V} (hO : Only H) (h : SqL K H a xs) : FzL K H a xs := by
  rcases h with (h | h) | h
  · rcases hO a with z | ⟨o, ys, z⟩
    · rw [z] at h; cases h
    · rw [z] at h; cases h
  · exact .inl h
  · exact .inr h
def invT (K : PySem.W.Frag) : TS → ASet → Hp → Prop
  | .scr a ns, T, H => (∀ x, ¬ T x) ∧ FzL K H a (ns.map V.int) ∧ ns.length ≤ 63
  | .tape t b, T, H => (∀ x, T x ↔ x = t) ∧ Tape b H t
@[reducible] def WT (K : PySem.W.Frag) : Wrl where
  Ω := TS
  inv := invT K
  st := by
    intro ω T U H H' h g hU
    cases ω with
    | scr a ns =>
      obtain ⟨h1, h2, h3⟩ := h
      refine ⟨h1, ?_, h3⟩
      rcases h2 with ⟨o, h2⟩ | h2
      · exact .inl ⟨o, g.keep _ _ h2 (.inl rfl)⟩
      · exact .inr h2
    | tape t b =>
      obtain ⟨h1, a, o, ns, i, n, k, h2, h3, h4⟩ := h
      exact ⟨h1, a, o, ns, i, n, k, g.keep _ _ h2 (.inr fun z => hU t z ((h1 t).mpr rfl)), g.keep _ _ h3 (.inl rfl), h4⟩
  lv := by
    intro ω T H a h ht
    cases ω with
    | scr a ns => exact absurd ht (h.1 _)
    | tape t b =>
      obtain ⟨h1, a, o, ns, i, n, k, h2, h3, h4⟩ := h
      have := (h1 _).mp ht
      subst this
      exact ⟨_, h2, rfl⟩
variable {K : PySem.W.Frag}
def pf__law_begin (K : PySem.W.Frag) : PSp (WT K) := fun ω ds Q _ => ∃ (a : Addr) (ns : List Int), ω = TS.scr a ns ∧ ds = [.adr a] ∧ ∀ t : Addr, Q (TS.tape t 0) (.adr t)
def pf__law_draw (K : PySem.W.Frag) : PSp (WT K) := fun ω ds Q _ => ∃ (t : Addr) (b : Nat) (m : Int), ω = TS.tape t b ∧ ds = [.adr t, .int m] ∧ b < 1000000000 ∧ 0 < m ∧ m < 2 ^ 256 ∧ ∀ r : Int, 0 ≤ r → r < m → Q (TS.tape t (b + 1)) (.int r)
theorem v_begin {a : Addr} {ns : List Int} {Q : TS → D → Prop} {E : TS → Exn → Prop} (h : ∀ t : Addr, Q (.tape t 0) (.adr t)) : pf__law_begin K (TS.scr a ns) [.adr a] Q E := ⟨a, ns, rfl, rfl, h⟩
theorem v_draw {t : Addr} {b : Nat} {m : Int} {Q : TS → D → Prop} {E : TS → Exn → Prop} (hb : b < 1000000000) (hm : 0 < m) (hm2 : m < 2 ^ 256) (h : ∀ r : Int, 0 ≤ r → r < m → Q (.tape t (b + 1)) (.int r)) : pf__law_draw K (TS.tape t b) [.adr t, .int m] Q E := ⟨t, b, m, rfl, rfl, hb, hm, hm2, h⟩
/-- the law -/
def pf_law (K : PySem.W.Frag) : PSp (WT K) := fun ω ds Q _ => ∃ (a : Addr) (ns : List Int), ω = TS.scr a ns ∧ ds = [.adr a] ∧ ∀ ω', Q ω' (.bl true)
theorem sp_law_of {H : Hp} {a : Addr} {ns : List Int} (hl : ns.length ≤ 63) (hO : Only H) (hS : SqL K H a (ns.map V.int)) : spM .A K (WT K) (pf_law K) [.ref a] H (fun v _ => v = .bl true) (fun _ _ _ => False) :=
  ⟨nop, nop, TS.scr a ns, [.adr a], fun _ d => d = .bl true, fun _ _ => False, fun _ z => z.elim, ⟨fun _ z => z, FzL.of hO hS, hl⟩, .cons (.adr a) .nil, ⟨a, ns, rfl, rfl, fun _ => rfl⟩, fun T' ω' d v H' _ _ r q => by
    subst q
    exact (RR.c (m := .A) (os := []) (H := H) (show RR .A K H H' _ [] (.bl true) v from r)).bl, fun _ _ _ _ _ _ _ _ _ z => z.elim⟩
theorem from_begin {vs : List V} {H : Hp} {Q : VK} {E : XK} (h : spM .A K (WT K) (pf__law_begin K) vs H Q E) : ∃ (a : Addr) (ns : List Int), vs = [.ref a] ∧ SqL K H a (ns.map V.int) ∧ ns.length ≤ 63 ∧ ∀ t H', H t = none → Gr [] H H' → Tape 0 H' t → Q (.ref t) H' := by
  obtain ⟨S, T, ω, ds, Qp, Ep, hS, hi, r, ⟨a, ns, rfl, rfl, q⟩, k, kx⟩ := h
  obtain ⟨h1, h2, h3⟩ := hi
  cases r with
  | cons r r2 =>
    cases r2
    cases r
    refine ⟨a, ns, rfl, h2.sql, h3, fun t H' n g ht => ?_⟩
    exact k (fun x => x = t) (TS.tape t 0) (.adr t) _ H' ⟨(g.p0).mono fun _ z => z.elim, fun x z => .inr (by rw [z]; exact n)⟩ ⟨fun x => Iff.rfl, ht⟩ (RepA.adr t) (q t)
theorem from_draw {vs : List V} {H : Hp} {Q : VK} {E : XK} (h : spM .A K (WT K) (pf__law_draw K) vs H Q E) : ∃ (t : Addr) (m : Int) (b : Nat), vs = [.ref t, .int m] ∧ Tape b H t ∧ b < 1000000000 ∧ 0 < m ∧ m < 2 ^ 256 ∧ ∀ (r : Int) H', 0 ≤ r → r < m → Gr [t] H H' → Tape (b + 1) H' t → Q (.int r) H' := by
  obtain ⟨S, T, ω, ds, Qp, Ep, hS, hi, r, ⟨t, b, m, rfl, rfl, hb, hm, hm2, q⟩, k, kx⟩ := h
  obtain ⟨h1, h2⟩ := hi
  cases r with
  | cons r r2 =>
    cases r2 with
    | cons r2 r3 =>
      cases r3
      cases r
      cases r2
      refine ⟨t, m, b, rfl, h2, hb, hm, hm2, fun i H' i0 i1 g ht => ?_⟩
      obtain ⟨xs, hx⟩ := ht.at
      exact k T (TS.tape t (b + 1)) (.int i) _ H' ⟨(g.p1 ⟨_, hx⟩).mono fun x z => (h1 x).mpr z, fun x z => .inl z⟩ ⟨h1, ht⟩ (RepA.int i) (q i i0 i1)
def pf__law_shuffled (K : PySem.W.Frag) : PSp (WT K) := fun ω ds Q _ => ∃ (t : Addr) (b m : Nat), ω = TS.tape t b ∧ ds = [.adr t, .int m] ∧ b < 100000000 ∧ 1 ≤ m ∧ m ≤ 12 ∧ ∀ ps : List Int, IsNum ps → ps.length = m → Q (TS.tape t (b + 12)) (.lst (dInts ps))
theorem v_shuffled {t : Addr} {b m : Nat} {Q : TS → D → Prop} {E : TS → Exn → Prop} (hb : b < 100000000) (m1 : 1 ≤ m) (m2 : m ≤ 12) (h : ∀ ps : List Int, IsNum ps → ps.length = m → Q (.tape t (b + 12)) (.lst (dInts ps))) : pf__law_shuffled K (TS.tape t b) [.adr t, .int m] Q E := ⟨t, b, m, rfl, rfl, hb, m1, m2, h⟩
theorem from_shuffled {vs : List V} {H : Hp} {Q : VK} {E : XK} (h : spM .F K (WT K) (pf__law_shuffled K) vs H Q E) : ∃ (t : Addr) (m b : Nat), vs = [.ref t, .int m] ∧ Tape b H t ∧ b < 100000000 ∧ 1 ≤ m ∧ m ≤ 12 ∧ ∀ l ps H', H l = none → Gr [t] H H' → H' l = some (.lst (ps.map V.int)) → IsNum ps → ps.length = m → Tape (b + 12) H' t → Q (.ref l) H' := by
  obtain ⟨S, T, ω, ds, Qp, Ep, hS, hi, r, ⟨t, b, m, rfl, rfl, hb, m1, m2, q⟩, k, kx⟩ := h
  obtain ⟨h1, h2⟩ := hi
  cases r with
  | cons r r2 =>
    cases r2 with
    | cons r2 r3 =>
      cases r3
      cases r
      cases r2
      refine ⟨t, m, b, rfl, h2, hb, m1, m2, fun l ps H' n g hl hp lp ht => ?_⟩
      obtain ⟨xs, hx⟩ := ht.at
      refine k T (TS.tape t (b + 12)) (.lst (dInts ps)) _ H' ⟨(g.p1 ⟨_, hx⟩).mono fun x z => (h1 x).mpr z, fun x z => .inl z⟩ ⟨h1, ht⟩ ⟨l, _, _, rfl, rfl, n, fun z => ?_, hl, repsA_ints ps⟩ (q ps hp lp)
      rcases z with z | z
      · exact (hS l z).1 n
      · exact h2.ne n ((h1 l).mp z).symm
/-- the laws' comparison -/
def pf__law_same : PSp W0 := fun _ ds Q _ => ∃ d e : D, ds = [d, e] ∧ d = e ∧ d.lev 8 = true ∧ Q () (.bl true)
theorem v_same {d e : D} {Q : Unit → D → Prop} {E : Unit → Exn → Prop} (h1 : d = e) (h2 : d.lev 8 = true) (h : Q () (.bl true)) : pf__law_same () [d, e] Q E := ⟨d, e, rfl, h1, h2, h⟩
theorem from_same {vs : List V} {H : Hp} {Q : VK} {E : XK} (h : spM .A K W0 pf__law_same vs H Q E) : ∃ (v w : V) (d : D), vs = [v, w] ∧ Rep K H d v ∧ Rep K H d w ∧ d.lev 8 = true ∧ Q (.bl true) H := by
  obtain ⟨S, T, ω, ds, Qp, Ep, hS, hi, r, ⟨d, e, rfl, rfl, hl, q⟩, k, kx⟩ := h
  cases r with
  | cons r r2 =>
    cases r2 with
    | cons r2 r3 =>
      cases r3
      exact ⟨_, _, d, rfl, r.rep, r2.rep, hl, k T () (.bl true) _ H .refl hi (RepA.bl true) q⟩
end LW

namespace LW
open PySem PySem.Spec PyProof.Rows L2
/-! # numberings as data -/
abbrev numD (K : PySem.W.Frag) (ps : List Int) : D := .ins (NC K) ["places"] [.tup (dInts ps)]
def pf_Numbering (K : PySem.W.Frag) : PSp W0 := fun _ ds Q E => ∃ ns : List Int, (ds = [.lst (dInts ns)] ∨ ds = [.tup (dInts ns)]) ∧ ((¬ IsNum ns ∧ E () ⟨He.ga K "BadNumbering", none⟩) ∨ (IsNum ns ∧ Q () (numD K ns)))
section
variable {K : PySem.W.Frag}
theorem v_num {ns : List Int} {Q : Unit → D → Prop} {E : Unit → Exn → Prop} (hn : IsNum ns) (h : Q () (numD K ns)) : pf_Numbering K () [.lst (dInts ns)] Q E := ⟨ns, .inl rfl, .inr ⟨hn, h⟩⟩
theorem v_numT {ns : List Int} {Q : Unit → D → Prop} {E : Unit → Exn → Prop} (hn : IsNum ns) (h : Q () (numD K ns)) : pf_Numbering K () [.tup (dInts ns)] Q E := ⟨ns, .inr rfl, .inr ⟨hn, h⟩⟩
theorem v_numBad {ns : List Int} {Q : Unit → D → Prop} {E : Unit → Exn → Prop} (hn : ¬ IsNum ns) (h : E () ⟨He.ga K "BadNumbering", none⟩) : pf_Numbering K () [.lst (dInts ns)] Q E := ⟨ns, .inl rfl, .inl ⟨hn, h⟩⟩
theorem pure_num (ps : List Int) : (numD K ps).pure = true := by
  show ((D.tup (dInts ps)).pure && true) = true
  rw [Bool.and_true]
  exact pure_ints ps
theorem pure_tupI (ps : List Int) : (D.tup (dInts ps)).pure = true := pure_ints ps
theorem mkp_num : MkP K (NC K) (sp_Numbering___init__ K) (pf_Numbering K) where
  run := by
    rintro S T ds vs H Q E Qp Ep hS r ⟨ns, hd, q⟩ k kx x dx nx ndx ne
    have g := Gr.made (C := NC K) nx ndx
    have key : ∃ p, vs = [.ref p] ∧ (SqL K H p (ns.map V.int) ∨ TupX H p (ns.map V.int)) := by
      rcases hd with rfl | rfl
      · cases r with
        | cons r r2 =>
          cases r2
          obtain ⟨l, xs, rfl, hl, hr⟩ := repA_lst r
          rw [hr.ints] at hl
          exact ⟨l, rfl, .inl hl⟩
      · cases r with
        | cons r r2 =>
          cases r2
          cases r with
          | tup h hr =>
            rw [hr.ints] at h
            exact ⟨_, rfl, .inr h⟩
    obtain ⟨p, rfl, hp⟩ := key
    refine ⟨x, dx, p, ns, rfl, upd_same, hp.imp g.sql0 (·.gr g), q.imp (fun ⟨h1, h2⟩ => ⟨h1, fun H' g' => ?_⟩) fun ⟨h1, h2⟩ => ⟨h1, fun t H' g' hx ht => ⟨rfl, ?_⟩⟩⟩
    · exact kx ⟨He.ga K "BadNumbering", none⟩ _ none H' (g.trans0 g').p0 ⟨rfl, rfl⟩ h2
    · have gg : Gr [] H H' := g.transN g' nx
      exact k _ _ H' gg.p0 (.ins (xs := [.ref t]) hx rfl rfl (.cons (.tup ht (repsA_ints ns)) .nil)) h2
/-! what the methods give -/
def pf_Numbering___call__ (K : PySem.W.Frag) : PSp W0 := fun _ ds Q E => ∃ (ps : List Int) (k : Int), ds = [numD K ps, .int k] ∧ ((0 ≤ k ∧ k < ps.length ∧ Q () (.int (atP ps k))) ∨ (¬ (0 ≤ k ∧ k < ps.length) ∧ E () ⟨He.ga K "NoCell", some ("cell", .int k)⟩))
def pf_Numbering___mul__ (K : PySem.W.Frag) : PSp W0 := fun _ ds Q E => ∃ ps qs : List Int, ds = [numD K ps, numD K qs] ∧ IsNum ps ∧ IsNum qs ∧ ((ps.length ≠ qs.length ∧ E () ⟨He.ga K "BadNumbering", none⟩) ∨ (ps.length = qs.length ∧ Q () (numD K (mulP ps qs))))
def pf_Numbering___invert__ (K : PySem.W.Frag) : PSp W0 := fun _ ds Q _ => ∃ ps : List Int, ds = [numD K ps] ∧ IsNum ps ∧ Q () (numD K (invP ps))
def pf_Numbering_power (K : PySem.W.Frag) : PSp W0 := fun _ ds Q _ => ∃ (ps : List Int) (e : Int), ds = [numD K ps, .int e] ∧ IsNum ps ∧ Q () (numD K (powP ps e))
def pf_Numbering___pow__ (K : PySem.W.Frag) : PSp W0 := pf_Numbering_power K
def pf_Numbering___eq__ (K : PySem.W.Frag) : PSp W0 := fun _ ds Q _ => ∃ ps qs : List Int, ds = [numD K ps, numD K qs] ∧ Q () (.bl (decide (ps = qs)))
def pf_Numbering___len__ (K : PySem.W.Frag) : PSp W0 := fun _ ds Q _ => ∃ ps : List Int, ds = [numD K ps] ∧ Q () (.int ps.length)
def pf_Numbering_turn (K : PySem.W.Frag) : PSp W0 := fun _ ds Q E => ∃ n b : Int, ds = [.adr (NC K), .int n, .int b] ∧ ((¬ (1 ≤ n ∧ n ≤ 12) ∧ E () ⟨He.ga K "BadSize", none⟩) ∨ (1 ≤ n ∧ n ≤ 12 ∧ Q () (numD K (turnP n.toNat b))))
def pf_Numbering_plain (K : PySem.W.Frag) : PSp W0 := fun _ ds Q E => ∃ n : Int, ds = [.adr (NC K), .int n] ∧ ((¬ (1 ≤ n ∧ n ≤ 12) ∧ E () ⟨He.ga K "BadSize", none⟩) ∨ (1 ≤ n ∧ n ≤ 12 ∧ Q () (numD K (turnP n.toNat 0))))
variable {Q : Unit → D → Prop} {E : Unit → Exn → Prop} {ps qs : List Int} {k n b : Int}
theorem v_numCall (h0 : 0 ≤ k) (h1 : k < ps.length) (h : Q () (.int (atP ps k))) : pf_Numbering___call__ K () [numD K ps, .int k] Q E := ⟨ps, k, rfl, .inl ⟨h0, h1, h⟩⟩
theorem v_numCallX (h0 : ¬ (0 ≤ k ∧ k < ps.length)) (h : E () ⟨He.ga K "NoCell", some ("cell", .int k)⟩) : pf_Numbering___call__ K () [numD K ps, .int k] Q E := ⟨ps, k, rfl, .inr ⟨h0, h⟩⟩
theorem v_mul (h1 : IsNum ps) (h2 : IsNum qs) (hl : ps.length = qs.length) (h : Q () (numD K (mulP ps qs))) : pf_Numbering___mul__ K () [numD K ps, numD K qs] Q E := ⟨ps, qs, rfl, h1, h2, .inr ⟨hl, h⟩⟩
theorem v_inve (h1 : IsNum ps) (h : Q () (numD K (invP ps))) : pf_Numbering___invert__ K () [numD K ps] Q E := ⟨ps, rfl, h1, h⟩
theorem v_power (h1 : IsNum ps) (h : Q () (numD K (powP ps k))) : pf_Numbering_power K () [numD K ps, .int k] Q E := ⟨ps, k, rfl, h1, h⟩
theorem v_pow (h1 : IsNum ps) (h : Q () (numD K (powP ps k))) : pf_Numbering___pow__ K () [numD K ps, .int k] Q E := ⟨ps, k, rfl, h1, h⟩
theorem v_numEq (h : Q () (.bl (decide (ps = qs)))) : pf_Numbering___eq__ K () [numD K ps, numD K qs] Q E := ⟨ps, qs, rfl, h⟩
theorem v_numLen (h : Q () (.int ps.length)) : pf_Numbering___len__ K () [numD K ps] Q E := ⟨ps, rfl, h⟩
theorem v_turn {m : Nat} (h1 : 1 ≤ m) (h2 : m ≤ 12) (h : Q () (numD K (turnP m b))) : pf_Numbering_turn K () [.adr (NC K), .int m, .int b] Q E := ⟨m, b, rfl, .inr ⟨by omega, by omega, by rw [Int.toNat_natCast]; exact h⟩⟩
theorem v_plain {m : Nat} (h1 : 1 ≤ m) (h2 : m ≤ 12) (h : Q () (numD K (turnP m 0))) : pf_Numbering_plain K () [.adr (NC K), .int m] Q E := ⟨m, rfl, .inr ⟨by omega, by omega, by rw [Int.toNat_natCast]; exact h⟩⟩
end
/-! lists of ints as data -/
theorem atI_ints {ns : List Int} {k : Int} (h0 : 0 ≤ k) (h1 : k < ns.length) : atI (dInts ns) k = some (.int (atP ns k)) := by
  refine atI_of h0 ?_
  unfold dInts atP
  rw [List.getElem?_map, List.getD_eq_getElem?_getD, List.getElem?_eq_getElem (by omega)] <;> rfl
theorem length_dInts (ns : List Int) : (dInts ns).length = ns.length := by unfold dInts; rw [List.length_map]
theorem dInts_append (a b : List Int) : dInts a ++ dInts b = dInts (a ++ b) := by unfold dInts; rw [List.map_append]
theorem dInts_one (a : Int) : [D.int a] = dInts [a] := rfl
theorem dInts_map {α : Type} (f : α → Int) (l : List α) : l.map (fun x => D.int (f x)) = dInts (l.map f) := by unfold dInts; rw [List.map_map] <;> rfl
theorem dep_tupI (ns : List Int) (n : Nat) : (D.tup (dInts ns)).dep (n + 1) = true := dep_ints ns n
theorem dep_lstI (ns : List Int) (n : Nat) : (D.lst (dInts ns)).dep (n + 1) = true := dep_ints ns n
theorem deq_tupI {a b : List Int} : deq (.tup (dInts a)) (.tup (dInts b)) = decide (a = b) := by
  by_cases h : a = b
  · rw [decide_eq_true h, deq_t (by rw [h])]
  · rw [decide_eq_false h, deq_f fun z => h (dInts_inj (D.tup.inj z))]
theorem deq_lstI {a b : List Int} : deq (.lst (dInts a)) (.lst (dInts b)) = decide (a = b) := by
  by_cases h : a = b
  · rw [decide_eq_true h, deq_t (by rw [h])]
  · rw [decide_eq_false h, deq_f fun z => h (dInts_inj (D.lst.inj z))]
end LW

namespace LW
open PySem PySem.Spec PyProof.Rows L2
/-! # pairs by two loops, one within the other -/
def pairD (ds : List D) (k : Nat) : D := .lst [ds.getD (k / ds.length) .non, ds.getD (k % ds.length) .non]
def pairsD (ds : List D) (n : Nat) : List D := (List.range n).map (pairD ds)
theorem pairs_next {ds : List D} {i j : Nat} {x y : D} (hx : ds[i]? = some x) (hy : ds[j]? = some y) : pairsD ds (i * ds.length + j) ++ [.lst [x, y]] = pairsD ds (i * ds.length + (j + 1)) := by
  have hj := (List.getElem?_eq_some_iff.mp hy).1
  unfold pairsD
  rw [← Nat.add_assoc, List.range_succ, List.map_append]
  congr 1
  show _ = [pairD ds _]
  unfold pairD
  have e1 : (i * ds.length + j) / ds.length = i := by
    rw [Nat.add_comm, Nat.add_mul_div_right _ _ (by omega), Nat.div_eq_of_lt hj, Nat.zero_add]
  have e2 : (i * ds.length + j) % ds.length = j := by
    rw [Nat.add_comm, Nat.add_mul_mod_self_right, Nat.mod_eq_of_lt hj]
  rw [e1, e2, List.getD_eq_getElem?_getD, List.getD_eq_getElem?_getD, hx, hy] <;> rfl
theorem pairs_row {ds : List D} {i : Nat} : pairsD ds (i * ds.length + ds.length) = pairsD ds ((i + 1) * ds.length) := by rw [Nat.add_mul, Nat.one_mul]
theorem pairs_len {ds : List D} {n : Nat} : (pairsD ds n).length = n := by unfold pairsD; rw [List.length_map, List.length_range]
/-- what the law expects -/
theorem pairs_exp {ds : List D} : (rg (ds.length * ds.length)).map (fun k : Int => D.lst [ds.getD (k / (ds.length : Int)).toNat .non, ds.getD (k % (ds.length : Int)).toNat .non]) = pairsD ds (ds.length * ds.length) := by
  unfold rg pairsD
  rw [List.map_map]
  refine List.map_congr_left fun k _ => ?_
  show D.lst [ds.getD ((k : Int) / (ds.length : Int)).toNat .non, ds.getD ((k : Int) % (ds.length : Int)).toNat .non] = pairD ds k
  unfold pairD
  rw [show ((k : Int) / (ds.length : Int)).toNat = k / ds.length by rw [← Int.natCast_ediv, Int.toNat_natCast], show ((k : Int) % (ds.length : Int)).toNat = k % ds.length by rw [← Int.natCast_emod, Int.toNat_natCast]]
theorem atI_getD {ds : List D} {i : Int} (h0 : 0 ≤ i) (h1 : i < ds.length) : atI ds i = some (ds.getD i.toNat .non) := by
  refine atI_of h0 ?_
  rw [List.getD_eq_getElem?_getD, List.getElem?_eq_getElem (by omega)] <;> rfl
theorem lev_pairs {ds : List D} (h : ∀ d ∈ ds, d.lev 6 = true) (hl : ds.length ≤ 1000) : (D.lst (pairsD ds (ds.length * ds.length))).lev 8 = true := by
  have h2 : ds.length * ds.length ≤ 1000000 := by
    have := Nat.mul_le_mul hl hl
    omega
  refine Bool.and_eq_true_iff.mpr ⟨decide_eq_true (by rw [pairs_len]; exact h2), List.all_eq_true.mpr fun d hd => ?_⟩
  obtain ⟨k, hk, rfl⟩ := List.mem_map.mp hd
  have hk := List.mem_range.mp hk
  have h0 : 0 < ds.length := Nat.pos_of_ne_zero fun z => by rw [z] at hk; omega
  have g : ∀ j, j < ds.length → (ds.getD j .non).lev 6 = true := fun j hj => by
    rw [List.getD_eq_getElem?_getD, List.getElem?_eq_getElem hj]
    exact h _ (List.getElem_mem hj)
  show (decide (_ ≤ _) && ([_, _] : List D).all (D.lev 6)) = true
  simp only [List.all_cons, List.all_nil, Bool.and_true]
  rw [g _ (Nat.div_lt_of_lt_mul hk), g _ (Nat.mod_lt _ h0)] <;> rfl
theorem lev6_strs {ys : List Str} : ∀ d ∈ dStrs ys, d.lev 6 = true := fun d hd => by
  obtain ⟨i, _, rfl⟩ := List.mem_map.mp hd
  rfl
theorem lev6_ints {ys : List Int} : ∀ d ∈ dInts ys, d.lev 6 = true := fun d hd => by
  obtain ⟨i, _, rfl⟩ := List.mem_map.mp hd
  rfl
theorem cdivW {i j : Int} (h0 : 0 < j) (h1 : j < 1000000000) : CDivW i j := by
  refine ⟨h0, ?_⟩
  have h : j.natAbs ≠ 0 := by omega
  have : j.natAbs.log2 < 30 := (Nat.log2_lt h).mpr (by omega)
  omega
theorem pairD_at {ds : List D} {n i : Nat} (hn : n = ds.length) (hi : i < n * n) : atI ds ((i : Int) / (n : Int)) = some (ds.getD ((i : Int) / (ds.length : Int)).toNat .non) ∧ atI ds ((i : Int) % (n : Int)) = some (ds.getD ((i : Int) % (ds.length : Int)).toNat .non) := by
  subst hn
  have h0 : 0 < ds.length := Nat.pos_of_ne_zero fun z => by rw [z] at hi; omega
  have d1 : (i : Int) / (ds.length : Int) = ((i / ds.length : Nat) : Int) := (Int.natCast_ediv ..).symm
  have d2 : (i : Int) % (ds.length : Int) = ((i % ds.length : Nat) : Int) := (Int.natCast_emod ..).symm
  have l1 := Nat.div_lt_of_lt_mul hi
  have l2 := Nat.mod_lt i h0
  exact ⟨atI_getD (by rw [d1]; exact Int.natCast_nonneg _) (by rw [d1]; exact Int.ofNat_lt.mpr l1), atI_getD (by rw [d2]; exact Int.natCast_nonneg _) (by rw [d2]; exact Int.ofNat_lt.mpr l2)⟩
theorem map_atP {ps : List Int} : (rg ps.length).map (atP ps) = ps := by
  refine List.ext_getElem? fun i => ?_
  by_cases h : i < ps.length
  · rw [List.getElem?_map, rg_get h]
    show some (atP ps (i : Int)) = _
    unfold atP
    rw [Int.toNat_natCast, List.getD_eq_getElem?_getD, List.getElem?_eq_getElem h] <;> rfl
  · rw [List.getElem?_eq_none (by rw [List.length_map, length_rg]; omega), List.getElem?_eq_none (by omega)]
end LW

namespace LW
open PySem PySem.Spec PyProof.Rows L2
/-! # programs: their lines' texts, what they say -/
def lineNo (w : Str) (L : Nat) : Int := match (List.range L).find? fun (i : Nat) => decide (w = ((toString (i : Int) : String) : Str)) with
  | some i => i
  | none => -1
def pf__line_number : PSp W0 := fun _ ds Q _ => ∃ (w : Str) (L : Nat), ds = [.str w, .int L] ∧ L ≤ 1000 ∧ Q () (.int (lineNo w L))
theorem v_lineNo {w : Str} {L : Nat} {Q : Unit → D → Prop} {E : Unit → Exn → Prop} (h1 : L ≤ 1000) (h : Q () (.int (lineNo w L))) : pf__line_number () [.str w, .int L] Q E := ⟨w, L, rfl, h1, h⟩
theorem lineNo_some {w : Str} {L i : Nat} (h : i < L) (e : w = ((toString (i : Int) : String) : Str)) (hn : ∀ j, j < i → w ≠ ((toString (j : Int) : String) : Str)) : lineNo w L = i := by
  have : (List.range L).find? (fun (i : Nat) => decide (w = ((toString (i : Int) : String) : Str))) = some i := by
    refine List.find?_range_eq_some.mpr ⟨decide_eq_true e, List.mem_range.mpr h, fun j hj => ?_⟩
    rw [decide_eq_false (hn j hj)] <;> rfl
  unfold lineNo
  rw [this]
theorem lineNo_none {w : Str} {L : Nat} (hn : ∀ j, j < L → w ≠ ((toString (j : Int) : String) : Str)) : lineNo w L = -1 := by
  have : (List.range L).find? (fun (i : Nat) => decide (w = ((toString (i : Int) : String) : Str))) = none := by
    refine List.find?_range_eq_none.mpr fun j hj => ?_
    rw [decide_eq_false (hn j hj)] <;> rfl
  unfold lineNo
  rw [this]
def movesW : List Str := ["take", "give", "on"]
def condsW : List Str := ["first", "empty", "mine", "other", "none", "full", "enough", "behind"]
def rowD (v : Str) (b : Bool) (c : Str) (t : Int) : D := .tup [.str v, .bl b, .str c, .int t]
/-- what a line's words say -/
def parseW (w0 : Str) (ws : List Str) (L : Nat) : D :=
  if ws = [] ∧ (w0 = "rest" ∨ w0 = "room") then rowD w0 false "" 0
  else if ws = [] ∧ Txt.removesuffix w0 "*" ∈ movesW then rowD (Txt.removesuffix w0 "*") (Txt.endswith w0 "*") "" 0
  else if ws.length = 1 ∧ w0 = "wait" ∧ ws.headD "" ∈ condsW then rowD w0 false (ws.headD "") 0
  else if ws.length = 1 ∧ w0 = "go" ∧ 0 ≤ lineNo ((w0 :: ws).getLastD "") L then rowD w0 false "" (lineNo ((w0 :: ws).getLastD "") L)
  else if ws.length = 2 ∧ (w0 = "if" ∨ w0 = "unless") ∧ ws.headD "" ∈ condsW ∧ 0 ≤ lineNo ((w0 :: ws).getLastD "") L then rowD w0 false (ws.headD "") (lineNo ((w0 :: ws).getLastD "") L)
  else .non
def pf__parsed : PSp W0 := fun _ ds Q _ => ∃ (t : Str) (L : Nat) (w0 : Str) (ws : List Str), ds = [.str t, .int L] ∧ Txt.split t " " = w0 :: ws ∧ t.length ≤ 1000 ∧ w0.length ≤ 1000 ∧ ws.length ≤ 1000 ∧ L ≤ 1000 ∧ Q () (parseW w0 ws L)
abbrev PC (K : PySem.W.Frag) : Addr := He.ga K "Program"
def OkT (L : Nat) (t : Str) (r : D) : Prop := ∃ w0 ws, Txt.split t " " = w0 :: ws ∧ t.length ≤ 1000 ∧ w0.length ≤ 1000 ∧ ws.length ≤ 1000 ∧ parseW w0 ws L = r ∧ r.isNon = false ∧ r.pure = true
def OkP (ts : List Str) (rs : List D) : Prop := 1 ≤ ts.length ∧ ts.length ≤ 24 ∧ rs.length = ts.length ∧ ts[0]? = some ("rest" : Str) ∧ ∀ (i : Nat) (t : Str) (r : D), ts[i]? = some t → rs[i]? = some r → OkT ts.length t r
abbrev progD (K : PySem.W.Frag) (ts : List Str) (rs : List D) : D := .ins (PC K) ["instructions", "rows"] [.tup (dStrs ts), .tup rs]
def pf_Program (K : PySem.W.Frag) : PSp W0 := fun _ ds Q _ => ∃ (ts : List Str) (rs : List D), (ds = [.lst (dStrs ts)] ∨ ds = [.tup (dStrs ts)]) ∧ OkP ts rs ∧ Q () (progD K ts rs)
theorem mono_Program {K : PySem.W.Frag} : Mono (pf_Program K) := fun ds Q Q' E E' ⟨ts, rs, h1, h2, h3⟩ hq _ => ⟨ts, rs, h1, h2, hq _ h3⟩
theorem v_prog {K : PySem.W.Frag} {ts : List Str} {rs : List D} {Q : Unit → D → Prop} {E : Unit → Exn → Prop} (h : OkP ts rs) (q : Q () (progD K ts rs)) : pf_Program K () [.lst (dStrs ts)] Q E := ⟨ts, rs, .inl rfl, h, q⟩
theorem v_progT {K : PySem.W.Frag} {ts : List Str} {rs : List D} {Q : Unit → D → Prop} {E : Unit → Exn → Prop} (h : OkP ts rs) (q : Q () (progD K ts rs)) : pf_Program K () [.tup (dStrs ts)] Q E := ⟨ts, rs, .inr rfl, h, q⟩
theorem v_parsed {t : Str} {L : Nat} {r : D} {Q : Unit → D → Prop} {E : Unit → Exn → Prop} (h : OkT L t r) (hL : L ≤ 1000) (q : Q () r) : pf__parsed () [.str t, .int L] Q E := by
  obtain ⟨w0, ws, h1, h2, h3, h4, h5, _⟩ := h
  exact ⟨t, L, w0, ws, rfl, h1, h2, h3, h4, hL, by rw [h5]; exact q⟩
theorem pure_strs : ∀ ys : List Str, (D.tup (dStrs ys)).pure = true
  | [] => rfl
  | _ :: ys => pure_strs ys
theorem pure_tup : ∀ {ds : List D}, (∀ d ∈ ds, d.pure = true) → (D.tup ds).pure = true
  | [], _ => rfl
  | d :: ds, h => by
    show (d.pure && (D.tup ds).pure) = true
    rw [h d List.mem_cons_self, pure_tup fun x hx => h x (List.mem_cons_of_mem _ hx)] <;> rfl
/-! the texts of instructions -/
def nS (n : Nat) : Str := ((toString (n : Int) : String) : Str)
theorem nS_inj : ∀ n < 24, ∀ m < 24, nS n = nS m → n = m := by decide +kernel
theorem split_go : ∀ n < 24, Txt.split (("go " : Str) ++ nS n) " " = [("go" : Str), nS n] := by decide +kernel
theorem split_wait : ∀ c ∈ condsW, Txt.split (("wait " : Str) ++ c) " " = [("wait" : Str), c] := by decide +kernel
theorem split_if : ∀ n < 24, ∀ c ∈ condsW, Txt.split (("if " : Str) ++ c ++ " " ++ nS n) " " = [("if" : Str), c, nS n] := by decide +kernel
theorem split_unless : ∀ n < 24, ∀ c ∈ condsW, Txt.split (("unless " : Str) ++ c ++ " " ++ nS n) " " = [("unless" : Str), c, nS n] := by decide +kernel
theorem lineNo_nS {n L : Nat} (h : n < L) (hL : L ≤ 24) : lineNo (nS n) L = n := lineNo_some h rfl fun j hj e => by
  have := nS_inj n (by omega) j (by omega) e
  omega
/-! instructions -/
/-- an instruction: verb, star, condition, target -/
structure Cmd where
  v : Str
  s : Bool
  c : Str
  n : Nat
deriving DecidableEq
def Cmd.ok (L : Nat) (k : Cmd) : Prop :=
  ((k.v = "rest" ∨ k.v = "room") ∧ k.s = false ∧ k.c = "" ∧ k.n = 0) ∨ (k.v ∈ movesW ∧ k.c = "" ∧ k.n = 0) ∨ (k.v = "wait" ∧ k.s = false ∧ k.c ∈ condsW ∧ k.n = 0) ∨
  (k.v = "go" ∧ k.s = false ∧ k.c = "" ∧ k.n < L) ∨ ((k.v = "if" ∨ k.v = "unless") ∧ k.s = false ∧ k.c ∈ condsW ∧ k.n < L)
def Cmd.words (k : Cmd) : List Str :=
  if k.v = "go" then [k.v, nS k.n] else if k.v = "wait" then [k.v, k.c] else if k.v = "if" ∨ k.v = "unless" then [k.v, k.c, nS k.n] else [k.v ++ (if k.s then "*" else "")]
def Cmd.text (k : Cmd) : Str :=
  if k.v = "go" then ("go " : Str) ++ nS k.n else if k.v = "wait" then ("wait " : Str) ++ k.c else if k.v = "if" ∨ k.v = "unless" then k.v ++ " " ++ k.c ++ " " ++ nS k.n else k.v ++ (if k.s then "*" else "")
def Cmd.row (k : Cmd) : D := rowD k.v k.s k.c k.n
/-! valid lines -/
def nosc (t : Str) : Bool := (TL.tl t).all fun c => c != 59
def Ins (L : Nat) (t : Str) : Prop := t.length ≤ 40 ∧ ∃ k : Cmd, k.ok L ∧ k.text = t ∧ Txt.split t " " = k.words ∧ OkT L t k.row ∧ nosc t = true
def plainW : List Str := ["take", "take*", "give", "give*", "on", "on*", "room", "rest"]
theorem okT_of {L : Nat} {t w0 : Str} {ws : List Str} (hs : Txt.split t " " = w0 :: ws) (h1 : t.length ≤ 1000) (h2 : w0.length ≤ 1000) (h3 : ws.length ≤ 1000) {v : Str} {b : Bool} {c : Str} {n : Int} (hr : parseW w0 ws L = rowD v b c n) : OkT L t (rowD v b c n) := ⟨w0, ws, hs, h1, h2, h3, hr, rfl, rfl⟩
def plK (t : Str) : Cmd := ⟨Txt.removesuffix t "*", Txt.endswith t "*", "", 0⟩
def okPl (t : Str) : Bool := decide (Txt.split t " " = [t] ∧ t.length ≤ 40 ∧ (((t = "rest" ∨ t = "room") ∧ Txt.removesuffix t "*" = t ∧ Txt.endswith t "*" = false) ∨ Txt.removesuffix t "*" ∈ movesW) ∧ nosc t = true ∧ (plK t).text = t ∧ (plK t).words = [t])
theorem plain_all : plainW.all okPl = true := by decide +kernel
theorem ins_plain {L : Nat} {t : Str} (h : t ∈ plainW) : Ins L t := by
  obtain ⟨h1, h2, h3, h4, h5, h6⟩ := of_decide_eq_true (List.all_eq_true.mp plain_all t h)
  have hm : t = "rest" ∨ t = "room" ∨ Txt.removesuffix t "*" ∈ movesW := by
    rcases h3 with ⟨q | q, _⟩ | q
    · exact .inl q
    · exact .inr (.inl q)
    · exact .inr (.inr q)
  refine ⟨h2, plK t, ?_, h5, h1.trans h6.symm, ?_, h4⟩
  · rcases h3 with ⟨q, q2, q3⟩ | q
    · exact .inl ⟨by show Txt.removesuffix t "*" = _ ∨ Txt.removesuffix t "*" = _; rw [q2]; exact q, q3, rfl, rfl⟩
    · exact .inr (.inl ⟨q, rfl, rfl⟩)
  by_cases z : t = "rest" ∨ t = "room"
  · have q : Txt.removesuffix t "*" = t ∧ Txt.endswith t "*" = false := by
      rcases z with rfl | rfl <;> decide +kernel
    have e : (plK t).row = rowD t false "" 0 := by show rowD (Txt.removesuffix t "*") (Txt.endswith t "*") "" 0 = _; rw [q.1, q.2]
    rw [e]
    exact okT_of (v := t) (b := false) (c := "") (n := 0) h1 (by omega) (by omega) (by decide) (by unfold parseW; rw [if_pos ⟨rfl, z⟩])
  · have m : Txt.removesuffix t "*" ∈ movesW := by
      rcases hm with q | q | q
      · exact absurd (.inl q) z
      · exact absurd (.inr q) z
      · exact q
    exact okT_of (v := Txt.removesuffix t "*") (b := Txt.endswith t "*") (c := "") (n := 0) h1 (by omega) (by omega) (by decide) (by unfold parseW; rw [if_neg fun q => z q.2, if_pos ⟨rfl, m⟩])
theorem len_go : ∀ n < 24, (("go " : Str) ++ nS n).length ≤ 40 := by decide +kernel
theorem sc_go : ∀ n < 24, nosc (("go " : Str) ++ nS n) = true := by decide +kernel
theorem len_wait : ∀ c ∈ condsW, (("wait " : Str) ++ c).length ≤ 40 := by decide +kernel
theorem sc_wait : ∀ c ∈ condsW, nosc (("wait " : Str) ++ c) = true := by decide +kernel
theorem len_if : ∀ n < 24, ∀ c ∈ condsW, (("if " : Str) ++ c ++ " " ++ nS n).length ≤ 40 := by decide +kernel
theorem sc_if : ∀ n < 24, ∀ c ∈ condsW, nosc (("if " : Str) ++ c ++ " " ++ nS n) = true := by decide +kernel
theorem len_unless : ∀ n < 24, ∀ c ∈ condsW, (("unless " : Str) ++ c ++ " " ++ nS n).length ≤ 40 := by decide +kernel
theorem sc_unless : ∀ n < 24, ∀ c ∈ condsW, nosc (("unless " : Str) ++ c ++ " " ++ nS n) = true := by decide +kernel
theorem ins_go {L n : Nat} (h : n < L) (hL : L ≤ 24) : Ins L (("go " : Str) ++ nS n) := by
  have hl := len_go n (by omega)
  have e : lineNo ((("go" : Str) :: [nS n]).getLastD "") L = n := lineNo_nS h hL
  refine ⟨hl, ⟨"go", false, "", n⟩, .inr (.inr (.inr (.inl ⟨rfl, rfl, rfl, h⟩))), rfl, split_go n (by omega), okT_of (v := "go") (b := false) (c := "") (n := n) (split_go n (by omega)) (by omega) (by decide) (show 1 ≤ 1000 by decide) ?_, sc_go n (by omega)⟩
  unfold parseW
  rw [if_neg (by simp), if_neg (by simp), if_neg fun q => absurd q.2.1 (by decide), if_pos ⟨rfl, rfl, by rw [e]; omega⟩, e]
theorem ins_wait {L : Nat} {c : Str} (hc : c ∈ condsW) : Ins L (("wait " : Str) ++ c) := by
  have hl := len_wait c hc
  refine ⟨hl, ⟨"wait", false, c, 0⟩, .inr (.inr (.inl ⟨rfl, rfl, hc, rfl⟩)), rfl, split_wait c hc, okT_of (v := "wait") (b := false) (c := c) (n := 0) (split_wait c hc) (by omega) (by decide) (show 1 ≤ 1000 by decide) ?_, sc_wait c hc⟩
  unfold parseW
  rw [if_neg (by simp), if_neg (by simp), if_pos ⟨rfl, rfl, hc⟩] <;> rfl
theorem ins_if {L n : Nat} {c : Str} (h : n < L) (hL : L ≤ 24) (hc : c ∈ condsW) : Ins L (("if " : Str) ++ c ++ " " ++ nS n) := by
  have hl := len_if n (by omega) c hc
  have e : lineNo ((("if" : Str) :: [c, nS n]).getLastD "") L = n := lineNo_nS h hL
  refine ⟨hl, ⟨"if", false, c, n⟩, .inr (.inr (.inr (.inr ⟨.inl rfl, rfl, hc, h⟩))), ?_, split_if n (by omega) c hc, okT_of (v := "if") (b := false) (c := c) (n := n) (split_if n (by omega) c hc) (by omega) (by decide) (show 2 ≤ 1000 by decide) ?_, sc_if n (by omega) c hc⟩
  · show ("if" : Str) ++ " " ++ c ++ " " ++ nS n = ("if " : Str) ++ c ++ " " ++ nS n
    rw [show ("if" : Str) ++ " " = ("if " : Str) by decide +kernel]
  unfold parseW
  rw [if_neg (by simp), if_neg (by simp), if_neg (by simp), if_neg (by simp), if_pos ⟨rfl, .inl rfl, hc, by rw [e]; omega⟩, e] <;> rfl
theorem ins_unless {L n : Nat} {c : Str} (h : n < L) (hL : L ≤ 24) (hc : c ∈ condsW) : Ins L (("unless " : Str) ++ c ++ " " ++ nS n) := by
  have hl := len_unless n (by omega) c hc
  have e : lineNo ((("unless" : Str) :: [c, nS n]).getLastD "") L = n := lineNo_nS h hL
  refine ⟨hl, ⟨"unless", false, c, n⟩, .inr (.inr (.inr (.inr ⟨.inr rfl, rfl, hc, h⟩))), ?_, split_unless n (by omega) c hc, okT_of (v := "unless") (b := false) (c := c) (n := n) (split_unless n (by omega) c hc) (by omega) (by decide) (show 2 ≤ 1000 by decide) ?_, sc_unless n (by omega) c hc⟩
  · show ("unless" : Str) ++ " " ++ c ++ " " ++ nS n = ("unless " : Str) ++ c ++ " " ++ nS n
    rw [show ("unless" : Str) ++ " " = ("unless " : Str) by decide +kernel]
  unfold parseW
  rw [if_neg (by simp), if_neg (by simp), if_neg (by simp), if_neg (by simp), if_pos ⟨rfl, .inr rfl, hc, by rw [e]; omega⟩, e] <;> rfl
/-! a program's texts, joined and split again -/
theorem nosc_not {t : Str} (h : nosc t = true) : 59 ∉ TL.tl t := fun z => by
  have := List.all_eq_true.mp h 59 z
  exact absurd this (by decide)
theorem split_joinP {ts : List Str} (h0 : ts ≠ []) (h : ∀ t ∈ ts, nosc t = true) : Txt.split (Txt.join "; " ts) "; " = ts :=
  TL.split_join (s := 59) (S := [32]) (by decide +kernel) (by decide +kernel) h0 fun p hp => nosc_not (h p hp)
theorem exists_rows {L : Nat} : ∀ {ts : List Str}, (∀ t ∈ ts, Ins L t) → ∃ rs : List D, rs.length = ts.length ∧ ∀ (i : Nat) (t : Str) (r : D), ts[i]? = some t → rs[i]? = some r → OkT L t r
  | [], _ => ⟨[], rfl, fun i t r h => by simp at h⟩
  | t :: ts, h => by
    obtain ⟨rs, h1, h2⟩ := exists_rows (ts := ts) fun x hx => h x (List.mem_cons_of_mem _ hx)
    obtain ⟨_, k, _, _, _, hr, _⟩ := h t List.mem_cons_self
    refine ⟨k.row :: rs, by simp [h1], fun i t' r' e1 e2 => ?_⟩
    cases i with
    | zero =>
      simp at e1 e2
      subst e1 e2
      exact hr
    | succ i => exact h2 i t' r' (by simpa using e1) (by simpa using e2)
/-- a list of valid instructions: a program -/
def WrittenP (ts : List Str) : Prop := 1 ≤ ts.length ∧ ts.length ≤ 24 ∧ ts[0]? = some ("rest" : Str) ∧ ∀ t ∈ ts, Ins ts.length t
theorem WrittenP.ok {ts : List Str} (h : WrittenP ts) : ∃ rs, OkP ts rs := by
  obtain ⟨rs, h1, h2⟩ := exists_rows h.2.2.2
  exact ⟨rs, h.1, h.2.1, h1, h.2.2.1, h2⟩
theorem WrittenP.split {ts : List Str} (h : WrittenP ts) : Txt.split (Txt.join "; " ts) "; " = ts := split_joinP (fun z => by have := h.1; rw [z] at this; exact absurd this (by decide)) fun t ht => by
  obtain ⟨_, _, _, _, _, _, z⟩ := h.2.2.2 t ht
  exact z
theorem sum_le {ts : List Str} (h : ∀ t ∈ ts, t.length ≤ 40) : (ts.map (·.length)).sum ≤ 40 * ts.length := by
  induction ts with
  | nil => simp
  | cons t ts ih =>
    have h1 := h t List.mem_cons_self
    have h2 := ih fun x hx => h x (List.mem_cons_of_mem _ hx)
    simp only [List.map_cons, List.sum_cons, List.length_cons]
    omega
theorem WrittenP.sum {ts : List Str} (h : WrittenP ts) : (ts.map (·.length)).sum + ts.length * ("; " : Str).length ≤ 16777216 := by
  have h1 := sum_le fun t ht => (h.2.2.2 t ht).1
  have h2 := h.2.1
  show _ + ts.length * 2 ≤ _
  omega
theorem join_len (y : Str) : ∀ ts : List Str, (Txt.join y ts).length ≤ (ts.map (·.length)).sum + ts.length * y.length := fun ts => by
  have key : ∀ (S : List Nat) (ps : List (List Nat)), (TL.joinL S ps).length ≤ (ps.map (·.length)).sum + ps.length * S.length := fun S ps => by
    induction ps with
    | nil => simp [TL.joinL]
    | cons p ps ih =>
      cases ps with
      | nil => simp [TL.joinL]
      | cons q r =>
        show (p ++ (S ++ TL.joinL S (q :: r))).length ≤ _
        simp only [List.length_append, List.map_cons, List.sum_cons, List.length_cons, Nat.add_mul, Nat.one_mul] at ih ⊢
        omega
  have e : ∀ x : Str, x.length = (TL.tl x).length := fun x => by first | rfl | simp [TL.tl, Str.length]
  rw [TL.join_eq, e, TL.tl_join, e y]
  have h := key (TL.tl y) (ts.map TL.tl)
  rw [List.map_map, List.length_map] at h
  have e2 : ((fun x : List Nat => x.length) ∘ TL.tl) = fun x : Str => x.length := funext fun x => (e x).symm
  rw [e2] at h
  exact h
def stdW : List Str := ["rest", "take*", "if enough 7", "unless behind 1", "give*", "wait none", "go 1", "room", "give*"]
theorem ins_std : ∀ t ∈ stdW, Ins 9 t := by
  intro t ht
  have : t = "rest" ∨ t = "take*" ∨ t = ("if " : Str) ++ "enough" ++ " " ++ nS 7 ∨ t = ("unless " : Str) ++ "behind" ++ " " ++ nS 1 ∨ t = "give*" ∨ t = ("wait " : Str) ++ "none" ∨ t = ("go " : Str) ++ nS 1 ∨ t = "room" := by
    revert t
    decide +kernel
  rcases this with rfl | rfl | rfl | rfl | rfl | rfl | rfl | rfl
  · exact ins_plain (by decide)
  · exact ins_plain (by decide)
  · exact ins_if (by decide) (by decide) (by decide)
  · exact ins_unless (by decide) (by decide) (by decide)
  · exact ins_plain (by decide)
  · exact ins_wait (by decide)
  · exact ins_go (by decide) (by decide)
  · exact ins_plain (by decide)
theorem written_std : WrittenP stdW := ⟨by decide, by decide, rfl, ins_std⟩
theorem pure_prog {K : PySem.W.Frag} {ts : List Str} {rs : List D} (h : OkP ts rs) : (progD K ts rs).pure = true := by
  show ((D.tup (dStrs ts)).pure && ((D.tup rs).pure && true)) = true
  rw [pure_strs, pure_tup fun d hd => ?_] <;> try rfl
  obtain ⟨i, hi⟩ := List.getElem?_of_mem hd
  have hil := (List.getElem?_eq_some_iff.mp hi).1
  obtain ⟨h1, h2, h3, h4, h5⟩ := h
  obtain ⟨t, ht⟩ : ∃ t, ts[i]? = some t := ⟨_, List.getElem?_eq_getElem (by omega)⟩
  obtain ⟨_, _, _, _, _, _, _, _, z⟩ := h5 i t d ht hi
  exact z
/-! what the methods give -/
section
variable {K : PySem.W.Frag} {Q : Unit → D → Prop} {E : Unit → Exn → Prop} {ts : List Str} {rs : List D}
def pf_Program___len__ (K : PySem.W.Frag) : PSp W0 := fun _ ds Q _ => ∃ (ts : List Str) (rs : List D), ds = [progD K ts rs] ∧ Q () (.int ts.length)
def pf_Program_text (K : PySem.W.Frag) : PSp W0 := fun _ ds Q _ => ∃ (ts : List Str) (rs : List D), ds = [progD K ts rs] ∧ (ts.map (·.length)).sum + ts.length * ("; " : Str).length ≤ 16777216 ∧ Q () (.str (Txt.join "; " ts))
def pf_Program_read (K : PySem.W.Frag) : PSp W0 := fun _ ds Q _ => ∃ (t : Str) (ts : List Str) (rs : List D), ds = [.adr (PC K), .str t] ∧ t.length ≤ 100000 ∧ Txt.split t "; " = ts ∧ OkP ts rs ∧ Q () (progD K ts rs)
def pf_standard_program (K : PySem.W.Frag) : PSp W0 := fun _ ds Q _ => ∃ rs : List D, ds = [] ∧ OkP stdW rs ∧ Q () (progD K stdW rs)
theorem v_progLen (h : Q () (.int ts.length)) : pf_Program___len__ K () [progD K ts rs] Q E := ⟨ts, rs, rfl, h⟩
theorem v_progText (h1 : WrittenP ts) (h : Q () (.str (Txt.join "; " ts))) : pf_Program_text K () [progD K ts rs] Q E := ⟨ts, rs, rfl, h1.sum, h⟩
theorem v_progRead (h1 : WrittenP ts) (h2 : OkP ts rs) (h : Q () (progD K ts rs)) : pf_Program_read K () [.adr (PC K), .str (Txt.join "; " ts)] Q E := ⟨_, ts, rs, rfl, by
  have h3 := h1.sum
  have h4 := join_len "; " ts
  have h5 := sum_le fun t ht => (h1.2.2.2 t ht).1
  have h6 := h1.2.1
  have h7 : ("; " : Str).length = 2 := by decide
  rw [h7] at h4
  omega, h1.split, h2, h⟩
theorem v_std (h2 : OkP stdW rs) (h : Q () (progD K stdW rs)) : pf_standard_program K () [] Q E := ⟨rs, rfl, h2, h⟩
end
end LW

namespace LW
open PySem PySem.Spec PyProof.Rows L2
/-! # more answers -/
section
variable {R : Bool → Prop} {i : Int} {z : Str} {ds : List D} {b : Bool} {Q1 : D → Prop}
theorem kit_int : kitB "int" "int" = some true := by decide +kernel
theorem kit_intB : kitB "int" "bool" = some false := by decide +kernel
theorem kit_tup : kitB "tuple" "tuple" = some true := by decide +kernel
theorem kit_lst : kitB "list" "list" = some true := by decide +kernel
theorem kit_bl : kitB "bool" "bool" = some true := by decide +kernel
theorem kit_str : kitB "str" "str" = some true := by decide +kernel
theorem v_isInt (h : R true) : kIsT "int" (.int i) R := ⟨rfl, true, kit_int, h⟩
theorem v_isIntB (h : R false) : kIsT "bool" (.int i) R := ⟨rfl, false, kit_intB, h⟩
theorem v_isTup (h : R true) : kIsT "tuple" (.tup ds) R := ⟨rfl, true, kit_tup, h⟩
theorem v_isLst (h : R true) : kIsT "list" (.lst ds) R := ⟨rfl, true, kit_lst, h⟩
theorem v_isBl (h : R true) : kIsT "bool" (.bl b) R := ⟨rfl, true, kit_bl, h⟩
theorem v_isStr (h : R true) : kIsT "str" (.str z) R := ⟨rfl, true, kit_str, h⟩
end
theorem sDecT {p : Prop} [Decidable p] {A : Bool → Prop} (hp : p) (h : A true) : A (decide p) := by rw [decide_eq_true hp]; exact h
theorem sDecF {p : Prop} [Decidable p] {A : Bool → Prop} (hp : ¬ p) (h : A false) : A (decide p) := by rw [decide_eq_false hp]; exact h
theorem any_dInts {z : Int} : ∀ ns : List Int, ((dInts ns).any fun x => x.same (.int z)) = decide (z ∈ ns)
  | [] => by simp [dInts]
  | n :: ns => by
    show (decide (n = z) || ((dInts ns).any fun x => x.same (.int z))) = _
    rw [any_dInts ns]
    by_cases h : n = z
    · subst h; simp
    · have h' : z ≠ n := fun q => h q.symm
      simp [h, h']
theorem flat_dInts (ns : List Int) : (dInts ns).all D.flat = true := List.all_eq_true.mpr fun d hd => by
  obtain ⟨i, _, rfl⟩ := List.mem_map.mp hd
  rfl
theorem v_inLI {z : Int} {ns : List Int} {Q1 : D → Prop} (h : Q1 (.bl (decide (z ∈ ns)))) : fIn false (.int z) (.lst (dInts ns)) Q1 := ⟨dInts ns, .inl rfl, rfl, flat_dInts ns, by rw [any_dInts]; exact h⟩
theorem v_inTI {z : Int} {ns : List Int} {Q1 : D → Prop} (h : Q1 (.bl (decide (z ∈ ns)))) : fIn false (.int z) (.tup (dInts ns)) Q1 := ⟨dInts ns, .inr rfl, rfl, flat_dInts ns, by rw [any_dInts]; exact h⟩
theorem v_ninLI {z : Int} {ns : List Int} {Q1 : D → Prop} (h : Q1 (.bl (!decide (z ∈ ns)))) : fIn true (.int z) (.lst (dInts ns)) Q1 := ⟨dInts ns, .inl rfl, rfl, flat_dInts ns, by rw [any_dInts]; exact h⟩
theorem v_ninTI {z : Int} {ns : List Int} {Q1 : D → Prop} (h : Q1 (.bl (!decide (z ∈ ns)))) : fIn true (.int z) (.tup (dInts ns)) Q1 := ⟨dInts ns, .inr rfl, rfl, flat_dInts ns, by rw [any_dInts]; exact h⟩
/-- a test whose outcome is known -/
theorem w_iteT {p : Prop} [Decidable p] {A B : Prop} (hp : p) (h : A) : if decide p = true then A else B := by rw [if_pos (decide_eq_true hp)]; exact h
theorem w_iteF {p : Prop} [Decidable p] {A B : Prop} (hp : ¬ p) (h : B) : if decide p = true then A else B := by rw [if_neg (by simpa using hp)]; exact h
theorem w_iteNT {p : Prop} [Decidable p] {A B : Prop} (hp : p) (h : B) : if (!decide p) = true then A else B := by rw [if_neg (by simpa using hp)]; exact h
theorem w_iteNF {p : Prop} [Decidable p] {A B : Prop} (hp : ¬ p) (h : A) : if (!decide p) = true then A else B := by rw [if_pos (by simpa using hp)]; exact h
end LW

namespace LW
open PySem PySem.Spec PyProof.Rows L2
/-! # slices of texts -/
def fSlS : D → Option Int → Option Int → (D → Prop) → Prop
  | .str z, lo, hi, Q => z.length ≤ sizeLine ∧ Q (.str (Txt.slice z lo hi))
  | _, _, _, _ => False
theorem slSP {K : PySem.W.Frag} : SlP .A K C8.rSlX fSlS := fun S os H d v lo hi Q Qp hS r1 h k => by
  cases d <;> first | (exact h.elim) | skip
  obtain ⟨hz, h⟩ := h
  exact ⟨_, r1.str, hz, k _ _ H (GrP.refl _ _) (.str _) h⟩
theorem v_slS {z : Str} {lo hi : Option Int} {Q : D → Prop} (h1 : z.length ≤ sizeLine) (h : Q (.str (Txt.slice z lo hi))) : fSlS (.str z) lo hi Q := ⟨h1, h⟩
theorem v_lenS {z : Str} {Q : D → Prop} (h1 : z.length ≤ sizeLine) (h : Q (.int z.length)) : fLenS [.str z] Q := ⟨h1, h⟩
theorem len_cps (z : Str) : z.length = z.cps.toList.length := by
  conv => lhs; rw [← SX.S_tl z]
  exact SX.S_len _
theorem len_slTo {z : Str} {i : Int} (h : 0 ≤ i) : (Txt.slice z none (some i)).length ≤ z.length ∧ (Txt.slice z none (some i)).length ≤ i.toNat := by
  have e : Txt.slice z none (some i) = SX.S (z.cps.toList.take i.toNat) := by
    conv => lhs; rw [← SX.S_tl z]
    exact SX.slice_to h
  rw [e, SX.S_len, len_cps z, List.length_take]
  exact ⟨Nat.min_le_right _ _, Nat.min_le_left _ _⟩
theorem len_slFrom {z : Str} {i : Int} (h : 0 ≤ i) : (Txt.slice z (some i) none).length = z.length - i.toNat := by
  have e : Txt.slice z (some i) none = SX.S (z.cps.toList.drop i.toNat) := by
    conv => lhs; rw [← SX.S_tl z]
    exact SX.slice_from h
  rw [e, SX.S_len, len_cps z, List.length_drop]
theorem v_ixS {z : Str} {i : Int} {Q : D → Prop} (h1 : z.length ≤ sizeLine) (h0 : 0 ≤ i) (hi : i < z.length) (h : ∀ c : Nat, Q (.str ⟨#[c]⟩)) : fIxS (.str z) (.int i) Q := by
  rw [len_cps] at hi
  have e := List.getElem?_eq_getElem (l := z.cps.toList) (i := i.toNat) (by omega)
  exact ⟨h1, _, atI_of h0 e, h _⟩
end LW

namespace LW
open PySem PySem.Spec PyProof.Rows L2
/-! # raise C(e) from C'(x), x a name of the def's -/
theorem pmk5_oexN {X : Cx} {x : Str} {C fI : Addr} {k : Nat} {fd : FuncData} {ps : List Str} {sp : Sp} {e : Expr} {es : List Expr} {ta : TA} {p pos : Pos} (T : OexC X.K C) (iC : PySem.W.findIn X.K (.ref C) "__init__" = some (some (.ref fI))) (tI : PySem.W.typeIn X.K (.ref fI) = some (.type "function"))
    (F1 : FnOk X.prog X.w X.K X.mg X.base (L2N.CX X.prog X.w) k fI fd ps sp) (hr : Room (k + 1) X.A) (hb : Binds X.K fd ps []) (hg : Gl X x) (hm : X.mg x = some (.ref C)) (ha : PA X (e :: es) ta)
    (hdb : (x == ("__debug__" : Str)) = false := by decide) (he : starEach (e :: es) X.env = (false, eval e X.env) :: starEach es X.env := by rfl) (hpl : (backTo pos (starEach es X.env)).any (·.1) = false := by rfl) :
    L2H.PMk5 X (.Call (.Name x p) (e :: es) [] pos) (tMkO C sp [] ta) := by
  intro pins s σ H Q I h
  obtain ⟨nm, q, N, bs, bm, sn, sub, ab, col, dd, k0, k1, k2, k3, k5, hC, hbm⟩ := T.cls
  refine wpAny_Call_Name_kw (ld_glob I hg hm ?_ hdb)
  refine PySem.W.callWith_K (h₀ := X.base) I.ok.mod.kin T.kC (thn (ha.run pos pins s σ H _ I h) fun us s1 ⟨vs, H1, I1, r1, hz, q1⟩ => ⟨I1.kIn, ?_⟩) he hpl
  show wpAny _ _ (call (.ref C) us) _ _ _
  obtain ⟨hp, g, dr, tk, os⟩ := s1
  have hsz : hp.objs.size ≤ hp.objs.size + 1 := Nat.le_succ _
  have hn : H1 (hp.objs.size + 1) = none := I1.hok.fresh hsz
  have hq := q1 (hp.objs.size + 1) hn
  rw [List.append_nil] at hq
  have kk : ∀ b o, hp.get? b = some o → ((hp.push (PySem.W.kdv_tup us)).push (PySem.HandSPX.excO C hp.objs.size)).get? b = some o := fun b o e => Heap.get?_push_of_some _ (Heap.get?_push_of_some _ e)
  have hget : ((hp.push (PySem.W.kdv_tup us)).push (PySem.HandSPX.excO C hp.objs.size)).get? (hp.objs.size + 1) = some (PySem.HandSPX.excO C hp.objs.size) := by heap_get
  have I2 : Inv X pins σ (upd H1 (hp.objs.size + 1) (exo (hp.objs.size + 1) C none)) ⟨(hp.push (PySem.W.kdv_tup us)).push (PySem.HandSPX.excO C hp.objs.size), g, dr, tk, os⟩ :=
    I1.laid (t' := tk) (a := hp.objs.size + 1) (o := exo (hp.objs.size + 1) C none) (h' := (hp.push (PySem.W.kdv_tup us)).push (PySem.HandSPX.excO C hp.objs.size)) kk hsz (exo_ok hget)
  have r2 : Vals (V.ref (hp.objs.size + 1) :: vs) (Value.ref (hp.objs.size + 1) :: us) := .cons rfl r1
  have hl : (Value.ref (hp.objs.size + 1) :: us).length = ps.length := by
    have e := r2.length
    rw [F1.len _ _ _ _ hq] at e
    exact e.symm
  have hus : us.length ≤ sizeLine := by
    rw [← Paired.length r1, sizeLine_eq]
    omega
  have hbb := hb _ (Value.ref (hp.objs.size + 1) :: us) I2.kIn (by rw [List.append_nil]; exact hl)
  rw [List.append_nil] at hbb
  refine wpAny_call (PySem.HandSPX.call_own PySem.F.excBase_ValueError (fun Y => PySem.HandSPX.refsVE_contains Y bm hbm) (I1.kIn _ _ hC) (PySem.W.looks_findIn I1.kIn iC) (fun self => PySem.W.bind_fn I1.kIn self tI) hus
    (codeAny_mono (F1.run _ X.stack _ _ ⟨Value.ref (hp.objs.size + 1) :: us, []⟩ (Value.ref (hp.objs.size + 1) :: us) _ _ (fun _ _ _ => False) (hr.make C us []) (I2.env0.make C us []) hbb r2 hq) fun r s' hq' => ?_))
  cases r with
  | error er =>
    obtain ⟨_, _, _, _, _, _, _, _, _, _, _, zz⟩ := hq'
    exact zz.2.elim
  | ok fl =>
    cases fl with
    | ret u =>
      obtain ⟨v, H2, os2, bare2, un2, hok2, rv, ev, d, fs, ea, ed, hd1, q2⟩ := hq'
      subst ev
      obtain ⟨h2, g2, d2, t2, os'⟩ := s'
      obtain ⟨t0, G, J, kG, ge, hoe, na⟩ := mk_end0 (d2 := d2) (t2 := t2) I1 hsz kk un2 hok2 os2 bare2 ea ed hd1
      refine ⟨rv, ⟨_, _, _, ⟨G, g2, d2, t2, os'⟩, _, .ref C, some d, rfl, J, kG, ge, hoe, ⟨rfl, rfl, fun vs e => by cases e; rfl⟩, rfl, rfl, na, rfl, bare2, raises_own T.exC T.tyC, q2⟩, fun b oe ws e1 e2 e3 => ?_⟩
      cases e1
      have e2' : h2.get? _ = some oe := e2
      rw [hoe] at e2'
      cases e2'
      cases e3
      show (4 : Nat) < 6
      decide
    | next => exact False.elim hq'
    | brk => exact False.elim hq'
    | cont => exact False.elim hq'

/-- the record with its cause: field 3 the cause, field 4 True -/
def causeFrom (h : Heap) (a b : Addr) : Heap := (h.update a (Obj.mapFields (·.setIfInBounds 3 (.ref b)))).update a (Obj.mapFields (·.setIfInBounds 4 (.bool true)))
theorem causeFrom_at {h : Heap} {a b : Addr} {oe : Obj} {vs : Array Value} (ha : h.get? a = some oe) (hd : oe.data = .fields vs) :
    (causeFrom h a b).get? a = some ((oe.mapFields (·.setIfInBounds 3 (.ref b))).mapFields (·.setIfInBounds 4 (.bool true))) ∧ ((oe.mapFields (·.setIfInBounds 3 (.ref b))).mapFields (·.setIfInBounds 4 (.bool true))).data = .fields ((vs.setIfInBounds 3 (.ref b)).setIfInBounds 4 (.bool true)) := by
  have hd3 := Obj.data_mapFields hd (·.setIfInBounds 3 (.ref b))
  have ha3 := Heap.get?_update_self (Obj.mapFields (·.setIfInBounds 3 (.ref b))) ha (Obj.isFreed_of_fields hd3)
  have hd4 := Obj.data_mapFields hd3 (·.setIfInBounds 4 (.bool true))
  exact ⟨Heap.get?_update_self (Obj.mapFields (·.setIfInBounds 4 (.bool true))) ha3 (Obj.isFreed_of_fields hd4), hd4⟩
theorem causeFrom_other {h : Heap} {a b c : Addr} (hne : a ≠ c) : (causeFrom h a b).get? c = h.get? c := by
  unfold causeFrom
  rw [Heap.get?_update_other _ _ hne, Heap.get?_update_other _ _ hne]
theorem raise_made_from {M : Model} {A : Around} {E : Value → Shared → Prop} {env : Env} {s : Shared} {x c : Sem Value} {Q : Flow → Shared → Prop} (hh : A.handled = none)
    (h : wpAny M A x (fun v s₁ => wpAny M A c (fun u s₂ => ∃ a oe vs cls b ob vb cb, v = .ref a ∧ u = .ref b ∧ s₂.heap.get? a = some oe ∧ oe.cls = cls ∧ oe.data = .fields vs ∧ vs[1]? = some .none ∧ 4 < vs.size ∧
      s₂.heap.get? b = some ob ∧ ob.cls = cb ∧ ob.data = .fields vb ∧
      PySem.W.Looks M s₂.heap (isSubtype cls (.type "BaseException")) true ∧ PySem.W.Looks M s₂.heap (isSubtype cb (.type "BaseException")) true ∧ PySem.W.Looks M (causeFrom s₂.heap a b) (typeOf cls) (.type "type") ∧
      E (.ref a) { s₂ with heap := causeFrom s₂.heap a b }) E s₁) E s) :
    wpAny M A (raiseStmt env (some x) (some c)) Q E s := by
  unfold raiseStmt
  dsimp only
  refine wpAny_bind (wpAny_mono h (fun v s₀ h₀ => ?_) fun _ _ x => x)
  refine wpAny_bind (wpAny_holding (wpAny_mono h₀ (fun u s₁ h₁ => ?_) fun _ _ x => x))
  obtain ⟨a, oe, vs, cls, b, ob, vb, cb, rfl, rfl, ha, hcls, hd, h1, hi, hb, hcb, hdb, L1, L2, L3, hE⟩ := h₁
  have LT : PySem.W.Looks M s₁.heap (typeOf (.ref a)) cls := fun A Q E s k q => wpAny_typeOf_ref (k _ _ ha) (by rw [hcls]; exact q)
  have LI : PySem.W.Looks M s₁.heap (isInstance (.ref a) (.type "BaseException")) true := LT.andThen L1
  have LTb : PySem.W.Looks M s₁.heap (typeOf (.ref b)) cb := fun A Q E s k q => wpAny_typeOf_ref (k _ _ hb) (by rw [hcb]; exact q)
  have LIb : PySem.W.Looks M s₁.heap (isInstance (.ref b) (.type "BaseException")) true := LTb.andThen L2
  have hnt : ∀ {Q' : Bool → Shared → Prop}, Q' false s₁ → wpAny M A (isType (.ref a)) Q' E s₁ := by
    intro Q' hq
    simp only [isType, loadHead]
    refine wpAny_bind (wpAny_loadPart ha ?_)
    rw [hd]; exact wpAny_pure hq
  have hntb : ∀ {Q' : Bool → Shared → Prop}, Q' false s₁ → wpAny M A (isType (.ref b)) Q' E s₁ := by
    intro Q' hq
    simp only [isType, loadHead]
    refine wpAny_bind (wpAny_loadPart hb ?_)
    rw [hdb]; exact wpAny_pure hq
  have hd3 := Obj.data_mapFields hd (·.setIfInBounds 3 (.ref b))
  have ha3 := Heap.get?_update_self (Obj.mapFields (·.setIfInBounds 3 (.ref b))) ha (Obj.isFreed_of_fields hd3)
  obtain ⟨ha4, hd4⟩ := causeFrom_at (b := b) ha hd
  have s3 : 3 < vs.size := by omega
  have s4 : 4 < (vs.setIfInBounds 3 (.ref b)).size := by rw [HotX.set_size]; exact hi
  have h14 : ((vs.setIfInBounds 3 (.ref b)).setIfInBounds 4 (Value.bool true))[1]? = some Value.none := HotX.set_other (by decide) (HotX.set_other (by decide) h1)
  have hcls4 : ((oe.mapFields (·.setIfInBounds 3 (.ref b))).mapFields (·.setIfInBounds 4 (.bool true))).cls = cls := by rw [Obj.cls_mapFields, Obj.cls_mapFields]; exact hcls
  have LT4 : PySem.W.Looks M (causeFrom s₁.heap a b) (typeOf (.ref a)) cls := fun A Q E s k q => wpAny_typeOf_ref (k _ _ ha4) (by rw [hcls4]; exact q)
  have hnt4 : ∀ {Q' : Bool → Shared → Prop}, Q' false { s₁ with heap := causeFrom s₁.heap a b } → wpAny M A (isType (.ref a)) Q' E { s₁ with heap := causeFrom s₁.heap a b } := by
    intro Q' hq
    simp only [isType, loadHead]
    refine wpAny_bind (wpAny_loadPart ha4 ?_)
    rw [hd4]; exact wpAny_pure hq
  have rest : wpAny M A (do
      let b ← isType (.ref a)
      if b = true then do
        let e ← holding [.ref a] (raisedFor (.ref a) (.ref a))
        setFlight e none
        raiseNew e
      else do
        let e ← raisedInstance (.ref a)
        setFlight e none
        raiseNew e : Sem Flow) Q E { s₁ with heap := causeFrom s₁.heap a b } := by
    refine wpAny_bind (hnt4 ?_)
    simp only [Bool.false_eq_true, if_false]
    unfold raisedInstance
    refine wpAny_bind (wpAny_bind (LT4.here (wpAny_bind (L3.here ?_))))
    rw [if_pos (beq_self_eq_true _)]
    refine wpAny_pure ?_
    unfold setFlight raiseNew
    refine wpAny_bind (wpAny_bind (wpAny_field ha4 hd4 h14 ?_))
    rw [if_neg (by decide)]
    refine wpAny_pure (wpAny_bind (wpAny_handled ?_))
    rw [hh]
    first
      | exact wpAny_throw hE
      | exact wpAny_bind (wpAny_pure (wpAny_throw hE))
  refine wpAny_bind (wpAny_pure ?_)
  dsimp only
  refine wpAny_bind (wpAny_holding ?_)
  unfold excFromValue isExcClass
  refine wpAny_bind (wpAny_bind (hnt ?_))
  simp only [Bool.false_eq_true, if_false]
  refine wpAny_pure ?_
  simp only [Bool.false_eq_true, if_false]
  refine wpAny_bind (LI.here ?_)
  simp only [if_true]
  refine wpAny_pure ?_
  rw [if_neg (show ¬ ((Value.ref b == Value.none) = true) from by intro z; cases z)]
  refine wpAny_bind (wpAny_holding (wpAny_bind (wpAny_bind (hntb ?_))))
  simp only [Bool.false_eq_true, if_false]
  refine wpAny_pure ?_
  simp only [Bool.false_eq_true, if_false]
  refine wpAny_bind (LIb.here ?_)
  simp only [if_true]
  refine wpAny_pure ?_
  first
  | refine wpAny_bind (wpAny_setField ha hd s3 (wpAny_bind (wpAny_setField ha3 hd3 s4 ?_)))
  | refine wpAny_bind (wpAny_bind (wpAny_setField ha hd s3 (wpAny_bind (wpAny_setField ha3 hd3 s4 ?_))))
  | refine wpAny_bind (wpAny_setField ha hd s3 (wpAny_setField ha3 hd3 s4 ?_))
  first
  | exact rest
  | (dsimp only; exact rest)
  | (refine wpAny_pure ?_; exact rest)
  | (simp only [bind_pure_comp] ; exact rest)
section
variable {X : Cx} {pins : List (Addr × Obj)} {σ : L2.St} {H : Hp} {s : Shared}
theorem inv_untrackN {a : Addr} {φ : Heap → Prop} (I : Inv X pins σ H s) (ha : H a = some (.ext φ)) (n0 : X.s_0.heap.get? a = none) :
    ∃ G : Heap, (∀ b o, G.get? b = some o → s.heap.get? b = some o) ∧ G.get? a = none ∧ Inv X pins σ (delH H a) { s with heap := G } := by
  obtain ⟨G, g1, g2⟩ := restrict s.heap fun b => decide (b ≠ a)
  have gk : ∀ b o, b ≠ a → s.heap.get? b = some o → G.get? b = some o := fun b o hb e => by
    rw [g1 b (decide_eq_true hb)]
    exact e
  have ga : G.get? a = none := g2 a (decide_eq_false fun z => z rfl)
  have gs : ∀ b o, G.get? b = some o → s.heap.get? b = some o := fun b o e => by
    by_cases hb : b = a
    · rw [hb, ga] at e
      cases e
    · rw [← g1 b (decide_eq_true hb)]
      exact e
  have ne0 : ∀ b o, X.s_0.heap.get? b = some o → b ≠ a := fun b o e z => by
    rw [z, n0] at e
    cases e
  have neN : ∀ b, H b = none → b ≠ a := fun b e z => by
    rw [z, ha] at e
    cases e
  have neT : ∀ b xs, H b = some (.tup xs) → b ≠ a := fun b xs e z => by
    rw [z, ha] at e
    cases e
  have neF : ∀ b o u, H b = some (.frz o u) → b ≠ a := fun b o u e z => by
    rw [z, ha] at e
    cases e
  have neB : ∀ b ps, H b = some (.tbl ps) → b ≠ a := fun b ps e z => by
    rw [z, ha] at e
    cases e
  have neO : ∀ b c, H b = some (.own c) → b ≠ a := fun b c e z => by
    rw [z, ha] at e
    cases e
  have cellK : ∀ x c, X.env.cells.lookup x = some c → ∀ v, s.heap.IsCell c v → G.IsCell c v := fun x c e v ⟨o, ho, hd⟩ => ⟨o, gk c o (neN c (I.freeC x c e)) ho, hd⟩
  refine ⟨G, gs, ga, ⟨I.ok, I.os, I.bare, ⟨fun b o e n hb hq => ?_, fun b o e n hb hq => ?_, fun b o e n hq => ?_, fun b o e hq => ?_, fun b xs e => ?_, fun b o u e => ?_, fun b ps e => ?_⟩, ?_, fun x c e => ?_, ?_, fun x c e => ?_, fun p hp => ?_, fun b u e => ?_, I.len⟩⟩
  · exact gk b o (ne0 b o e) (I.base.keep b o e n hb hq)
  · obtain ⟨sl, q⟩ := I.base.slot b o e n hb hq
    exact ⟨sl, gk b _ (ne0 b o e) q⟩
  · rw [delH_ne (ne0 b o e)]
    exact I.base.free b o e n hq
  · obtain ⟨o', q⟩ := I.base.there b o e hq
    exact ⟨o', gk b o' (ne0 b o e) q⟩
  · have q := I.base.tups b xs e
    rw [delH_ne (neT b xs q)]
    exact q
  · have q := I.base.frzs b o u e
    rw [delH_ne (neF b o u q)]
    exact q
  · obtain ⟨m, q⟩ := I.base.tbls b ps e
    exact ⟨m, by rw [delH_ne (neB b _ q)]; exact q⟩
  · obtain ⟨m, ⟨o, es, ep, ho, r⟩, hl⟩ := I.loc
    refine ⟨m, ⟨o, es, ep, gk _ _ (neN _ I.free) ho, r⟩, fun i x v e1 e2 e3 => ?_⟩
    obtain ⟨u, r', l⟩ := hl i x v e1 e2 e3
    refine ⟨u, r', ?_⟩
    rcases l with l | ⟨k, c, ec, z⟩
    · exact .inl l
    · exact .inr ⟨k, c, ec, cellK x c ec _ z⟩
  · obtain ⟨v, z⟩ := I.cell x c e
    exact ⟨v, cellK x c e v z⟩
  · rw [delH_ne (neN _ I.free)]
    exact I.free
  · rw [delH_ne (neN _ (I.freeC x c e))]
    exact I.freeC x c e
  · obtain ⟨e, n, ne, nf, d⟩ := I.pin p hp
    exact ⟨gk _ _ (neN _ n) e, by rw [delH_ne (neN _ n)]; exact n, ne, nf, d⟩
  · have hb : b ≠ a := fun z => by
      rw [z, delH_same] at e
      cases e
    rw [delH_ne hb] at e
    refine (I.hok b u e).stay (fun c v hc q => gk c v ?_ q) (fun c q => ?_) fun c xs q => ?_
    · rcases hc with z | z
      · rw [z]
        exact hb
      · exact neO _ _ z
    · rw [delH_ne (neO c b q)]
      exact q
    · rw [delH_ne (neT c xs q)]
      exact q
end
theorem ps_raiseFrom {X : Cx} {W : WX} {e c : Expr} {t tc : L2.St → Hp → XK → Prop} {pos : Pos} (hc : X.calm = true) (hx : X.ex = []) (tk : L2N.Takes X W) (he : L2H.PMk5 X e t) (hc2 : L2N.PMk X c tc) :
    PS X (.Raise (some e) (some c) pos) (fun _ σ H => t σ H fun cls d H1 => ∀ a φ, H1 a = none → tc σ (upd H1 a (.ext φ)) fun _ _ H2 => H2 a = some (.ext φ) ∧ W cls d σ (delH H2 a)) := by
  refine ⟨fun pins s σ H D I h => ?_⟩
  show wpAny _ _ (do standAt pos; raiseStmt X.env (some (do let v ← eval e X.env; standAt pos; pure v)) (some (do let v ← eval c X.env; standAt pos; pure v))) _ _ _
  refine wpAny_bind (wpAny_standAt (raise_made_from (I.ok.hd hc) (wpAny_bind (wpAny_mono (he pins s σ H _ I h) (fun u s1 hu => wpAny_bind (wpAny_standAt (wpAny_pure ?_))) fun _ _ x => x))))
  obtain ⟨⟨a, oe, vs, sI, H1, cls, d, rfl, J, k, hne, ha, hz, hd, h1, na, os, ag, r, q⟩, h5⟩ := hu
  have hi : 4 < vs.size := h5 a oe vs rfl ha hd
  have n0 : X.s_0.heap.get? a = none := by
    cases e0 : X.s_0.heap.get? a with
    | none => rfl
    | some o =>
      obtain ⟨o', z⟩ := J.base.there a o e0 (by rw [hx]; exact fun z => nomatch z)
      rw [hne] at z
      cases z
  have J1 : Inv X pins σ (upd H1 a (.ext fun h => h.get? a = some oe)) s1 := by
    have z := Inv.laidN (t' := s1.toks) J k hne na (show ObjOk X.prog X.w (upd H1 a (.ext fun h => h.get? a = some oe)) s1.heap a (.ext fun h => h.get? a = some oe) from ⟨ha, ⟨oe, ha⟩, fun _ _ q kk => kk oe q⟩)
    exact ⟨z.ok, os.trans J.os, ag, z.base, z.loc, z.cell, z.free, z.freeC, z.pin, z.hok, z.len⟩
  refine wpAny_bind (wpAny_mono (hc2 pins s1 σ _ _ J1 (q a _ na)) (fun u s2 hu => wpAny_bind (wpAny_standAt (wpAny_pure ?_))) fun _ _ x => x)
  obtain ⟨b, ob, vb, sI2, H2, cb, db, rfl, J2, k2, hne2, hb, hzb, hdb, _, nb, os2, ag2, r2, e2, w⟩ := hu
  have a2 : sI2.heap.get? a = some oe := (J2.hok a _ e2).1
  have ha2 := k2 _ _ a2
  obtain ⟨G, gs, ga, J3⟩ := inv_untrackN J2 e2 n0
  have k3 : ∀ x o, G.get? x = some o → (causeFrom s2.heap a b).get? x = some o := fun x o z => by
    have nx : a ≠ x := fun y => by
      rw [← y, ga] at z
      cases z
    rw [causeFrom_other nx]
    exact k2 _ _ (gs _ _ z)
  obtain ⟨ha4, hd4⟩ := causeFrom_at (b := b) ha2 hd
  obtain ⟨r1, _⟩ := r (model X.prog X.w) s2.heap (J2.kIn.keeps k2)
  obtain ⟨rb, _⟩ := r2 (model X.prog X.w) s2.heap (J2.kIn.keeps k2)
  obtain ⟨_, r3⟩ := r (model X.prog X.w) (causeFrom s2.heap a b) (J3.kIn.keeps k3)
  have h14 : ((vs.setIfInBounds 3 (Value.ref b)).setIfInBounds 4 (Value.bool true))[1]? = some Value.none := HotX.set_other (by decide) (HotX.set_other (by decide) h1)
  refine ⟨a, oe, vs, cls, b, ob, vb, cb, rfl, rfl, ha2, hz.1, hd, h1, hi, hb, hzb.1, hdb, r1, rb, r3, tk _ _ (L2N.XE.new J3 k3 ga ha4
    ⟨by rw [Obj.cls_mapFields, Obj.cls_mapFields]; exact hz.1, by rw [HandSPX.dict_mapFields, HandSPX.dict_mapFields]; exact hz.2.1, fun ws e => ?_⟩ hd4 h14 delH_same os2 ag2 w)⟩
  rw [hd4] at e
  cases e
  exact HotX.set_other (by decide) (HotX.set_other (by decide) (hz.2.2 vs hd))
/-! ### the statement -/
section
variable {X : Cx} {W : Wrl} {Wo : WX} {mr m : Md} {e : Expr} {qa : QT W} {C fI C2 fI2 : Addr} {f x f2 x2 y : Str} {k k2 i : Nat} {fd fd2 : FuncData} {ps ps2 : List Str} {p pos pos2 p2 pos3 p3 : Pos}
def sRaiseFrom (C : Addr) (f : Str) (i : Nat) (qa : QT W) : QTS W := fun P ω ρ => qa ω ρ (fun ω1 d => d.pure = true ∧ (∃ d2, ρ[i]? = some (.va d2)) ∧ P.ex ω1 ⟨C, some (f, d)⟩ ρ) fun ω1 y => P.ex ω1 y ρ
/-- raise C(e) from C'(y) -/
theorem qs_raiseFrom (hc : X.calm = true) (hx : X.ex = []) (tk : L2N.Takes X Wo) (T : OexC X.K C) (iC : PySem.W.findIn X.K (.ref C) "__init__" = some (some (.ref fI))) (tI : PySem.W.typeIn X.K (.ref fI) = some (.type "function"))
    (F1 : FnOk X.prog X.w X.K X.mg X.base (L2N.CX X.prog X.w) k fI fd ps (spXI C f)) (hr : Room (k + 1) X.A) (hb : Binds X.K fd ps []) (hg : Gl X x) (hm : X.mg x = some (.ref C)) (he : QE X m W Wo e qa)
    (T2 : OexC X.K C2) (iC2 : PySem.W.findIn X.K (.ref C2) "__init__" = some (some (.ref fI2))) (tI2 : PySem.W.typeIn X.K (.ref fI2) = some (.type "function"))
    (F2 : FnOk X.prog X.w X.K X.mg X.base (L2N.CX X.prog X.w) k2 fI2 fd2 ps2 (spXI C2 f2)) (hr2 : Room (k2 + 1) X.A) (hb2 : Binds X.K fd2 ps2 []) (hg2 : Gl X x2) (hm2 : X.mg x2 = some (.ref C2))
    (hy : PE X (.Name y p3) (tVar i)) (hms : m.st = true := by rfl)
    (hdb : (x == ("__debug__" : Str)) = false := by decide) (hdb2 : (x2 == ("__debug__" : Str)) = false := by decide) (h1 : starEach [e] X.env = (false, eval e X.env) :: starEach [] X.env := by rfl) (h2 : starEach [.Name y p3] X.env = (false, eval (.Name y p3) X.env) :: starEach [] X.env := by rfl) :
    QS X mr W Wo (.Raise (some (.Call (.Name x p) [e] [] pos)) (some (.Call (.Name x2 p2) [.Name y p3] [] pos3)) pos2) (sRaiseFrom C f i qa) := PS.imp (ps_raiseFrom hc hx tk (pmk5_oexN T iC tI F1 hr hb hg hm (pa_cons he pa_nil h1) hdb h1) (pmk_oexN T2 iC2 tI2 F2 hr2 hb2 hg2 hm2 (pa_cons hy pa_nil h2) hdb2 h2)) fun D σ H ⟨F, T0, ω, ρ, P, R, q, S⟩ => by
  refine ⟨F, T0, ω, ρ, _, _, R, q, S.xok, fun T1 ω1 d v H1 R1 e1 r1 ⟨hp, hi, q1⟩ => ?_⟩
  obtain ⟨d2, hi⟩ := hi
  show ([v] : List V).length ≤ 1000 ∧ _
  refine ⟨by simp, fun a na => ?_⟩
  refine ⟨a, v, rfl, upd_same, fun dx n ne => ⟨rfl, dx, _, upd_same, by rw [upd_ne ne]; exact upd_same, ?_, ?_⟩⟩
  · by_cases z : dx = a
    · exact absurd z ne
    · rw [upd_ne z] at n
      exact n
  have nd : H1 dx = none := by rw [upd_ne ne] at n; exact n
  have eH : upd (del (upd (upd (upd H1 a (exo a C none)) dx (exd dx [(f, v)])) a (exo a C (some dx))) a) dx (.xd [(f, v)]) = upd H1 dx (.xd [(f, v)]) := by
    funext b
    by_cases hb : b = dx
    · rw [hb, upd_same, upd_same]
    · rw [upd_ne hb, upd_ne hb]
      by_cases hba : b = a
      · rw [hba, del_same, na]
      · rw [del_ne hba, upd_ne hba, upd_ne hb, upd_ne hba]
  rw [eH]
  intro a9 φ n9
  have g : GrP nop H1 (upd H1 dx (.xd [(f, v)])) := GrP.new nd
  obtain ⟨v2, hv2, _⟩ := R1.sl.get_va hi
  refine ⟨v2, hv2, by show ([v2] : List V).length ≤ 1000; simp, fun a' na' => ?_⟩
  refine ⟨a', v2, rfl, upd_same, fun dx2 n2 ne2 => ⟨rfl, dx2, _, upd_same, by rw [upd_ne ne2]; exact upd_same, ?_, ?_⟩⟩
  · rw [upd_ne ne2] at n2
    exact n2
  rw [upd_ne ne2] at n2
  have n92 : a9 ≠ dx2 := fun z => by rw [← z, upd_same] at n2; cases n2
  have n92' : a9 ≠ a' := fun z => by rw [← z, upd_same] at na'; cases na'
  rw [upd_ne (Ne.symm n92)] at n2
  have eH2 : delH (upd (del (upd (upd (upd (upd (upd H1 dx (.xd [(f, v)])) a9 (.ext φ)) a' (exo a' C2 none)) dx2 (exd dx2 [(f2, v2)])) a' (exo a' C2 (some dx2))) a') dx2 (.xd [(f2, v2)])) a9 = upd (upd H1 dx (.xd [(f, v)])) dx2 (.xd [(f2, v2)]) := by
    funext b
    by_cases h9 : b = a9
    · rw [h9, delH_same, upd_ne n92, n9]
    · rw [delH_ne h9]
      by_cases hb : b = dx2
      · rw [hb, upd_same, upd_same]
      · rw [upd_ne hb, upd_ne hb]
        by_cases hba : b = a'
        · rw [hba, del_same]
          rw [upd_ne (Ne.symm n92')] at na'
          exact na'.symm
        · rw [del_ne hba, upd_ne hba, upd_ne hb, upd_ne hba, upd_ne h9]
  refine ⟨?_, ?_⟩
  · rw [upd_ne n92]
    by_cases hba : a9 = a'
    · exact absurd hba n92'
    · rw [del_ne hba, upd_ne hba, upd_ne n92, upd_ne hba, upd_same]
  rw [eH2]
  have g2 : GrP nop (upd H1 dx (.xd [(f, v)])) (upd (upd H1 dx (.xd [(f, v)])) dx2 (.xd [(f2, v2)])) := GrP.new n2
  have nx : dx ≠ dx2 := fun z => by rw [← z, upd_same] at n2; cases n2
  have ra : RepA X.K H1 (fun _ => True) d v := (RR.a hms r1).any hp
  exact S.ex T1 ω1 ρ σ _ ⟨C, some (f, d)⟩ _ _ ((R1.grow g).grow g2) ⟨rfl, dx, v, rfl, by rw [upd_ne nx]; exact upd_same, ra.ext (g.trans0 g2) (fun _ z => z.elim) fun a z => .inl trivial⟩ q1
theorem v_raiseF {P : PEn W} {ω : W.Ω} {ρ : List Sl} (h : qa ω ρ (fun ω1 d => d.pure = true ∧ (∃ d2, ρ[i]? = some (.va d2)) ∧ P.ex ω1 ⟨C, some (f, d)⟩ ρ) fun ω1 y => P.ex ω1 y ρ) : sRaiseFrom C f i qa P ω ρ := h
end
end LW

namespace LW
open PySem PySem.Spec PyProof.Rows L2
/-! # lines of programs, good or bad -/
/-! min(i, j) -/
def rMin2 : List V → Hp → VK → Prop := fun xs H Q => ∃ i j, xs = [V.int i, V.int j] ∧ Q (.int (if j < i then j else i)) H
theorem cr_min2 {X : Cx} (hc : X.calm = true) : CallR X (.builtin "min") rMin2 := call_min2 hc
def fMin2 : List D → (D → Prop) → Prop
  | [.int i, .int j], Q => Q (.int (if j < i then j else i))
  | _, _ => False
theorem min2P {K : PySem.W.Frag} : CaP .C .A K rMin2 fMin2 := fun S os H ds vs Q Qp hS r h k => by
  unfold fMin2 at h
  split at h
  · obtain ⟨v, w, rfl, rv, rw'⟩ := r.two
    rw [rv.c.int, rw'.c.int]
    exact ⟨_, _, rfl, k _ _ H (GrP.refl _ _) (.int _) h⟩
  · exact h.elim
theorem v_min2 {i j : Int} {Q1 : D → Prop} (h : Q1 (.int (if j < i then j else i))) : fMin2 [.int i, .int j] Q1 := h
def parseT (t : Str) (L : Nat) : D := match Txt.split t " " with
  | [] => .non
  | w0 :: ws => parseW w0 ws L
theorem joinL_len (S : List Nat) : ∀ ps : List (List Nat), ps ≠ [] → (TL.joinL S ps).length + S.length = (ps.map (·.length)).sum + ps.length * S.length
  | [], h => absurd rfl h
  | [p], _ => by simp [TL.joinL]
  | p :: q :: r, _ => by
    have h := joinL_len S (q :: r) (by simp)
    show (p ++ (S ++ TL.joinL S (q :: r))).length + S.length = _
    simp only [List.length_append, List.map_cons, List.sum_cons, List.length_cons, Nat.add_mul, Nat.one_mul] at h ⊢
    omega
theorem len_tl (x : Str) : x.length = (TL.tl x).length := by first | rfl | simp [TL.tl, Str.length]
theorem join_len_eq (y : Str) {ts : List Str} (h : ts ≠ []) : (Str.join y ts).length + y.length = (ts.map (·.length)).sum + ts.length * y.length := by
  have e2 : ((fun x : List Nat => x.length) ∘ TL.tl) = fun x : Str => x.length := funext fun x => (len_tl x).symm
  have z := joinL_len (TL.tl y) (ts.map TL.tl) (fun e => h (List.map_eq_nil_iff.mp e))
  rw [List.map_map, List.length_map, e2] at z
  rw [len_tl (Str.join y ts), TL.tl_join, len_tl y]
  exact z
theorem mem_sum {n : Nat} {t : Str} : ∀ {ts : List Str}, t ∈ ts → t.length ≤ (ts.map (·.length)).sum
  | [], h => by cases h
  | x :: ts, h => by
    simp only [List.map_cons, List.sum_cons]
    rcases List.mem_cons.mp h with rfl | h
    · omega
    · have := mem_sum (n := n) h
      omega
theorem split_ne (t : Str) : Txt.split t " " ≠ [] := fun e => by
  unfold Txt.split at e
  split at e
  · simp at e
  · split at e
    · simp at e
    · rw [StrLaws.partsBetween_eq] at e
      obtain ⟨p, r, z⟩ := StrLaws.partsFrom_ne t (" " : Str).length 0 (Builtin.Str.occurrences t " " 0 t.length (t.length + 1))
      rw [z] at e
      cases e
/-- the pieces of a text that is not long -/
theorem split_parts {t : Str} (h : t.length ≤ 999) : ∃ w0 ws, Txt.split t " " = w0 :: ws ∧ w0.length ≤ 1000 ∧ ws.length ≤ 1000 ∧ parseT t = parseW w0 ws := by
  cases e : Txt.split t " " with
  | nil => exact absurd e (split_ne t)
  | cons w0 ws =>
    have z := join_len_eq " " (ts := w0 :: ws) (by simp)
    rw [← e, StrLaws.join_split, e] at z
    simp only [List.map_cons, List.sum_cons, List.length_cons, show (" " : Str).length = 1 from rfl] at z
    exact ⟨w0, ws, rfl, by omega, by omega, by unfold parseT; rw [e]⟩
theorem v_parsedT {t : Str} {L : Nat} {Q : Unit → D → Prop} {E : Unit → Exn → Prop} (h : t.length ≤ 999) (hL : L ≤ 1000) (q : Q () (parseT t L)) : pf__parsed () [.str t, .int L] Q E := by
  obtain ⟨w0, ws, h1, h2, h3, h4⟩ := split_parts h
  exact ⟨t, L, w0, ws, rfl, h1, by omega, h2, h3, hL, by rw [h4] at q; exact q⟩
theorem parseW_row (w0 : Str) (ws : List Str) (L : Nat) : parseW w0 ws L = .non ∨ ∃ v b c n, parseW w0 ws L = rowD v b c n := by
  unfold parseW
  split
  · exact .inr ⟨_, _, _, _, rfl⟩
  · split
    · exact .inr ⟨_, _, _, _, rfl⟩
    · split
      · exact .inr ⟨_, _, _, _, rfl⟩
      · split
        · exact .inr ⟨_, _, _, _, rfl⟩
        · split
          · exact .inr ⟨_, _, _, _, rfl⟩
          · exact .inl rfl
theorem parseT_row (t : Str) (L : Nat) : parseT t L = .non ∨ ∃ v b c n, parseT t L = rowD v b c n := by
  unfold parseT
  split
  · exact .inl rfl
  · exact parseW_row _ _ _
/-! which texts are instructions -/
def allI (L : Nat) : List Str := plainW ++ (List.range L).map (fun n => ("go " : Str) ++ nS n) ++ condsW.map (fun c => ("wait " : Str) ++ c) ++ (List.range L).flatMap fun n => condsW.map (fun c => ("if " : Str) ++ c ++ " " ++ nS n) ++ condsW.map (fun c => ("unless " : Str) ++ c ++ " " ++ nS n)
theorem mem_allI {L : Nat} {t : Str} : t ∈ allI L ↔ t ∈ plainW ∨ (∃ n, n < L ∧ t = ("go " : Str) ++ nS n) ∨ (∃ c ∈ condsW, t = ("wait " : Str) ++ c) ∨ ∃ n c, n < L ∧ c ∈ condsW ∧ (t = ("if " : Str) ++ c ++ " " ++ nS n ∨ t = ("unless " : Str) ++ c ++ " " ++ nS n) := by
  unfold allI
  simp only [List.mem_append, List.mem_map, List.mem_range, List.mem_flatMap]
  constructor
  · rintro (((h | ⟨n, h1, rfl⟩) | ⟨c, h1, rfl⟩) | ⟨n, h1, ⟨c, h2, rfl⟩ | ⟨c, h2, rfl⟩⟩)
    · exact .inl h
    · exact .inr (.inl ⟨n, h1, rfl⟩)
    · exact .inr (.inr (.inl ⟨c, h1, rfl⟩))
    · exact .inr (.inr (.inr ⟨n, c, h1, h2, .inl rfl⟩))
    · exact .inr (.inr (.inr ⟨n, c, h1, h2, .inr rfl⟩))
  · rintro (h | ⟨n, h1, rfl⟩ | ⟨c, h1, rfl⟩ | ⟨n, c, h1, h2, rfl | rfl⟩)
    · exact .inl (.inl (.inl h))
    · exact .inl (.inl (.inr ⟨n, h1, rfl⟩))
    · exact .inl (.inr ⟨c, h1, rfl⟩)
    · exact .inr ⟨n, h1, .inl ⟨c, h2, rfl⟩⟩
    · exact .inr ⟨n, h1, .inr ⟨c, h2, rfl⟩⟩
theorem ins_all {L : Nat} (hL : L ≤ 24) {t : Str} (h : t ∈ allI L) : Ins L t := by
  rcases mem_allI.mp h with h | ⟨n, h1, rfl⟩ | ⟨c, h1, rfl⟩ | ⟨n, c, h1, h2, rfl | rfl⟩
  · exact ins_plain h
  · exact ins_go h1 hL
  · exact ins_wait h1
  · exact ins_if h1 hL h2
  · exact ins_unless h1 hL h2
theorem okT_T {L : Nat} {t : Str} {r : D} (h : OkT L t r) : parseT t L = r := by
  obtain ⟨w0, ws, h1, _, _, _, h5, _⟩ := h
  unfold parseT
  rw [h1]
  exact h5
theorem parse_all {L : Nat} (hL : L ≤ 24) {t : Str} (h : t ∈ allI L) : parseT t L ≠ .non := by
  obtain ⟨_, k, _, _, _, z, _⟩ := ins_all hL h
  rw [okT_T z]
  intro e
  cases e
theorem lineNo_of {w : Str} {L : Nat} (h : 0 ≤ lineNo w L) : ∃ n, n < L ∧ w = nS n := by
  unfold lineNo at h
  split at h
  · rename_i i e
    obtain ⟨e1, e2, _⟩ := List.find?_range_eq_some.mp e
    exact ⟨i, List.mem_range.mp e2, of_decide_eq_true e1⟩
  · exact absurd h (by decide)
theorem rmstar {w m : Str} (h : Txt.removesuffix w "*" = m) : w = m ∨ w = m ++ "*" := by
  rw [StrLaws.removesuffix_eq] at h
  split at h
  · rename_i c
    right
    rw [Bool.and_eq_true, decide_eq_true_eq] at c
    obtain ⟨c1, c2⟩ := c
    rw [StrLaws.subAt_eq] at c2
    have c2 := eq_of_beq c2
    have l1 : ("*" : Str).length = 1 := rfl
    rw [l1] at c1 c2 h
    have hn : w.cps.toList.length = w.length := by simp [Str.length]
    refine TL.ext_tl ?_
    rw [TL.tl_append, ← h]
    show w.cps.toList = (w.cps.toList.drop 0).take (w.length - 1 - 0) ++ ("*" : Str).cps.toList
    rw [← c2, List.drop_zero, Nat.sub_zero]
    have e : (w.cps.toList.drop (w.length - 1)).take 1 = w.cps.toList.drop (w.length - 1) := List.take_of_length_le (by rw [List.length_drop, hn]; omega)
    rw [e, List.take_append_drop]
  · exact .inl h
theorem ofString_inj {a b : String} (h : Str.ofString a = Str.ofString b) : a = b := by
  rw [Str.ofString_eq_toList, Str.ofString_eq_toList] at h
  have h := congrArg (fun x : Str => x.cps.toList) h
  dsimp only at h
  have hi : ∀ l m : List Char, l.map Char.toNat = m.map Char.toNat → l = m := by
    intro l
    induction l with
    | nil => intro m h; cases m with
      | nil => rfl
      | cons y m => simp at h
    | cons x l ih => intro m h; cases m with
      | nil => simp at h
      | cons y m =>
        simp only [List.map_cons, List.cons.injEq] at h
        rw [ih m h.2, Char.ext (UInt32.toNat_inj.mp h.1)]
  exact String.toList_inj.mp (hi _ _ (by simpa using h))
theorem nS_inj' {n m : Nat} (h : nS n = nS m) : n = m := by
  have h : ((n : Int).repr : String) = (m : Int).repr := ofString_inj h
  exact Nat.repr_inj.mp h
theorem all_parse {L : Nat} {t : Str} (h : parseT t L ≠ .non) : t ∈ allI L := by
  have hj := StrLaws.join_split t " "
  unfold parseT at h
  split at h
  · exact absurd rfl h
  rename_i w0 ws e
  rw [e] at hj
  rw [mem_allI]
  unfold parseW at h
  split at h
  · rename_i c
    obtain ⟨rfl, c⟩ := c
    left
    have : t = w0 := hj.symm
    rw [this]
    rcases c with rfl | rfl <;> decide
  · split at h
    · rename_i c
      obtain ⟨rfl, c⟩ := c
      left
      have : t = w0 := hj.symm
      rw [this]
      have key : ∀ m ∈ movesW, m ∈ plainW ∧ (m ++ "*" : Str) ∈ plainW := by decide +kernel
      rcases rmstar (w := w0) rfl with z | z
      · rw [z]; exact (key _ c).1
      · rw [z]; exact (key _ c).2
    · split at h
      · rename_i c
        obtain ⟨c1, rfl, c3⟩ := c
        obtain ⟨w1, rfl⟩ : ∃ w1, ws = [w1] := List.length_eq_one_iff.mp c1
        refine .inr (.inr (.inl ⟨w1, c3, ?_⟩))
        rw [← hj]
        show ("wait" : Str) ++ " " ++ w1 = _
        rw [show ("wait" : Str) ++ " " = ("wait " : Str) by decide +kernel]
      · split at h
        · rename_i c
          obtain ⟨c1, rfl, c3⟩ := c
          obtain ⟨w1, rfl⟩ : ∃ w1, ws = [w1] := List.length_eq_one_iff.mp c1
          obtain ⟨n, hn, e2⟩ := lineNo_of c3
          refine .inr (.inl ⟨n, hn, ?_⟩)
          rw [← hj, ← e2]
          show ("go" : Str) ++ " " ++ w1 = _
          rw [show ("go" : Str) ++ " " = ("go " : Str) by decide +kernel] <;> rfl
        · split at h
          · rename_i c
            obtain ⟨c1, c2, c3, c4⟩ := c
            obtain ⟨w1, w2, rfl⟩ : ∃ w1 w2, ws = [w1, w2] := by
              match ws, c1 with
              | [a, b], _ => exact ⟨a, b, rfl⟩
            obtain ⟨n, hn, e2⟩ := lineNo_of c4
            refine .inr (.inr (.inr ⟨n, w1, hn, c3, ?_⟩))
            have e2 : w2 = nS n := e2
            subst e2
            rcases c2 with rfl | rfl
            · left
              rw [← hj]
              show ("if" : Str) ++ " " ++ (w1 ++ " " ++ nS n) = _
              rw [show ("if" : Str) ++ " " = ("if " : Str) by decide +kernel, Str.append_assoc, Str.append_assoc, Str.append_assoc]
            · right
              rw [← hj]
              show ("unless" : Str) ++ " " ++ (w1 ++ " " ++ nS n) = _
              rw [show ("unless" : Str) ++ " " = ("unless " : Str) by decide +kernel, Str.append_assoc, Str.append_assoc, Str.append_assoc]
          · exact absurd rfl h
/-- no "; " within -/
def nosep (t : Str) : Bool := !(occIn (TL.tl t))
where occIn : List Nat → Bool
  | 59 :: 32 :: _ => true
  | _ :: r => occIn r
  | [] => false
theorem occIn_at : ∀ {p : List Nat} {i : Nat}, nosep.occIn p = false → p[i]? = some 59 → p[i + 1]? ≠ some 32
  | [], _, _, h => by simp at h
  | x :: r, 0, ho, h => by
    simp at h
    subst h
    intro z
    cases r with
    | nil => simp at z
    | cons y r =>
      simp at z
      subst z
      simp [nosep.occIn] at ho
  | x :: r, i + 1, ho, h => by
    have hr : nosep.occIn r = false := by
      unfold nosep.occIn at ho
      split at ho
      · cases ho
      · rename_i e; simp at e; obtain ⟨_, rfl⟩ := e; exact ho
      · rename_i e; simp at e
    simpa using occIn_at (p := r) (i := i) hr (by simpa using h)
theorem free2 {p rest : List Nat} (ho : nosep.occIn p = false) : ∀ i, i < p.length → TL.pre [59, 32] ((p ++ ([59, 32] ++ rest)).drop i) = false := fun i hi => by
  cases hp : TL.pre [59, 32] ((p ++ ([59, 32] ++ rest)).drop i) with
  | false => rfl
  | true =>
    have e : ((p ++ ([59, 32] ++ rest)).drop i).take 2 = [59, 32] := eq_of_beq hp
    have e0 : (p ++ ([59, 32] ++ rest))[i]? = some 59 := by
      have z := congrArg (fun l : List Nat => l[0]?) e
      simpa [List.getElem?_take, List.getElem?_drop] using z
    have e1 : (p ++ ([59, 32] ++ rest))[i + 1]? = some 32 := by
      have z := congrArg (fun l : List Nat => l[1]?) e
      simpa [List.getElem?_take, List.getElem?_drop] using z
    rw [List.getElem?_append_left hi] at e0
    by_cases h1 : i + 1 < p.length
    · rw [List.getElem?_append_left h1] at e1
      exact absurd e1 (occIn_at ho e0)
    · have h2 : i + 1 = p.length := by omega
      rw [h2, List.getElem?_append_right (Nat.le_refl _), Nat.sub_self] at e1
      simp at e1
theorem free2' {p : List Nat} (ho : nosep.occIn p = false) : ∀ i, i < p.length → TL.pre [59, 32] (p.drop i) = false := fun i hi => by
  cases hp : TL.pre [59, 32] (p.drop i) with
  | false => rfl
  | true =>
    have e : (p.drop i).take 2 = [59, 32] := eq_of_beq hp
    have e0 : p[i]? = some 59 := by
      have z := congrArg (fun l : List Nat => l[0]?) e
      simpa [List.getElem?_take, List.getElem?_drop] using z
    have e1 : p[i + 1]? = some 32 := by
      have z := congrArg (fun l : List Nat => l[1]?) e
      simpa [List.getElem?_take, List.getElem?_drop] using z
    exact absurd e1 (occIn_at ho e0)
theorem spl_join2 : ∀ {parts : List (List Nat)}, parts ≠ [] → (∀ p ∈ parts, nosep.occIn p = false) → TL.spl [59, 32] 0 [] (TL.joinL [59, 32] parts) = parts
  | [], h, _ => absurd rfl h
  | [p], _, hp => by
    show TL.spl [59, 32] 0 [] p = [p]
    rw [TL.spl_last (free2' (hp p (List.mem_singleton.mpr rfl))), List.nil_append]
  | p :: q :: r, _, hp => by
    show TL.spl [59, 32] 0 [] (p ++ ([59, 32] ++ TL.joinL [59, 32] (q :: r))) = p :: q :: r
    rw [TL.spl_part (by simp) (free2 (hp p (List.mem_cons_self ..))), List.nil_append, spl_join2 (by simp) fun z hz => hp z (List.mem_cons_of_mem _ hz)]
theorem split_join2 {ts : List Str} (hne : ts ≠ []) (hp : ∀ t ∈ ts, nosep t = true) : Txt.split (Txt.join "; " ts) "; " = ts := by
  have ey : TL.tl ("; " : Str) = [59, 32] := by decide +kernel
  refine TL.map_tl_inj ?_
  rw [TL.split_spl _ _ (by rw [ey]; simp) (TL.kind_ok (by decide +kernel)), TL.join_eq, TL.tl_join, ey]
  refine spl_join2 (fun e => hne (List.map_eq_nil_iff.mp e)) fun p h => ?_
  obtain ⟨z, hz, rfl⟩ := List.mem_map.mp h
  have := hp z hz
  unfold nosep at this
  simpa using this
theorem nosep_of {t : Str} (h : nosc t = true) : nosep t = true := by
  unfold nosep
  have z : 59 ∉ TL.tl t := nosc_not h
  have key : ∀ l : List Nat, 59 ∉ l → nosep.occIn l = false := by
    intro l
    induction l with
    | nil => intro _; rfl
    | cons x l ih =>
      intro h
      unfold nosep.occIn
      split
      · rename_i e; simp at e; obtain ⟨rfl, _⟩ := e; simp at h
      · rename_i e; simp at e; obtain ⟨_, rfl⟩ := e; exact ih fun z => h (List.mem_cons_of_mem _ z)
      · rename_i e; simp at e
  rw [key _ z] <;> rfl
/-! which line is bad -/
def lineOk (L i : Nat) (t : Str) : Bool := !(parseT t L).isNon && (i != 0 || t == "rest")
def badL (ts : List Str) : Option Nat := (List.range ts.length).find? fun i => !lineOk ts.length i (ts.getD i "")
def badLine (ts : List Str) : Option Int := if 1 ≤ ts.length ∧ ts.length ≤ 24 then (badL ts).map Int.ofNat else some (-1)
def pf_ProgramX (K : PySem.W.Frag) : PSp W0 := fun _ ds Q E => ∃ ts : List Str, (ds = [.lst (dStrs ts)] ∨ ds = [.tup (dStrs ts)]) ∧ ts.length ≤ 1000 ∧ (∀ t ∈ ts, t.length ≤ 900) ∧
  (badLine ts = none → Q () (progD K ts (ts.map fun t => parseT t ts.length))) ∧ ∀ l, badLine ts = some l → E () ⟨He.ga K "BadProgram", some ("line", .int l)⟩
theorem mono_ProgramX {K : PySem.W.Frag} : Mono (pf_ProgramX K) := fun ds Q Q' E E' ⟨ts, h1, h2, h3, h4, h5⟩ hq he => ⟨ts, h1, h2, h3, fun z => hq _ (h4 z), fun l z => he _ (h5 l z)⟩
theorem pure_progX {K : PySem.W.Frag} (ts : List Str) : (progD K ts (ts.map fun t => parseT t ts.length)).pure = true := by
  show ((D.tup (dStrs ts)).pure && ((D.tup (ts.map fun t => parseT t ts.length)).pure && true)) = true
  rw [pure_strs, pure_tup fun d hd => ?_] <;> try rfl
  obtain ⟨t, _, rfl⟩ := List.mem_map.mp hd
  rcases parseT_row t ts.length with hn | ⟨v, b, c, n, hr⟩
  · rw [hn] <;> rfl
  · rw [hr] <;> rfl
def pf__law_all_instructions : PSp W0 := fun _ ds Q _ => ∃ L : Nat, ds = [.int L] ∧ 1 ≤ L ∧ L ≤ 24 ∧ ∀ zs : List Str, zs.length ≤ 1000 → (∀ t, t ∈ zs ↔ t ∈ allI L) → Q () (.lst (dStrs zs))
theorem v_allI {L : Nat} {Q : Unit → D → Prop} {E : Unit → Exn → Prop} (h1 : 1 ≤ L) (h2 : L ≤ 24) (h : ∀ zs : List Str, zs.length ≤ 1000 → (∀ t, t ∈ zs ↔ t ∈ allI L) → Q () (.lst (dStrs zs))) : pf__law_all_instructions () [.int L] Q E := ⟨L, rfl, h1, h2, h⟩
theorem allI_mono {L M : Nat} (h : L ≤ M) {t : Str} (ht : t ∈ allI L) : t ∈ allI M := by
  rw [mem_allI] at ht ⊢
  rcases ht with h1 | ⟨n, h1, rfl⟩ | ⟨c, h1, rfl⟩ | ⟨n, c, h1, h2, h3⟩
  · exact .inl h1
  · exact .inr (.inl ⟨n, by omega, rfl⟩)
  · exact .inr (.inr (.inl ⟨c, h1, rfl⟩))
  · exact .inr (.inr (.inr ⟨n, c, by omega, h2, h3⟩))
/-- a text that is no line of L lines -/
def Faulty (L : Nat) (x : Str) : Prop := x.length ≤ 100 ∧ nosep x = true ∧ x ∉ allI L
def od1 : List Str := ["", " ", "rest ", " rest", "Rest", "rest*", "room*", "take *", "take**", "*take", "takes", "on on", "go", "go "]
def od2 : List Str := ["go -1", "go +0", "go 00", "go 01", "go 0 ", "go  0", "go 0 0", "go one", "go first", "wait", "wait "]
def od3 : List Str := ["wait no", "wait none 0", "wait  none", "wait None", "if", "if none", "if none 00", "if 0 none"]
def od4 : List Str := ["if none  0", "if none 0 ", "if  none 0", "if nothing 0", "if none 0 0", "unless full", "unless full -1"]
def od5 : List Str := ["unless behind x", "IF none 0", "ifnone 0", "wait*", "go* 0", "take 0", "room 0", "rest 0", "give none"]
def od6 : List Str := ["on* first", "wait 0", "give*;", ";", "go 1_0", "if none 1_1"]
def od7 : List Str := ["unless nothing 0", "unless 0 full", "unless full 00", "unless full 0 0", "unless  full 0"]
def od8 : List Str := ["wait held", "if held 0", "unless held 0"]
def oddW : List Str := od1 ++ od2 ++ od3 ++ od4 ++ od5 ++ od6 ++ od7 ++ od8
def okOdd (x : Str) : Bool := decide (x.length ≤ 100) && nosep x && decide (x ∉ allI 24)
theorem odd_all : oddW.all okOdd = true := by decide +kernel
theorem odd_faulty {L : Nat} (hL : L ≤ 24) {x : Str} (h : x ∈ oddW) : Faulty L x := by
  have z := List.all_eq_true.mp odd_all x h
  unfold okOdd at z
  rw [Bool.and_eq_true, Bool.and_eq_true, decide_eq_true_eq, decide_eq_true_eq] at z
  exact ⟨z.1.1, z.1.2, fun y => z.2 (allI_mono hL y)⟩
theorem tl_go (n : Nat) : TL.tl (("go " : Str) ++ nS n) = [103, 111, 32] ++ TL.tl (nS n) := by rw [TL.tl_append, show TL.tl ("go " : Str) = [103, 111, 32] by decide +kernel]
theorem go_inj {n m : Nat} (h : ("go " : Str) ++ nS n = ("go " : Str) ++ nS m) : n = m := by
  have h := congrArg TL.tl h
  rw [tl_go, tl_go] at h
  exact nS_inj' (TL.ext_tl (List.append_cancel_left h))
theorem tl_nS (n : Nat) : TL.tl (nS n) = (Nat.toDigits 10 n).map Char.toNat := by
  show ((Str.ofString (Nat.repr n)).cps.toList) = _
  rw [Str.ofString_eq_toList, Nat.repr_eq_ofList_toDigits]
  simp
theorem len_nS {n k : Nat} (hk : 0 < k) (h : n < 10 ^ k) : (nS n).length ≤ k := by
  rw [len_tl, tl_nS, List.length_map]
  exact (Nat.length_toDigits_le_iff (by decide) hk).mpr h
theorem dig_nS {n c : Nat} (h : c ∈ TL.tl (nS n)) : 48 ≤ c ∧ c ≤ 57 := by
  rw [tl_nS] at h
  obtain ⟨x, hx, rfl⟩ := List.mem_map.mp h
  have z := Nat.isDigit_of_mem_toDigits (b := 10) (by decide) (by decide) hx
  unfold Char.isDigit at z
  rw [Bool.and_eq_true, decide_eq_true_eq, decide_eq_true_eq] at z
  exact ⟨z.1, z.2⟩
theorem split_sp {ts : List Str} (h0 : ts ≠ []) (h : ∀ t ∈ ts, 32 ∉ TL.tl t) : Txt.split (Txt.join " " ts) " " = ts :=
  TL.split_join (s := 32) (S := []) (by decide +kernel) (by decide +kernel) h0 h
theorem nosp_nS (n : Nat) : 32 ∉ TL.tl (nS n) := fun z => by have := dig_nS z; omega
/-- a line whose last word is a number too large is none -/
theorem notin_num {L n : Nat} {t : Str} (l1 : 1 ≤ L) (l2 : L ≤ 24) (hn : L ≤ n) (h : Txt.split t " " = [("go" : Str), nS n] ∨ ∃ v c, Txt.split t " " = [v, c, nS n]) : t ∉ allI L := fun ht => by
  obtain ⟨_, k, hk, _, hs, _⟩ := ins_all l2 ht
  have kn : k.n < L := by
    rcases hk with ⟨_, _, _, z⟩ | ⟨_, _, z⟩ | ⟨_, _, _, z⟩ | ⟨_, _, _, z⟩ | ⟨_, _, _, z⟩ <;> omega
  rw [hs] at h
  unfold Cmd.words at h
  rcases h with h | ⟨v, c, h⟩
  · split at h
    · have := nS_inj' (List.cons.inj (List.cons.inj h).2).1
      omega
    · split at h
      · rename_i e
        rw [e] at h
        exact absurd (List.cons.inj h).1 (by decide +kernel)
      · split at h
        · simp at h
        · simp at h
  · split at h
    · simp at h
    · split at h
      · simp at h
      · split at h
        · have := nS_inj' (List.cons.inj (List.cons.inj (List.cons.inj h).2).2).1
          omega
        · simp at h
theorem nosep_num {p : Str} (h : nosc p = true) (n : Nat) : nosep (p ++ nS n) = true := by
  refine nosep_of ?_
  unfold nosc
  rw [TL.tl_append, List.all_append, Bool.and_eq_true]
  refine ⟨h, List.all_eq_true.mpr fun c hc => ?_⟩
  have := dig_nS hc
  exact bne_iff_ne.mpr (by omega)
theorem faulty_go {L n : Nat} (l1 : 1 ≤ L) (l2 : L ≤ 24) (hn : L ≤ n) (hm : n < 10 ^ 30) : Faulty L (("go " : Str) ++ nS n) := by
  refine ⟨by rw [Str.length_append]; have := len_nS (by decide) hm; have e : ("go " : Str).length = 3 := rfl; omega, nosep_num (by decide +kernel) n, notin_num l1 l2 hn (.inl ?_)⟩
  have := split_sp (ts := ["go", nS n]) (by simp) fun t ht => by
    rcases List.mem_cons.mp ht with rfl | ht
    · decide +kernel
    · rw [List.mem_singleton.mp ht]; exact nosp_nS n
  have e : Txt.join " " ["go", nS n] = ("go " : Str) ++ nS n := by
    rw [TL.join_eq]
    show ("go" : Str) ++ " " ++ nS n = _
    rw [show ("go" : Str) ++ " " = ("go " : Str) by decide +kernel]
  rw [e] at this
  exact this
theorem faulty_if {L n : Nat} (l1 : 1 ≤ L) (l2 : L ≤ 24) (hn : L ≤ n) (hm : n < 10 ^ 30) : Faulty L (("if mine " : Str) ++ nS n) := by
  refine ⟨by rw [Str.length_append]; have := len_nS (by decide) hm; have e : ("if mine " : Str).length = 8 := rfl; omega, nosep_num (by decide +kernel) n, notin_num l1 l2 hn (.inr ⟨"if", "mine", ?_⟩)⟩
  have := split_sp (ts := ["if", "mine", nS n]) (by simp) fun t ht => by
    rcases List.mem_cons.mp ht with rfl | ht
    · decide +kernel
    · rcases List.mem_cons.mp ht with rfl | ht
      · decide +kernel
      · rw [List.mem_singleton.mp ht]; exact nosp_nS n
  have e : Txt.join " " ["if", "mine", nS n] = ("if mine " : Str) ++ nS n := by
    rw [TL.join_eq]
    show ("if" : Str) ++ " " ++ (("mine" : Str) ++ " " ++ nS n) = _
    rw [← Str.append_assoc, show ("if" : Str) ++ " " ++ (("mine" : Str) ++ " ") = ("if mine " : Str) by decide +kernel]
  rw [e] at this
  exact this
theorem faulty_unless {L n : Nat} (l1 : 1 ≤ L) (l2 : L ≤ 24) (hn : L ≤ n) (hm : n < 10 ^ 30) : Faulty L (("unless other " : Str) ++ nS n) := by
  refine ⟨by rw [Str.length_append]; have := len_nS (by decide) hm; have e : ("unless other " : Str).length = 13 := rfl; omega, nosep_num (by decide +kernel) n, notin_num l1 l2 hn (.inr ⟨"unless", "other", ?_⟩)⟩
  have := split_sp (ts := ["unless", "other", nS n]) (by simp) fun t ht => by
    rcases List.mem_cons.mp ht with rfl | ht
    · decide +kernel
    · rcases List.mem_cons.mp ht with rfl | ht
      · decide +kernel
      · rw [List.mem_singleton.mp ht]; exact nosp_nS n
  have e : Txt.join " " ["unless", "other", nS n] = ("unless other " : Str) ++ nS n := by
    rw [TL.join_eq]
    show ("unless" : Str) ++ " " ++ (("other" : Str) ++ " " ++ nS n) = _
    rw [← Str.append_assoc, show ("unless" : Str) ++ " " ++ (("other" : Str) ++ " ") = ("unless other " : Str) by decide +kernel]
  rw [e] at this
  exact this
section
variable {K : PySem.W.Frag} {ts : List Str} {Q : Unit → D → Prop} {E : Unit → Exn → Prop}
/-- a program of these lines, or the refusal -/
def ProgR (K : PySem.W.Frag) (ts : List Str) (Q : Unit → D → Prop) (E : Unit → Exn → Prop) : Prop := (badLine ts = none → Q () (progD K ts (ts.map fun t => parseT t ts.length))) ∧ ∀ l, badLine ts = some l → E () ⟨He.ga K "BadProgram", some ("line", .int l)⟩
def pf_Program_readX (K : PySem.W.Frag) : PSp W0 := fun _ ds Q E => ∃ (t : Str) (ts : List Str), ds = [.adr (PC K), .str t] ∧ t.length ≤ 1000000 ∧ Txt.split t "; " = ts ∧ ts.length ≤ 1000 ∧ (∀ x ∈ ts, x.length ≤ 900) ∧ ProgR K ts Q E
theorem v_progX (h1 : ts.length ≤ 1000) (h2 : ∀ t ∈ ts, t.length ≤ 900) (h : ProgR K ts Q E) : pf_ProgramX K () [.lst (dStrs ts)] Q E := ⟨ts, .inl rfl, h1, h2, h.1, h.2⟩
theorem sum_leN {n : Nat} {ts : List Str} (h : ∀ t ∈ ts, t.length ≤ n) : (ts.map (·.length)).sum ≤ n * ts.length := by
  induction ts with
  | nil => simp
  | cons t ts ih =>
    have h1 := h t List.mem_cons_self
    have h2 := ih fun x hx => h x (List.mem_cons_of_mem _ hx)
    simp only [List.map_cons, List.sum_cons, List.length_cons, Nat.mul_succ]
    omega
theorem join_lenX {ts : List Str} (h0 : ts.length ≤ 1000) (h : ∀ t ∈ ts, t.length ≤ 900) : (ts.map (·.length)).sum + ts.length * ("; " : Str).length ≤ 1000000 := by
  have := sum_leN h
  show _ + ts.length * 2 ≤ _
  have : 900 * ts.length ≤ 900 * 1000 := Nat.mul_le_mul_left _ h0
  omega
theorem v_readX (h0 : ts ≠ []) (h1 : ts.length ≤ 1000) (h2 : ∀ t ∈ ts, t.length ≤ 900) (h3 : ∀ t ∈ ts, nosep t = true) (h : ProgR K ts Q E) : pf_Program_readX K () [.adr (PC K), .str (Txt.join "; " ts)] Q E :=
  ⟨_, ts, rfl, Nat.le_trans (join_len "; " ts) (join_lenX h1 h2), split_join2 h0 h3, h1, h2, h⟩
/-- what _law_line tells -/
def told (ts : List Str) : Int := (badLine ts).getD (-2)
def pf__law_line : PSp W0 := fun _ ds Q _ => ∃ (ts : List Str) (b : Bool), ds = [.lst (dStrs ts), .bl b] ∧ ts.length ≤ 1000 ∧ (∀ t ∈ ts, t.length ≤ 900) ∧ (b = true → ts ≠ [] ∧ ∀ t ∈ ts, nosep t = true) ∧ Q () (.int (told ts))
theorem v_line {b : Bool} (h1 : ts.length ≤ 1000) (h2 : ∀ t ∈ ts, t.length ≤ 900) (h3 : b = true → ts ≠ [] ∧ ∀ t ∈ ts, nosep t = true) (h : Q () (.int (told ts))) : pf__law_line () [.lst (dStrs ts), .bl b] Q E := ⟨ts, b, rfl, h1, h2, h3, h⟩
end
/-! what the law asks -/
theorem nosep_in {t : Str} (h : (Builtin.Str.occurrences t "; " 0 t.length 1).isEmpty = true) : nosep t = true := by
  unfold nosep
  cases e : nosep.occIn (TL.tl t) with
  | false => rfl
  | true =>
    have key : ∀ l : List Nat, nosep.occIn l = true → ∃ i, i + 2 ≤ l.length ∧ (l.drop i).take 2 = [59, 32] := by
      intro l
      induction l with
      | nil => intro h; simp [nosep.occIn] at h
      | cons x l ih =>
        intro h
        unfold nosep.occIn at h
        split at h
        · rename_i e; simp at e; obtain ⟨rfl, rfl⟩ := e; exact ⟨0, by simp, by simp⟩
        · rename_i e; simp at e; obtain ⟨_, rfl⟩ := e
          obtain ⟨i, h1, h2⟩ := ih h
          exact ⟨i + 1, by simp; omega, by simpa using h2⟩
        · cases h
    obtain ⟨i, h1, h2⟩ := key _ e
    have z := (StrLaws.found_iff t "; ").mpr ⟨i, by rw [len_tl]; exact h1, by rw [StrLaws.subAt_eq]; exact beq_iff_eq.mpr (by rw [show ("; " : Str).cps.toList = [59, 32] by decide +kernel]; exact h2)⟩
    rw [h] at z
    cases z
theorem lineOk_ins {L i : Nat} {t : Str} (h : Ins L t) (h0 : i ≠ 0 ∨ t = "rest") : lineOk L i t = true := by
  obtain ⟨_, k, _, _, _, z, _⟩ := h
  unfold lineOk
  rw [okT_T z]
  rcases h0 with h0 | h0
  · rw [bne_iff_ne.mpr h0] <;> rfl
  · rw [h0, beq_self_eq_true, Bool.or_true] <;> rfl
theorem lineOk_all {L i : Nat} {t : Str} (h : t ∈ allI L) (hL : L ≤ 24) (h0 : i ≠ 0 ∨ t = "rest") : lineOk L i t = true := lineOk_ins (ins_all hL h) h0
theorem lineBad {L i : Nat} {t : Str} (h : t ∉ allI L) : lineOk L i t = false := by
  have : parseT t L = .non := Classical.byContradiction fun e => h (all_parse e)
  unfold lineOk
  rw [this] <;> rfl
theorem lineBad0 {L : Nat} {t : Str} (h : t ≠ "rest") : lineOk L 0 t = false := by
  unfold lineOk
  rw [beq_eq_false_iff_ne.mpr h]
  simp
theorem badLine_at {ts : List Str} {a : Nat} (h1 : 1 ≤ ts.length) (h2 : ts.length ≤ 24) (ha : a < ts.length) (hb : lineOk ts.length a (ts.getD a "") = false) (ho : ∀ j, j < a → lineOk ts.length j (ts.getD j "") = true) : badLine ts = some (a : Int) := by
  unfold badLine
  rw [if_pos ⟨h1, h2⟩]
  unfold badL
  rw [(List.find?_range_eq_some (i := a)).mpr ⟨by rw [hb] <;> rfl, List.mem_range.mpr ha, fun j hj => by rw [ho j hj] <;> rfl⟩] <;> rfl
theorem told_at {ts : List Str} {a : Nat} (h1 : 1 ≤ ts.length) (h2 : ts.length ≤ 24) (ha : a < ts.length) (hb : lineOk ts.length a (ts.getD a "") = false) (ho : ∀ j, j < a → lineOk ts.length j (ts.getD j "") = true) : told ts = a := by
  unfold told
  rw [badLine_at h1 h2 ha hb ho] <;> rfl
theorem badLine_none {ts : List Str} (h1 : 1 ≤ ts.length) (h2 : ts.length ≤ 24) (ho : ∀ j, j < ts.length → lineOk ts.length j (ts.getD j "") = true) : badLine ts = none := by
  unfold badLine
  rw [if_pos ⟨h1, h2⟩]
  unfold badL
  rw [List.find?_range_eq_none.mpr fun j hj => by rw [ho j hj] <;> rfl] <;> rfl
theorem told_len {ts : List Str} (h : ts.length = 0 ∨ 24 < ts.length) : told ts = -1 := by
  unfold told badLine
  rw [if_neg (by omega)] <;> rfl
theorem getD_set {ts : List Str} {a j : Nat} {x : Str} : (ts.set a x).getD j "" = if a = j ∧ j < ts.length then x else ts.getD j "" := by
  rw [List.getD_eq_getElem?_getD, List.getD_eq_getElem?_getD, List.getElem?_set]
  by_cases h : a = j
  · subst h
    by_cases h2 : a < ts.length
    · rw [if_pos rfl, if_pos h2, if_pos ⟨rfl, h2⟩] <;> rfl
    · rw [if_pos rfl, if_neg h2, if_neg (by omega), List.getElem?_eq_none (by omega)]
  · rw [if_neg h, if_neg (by omega)]
section
variable {L : Nat} {ts : List Str}
/-- what is known of the list: every line valid -/
structure WL (L : Nat) (ts : List Str) : Prop where
  l1 : 1 ≤ L
  l2 : L ≤ 24
  len : ts.length = L
  r0 : ts[0]? = some ("rest" : Str)
  ins : ∀ t ∈ ts, Ins L t
theorem WL.ok (h : WL L ts) {j : Nat} (hj : j < L) : lineOk L j (ts.getD j "") = true := by
  have e : ts[j]? = some (ts.getD j "") := by
    rw [List.getD_eq_getElem?_getD, List.getElem?_eq_getElem (by rw [h.len]; exact hj)] <;> rfl
  refine lineOk_ins (h.ins _ (List.mem_of_getElem? e)) ?_
  by_cases z : j = 0
  · subst z
    rw [h.r0] at e
    exact .inr (Option.some.inj e).symm
  · exact .inl z
theorem WL.spoiled (h : WL L ts) {a : Nat} {x : Str} (ha : a < L) (hx : x ∉ allI L) : told (ts.set a x) = a := by
  have e : (ts.set a x).length = L := by rw [List.length_set, h.len]
  refine told_at (by rw [e]; exact h.l1) (by rw [e]; exact h.l2) (by rw [e]; exact ha) ?_ fun j hj => ?_
  · rw [e, getD_set, if_pos ⟨rfl, by rw [h.len]; exact ha⟩]
    exact lineBad hx
  · rw [e, getD_set, if_neg (by omega)]
    exact h.ok (by omega)
theorem WL.twice (h : WL L ts) {a o : Nat} {x y : Str} (ha : a < L) (ho : o < L) (hx : x ∉ allI L) (hy : y ∉ allI L) : told ((ts.set a x).set o y) = (min a o : Nat) := by
  have e : ((ts.set a x).set o y).length = L := by rw [List.length_set, List.length_set, h.len]
  refine told_at (by rw [e]; exact h.l1) (by rw [e]; exact h.l2) (by rw [e]; omega) ?_ fun j hj => ?_
  · rw [e, getD_set]
    split
    · exact lineBad hy
    · rename_i n
      rw [List.length_set, h.len] at n
      rw [getD_set, if_pos ⟨by omega, by rw [h.len]; omega⟩]
      exact lineBad hx
  · rw [e, getD_set, if_neg (by omega), getD_set, if_neg (by omega)]
    exact h.ok (by omega)
theorem told_zero {ts : List Str} (h1 : 1 ≤ ts.length) (h2 : ts.length ≤ 24) (hx : ts.getD 0 "" ≠ "rest") : told ts = 0 :=
  told_at (a := 0) h1 h2 (by omega) (lineBad0 hx) fun j hj => absurd hj (Nat.not_lt_zero _)
end
/-! the lists of the law -/
def FineT (t : Str) : Prop := t.length ≤ 900 ∧ nosep t = true
def Fine (ys : List Str) : Prop := 1 ≤ ys.length ∧ ys.length ≤ 1000 ∧ ∀ t ∈ ys, FineT t
theorem fine_ins {L : Nat} {t : Str} (h : Ins L t) : FineT t := by
  obtain ⟨h1, _, _, _, _, _, h2⟩ := h
  exact ⟨by omega, nosep_of h2⟩
theorem fine_set {ys : List Str} {i : Nat} {x : Str} (h : Fine ys) (hx : FineT x) : Fine (ys.set i x) := by
  refine ⟨by rw [List.length_set]; exact h.1, by rw [List.length_set]; exact h.2.1, fun t ht => ?_⟩
  rcases List.mem_or_eq_of_mem_set ht with z | z
  · exact h.2.2 t z
  · rw [z]; exact hx
theorem fine_rest {n : Nat} (h1 : 1 ≤ n) (h2 : n ≤ 1000) : Fine (List.replicate n ("rest" : Str)) := by
  refine ⟨by rw [List.length_replicate]; exact h1, by rw [List.length_replicate]; exact h2, fun t ht => ?_⟩
  rw [(List.mem_replicate.mp ht).2]
  exact ⟨by decide, by decide +kernel⟩
theorem v_lineF {ys : List Str} {b : Bool} {Q : Unit → D → Prop} {E : Unit → Exn → Prop} (h : Fine ys) (q : Q () (.int (told ys))) : pf__law_line () [.lst (dStrs ys), .bl b] Q E :=
  v_line h.2.1 (fun t ht => (h.2.2 t ht).1) (fun _ => ⟨fun e => by have := h.1; rw [e] at this; exact absurd this (by decide), fun t ht => (h.2.2 t ht).2⟩) q
section
variable {L p o n m : Nat} {ts : List Str} {x y f : Str}
theorem WL.fine (W : WL L ts) : Fine ts := ⟨by rw [W.len]; exact W.l1, by rw [W.len]; exact Nat.le_trans W.l2 (by decide), fun t ht => fine_ins (W.ins t ht)⟩
theorem faulty_fine (h : Faulty L x) : FineT x := ⟨Nat.le_trans h.1 (by decide), h.2.1⟩
theorem WL.longer (W : WL L ts) (hx : FineT x) : Fine (ts.set p x ++ List.replicate (25 - L) ("rest" : Str)) ∧ told (ts.set p x ++ List.replicate (25 - L) ("rest" : Str)) = -1 := by
  have l2 := W.l2
  have e : (ts.set p x ++ List.replicate (25 - L) ("rest" : Str)).length = 25 := by rw [List.length_append, List.length_set, W.len, List.length_replicate]; omega
  refine ⟨⟨by omega, by omega, fun t ht => ?_⟩, told_len (by omega)⟩
  rcases List.mem_append.mp ht with z | z
  · exact (fine_set W.fine hx).2.2 t z
  · exact (fine_rest (n := 25 - L) (by omega) (by omega)).2.2 t z
theorem WL.cons (W : WL L ts) : ∃ tl, ts = ("rest" : Str) :: tl := by
  cases ts with
  | nil => have := W.r0; simp at this
  | cons a tl => exact ⟨tl, by have := W.r0; simp at this; rw [this]⟩
theorem WL.both (W : WL L ts) (hx : FineT x) (hf : FineT f) (hn : f ≠ "rest") : Fine ((ts.set 0 f).take 1 ++ (ts.set p x).drop 1) ∧ told ((ts.set 0 f).take 1 ++ (ts.set p x).drop 1) = 0 := by
  obtain ⟨tl, rfl⟩ := W.cons
  have l1 := W.l1
  have l2 := W.l2
  have ln := W.len
  have e : (((("rest" : Str) :: tl).set 0 f).take 1 ++ ((("rest" : Str) :: tl).set p x).drop 1) = f :: ((("rest" : Str) :: tl).set p x).drop 1 := rfl
  rw [e]
  have le : (f :: ((("rest" : Str) :: tl).set p x).drop 1).length = L := by
    rw [List.length_cons, List.length_drop, List.length_set, ln]; omega
  refine ⟨⟨by omega, by omega, fun t ht => ?_⟩, told_zero (by omega) (by omega) hn⟩
  rcases List.mem_cons.mp ht with z | z
  · rw [z]; exact hf
  · exact (fine_set W.fine hx).2.2 t (List.mem_of_mem_drop z)
theorem WL.first (W : WL L ts) (hf : FineT f) (hn : f ≠ "rest") : Fine (ts.set 0 f) ∧ told (ts.set 0 f) = 0 := by
  have l1 := W.l1
  have l2 := W.l2
  have ln := W.len
  refine ⟨fine_set W.fine hf, told_zero (by rw [List.length_set]; omega) (by rw [List.length_set]; omega) ?_⟩
  rw [getD_set, if_pos ⟨rfl, by omega⟩]
  exact hn
end
end LW

namespace LW
open PySem PySem.Spec PyProof.Rows L2
local macro_rules | `(tactic| walk_at "pos") => `(tactic| first | decide | omega | assumption)
local macro_rules | `(tactic| walk_at "ne") => `(tactic| first
  | assumption
  | (refine Ne.symm ?_; assumption)
  | (refine' ne_of_none ?h1 ?h2; (case h2 => assumption); (case h1 => walk_at "at"))
  | (refine' Ne.symm (ne_of_none ?h1 ?h2); (case h2 => assumption); (case h1 => walk_at "at")))
local macro_rules | `(tactic| walk_at "nin") => `(tactic| first
  | exact nin0
  | (refine nin1 ?_; walk_at "ne")
  | (refine nin2 ?_ ?_ <;> walk_at "ne")
  | (refine nin3 ?_ ?_ ?_ <;> walk_at "ne"))
local macro_rules | `(tactic| walk_at "at") => `(tactic| first
  | assumption
  | (refine' Gr.get0 ?h1 ?h2; (case h1 => assumption); (case h2 => walk_at "at"))
  | (refine' Gr.keepB ?h1 ?h2 ?h3; (case h1 => assumption); (case h2 => walk_at "at"); (case h3 => first | exact Or.inl rfl | (refine Or.inr ?_; walk_at "nin"))))
local macro_rules | `(tactic| walk_at "sql") => `(tactic| first
  | assumption
  | (refine' sql_of ?h1; (case h1 => walk_at "at"))
  | (refine' sql_frz ?h1; (case h1 => walk_at "at"))
  | (refine' Gr.sql0 ?h1 ?h2; (case h1 => assumption); (case h2 => walk_at "sql"))
  | (refine' Gr.sqlB ?h1 ?h2 ?h3; (case h1 => assumption); (case h2 => walk_at "sql"); (case h3 => walk_at "nin")))
local macro_rules | `(tactic| walk_at "tx") => `(tactic| first
  | assumption
  | (refine' TupX.gr ?tx1 ?tx2; (case tx2 => assumption); (case tx1 => walk_at "tx")))
local macro_rules | `(tactic| walk_at "sqt") => `(tactic| first
  | assumption
  | (refine' TupX.sqt ?tx1; (case tx1 => walk_at "tx"))
  | (refine' sqt_of ?h1; (case h1 => walk_at "at"))
  | (refine' Gr.sqt ?h1 ?h2; (case h1 => assumption); (case h2 => walk_at "sqt")))
local macro_rules | `(tactic| walk_at "sq") => `(tactic| first
  | assumption
  | (refine Or.inl ?_; walk_at "sql")
  | (refine Or.inr ?_; walk_at "sqt"))
local macro_rules | `(tactic| walk_at "fre") => `(tactic| first
  | assumption
  | (refine' Gr.free0 ?h1 ?h2; (case h2 => assumption); (case h1 => assumption))
  | (refine' Gr.free1 ?h1 ?h2 ?h3; (case h2 => assumption); (case h1 => assumption); (case h3 => walk_at "ne")))
local macro_rules | `(tactic| walk_at "sub") => `(tactic| first
  | exact sub0
  | (refine sub1 ?_; first | (refine Or.inl ?_; simp; done) | (refine Or.inr ?_; walk_at "fre"))
  | (refine sub2 ?_ ?_ <;> first | (refine Or.inl ?_; simp; done) | (refine Or.inr ?_; walk_at "fre")))
local macro_rules | `(tactic| walk_at "gr") => `(tactic| first
  | assumption
  | exact Gr.refl _
  | (refine' Gr.same1 ?h1 ?h2; (case h1 => walk_at "at"); (case h2 => exact rfl))
  | (refine' Gr.step ?h1 ?h2 ?h3; (case h1 => assumption); (case h2 => walk_at "gr"); (case h3 => walk_at "sub")))
local macro_rules | `(tactic| walk_at "ix") => `(tactic| first
  | exact rfl
  | (refine' atI_nat ?h1; (case h1 => assumption)))
local macro_rules | `(tactic| walk_at "w1") => `(tactic| first
  | with_reducible refine w_seq ?_
  | ((with_reducible refine' w_var ?h1 ?h2); (case h1 => exact rfl))
  | with_reducible refine w_c ?_
  | with_reducible refine w_op ?_
  | with_reducible refine w_asg ?_
  | with_reducible refine w_cons ?_
  | with_reducible refine w_nil ?_
  | with_reducible refine w_rI0 ?_
  | with_reducible refine w_exb ?_
  | with_reducible refine w_test ?_
  | with_reducible refine w_ifS ?_
  | with_reducible refine w_ret ?_
  | with_reducible refine w_cb ?_
  | ((with_reducible refine w_gname ?_); try dsimp only [List.set])
  | ((with_reducible refine w_eq ?h1 ?h2); (case h1 => exact rfl))
  | ((with_reducible refine w_ne ?h1 ?h2); (case h1 => exact rfl))
  | with_reducible refine w_drop ?_
  | with_reducible refine w_call ?_
  | with_reducible refine w_callD ?_
  | with_reducible refine w_call1 ?_
  | with_reducible refine w_callN ?_
  | with_reducible refine w_callNS ?_
  | with_reducible refine w_and ?_
  | with_reducible refine w_or ?_
  | with_reducible refine w_not ?_
  | with_reducible refine w_T ?_
  | with_reducible refine w_F ?_
  | with_reducible refine w_nT ?_
  | with_reducible refine w_nF ?_
  | with_reducible refine w_un ?_
  | with_reducible refine w_rU ?_
  | with_reducible refine w_tLst ?_
  | with_reducible refine w_tTup ?_
  | with_reducible refine w_gsub ?_
  | with_reducible refine w_bm ?_
  | with_reducible refine w_bm0 ?_
  | with_reducible refine w_abs ?_
  | with_reducible refine w_int ?_
  | with_reducible refine w_chain ?_
  | with_reducible refine w_tB ?_
  | with_reducible refine w_exV ?_
  | with_reducible refine w_andV ?_
  | with_reducible refine w_orV ?_
  | with_reducible refine w_notV ?_
  | with_reducible refine w_ifE ?_
  | with_reducible refine w_retN ?_
  | with_reducible refine w_for ?_
  | with_reducible refine w_iRng1 ?_
  | with_reducible refine w_iRng2 ?_
  | with_reducible refine w_iRng3 ?_
  | with_reducible refine w_iList ?_
  | with_reducible refine w_iTup ?_
  | with_reducible refine w_next ?_
  | ((with_reducible refine w_ends ?_); dsimp only [List.set]))
local macro_rules | `(tactic| walk_at "h1") => `(tactic| first
  | ((with_reducible refine' w_ixL ?h1 ?h2 ?h3); (case h1 => walk_at "sql"); (case h2 => walk_at "ix"))
  | ((with_reducible refine' w_ixT ?h1 ?h2 ?h3); (case h1 => walk_at "sqt"); (case h2 => walk_at "ix"))
  | ((with_reducible refine' w_tupOfT ?h1 ?h2); (case h1 => walk_at "sqt"))
  | ((with_reducible refine' w_tupOfL ?h1 ?h2); (case h1 => walk_at "sql"); intro _ _ _ _ _)
  | ((with_reducible refine' w_len ?h1 ?h2); (case h1 => walk_at "sq"))
  | ((with_reducible refine' w_ty ?h1 ?h2); (case h1 => walk_at "sql"))
  | ((with_reducible refine' w_setL ?h1 ?h2 ?h3); (case h1 => walk_at "at"); (case h2 => exact rfl); intro _ _ _; try dsimp only [List.set])
  | ((with_reducible refine' w_lst ?h1 ?h2); (case h1 => first | exact small (by decide) | exact small (by simp)); intro _ _ _ _ _)
  | ((with_reducible refine' w_tup ?h1 ?h2); (case h1 => first | exact small (by decide) | exact small (by simp)); intro _ _ _ _ _))
local macro_rules | `(tactic| walk_at "j1") => `(tactic| first
  | ((with_reducible refine' w_rItL ?h1 ?h2); (case h1 => walk_at "sql"))
  | ((with_reducible refine' w_rItT ?h1 ?h2); (case h1 => walk_at "sqt"))
  | ((with_reducible refine' w_ixSL ?h1 ?h2 ?h3); (case h1 => walk_at "sql"); (case h2 => walk_at "ix"))
  | ((with_reducible refine' w_ixST ?h1 ?h2 ?h3); (case h1 => walk_at "sqt"); (case h2 => walk_at "ix")))
local macro_rules | `(tactic| walk_at "rep") => `(tactic| first
  | assumption
  | exact Rep.int _
  | exact Rep.bl _
  | exact Rep.str _
  | exact Rep.non
  | (refine' rep_tupI ?h1; (case h1 => walk_at "sqt"))
  | (refine' rep_lstI ?h1; (case h1 => walk_at "sql"))
  | (refine' Rep.gr0 ?h1 ?h2; (case h1 => assumption); (case h2 => walk_at "rep"))
  | (refine' Rep.grB ?h1 ?h2 ?h3; (case h1 => assumption); (case h2 => walk_at "rep"); (case h3 => first | exact rfl | assumption)))
local macro_rules | `(tactic| walk_at "i1") => `(tactic| first
  | ((with_reducible refine' w_isiTT ?is1 ?is2); (case is1 => walk_at "sqt"))
  | ((with_reducible refine' w_isiLL ?is1 ?is2); (case is1 => walk_at "sql"))
  | ((with_reducible refine' w_isE ?ie1 ?ie2 ?ie3); (case ie2 => assumption); (case ie1 => assumption))
  | ((with_reducible refine' w_isi_tuple ?h1 ?h2 ?h3); (case h1 => walk_at "rep"); (case h2 => exact rfl); dsimp only [D.isTup])
  | ((with_reducible refine' w_isi_list ?h1 ?h2 ?h3); (case h1 => walk_at "rep"); (case h2 => exact rfl); dsimp only [D.isLst])
  | ((with_reducible refine' w_isi_bool ?h1 ?h2 ?h3); (case h1 => walk_at "rep"); (case h2 => exact rfl); dsimp only [D.isBl])
  | ((with_reducible refine' w_isi_int ?h1 ?h2 ?h3); (case h1 => walk_at "rep"); (case h2 => exact rfl); dsimp only [D.isInt])
  | ((with_reducible refine' w_isi_str ?h1 ?h2 ?h3); (case h1 => walk_at "rep"); (case h2 => exact rfl); dsimp only [D.isStr]))
local macro_rules | `(tactic| walk_at "w") => `(tactic| repeat (first | walk_at "w1" | walk_at "h1" | walk_at "c1" | walk_at "n1" | walk_at "i1" | walk_at "j1"))
local macro_rules | `(tactic| walk_at "c1") => `(tactic| first
  | with_reducible refine w_fld ?_
  | with_reducible refine w_put ?_
  | with_reducible refine w_kRef ?_
  | with_reducible refine w_makeS ?_
  | with_reducible refine w_cmethS ?_
  | with_reducible refine w_binS ?_
  | with_reducible refine w_binI ?_
  | with_reducible refine w_invS ?_
  | with_reducible refine w_callOS ?_
  | with_reducible refine w_methS ?_
  | with_reducible refine w_cval ?_
  | with_reducible refine w_lstRg ?_
  | with_reducible refine w_tupRg ?_
  | with_reducible refine w_tRg1 ?_
  | with_reducible refine w_kRg1 ?_
  | with_reducible refine w_lc ?_
  | (with_reducible refine w_trn ?_; dsimp only [wipe, List.set])
  | ((with_reducible refine' w_rCVal ?rc1 ?rc2 ?rc3); (case rc2 => assumption); (case rc1 => assumption)))
local macro_rules | `(tactic| walk_at "num") => `(tactic| first
  | assumption
  | (refine' Num.gr ?h1 ?h2; (case h2 => assumption); (case h1 => walk_at "num")))
local macro_rules | `(tactic| walk_at "n1") => `(tactic| first
  | ((with_reducible refine' w_places ?nm1 ?nm2 ?nm3); (case nm2 => walk_at "num"); (case nm1 => assumption); intro _ _))
local macro_rules | `(tactic| walk_at "n1") => `(tactic| first
  | ((with_reducible refine' w_isiNum ?nm1 ?nm2 ?nm3 ?nm4); (case nm3 => walk_at "num"); (case nm1 => assumption); (case nm2 => assumption))
  | ((with_reducible refine' w_numLen ?nm1 ?nm2); (case nm1 => walk_at "num"))
  | with_reducible refine w_numCal ?_
  | with_reducible refine w_bmX ?_
  | ((with_reducible refine' w_kTupX ?nm1 ?nm2); (case nm1 => walk_at "tx")))
local macro_rules | `(tactic| walk_at "len") => `(tactic| first | decide | (simp only [List.length_cons, List.length_nil, List.length_append, List.length_map, List.length_range, List.length_set, dInts]; omega) | omega)
local macro_rules | `(tactic| walk_at "v1") => `(tactic| first
  | with_reducible refine v_seq ?_
  | ((with_reducible refine' v_Va ?h1 ?h2); (case h1 => exact rfl))
  | ((with_reducible refine' v_V ?h1 ?h2); (case h1 => exact rfl))
  | with_reducible refine v_C ?_
  | with_reducible refine v_op ?_
  | with_reducible refine v_cons ?_
  | with_reducible refine v_nil ?_
  | with_reducible refine v_ca ?_
  | with_reducible refine v_un ?_
  | with_reducible refine v_fI0 ?_
  | with_reducible refine v_te ?_
  | with_reducible refine v_exb ?_
  | with_reducible refine v_exi ?_
  | with_reducible refine v_if ?_
  | with_reducible refine v_ret ?_
  | with_reducible refine v_call ?_
  | ((with_reducible refine v_set ?_))
  | with_reducible refine v_asg ?_
  | ((with_reducible refine v_gnm ?_); try dsimp only [List.set])
  | ((with_reducible refine' v_gtp ?h1 ?h2); (case h1 => exact rfl))
  | with_reducible refine v_gsc ?_
  | with_reducible refine v_gsn ?_
  | with_reducible refine v_setO ?_
  | ((with_reducible refine v_kSetO ?_); intro _; try dsimp only [List.set])
  | ((with_reducible refine' v_app ?h1 ?h2 ?h3); (case h1 => exact rfl); (case h2 => walk_at "len"))
  | with_reducible refine v_put ?_
  | ((with_reducible refine' v_kPut ?h1 ?h2); (case h1 => exact rfl))
  | ((with_reducible refine v_frz ?_); try dsimp only [frz, List.getElem?_cons_zero, List.getElem?_cons_succ, List.set])
  | with_reducible refine v_drop ?_
  | with_reducible refine v_nx ?_
  | with_reducible refine v_inW ?_
  | with_reducible refine v_pureP ?_
  | with_reducible refine v_eqI ?_
  | with_reducible refine v_neI ?_
  | with_reducible refine v_eqS ?_
  | with_reducible refine v_neS ?_
  | with_reducible refine v_eqB ?_
  | with_reducible refine v_neB ?_
  | with_reducible refine v_isN ?_
  | with_reducible refine v_neg ?_
  | with_reducible refine v_notT ?_
  | with_reducible refine v_andT ?_
  | with_reducible refine v_orT ?_
  | with_reducible refine v_yes ?_
  | with_reducible refine v_andV ?_
  | with_reducible refine v_orV ?_
  | with_reducible refine v_notV ?_
  | with_reducible refine v_chain ?_
  | with_reducible refine v_ifE ?_
  | with_reducible refine w_T ?_
  | with_reducible refine w_F ?_
  | with_reducible refine w_nT ?_
  | with_reducible refine w_nF ?_)
local macro_rules | `(tactic| walk_at "v2") => `(tactic| first
  | with_reducible refine v_lenL ?_
  | with_reducible refine v_lenT ?_
  | with_reducible refine v_listL ?_
  | with_reducible refine v_listT ?_
  | with_reducible refine v_tupleL ?_
  | with_reducible refine v_tupleT ?_
  | with_reducible refine v_absI ?_
  | with_reducible refine v_intI ?_
  | with_reducible refine v_intB ?_
  | ((with_reducible refine' v_fLst ?h1 ?h2); (case h1 => walk_at "len"))
  | ((with_reducible refine' v_fTup ?h1 ?h2); (case h1 => walk_at "len"))
  | ((with_reducible refine' v_ixL ?h1 ?h2); (case h1 => exact rfl))
  | ((with_reducible refine' v_ixT ?h1 ?h2); (case h1 => exact rfl))
  | ((with_reducible refine' v_catL ?h1 ?h2); (case h1 => walk_at "len"))
  | ((with_reducible refine' v_catT ?h1 ?h2); (case h1 => walk_at "len"))
  | with_reducible refine v_sl ?_
  | with_reducible refine v_pn ?_
  | with_reducible refine v_ps ?_
  | with_reducible refine v_slL ?_
  | with_reducible refine v_slT ?_
  | ((with_reducible refine' v_fld ?h1 ?h2); (case h1 => exact rfl))
  | with_reducible refine v_meth ?_
  | ((with_reducible refine' v_kIns ?h1 ?h2); (case h1 => decide))
  | with_reducible refine v_obj ?_
  | with_reducible refine v_kObj ?_
  | with_reducible refine v_bin ?_
  | with_reducible refine v_kBin ?_
  | with_reducible refine v_binI ?_
  | with_reducible refine v_kBinI ?_
  | with_reducible refine v_inv ?_
  | with_reducible refine v_make ?_
  | with_reducible refine v_kAdr ?_
  | with_reducible refine v_cmeth ?_
  | with_reducible refine v_lenO ?_
  | with_reducible refine v_kLenO ?_
  | with_reducible refine v_raise ?_
  | with_reducible refine v_retN ?_
  | ((with_reducible refine' v_retO ?h1 ?h2); (case h1 => exact rfl))
  | with_reducible refine v_brk ?_
  | with_reducible refine v_cnt ?_
  | with_reducible refine v_for ?_
  | with_reducible refine v_iSeq ?_
  | with_reducible refine v_iTupl ?_
  | with_reducible refine v_exl ?_
  | with_reducible refine v_ext ?_
  | with_reducible refine v_iRg1 ?_
  | with_reducible refine v_iRg2 ?_
  | ((with_reducible refine' v_kRg ?h1 ?h2); (case h1 => refine rgB ?_ ?_ <;> omega))
  | ((with_reducible refine' v_kRg2 ?h1 ?h2 ?h3); (case h1 => refine rgB ?_ ?_ <;> omega); (case h2 => refine rgB ?_ ?_ <;> omega))
  | with_reducible refine v_lc ?_
  | with_reducible refine v_star ?_
  | with_reducible refine v_sta ?_
  | with_reducible refine v_stb ?_
  | with_reducible refine v_tru ?_
  | with_reducible refine v_truL ?_
  | with_reducible refine v_truT ?_
  | with_reducible refine v_truB ?_
  | with_reducible refine v_truN ?_
  | with_reducible refine v_listRg ?_
  | with_reducible refine v_tupRg ?_
  | with_reducible refine v_rg1 ?_
  | with_reducible refine v_rg2 ?_
  | with_reducible refine v_kTwo ?_
  | ((with_reducible refine' v_aug ?h1 ?h2); (case h1 => exact rfl))
  | ((with_reducible refine v_kAug ?_); try dsimp only [List.set])
  | with_reducible refine v_exl ?_)
local macro_rules | `(tactic| walk_at "v3") => `(tactic| first
  | with_reducible refine v_isiO' ?_
  | with_reducible refine v_lenSc ?_
  | with_reducible refine v_tcount ?_
  | with_reducible refine v_lcount ?_
  | with_reducible refine v_isT ?_
  | with_reducible refine v_try ?_
  | with_reducible refine v_sm ?_
  | with_reducible refine v_iEnumQ ?_
  | with_reducible refine v_cvI ?_
  | with_reducible refine v_fset ?_
  | with_reducible refine v_iOwn ?_
  | with_reducible refine v_raiseX ?_
  | ((with_reducible refine' v_kN63 ?h1 ?h2 ?h3); (case h1 => omega); (case h2 => omega))
  | ((with_reducible refine' v_kN6 ?h1 ?h2 ?h3); (case h1 => omega); (case h2 => omega))
  | ((with_reducible refine' v_fI ?h1 ?h2); (case h1 => first | omega | (refine ⟨?_, ?_, ?_⟩ <;> omega) | (refine .inl ⟨?_, ?_⟩ <;> omega) | (refine .inr ⟨?_, ?_⟩ <;> omega) | decide))
  | with_reducible refine v_puB ?_
  | with_reducible refine v_puI ?_
  | with_reducible refine v_puS ?_
  | with_reducible refine v_puN ?_
  | ((with_reducible refine' v_kOwn ?h1 ?h2); (case h1 => exact rfl))
  | with_reducible refine v_prop ?_
  | with_reducible refine v_listO ?_
  | ((with_reducible refine' v_kListO ?h1 ?h2 ?h3); (case h1 => exact rfl); (case h2 => simp only [length_dInts, length_dStrs]; omega))
  | with_reducible refine v_exs ?_
  | with_reducible refine v_ends ?_
  | ((with_reducible refine' v_kIsT ?h1 ?h2 ?h3); (case h1 => exact rfl); (case h2 => decide +kernel))
  | with_reducible refine v_mtT ?_
  | with_reducible refine v_mtL ?_)
local macro_rules | `(tactic| walk_at "v") => `(tactic| ((repeat (first | walk_at "v1" | walk_at "v2" | walk_at "v3")); (try dsimp only [List.set])))
local macro_rules | `(tactic| walk_at "v3") => `(tactic| first
  | with_reducible refine v_isInt ?_
  | with_reducible refine v_isIntB ?_
  | with_reducible refine v_isTup ?_
  | with_reducible refine v_isLst ?_
  | with_reducible refine v_isBl ?_
  | with_reducible refine v_isStr ?_
  | with_reducible refine v_gmeth ?_
  | with_reducible refine v_gcall ?_
  | with_reducible refine v_listG ?_
  | with_reducible refine v_forG ?_
  | with_reducible refine v_iAny ?_)
local macro_rules | `(tactic| walk_at "v3") => `(tactic| with_reducible refine v_raiseF ?_)
def top (i : Nat) : Stmt := PySem.Challenge.pw_ownlabels_k10_programs_that_are_invalid.main.body.getD i (.Pass ⟨0, 0, 0, 0⟩)
abbrev s__law_begin : Stmt := top 12
abbrev N__law_begin : List Str := ["_law_script"]
theorem sc__law_begin : FnScope N__law_begin ["_law_script"] (defScope s__law_begin) := ⟨rfl, rfl, rfl, by decide +kernel, rfl, by decide +kernel, by decide +kernel⟩
def d__law_begin : DefW := ⟨fun K => He.ga K "_law_begin", "_law_begin", "_law_begin", defArgs s__law_begin, defBody s__law_begin, defScope s__law_begin, [], none⟩
abbrev A__law_begin (K : PySem.W.Frag) : Addr := He.ga K "_law_begin"
abbrev s__law_draw : Stmt := top 13
abbrev N__law_draw : List Str := ["_law_tape", "_law_many", "_law_cell", "_law_number"]
theorem sc__law_draw : FnScope N__law_draw ["_law_tape", "_law_many"] (defScope s__law_draw) := ⟨rfl, rfl, rfl, by decide +kernel, rfl, by decide +kernel, by decide +kernel⟩
def d__law_draw : DefW := ⟨fun K => He.ga K "_law_draw", "_law_draw", "_law_draw", defArgs s__law_draw, defBody s__law_draw, defScope s__law_draw, [], none⟩
abbrev A__law_draw (K : PySem.W.Frag) : Addr := He.ga K "_law_draw"
abbrev s__law_instruction : Stmt := top 15
abbrev N__law_instruction : List Str := ["_law_tape", "_law_lines", "_law_conditions", "_law_kind", "_law_condition"]
theorem sc__law_instruction : FnScope N__law_instruction ["_law_tape", "_law_lines"] (defScope s__law_instruction) := ⟨rfl, rfl, rfl, by decide +kernel, rfl, by decide +kernel, by decide +kernel⟩
def d__law_instruction : DefW := ⟨fun K => He.ga K "_law_instruction", "_law_instruction", "_law_instruction", defArgs s__law_instruction, defBody s__law_instruction, defScope s__law_instruction, [], none⟩
abbrev A__law_instruction (K : PySem.W.Frag) : Addr := He.ga K "_law_instruction"
abbrev s__law_written : Stmt := top 16
abbrev N__law_written : List Str := ["_law_tape", "_law_most", "_law_lines", "_law_k"]
theorem sc__law_written : FnScope N__law_written ["_law_tape", "_law_most"] (defScope s__law_written) := ⟨rfl, rfl, rfl, by decide +kernel, rfl, by decide +kernel, by decide +kernel⟩
def d__law_written : DefW := ⟨fun K => He.ga K "_law_written", "_law_written", "_law_written", defArgs s__law_written, defBody s__law_written, defScope s__law_written, [], none⟩
abbrev A__law_written (K : PySem.W.Frag) : Addr := He.ga K "_law_written"
abbrev s__law_fault : Stmt := top 17
abbrev N__law_fault : List Str := ["_law_tape", "_law_lines", "_law_odd", "_law_far"]
theorem sc__law_fault : FnScope N__law_fault ["_law_tape", "_law_lines"] (defScope s__law_fault) := ⟨rfl, rfl, rfl, by decide +kernel, rfl, by decide +kernel, by decide +kernel⟩
def d__law_fault : DefW := ⟨fun K => He.ga K "_law_fault", "_law_fault", "_law_fault", defArgs s__law_fault, defBody s__law_fault, defScope s__law_fault, [], none⟩
abbrev A__law_fault (K : PySem.W.Frag) : Addr := He.ga K "_law_fault"
abbrev s__line_number : Stmt := top 8
abbrev N__line_number : List Str := ["word", "lines", "line"]
theorem sc__line_number : FnScope N__line_number ["word", "lines"] (defScope s__line_number) := ⟨rfl, rfl, rfl, by decide +kernel, rfl, by decide +kernel, by decide +kernel⟩
def d__line_number : DefW := ⟨fun K => He.ga K "_line_number", "_line_number", "_line_number", defArgs s__line_number, defBody s__line_number, defScope s__line_number, [], none⟩
abbrev A__line_number (K : PySem.W.Frag) : Addr := He.ga K "_line_number"
abbrev s__parsed : Stmt := top 9
abbrev N__parsed : List Str := ["text", "lines", "words", "verb", "target"]
theorem sc__parsed : FnScope N__parsed ["text", "lines"] (defScope s__parsed) := ⟨rfl, rfl, rfl, by decide +kernel, rfl, by decide +kernel, by decide +kernel⟩
def d__parsed : DefW := ⟨fun K => He.ga K "_parsed", "_parsed", "_parsed", defArgs s__parsed, defBody s__parsed, defScope s__parsed, [], none⟩
abbrev A__parsed (K : PySem.W.Frag) : Addr := He.ga K "_parsed"
abbrev s_BadProgram___init__ : Stmt := inClass (top 4) 0
abbrev N_BadProgram___init__ : List Str := ["self", "line"]
theorem sc_BadProgram___init__ : SScope N_BadProgram___init__ ["self", "line"] (defScope s_BadProgram___init__) := ⟨rfl, rfl, rfl, by decide +kernel, rfl, by decide +kernel, by decide +kernel, SScope.free_of (by decide +kernel), rfl, rfl⟩
def d_BadProgram___init__ : DefW := ⟨fun K => He.ma K (He.ga K "BadProgram") "__init__", "__init__", "BadProgram.__init__", defArgs s_BadProgram___init__, defBody s_BadProgram___init__, defScope s_BadProgram___init__, [], some "BadProgram"⟩
abbrev A_BadProgram___init__ (K : PySem.W.Frag) : Addr := He.ma K (He.ga K "BadProgram") "__init__"
abbrev s_BadInstruction___init__ : Stmt := inClass (top 3) 0
abbrev N_BadInstruction___init__ : List Str := ["self", "instruction"]
theorem sc_BadInstruction___init__ : SScope N_BadInstruction___init__ ["self", "instruction"] (defScope s_BadInstruction___init__) := ⟨rfl, rfl, rfl, by decide +kernel, rfl, by decide +kernel, by decide +kernel, SScope.free_of (by decide +kernel), rfl, rfl⟩
def d_BadInstruction___init__ : DefW := ⟨fun K => He.ma K (He.ga K "BadInstruction") "__init__", "__init__", "BadInstruction.__init__", defArgs s_BadInstruction___init__, defBody s_BadInstruction___init__, defScope s_BadInstruction___init__, [], some "BadInstruction"⟩
abbrev A_BadInstruction___init__ (K : PySem.W.Frag) : Addr := He.ma K (He.ga K "BadInstruction") "__init__"
abbrev s_Program___init__ : Stmt := inClass (top 10) 1
abbrev N_Program___init__ : List Str := ["self", "instructions", "rows", "line", "text", "row"]
theorem sc_Program___init__ : FnScope N_Program___init__ ["self", "instructions"] (defScope s_Program___init__) := ⟨rfl, rfl, rfl, by decide +kernel, rfl, by decide +kernel, by decide +kernel⟩
def d_Program___init__ : DefW := ⟨fun K => He.ma K (He.ga K "Program") "__init__", "__init__", "Program.__init__", defArgs s_Program___init__, defBody s_Program___init__, defScope s_Program___init__, [], none⟩
abbrev A_Program___init__ (K : PySem.W.Frag) : Addr := He.ma K (He.ga K "Program") "__init__"
abbrev s_Program_read : Stmt := inClass (top 10) 2
abbrev N_Program_read : List Str := ["cls", "text"]
theorem sc_Program_read : FnScope N_Program_read ["cls", "text"] (defScope s_Program_read) := ⟨rfl, rfl, rfl, by decide +kernel, rfl, by decide +kernel, by decide +kernel⟩
def d_Program_read : DefW := ⟨fun K => recAd "classmethod" K "Program" "read", "read", "Program.read", defArgs s_Program_read, defBody s_Program_read, defScope s_Program_read, [], none⟩
abbrev A_Program_read (K : PySem.W.Frag) : Addr := recAd "classmethod" K "Program" "read"
abbrev s__law_same : Stmt := top 14
abbrev N__law_same : List Str := ["_law_actual", "_law_expected", "_law_k"]
theorem sc__law_same : FnScope N__law_same ["_law_actual", "_law_expected"] (defScope s__law_same) := ⟨rfl, rfl, rfl, by decide +kernel, rfl, by decide +kernel, by decide +kernel⟩
def d__law_same : DefW := ⟨fun K => He.ga K "_law_same", "_law_same", "_law_same", defArgs s__law_same, defBody s__law_same, defScope s__law_same, [], none⟩
abbrev A__law_same (K : PySem.W.Frag) : Addr := He.ga K "_law_same"
abbrev s__law_line : Stmt := top 20
abbrev N__law_line : List Str := ["_law_instructions", "_law_by_text", "_law_passed", "e"]
theorem sc__law_line : FnScope N__law_line ["_law_instructions", "_law_by_text"] (defScope s__law_line) := ⟨rfl, rfl, rfl, by decide +kernel, rfl, by decide +kernel, by decide +kernel⟩
def d__law_line : DefW := ⟨fun K => He.ga K "_law_line", "_law_line", "_law_line", defArgs s__law_line, defBody s__law_line, defScope s__law_line, [], none⟩
abbrev A__law_line (K : PySem.W.Frag) : Addr := He.ga K "_law_line"
abbrev s__law_near : Stmt := top 19
abbrev N__law_near : List Str := ["_law_tape", "_law_lines", "_law_signs", "_law_text", "_law_k", "_law_at", "_law_sign"]
theorem sc__law_near : FnScope N__law_near ["_law_tape", "_law_lines"] (defScope s__law_near) := ⟨rfl, rfl, rfl, by decide +kernel, rfl, by decide +kernel, by decide +kernel⟩
def d__law_near : DefW := ⟨fun K => He.ga K "_law_near", "_law_near", "_law_near", defArgs s__law_near, defBody s__law_near, defScope s__law_near, [], none⟩
abbrev A__law_near (K : PySem.W.Frag) : Addr := He.ga K "_law_near"
abbrev s__law_all_instructions : Stmt := top 18
abbrev N__law_all_instructions : List Str := ["_law_lines", "_law_rows", "_law_line_here", "_law_condition"]
theorem sc__law_all_instructions : FnScope N__law_all_instructions ["_law_lines"] (defScope s__law_all_instructions) := ⟨rfl, rfl, rfl, by decide +kernel, rfl, by decide +kernel, by decide +kernel⟩
def d__law_all_instructions : DefW := ⟨fun K => He.ga K "_law_all_instructions", "_law_all_instructions", "_law_all_instructions", defArgs s__law_all_instructions, defBody s__law_all_instructions, defScope s__law_all_instructions, [], none⟩
abbrev A__law_all_instructions (K : PySem.W.Frag) : Addr := He.ga K "_law_all_instructions"
abbrev s_law : Stmt := top 21
abbrev N_law : List Str := ["_law_script", "_law_tape", "_law_instructions", "_law_lines", "_law_at", "_law_other", "_law_spoiled", "_law_twice", "_law_first", "_law_long", "_law_longer", "_law_both", "_law_by_text", "_law_good", "_law_joined", "_law_text", "_law_near_here", "_law_k"]
theorem sc_law : FnScope N_law ["_law_script"] (defScope s_law) := ⟨rfl, rfl, rfl, by decide +kernel, rfl, by decide +kernel, by decide +kernel⟩
def d_law : DefW := ⟨fun K => He.ga K "law", "law", "law", defArgs s_law, defBody s_law, defScope s_law, [], none⟩
abbrev A_law (K : PySem.W.Frag) : Addr := He.ga K "law"
def fn : List DefW := [d__law_begin, d__law_draw, d__law_instruction, d__law_written, d__law_fault, d__line_number, d__parsed, d_BadProgram___init__, d_BadInstruction___init__, d_Program___init__, d_Program_read, d__law_same, d__law_line, d__law_near, d__law_all_instructions, d_law]
def fa : List He.Fa := [.free "abs", .free "bool", .free "enumerate", .free "int", .free "isinstance", .free "len", .free "list", .free "min", .free "range", .free "str", .free "super", .free "tuple", .glo "_law_begin", .glo "_law_draw", .glo "_law_instruction", .glo "_law_written", .glo "_law_fault", .glo "_line_number", .glo "_parsed", .glo "_law_same", .glo "_law_line", .glo "_law_near", .glo "_law_all_instructions", .glo "law", .glo "BadInstruction", .glo "BadProgram", .glo "HallError", .glo "Program", .glo "CONDITIONS", .glo "MOVES", .mkr "Program", .cls "Program", .exm "BadInstruction" "BadProgram" false, .exm "BadInstruction" "HallError" true, .exm "BadProgram" "BadProgram" true, .exm "BadProgram" "HallError" true, .noat "Program" "instructions", .noat "Program" "rows"]
def exB (K : PySem.W.Frag) : List Bool := [(cmtB K "Program" "read"), (crdB K "Program"), (ctB K "CONDITIONS" [.str "first", .str "empty", .str "mine", .str "other", .str "none", .str "full", .str "enough", .str "behind"]), (ctB K "MOVES" [.str "take", .str "give", .str "on"]), (cvlB K "Program" "LONGEST" 24), (excCB K (He.ga K "BadProgram")), (decide (PySem.W.kitOne K (.ref (He.ga K "BadProgram")) (.ref (He.ga K "BadInstruction")) = some false)), (decide (PySem.W.kitOne K (.ref (He.ga K "BadProgram")) (.ref (He.ga K "HallError")) = some true)), (supxB K "BadInstruction" "instruction"), (supxB K "BadProgram" "line"), (xfB2 K (He.ga K "BadProgram") "line")]
abbrev RRow : PySem.W.OpenRow := PySem.W.OpenLaw.row PySem.Challenge.rw_ownlabels_k10_programs_that_are_invalid
abbrev hkW : PySem.W.Hook := hookW fa fn exB
def looseN : List PySem.Str := (["_wall", "HallError", "BadInstruction", "BadProgram", "CONDITIONS", "MOVES", "_line_number", "_parsed", "Program", "_law_begin", "_law_draw", "_law_same", "_law_instruction", "_law_written", "_law_fault", "_law_all_instructions", "_law_near", "_law_line"] : List PySem.Str)
set_option maxHeartbeats 0 in
theorem runW (w : World) : HandSHeadRun.RunEq RRow (PySem.W.view RRow.prog [21]) hkW (obT fa fn exB) 8000 looseN w := by
  intro os
  kernel_rfl
structure Ctx (K : PySem.W.Frag) (mg : Str → Option Value) : Prop where
  says : SaysW fa fn exB K
  glo : ∀ {x : Str}, (He.Fa.glo x).ok K = true → mg x = some (.ref (He.ga K x))
  free : ∀ {x : Str}, (He.Fa.free x).ok K = true → mg x = none
  int : ∀ {x : Str} {i : Int}, (He.Fa.int x i).ok K = true → ∃ t, mg x = some (.int i t)
  str : ∀ {x z : Str}, (He.Fa.str x z).ok K = true → ∃ t, mg x = some (.str z t)
section
variable {K : PySem.W.Frag} {mg : Str → Option Value}
theorem Ctx.b (c : Ctx K mg) (i : Nat) {b : Bool} (h : (exB K)[i]? = some b) : b = true := c.says.exs i h
theorem F__law_begin (c : Ctx K mg) : FunD K "_law_begin" "_law_begin" (defArgs s__law_begin) (defBody s__law_begin) (defScope s__law_begin) [] [] (A__law_begin K) (fdA K (A__law_begin K)) := fdA_of (c.says.def_ 0 (d := d__law_begin) rfl)
theorem b__law_begin (c : Ctx K mg) : Binds K (fdA K (A__law_begin K)) ["_law_script"] [] := (F__law_begin c).bindsN fun _ _ _ _ _ _ us hl => match us, hl with | [_], _ => rfl
theorem F__law_draw (c : Ctx K mg) : FunD K "_law_draw" "_law_draw" (defArgs s__law_draw) (defBody s__law_draw) (defScope s__law_draw) [] [] (A__law_draw K) (fdA K (A__law_draw K)) := fdA_of (c.says.def_ 1 (d := d__law_draw) rfl)
theorem b__law_draw (c : Ctx K mg) : Binds K (fdA K (A__law_draw K)) ["_law_tape", "_law_many"] [] := (F__law_draw c).bindsN fun _ _ _ _ _ _ us hl => match us, hl with | [_, _], _ => rfl
theorem F__law_instruction (c : Ctx K mg) : FunD K "_law_instruction" "_law_instruction" (defArgs s__law_instruction) (defBody s__law_instruction) (defScope s__law_instruction) [] [] (A__law_instruction K) (fdA K (A__law_instruction K)) := fdA_of (c.says.def_ 2 (d := d__law_instruction) rfl)
theorem b__law_instruction (c : Ctx K mg) : Binds K (fdA K (A__law_instruction K)) ["_law_tape", "_law_lines"] [] := (F__law_instruction c).bindsN fun _ _ _ _ _ _ us hl => match us, hl with | [_, _], _ => rfl
theorem F__law_written (c : Ctx K mg) : FunD K "_law_written" "_law_written" (defArgs s__law_written) (defBody s__law_written) (defScope s__law_written) [] [] (A__law_written K) (fdA K (A__law_written K)) := fdA_of (c.says.def_ 3 (d := d__law_written) rfl)
theorem b__law_written (c : Ctx K mg) : Binds K (fdA K (A__law_written K)) ["_law_tape", "_law_most"] [] := (F__law_written c).bindsN fun _ _ _ _ _ _ us hl => match us, hl with | [_, _], _ => rfl
theorem F__law_fault (c : Ctx K mg) : FunD K "_law_fault" "_law_fault" (defArgs s__law_fault) (defBody s__law_fault) (defScope s__law_fault) [] [] (A__law_fault K) (fdA K (A__law_fault K)) := fdA_of (c.says.def_ 4 (d := d__law_fault) rfl)
theorem b__law_fault (c : Ctx K mg) : Binds K (fdA K (A__law_fault K)) ["_law_tape", "_law_lines"] [] := (F__law_fault c).bindsN fun _ _ _ _ _ _ us hl => match us, hl with | [_, _], _ => rfl
theorem F__line_number (c : Ctx K mg) : FunD K "_line_number" "_line_number" (defArgs s__line_number) (defBody s__line_number) (defScope s__line_number) [] [] (A__line_number K) (fdA K (A__line_number K)) := fdA_of (c.says.def_ 5 (d := d__line_number) rfl)
theorem b__line_number (c : Ctx K mg) : Binds K (fdA K (A__line_number K)) ["word", "lines"] [] := (F__line_number c).bindsN fun _ _ _ _ _ _ us hl => match us, hl with | [_, _], _ => rfl
theorem F__parsed (c : Ctx K mg) : FunD K "_parsed" "_parsed" (defArgs s__parsed) (defBody s__parsed) (defScope s__parsed) [] [] (A__parsed K) (fdA K (A__parsed K)) := fdA_of (c.says.def_ 6 (d := d__parsed) rfl)
theorem b__parsed (c : Ctx K mg) : Binds K (fdA K (A__parsed K)) ["text", "lines"] [] := (F__parsed c).bindsN fun _ _ _ _ _ _ us hl => match us, hl with | [_, _], _ => rfl
theorem F_BadProgram___init__ (c : Ctx K mg) : ∃ cda cc, SupD K "/claim/cut.py" "__init__" "BadProgram.__init__" (defArgs s_BadProgram___init__) (defBody s_BadProgram___init__) (defScope s_BadProgram___init__) (A_BadProgram___init__ K) (He.ga K "BadProgram") cda cc (fdA K (A_BadProgram___init__ K)) := SupD.fdA_of (DefW.supD (d := d_BadProgram___init__) rfl rfl (c.says.defS 7 (d := d_BadProgram___init__) rfl).1 (c.says.defS 7 (d := d_BadProgram___init__) rfl).2)
theorem b_BadProgram___init__ (c : Ctx K mg) : Binds K (fdA K (A_BadProgram___init__ K)) ["self", "line"] [] := by
  obtain ⟨_, _, F⟩ := F_BadProgram___init__ c
  exact F.bindsN fun _ _ _ _ _ _ _ us hl => match us, hl with | [_, _], _ => rfl
theorem F_BadInstruction___init__ (c : Ctx K mg) : ∃ cda cc, SupD K "/claim/cut.py" "__init__" "BadInstruction.__init__" (defArgs s_BadInstruction___init__) (defBody s_BadInstruction___init__) (defScope s_BadInstruction___init__) (A_BadInstruction___init__ K) (He.ga K "BadInstruction") cda cc (fdA K (A_BadInstruction___init__ K)) := SupD.fdA_of (DefW.supD (d := d_BadInstruction___init__) rfl rfl (c.says.defS 8 (d := d_BadInstruction___init__) rfl).1 (c.says.defS 8 (d := d_BadInstruction___init__) rfl).2)
theorem b_BadInstruction___init__ (c : Ctx K mg) : Binds K (fdA K (A_BadInstruction___init__ K)) ["self", "instruction"] [] := by
  obtain ⟨_, _, F⟩ := F_BadInstruction___init__ c
  exact F.bindsN fun _ _ _ _ _ _ _ us hl => match us, hl with | [_, _], _ => rfl
theorem F_Program___init__ (c : Ctx K mg) : FunD K "__init__" "Program.__init__" (defArgs s_Program___init__) (defBody s_Program___init__) (defScope s_Program___init__) [] [] (A_Program___init__ K) (fdA K (A_Program___init__ K)) := fdA_of (c.says.def_ 9 (d := d_Program___init__) rfl)
theorem b_Program___init__ (c : Ctx K mg) : Binds K (fdA K (A_Program___init__ K)) ["self", "instructions"] [] := (F_Program___init__ c).bindsN fun _ _ _ _ _ _ us hl => match us, hl with | [_, _], _ => rfl
theorem F_Program_read (c : Ctx K mg) : FunD K "read" "Program.read" (defArgs s_Program_read) (defBody s_Program_read) (defScope s_Program_read) [] [] (A_Program_read K) (fdA K (A_Program_read K)) := fdA_of (c.says.def_ 10 (d := d_Program_read) rfl)
theorem b_Program_read (c : Ctx K mg) : Binds K (fdA K (A_Program_read K)) ["cls", "text"] [] := (F_Program_read c).bindsN fun _ _ _ _ _ _ us hl => match us, hl with | [_, _], _ => rfl
theorem F__law_same (c : Ctx K mg) : FunD K "_law_same" "_law_same" (defArgs s__law_same) (defBody s__law_same) (defScope s__law_same) [] [] (A__law_same K) (fdA K (A__law_same K)) := fdA_of (c.says.def_ 11 (d := d__law_same) rfl)
theorem b__law_same (c : Ctx K mg) : Binds K (fdA K (A__law_same K)) ["_law_actual", "_law_expected"] [] := (F__law_same c).bindsN fun _ _ _ _ _ _ us hl => match us, hl with | [_, _], _ => rfl
theorem F__law_line (c : Ctx K mg) : FunD K "_law_line" "_law_line" (defArgs s__law_line) (defBody s__law_line) (defScope s__law_line) [] [] (A__law_line K) (fdA K (A__law_line K)) := fdA_of (c.says.def_ 12 (d := d__law_line) rfl)
theorem b__law_line (c : Ctx K mg) : Binds K (fdA K (A__law_line K)) ["_law_instructions", "_law_by_text"] [] := (F__law_line c).bindsN fun _ _ _ _ _ _ us hl => match us, hl with | [_, _], _ => rfl
theorem F__law_near (c : Ctx K mg) : FunD K "_law_near" "_law_near" (defArgs s__law_near) (defBody s__law_near) (defScope s__law_near) [] [] (A__law_near K) (fdA K (A__law_near K)) := fdA_of (c.says.def_ 13 (d := d__law_near) rfl)
theorem b__law_near (c : Ctx K mg) : Binds K (fdA K (A__law_near K)) ["_law_tape", "_law_lines"] [] := (F__law_near c).bindsN fun _ _ _ _ _ _ us hl => match us, hl with | [_, _], _ => rfl
theorem F__law_all_instructions (c : Ctx K mg) : FunD K "_law_all_instructions" "_law_all_instructions" (defArgs s__law_all_instructions) (defBody s__law_all_instructions) (defScope s__law_all_instructions) [] [] (A__law_all_instructions K) (fdA K (A__law_all_instructions K)) := fdA_of (c.says.def_ 14 (d := d__law_all_instructions) rfl)
theorem b__law_all_instructions (c : Ctx K mg) : Binds K (fdA K (A__law_all_instructions K)) ["_law_lines"] [] := (F__law_all_instructions c).bindsN fun _ _ _ _ _ _ us hl => match us, hl with | [_], _ => rfl
theorem F_law (c : Ctx K mg) : FunD K "law" "law" (defArgs s_law) (defBody s_law) (defScope s_law) [] [] (A_law K) (fdA K (A_law K)) := fdA_of (c.says.def_ 15 (d := d_law) rfl)
theorem b_law (c : Ctx K mg) : Binds K (fdA K (A_law K)) ["_law_script"] [] := (F_law c).bindsN fun _ _ _ _ _ _ us hl => match us, hl with | [_], _ => rfl
theorem n_abs (c : Ctx K mg) : mg "abs" = none := c.free (c.says.fact 0 rfl)
theorem n_bool (c : Ctx K mg) : mg "bool" = none := c.free (c.says.fact 1 rfl)
theorem n_enumerate (c : Ctx K mg) : mg "enumerate" = none := c.free (c.says.fact 2 rfl)
theorem n_int (c : Ctx K mg) : mg "int" = none := c.free (c.says.fact 3 rfl)
theorem n_isinstance (c : Ctx K mg) : mg "isinstance" = none := c.free (c.says.fact 4 rfl)
theorem n_len (c : Ctx K mg) : mg "len" = none := c.free (c.says.fact 5 rfl)
theorem n_list (c : Ctx K mg) : mg "list" = none := c.free (c.says.fact 6 rfl)
theorem n_min (c : Ctx K mg) : mg "min" = none := c.free (c.says.fact 7 rfl)
theorem n_range (c : Ctx K mg) : mg "range" = none := c.free (c.says.fact 8 rfl)
theorem n_str (c : Ctx K mg) : mg "str" = none := c.free (c.says.fact 9 rfl)
theorem n_super (c : Ctx K mg) : mg "super" = none := c.free (c.says.fact 10 rfl)
theorem n_tuple (c : Ctx K mg) : mg "tuple" = none := c.free (c.says.fact 11 rfl)
theorem g__law_begin (c : Ctx K mg) : mg "_law_begin" = some (.ref (A__law_begin K)) := c.glo (c.says.fact 12 rfl)
theorem g__law_draw (c : Ctx K mg) : mg "_law_draw" = some (.ref (A__law_draw K)) := c.glo (c.says.fact 13 rfl)
theorem g__law_instruction (c : Ctx K mg) : mg "_law_instruction" = some (.ref (A__law_instruction K)) := c.glo (c.says.fact 14 rfl)
theorem g__law_written (c : Ctx K mg) : mg "_law_written" = some (.ref (A__law_written K)) := c.glo (c.says.fact 15 rfl)
theorem g__law_fault (c : Ctx K mg) : mg "_law_fault" = some (.ref (A__law_fault K)) := c.glo (c.says.fact 16 rfl)
theorem g__line_number (c : Ctx K mg) : mg "_line_number" = some (.ref (A__line_number K)) := c.glo (c.says.fact 17 rfl)
theorem g__parsed (c : Ctx K mg) : mg "_parsed" = some (.ref (A__parsed K)) := c.glo (c.says.fact 18 rfl)
theorem g__law_same (c : Ctx K mg) : mg "_law_same" = some (.ref (A__law_same K)) := c.glo (c.says.fact 19 rfl)
theorem g__law_line (c : Ctx K mg) : mg "_law_line" = some (.ref (A__law_line K)) := c.glo (c.says.fact 20 rfl)
theorem g__law_near (c : Ctx K mg) : mg "_law_near" = some (.ref (A__law_near K)) := c.glo (c.says.fact 21 rfl)
theorem g__law_all_instructions (c : Ctx K mg) : mg "_law_all_instructions" = some (.ref (A__law_all_instructions K)) := c.glo (c.says.fact 22 rfl)
theorem g_law (c : Ctx K mg) : mg "law" = some (.ref (A_law K)) := c.glo (c.says.fact 23 rfl)
theorem g_BadInstruction (c : Ctx K mg) : mg "BadInstruction" = some (.ref (He.ga K "BadInstruction")) := c.glo (c.says.fact 24 rfl)
theorem g_BadProgram (c : Ctx K mg) : mg "BadProgram" = some (.ref (He.ga K "BadProgram")) := c.glo (c.says.fact 25 rfl)
theorem g_HallError (c : Ctx K mg) : mg "HallError" = some (.ref (He.ga K "HallError")) := c.glo (c.says.fact 26 rfl)
theorem g_Program (c : Ctx K mg) : mg "Program" = some (.ref (He.ga K "Program")) := c.glo (c.says.fact 27 rfl)
theorem g_CONDITIONS (c : Ctx K mg) : mg "CONDITIONS" = some (.ref (He.ga K "CONDITIONS")) := c.glo (c.says.fact 28 rfl)
theorem g_MOVES (c : Ctx K mg) : mg "MOVES" = some (.ref (He.ga K "MOVES")) := c.glo (c.says.fact 29 rfl)
theorem mk_Program (c : Ctx K mg) : Mk K (He.ga K "Program") (He.ma K (He.ga K "Program") "__init__") := He.mkr_ok (c.says.fact 30 rfl)
theorem cl_Program (c : Ctx K mg) : Cls K (He.ga K "Program") := He.cls_ok (c.says.fact 31 rfl)
theorem xm_BadInstruction_BadProgram (c : Ctx K mg) : PySem.W.exmOne K (.ref (He.ga K "BadInstruction")) (.ref (He.ga K "BadProgram")) = some false := He.exm_ok (c.says.fact 32 rfl)
theorem xm_BadInstruction_HallError (c : Ctx K mg) : PySem.W.exmOne K (.ref (He.ga K "BadInstruction")) (.ref (He.ga K "HallError")) = some true := He.exm_ok (c.says.fact 33 rfl)
theorem xm_BadProgram_BadProgram (c : Ctx K mg) : PySem.W.exmOne K (.ref (He.ga K "BadProgram")) (.ref (He.ga K "BadProgram")) = some true := He.exm_ok (c.says.fact 34 rfl)
theorem xm_BadProgram_HallError (c : Ctx K mg) : PySem.W.exmOne K (.ref (He.ga K "BadProgram")) (.ref (He.ga K "HallError")) = some true := He.exm_ok (c.says.fact 35 rfl)
theorem na_Program_instructions (c : Ctx K mg) : NoAttr K (He.ga K "Program") "instructions" := He.noat_ok (c.says.fact 36 rfl)
theorem na_Program_rows (c : Ctx K mg) : NoAttr K (He.ga K "Program") "rows" := He.noat_ok (c.says.fact 37 rfl)
theorem cm_Program_read (c : Ctx K mg) : ClX.CMet K (He.ga K "Program") (.type "type") "read" (He.ma K (He.ga K "Program") "read") (recAd "classmethod" K "Program" "read") := cmtB_ok (c.b 0 rfl)
theorem cr_Program (c : Ctx K mg) : ClX.CRead K (He.ga K "Program") (.type "type") := crdB_ok (c.b 1 rfl)
theorem ct_CONDITIONS (c : Ctx K mg) : ∀ H, SqT K H (He.ga K "CONDITIONS") [.str "first", .str "empty", .str "mine", .str "other", .str "none", .str "full", .str "enough", .str "behind"] := ctB_ok (c.b 2 rfl)
theorem ct_MOVES (c : Ctx K mg) : ∀ H, SqT K H (He.ga K "MOVES") [.str "take", .str "give", .str "on"] := ctB_ok (c.b 3 rfl)
theorem cv_Program_LONGEST (c : Ctx K mg) : ∃ u, ClX.CVal K (He.ga K "Program") (.type "type") "LONGEST" (.int 24) u := cvlB_ok (c.b 4 rfl)
theorem exC_BadProgram (c : Ctx K mg) : ExcC K (He.ga K "BadProgram") := excCB_ok (c.b 5 rfl)
theorem kit_BadProgram_BadInstruction (c : Ctx K mg) : PySem.W.kitOne K (.ref (He.ga K "BadProgram")) (.ref (He.ga K "BadInstruction")) = some false := of_decide_eq_true (c.b 6 rfl)
theorem kit_BadProgram_HallError (c : Ctx K mg) : PySem.W.kitOne K (.ref (He.ga K "BadProgram")) (.ref (He.ga K "HallError")) = some true := of_decide_eq_true (c.b 7 rfl)
theorem spx_BadInstruction (c : Ctx K mg) : SupXF K (He.ga K "BadInstruction") (He.ma K (He.ga K "BadInstruction") "__init__") "instruction" := supxB_ok (c.b 8 rfl)
theorem spx_BadProgram (c : Ctx K mg) : SupXF K (He.ga K "BadProgram") (He.ma K (He.ga K "BadProgram") "__init__") "line" := supxB_ok (c.b 9 rfl)
theorem xf_BadProgram_line (c : Ctx K mg) : XfC K (He.ga K "BadProgram") ∧ PySem.W.findIn K (.ref (He.ga K "BadProgram")) "line" = some none := xfB2_ok (c.b 10 rfl)
end
local macro_rules | `(tactic| walk_at "tape") => `(tactic| first
  | assumption
  | (refine' Tape.gr0 ?h1 ?h2; (case h2 => assumption); (case h1 => walk_at "tape"))
  | (refine' Tape.gr1 ?h1 ?h2 ?h3; (case h2 => assumption); (case h1 => walk_at "tape"); (case h3 => first | assumption | (refine Ne.symm ?_; assumption) | walk_at "ne" | (refine' Tape.ne ?a1 ?a2; (case a2 => assumption); (case a1 => walk_at "tape")))))
local macro_rules | `(tactic| walk_at "ne") => `(tactic| first
  | (refine' Tape.ne ?h1 ?h2; (case h2 => assumption); (case h1 => walk_at "tape"))
  | (refine' Ne.symm (Tape.ne ?h1 ?h2); (case h2 => assumption); (case h1 => walk_at "tape")))

def sp__law_begin (K : PySem.W.Frag) : Sp := fun vs H Q _ => ∃ (a : Addr) (ns : List Int), vs = [.ref a] ∧ SqL K H a (ns.map V.int) ∧ ns.length ≤ 63 ∧ ∀ t H', H t = none → Gr [] H H' → Tape 0 H' t → Q (.ref t) H'
theorem w_begin {K : PySem.W.Frag} {H : Hp} {Q : VK} {E : XK} {a : Addr} {ns : List Int} (h : SqL K H a (ns.map V.int)) (hl : ns.length ≤ 63) (k : ∀ t H', H t = none → Gr [] H H' → Tape 0 H' t → Q (.ref t) H') : sp__law_begin K [.ref a] H Q E := ⟨a, ns, rfl, h, hl, k⟩
section
variable {P : Program} [PG P] {w : World} {K : PySem.W.Frag} {mg : Str → Option Value} {base : Heap}
theorem ok0__law_begin (c : Ctx K mg) : FnOk P w K mg base (L2N.CX P w) 1 (A__law_begin K) (fdA K (A__law_begin K)) ["_law_script"]
    (fun vs H Q _ => ∃ (a : Addr) (ns : List Int), vs = [.ref a] ∧ SqL K H a (ns.map V.int) ∧ ∀ t l H1 H', H l = none → Gr [] H H1 → H1 l = some (.lst (ns.map V.int)) → H1 t = none → Gr [] H1 H' → H' t = some (.lst [.ref l, .int 0, .int 0, .int 0]) → Q (.ref t) H') := by
  refine okT (F__law_begin c) sc__law_begin (fun vs H Q E h => ?_) (fun cdv A outer s H vs Q E hr h tk pown => ?_)
  · obtain ⟨_, _, rfl, _⟩ := h; rfl
  · refine ⟨_, (pss_one (ps_ret (pe_lstN (pa_cons (pe_callTy cr_list rfl (n_list c) (by decide +kernel) (pa_cons (pv 0) pa_nil)) (pa_cons pe_int (pa_cons pe_int (pa_cons pe_int pa_nil))))))), ?_⟩
    obtain ⟨a, ns, rfl, hS, k⟩ := h
    walk_at "w"
    refine w_listOf (.inl hS) fun l H1 n1 g1 h1 => ?_
    walk_at "w"
    rename_i t H2 n2 g2 h2
    exact k t l H1 H2 n1 g1 h1 n2 g2 h2
theorem ok__law_begin (c : Ctx K mg) : FnOk P w K mg base (L2N.CX P w) 1 (A__law_begin K) (fdA K (A__law_begin K)) ["_law_script"] (sp__law_begin K) := by
  refine (fnOk_frz (ok0__law_begin c)).imp fun vs H Q E h => ?_
  obtain ⟨a, ns, rfl, hS, hl, k⟩ := h
  refine ⟨a, ns, rfl, hS, fun t l H1 H' n1 g1 h1 n2 g2 h2 => ⟨l, _, g2.get0 h1, fun o => ?_⟩⟩
  have ne : t ≠ l := (ne_of_none h1 n2).symm
  refine k t _ (g1.free0 n2) ((g1.trans0 g2).transN (Gr.frz (g2.get0 h1)) n1) ⟨l, o, ns, 0, 0, 0, ?_, upd_same, hl, by decide, by decide, by decide, by decide⟩
  rw [upd_ne ne]
  exact h2
theorem okp__law_begin (c : Ctx K mg) : FnOk P w K mg base (L2N.CX P w) 1 (A__law_begin K) (fdA K (A__law_begin K)) ["_law_script"] (spM .A K (WT K) (pf__law_begin K)) := (ok__law_begin c).imp fun _ _ _ _ h => from_begin h
end
def sp__law_draw (K : PySem.W.Frag) : Sp := fun vs H Q _ => ∃ (t : Addr) (m : Int) (b : Nat), vs = [.ref t, .int m] ∧ Tape b H t ∧ b < 1000000000 ∧ 0 < m ∧ m < 2 ^ 256 ∧ ∀ (r : Int) H', 0 ≤ r → r < m → Gr [t] H H' → Tape (b + 1) H' t → Q (.int r) H'
theorem w_draw {K : PySem.W.Frag} {H : Hp} {Q : VK} {E : XK} {t : Addr} {m : Int} {b : Nat} (h : Tape b H t) (hb : b < 1000000000) (hm : 0 < m) (hm2 : m < 2 ^ 256) (k : ∀ (r : Int) H', 0 ≤ r → r < m → Gr [t] H H' → Tape (b + 1) H' t → Q (.int r) H') : sp__law_draw K [.ref t, .int m] H Q E := ⟨t, m, b, rfl, h, hb, hm, hm2, k⟩
section
variable {P : Program} [PG P] {w : World} {K : PySem.W.Frag} {mg : Str → Option Value} {base : Heap}
theorem ok__law_draw (c : Ctx K mg) : FnOk P w K mg base (L2N.CX P w) 1 (A__law_draw K) (fdA K (A__law_draw K)) ["_law_tape", "_law_many"] (sp__law_draw K) := by
  refine okT (F__law_draw c) sc__law_draw (fun vs H Q E h => ?_) (fun cdv A outer s H vs Q E hr h tk pown => ?_)
  · first | (obtain ⟨rfl, _⟩ := h; rfl) | (obtain ⟨_, rfl, _⟩ := h; rfl) | (obtain ⟨_, _, rfl, _⟩ := h; rfl) | (obtain ⟨_, _, _, rfl, _⟩ := h; rfl) | (obtain ⟨_, _, _, _, rfl, _⟩ := h; rfl) | (obtain ⟨_, _, _, _, _, rfl, _⟩ := h; rfl) | (obtain ⟨_, _, _, _, _, _, rfl, _⟩ := h; rfl) | (obtain ⟨_, _, _, _, _, _, _, rfl, _⟩ := h; rfl)
  · skip
    refine ⟨_, (pss_cut (ps_if (PW.pt (pw_and (pt_cmpR op_eq (pe_ix ix_list (pv 0) pe_int (fun _ _ => rfl)) pe_int (nomark _)) (pw_and1 (pt_cmpR op_lt (pe_ix ix_list (pv 0) pe_int (fun _ _ => rfl)) (pe_callB cr_len rfl (n_len c) (by decide +kernel) (pa_cons (pe_ix ix_list (pv 0) pe_int (fun _ _ => rfl)) pa_nil)) (nomark _)))))
    (pss_cons (ps_asg (pe_callB cr_abs rfl (n_abs c) (by decide +kernel) (pa_cons (pe_ix ix_list (pe_ix ix_list (pv 0) pe_int (fun _ _ => rfl)) (pe_ix ix_list (pv 0) pe_int (fun _ _ => rfl)) (fun _ _ => rfl)) pa_nil)) (pg_sub (pv 0) pe_int set_list))
    (pss_one (ps_asg (pe_op op_add (pe_ix ix_list (pv 0) pe_int (fun _ _ => rfl)) pe_int) (pg_sub (pv 0) pe_int set_list))))
    (pss_one (ps_if (pt_cmpR op_eq (pe_ix ix_list (pv 0) pe_int (fun _ _ => rfl)) pe_int (nomark _))
      (pss_cons (ps_asg (pe_op op_add (pe_ix ix_list (pv 0) pe_int (fun _ _ => rfl)) pe_int) (pg_sub (pv 0) pe_int set_list))
      (pss_cons (ps_if (pt_cmpR (op_eqD hr.units) (pe_ix ix_list (pv 0) pe_int (fun _ _ => rfl)) (pe_lstN pa_nil) (nomark _))
        (pss_one (ps_ret pe_int))
        pss_nil)
      (pss_cons (ps_set (i := 2) sc__law_draw.nd rfl (Or.inl rfl) (pe_ix ix_list (pe_ix ix_list (pv 0) pe_int (fun _ _ => rfl)) (pe_op op_mod (pe_callTy cr_int rfl (n_int c) (by decide +kernel) (pa_cons (pe_ix ix_list (pv 0) pe_int (fun _ _ => rfl)) pa_nil)) (pe_callB cr_len rfl (n_len c) (by decide +kernel) (pa_cons (pe_ix ix_list (pv 0) pe_int (fun _ _ => rfl)) pa_nil))) (fun _ _ => rfl)))
      (pss_one (ps_ret (pe_op op_mod (pe_callTy cr_int rfl (n_int c) (by decide +kernel) (pa_cons (pe_op op_add (pe_op op_mul (pv 2) (pe_op op_add (pe_ix ix_list (pv 0) pe_int (fun _ _ => rfl)) pe_int)) (pe_op op_mul (pe_ix ix_list (pv 0) pe_int (fun _ _ => rfl)) (pe_ix ix_list (pv 0) pe_int (fun _ _ => rfl)))) pa_nil)) (pv 1)))))))
      pss_nil)))
  (pss_cons (ps_set (i := 3) sc__law_draw.nd rfl (Or.inl rfl) (pe_op op_mod (pe_callTy cr_int rfl (n_int c) (by decide +kernel) (pa_cons (pe_ix ix_list (pv 0) pe_int (fun _ _ => rfl)) pa_nil)) (pv 1)))
  (pss_cons (ps_asg (pe_op op_fdivW (pe_ix ix_list (pv 0) pe_int (fun _ _ => rfl)) (pv 1)) (pg_sub (pv 0) pe_int set_list))
  (pss_one (ps_ret (pv 3)))))), ?_⟩
    clear tk pown hr
    obtain ⟨t, m, b, rfl, ⟨a, o, ns, i, n, k, h1, h2, hlen, hi, hn, hk, hkb⟩, hb, hm, hm2, Qk⟩ := h
    dsimp only [L2.start, N__law_draw, cxOf, Cx.tr, Cx.suite, List.map, List.length, Nat.reduceAdd, Nat.reduceSub, List.replicate, List.cons_append, List.nil_append, List.append_nil]
    have wd : ∀ j : Int, CDivW j m := fun j => wide_div hm (by omega : m.natAbs < 2 ^ 256) (by decide) (by decide)
    refine w_cut (fun σ' H' => ∃ i' n' : Int, σ' = [some (.ref t), some (.int m), none, none] ∧ Gr [t] H H' ∧ 0 ≤ i' ∧ 0 ≤ n' ∧ H' t = some (.lst [.ref a, .int i', .int n', .int k])) ?_ ?_
    · walk_at "w"
      refine w_iteI (fun e0 => ?_) (fun e0 => ?_)
      · walk_at "w"
        refine w_iteP (fun e1 => ?_) (fun e1 => ?_)
        · rw [List.length_map] at e1
          obtain ⟨x, hx, _⟩ := ints_at (ns := ns) hi e1
          walk_at "w"
          refine w_ixL (by walk_at "sql") hx ?_
          walk_at "w"
          refine ⟨i + 1, _, rfl, by walk_at "gr", by omega, ?_, by assumption⟩
          split <;> omega
        · walk_at "w"
          refine w_iteI (fun _ => ?_) (fun e2 => absurd e0 e2)
          walk_at "w"
          refine w_eqD (d := .lst (dInts ns)) (e := .lst (dInts [])) 1 ?_ ?_ (dep_ints ns 0) rfl (by decide) (fun e2 => ?_) (fun e2 => ?_)
          · exact rep_lstI (by walk_at "sql")
          · exact rep_lstI (by walk_at "sql")
          · walk_at "w"
            exact Qk 0 _ (by decide) hm (by walk_at "gr") ⟨a, o, ns, i, n, k + 1, by walk_at "at", by walk_at "at", hlen, hi, hn, by omega, by omega⟩
          · have hl0 : 0 < ns.length := by
              cases ns with
              | nil => exact absurd rfl e2
              | cons x xs => exact Nat.succ_pos _
            have hl1 : (0 : Int) < ((ns.map V.int).length : Nat) := by rw [List.length_map]; omega
            have m0 : 0 ≤ (k + 1) % ((ns.map V.int).length : Int) := Int.emod_nonneg _ (by omega)
            have m1 : (k + 1) % ((ns.map V.int).length : Int) < ns.length := by
              have z := Int.emod_lt_of_pos (k + 1) hl1
              rw [List.length_map] at z ⊢
              exact z
            obtain ⟨x, hx, _⟩ := ints_at (ns := ns) m0 m1
            walk_at "w"
            refine w_rI hl1 ?_
            walk_at "w"
            refine w_ixL (by walk_at "sql") hx ?_
            walk_at "w"
            refine w_rI (.inr ⟨by omega, by omega⟩) ?_
            walk_at "w"
            refine w_rI (.inr ⟨by omega, by omega⟩) ?_
            walk_at "w"
            refine w_rI hm ?_
            exact Qk _ _ (Int.emod_nonneg _ (by omega)) (Int.emod_lt_of_pos _ hm) (by walk_at "gr") ⟨a, o, ns, i, n, k + 1, by walk_at "at", by walk_at "at", hlen, hi, hn, by omega, by omega⟩
      · walk_at "w"
        refine w_iteI (fun e1 => absurd e1 e0) (fun _ => ?_)
        walk_at "w"
        exact ⟨i, n, rfl, by walk_at "gr", hi, hn, h1⟩
    · rintro σ' H' ⟨i', n', rfl, g, hi', hn', ht⟩
      walk_at "w"
      refine w_rI hm ?_
      walk_at "w"
      refine w_rI (wd _) ?_
      walk_at "w"
      exact Qk _ _ (Int.emod_nonneg _ (by omega)) (Int.emod_lt_of_pos _ hm) (by walk_at "gr") ⟨a, o, ns, i', _, k, by walk_at "at", by walk_at "at", hlen, hi', Int.ediv_nonneg hn' (by omega), hk, by omega⟩
theorem okp__law_draw (c : Ctx K mg) : FnOk P w K mg base (L2N.CX P w) 1 (A__law_draw K) (fdA K (A__law_draw K)) ["_law_tape", "_law_many"] (spM .A K (WT K) (pf__law_draw K)) := (ok__law_draw c).imp fun _ _ _ _ h => from_draw h
end
def pf__law_instruction (K : PySem.W.Frag) : PSp (WT K) := fun ω ds Q _ => ∃ (t : Addr) (b L : Nat), ω = TS.tape t b ∧ ds = [.adr t, .int L] ∧ b < 100000000 ∧ 1 ≤ L ∧ L ≤ 24 ∧ ∀ (b' : Nat) (x : Str), b' ≤ b + 3 → Ins L x → Q (TS.tape t b') (.str x)
section
variable {P : Program} [PG P] {w : World} {K : PySem.W.Frag} {mg : Str → Option Value} {base : Heap}
theorem ok__law_instruction (c : Ctx K mg) : FnOk P w K mg base (L2N.CX P w) 2 (A__law_instruction K) (fdA K (A__law_instruction K)) ["_law_tape", "_law_lines"] (spM .A K (WT K) (pf__law_instruction K)) := by
  refine okQ (F__law_instruction c) sc__law_instruction (fun ω ds Q E h => ?_) (fun cdv A outer s0 H E hr tk pown => (qss_cons (qs_set (i := 2) sc__law_instruction.nd rfl (Or.inl rfl) (qe_lst (qa_cons qe_str (qa_cons qe_str (qa_cons qe_str (qa_cons qe_str (qa_cons qe_str (qa_cons qe_str (qa_cons qe_str (qa_cons qe_str qa_nil))))))))))
  (qss_cons (qs_set (i := 3) sc__law_instruction.nd rfl (Or.inl rfl) (qe_call (okp__law_draw (P := P) c) (hr.mono (by decide)) rfl (g__law_draw c) (F__law_draw c).kp (b__law_draw c) (fun σ => L2N.passAt tk σ) (qa_cons (qe_va (pv 0)) (qa_cons qe_int qa_nil))))
  (qss_cons (qs_if (qb_cmp op_lt opI0_bl (qe_va (pv 3)) qe_int (nomark _))
    (qss_one (qs_ret (qe_ix ix_list ixLP (qe_lst (qa_cons qe_str (qa_cons qe_str (qa_cons qe_str (qa_cons qe_str (qa_cons qe_str (qa_cons qe_str (qa_cons qe_str (qa_cons qe_str qa_nil))))))))) (qe_va (pv 3)) (fun _ _ => rfl))))
    qss_nil)
  (qss_cons (qs_if (qb_cmp op_eq opEqP (qe_va (pv 3)) qe_int (nomark _))
    (qss_one (qs_ret (qe_op op_add_str opAddSP qe_str (qe_cT cr_strI strIP rfl (n_str c) (by decide +kernel) (qa_cons (qe_call (okp__law_draw (P := P) c) (hr.mono (by decide)) rfl (g__law_draw c) (F__law_draw c).kp (b__law_draw c) (fun σ => L2N.passAt tk σ) (qa_cons (qe_va (pv 0)) (qa_cons (qe_va (pv 1)) qa_nil))) qa_nil)))))
    qss_nil)
  (qss_cons (qs_set (i := 4) sc__law_instruction.nd rfl (Or.inl rfl) (qe_ix ix_list ixLP (qe_va (pv 2)) (qe_call (okp__law_draw (P := P) c) (hr.mono (by decide)) rfl (g__law_draw c) (F__law_draw c).kp (b__law_draw c) (fun σ => L2N.passAt tk σ) (qa_cons (qe_va (pv 0)) (qa_cons qe_int qa_nil))) (fun _ _ => rfl)))
  (qss_cons (qs_if (qb_cmp op_eq opEqP (qe_va (pv 3)) qe_int (nomark _))
    (qss_one (qs_ret (qe_op op_add_str opAddSP qe_str (qe_va (pv 4)))))
    qss_nil)
  (qss_one (qs_ret (qe_op op_add_str opAddSP (qe_op op_add_str opAddSP (qe_op op_add_str opAddSP (qe_ix ix_list ixLP (qe_lst (qa_cons qe_str (qa_cons qe_str (qa_cons qe_str qa_nil)))) (qe_op op_sub opI0_int (qe_va (pv 3)) qe_int) (fun _ _ => rfl)) (qe_va (pv 4))) qe_str) (qe_cT cr_strI strIP rfl (n_str c) (by decide +kernel) (qa_cons (qe_call (okp__law_draw (P := P) c) (hr.mono (by decide)) rfl (g__law_draw c) (F__law_draw c).kp (b__law_draw c) (fun σ => L2N.passAt tk σ) (qa_cons (qe_va (pv 0)) (qa_cons (qe_va (pv 1)) qa_nil))) qa_nil)))))))))))) (fun ω ds Q E h => ?_)
  · first | (obtain ⟨rfl, _⟩ := h; rfl) | (obtain ⟨_, rfl, _⟩ := h; rfl) | (obtain ⟨_, _, rfl, _⟩ := h; rfl) | (obtain ⟨_, _, _, rfl, _⟩ := h; rfl) | (obtain ⟨_, _, _, _, rfl, _⟩ := h; rfl) | (obtain ⟨_, _, _, _, _, rfl, _⟩ := h; rfl) | (obtain ⟨_, _, _, _, _, _, rfl, _⟩ := h; rfl) | (obtain ⟨_, _, _, _, _, _, _, rfl, _⟩ := h; rfl)
  · skip
    obtain ⟨t, b, L, rfl, rfl, hb, l1, l2, Qk⟩ := h
    walk_at "v"
    refine v_draw (by omega) (by decide) (by decide) fun k k0 k1 => ?_
    walk_at "v"
    refine w_iteP (fun e1 => ?_) (fun e1 => ?_)
    · walk_at "v"
      obtain ⟨y, hy⟩ : ∃ y, plainW[k.toNat]? = some y := ⟨_, List.getElem?_eq_getElem (by show k.toNat < 8; omega)⟩
      have ek : ((k.toNat : Nat) : Int) = k := by omega
      have ha : atI (dStrs plainW) k = some (.str y) := by rw [← ek]; exact atI_strs hy
      refine v_ixL ha ?_
      walk_at "v"
      exact Qk _ _ (by omega) (ins_plain (List.mem_of_getElem? hy))
    · walk_at "v"
      refine w_iteP (fun e2 => ?_) (fun e2 => ?_)
      · walk_at "v"
        refine v_draw (by omega) (by omega) (by omega) fun n n0 n1 => ?_
        walk_at "v"
        obtain ⟨m, rfl⟩ : ∃ m : Nat, n = m := ⟨n.toNat, by omega⟩
        refine v_strI (by have : m.log2 ≤ m := Nat.log2_le_self m; show m.log2 < 1920; omega) ?_
        have hi := ins_go (L := L) (n := m) (by omega) l2
        refine v_addS (by have := hi.1; rw [Str.length_append] at this; rw [sizeLine_eq]; exact Nat.le_trans this (by decide)) ?_
        walk_at "v"
        exact Qk _ _ (by omega) hi
      · walk_at "v"
        refine v_draw (by omega) (by decide) (by decide) fun n n0 n1 => ?_
        walk_at "v"
        obtain ⟨cd, hc⟩ : ∃ y, condsW[n.toNat]? = some y := ⟨_, List.getElem?_eq_getElem (by show n.toNat < 8; omega)⟩
        have en : ((n.toNat : Nat) : Int) = n := by omega
        have ha : atI (dStrs condsW) n = some (.str cd) := by rw [← en]; exact atI_strs hc
        have hm := List.mem_of_getElem? hc
        refine v_ixL ha ?_
        walk_at "v"
        refine w_iteP (fun e3 => ?_) (fun e3 => ?_)
        · walk_at "v"
          have hi := ins_wait (L := L) hm
          refine v_addS (by have := hi.1; rw [Str.length_append] at this; rw [sizeLine_eq]; exact Nat.le_trans this (by decide)) ?_
          walk_at "v"
          exact Qk _ _ (by omega) hi
        · walk_at "v"
          have key : ∃ w : Str, atI (dStrs ["if ", "unless ", "if "]) (k - 10) = some (.str w) ∧ ∀ m : Nat, m < L → Ins L (w ++ cd ++ " " ++ nS m) := by
            have : k = 10 ∨ k = 11 ∨ k = 12 := by omega
            rcases this with rfl | rfl | rfl
            · exact ⟨"if ", rfl, fun m hm' => ins_if hm' l2 hm⟩
            · exact ⟨"unless ", rfl, fun m hm' => ins_unless hm' l2 hm⟩
            · exact ⟨"if ", rfl, fun m hm' => ins_if hm' l2 hm⟩
          obtain ⟨wd, hw, hin⟩ := key
          refine v_ixL hw ?_
          walk_at "v"
          have h0 := (hin 0 (by omega)).1
          simp only [Str.length_append] at h0
          refine v_addS (by rw [sizeLine_eq]; omega) ?_
          walk_at "v"
          refine v_addS (by rw [Str.length_append, sizeLine_eq]; omega) ?_
          walk_at "v"
          refine v_draw (by omega) (by omega) (by omega) fun q q0 q1 => ?_
          walk_at "v"
          obtain ⟨m, rfl⟩ : ∃ m : Nat, q = m := ⟨q.toNat, by omega⟩
          refine v_strI (by have : m.log2 ≤ m := Nat.log2_le_self m; show m.log2 < 1920; omega) ?_
          have hi := hin m (by omega)
          refine v_addS (by have := hi.1; rw [Str.length_append] at this; rw [sizeLine_eq]; exact Nat.le_trans this (by decide)) ?_
          walk_at "v"
          exact Qk _ _ (by omega) hi
end
def WrittenW (L : Nat) (ts : List Str) : Prop := ts.length = L ∧ ts[0]? = some ("rest" : Str) ∧ ∀ t ∈ ts, Ins L t
def pf__law_written (K : PySem.W.Frag) : PSp (WT K) := fun ω ds Q _ => ∃ (t : Addr) (b M : Nat), ω = TS.tape t b ∧ ds = [.adr t, .int M] ∧ b < 10000000 ∧ 1 ≤ M ∧ M ≤ 24 ∧ ∀ (b' L : Nat) (ts : List Str), b' ≤ b + 80 → 1 ≤ L → L ≤ M → WrittenW L ts → Q (TS.tape t b') (.lst (dStrs ts))
section
variable {P : Program} [PG P] {w : World} {K : PySem.W.Frag} {mg : Str → Option Value} {base : Heap}
theorem ok__law_written (c : Ctx K mg) : FnOk P w K mg base (L2N.CX P w) 3 (A__law_written K) (fdA K (A__law_written K)) ["_law_tape", "_law_most"] (spM .F K (WT K) (pf__law_written K)) := by
  refine okQ (F__law_written c) sc__law_written (fun ω ds Q E h => ?_) (fun cdv A outer s0 H E hr tk pown => (qss_cons (qs_set (i := 2) sc__law_written.nd rfl (Or.inr rfl) (qe_op op_add opI0_int qe_int (qe_call (okp__law_draw (P := P) c) (hr.mono (by decide)) rfl (g__law_draw c) (F__law_draw c).kp (b__law_draw c) (fun σ => L2N.passAt tk σ) (qa_cons (qe_va (pv 0)) (qa_cons (qe_va (pv 1)) qa_nil)))))
  (qss_one (qs_retF (qe_op op_catR opCatP (qe_lst (qa_cons qe_str qa_nil)) (qe_lc (own := [("_law_k", 3)]) rfl sc__law_written.nd (qi_rg1 rfl (n_range c) (qe_op op_sub opI0_int (qe_va (pv 2)) qe_int)) (blkOk_by (N := N__law_written) (sc := defScope s__law_written) (by decide +kernel)) (fun _ _ _ _ _ => (qg_name (i := 3) sc__law_written.nd rfl (Or.inl rfl))) (fun _ _ _ _ _ => qts_nil) (fun _ _ _ _ _ => (qe_call (ok__law_instruction (P := P) c) (hr.mono (by decide)) rfl (g__law_instruction c) (F__law_instruction c).kp (b__law_instruction c) (fun _ => passAt0 _) (qa_cons (qe_va (pv 0)) (qa_cons (qe_va (pv 2)) qa_nil)))))))))) (fun ω ds Q E h => ?_)
  · first | (obtain ⟨rfl, _⟩ := h; rfl) | (obtain ⟨_, rfl, _⟩ := h; rfl) | (obtain ⟨_, _, rfl, _⟩ := h; rfl) | (obtain ⟨_, _, _, rfl, _⟩ := h; rfl) | (obtain ⟨_, _, _, _, rfl, _⟩ := h; rfl) | (obtain ⟨_, _, _, _, _, rfl, _⟩ := h; rfl) | (obtain ⟨_, _, _, _, _, _, rfl, _⟩ := h; rfl) | (obtain ⟨_, _, _, _, _, _, _, rfl, _⟩ := h; rfl)
  · skip
    obtain ⟨t, b, M, rfl, rfl, hb, l1, l2, Qk⟩ := h
    walk_at "v"
    refine v_draw (by omega) (by omega) (by omega) fun r r0 r1 => ?_
    walk_at "v"
    obtain ⟨L, eL⟩ : ∃ L : Nat, 1 + r = L := ⟨(1 + r).toNat, by omega⟩
    rw [eL]
    have e1 : (L : Int) - 1 = ((L - 1 : Nat) : Int) := by omega
    rw [e1, rgI_rg]
    refine v_kLcW (fun i ω acc => ∃ (b' : Nat) (zs : List Str), b' ≤ b + 1 + 3 * i ∧ ω = TS.tape t b' ∧ acc = dStrs zs ∧ zs.length = i ∧ ∀ z ∈ zs, Ins L z) (by rw [length_dInts, length_rg]; omega) ⟨b + 1, [], by omega, rfl, rfl, rfl, fun _ z => by cases z⟩ rfl (fun i d ω acc hd ⟨b', zs, h0, e1, e2, e3, e4⟩ _ => ?_) (fun ω acc ⟨b', zs, h0, e1, e2, e3, e4⟩ => ?_)
    · subst e1 e2
      have hi : i < L - 1 := by
        have z := (List.getElem?_eq_some_iff.mp hd).1
        rw [length_dInts, length_rg] at z
        exact z
      walk_at "v"
      refine ⟨rfl, ?_⟩
      walk_at "v"
      refine ⟨t, b', L, rfl, rfl, by omega, by omega, by omega, fun b2 x hb2 hx => ?_⟩
      exact ⟨b2, zs ++ [x], by omega, rfl, by rw [dStrs_one, dStrs_append], by rw [List.length_append, e3] <;> rfl, fun z hz => by
        rcases List.mem_append.mp hz with q | q
        · exact e4 z q
        · rw [List.mem_singleton.mp q]; exact hx⟩
    subst e1 e2
    rw [length_dInts, length_rg] at e3 h0
    walk_at "v"
    refine v_catL (by rw [length_dStrs]; show 1 + zs.length ≤ _; omega) ?_
    walk_at "v"
    rw [dStrs_one, dStrs_append]
    refine Qk b' L _ (by omega) (by omega) (by omega) ⟨?_, rfl, fun z hz => ?_⟩
    · rw [List.length_append, e3]; show 1 + (L - 1) = L; omega
    · rcases List.mem_append.mp hz with q | q
      · rw [List.mem_singleton.mp q]; exact ins_plain (by decide)
      · exact e4 z q
end
def pf__law_fault (K : PySem.W.Frag) : PSp (WT K) := fun ω ds Q _ => ∃ (t : Addr) (b L : Nat), ω = TS.tape t b ∧ ds = [.adr t, .int L] ∧ b < 10000000 ∧ 1 ≤ L ∧ L ≤ 24 ∧ ∀ (b' : Nat) (x : Str), b' ≤ b + 3 → Faulty L x → Q (TS.tape t b') (.str x)
theorem v_fault {K : PySem.W.Frag} {t : Addr} {b L : Nat} {Q : TS → D → Prop} {E : TS → Exn → Prop} (hb : b < 10000000) (h1 : 1 ≤ L) (h2 : L ≤ 24) (h : ∀ (b' : Nat) (x : Str), b' ≤ b + 3 → Faulty L x → Q (TS.tape t b') (.str x)) : pf__law_fault K (TS.tape t b) [.adr t, .int L] Q E := ⟨t, b, L, rfl, rfl, hb, h1, h2, h⟩
section
variable {P : Program} [PG P] {w : World} {K : PySem.W.Frag} {mg : Str → Option Value} {base : Heap}
theorem ok__law_fault (c : Ctx K mg) : FnOk P w K mg base (L2N.CX P w) 2 (A__law_fault K) (fdA K (A__law_fault K)) ["_law_tape", "_law_lines"] (spM .A K (WT K) (pf__law_fault K)) := by
  refine okQ (F__law_fault c) sc__law_fault (fun ω ds Q E h => ?_) (fun cdv A outer s0 H E hr tk pown => (qss_cons (qs_set (i := 2) sc__law_fault.nd rfl (Or.inl rfl) (qe_lst (qa_cons qe_str (qa_cons qe_str (qa_cons qe_str (qa_cons qe_str (qa_cons qe_str (qa_cons qe_str (qa_cons qe_str (qa_cons qe_str (qa_cons qe_str (qa_cons qe_str (qa_cons qe_str (qa_cons qe_str (qa_cons qe_str (qa_cons qe_str qa_nil))))))))))))))))
  (qss_cons (qs_set (i := 2) sc__law_fault.nd rfl (Or.inl rfl) (qe_op op_catR opCatP (qe_va (pv 2)) (qe_lst (qa_cons qe_str (qa_cons qe_str (qa_cons qe_str (qa_cons qe_str (qa_cons qe_str (qa_cons qe_str (qa_cons qe_str (qa_cons qe_str (qa_cons qe_str (qa_cons qe_str (qa_cons qe_str qa_nil))))))))))))))
  (qss_cons (qs_set (i := 2) sc__law_fault.nd rfl (Or.inl rfl) (qe_op op_catR opCatP (qe_va (pv 2)) (qe_lst (qa_cons qe_str (qa_cons qe_str (qa_cons qe_str (qa_cons qe_str (qa_cons qe_str (qa_cons qe_str (qa_cons qe_str (qa_cons qe_str qa_nil)))))))))))
  (qss_cons (qs_set (i := 2) sc__law_fault.nd rfl (Or.inl rfl) (qe_op op_catR opCatP (qe_va (pv 2)) (qe_lst (qa_cons qe_str (qa_cons qe_str (qa_cons qe_str (qa_cons qe_str (qa_cons qe_str (qa_cons qe_str (qa_cons qe_str qa_nil))))))))))
  (qss_cons (qs_set (i := 2) sc__law_fault.nd rfl (Or.inl rfl) (qe_op op_catR opCatP (qe_va (pv 2)) (qe_lst (qa_cons qe_str (qa_cons qe_str (qa_cons qe_str (qa_cons qe_str (qa_cons qe_str (qa_cons qe_str (qa_cons qe_str (qa_cons qe_str (qa_cons qe_str qa_nil))))))))))))
  (qss_cons (qs_set (i := 2) sc__law_fault.nd rfl (Or.inl rfl) (qe_op op_catR opCatP (qe_va (pv 2)) (qe_lst (qa_cons qe_str (qa_cons qe_str (qa_cons qe_str (qa_cons qe_str (qa_cons qe_str (qa_cons qe_str qa_nil)))))))))
  (qss_cons (qs_set (i := 2) sc__law_fault.nd rfl (Or.inl rfl) (qe_op op_catR opCatP (qe_va (pv 2)) (qe_lst (qa_cons qe_str (qa_cons qe_str (qa_cons qe_str (qa_cons qe_str (qa_cons qe_str qa_nil))))))))
  (qss_cons (qs_set (i := 2) sc__law_fault.nd rfl (Or.inl rfl) (qe_op op_catR opCatP (qe_va (pv 2)) (qe_lst (qa_cons qe_str (qa_cons qe_str (qa_cons qe_str qa_nil))))))
  (qss_cons (qs_set (i := 3) sc__law_fault.nd rfl (Or.inl rfl) (qe_cT cr_strI strIP rfl (n_str c) (by decide +kernel) (qa_cons (qe_op op_add opI0_int (qe_va (pv 1)) (qe_call (okp__law_draw (P := P) c) (hr.mono (by decide)) rfl (g__law_draw c) (F__law_draw c).kp (b__law_draw c) (fun σ => L2N.passAt tk σ) (qa_cons (qe_va (pv 0)) (qa_cons (qe_ix ix_list ixLP (qe_lst (qa_cons qe_int (qa_cons (qe_op op_pow opI_int qe_int qe_int) qa_nil))) (qe_call (okp__law_draw (P := P) c) (hr.mono (by decide)) rfl (g__law_draw c) (F__law_draw c).kp (b__law_draw c) (fun σ => L2N.passAt tk σ) (qa_cons (qe_va (pv 0)) (qa_cons qe_int qa_nil))) (fun _ _ => rfl)) qa_nil)))) qa_nil)))
  (qss_cons (qs_set (i := 2) sc__law_fault.nd rfl (Or.inl rfl) (qe_op op_catR opCatP (qe_va (pv 2)) (qe_lst (qa_cons (qe_op op_add_str opAddSP qe_str (qe_cT cr_strI strIP rfl (n_str c) (by decide +kernel) (qa_cons (qe_va (pv 1)) qa_nil))) (qa_cons (qe_op op_add_str opAddSP qe_str (qe_cT cr_strI strIP rfl (n_str c) (by decide +kernel) (qa_cons (qe_va (pv 1)) qa_nil))) (qa_cons (qe_op op_add_str opAddSP qe_str (qe_va (pv 3))) (qa_cons (qe_op op_add_str opAddSP qe_str (qe_va (pv 3))) qa_nil)))))))
  (qss_one (qs_ret (qe_ix ix_list ixLP (qe_va (pv 2)) (qe_call (okp__law_draw (P := P) c) (hr.mono (by decide)) rfl (g__law_draw c) (F__law_draw c).kp (b__law_draw c) (fun σ => L2N.passAt tk σ) (qa_cons (qe_va (pv 0)) (qa_cons (qe_cB cr_len lenP rfl (n_len c) (by decide +kernel) (qa_cons (qe_va (pv 2)) qa_nil)) qa_nil))) (fun _ _ => rfl))))))))))))))) (fun ω ds Q E h => ?_)
  · first | (obtain ⟨rfl, _⟩ := h; rfl) | (obtain ⟨_, rfl, _⟩ := h; rfl) | (obtain ⟨_, _, rfl, _⟩ := h; rfl) | (obtain ⟨_, _, _, rfl, _⟩ := h; rfl) | (obtain ⟨_, _, _, _, rfl, _⟩ := h; rfl) | (obtain ⟨_, _, _, _, _, rfl, _⟩ := h; rfl) | (obtain ⟨_, _, _, _, _, _, rfl, _⟩ := h; rfl) | (obtain ⟨_, _, _, _, _, _, _, rfl, _⟩ := h; rfl)
  · skip
    obtain ⟨t, b, L, rfl, rfl, hb, l1, l2, Qk⟩ := h
    walk_at "v"
    refine v_draw (by omega) (by decide) (by decide) fun r r0 r1 => ?_
    obtain ⟨m, hm, m1, m2⟩ : ∃ m : Int, atI [D.int 3, D.int 100000000000000000000] r = some (.int m) ∧ 0 < m ∧ m ≤ 100000000000000000000 := by
      rcases (by omega : r = 0 ∨ r = 1) with rfl | rfl
      · exact ⟨3, rfl, by decide, by decide⟩
      · exact ⟨_, rfl, by decide, by decide⟩
    refine v_ixL hm ?_
    walk_at "v"
    refine v_draw (by omega) m1 (Int.lt_of_le_of_lt m2 (by decide)) fun d d0 d1 => ?_
    walk_at "v"
    obtain ⟨f, hf⟩ : ∃ f : Nat, (L : Int) + d = f := ⟨((L : Int) + d).toNat, by omega⟩
    have f1 : L ≤ f := by omega
    have f2 : f < 10 ^ 30 := by
      have : f ≤ 100000000000000000024 := by omega
      exact Nat.lt_of_le_of_lt this (by decide)
    rw [hf]
    have lg : ∀ n : Nat, n < 10 ^ 30 → n.log2 < 1920 := fun n h => by
      by_cases z : n = 0
      · rw [z]; decide
      · exact (Nat.log2_lt z).mpr (Nat.lt_trans h (by decide))
    have L3 : L < 10 ^ 30 := Nat.lt_of_le_of_lt l2 (by decide)
    have x1 := faulty_go l1 l2 (Nat.le_refl L) L3
    have x2 := faulty_if l1 l2 (Nat.le_refl L) L3
    have x3 := faulty_unless l1 l2 f1 f2
    have x4 := faulty_go l1 l2 f1 f2
    have sz : ∀ {x y : Str}, (x ++ y).length ≤ 100 → x.length + y.length ≤ sizeLine := fun h => by rw [Str.length_append] at h; rw [sizeLine_eq]; exact Nat.le_trans h (by decide)
    refine v_strI (show f.log2 < 1920 from lg f f2) ?_
    walk_at "v"
    refine v_strI (show L.log2 < 1920 from lg L L3) ?_
    refine v_addS (sz x1.1) ?_
    walk_at "v"
    refine v_strI (show L.log2 < 1920 from lg L L3) ?_
    refine v_addS (sz x2.1) ?_
    walk_at "v"
    refine v_addS (sz x3.1) ?_
    walk_at "v"
    refine v_addS (sz x4.1) ?_
    walk_at "v"
    have fin : ∀ W : List Str, W.length = 67 → (∀ x ∈ W, Faulty L x) → ∀ q : Int, 0 ≤ q → q < 67 → ∃ x, atI (dStrs W) q = some (.str x) ∧ Faulty L x := fun W hl hW q q0 q1 => by
      obtain ⟨x, hx⟩ : ∃ x, W[q.toNat]? = some x := ⟨_, List.getElem?_eq_getElem (by omega)⟩
      have e : ((q.toNat : Nat) : Int) = q := by omega
      exact ⟨x, by rw [← e]; exact atI_strs hx, hW x (List.mem_of_getElem? hx)⟩
    refine v_draw (by omega) (by show (0 : Int) < 67; decide) (by show (67 : Int) < _; decide) fun q q0 q1 => ?_
    obtain ⟨x, hx, hF⟩ := fin (oddW ++ [("go " : Str) ++ nS L, ("if mine " : Str) ++ nS L, ("unless other " : Str) ++ nS f, ("go " : Str) ++ nS f]) rfl (fun x hx => by
      rcases List.mem_append.mp hx with z | z
      · exact odd_faulty l2 z
      · simp only [List.mem_cons, List.not_mem_nil, or_false] at z
        rcases z with rfl | rfl | rfl | rfl
        · exact x1
        · exact x2
        · exact x3
        · exact x4) q q0 q1
    refine v_ixL hx ?_
    walk_at "v"
    exact Qk _ _ (by omega) hF
end
section
variable {P : Program} [PG P] {w : World} {K : PySem.W.Frag} {mg : Str → Option Value} {base : Heap}
theorem ok__line_number (c : Ctx K mg) : FnOk P w K mg base (L2N.CX P w) 1 (A__line_number K) (fdA K (A__line_number K)) ["word", "lines"] (spM .A K W0 (pf__line_number)) := by
  refine okQ (F__line_number c) sc__line_number (fun ω ds Q E h => ?_) (fun cdv A outer s0 H E hr tk pown => (qss_cons (qs_for pown rfl (qi_rg1 rfl (n_range c) (qe_va (pv 1))) (qg_name (i := 2) sc__line_number.nd rfl (Or.inl rfl))
    (qss_one (qs_if (qb_cmp op_eq opEqP (qe_va (pv 0)) (qe_cT cr_strI strIP rfl (n_str c) (by decide +kernel) (qa_cons (qe_va (pv 2)) qa_nil)) (nomark _))
      (qss_one (qs_ret (qe_va (pv 2))))
      qss_nil)))
  (qss_one (qs_ret (qe_un un_neg un_negP qe_int))))) (fun ω ds Q E h => ?_)
  · first | (obtain ⟨rfl, _⟩ := h; rfl) | (obtain ⟨_, rfl, _⟩ := h; rfl) | (obtain ⟨_, _, rfl, _⟩ := h; rfl) | (obtain ⟨_, _, _, rfl, _⟩ := h; rfl) | (obtain ⟨_, _, _, _, rfl, _⟩ := h; rfl) | (obtain ⟨_, _, _, _, _, rfl, _⟩ := h; rfl) | (obtain ⟨_, _, _, _, _, _, rfl, _⟩ := h; rfl) | (obtain ⟨_, _, _, _, _, _, _, rfl, _⟩ := h; rfl)
  · skip
    obtain ⟨wd, L, rfl, hL, Qk⟩ := h
    walk_at "v"
    refine v_kForR (n := L) (fun i ω' ρ => (∀ j, j < i → wd ≠ ((toString (j : Int) : String) : Str)) ∧ ∃ o, ρ = [.va (.str wd), .va (.int L), o]) ⟨fun _ z => absurd z (Nat.not_lt_zero _), _, rfl⟩ ?_ ?_
    · rintro i ω' ρ hi ⟨hn, o, rfl⟩
      walk_at "v"
      refine v_strI (by have : i.log2 ≤ i := Nat.log2_le_self i; show i.log2 < 1920; omega) ?_
      walk_at "v"
      refine w_iteP (fun e1 => ?_) (fun e1 => ?_)
      · walk_at "v"
        rw [lineNo_some hi e1 hn] at Qk
        exact Qk
      · walk_at "v"
        refine ⟨fun j hj => ?_, _, rfl⟩
        rcases Nat.lt_or_eq_of_le (Nat.le_of_lt_succ hj) with z | z
        · exact hn j z
        · subst z; exact e1
    · rintro ω' ρ ⟨hn, o, rfl⟩
      walk_at "v"
      rw [lineNo_none hn] at Qk
      exact Qk
end
section
variable {P : Program} [PG P] {w : World} {K : PySem.W.Frag} {mg : Str → Option Value} {base : Heap}
theorem ok__parsed (c : Ctx K mg) : FnOk P w K mg base (L2N.CX P w) 2 (A__parsed K) (fdA K (A__parsed K)) ["text", "lines"] (spM .A K W0 (pf__parsed)) := by
  refine okQ (F__parsed c) sc__parsed (fun ω ds Q E h => ?_) (fun cdv A outer s0 H E hr tk pown => (qss_cons (qs_set (i := 2) sc__parsed.nd rfl (Or.inl rfl) (qe_sm PySem.F.slot_str_split PySem.F.type_str_split mt_split splitP (qe_va (pv 0)) qe_str))
  (qss_cons (qs_set (i := 3) sc__parsed.nd rfl (Or.inl rfl) (qe_ix ix_list ixLP (qe_va (pv 2)) qe_int (fun _ _ => rfl)))
  (qss_cut (qs_if (QW.toB (qw_and (qb_cmp op_eq opEqP (qe_cB cr_len lenP rfl (n_len c) (by decide +kernel) (qa_cons (qe_va (pv 2)) qa_nil)) qe_int (nomark _)) (qw_and1 (qb_cmp op_in_seq opInP (qe_va (pv 3)) (qe_tup (qa_cons qe_str (qa_cons qe_str qa_nil))) (by rfl)))))
    (qss_one (qs_ret (qe_tup (qa_cons (qe_va (pv 3)) (qa_cons qe_bl (qa_cons qe_str (qa_cons qe_int qa_nil)))))))
    qss_nil)
  (qss_cut (qs_if (QW.toB (qw_and (qb_cmp op_eq opEqP (qe_cB cr_len lenP rfl (n_len c) (by decide +kernel) (qa_cons (qe_va (pv 2)) qa_nil)) qe_int (nomark _)) (qw_and1 (qb_cmp op_in_seq opInP (qe_sm PySem.F.slot_str_removesuffix PySem.F.type_str_removesuffix mt_removesuffix remSP (qe_va (pv 3)) qe_str) (qe_ct (d := [.str "take", .str "give", .str "on"]) (pe_glob (v := .ref (He.ga K "MOVES")) rfl (g_MOVES c) rfl) (ct_MOVES c) (fun _ _ => (.cons (.str _) (.cons (.str _) (.cons (.str _) .nil))))) (by rfl)))))
    (qss_one (qs_ret (qe_tup (qa_cons (qe_sm PySem.F.slot_str_removesuffix PySem.F.type_str_removesuffix mt_removesuffix remSP (qe_va (pv 3)) qe_str) (qa_cons (qe_sm PySem.F.slot_str_endswith PySem.F.type_str_endswith mt_endswith endsP (qe_va (pv 3)) qe_str) (qa_cons qe_str (qa_cons qe_int qa_nil)))))))
    qss_nil)
  (qss_cut (qs_if (QW.toB (qw_and (qb_cmp op_eq opEqP (qe_cB cr_len lenP rfl (n_len c) (by decide +kernel) (qa_cons (qe_va (pv 2)) qa_nil)) qe_int (nomark _)) (qw_and (qb_cmp op_eq opEqP (qe_va (pv 3)) qe_str (nomark _)) (qw_and1 (qb_cmp op_in_seq opInP (qe_ix ix_list ixLP (qe_va (pv 2)) qe_int (fun _ _ => rfl)) (qe_ct (d := [.str "first", .str "empty", .str "mine", .str "other", .str "none", .str "full", .str "enough", .str "behind"]) (pe_glob (v := .ref (He.ga K "CONDITIONS")) rfl (g_CONDITIONS c) rfl) (ct_CONDITIONS c) (fun _ _ => (.cons (.str _) (.cons (.str _) (.cons (.str _) (.cons (.str _) (.cons (.str _) (.cons (.str _) (.cons (.str _) (.cons (.str _) .nil)))))))))) (by rfl))))))
    (qss_one (qs_ret (qe_tup (qa_cons (qe_va (pv 3)) (qa_cons qe_bl (qa_cons (qe_ix ix_list ixLP (qe_va (pv 2)) qe_int (fun _ _ => rfl)) (qa_cons qe_int qa_nil)))))))
    qss_nil)
  (qss_cons (qs_set (i := 4) sc__parsed.nd rfl (Or.inl rfl) (qe_call (ok__line_number (P := P) c) (hr.mono (by decide)) rfl (g__line_number c) (F__line_number c).kp (b__line_number c) (fun σ => L2N.passAt tk σ) (qa_cons (qe_ix ix_list ixLP (qe_va (pv 2)) (qe_un un_neg un_negP qe_int) (fun _ _ => rfl)) (qa_cons (qe_va (pv 1)) qa_nil))))
  (qss_cut (qs_if (QW.toB (qw_and (qb_cmp op_eq opEqP (qe_cB cr_len lenP rfl (n_len c) (by decide +kernel) (qa_cons (qe_va (pv 2)) qa_nil)) qe_int (nomark _)) (qw_and (qb_cmp op_eq opEqP (qe_va (pv 3)) qe_str (nomark _)) (qw_and1 (qb_cmp op_ge opI0_bl (qe_va (pv 4)) qe_int (nomark _))))))
    (qss_one (qs_ret (qe_tup (qa_cons (qe_va (pv 3)) (qa_cons qe_bl (qa_cons qe_str (qa_cons (qe_va (pv 4)) qa_nil)))))))
    qss_nil)
  (qss_cons (qs_if (QW.toB (qw_and (qb_cmp op_eq opEqP (qe_cB cr_len lenP rfl (n_len c) (by decide +kernel) (qa_cons (qe_va (pv 2)) qa_nil)) qe_int (nomark _)) (qw_and (qb_cmp op_in_seq opInP (qe_va (pv 3)) (qe_tup (qa_cons qe_str (qa_cons qe_str qa_nil))) (by rfl)) (qw_and (qb_cmp op_in_seq opInP (qe_ix ix_list ixLP (qe_va (pv 2)) qe_int (fun _ _ => rfl)) (qe_ct (d := [.str "first", .str "empty", .str "mine", .str "other", .str "none", .str "full", .str "enough", .str "behind"]) (pe_glob (v := .ref (He.ga K "CONDITIONS")) rfl (g_CONDITIONS c) rfl) (ct_CONDITIONS c) (fun _ _ => (.cons (.str _) (.cons (.str _) (.cons (.str _) (.cons (.str _) (.cons (.str _) (.cons (.str _) (.cons (.str _) (.cons (.str _) .nil)))))))))) (by rfl)) (qw_and1 (qb_cmp op_ge opI0_bl (qe_va (pv 4)) qe_int (nomark _)))))))
    (qss_one (qs_ret (qe_tup (qa_cons (qe_va (pv 3)) (qa_cons qe_bl (qa_cons (qe_ix ix_list ixLP (qe_va (pv 2)) qe_int (fun _ _ => rfl)) (qa_cons (qe_va (pv 4)) qa_nil)))))))
    qss_nil)
  (qss_one (qs_ret qe_non))))))))))) (fun ω ds Q E h => ?_)
  · first | (obtain ⟨rfl, _⟩ := h; rfl) | (obtain ⟨_, rfl, _⟩ := h; rfl) | (obtain ⟨_, _, rfl, _⟩ := h; rfl) | (obtain ⟨_, _, _, rfl, _⟩ := h; rfl) | (obtain ⟨_, _, _, _, rfl, _⟩ := h; rfl) | (obtain ⟨_, _, _, _, _, rfl, _⟩ := h; rfl) | (obtain ⟨_, _, _, _, _, _, rfl, _⟩ := h; rfl) | (obtain ⟨_, _, _, _, _, _, _, rfl, _⟩ := h; rfl)
  · skip
    obtain ⟨t, L, w0, ws, rfl, hs, ht, hw, hl, hL, Qk⟩ := h
    walk_at "v"
    refine v_split (by decide) (by rw [sizeLine_eq]; omega) ?_
    rw [hs]
    walk_at "v"
    have hlen : (dStrs (w0 :: ws)).length = ws.length + 1 := by rw [length_dStrs] <;> rfl
    have z0 : ws.length = 0 → ws = [] := List.length_eq_zero_iff.mp
    refine v_ixL (d := .str w0) (atI_strs (ys := w0 :: ws) (k := 0) rfl) ?_
    walk_at "v"
    unfold parseW at Qk
    refine ⟨fun ω' ρ => ¬ (ws = [] ∧ (w0 = "rest" ∨ w0 = "room")) ∧ ρ = [.va (.str t), .va (.int L), .va (.lst (dStrs (w0 :: ws))), .va (.str w0), .no], ?_, ?_⟩
    · walk_at "v"
      rw [hlen]
      refine w_iteP (fun e1 => ?_) (fun e1 => ?_)
      · walk_at "v"
        refine v_inTS (ys := ["rest", "room"]) ?_
        walk_at "v"
        refine w_iteP (fun e2 => ?_) (fun e2 => ?_)
        · walk_at "v"
          rw [if_pos ⟨z0 (by omega), by simpa using e2⟩] at Qk
          exact Qk
        · walk_at "v"
          exact ⟨fun z => e2 (by simpa using z.2), rfl⟩
      · walk_at "v"
        exact ⟨fun z => e1 (by rw [z.1] <;> rfl), rfl⟩
    rintro ω' ρ ⟨n1, rfl⟩
    rw [if_neg n1] at Qk
    refine ⟨fun ω' ρ => ¬ (ws = [] ∧ Txt.removesuffix w0 "*" ∈ movesW) ∧ ρ = [.va (.str t), .va (.int L), .va (.lst (dStrs (w0 :: ws))), .va (.str w0), .no], ?_, ?_⟩
    · walk_at "v"
      rw [hlen]
      refine w_iteP (fun e1 => ?_) (fun e1 => ?_)
      · walk_at "v"
        refine v_remS (by rw [sizeLine_eq]; omega) ?_
        walk_at "v"
        refine v_inTS (ys := movesW) ?_
        walk_at "v"
        refine w_iteP (fun e2 => ?_) (fun e2 => ?_)
        · walk_at "v"
          refine v_remS (by rw [sizeLine_eq]; omega) ?_
          walk_at "v"
          rw [if_pos ⟨z0 (by omega), e2⟩] at Qk
          exact Qk
        · walk_at "v"
          exact ⟨fun z => e2 z.2, rfl⟩
      · walk_at "v"
        exact ⟨fun z => e1 (by rw [z.1] <;> rfl), rfl⟩
    rintro ω' ρ ⟨n2, rfl⟩
    rw [if_neg n2] at Qk
    refine ⟨fun ω' ρ => ¬ (ws.length = 1 ∧ w0 = "wait" ∧ ws.headD "" ∈ condsW) ∧ ρ = [.va (.str t), .va (.int L), .va (.lst (dStrs (w0 :: ws))), .va (.str w0), .no], ?_, ?_⟩
    · walk_at "v"
      rw [hlen]
      refine w_iteP (fun e1 => ?_) (fun e1 => ?_)
      · walk_at "v"
        have i1 : atI (dStrs (w0 :: ws)) 1 = some (.str (ws.headD "")) := atI_strs (ys := w0 :: ws) (k := 1) (by
          cases ws with
          | nil => exact absurd e1 (by decide)
          | cons w1 ws => rfl)
        refine w_iteP (fun e2 => ?_) (fun e2 => ?_)
        · walk_at "v"
          refine v_ixL i1 ?_
          walk_at "v"
          refine v_inTS (ys := condsW) ?_
          walk_at "v"
          refine w_iteP (fun e3 => ?_) (fun e3 => ?_)
          · walk_at "v"
            refine v_ixL i1 ?_
            walk_at "v"
            rw [if_pos ⟨by omega, e2, e3⟩] at Qk
            exact Qk
          · walk_at "v"
            exact ⟨fun z => e3 z.2.2, rfl⟩
        · walk_at "v"
          exact ⟨fun z => e2 z.2.1, rfl⟩
      · walk_at "v"
        exact ⟨fun z => e1 (by rw [z.1] <;> rfl), rfl⟩
    rintro ω' ρ ⟨n3, rfl⟩
    rw [if_neg n3] at Qk
    walk_at "v"
    refine v_ixL (atI_lastS (ys := w0 :: ws) (by simp)) ?_
    walk_at "v"
    refine v_lineNo hL ?_
    walk_at "v"
    generalize lineNo ((w0 :: ws).getLastD "") L = n at Qk ⊢
    refine ⟨fun ω' ρ => ¬ (ws.length = 1 ∧ w0 = "go" ∧ 0 ≤ n) ∧ ρ = [.va (.str t), .va (.int L), .va (.lst (dStrs (w0 :: ws))), .va (.str w0), .va (.int n)], ?_, ?_⟩
    · walk_at "v"
      rw [hlen]
      refine w_iteP (fun e1 => ?_) (fun e1 => ?_)
      · walk_at "v"
        refine w_iteP (fun e2 => ?_) (fun e2 => ?_)
        · walk_at "v"
          refine w_iteP (fun e3 => ?_) (fun e3 => ?_)
          · walk_at "v"
            rw [if_pos ⟨by omega, e2, e3⟩] at Qk
            exact Qk
          · walk_at "v"
            exact ⟨fun z => e3 z.2.2, rfl⟩
        · walk_at "v"
          exact ⟨fun z => e2 z.2.1, rfl⟩
      · walk_at "v"
        exact ⟨fun z => e1 (by rw [z.1] <;> rfl), rfl⟩
    rintro ω' ρ ⟨n4, rfl⟩
    rw [if_neg n4] at Qk
    have i1 : ws.length = 2 → atI (dStrs (w0 :: ws)) 1 = some (.str (ws.headD "")) := fun e1 => atI_strs (ys := w0 :: ws) (k := 1) (by
      cases ws with
      | nil => exact absurd e1 (by decide)
      | cons w1 ws => rfl)
    walk_at "v"
    rw [hlen]
    refine w_iteP (fun e1 => ?_) (fun e1 => ?_)
    · walk_at "v"
      refine v_inTS (ys := ["if", "unless"]) ?_
      walk_at "v"
      refine w_iteP (fun e2 => ?_) (fun e2 => ?_)
      · walk_at "v"
        refine v_ixL (i1 (by omega)) ?_
        walk_at "v"
        refine v_inTS (ys := condsW) ?_
        walk_at "v"
        refine w_iteP (fun e3 => ?_) (fun e3 => ?_)
        · walk_at "v"
          refine w_iteP (fun e4 => ?_) (fun e4 => ?_)
          · walk_at "v"
            refine v_ixL (i1 (by omega)) ?_
            walk_at "v"
            rw [if_pos ⟨by omega, by simpa using e2, e3, e4⟩] at Qk
            exact Qk
          · walk_at "v"
            rw [if_neg fun z => e4 z.2.2.2] at Qk
            exact Qk
        · walk_at "v"
          rw [if_neg fun z => e3 z.2.2.1] at Qk
          exact Qk
      · walk_at "v"
        rw [if_neg fun z => e2 (by simpa using z.2.1)] at Qk
        exact Qk
    · walk_at "v"
      rw [if_neg fun z => e1 (by rw [z.1] <;> rfl)] at Qk
      exact Qk
end
section
variable {P : Program} [PG P] {w : World} {K : PySem.W.Frag} {mg : Str → Option Value} {base : Heap}
theorem ok_BadProgram___init__ (c : Ctx K mg) : FnOk P w K mg base (L2N.CX P w) 1 (A_BadProgram___init__ K) (fdA K (A_BadProgram___init__ K)) ["self", "line"] (spXI (He.ga K "BadProgram") "line") := by
  obtain ⟨cda, cc, F⟩ := F_BadProgram___init__ c
  exact xinit_ok F sc_BadProgram___init__ (n_super c) rfl rfl (spx_BadProgram c).sx (spx_BadProgram c).no fun A outer s H E a SE => pssA_supI SE (spx_BadProgram c).sx rfl (pa_cons pe_str pa_nil) (pss_one (ps_ost (pv 0) (pv 1)))
end
section
variable {P : Program} [PG P] {w : World} {K : PySem.W.Frag} {mg : Str → Option Value} {base : Heap}
theorem ok_BadInstruction___init__ (c : Ctx K mg) : FnOk P w K mg base (L2N.CX P w) 1 (A_BadInstruction___init__ K) (fdA K (A_BadInstruction___init__ K)) ["self", "instruction"] (spXI (He.ga K "BadInstruction") "instruction") := by
  obtain ⟨cda, cc, F⟩ := F_BadInstruction___init__ c
  exact xinit_ok F sc_BadInstruction___init__ (n_super c) rfl rfl (spx_BadInstruction c).sx (spx_BadInstruction c).no fun A outer s H E a SE => pssA_supI SE (spx_BadInstruction c).sx rfl (pa_cons pe_str pa_nil) (pss_one (ps_ost (pv 0) (pv 1)))
end
section
variable {P : Program} [PG P] {w : World} {K : PySem.W.Frag} {mg : Str → Option Value} {base : Heap}
abbrev sp_Program___init__ (K : PySem.W.Frag) : Sp := spMk K (He.ga K "Program") (pf_ProgramX K)
theorem okx_Program___init__ (c : Ctx K mg) (x dx : Addr) : FnOk P w K mg base (L2N.CX P w) 3 (A_Program___init__ K) (fdA K (A_Program___init__ K)) ["self", "instructions"] (spM .A K (WM K x (He.ga K "Program") dx) (pfM K (He.ga K "Program") (pf_ProgramX K) x dx)) := by
  refine okQ (F_Program___init__ c) sc_Program___init__ (fun ω ds Q E h => ?_) (fun cdv A outer s0 H E hr tk pown => (qss_cons (qs_if (qb_not (qb_chain op_le op_le opI0_bl opI0_bl qe_int (qe_cB cr_len lenP rfl (n_len c) (by decide +kernel) (qa_cons (qe_va (pv 1)) qa_nil)) (qe_cval (qe_adr (pe_glob (v := .ref (He.ga K "Program")) rfl (g_Program c) rfl)) (cr_Program c) (cv_Program_LONGEST c))))
    (qss_one (qs_raiseX rfl tk (spx_BadProgram c).sx.oex (spx_BadProgram c).iC (spx_BadProgram c).tI (ok_BadProgram___init__ (P := P) c) (hr.mono (by decide)) (b_BadProgram___init__ c) rfl (g_BadProgram c) (qe_un un_neg un_negP qe_int)))
    qss_nil)
  (qss_cons (qs_setO (i := 2) sc_Program___init__.nd rfl (Or.inl rfl) (qe_lst qa_nil))
  (qss_cons (qs_for pown rfl (qi_enumQ rfl (n_enumerate c) (qe_va (pv 1))) (qg_tup (n := 2) rfl (qgs_cons (qg_name (i := 3) sc_Program___init__.nd rfl (Or.inl rfl)) (qgs_cons (qg_name (i := 4) sc_Program___init__.nd rfl (Or.inl rfl)) qgs_nil)))
    (qss_cons (qs_set (i := 5) sc_Program___init__.nd rfl (Or.inl rfl) (qe_call (FnOk.inW (ok__parsed (P := P) c) (WM K x (He.ga K "Program") dx)) (hr.mono (by decide)) rfl (g__parsed c) (F__parsed c).kp (b__parsed c) (fun σ => L2N.passAt tk σ) (qa_cons (qe_va (pv 4)) (qa_cons (qe_cB cr_len lenP rfl (n_len c) (by decide +kernel) (qa_cons (qe_va (pv 1)) qa_nil)) qa_nil))))
    (qss_cons (qs_if (QW.toB (qw_or (qb_cmp op_isN opIsP (qe_va (pv 5)) qe_non (nomark _)) (qw_or1 (QW.toB (qw_and (qb_cmp op_eq opEqP (qe_va (pv 3)) qe_int (nomark _)) (qw_and1 (qb_cmp op_ne opNeP (qe_va (pv 4)) qe_str (nomark _))))))))
      (qss_one (qs_raiseFrom rfl rfl tk (spx_BadProgram c).sx.oex (spx_BadProgram c).iC (spx_BadProgram c).tI (ok_BadProgram___init__ (P := P) c) (hr.mono (by decide)) (b_BadProgram___init__ c) rfl (g_BadProgram c) (qe_va (pv 3)) (spx_BadInstruction c).sx.oex (spx_BadInstruction c).iC (spx_BadInstruction c).tI (ok_BadInstruction___init__ (P := P) c) (hr.mono (by decide)) (b_BadInstruction___init__ c) rfl (g_BadInstruction c) (pv 4)))
      qss_nil)
    (qss_one (qs_app (i := 2) rfl (pv 2) (qe_va (pv 5)))))))
  (qss_cons (qs_fset (K := K) (i := 0) rfl (cl_Program c) (na_Program_instructions c) (qe_cT cr_tuple tupleP rfl (n_tuple c) (by decide +kernel) (qa_cons (qe_va (pv 1)) qa_nil)) (pv 0))
  (qss_one (qs_fset (K := K) (i := 0) rfl (cl_Program c) (na_Program_rows c) (qe_cT cr_tuple tupleP rfl (n_tuple c) (by decide +kernel) (qa_cons (qe_v (pv 2)) qa_nil)) (pv 0)))))))) (fun ω ds Q E h => ?_)
  · obtain ⟨_, args, rfl, _, h, _⟩ := h; rcases h with rfl | rfl <;> rfl
  · skip
    obtain ⟨rfl, args, rfl, ts, hd, hl, ht, Qk, Ek⟩ := h
    rcases hd with rfl | rfl
    · skip
      walk_at "v"
      rw [length_dStrs]
      refine w_iteP (fun e1 => ?_) (fun e1 => ?_)
      rotate_left
      · walk_at "v"
        exact Ek _ (by unfold badLine; rw [if_neg (by omega)]) _
      walk_at "v"
      refine w_iteNP (fun e2 => ?_) (fun e2 => ?_)
      · walk_at "v"
        exact Ek _ (by unfold badLine; rw [if_neg (by omega)]) _
      have hb : badLine ts = (badL ts).map Int.ofNat := by unfold badLine; rw [if_pos (by omega)]
      walk_at "v"
      refine v_kFor (fun i ω' ρ => ω' = [] ∧ (∀ j, j < i → lineOk ts.length j (ts.getD j "") = true) ∧ ∃ (l : Addr) (o3 o4 o5 : Sl), ρ = [.va (.adr x), .va (.lst (dStrs ts)), .ow l ((ts.map fun t => parseT t ts.length).take i), o3, o4, o5]) ⟨rfl, fun j z => absurd z (Nat.not_lt_zero _), _, _, _, _, rfl⟩ ?_ ?_
      · rintro i d ω' ρ hi ⟨rfl, hok, l, o3, o4, o5, rfl⟩
        rw [enumD_get] at hi
        obtain ⟨d1, hd1, rfl⟩ := Option.map_eq_some_iff.mp hi
        obtain ⟨t, ht1, rfl⟩ : ∃ t, ts[i]? = some t ∧ .str t = d1 := by
          unfold dStrs at hd1
          rw [List.getElem?_map] at hd1
          exact Option.map_eq_some_iff.mp hd1
        have hil := (List.getElem?_eq_some_iff.mp ht1).1
        have hti : ts.getD i "" = t := by rw [List.getD_eq_getElem?_getD, ht1] <;> rfl
        have tk : (ts.map fun t => parseT t ts.length).take (i + 1) = (ts.map fun t => parseT t ts.length).take i ++ [parseT t ts.length] := by
          rw [List.take_succ, List.getElem?_map, ht1] <;> rfl
        have bad : lineOk ts.length i t = false → badLine ts = some (0 + (i : Int)) := fun z => by
          rw [hb, Int.zero_add]
          unfold badL
          rw [(List.find?_range_eq_some (i := i)).mpr ⟨by rw [hti, z] <;> rfl, List.mem_range.mpr hil, fun j hj => by rw [hok j hj] <;> rfl⟩] <;> rfl
        have good : lineOk ts.length i t = true → ∀ j, j < i + 1 → lineOk ts.length j (ts.getD j "") = true := fun z j hj => by
          rcases Nat.lt_or_eq_of_le (Nat.le_of_lt_succ hj) with y | y
          · exact hok j y
          · rw [y, hti]; exact z
        walk_at "v"
        rw [length_dStrs]
        refine v_parsedT (Nat.le_trans (ht t (List.mem_of_getElem? ht1)) (by decide)) (by omega) ?_
        rcases parseT_row t ts.length with hn | ⟨v, b, c, n, hr⟩
        · rw [hn]
          walk_at "v"
          rw [show (D.non).isNon = true from rfl, if_pos (by decide), if_pos rfl]
          walk_at "v"
          exact ⟨⟨_, rfl⟩, Ek _ (bad (by unfold lineOk; rw [hn] <;> rfl)) _⟩
        · rw [hr] at tk ⊢
          walk_at "v"
          rw [show (rowD v b c n).isNon = false from rfl, if_neg (by decide)]
          walk_at "v"
          refine w_iteP (fun e => ?_) (fun e => ?_)
          · walk_at "v"
            have i0 : i = 0 := by omega
            refine w_iteNP (fun e2 => ?_) (fun e2 => ?_)
            · walk_at "v"
              exact ⟨⟨_, rfl⟩, Ek _ (bad (by unfold lineOk; rw [hr, i0, beq_eq_false_iff_ne.mpr e2] <;> rfl)) _⟩
            · walk_at "v"
              refine v_app rfl (by rw [List.length_take, List.length_map]; omega) ?_
              walk_at "v"
              rw [tk]
              exact ⟨rfl, good (by unfold lineOk; rw [hr, e2, beq_self_eq_true, Bool.or_true] <;> rfl), _, _, _, _, rfl⟩
          · walk_at "v"
            refine v_app rfl (by rw [List.length_take, List.length_map]; omega) ?_
            walk_at "v"
            rw [tk]
            exact ⟨rfl, good (by unfold lineOk; rw [hr, bne_iff_ne.mpr (show i ≠ 0 by omega)] <;> rfl), _, _, _, _, rfl⟩
      · rintro ω' ρ ⟨rfl, hok, l, o3, o4, o5, rfl⟩
        rw [enumD_length, length_dStrs] at hok
        rw [enumD_length, length_dStrs, List.take_of_length_le (by rw [List.length_map]; omega)]
        have hpu : ∀ d ∈ ts.map (fun t => parseT t ts.length), d.pure = true := fun d hd => by
          obtain ⟨t, _, rfl⟩ := List.mem_map.mp hd
          rcases parseT_row t ts.length with hn | ⟨v, b, c, n, hr⟩
          · rw [hn] <;> rfl
          · rw [hr] <;> rfl
        walk_at "v"
        refine v_kFset rfl (pure_strs ts) (by decide) (by decide) (by decide) ?_
        walk_at "v"
        refine v_kFset rfl (pure_tup hpu) (by show _ ∉ [("instructions" : Str)]; decide) (by show imm ["instructions"] = false; decide) (by show 1 < 1000; decide) ?_
        refine Qk ?_ _ _ rfl rfl (by decide)
        rw [hb]
        unfold badL
        rw [List.find?_range_eq_none.mpr fun j hj => by rw [hok j hj] <;> rfl] <;> rfl
    · skip
      walk_at "v"
      rw [length_dStrs]
      refine w_iteP (fun e1 => ?_) (fun e1 => ?_)
      rotate_left
      · walk_at "v"
        exact Ek _ (by unfold badLine; rw [if_neg (by omega)]) _
      walk_at "v"
      refine w_iteNP (fun e2 => ?_) (fun e2 => ?_)
      · walk_at "v"
        exact Ek _ (by unfold badLine; rw [if_neg (by omega)]) _
      have hb : badLine ts = (badL ts).map Int.ofNat := by unfold badLine; rw [if_pos (by omega)]
      walk_at "v"
      refine v_kFor (fun i ω' ρ => ω' = [] ∧ (∀ j, j < i → lineOk ts.length j (ts.getD j "") = true) ∧ ∃ (l : Addr) (o3 o4 o5 : Sl), ρ = [.va (.adr x), .va (.tup (dStrs ts)), .ow l ((ts.map fun t => parseT t ts.length).take i), o3, o4, o5]) ⟨rfl, fun j z => absurd z (Nat.not_lt_zero _), _, _, _, _, rfl⟩ ?_ ?_
      · rintro i d ω' ρ hi ⟨rfl, hok, l, o3, o4, o5, rfl⟩
        rw [enumD_get] at hi
        obtain ⟨d1, hd1, rfl⟩ := Option.map_eq_some_iff.mp hi
        obtain ⟨t, ht1, rfl⟩ : ∃ t, ts[i]? = some t ∧ .str t = d1 := by
          unfold dStrs at hd1
          rw [List.getElem?_map] at hd1
          exact Option.map_eq_some_iff.mp hd1
        have hil := (List.getElem?_eq_some_iff.mp ht1).1
        have hti : ts.getD i "" = t := by rw [List.getD_eq_getElem?_getD, ht1] <;> rfl
        have tk : (ts.map fun t => parseT t ts.length).take (i + 1) = (ts.map fun t => parseT t ts.length).take i ++ [parseT t ts.length] := by
          rw [List.take_succ, List.getElem?_map, ht1] <;> rfl
        have bad : lineOk ts.length i t = false → badLine ts = some (0 + (i : Int)) := fun z => by
          rw [hb, Int.zero_add]
          unfold badL
          rw [(List.find?_range_eq_some (i := i)).mpr ⟨by rw [hti, z] <;> rfl, List.mem_range.mpr hil, fun j hj => by rw [hok j hj] <;> rfl⟩] <;> rfl
        have good : lineOk ts.length i t = true → ∀ j, j < i + 1 → lineOk ts.length j (ts.getD j "") = true := fun z j hj => by
          rcases Nat.lt_or_eq_of_le (Nat.le_of_lt_succ hj) with y | y
          · exact hok j y
          · rw [y, hti]; exact z
        walk_at "v"
        rw [length_dStrs]
        refine v_parsedT (Nat.le_trans (ht t (List.mem_of_getElem? ht1)) (by decide)) (by omega) ?_
        rcases parseT_row t ts.length with hn | ⟨v, b, c, n, hr⟩
        · rw [hn]
          walk_at "v"
          rw [show (D.non).isNon = true from rfl, if_pos (by decide), if_pos rfl]
          walk_at "v"
          exact ⟨⟨_, rfl⟩, Ek _ (bad (by unfold lineOk; rw [hn] <;> rfl)) _⟩
        · rw [hr] at tk ⊢
          walk_at "v"
          rw [show (rowD v b c n).isNon = false from rfl, if_neg (by decide)]
          walk_at "v"
          refine w_iteP (fun e => ?_) (fun e => ?_)
          · walk_at "v"
            have i0 : i = 0 := by omega
            refine w_iteNP (fun e2 => ?_) (fun e2 => ?_)
            · walk_at "v"
              exact ⟨⟨_, rfl⟩, Ek _ (bad (by unfold lineOk; rw [hr, i0, beq_eq_false_iff_ne.mpr e2] <;> rfl)) _⟩
            · walk_at "v"
              refine v_app rfl (by rw [List.length_take, List.length_map]; omega) ?_
              walk_at "v"
              rw [tk]
              exact ⟨rfl, good (by unfold lineOk; rw [hr, e2, beq_self_eq_true, Bool.or_true] <;> rfl), _, _, _, _, rfl⟩
          · walk_at "v"
            refine v_app rfl (by rw [List.length_take, List.length_map]; omega) ?_
            walk_at "v"
            rw [tk]
            exact ⟨rfl, good (by unfold lineOk; rw [hr, bne_iff_ne.mpr (show i ≠ 0 by omega)] <;> rfl), _, _, _, _, rfl⟩
      · rintro ω' ρ ⟨rfl, hok, l, o3, o4, o5, rfl⟩
        rw [enumD_length, length_dStrs] at hok
        rw [enumD_length, length_dStrs, List.take_of_length_le (by rw [List.length_map]; omega)]
        have hpu : ∀ d ∈ ts.map (fun t => parseT t ts.length), d.pure = true := fun d hd => by
          obtain ⟨t, _, rfl⟩ := List.mem_map.mp hd
          rcases parseT_row t ts.length with hn | ⟨v, b, c, n, hr⟩
          · rw [hn] <;> rfl
          · rw [hr] <;> rfl
        walk_at "v"
        refine v_kFset rfl (pure_strs ts) (by decide) (by decide) (by decide) ?_
        walk_at "v"
        refine v_kFset rfl (pure_tup hpu) (by show _ ∉ [("instructions" : Str)]; decide) (by show imm ["instructions"] = false; decide) (by show 1 < 1000; decide) ?_
        refine Qk ?_ _ _ rfl rfl (by decide)
        rw [hb]
        unfold badL
        rw [List.find?_range_eq_none.mpr fun j hj => by rw [hok j hj] <;> rfl] <;> rfl
theorem ok_Program___init__ (c : Ctx K mg) : FnOk P w K mg base (L2N.CX P w) 3 (A_Program___init__ K) (fdA K (A_Program___init__ K)) ["self", "instructions"] (sp_Program___init__ K) := FnOk_mk fun x dx => okx_Program___init__ c x dx
theorem mkp_Program (c : Ctx K mg) : MkP K (He.ga K "Program") (sp_Program___init__ K) (pf_ProgramX K) := mkp_of mono_ProgramX
end
section
variable {P : Program} [PG P] {w : World} {K : PySem.W.Frag} {mg : Str → Option Value} {base : Heap}
theorem ok_Program_read (c : Ctx K mg) : FnOk P w K mg base (L2N.CX P w) 5 (A_Program_read K) (fdA K (A_Program_read K)) ["cls", "text"] (spM .A K W0 (pf_Program_readX K)) := by
  refine okQ (F_Program_read c) sc_Program_read (fun ω ds Q E h => ?_) (fun cdv A outer s0 H E hr tk pown => (qss_one (qs_ret (qe_make (qe_va (pv 0)) (mk_Program c) (rawF (ok_Program___init__ (P := P) c) (b_Program___init__ c)) (mkp_Program c) (hr.mono (by decide)) (fun σ => L2N.passAt tk σ) (qa_cons (qe_sm PySem.F.slot_str_split PySem.F.type_str_split mt_split splitP (qe_va (pv 1)) qe_str) qa_nil))))) (fun ω ds Q E h => ?_)
  · first | (obtain ⟨rfl, _⟩ := h; rfl) | (obtain ⟨_, rfl, _⟩ := h; rfl) | (obtain ⟨_, _, rfl, _⟩ := h; rfl) | (obtain ⟨_, _, _, rfl, _⟩ := h; rfl) | (obtain ⟨_, _, _, _, rfl, _⟩ := h; rfl) | (obtain ⟨_, _, _, _, _, rfl, _⟩ := h; rfl) | (obtain ⟨_, _, _, _, _, _, rfl, _⟩ := h; rfl) | (obtain ⟨_, _, _, _, _, _, _, rfl, _⟩ := h; rfl)
  · skip
    obtain ⟨t, ts, rfl, hl, hs, h1, h2, h3, h4⟩ := h
    walk_at "v"
    refine v_split (by decide) (by rw [sizeLine_eq]; omega) ?_
    rw [hs]
    walk_at "v"
    exact v_progX h1 h2 ⟨fun z => ⟨pure_progX ts, h3 z⟩, h4⟩
end
def spS : Nat → PySem.W.Frag → Sp
  | 0, _ => fun _ _ _ _ => False
  | n + 1, K => fun vs H Q _ => ∃ (v w : V) (d : D), vs = [v, w] ∧ Rep K H d v ∧ Rep K H d w ∧ d.lev n = true ∧ Q (.bl true) H
abbrev sp__law_same (K : PySem.W.Frag) : Sp := spS 9 K
theorem w_same {K : PySem.W.Frag} {H : Hp} {Q : VK} {E : XK} {v w : V} (d : D) (hv : Rep K H d v) (hw : Rep K H d w) (hd : d.lev 8 = true) (k : Q (.bl true) H) : sp__law_same K [v, w] H Q E := ⟨v, w, d, rfl, hv, hw, hd, k⟩
theorem w_sameI {K : PySem.W.Frag} {H : Hp} {Q : VK} {E : XK} {i j : Int} (e : i = j) (k : Q (.bl true) H) : sp__law_same K [.int i, .int j] H Q E := w_same (.int j) (by rw [e]; exact .int j) (.int j) rfl k
theorem w_sameT {K : PySem.W.Frag} {H : Hp} {Q : VK} {E : XK} {a b : Addr} {ns : List Int} (ha : SqT K H a (ns.map V.int)) (hb : SqT K H b (ns.map V.int)) (hl : ns.length ≤ 1000000) (k : Q (.bl true) H) : sp__law_same K [.ref a, .ref b] H Q E := w_same (.tup (dInts ns)) (rep_tupI ha) (rep_tupI hb) (lev_tupI hl) k
theorem w_sameL {K : PySem.W.Frag} {H : Hp} {Q : VK} {E : XK} {a b : Addr} {ns : List Int} (ha : SqL K H a (ns.map V.int)) (hb : SqL K H b (ns.map V.int)) (hl : ns.length ≤ 1000000) (k : Q (.bl true) H) : sp__law_same K [.ref a, .ref b] H Q E := w_same (.lst (dInts ns)) (rep_lstI ha) (rep_lstI hb) (lev_lstI hl) k
theorem w_sameB {K : PySem.W.Frag} {H : Hp} {Q : VK} {E : XK} {b c : Bool} (e : b = c) (k : Q (.bl true) H) : sp__law_same K [.bl b, .bl c] H Q E := w_same (.bl c) (by rw [e]; exact .bl c) (.bl c) rfl k
section
variable {P : Program} [PG P] {w : World} {K : PySem.W.Frag} {mg : Str → Option Value} {base : Heap}
theorem okS (c : Ctx K mg) : ∀ n : Nat, FnOk P w K mg base (L2N.CX P w) n (A__law_same K) (fdA K (A__law_same K)) ["_law_actual", "_law_expected"] (spS n K) := by
  intro n
  induction n with
  | zero => exact ⟨fun _ _ _ _ h => h.elim, fun _ _ _ _ _ _ _ _ _ _ _ _ _ h => h.elim⟩
  | succ n ih =>
    refine okT (F__law_same c) sc__law_same (fun vs H Q E h => ?_) (fun cdv A outer s H vs Q E hr h tk pown => ?_)
    · obtain ⟨_, _, _, rfl, _⟩ := h; rfl
    · refine ⟨_, (pss_cons (ps_if (PW.pt (pw_and (pt_val (pe_callB call_isi rfl (n_isinstance c) (by decide +kernel) (pa_cons (pv 1) (pa_cons (pe_bltn (v := .ty "tuple") (u := .type "tuple") rfl (n_tuple c) (by decide +kernel) rfl) pa_nil)))) (pw_and1 (pt_not (pt_val (pe_callB call_isi rfl (n_isinstance c) (by decide +kernel) (pa_cons (pv 0) (pa_cons (pe_bltn (v := .ty "tuple") (u := .type "tuple") rfl (n_tuple c) (by decide +kernel) rfl) pa_nil))))))))
    (pss_one (ps_ret pe_bl))
    pss_nil)
  (pss_cons (ps_if (PW.pt (pw_and (pt_val (pe_callB call_isi rfl (n_isinstance c) (by decide +kernel) (pa_cons (pv 1) (pa_cons (pe_bltn (v := .ty "list") (u := .type "list") rfl (n_list c) (by decide +kernel) rfl) pa_nil)))) (pw_and1 (pt_not (pt_val (pe_callB call_isi rfl (n_isinstance c) (by decide +kernel) (pa_cons (pv 0) (pa_cons (pe_bltn (v := .ty "list") (u := .type "list") rfl (n_list c) (by decide +kernel) rfl) pa_nil))))))))
    (pss_one (ps_ret pe_bl))
    pss_nil)
  (pss_cons (ps_if (PW.pt (pw_or (pt_val (pe_callB call_isi rfl (n_isinstance c) (by decide +kernel) (pa_cons (pv 1) (pa_cons (pe_bltn (v := .ty "tuple") (u := .type "tuple") rfl (n_tuple c) (by decide +kernel) rfl) pa_nil)))) (pw_or1 (pt_val (pe_callB call_isi rfl (n_isinstance c) (by decide +kernel) (pa_cons (pv 1) (pa_cons (pe_bltn (v := .ty "list") (u := .type "list") rfl (n_list c) (by decide +kernel) rfl) pa_nil)))))))
    (pss_cons (ps_if (pt_cmpR op_ne (pe_callB cr_len rfl (n_len c) (by decide +kernel) (pa_cons (pv 0) pa_nil)) (pe_callB cr_len rfl (n_len c) (by decide +kernel) (pa_cons (pv 1) pa_nil)) (nomark _))
      (pss_one (ps_ret pe_bl))
      pss_nil)
    (pss_cons (ps_for pown rfl (pi_range1 rfl (n_range c) (pa_cons (pe_callB cr_len rfl (n_len c) (by decide +kernel) (pa_cons (pv 1) pa_nil)) pa_nil)) (pg_name (i := 2) sc__law_same.nd rfl (Or.inl rfl))
      (pss_one (ps_if (pt_not (pt_val (pe_callS ih hr rfl (g__law_same c) (F__law_same c).kp (b__law_same c) (fun σ => L2N.passAt tk σ) (pa_cons (pe_ix ix_seq (pv 0) (pv 2) (fun _ _ => rfl)) (pa_cons (pe_ix ix_seq (pv 1) (pv 2) (fun _ _ => rfl)) pa_nil)))))
        (pss_one (ps_ret pe_bl))
        pss_nil)))
    (pss_one (ps_ret pe_bl))))
    pss_nil)
  (pss_cons (ps_if (pt_val (pe_callB call_isi rfl (n_isinstance c) (by decide +kernel) (pa_cons (pv 1) (pa_cons (pe_bltn (v := .ty "bool") (u := .type "bool") rfl (n_bool c) (by decide +kernel) rfl) pa_nil))))
    (pss_one (ps_ret (pe_and (pe_callB call_isi rfl (n_isinstance c) (by decide +kernel) (pa_cons (pv 0) (pa_cons (pe_bltn (v := .ty "bool") (u := .type "bool") rfl (n_bool c) (by decide +kernel) rfl) pa_nil))) (pe_one (pe_cmpR op_eq (pv 0) (pv 1) (nomark _))))))
    pss_nil)
  (pss_cons (ps_if (pt_val (pe_callB call_isi rfl (n_isinstance c) (by decide +kernel) (pa_cons (pv 1) (pa_cons (pe_bltn (v := .ty "int") (u := .type "int") rfl (n_int c) (by decide +kernel) rfl) pa_nil))))
    (pss_one (ps_ret (pe_and (pe_callB call_isi rfl (n_isinstance c) (by decide +kernel) (pa_cons (pv 0) (pa_cons (pe_bltn (v := .ty "int") (u := .type "int") rfl (n_int c) (by decide +kernel) rfl) pa_nil))) (pe_and (pe_not (pe_callB call_isi rfl (n_isinstance c) (by decide +kernel) (pa_cons (pv 0) (pa_cons (pe_bltn (v := .ty "bool") (u := .type "bool") rfl (n_bool c) (by decide +kernel) rfl) pa_nil)))) (pe_one (pe_cmpR op_eq (pv 0) (pv 1) (nomark _)))))))
    pss_nil)
  (pss_cons (ps_if (pt_val (pe_callB call_isi rfl (n_isinstance c) (by decide +kernel) (pa_cons (pv 1) (pa_cons (pe_bltn (v := .ty "str") (u := .type "str") rfl (n_str c) (by decide +kernel) rfl) pa_nil))))
    (pss_one (ps_ret (pe_and (pe_callB call_isi rfl (n_isinstance c) (by decide +kernel) (pa_cons (pv 0) (pa_cons (pe_bltn (v := .ty "str") (u := .type "str") rfl (n_str c) (by decide +kernel) rfl) pa_nil))) (pe_one (pe_cmpR op_eq (pv 0) (pv 1) (nomark _))))))
    pss_nil)
  (pss_one (ps_ret (pe_cmpR op_isN (pv 0) pe_non (nomark _)))))))))), ?_⟩
      clear tk pown hr
      obtain ⟨v, w, d, rfl, hv, hw, hd, k⟩ := h
      dsimp only [L2.start, N__law_same, cxOf, List.map, List.length, Nat.reduceAdd, Nat.reduceSub, List.replicate, List.cons_append, List.nil_append, List.append_nil]
      cases d with
      | ins C ns ds => cases n <;> cases hd
      | adr a => cases n <;> cases hd
      | int i =>
        cases hv
        cases hw
        walk_at "w"
        exact w_bT (Q := Q) (decide_eq_true rfl) k
      | bl i =>
        cases hv
        cases hw
        walk_at "w"
        exact w_bT (Q := Q) (decide_eq_true rfl) k
      | str i =>
        cases hv
        cases hw
        walk_at "w"
        exact w_bT (Q := Q) (decide_eq_true rfl) k
      | non =>
        cases hv
        cases hw
        walk_at "w"
        exact ⟨rfl, k⟩
      | tup ds =>
        cases n with
        | zero => cases hd
        | succ n =>
        have hd0 : (decide (ds.length ≤ 1000000) && ds.all (D.lev n)) = true := hd
        obtain ⟨hdl, hd'⟩ := Bool.and_eq_true_iff.mp hd0
        have hdl := of_decide_eq_true hdl
        have hv0 := hv
        have hw0 := hw
        cases hv with
        | tup q1 r1 =>
        cases hw with
        | tup q2 r2 =>
        rename_i a xs a2 xs2
        have l1 := Reps.len r1
        have l2 := Reps.len r2
        walk_at "w"
        refine w_iteIN (fun e => absurd (by rw [l1, l2]) e) (fun _ => ?_)
        walk_at "w"
        refine w_rRng1N (by omega) ?_
        refine f_rng (fun i σ' H' => ∃ o, σ' = [some (.ref a), some (.ref a2), o] ∧ H' = H) ⟨none, rfl, rfl⟩ ?_ ?_
        · rintro i σ' H' hi ⟨o, rfl, rfl⟩
          rw [Int.zero_add]
          obtain ⟨d, hdi⟩ : ∃ d, ds[i]? = some d := ⟨_, List.getElem?_eq_getElem (by omega)⟩
          obtain ⟨v, hv1, hv2⟩ := reps_get r1 hdi
          obtain ⟨w, hw1, hw2⟩ := reps_get r2 hdi
          walk_at "w"
          refine ⟨v, w, d, rfl, hv2, hw2, List.all_eq_true.mp hd' d (List.mem_of_getElem? hdi), ?_⟩
          walk_at "w"
          exact ⟨_, rfl, rfl⟩
        · rintro σ' H' ⟨o, rfl, rfl⟩
          walk_at "w"
          exact k
      | lst ds =>
        cases n with
        | zero => cases hd
        | succ n =>
        have hd0 : (decide (ds.length ≤ 1000000) && ds.all (D.lev n)) = true := hd
        obtain ⟨hdl, hd'⟩ := Bool.and_eq_true_iff.mp hd0
        have hdl := of_decide_eq_true hdl
        have hv0 := hv
        have hw0 := hw
        cases hv with
        | lst q1 r1 =>
        cases hw with
        | lst q2 r2 =>
        rename_i a xs a2 xs2
        have l1 := Reps.len r1
        have l2 := Reps.len r2
        walk_at "w"
        refine w_iteIN (fun e => absurd (by rw [l1, l2]) e) (fun _ => ?_)
        walk_at "w"
        refine w_rRng1N (by omega) ?_
        refine f_rng (fun i σ' H' => ∃ o, σ' = [some (.ref a), some (.ref a2), o] ∧ H' = H) ⟨none, rfl, rfl⟩ ?_ ?_
        · rintro i σ' H' hi ⟨o, rfl, rfl⟩
          rw [Int.zero_add]
          obtain ⟨d, hdi⟩ : ∃ d, ds[i]? = some d := ⟨_, List.getElem?_eq_getElem (by omega)⟩
          obtain ⟨v, hv1, hv2⟩ := reps_get r1 hdi
          obtain ⟨w, hw1, hw2⟩ := reps_get r2 hdi
          walk_at "w"
          refine ⟨v, w, d, rfl, hv2, hw2, List.all_eq_true.mp hd' d (List.mem_of_getElem? hdi), ?_⟩
          walk_at "w"
          exact ⟨_, rfl, rfl⟩
        · rintro σ' H' ⟨o, rfl, rfl⟩
          walk_at "w"
          exact k
theorem ok__law_same (c : Ctx K mg) : FnOk P w K mg base (L2N.CX P w) 9 (A__law_same K) (fdA K (A__law_same K)) ["_law_actual", "_law_expected"] (sp__law_same K) := okS c 9
theorem okSH (c : Ctx K mg) : ∀ n : Nat, L2H.FnH P w K mg base (L2N.CX P w) n (A__law_same K) (fdA K (A__law_same K)) ["_law_actual", "_law_expected"] (spS n K) := by
  intro n
  induction n with
  | zero => exact ⟨fun _ _ _ _ h => h.elim, fun _ _ _ _ _ _ _ _ _ _ _ _ _ _ _ _ h => h.elim⟩
  | succ n ih =>
    refine okTH (F__law_same c) sc__law_same (fun vs H Q E h => ?_) (fun cdv A outer s H vs Q E p hot hr h tk pown => ?_)
    · obtain ⟨_, _, _, rfl, _⟩ := h; rfl
    · refine ⟨_, (pss_cons (ps_if (PW.pt (pw_and (pt_val (pe_callB call_isi rfl (n_isinstance c) (by decide +kernel) (pa_cons (pv 1) (pa_cons (pe_bltn (v := .ty "tuple") (u := .type "tuple") rfl (n_tuple c) (by decide +kernel) rfl) pa_nil)))) (pw_and1 (pt_not (pt_val (pe_callB call_isi rfl (n_isinstance c) (by decide +kernel) (pa_cons (pv 0) (pa_cons (pe_bltn (v := .ty "tuple") (u := .type "tuple") rfl (n_tuple c) (by decide +kernel) rfl) pa_nil))))))))
    (pss_one (ps_ret pe_bl))
    pss_nil)
  (pss_cons (ps_if (PW.pt (pw_and (pt_val (pe_callB call_isi rfl (n_isinstance c) (by decide +kernel) (pa_cons (pv 1) (pa_cons (pe_bltn (v := .ty "list") (u := .type "list") rfl (n_list c) (by decide +kernel) rfl) pa_nil)))) (pw_and1 (pt_not (pt_val (pe_callB call_isi rfl (n_isinstance c) (by decide +kernel) (pa_cons (pv 0) (pa_cons (pe_bltn (v := .ty "list") (u := .type "list") rfl (n_list c) (by decide +kernel) rfl) pa_nil))))))))
    (pss_one (ps_ret pe_bl))
    pss_nil)
  (pss_cons (ps_if (PW.pt (pw_or (pt_val (pe_callB call_isi rfl (n_isinstance c) (by decide +kernel) (pa_cons (pv 1) (pa_cons (pe_bltn (v := .ty "tuple") (u := .type "tuple") rfl (n_tuple c) (by decide +kernel) rfl) pa_nil)))) (pw_or1 (pt_val (pe_callB call_isi rfl (n_isinstance c) (by decide +kernel) (pa_cons (pv 1) (pa_cons (pe_bltn (v := .ty "list") (u := .type "list") rfl (n_list c) (by decide +kernel) rfl) pa_nil)))))))
    (pss_cons (ps_if (pt_cmpR op_ne (pe_callB cr_len rfl (n_len c) (by decide +kernel) (pa_cons (pv 0) pa_nil)) (pe_callB cr_len rfl (n_len c) (by decide +kernel) (pa_cons (pv 1) pa_nil)) (nomark _))
      (pss_one (ps_ret pe_bl))
      pss_nil)
    (pss_cons (L2H.ps_forH pown ⟨p, hot, List.mem_singleton.mpr rfl⟩ (L2H.pi_range1H rfl (n_range c) (pa_cons (pe_callB cr_len rfl (n_len c) (by decide +kernel) (pa_cons (pv 1) pa_nil)) pa_nil)) (pg_name (i := 2) sc__law_same.nd rfl (Or.inl rfl))
      (pss_one (ps_if (pt_not (pt_val (L2H.pe_callH ih hr ⟨p, hot, List.mem_singleton.mpr rfl⟩ rfl (g__law_same c) (F__law_same c).kp (b__law_same c) (fun σ => L2N.passAt tk σ) (pa_cons (pe_ix ix_seq (pv 0) (pv 2) (fun _ _ => rfl)) (pa_cons (pe_ix ix_seq (pv 1) (pv 2) (fun _ _ => rfl)) pa_nil)))))
        (pss_one (ps_ret pe_bl))
        pss_nil)))
    (pss_one (ps_ret pe_bl))))
    pss_nil)
  (pss_cons (ps_if (pt_val (pe_callB call_isi rfl (n_isinstance c) (by decide +kernel) (pa_cons (pv 1) (pa_cons (pe_bltn (v := .ty "bool") (u := .type "bool") rfl (n_bool c) (by decide +kernel) rfl) pa_nil))))
    (pss_one (ps_ret (pe_and (pe_callB call_isi rfl (n_isinstance c) (by decide +kernel) (pa_cons (pv 0) (pa_cons (pe_bltn (v := .ty "bool") (u := .type "bool") rfl (n_bool c) (by decide +kernel) rfl) pa_nil))) (pe_one (pe_cmpR op_eq (pv 0) (pv 1) (nomark _))))))
    pss_nil)
  (pss_cons (ps_if (pt_val (pe_callB call_isi rfl (n_isinstance c) (by decide +kernel) (pa_cons (pv 1) (pa_cons (pe_bltn (v := .ty "int") (u := .type "int") rfl (n_int c) (by decide +kernel) rfl) pa_nil))))
    (pss_one (ps_ret (pe_and (pe_callB call_isi rfl (n_isinstance c) (by decide +kernel) (pa_cons (pv 0) (pa_cons (pe_bltn (v := .ty "int") (u := .type "int") rfl (n_int c) (by decide +kernel) rfl) pa_nil))) (pe_and (pe_not (pe_callB call_isi rfl (n_isinstance c) (by decide +kernel) (pa_cons (pv 0) (pa_cons (pe_bltn (v := .ty "bool") (u := .type "bool") rfl (n_bool c) (by decide +kernel) rfl) pa_nil)))) (pe_one (pe_cmpR op_eq (pv 0) (pv 1) (nomark _)))))))
    pss_nil)
  (pss_cons (ps_if (pt_val (pe_callB call_isi rfl (n_isinstance c) (by decide +kernel) (pa_cons (pv 1) (pa_cons (pe_bltn (v := .ty "str") (u := .type "str") rfl (n_str c) (by decide +kernel) rfl) pa_nil))))
    (pss_one (ps_ret (pe_and (pe_callB call_isi rfl (n_isinstance c) (by decide +kernel) (pa_cons (pv 0) (pa_cons (pe_bltn (v := .ty "str") (u := .type "str") rfl (n_str c) (by decide +kernel) rfl) pa_nil))) (pe_one (pe_cmpR op_eq (pv 0) (pv 1) (nomark _))))))
    pss_nil)
  (pss_one (ps_ret (pe_cmpR op_isN (pv 0) pe_non (nomark _)))))))))), ?_⟩
      clear tk pown hr
      obtain ⟨v, w, d, rfl, hv, hw, hd, k⟩ := h
      dsimp only [L2.start, N__law_same, cxOf, L2H.cxH, List.map, List.length, Nat.reduceAdd, Nat.reduceSub, List.replicate, List.cons_append, List.nil_append, List.append_nil]
      cases d with
      | ins C ns ds => cases n <;> cases hd
      | adr a => cases n <;> cases hd
      | int i =>
        cases hv
        cases hw
        walk_at "w"
        exact w_bT (Q := Q) (decide_eq_true rfl) k
      | bl i =>
        cases hv
        cases hw
        walk_at "w"
        exact w_bT (Q := Q) (decide_eq_true rfl) k
      | str i =>
        cases hv
        cases hw
        walk_at "w"
        exact w_bT (Q := Q) (decide_eq_true rfl) k
      | non =>
        cases hv
        cases hw
        walk_at "w"
        exact ⟨rfl, k⟩
      | tup ds =>
        cases n with
        | zero => cases hd
        | succ n =>
        have hd0 : (decide (ds.length ≤ 1000000) && ds.all (D.lev n)) = true := hd
        obtain ⟨hdl, hd'⟩ := Bool.and_eq_true_iff.mp hd0
        have hdl := of_decide_eq_true hdl
        have hv0 := hv
        have hw0 := hw
        cases hv with
        | tup q1 r1 =>
        cases hw with
        | tup q2 r2 =>
        rename_i a xs a2 xs2
        have l1 := Reps.len r1
        have l2 := Reps.len r2
        walk_at "w"
        refine w_iteIN (fun e => absurd (by rw [l1, l2]) e) (fun _ => ?_)
        walk_at "w"
        refine w_rRng1N (by omega) ?_
        refine f_rng (fun i σ' H' => ∃ o, σ' = [some (.ref a), some (.ref a2), o] ∧ H' = H) ⟨none, rfl, rfl⟩ ?_ ?_
        · rintro i σ' H' hi ⟨o, rfl, rfl⟩
          rw [Int.zero_add]
          obtain ⟨d, hdi⟩ : ∃ d, ds[i]? = some d := ⟨_, List.getElem?_eq_getElem (by omega)⟩
          obtain ⟨v, hv1, hv2⟩ := reps_get r1 hdi
          obtain ⟨w, hw1, hw2⟩ := reps_get r2 hdi
          walk_at "w"
          refine ⟨v, w, d, rfl, hv2, hw2, List.all_eq_true.mp hd' d (List.mem_of_getElem? hdi), ?_⟩
          walk_at "w"
          exact ⟨_, rfl, rfl⟩
        · rintro σ' H' ⟨o, rfl, rfl⟩
          walk_at "w"
          exact k
      | lst ds =>
        cases n with
        | zero => cases hd
        | succ n =>
        have hd0 : (decide (ds.length ≤ 1000000) && ds.all (D.lev n)) = true := hd
        obtain ⟨hdl, hd'⟩ := Bool.and_eq_true_iff.mp hd0
        have hdl := of_decide_eq_true hdl
        have hv0 := hv
        have hw0 := hw
        cases hv with
        | lst q1 r1 =>
        cases hw with
        | lst q2 r2 =>
        rename_i a xs a2 xs2
        have l1 := Reps.len r1
        have l2 := Reps.len r2
        walk_at "w"
        refine w_iteIN (fun e => absurd (by rw [l1, l2]) e) (fun _ => ?_)
        walk_at "w"
        refine w_rRng1N (by omega) ?_
        refine f_rng (fun i σ' H' => ∃ o, σ' = [some (.ref a), some (.ref a2), o] ∧ H' = H) ⟨none, rfl, rfl⟩ ?_ ?_
        · rintro i σ' H' hi ⟨o, rfl, rfl⟩
          rw [Int.zero_add]
          obtain ⟨d, hdi⟩ : ∃ d, ds[i]? = some d := ⟨_, List.getElem?_eq_getElem (by omega)⟩
          obtain ⟨v, hv1, hv2⟩ := reps_get r1 hdi
          obtain ⟨w, hw1, hw2⟩ := reps_get r2 hdi
          walk_at "w"
          refine ⟨v, w, d, rfl, hv2, hw2, List.all_eq_true.mp hd' d (List.mem_of_getElem? hdi), ?_⟩
          walk_at "w"
          exact ⟨_, rfl, rfl⟩
        · rintro σ' H' ⟨o, rfl, rfl⟩
          walk_at "w"
          exact k
theorem okHS__law_same (c : Ctx K mg) : L2H.FnH P w K mg base (L2N.CX P w) 9 (A__law_same K) (fdA K (A__law_same K)) ["_law_actual", "_law_expected"] (sp__law_same K) := okSH c 9
theorem okH__law_same (c : Ctx K mg) : L2H.FnH P w K mg base (L2N.CX P w) 9 (A__law_same K) (fdA K (A__law_same K)) ["_law_actual", "_law_expected"] (spM .A K W0 pf__law_same) := FnH_imp (okHS__law_same c) fun _ _ _ _ h => from_same h
theorem okp__law_same (c : Ctx K mg) : FnOk P w K mg base (L2N.CX P w) 9 (A__law_same K) (fdA K (A__law_same K)) ["_law_actual", "_law_expected"] (spM .A K W0 pf__law_same) := (ok__law_same c).imp fun _ _ _ _ h => from_same h
end
section
variable {P : Program} [PG P] {w : World} {K : PySem.W.Frag} {mg : Str → Option Value} {base : Heap}
theorem ok__law_line (c : Ctx K mg) : FnOk P w K mg base (L2N.CX P w) 10 (A__law_line K) (fdA K (A__law_line K)) ["_law_instructions", "_law_by_text"] (spM .A K W0 (pf__law_line)) := by
  refine okQ (F__law_line c) sc__law_line (fun ω ds Q E h => ?_) (fun cdv A outer s0 H E hr tk pown => (qss_cons (qs_set (i := 2) sc__law_line.nd rfl (Or.inl rfl) (qe_cT cr_list listP rfl (n_list c) (by decide +kernel) (qa_cons (qe_va (pv 0)) qa_nil)))
  (qss_cons (qs_try (K := K) rfl rfl rfl tk (fun W pn xe tk pown => (qss_one (qs_if (qb_val (qe_va (pv 1)))
        (qss_one (qs_expr (qe_cmeth (qe_adr (pe_glob (v := .ref (He.ga K "Program")) rfl (g_Program c) rfl)) (cr_Program c) (cm_Program_read c) (rawF (ok_Program_read (P := P) c) (b_Program_read c)) (hr.mono (by decide)) (fun σ => L2N.passAt tk σ) (qa_cons (qe_sm PySem.F.slot_str_join PySem.F.type_str_join mt_join joinP qe_str (qe_va (pv 0))) qa_nil))))
        (qss_one (qs_expr (qe_make (qe_adr (pe_glob (v := .ref (He.ga K "Program")) rfl (g_Program c) rfl)) (mk_Program c) (rawF (ok_Program___init__ (P := P) c) (b_Program___init__ c)) (mkp_Program c) (hr.mono (by decide)) (fun σ => L2N.passAt tk σ) (qa_cons (qe_va (pv 2)) qa_nil)))))))
    (QHd.as_ (i := 3) sc__law_line.nd rfl rfl ⟨rfl, by decide, Or.inl (g_BadProgram c)⟩ (fun a oe d pn x hz hf => (qss_cons (qs_if (QW.toB (qw_or (qb_val (qe_isE (K := K) rfl (i := 3) hz hf rfl (n_isinstance c) (pv 3) (pe_glob (v := .ref (He.ga K "BadInstruction")) rfl (g_BadInstruction c) rfl))) (qw_or (qb_not (qb_val (qe_isE (K := K) rfl (i := 3) hz hf rfl (n_isinstance c) (pv 3) (pe_glob (v := .ref (He.ga K "HallError")) rfl (g_HallError c) rfl)))) (qw_or1 (qb_not (qb_val (qe_callH (okH__law_same (P := P) c) (roomH_s (hr.mono (by decide))) (hotc hz hf) rfl (g__law_same c) (F__law_same c).kp (b__law_same c) passN (qa_cons (qe_va (pv 2)) (qa_cons (qe_va (pv 0)) qa_nil)))))))))
        (qss_one (qs_ret (qe_un un_neg un_negP qe_int)))
        qss_nil)
      (qss_cons (qs_if (QW.toB (qw_or (qb_not (qb_val (qe_isiT rfl (n_isinstance c) (qe_fldE (xf_BadProgram_line c).1 (xf_BadProgram_line c).2 hz hf (pv 3)) (pe_bltn (v := .ty "int") (u := .type "int") rfl (n_int c) (by decide +kernel) rfl)))) (qw_or1 (qb_val (qe_isiT rfl (n_isinstance c) (qe_fldE (xf_BadProgram_line c).1 (xf_BadProgram_line c).2 hz hf (pv 3)) (pe_bltn (v := .ty "bool") (u := .type "bool") rfl (n_bool c) (by decide +kernel) rfl))))))
        (qss_one (qs_ret (qe_un un_neg un_negP qe_int)))
        qss_nil)
      (qss_one (qs_ret (qe_fldE (xf_BadProgram_line c).1 (xf_BadProgram_line c).2 hz hf (pv 3)))))))
    (QHd.only ⟨rfl, by decide, Or.inl (g_HallError c)⟩ (fun a oe d pn x hz hf => (qss_one (qs_ret (qe_un un_neg un_negP qe_int))))
    QHd.nil)))
  (qss_one (qs_ret (qe_un un_neg un_negP qe_int)))))) (fun ω ds Q E h => ?_)
  · first | (obtain ⟨rfl, _⟩ := h; rfl) | (obtain ⟨_, rfl, _⟩ := h; rfl) | (obtain ⟨_, _, rfl, _⟩ := h; rfl) | (obtain ⟨_, _, _, rfl, _⟩ := h; rfl) | (obtain ⟨_, _, _, _, rfl, _⟩ := h; rfl) | (obtain ⟨_, _, _, _, _, rfl, _⟩ := h; rfl) | (obtain ⟨_, _, _, _, _, _, rfl, _⟩ := h; rfl) | (obtain ⟨_, _, _, _, _, _, _, rfl, _⟩ := h; rfl)
  · skip
    obtain ⟨ts, b, rfl, h1, h2, h3, Qk⟩ := h
    walk_at "v"
    cases b
    · walk_at "v"
      refine v_progX h1 h2 ⟨fun hg => ⟨pure_progX ts, ?_⟩, ?_⟩
      · walk_at "v"
        rw [told, hg] at Qk
        exact Qk
      · intro l hl
        refine v_hd (xm_BadProgram_BadProgram c) fun a dd => ?_
        walk_at "v"
        refine v_isE rfl (exC_BadProgram c) (kit_BadProgram_BadInstruction c) ?_
        walk_at "v"
        refine v_isE rfl (exC_BadProgram c) (kit_BadProgram_HallError c) ?_
        walk_at "v"
        refine v_same rfl (lev_lstS (by omega)) ?_
        walk_at "v"
        refine v_fldE rfl rfl rfl ?_
        refine v_isInt ?_
        walk_at "v"
        refine v_fldE rfl rfl rfl ?_
        refine v_isIntB ?_
        walk_at "v"
        refine v_fldE rfl rfl rfl ?_
        walk_at "v"
        rw [told, hl] at Qk
        exact Qk
    · walk_at "v"
      obtain ⟨h4, h5⟩ := h3 rfl
      refine v_joinL (Nat.le_trans (join_lenX h1 h2) (by decide)) ?_
      walk_at "v"
      refine v_readX h4 h1 h2 h5 ⟨fun hg => ?_, ?_⟩
      · walk_at "v"
        rw [told, hg] at Qk
        exact Qk
      · intro l hl
        refine v_hd (xm_BadProgram_BadProgram c) fun a dd => ?_
        walk_at "v"
        refine v_isE rfl (exC_BadProgram c) (kit_BadProgram_BadInstruction c) ?_
        walk_at "v"
        refine v_isE rfl (exC_BadProgram c) (kit_BadProgram_HallError c) ?_
        walk_at "v"
        refine v_same rfl (lev_lstS (by omega)) ?_
        walk_at "v"
        refine v_fldE rfl rfl rfl ?_
        refine v_isInt ?_
        walk_at "v"
        refine v_fldE rfl rfl rfl ?_
        refine v_isIntB ?_
        walk_at "v"
        refine v_fldE rfl rfl rfl ?_
        walk_at "v"
        rw [told, hl] at Qk
        exact Qk
end
def pf__law_near (K : PySem.W.Frag) : PSp (WT K) := fun ω ds Q _ => ∃ (t : Addr) (b L : Nat), ω = TS.tape t b ∧ ds = [.adr t, .int L] ∧ b < 10000000 ∧ 1 ≤ L ∧ L ≤ 24 ∧ ∀ (b' : Nat) (x : Str), b' ≤ b + 30 → x.length ≤ 110 → Q (TS.tape t b') (.str x)
theorem v_near {K : PySem.W.Frag} {t : Addr} {b L : Nat} {Q : TS → D → Prop} {E : TS → Exn → Prop} (hb : b < 10000000) (h1 : 1 ≤ L) (h2 : L ≤ 24) (h : ∀ (b' : Nat) (x : Str), b' ≤ b + 30 → x.length ≤ 110 → Q (TS.tape t b') (.str x)) : pf__law_near K (TS.tape t b) [.adr t, .int L] Q E := ⟨t, b, L, rfl, rfl, hb, h1, h2, h⟩
section
variable {P : Program} [PG P] {w : World} {K : PySem.W.Frag} {mg : Str → Option Value} {base : Heap}
theorem ok__law_near (c : Ctx K mg) : FnOk P w K mg base (L2N.CX P w) 3 (A__law_near K) (fdA K (A__law_near K)) ["_law_tape", "_law_lines"] (spM .A K (WT K) (pf__law_near K)) := by
  refine okQ (F__law_near c) sc__law_near (fun ω ds Q E h => ?_) (fun cdv A outer s0 H E hr tk pown => (qss_cons (qs_set (i := 2) sc__law_near.nd rfl (Or.inl rfl) qe_str)
  (qss_cons (qs_set (i := 3) sc__law_near.nd rfl (Or.inl rfl) (qe_call (ok__law_instruction (P := P) c) (hr.mono (by decide)) rfl (g__law_instruction c) (F__law_instruction c).kp (b__law_instruction c) (fun σ => L2N.passAt tk σ) (qa_cons (qe_va (pv 0)) (qa_cons (qe_va (pv 1)) qa_nil))))
  (qss_cons (qs_for pown rfl (qi_rg1 rfl (n_range c) (qe_call (okp__law_draw (P := P) c) (hr.mono (by decide)) rfl (g__law_draw c) (F__law_draw c).kp (b__law_draw c) (fun σ => L2N.passAt tk σ) (qa_cons (qe_va (pv 0)) (qa_cons qe_int qa_nil)))) (qg_name (i := 4) sc__law_near.nd rfl (Or.inl rfl))
    (qss_cons (qs_set (i := 5) sc__law_near.nd rfl (Or.inl rfl) (qe_call (okp__law_draw (P := P) c) (hr.mono (by decide)) rfl (g__law_draw c) (F__law_draw c).kp (b__law_draw c) (fun σ => L2N.passAt tk σ) (qa_cons (qe_va (pv 0)) (qa_cons (qe_op op_add opI0_int (qe_cB cr_lenS lenSP rfl (n_len c) (by decide +kernel) (qa_cons (qe_va (pv 3)) qa_nil)) qe_int) qa_nil))))
    (qss_cons (qs_set (i := 6) sc__law_near.nd rfl (Or.inl rfl) (qe_ix ix_str ixSP (qe_va (pv 2)) (qe_call (okp__law_draw (P := P) c) (hr.mono (by decide)) rfl (g__law_draw c) (F__law_draw c).kp (b__law_draw c) (fun σ => L2N.passAt tk σ) (qa_cons (qe_va (pv 0)) (qa_cons (qe_cB cr_lenS lenSP rfl (n_len c) (by decide +kernel) (qa_cons (qe_va (pv 2)) qa_nil)) qa_nil))) (fun _ _ => rfl)))
    (qss_one (qs_set (i := 3) sc__law_near.nd rfl (Or.inl rfl) (qe_ix ix_list ixLP (qe_lst (qa_cons (qe_op op_add_str opAddSP (qe_op op_add_str opAddSP (qe_sl C8.sl_txt slSP (qe_va (pv 3)) qo_none (qo_some (qe_va (pv 5)))) (qe_va (pv 6))) (qe_sl C8.sl_txt slSP (qe_va (pv 3)) (qo_some (qe_va (pv 5))) qo_none)) (qa_cons (qe_op op_add_str opAddSP (qe_op op_add_str opAddSP (qe_sl C8.sl_txt slSP (qe_va (pv 3)) qo_none (qo_some (qe_va (pv 5)))) (qe_va (pv 6))) (qe_sl C8.sl_txt slSP (qe_va (pv 3)) (qo_some (qe_op op_add opI0_int (qe_va (pv 5)) qe_int)) qo_none)) (qa_cons (qe_op op_add_str opAddSP (qe_sl C8.sl_txt slSP (qe_va (pv 3)) qo_none (qo_some (qe_va (pv 5)))) (qe_sl C8.sl_txt slSP (qe_va (pv 3)) (qo_some (qe_op op_add opI0_int (qe_va (pv 5)) qe_int)) qo_none)) qa_nil)))) (qe_call (okp__law_draw (P := P) c) (hr.mono (by decide)) rfl (g__law_draw c) (F__law_draw c).kp (b__law_draw c) (fun σ => L2N.passAt tk σ) (qa_cons (qe_va (pv 0)) (qa_cons qe_int qa_nil))) (fun _ _ => rfl)))))))
  (qss_one (qs_ret (qe_va (pv 3)))))))) (fun ω ds Q E h => ?_)
  · first | (obtain ⟨rfl, _⟩ := h; rfl) | (obtain ⟨_, rfl, _⟩ := h; rfl) | (obtain ⟨_, _, rfl, _⟩ := h; rfl) | (obtain ⟨_, _, _, rfl, _⟩ := h; rfl) | (obtain ⟨_, _, _, _, rfl, _⟩ := h; rfl) | (obtain ⟨_, _, _, _, _, rfl, _⟩ := h; rfl) | (obtain ⟨_, _, _, _, _, _, rfl, _⟩ := h; rfl) | (obtain ⟨_, _, _, _, _, _, _, rfl, _⟩ := h; rfl)
  · skip
    obtain ⟨t, b, L, rfl, rfl, hb, l1, l2, Qk⟩ := h
    walk_at "v"
    refine ⟨t, b, L, rfl, rfl, by omega, l1, l2, fun b1 x0 hb1 hi0 => ?_⟩
    have hl0 := hi0.1
    walk_at "v"
    refine v_draw (by omega) (by omega) (by omega) fun n n0 n5 => ?_
    walk_at "v"
    refine v_kFor (fun i ω' ρ => ∃ (b' : Nat) (x sg : Str) (o4 o5 o6 : Sl), b' ≤ b + 4 + 3 * i ∧ x.length ≤ 100 + i ∧ 0 < sg.length ∧ sg.length ≤ 1000 ∧ ω' = TS.tape t b' ∧ ρ = [.va (.adr t), .va (.int L), .va (.str sg), .va (.str x), o4, o5, o6]) ?_ ?_ ?_
    · refine ⟨_, x0, _, _, _, _, by omega, by omega, ?_, ?_, rfl, rfl⟩
      · decide +kernel
      · decide +kernel
    · rintro i d ω' ρ hi ⟨b', x, sg, o4, o5, o6, hb', hx, s0, s1, rfl, rfl⟩
      have hi5 : i < 6 := by
        have := (List.getElem?_eq_some_iff.mp hi).1
        rw [length_dInts] at this
        unfold rgI at this
        rw [List.length_map, List.length_range] at this
        omega
      have sz : 1000000 ≤ sizeLine := by rw [sizeLine_eq]; decide
      have one : ∀ c : Nat, (⟨#[c]⟩ : Str).length = 1 := fun c => rfl
      walk_at "v"
      refine v_lenS (by omega) ?_
      walk_at "v"
      refine v_draw (by omega) (by omega) (by omega) fun a a0 a1 => ?_
      walk_at "v"
      refine v_lenS (by omega) ?_
      walk_at "v"
      refine v_draw (by omega) (by omega) (by omega) fun g g0 g1 => ?_
      refine v_ixS (by omega) g0 (by omega) fun c => ?_
      have t1 := len_slTo (z := x) a0
      have f1 := len_slFrom (z := x) a0
      have f2 := len_slFrom (z := x) (i := a + 1) (by omega)
      walk_at "v"
      refine v_slS (by omega) ?_
      walk_at "v"
      refine v_addS (by (try simp only [Str.length_append, one]); omega) ?_
      walk_at "v"
      refine v_slS (by omega) ?_
      walk_at "v"
      refine v_addS (by (try simp only [Str.length_append, one]); omega) ?_
      walk_at "v"
      refine v_slS (by omega) ?_
      walk_at "v"
      refine v_addS (by (try simp only [Str.length_append, one]); omega) ?_
      walk_at "v"
      refine v_slS (by omega) ?_
      walk_at "v"
      refine v_addS (by (try simp only [Str.length_append, one]); omega) ?_
      walk_at "v"
      refine v_slS (by omega) ?_
      walk_at "v"
      refine v_slS (by omega) ?_
      walk_at "v"
      refine v_addS (by (try simp only [Str.length_append, one]); omega) ?_
      walk_at "v"
      refine v_draw (by omega) (by decide) (by decide) fun q q0 q3 => ?_
      obtain ⟨z, hz, hlz⟩ : ∃ z : Str, atI [D.str (Txt.slice x none (some a) ++ ⟨#[c]⟩ ++ Txt.slice x (some a) none), .str (Txt.slice x none (some a) ++ ⟨#[c]⟩ ++ Txt.slice x (some (a + 1)) none), .str (Txt.slice x none (some a) ++ Txt.slice x (some (a + 1)) none)] q = some (.str z) ∧ z.length ≤ x.length + 1 := by
        rcases (by omega : q = 0 ∨ q = 1 ∨ q = 2) with e | e | e <;> subst e
        · exact ⟨_, rfl, by simp only [Str.length_append, one]; omega⟩
        · exact ⟨_, rfl, by simp only [Str.length_append, one]; omega⟩
        · exact ⟨_, rfl, by simp only [Str.length_append, one]; omega⟩
      refine v_ixL hz ?_
      walk_at "v"
      exact ⟨_, z, sg, _, _, _, by omega, by omega, s0, s1, rfl, rfl⟩
    · rintro ω' ρ ⟨b', x, sg, o4, o5, o6, hb', hx, s0, s1, rfl, rfl⟩
      have hn : (dInts (rgI 0 n)).length ≤ 5 := by
        rw [length_dInts]
        unfold rgI
        rw [List.length_map, List.length_range]
        omega
      walk_at "v"
      exact Qk _ _ (by omega) (by omega)
end
section
variable {P : Program} [PG P] {w : World} {K : PySem.W.Frag} {mg : Str → Option Value} {base : Heap}
theorem ok__law_all_instructions (c : Ctx K mg) : FnOk P w K mg base (L2N.CX P w) 1 (A__law_all_instructions K) (fdA K (A__law_all_instructions K)) ["_law_lines"] (spM .F K W0 (pf__law_all_instructions)) := by
  refine okQ (F__law_all_instructions c) sc__law_all_instructions (fun ω ds Q E h => ?_) (fun cdv A outer s0 H E hr tk pown => (qss_cons (qs_setO (i := 1) sc__law_all_instructions.nd rfl (Or.inl rfl) (qe_lst (qa_cons qe_str (qa_cons qe_str (qa_cons qe_str (qa_cons qe_str (qa_cons qe_str (qa_cons qe_str (qa_cons qe_str (qa_cons qe_str qa_nil))))))))))
  (qss_cons (qs_for pown rfl (qi_rg1 rfl (n_range c) (qe_va (pv 0))) (qg_name (i := 2) sc__law_all_instructions.nd rfl (Or.inl rfl))
    (qss_one (qs_app (i := 1) rfl (pv 1) (qe_op op_add_str opAddSP qe_str (qe_cT cr_strI strIP rfl (n_str c) (by decide +kernel) (qa_cons (qe_va (pv 2)) qa_nil))))))
  (qss_cons (qs_for pown rfl (qi_lst (qe_lst (qa_cons qe_str (qa_cons qe_str (qa_cons qe_str (qa_cons qe_str (qa_cons qe_str (qa_cons qe_str (qa_cons qe_str (qa_cons qe_str qa_nil)))))))))) (qg_name (i := 3) sc__law_all_instructions.nd rfl (Or.inl rfl))
    (qss_cons (qs_app (i := 1) rfl (pv 1) (qe_op op_add_str opAddSP qe_str (qe_va (pv 3))))
    (qss_one (qs_for pown rfl (qi_rg1 rfl (n_range c) (qe_va (pv 0))) (qg_name (i := 2) sc__law_all_instructions.nd rfl (Or.inl rfl))
      (qss_cons (qs_app (i := 1) rfl (pv 1) (qe_op op_add_str opAddSP (qe_op op_add_str opAddSP (qe_op op_add_str opAddSP qe_str (qe_va (pv 3))) qe_str) (qe_cT cr_strI strIP rfl (n_str c) (by decide +kernel) (qa_cons (qe_va (pv 2)) qa_nil))))
      (qss_one (qs_app (i := 1) rfl (pv 1) (qe_op op_add_str opAddSP (qe_op op_add_str opAddSP (qe_op op_add_str opAddSP qe_str (qe_va (pv 3))) qe_str) (qe_cT cr_strI strIP rfl (n_str c) (by decide +kernel) (qa_cons (qe_va (pv 2)) qa_nil))))))))))
  (qss_one (qs_retO (i := 1) (pv 1))))))) (fun ω ds Q E h => ?_)
  · first | (obtain ⟨rfl, _⟩ := h; rfl) | (obtain ⟨_, rfl, _⟩ := h; rfl) | (obtain ⟨_, _, rfl, _⟩ := h; rfl) | (obtain ⟨_, _, _, rfl, _⟩ := h; rfl) | (obtain ⟨_, _, _, _, rfl, _⟩ := h; rfl) | (obtain ⟨_, _, _, _, _, rfl, _⟩ := h; rfl) | (obtain ⟨_, _, _, _, _, _, rfl, _⟩ := h; rfl) | (obtain ⟨_, _, _, _, _, _, _, rfl, _⟩ := h; rfl)
  · skip
    obtain ⟨L, rfl, l1, l2, Qk⟩ := h
    walk_at "v"
    rename_i l
    have sz : 1000000 ≤ sizeLine := by rw [sizeLine_eq]; decide
    have apd : ∀ (zs : List Str) (x : Str), dStrs zs ++ [D.str x] = dStrs (zs ++ [x]) := fun zs x => by rw [dStrs_one, dStrs_append]
    have lg : ∀ m : Nat, m < L → m.log2 < 1920 := fun m h => by have : m.log2 ≤ m := Nat.log2_le_self m; omega
    refine v_kForR (n := L) (fun i ω' ρ => ∃ (zs : List Str) (o2 : Sl), ρ = [.va (.int L), .ow l (dStrs zs), o2, .no] ∧ zs.length = 8 + i ∧ ∀ t, t ∈ zs ↔ (t ∈ plainW ∨ ∃ n, n < i ∧ t = ("go " : Str) ++ nS n)) ?_ ?_ ?_
    · refine ⟨["rest", "room", "take", "take*", "give", "give*", "on", "on*"], _, rfl, rfl, fun t => ?_⟩
      rw [(show List.Perm (["rest", "room", "take", "take*", "give", "give*", "on", "on*"] : List Str) plainW by decide +kernel).mem_iff]
      constructor
      · exact .inl
      · rintro (z | ⟨n, z, _⟩)
        · exact z
        · omega
    · rintro i ω' ρ hi ⟨zs, o2, rfl, hl, hm⟩
      have hg := (ins_go hi l2).1
      rw [Str.length_append] at hg
      walk_at "v"
      refine v_app rfl (by rw [length_dStrs]; omega) ?_
      walk_at "v"
      refine v_strI (show i.log2 < 1920 from lg i hi) ?_
      refine v_addS (show ("go " : Str).length + (nS i).length ≤ _ by omega) ?_
      walk_at "v"
      refine ⟨zs ++ [("go " : Str) ++ nS i], _, by rw [← apd] <;> rfl, by rw [List.length_append, hl] <;> rfl, fun t => ?_⟩
      rw [List.mem_append, List.mem_singleton, hm]
      constructor
      · rintro ((z | ⟨n, z, rfl⟩) | rfl)
        · exact .inl z
        · exact .inr ⟨n, by omega, rfl⟩
        · exact .inr ⟨i, by omega, rfl⟩
      · rintro (z | ⟨n, z, rfl⟩)
        · exact .inl (.inl z)
        · by_cases y : n = i
          · subst y; exact .inr rfl
          · exact .inl (.inr ⟨n, by omega, rfl⟩)
    rintro ω' ρ ⟨zs, o2, rfl, hl, hm⟩
    walk_at "v"
    refine v_kFor (fun i ω' ρ => ∃ (zs : List Str) (o2 o3 : Sl), ρ = [.va (.int L), .ow l (dStrs zs), o2, o3] ∧ zs.length = 8 + L + i * (1 + 2 * L) ∧ ∀ t, t ∈ zs ↔ (t ∈ plainW ∨ (∃ n, n < L ∧ t = ("go " : Str) ++ nS n) ∨ ∃ j c, j < i ∧ condsW[j]? = some c ∧ (t = ("wait " : Str) ++ c ∨ ∃ n, n < L ∧ (t = ("if " : Str) ++ c ++ " " ++ nS n ∨ t = ("unless " : Str) ++ c ++ " " ++ nS n)))) ?_ ?_ ?_
    · refine ⟨zs, _, _, rfl, by omega, fun t => ?_⟩
      rw [hm]
      constructor
      · rintro (z | z)
        · exact .inl z
        · exact .inr (.inl z)
      · rintro (z | z | ⟨j, _, z, _⟩)
        · exact .inl z
        · exact .inr z
        · omega
    · rintro i d ω' ρ hi ⟨zs, o2, o3, rfl, hl, hm⟩
      obtain ⟨cd, hc, rfl⟩ : ∃ cd, condsW[i]? = some cd ∧ .str cd = d := by
        have hi : (dStrs condsW)[i]? = some d := hi
        unfold dStrs at hi
        rw [List.getElem?_map] at hi
        exact Option.map_eq_some_iff.mp hi
      have hi8 : i < 8 := (List.getElem?_eq_some_iff.mp hc).1
      have hcm := List.mem_of_getElem? hc
      walk_at "v"
      have hw := (ins_wait (L := L) hcm).1
      rw [Str.length_append] at hw
      have b1 : i * (1 + 2 * L) ≤ 7 * 49 := Nat.mul_le_mul (by omega) (by omega)
      refine v_app rfl (by rw [length_dStrs]; omega) ?_
      walk_at "v"
      refine v_addS (by omega) ?_
      walk_at "v"
      refine v_kForR (n := L) (fun m ω' ρ => ∃ (ys : List Str) (o2 : Sl), ρ = [.va (.int L), .ow l (dStrs ys), o2, .va (.str cd)] ∧ ys.length = 8 + L + i * (1 + 2 * L) + 1 + 2 * m ∧ ∀ t, t ∈ ys ↔ (t ∈ zs ∨ t = ("wait " : Str) ++ cd ∨ ∃ n, n < m ∧ (t = ("if " : Str) ++ cd ++ " " ++ nS n ∨ t = ("unless " : Str) ++ cd ++ " " ++ nS n))) ?_ ?_ ?_
      · refine ⟨zs ++ [("wait " : Str) ++ cd], _, by rw [← apd] <;> rfl, by rw [List.length_append, hl] <;> rfl, fun t => ?_⟩
        rw [List.mem_append, List.mem_singleton]
        constructor
        · rintro (z | z)
          · exact .inl z
          · exact .inr (.inl z)
        · rintro (z | z | ⟨n, z, _⟩)
          · exact .inl z
          · exact .inr z
          · omega
      · rintro m ω' ρ hm' ⟨ys, o2, rfl, hly, hmy⟩
        have h1 := (ins_if hm' l2 hcm).1
        have h2 := (ins_unless hm' l2 hcm).1
        have h1' := h1
        have h2' := h2
        simp only [Str.length_append] at h1' h2'
        walk_at "v"
        refine v_app rfl (by rw [length_dStrs]; omega) ?_
        walk_at "v"
        refine v_addS (show ("if " : Str).length + cd.length ≤ _ by omega) ?_
        walk_at "v"
        refine v_addS (show (("if " : Str) ++ cd).length + (" " : Str).length ≤ _ by rw [Str.length_append]; omega) ?_
        walk_at "v"
        refine v_strI (show m.log2 < 1920 from lg m hm') ?_
        refine v_addS (show (("if " : Str) ++ cd ++ " ").length + (nS m).length ≤ _ by rw [Str.length_append, Str.length_append]; omega) ?_
        walk_at "v"
        refine v_app rfl (by rw [List.length_append, length_dStrs]; show ys.length + 1 < _; omega) ?_
        walk_at "v"
        refine v_addS (show ("unless " : Str).length + cd.length ≤ _ by omega) ?_
        walk_at "v"
        refine v_addS (show (("unless " : Str) ++ cd).length + (" " : Str).length ≤ _ by rw [Str.length_append]; omega) ?_
        walk_at "v"
        refine v_strI (show m.log2 < 1920 from lg m hm') ?_
        refine v_addS (show (("unless " : Str) ++ cd ++ " ").length + (nS m).length ≤ _ by rw [Str.length_append, Str.length_append]; omega) ?_
        walk_at "v"
        refine ⟨ys ++ [("if " : Str) ++ cd ++ " " ++ nS m] ++ [("unless " : Str) ++ cd ++ " " ++ nS m], _, by rw [← apd, ← apd] <;> rfl, by rw [List.length_append, List.length_append, hly]; show _ + 1 + 1 = _; omega, fun t => ?_⟩
        rw [List.mem_append, List.mem_append, List.mem_singleton, List.mem_singleton, hmy]
        constructor
        · rintro (((z | z | ⟨n, z, y⟩) | z) | z)
          · exact .inl z
          · exact .inr (.inl z)
          · exact .inr (.inr ⟨n, by omega, y⟩)
          · exact .inr (.inr ⟨m, by omega, .inl z⟩)
          · exact .inr (.inr ⟨m, by omega, .inr z⟩)
        · rintro (z | z | ⟨n, z, y⟩)
          · exact .inl (.inl (.inl z))
          · exact .inl (.inl (.inr (.inl z)))
          · by_cases e : n = m
            · subst e
              rcases y with y | y
              · exact .inl (.inr y)
              · exact .inr y
            · exact .inl (.inl (.inr (.inr ⟨n, by omega, y⟩)))
      · rintro ω' ρ ⟨ys, o2, rfl, hly, hmy⟩
        walk_at "v"
        refine ⟨ys, _, _, rfl, by rw [hly, Nat.add_mul]; omega, fun t => ?_⟩
        rw [hmy, hm]
        constructor
        · rintro ((z | z | ⟨j, c, h1, h2, h3⟩) | z | z)
          · exact .inl z
          · exact .inr (.inl z)
          · exact .inr (.inr ⟨j, c, by omega, h2, h3⟩)
          · exact .inr (.inr ⟨i, cd, by omega, hc, .inl z⟩)
          · exact .inr (.inr ⟨i, cd, by omega, hc, .inr z⟩)
        · rintro (z | z | ⟨j, c, h1, h2, h3⟩)
          · exact .inl (.inl z)
          · exact .inl (.inr (.inl z))
          · by_cases e : j = i
            · subst e
              rw [hc] at h2
              cases h2
              rcases h3 with h3 | h3
              · exact .inr (.inl h3)
              · exact .inr (.inr h3)
            · exact .inl (.inr (.inr ⟨j, c, by omega, h2, h3⟩))
    · rintro ω' ρ ⟨zs, o2, o3, rfl, hl, hm⟩
      walk_at "v"
      have e8 : (condsW.length) = 8 := rfl
      refine Qk zs ?_ fun t => ?_
      · have hl : zs.length = 8 + L + 8 * (1 + 2 * L) := hl
        omega
      rw [hm, mem_allI]
      constructor
      · rintro (z | z | ⟨j, c, h1, h2, h3 | ⟨n, hn, h3⟩⟩)
        · exact .inl z
        · exact .inr (.inl z)
        · exact .inr (.inr (.inl ⟨c, List.mem_of_getElem? h2, h3⟩))
        · exact .inr (.inr (.inr ⟨n, c, hn, List.mem_of_getElem? h2, h3⟩))
      · rintro (z | z | ⟨c, h1, h2⟩ | ⟨n, c, h1, h2, h3⟩)
        · exact .inl z
        · exact .inr (.inl z)
        · obtain ⟨j, hj⟩ := List.getElem?_of_mem h1
          exact .inr (.inr ⟨j, c, (List.getElem?_eq_some_iff.mp hj).1, hj, .inl h2⟩)
        · obtain ⟨j, hj⟩ := List.getElem?_of_mem h2
          exact .inr (.inr ⟨j, c, (List.getElem?_eq_some_iff.mp hj).1, hj, .inr ⟨n, h1, h3⟩⟩)
end
theorem rep_rest (n : Int) : (rgI 0 n).map (fun _ => D.str "rest") = dStrs (List.replicate n.toNat "rest") := by
  unfold rgI dStrs
  rw [List.map_map, List.map_replicate]
  apply List.ext_getElem
  · simp
  · intro i h1 h2; simp
theorem rgI_len0 (n : Int) : (rgI 0 n).length = n.toNat := by unfold rgI; simp
theorem cutS_to {ys : List Str} {p : Nat} : cutD (dStrs ys) none (some (p : Int)) = dStrs (ys.take p) := by
  unfold cutD
  rw [HT.sIx_nat, HT.sIx_none, List.drop_zero, Nat.sub_zero]
  unfold dStrs
  rw [List.map_take]
  exact List.take_eq_take_iff.mpr (by omega)
theorem cutS_from {ys : List Str} {p : Nat} : cutD (dStrs ys) (some (p : Int)) none = dStrs (ys.drop p) := by
  unfold cutD
  rw [HT.sIx_nat, HT.sIx_none]
  unfold dStrs
  rw [List.map_drop]
  generalize ys.map D.str = ds
  by_cases h : p ≤ ds.length
  · rw [Nat.min_eq_left h, List.take_of_length_le (by rw [List.length_drop]; omega)]
  · rw [Nat.min_eq_right (by omega), Nat.sub_self, List.take_zero, List.drop_of_length_le (by omega)]
theorem fine_e : Fine [("" : Str)] := ⟨by decide, by decide, fun t ht => by rw [List.mem_singleton.mp ht]; exact ⟨by decide, by decide +kernel⟩⟩
theorem told_e : told [("" : Str)] = 0 := told_zero (by decide) (by decide) (by decide +kernel)
theorem fine_re : Fine [("rest" : Str), ""] := ⟨by decide, by decide, fun t ht => by
  rcases List.mem_cons.mp ht with z | z
  · rw [z]; exact ⟨by decide, by decide +kernel⟩
  · rw [List.mem_singleton.mp z]; exact ⟨by decide, by decide +kernel⟩⟩
theorem told_re : told [("rest" : Str), ""] = 1 := told_at (a := 1) (by decide) (by decide) (by decide) (lineBad (by decide +kernel)) fun j hj => by
  have : j = 0 := by omega
  subst this
  exact lineOk_all (by decide +kernel) (by decide) (.inr rfl)
theorem WL.bad_set {L p : Nat} {ts : List Str} {g : Str} (W : WL L ts) (hg : g ∈ allI L) (h0 : p ≠ 0 ∨ g = "rest") : badLine (ts.set p g) = none := by
  have l1 := W.l1
  have l2 := W.l2
  have e : (ts.set p g).length = L := by rw [List.length_set, W.len]
  refine badLine_none (by omega) (by omega) fun j hj => ?_
  rw [e, getD_set]
  split
  · rename_i h
    rw [← h.1]
    exact lineOk_all hg l2 h0
  · exact W.ok (by omega)
theorem WL.good {L p : Nat} {ts : List Str} {g : Str} (W : WL L ts) (hg : g ∈ allI L) : badLine ((ts.set p g).set 0 "rest") = none := by
  have l1 := W.l1
  have l2 := W.l2
  have e : ((ts.set p g).set 0 ("rest" : Str)).length = L := by rw [List.length_set, List.length_set, W.len]
  refine badLine_none (by omega) (by omega) fun j hj => ?_
  rw [e, getD_set]
  split
  · exact lineOk_all (by rw [mem_allI]; exact .inl (by decide +kernel)) l2 (.inr rfl)
  · rename_i h
    rw [List.length_set, W.len] at h
    rw [getD_set]
    split
    · exact lineOk_all hg l2 (.inl (by omega))
    · exact W.ok (by omega)
theorem semi_out {L : Nat} (hL : L ≤ 24) {a b : Str} : (a ++ ("; " : Str) ++ b) ∉ allI L := fun h => by
  obtain ⟨_, _, _, _, _, _, hn⟩ := ins_all hL h
  have z := nosc_not hn
  rw [TL.tl_append, TL.tl_append, show TL.tl ("; " : Str) = [59, 32] by decide +kernel] at z
  simp at z
theorem WL.near {L p : Nat} {ts : List Str} {x : Str} (W : WL L ts) (hp : p < L) (h : ¬ (x ∈ allI L ∧ (p ≠ 0 ∨ x = "rest"))) : told (ts.set p x) = p := by
  by_cases hx : x ∈ allI L
  · have e0 : p = 0 := Classical.byContradiction fun z => h ⟨hx, .inl z⟩
    have ex : x ≠ "rest" := fun z => h ⟨hx, .inr z⟩
    subst e0
    have l1 := W.l1
    have l2 := W.l2
    have ln := W.len
    rw [told_zero (by rw [List.length_set]; omega) (by rw [List.length_set]; omega) (by rw [getD_set, if_pos ⟨rfl, by omega⟩]; exact ex)] <;> rfl
  · exact W.spoiled hp hx
theorem atI_S {ts : List Str} {i : Nat} (h : i < ts.length) : ∃ t, t ∈ ts ∧ atI (dStrs ts) (i : Int) = some (.str t) :=
  ⟨ts[i], List.getElem_mem h, atI_nat (by unfold dStrs; rw [List.getElem?_map, List.getElem?_eq_getElem h] <;> rfl)⟩
theorem WL.insT {L p : Nat} {ts : List Str} (W : WL L ts) (n : Int) (n0 : 0 ≤ n) (n5 : n < 5) : ∃ g : Str, atI [D.str "rest", .str (("go " : Str) ++ nS (L - 1)), .str "wait none", .str "if none 0", .str "unless full 0"] n = some (.str g) ∧ g ∈ allI L := by
  have l1 := W.l1
  rcases (by omega : n = 0 ∨ n = 1 ∨ n = 2 ∨ n = 3 ∨ n = 4) with e | e | e | e | e <;> subst e
  · exact ⟨_, rfl, mem_allI.mpr (.inl (by decide +kernel))⟩
  · exact ⟨_, rfl, mem_allI.mpr (.inr (.inl ⟨L - 1, by omega, rfl⟩))⟩
  · exact ⟨_, rfl, mem_allI.mpr (.inr (.inr (.inl ⟨"none", by decide +kernel, by decide +kernel⟩)))⟩
  · exact ⟨_, rfl, mem_allI.mpr (.inr (.inr (.inr ⟨0, "none", by omega, by decide +kernel, .inl (by decide +kernel)⟩)))⟩
  · exact ⟨_, rfl, mem_allI.mpr (.inr (.inr (.inr ⟨0, "full", by omega, by decide +kernel, .inr (by decide +kernel)⟩)))⟩
section
variable {P : Program} [PG P] {w : World} {K : PySem.W.Frag} {mg : Str → Option Value} {base : Heap}
theorem ok_law (c : Ctx K mg) : FnOk P w K mg base (L2N.CX P w) 11 (A_law K) (fdA K (A_law K)) ["_law_script"] (spM .A K (WT K) (pf_law K)) := by
  refine okQ (F_law c) sc_law (fun ω ds Q E h => ?_) (fun cdv A outer s0 H E hr tk pown => (qss_cons (qs_set (i := 1) sc_law.nd rfl (Or.inl rfl) (qe_call (okp__law_begin (P := P) c) (hr.mono (by decide)) rfl (g__law_begin c) (F__law_begin c).kp (b__law_begin c) (fun σ => L2N.passAt tk σ) (qa_cons (qe_va (pv 0)) qa_nil)))
  (qss_cons (qs_set (i := 2) sc_law.nd rfl (Or.inl rfl) (qe_call (ok__law_written (P := P) c) (hr.mono (by decide)) rfl (g__law_written c) (F__law_written c).kp (b__law_written c) (fun σ => L2N.passAt tk σ) (qa_cons (qe_va (pv 1)) (qa_cons qe_int qa_nil))))
  (qss_cons (qs_set (i := 3) sc_law.nd rfl (Or.inl rfl) (qe_cB cr_len lenP rfl (n_len c) (by decide +kernel) (qa_cons (qe_va (pv 2)) qa_nil)))
  (qss_cons (qs_set (i := 4) sc_law.nd rfl (Or.inl rfl) (qe_call (okp__law_draw (P := P) c) (hr.mono (by decide)) rfl (g__law_draw c) (F__law_draw c).kp (b__law_draw c) (fun σ => L2N.passAt tk σ) (qa_cons (qe_va (pv 1)) (qa_cons (qe_va (pv 3)) qa_nil))))
  (qss_cons (qs_set (i := 5) sc_law.nd rfl (Or.inl rfl) (qe_call (okp__law_draw (P := P) c) (hr.mono (by decide)) rfl (g__law_draw c) (F__law_draw c).kp (b__law_draw c) (fun σ => L2N.passAt tk σ) (qa_cons (qe_va (pv 1)) (qa_cons (qe_va (pv 3)) qa_nil))))
  (qss_cons (qs_setO (i := 6) sc_law.nd rfl (Or.inl rfl) (qe_cT cr_list listP rfl (n_list c) (by decide +kernel) (qa_cons (qe_va (pv 2)) qa_nil)))
  (qss_cons (qs_put (i := 6) rfl (qe_call (ok__law_fault (P := P) c) (hr.mono (by decide)) rfl (g__law_fault c) (F__law_fault c).kp (b__law_fault c) (fun σ => L2N.passAt tk σ) (qa_cons (qe_va (pv 1)) (qa_cons (qe_va (pv 3)) qa_nil))) (pv 6) (qe_va (pv 4)))
  (qss_cons (qs_setO (i := 7) sc_law.nd rfl (Or.inl rfl) (qe_cT cr_list listP rfl (n_list c) (by decide +kernel) (qa_cons (qe_v (pv 6)) qa_nil)))
  (qss_cons (qs_put (i := 7) rfl (qe_call (ok__law_fault (P := P) c) (hr.mono (by decide)) rfl (g__law_fault c) (F__law_fault c).kp (b__law_fault c) (fun σ => L2N.passAt tk σ) (qa_cons (qe_va (pv 1)) (qa_cons (qe_va (pv 3)) qa_nil))) (pv 7) (qe_va (pv 5)))
  (qss_cons (qs_setO (i := 8) sc_law.nd rfl (Or.inl rfl) (qe_cT cr_list listP rfl (n_list c) (by decide +kernel) (qa_cons (qe_va (pv 2)) qa_nil)))
  (qss_cons (qs_put (i := 8) rfl (qe_ix ix_list ixLP (qe_lst (qa_cons qe_str (qa_cons qe_str (qa_cons qe_str (qa_cons qe_str (qa_cons qe_str (qa_cons qe_str qa_nil))))))) (qe_call (okp__law_draw (P := P) c) (hr.mono (by decide)) rfl (g__law_draw c) (F__law_draw c).kp (b__law_draw c) (fun σ => L2N.passAt tk σ) (qa_cons (qe_va (pv 1)) (qa_cons qe_int qa_nil))) (fun _ _ => rfl)) (pv 8) qe_int)
  (qss_cons (qs_setLc (i := 9) (own := [("_law_k", 17)]) rfl sc_law.nd rfl rfl (sw_true rfl rfl rfl (by decide +kernel)) (qi_rg1 rfl (n_range c) (qe_op op_add opI0_int qe_int (qe_call (okp__law_draw (P := P) c) (hr.mono (by decide)) rfl (g__law_draw c) (F__law_draw c).kp (b__law_draw c) (fun σ => L2N.passAt tk σ) (qa_cons (qe_va (pv 1)) (qa_cons qe_int qa_nil))))) (blkOk_by (N := N_law) (sc := defScope s_law) (by decide +kernel)) (fun _ _ _ _ _ => (qg_name (i := 17) sc_law.nd rfl (Or.inl rfl))) (fun _ _ _ _ _ => qts_nil) (fun _ _ _ _ _ => qe_str))
  (qss_cons (qs_set (i := 10) sc_law.nd rfl (Or.inl rfl) (qe_op op_catR opCatP (qe_v (pv 6)) (qe_lc (own := [("_law_k", 17)]) rfl sc_law.nd (qi_rg1 rfl (n_range c) (qe_op op_sub opI0_int qe_int (qe_va (pv 3)))) (blkOk_by (N := N_law) (sc := defScope s_law) (by decide +kernel)) (fun _ _ _ _ _ => (qg_name (i := 17) sc_law.nd rfl (Or.inl rfl))) (fun _ _ _ _ _ => qts_nil) (fun _ _ _ _ _ => qe_str))))
  (qss_cons (qs_set (i := 11) sc_law.nd rfl (Or.inl rfl) (qe_op op_catR opCatP (qe_sl sl_list slLP (qe_v (pv 8)) qo_none (qo_some qe_int)) (qe_sl sl_list slLP (qe_v (pv 6)) (qo_some qe_int) qo_none)))
  (qss_cons (qs_for pown rfl (qi_lst (qe_lst (qa_cons qe_bl (qa_cons qe_bl qa_nil)))) (qg_name (i := 12) sc_law.nd rfl (Or.inl rfl))
    (qss_cons (qs_if (QW.toB (qw_or (qb_cmp op_ne opNeP (qe_callO (FnOk.inW (ok__law_line (P := P) c) (WT K)) (hr.mono (by decide)) rfl (g__law_line c) (F__law_line c).kp (b__law_line c) (fun σ => L2N.passAt tk σ) (qa_cons (qe_v (pv 6)) (qa_cons (qe_va (pv 12)) qa_nil))) (qe_va (pv 4)) (nomark _)) (qw_or1 (qb_cmp op_ne opNeP (qe_callO (FnOk.inW (ok__law_line (P := P) c) (WT K)) (hr.mono (by decide)) rfl (g__law_line c) (F__law_line c).kp (b__law_line c) (fun σ => L2N.passAt tk σ) (qa_cons (qe_v (pv 7)) (qa_cons (qe_va (pv 12)) qa_nil))) (qe_cB (cr_min2 rfl) min2P rfl (n_min c) (by decide +kernel) (qa_cons (qe_va (pv 4)) (qa_cons (qe_va (pv 5)) qa_nil))) (nomark _)))))
      (qss_one (qs_ret qe_bl))
      qss_nil)
    (qss_cons (qs_if (QW.toB (qw_or (qb_cmp op_ne opNeP (qe_callO (FnOk.inW (ok__law_line (P := P) c) (WT K)) (hr.mono (by decide)) rfl (g__law_line c) (F__law_line c).kp (b__law_line c) (fun σ => L2N.passAt tk σ) (qa_cons (qe_v (pv 8)) (qa_cons (qe_va (pv 12)) qa_nil))) qe_int (nomark _)) (qw_or (qb_cmp op_ne opNeP (qe_call (FnOk.inW (ok__law_line (P := P) c) (WT K)) (hr.mono (by decide)) rfl (g__law_line c) (F__law_line c).kp (b__law_line c) (fun σ => L2N.passAt tk σ) (qa_cons (qe_va (pv 9)) (qa_cons (qe_va (pv 12)) qa_nil))) (qe_un un_neg un_negP qe_int) (nomark _)) (qw_or1 (qb_cmp op_ne opNeP (qe_call (FnOk.inW (ok__law_line (P := P) c) (WT K)) (hr.mono (by decide)) rfl (g__law_line c) (F__law_line c).kp (b__law_line c) (fun σ => L2N.passAt tk σ) (qa_cons (qe_va (pv 10)) (qa_cons (qe_va (pv 12)) qa_nil))) (qe_un un_neg un_negP qe_int) (nomark _))))))
      (qss_one (qs_ret qe_bl))
      qss_nil)
    (qss_one (qs_if (qb_cmp op_ne opNeP (qe_call (FnOk.inW (ok__law_line (P := P) c) (WT K)) (hr.mono (by decide)) rfl (g__law_line c) (F__law_line c).kp (b__law_line c) (fun σ => L2N.passAt tk σ) (qa_cons (qe_va (pv 11)) (qa_cons (qe_va (pv 12)) qa_nil))) qe_int (nomark _))
      (qss_one (qs_ret qe_bl))
      qss_nil)))))
  (qss_cons (qs_if (QW.toB (qw_or (qb_cmp op_ne opNeP (qe_call (FnOk.inW (ok__law_line (P := P) c) (WT K)) (hr.mono (by decide)) rfl (g__law_line c) (F__law_line c).kp (b__law_line c) (fun σ => L2N.passAt tk σ) (qa_cons (qe_lst qa_nil) (qa_cons qe_bl qa_nil))) (qe_un un_neg un_negP qe_int) (nomark _)) (qw_or (qb_cmp op_ne opNeP (qe_call (FnOk.inW (ok__law_line (P := P) c) (WT K)) (hr.mono (by decide)) rfl (g__law_line c) (F__law_line c).kp (b__law_line c) (fun σ => L2N.passAt tk σ) (qa_cons (qe_lst (qa_cons qe_str qa_nil)) (qa_cons qe_bl qa_nil))) qe_int (nomark _)) (qw_or1 (qb_cmp op_ne opNeP (qe_call (FnOk.inW (ok__law_line (P := P) c) (WT K)) (hr.mono (by decide)) rfl (g__law_line c) (F__law_line c).kp (b__law_line c) (fun σ => L2N.passAt tk σ) (qa_cons (qe_lst (qa_cons qe_str (qa_cons qe_str qa_nil))) (qa_cons qe_bl qa_nil))) qe_int (nomark _))))))
    (qss_one (qs_ret qe_bl))
    qss_nil)
  (qss_cons (qs_setO (i := 13) sc_law.nd rfl (Or.inl rfl) (qe_cT cr_list listP rfl (n_list c) (by decide +kernel) (qa_cons (qe_v (pv 6)) qa_nil)))
  (qss_cons (qs_put (i := 13) rfl (qe_ix ix_list ixLP (qe_lst (qa_cons qe_str (qa_cons (qe_op op_add_str opAddSP qe_str (qe_cT cr_strI strIP rfl (n_str c) (by decide +kernel) (qa_cons (qe_op op_sub opI0_int (qe_va (pv 3)) qe_int) qa_nil))) (qa_cons qe_str (qa_cons qe_str (qa_cons qe_str qa_nil)))))) (qe_call (okp__law_draw (P := P) c) (hr.mono (by decide)) rfl (g__law_draw c) (F__law_draw c).kp (b__law_draw c) (fun σ => L2N.passAt tk σ) (qa_cons (qe_va (pv 1)) (qa_cons qe_int qa_nil))) (fun _ _ => rfl)) (pv 13) (qe_va (pv 4)))
  (qss_cons (qs_put (i := 13) rfl qe_str (pv 13) qe_int)
  (qss_cons (qs_if (qb_not (qb_val (qe_call (FnOk.inW (okp__law_same (P := P) c) (WT K)) (hr.mono (by decide)) rfl (g__law_same c) (F__law_same c).kp (b__law_same c) (fun σ => L2N.passAt tk σ) (qa_cons (qe_fld (qe_make (qe_adr (pe_glob (v := .ref (He.ga K "Program")) rfl (g_Program c) rfl)) (mk_Program c) (rawF (ok_Program___init__ (P := P) c) (b_Program___init__ c)) (mkp_Program c) (hr.mono (by decide)) (fun σ => L2N.passAt tk σ) (qa_cons (qe_v (pv 13)) qa_nil)) (cl_Program c) (na_Program_instructions c)) (qa_cons (qe_cT cr_tuple tupleP rfl (n_tuple c) (by decide +kernel) (qa_cons (qe_v (pv 13)) qa_nil)) qa_nil)))))
    (qss_one (qs_ret qe_bl))
    qss_nil)
  (qss_cons (qs_if (qb_not (qb_val (qe_call (FnOk.inW (okp__law_same (P := P) c) (WT K)) (hr.mono (by decide)) rfl (g__law_same c) (F__law_same c).kp (b__law_same c) (fun σ => L2N.passAt tk σ) (qa_cons (qe_fld (qe_cmeth (qe_adr (pe_glob (v := .ref (He.ga K "Program")) rfl (g_Program c) rfl)) (cr_Program c) (cm_Program_read c) (FnR.inW (rawF (ok_Program_read (P := P) c) (b_Program_read c)) (WT K)) (hr.mono (by decide)) (fun σ => L2N.passAt tk σ) (qa_cons (qe_sm PySem.F.slot_str_join PySem.F.type_str_join mt_join joinP qe_str (qe_v (pv 13))) qa_nil)) (cl_Program c) (na_Program_instructions c)) (qa_cons (qe_cT cr_tuple tupleP rfl (n_tuple c) (by decide +kernel) (qa_cons (qe_v (pv 13)) qa_nil)) qa_nil)))))
    (qss_one (qs_ret qe_bl))
    qss_nil)
  (qss_cons (qs_setO (i := 14) sc_law.nd rfl (Or.inl rfl) (qe_cT cr_list listP rfl (n_list c) (by decide +kernel) (qa_cons (qe_va (pv 2)) qa_nil)))
  (qss_cons (qs_put (i := 14) rfl (qe_op op_add_str opAddSP (qe_op op_add_str opAddSP (qe_ix ix_list ixLP (qe_v (pv 14)) (qe_va (pv 4)) (fun _ _ => rfl)) qe_str) (qe_ix ix_list ixLP (qe_v (pv 14)) (qe_va (pv 5)) (fun _ _ => rfl))) (pv 14) (qe_va (pv 4)))
  (qss_cons (qs_if (qb_cmp op_ne opNeP (qe_callO (FnOk.inW (ok__law_line (P := P) c) (WT K)) (hr.mono (by decide)) rfl (g__law_line c) (F__law_line c).kp (b__law_line c) (fun σ => L2N.passAt tk σ) (qa_cons (qe_v (pv 14)) (qa_cons qe_bl qa_nil))) (qe_va (pv 4)) (nomark _))
    (qss_one (qs_ret qe_bl))
    qss_nil)
  (qss_cons (qs_set (i := 15) sc_law.nd rfl (Or.inl rfl) (qe_call (ok__law_near (P := P) c) (hr.mono (by decide)) rfl (g__law_near c) (F__law_near c).kp (b__law_near c) (fun σ => L2N.passAt tk σ) (qa_cons (qe_va (pv 1)) (qa_cons (qe_va (pv 3)) qa_nil))))
  (qss_cons (qs_setO (i := 16) sc_law.nd rfl (Or.inl rfl) (qe_cT cr_list listP rfl (n_list c) (by decide +kernel) (qa_cons (qe_va (pv 2)) qa_nil)))
  (qss_cons (qs_put (i := 16) rfl (qe_va (pv 15)) (pv 16) (qe_va (pv 4)))
  (qss_cons (qs_if (QW.toB (qw_and (qb_cmp op_in_seq opInP (qe_va (pv 15)) (qe_call (FnOk.inW (ok__law_all_instructions (P := P) c) (WT K)) (hr.mono (by decide)) rfl (g__law_all_instructions c) (F__law_all_instructions c).kp (b__law_all_instructions c) (fun σ => L2N.passAt tk σ) (qa_cons (qe_va (pv 3)) qa_nil)) (by rfl)) (qw_and1 (QW.toB (qw_or (qb_cmp op_gt opI0_bl (qe_va (pv 4)) qe_int (nomark _)) (qw_or1 (qb_cmp op_eq opEqP (qe_va (pv 15)) qe_str (nomark _))))))))
    (qss_one (qs_ret (qe_and (qe_call (FnOk.inW (okp__law_same (P := P) c) (WT K)) (hr.mono (by decide)) rfl (g__law_same c) (F__law_same c).kp (b__law_same c) (fun σ => L2N.passAt tk σ) (qa_cons (qe_fld (qe_make (qe_adr (pe_glob (v := .ref (He.ga K "Program")) rfl (g_Program c) rfl)) (mk_Program c) (rawF (ok_Program___init__ (P := P) c) (b_Program___init__ c)) (mkp_Program c) (hr.mono (by decide)) (fun σ => L2N.passAt tk σ) (qa_cons (qe_cT cr_list listP rfl (n_list c) (by decide +kernel) (qa_cons (qe_v (pv 16)) qa_nil)) qa_nil)) (cl_Program c) (na_Program_instructions c)) (qa_cons (qe_cT cr_tuple tupleP rfl (n_tuple c) (by decide +kernel) (qa_cons (qe_v (pv 16)) qa_nil)) qa_nil))) (qe_one (qe_call (FnOk.inW (okp__law_same (P := P) c) (WT K)) (hr.mono (by decide)) rfl (g__law_same c) (F__law_same c).kp (b__law_same c) (fun σ => L2N.passAt tk σ) (qa_cons (qe_fld (qe_cmeth (qe_adr (pe_glob (v := .ref (He.ga K "Program")) rfl (g_Program c) rfl)) (cr_Program c) (cm_Program_read c) (FnR.inW (rawF (ok_Program_read (P := P) c) (b_Program_read c)) (WT K)) (hr.mono (by decide)) (fun σ => L2N.passAt tk σ) (qa_cons (qe_sm PySem.F.slot_str_join PySem.F.type_str_join mt_join joinP qe_str (qe_v (pv 16))) qa_nil)) (cl_Program c) (na_Program_instructions c)) (qa_cons (qe_cT cr_tuple tupleP rfl (n_tuple c) (by decide +kernel) (qa_cons (qe_v (pv 16)) qa_nil)) qa_nil)))))))
    qss_nil)
  (qss_cons (qs_if (QW.toB (qw_and (qb_cmp op_notIn_str opNotInSP qe_str (qe_va (pv 15)) (by rfl)) (qw_and1 (qb_cmp op_ne opNeP (qe_callO (FnOk.inW (ok__law_line (P := P) c) (WT K)) (hr.mono (by decide)) rfl (g__law_line c) (F__law_line c).kp (b__law_line c) (fun σ => L2N.passAt tk σ) (qa_cons (qe_v (pv 16)) (qa_cons qe_bl qa_nil))) (qe_va (pv 4)) (nomark _)))))
    (qss_one (qs_ret qe_bl))
    qss_nil)
  (qss_one (qs_ret (qe_cmp op_eq opEqP (qe_callO (FnOk.inW (ok__law_line (P := P) c) (WT K)) (hr.mono (by decide)) rfl (g__law_line c) (F__law_line c).kp (b__law_line c) (fun σ => L2N.passAt tk σ) (qa_cons (qe_v (pv 16)) (qa_cons qe_bl qa_nil))) (qe_va (pv 4)) (nomark _)))))))))))))))))))))))))))))))))) (fun ω ds Q E h => ?_)
  · first | (obtain ⟨rfl, _⟩ := h; rfl) | (obtain ⟨_, rfl, _⟩ := h; rfl) | (obtain ⟨_, _, rfl, _⟩ := h; rfl) | (obtain ⟨_, _, _, rfl, _⟩ := h; rfl) | (obtain ⟨_, _, _, _, rfl, _⟩ := h; rfl) | (obtain ⟨_, _, _, _, _, rfl, _⟩ := h; rfl) | (obtain ⟨_, _, _, _, _, _, rfl, _⟩ := h; rfl) | (obtain ⟨_, _, _, _, _, _, _, rfl, _⟩ := h; rfl)
  · skip
    obtain ⟨a, ns, rfl, rfl, Qk⟩ := h
    walk_at "v"
    refine v_begin fun t => ?_
    walk_at "v"
    refine ⟨t, 0, 24, rfl, rfl, by decide, by decide, by decide, fun b L ts hb h1 h2 hw => ?_⟩
    have W : WL L ts := ⟨h1, h2, hw.1, hw.2.1, hw.2.2⟩
    have dset : ∀ (ys : List Str) (i : Nat) (x : Str), (dStrs ys).set i (.str x) = dStrs (ys.set i x) := fun ys i x => (List.map_set ..).symm
    have ixn : ∀ (ys : List Str) (i : Nat), i < ys.length → ixN (dStrs ys).length (i : Int) = some i := fun ys i h => ixN_nat (by omega) (by rw [length_dStrs]; omega)
    walk_at "v"
    rw [length_dStrs, W.len]
    refine v_draw (by omega) (by omega) (by omega) fun p p0 p1 => ?_
    obtain ⟨p, rfl⟩ : ∃ n : Nat, p = n := ⟨p.toNat, by omega⟩
    walk_at "v"
    refine v_draw (by omega) (by omega) (by omega) fun o o0 o1 => ?_
    obtain ⟨o, rfl⟩ : ∃ n : Nat, o = n := ⟨o.toNat, by omega⟩
    have hp : p < L := by omega
    have ho : o < L := by omega
    walk_at "v"
    refine v_fault (by omega) h1 h2 fun b2 x hb2 hx => ?_
    walk_at "v"
    refine v_kPut2 (i := (p : Int)) (j := p) (ixn ts p (by rw [W.len]; exact hp)) ?_
    rw [dset]
    walk_at "v"
    refine v_fault (by omega) h1 h2 fun b3 y hb3 hy => ?_
    walk_at "v"
    refine v_kPut2 (i := (o : Int)) (j := o) (ixn (ts.set p x) o (by rw [List.length_set, W.len]; exact ho)) ?_
    rw [dset]
    walk_at "v"
    refine v_draw (by omega) (by decide) (by decide) fun q q0 q6 => ?_
    have firsts : ∀ q : Int, 0 ≤ q → q < 6 → ∃ f : Str, atI (dStrs ["room", "take", "take*", "go 0", "wait none", "if full 0"]) q = some (.str f) ∧ f ≠ "rest" ∧ f.length ≤ 40 ∧ nosep f = true := fun q q0 q6 => by
      rcases (by omega : q = 0 ∨ q = 1 ∨ q = 2 ∨ q = 3 ∨ q = 4 ∨ q = 5) with e | e | e | e | e | e <;> subst e <;> exact ⟨_, rfl, by decide +kernel, by decide +kernel, by decide +kernel⟩
    obtain ⟨f, hf, f1, f2, f3⟩ := firsts q q0 q6
    refine v_ixL hf ?_
    walk_at "v"
    refine v_kPut2 (i := ((0 : Nat) : Int)) (j := 0) (ixn ts 0 (by rw [W.len]; omega)) ?_
    rw [dset]
    walk_at "v"
    refine v_draw (by omega) (by decide) (by decide) fun n n0 n20 => ?_
    walk_at "v"
    refine v_kLcMI (ns := rgI 0 (25 + n)) (fun _ => .str "rest") (by rw [rgI_len0]; omega) rfl (fun i y Q' hy hq => ?_) ?_
    · walk_at "v"
      refine ⟨rfl, ?_⟩
      walk_at "v"
      exact hq
    rw [rep_rest (25 + n)]
    walk_at "v"
    refine v_kLcMI (ns := rgI 0 (25 - (L : Int))) (fun _ => .str "rest") (by rw [rgI_len0]; omega) rfl (fun i y Q' hy hq => ?_) ?_
    · walk_at "v"
      refine ⟨rfl, ?_⟩
      walk_at "v"
      exact hq
    rw [rep_rest (25 - (L : Int))]
    refine v_catL (by rw [length_dStrs, length_dStrs, List.length_set, W.len, List.length_replicate]; omega) ?_
    rw [dStrs_append]
    walk_at "v"
    rename_i l6 l7 l8
    rw [show cutD (dStrs (ts.set 0 f)) none (some 1) = dStrs ((ts.set 0 f).take 1) from cutS_to (p := 1), show cutD (dStrs (ts.set p x)) (some 1) none = dStrs ((ts.set p x).drop 1) from cutS_from (p := 1)]
    refine v_catL (by rw [length_dStrs, length_dStrs, List.length_take, List.length_drop, List.length_set, List.length_set, W.len]; omega) ?_
    rw [dStrs_append]
    walk_at "v"
    have hxF := faulty_fine hx
    have hyF := faulty_fine hy
    have hfF : FineT f := ⟨by omega, f3⟩
    have sS : Fine (ts.set p x) := fine_set W.fine hxF
    have tS := W.spoiled hp hx.2.2
    have sS2 : Fine ((ts.set p x).set o y) := fine_set sS hyF
    have tS2 := W.twice hp ho hx.2.2 hy.2.2
    obtain ⟨sF, tF⟩ := W.first hfF f1
    have sG := fine_rest (n := (25 + n).toNat) (by omega) (by omega)
    have tG : told (List.replicate (25 + n).toNat ("rest" : Str)) = -1 := told_len (by rw [List.length_replicate]; omega)
    obtain ⟨sO, tO⟩ := W.longer (p := p) hxF
    obtain ⟨sB, tB⟩ := W.both (p := p) hxF hfF f1
    rw [show ((25 : Int) - L).toNat = 25 - L by omega]
    refine v_kForS (fun ω' ρ => ω' = TS.tape t (b3 + 1 + 1) ∧ ∃ o12 : Sl, ρ = [.va (.adr a), .va (.adr t), .va (.lst (dStrs ts)), .va (.int L), .va (.int p), .va (.int o), .ow l6 (dStrs (ts.set p x)), .ow l7 (dStrs ((ts.set p x).set o y)), .ow l8 (dStrs (ts.set 0 f)), .va (.lst (dStrs (List.replicate (25 + n).toNat "rest"))), .va (.lst (dStrs (ts.set p x ++ List.replicate (25 - L) ("rest" : Str)))), .va (.lst (dStrs ((ts.set 0 f).take 1 ++ (ts.set p x).drop 1))), o12, .no, .no, .no, .no, .no]) ⟨rfl, _, rfl⟩ ?_ ?_
    · rintro d ω' ρ hd ⟨rfl, o12, rfl⟩
      obtain ⟨bb, rfl⟩ : ∃ bb, d = .bl bb := by
        simp only [List.mem_cons, List.not_mem_nil, or_false] at hd
        rcases hd with rfl | rfl <;> exact ⟨_, rfl⟩
      walk_at "v"
      refine v_lineF sS ?_
      walk_at "v"
      refine w_iteNT tS ?_
      walk_at "v"
      refine v_lineF sS2 ?_
      walk_at "v"
      refine v_min2 ?_
      walk_at "v"
      refine w_iteNT (by rw [tS2]; split <;> omega) ?_
      walk_at "v"
      refine v_lineF sF ?_
      walk_at "v"
      refine w_iteNT tF ?_
      walk_at "v"
      refine v_lineF sG ?_
      walk_at "v"
      refine w_iteNT tG ?_
      walk_at "v"
      refine v_lineF sO ?_
      walk_at "v"
      refine w_iteNT tO ?_
      walk_at "v"
      refine v_lineF sB ?_
      walk_at "v"
      refine w_iteNT tB ?_
      walk_at "v"
      exact ⟨rfl, _, rfl⟩
    rintro ω' ρ ⟨rfl, o12, rfl⟩
    walk_at "v"
    refine v_line (ts := []) (by decide) (fun t h => by cases h) (fun h => by cases h) ?_
    walk_at "v"
    refine w_iteNT (told_len (.inl rfl)) ?_
    walk_at "v"
    refine v_lineF (ys := [("" : Str)]) fine_e ?_
    walk_at "v"
    refine w_iteNT told_e ?_
    walk_at "v"
    refine v_lineF (ys := [("rest" : Str), ""]) fine_re ?_
    walk_at "v"
    refine w_iteNT told_re ?_
    walk_at "v"
    rw [show ((L : Int) - 1) = ((L - 1 : Nat) : Int) by omega]
    have sz : 1000000 ≤ sizeLine := by rw [sizeLine_eq]; decide
    refine v_strI (show (L - 1).log2 < 1920 by have : (L - 1).log2 ≤ L - 1 := Nat.log2_le_self _; omega) ?_
    refine v_addS (show ("go " : Str).length + (nS (L - 1)).length ≤ _ by have := (ins_go (show L - 1 < L by omega) h2).1; rw [Str.length_append] at this; omega) ?_
    walk_at "v"
    refine v_draw (by omega) (by decide) (by decide) fun g g0 g5 => ?_
    obtain ⟨gt, hgt, hga⟩ := W.insT (p := p) g g0 g5
    refine v_ixL hgt ?_
    walk_at "v"
    refine v_kPut2 (i := (p : Int)) (j := p) (ixn (ts.set p x) p (by rw [List.length_set, W.len]; exact hp)) ?_
    rw [dset, List.set_set]
    walk_at "v"
    refine v_kPut2 (i := ((0 : Nat) : Int)) (j := 0) (ixn (ts.set p gt) 0 (by rw [List.length_set, W.len]; omega)) ?_
    rw [dset]
    have gF : Fine ((ts.set p gt).set 0 "rest") := fine_set (fine_set W.fine (fine_ins (ins_all h2 hga))) ⟨by decide, by decide +kernel⟩
    have gN := W.good (p := p) hga
    walk_at "v"
    refine v_progX gF.2.1 (fun t ht => (gF.2.2 t ht).1) ⟨fun _ => ⟨pure_progX _, ?_⟩, fun l hl => by rw [gN] at hl; cases hl⟩
    walk_at "v"
    refine v_same rfl (lev_tupS (by have := gF.2.1; omega)) ?_
    walk_at "v"
    refine v_joinL (Nat.le_trans (join_lenX gF.2.1 fun t ht => (gF.2.2 t ht).1) (by decide)) ?_
    walk_at "v"
    refine v_readX (fun e => by have := gF.1; rw [e] at this; exact absurd this (by decide)) gF.2.1 (fun t ht => (gF.2.2 t ht).1) (fun t ht => (gF.2.2 t ht).2) ⟨fun _ => ?_, fun l hl => by rw [gN] at hl; cases hl⟩
    walk_at "v"
    refine v_same rfl (lev_tupS (by have := gF.2.1; omega)) ?_
    walk_at "v"
    obtain ⟨tp, tpm, hap⟩ := atI_S (ts := ts) (i := p) (by rw [W.len]; exact hp)
    obtain ⟨to, tom, hao⟩ := atI_S (ts := ts) (i := o) (by rw [W.len]; exact ho)
    refine v_ixL hap ?_
    walk_at "v"
    have ltp := (fine_ins (W.ins tp tpm)).1
    have lto := (fine_ins (W.ins to tom)).1
    have l2s : ("; " : Str).length = 2 := rfl
    refine v_addS (show tp.length + ("; " : Str).length ≤ _ by omega) ?_
    walk_at "v"
    refine v_ixL hao ?_
    refine v_addS (show (tp ++ ("; " : Str)).length + to.length ≤ _ by rw [Str.length_append]; omega) ?_
    walk_at "v"
    refine v_kPut2 (i := (p : Int)) (j := p) (ixn ts p (by rw [W.len]; exact hp)) ?_
    rw [dset]
    have jT : told (ts.set p (tp ++ ("; " : Str) ++ to)) = p := W.spoiled hp (semi_out h2)
    walk_at "v"
    refine v_line (by rw [List.length_set, W.len]; omega) (fun z hz => ?_) (fun h => by cases h) ?_
    · rcases List.mem_or_eq_of_mem_set hz with y | y
      · exact (fine_ins (W.ins z y)).1
      · rw [y, Str.length_append, Str.length_append]
        have e1 := (W.ins tp tpm).1
        have e2 := (W.ins to tom).1
        omega
    walk_at "v"
    refine w_iteNT jT ?_
    walk_at "v"
    refine v_near (by omega) h1 h2 fun b4 u hb4 hu => ?_
    walk_at "v"
    refine v_kPut2 (i := (p : Int)) (j := p) (ixn ts p (by rw [W.len]; exact hp)) ?_
    rw [dset]
    have lnN : (ts.set p u).length ≤ 1000 := by rw [List.length_set, W.len]; omega
    have lnP : 1 ≤ (ts.set p u).length := by rw [List.length_set, W.len]; omega
    have leN : ∀ z ∈ ts.set p u, z.length ≤ 900 := fun z hz => by
      rcases List.mem_or_eq_of_mem_set hz with y | y
      · exact (fine_ins (W.ins z y)).1
      · rw [y]; omega
    have neN : ts.set p u ≠ [] := fun e => by rw [e] at lnP; exact absurd lnP (by decide)
    walk_at "v"
    refine v_allI h1 h2 fun zs hzl hzm => ?_
    refine v_inLS ?_
    walk_at "v"
    by_cases hg : u ∈ allI L ∧ (p ≠ 0 ∨ u = "rest")
    · have bN := W.bad_set hg.1 hg.2
      have nsN : ∀ z ∈ ts.set p u, nosep z = true := fun z hz => by
        rcases List.mem_or_eq_of_mem_set hz with y | y
        · exact (fine_ins (W.ins z y)).2
        · rw [y]; exact (fine_ins (ins_all h2 hg.1)).2
      refine w_iteT ((hzm u).mpr hg.1) ?_
      walk_at "v"
      refine w_iteP (fun hp0 => ?_) (fun hp0 => ?_)
      · walk_at "v"
        refine v_progX lnN leN ⟨fun _ => ⟨pure_progX _, ?_⟩, fun l hl => by rw [bN] at hl; cases hl⟩
        walk_at "v"
        refine v_same rfl (lev_tupS (by omega)) ?_
        walk_at "v"
        refine v_joinL (Nat.le_trans (join_lenX lnN leN) (by decide)) ?_
        walk_at "v"
        refine v_readX neN lnN leN nsN ⟨fun _ => ?_, fun l hl => by rw [bN] at hl; cases hl⟩
        walk_at "v"
        refine v_same rfl (lev_tupS (by omega)) ?_
        exact Qk _
      · have eu : u = "rest" := by
          rcases hg.2 with z | z
          · exact absurd (by omega) hp0
          · exact z
        walk_at "v"
        refine w_iteT eu ?_
        walk_at "v"
        refine v_progX lnN leN ⟨fun _ => ⟨pure_progX _, ?_⟩, fun l hl => by rw [bN] at hl; cases hl⟩
        walk_at "v"
        refine v_same rfl (lev_tupS (by omega)) ?_
        walk_at "v"
        refine v_joinL (Nat.le_trans (join_lenX lnN leN) (by decide)) ?_
        walk_at "v"
        refine v_readX neN lnN leN nsN ⟨fun _ => ?_, fun l hl => by rw [bN] at hl; cases hl⟩
        walk_at "v"
        refine v_same rfl (lev_tupS (by omega)) ?_
        exact Qk _
    have nT := W.near hp hg
    refine w_iteP (fun hin => ?_) (fun hout => ?_)
    · have hz := (hzm u).mp hin
      walk_at "v"
      refine w_iteF (fun z => hg ⟨hz, .inl (by omega)⟩) ?_
      walk_at "v"
      refine w_iteF (fun z => hg ⟨hz, .inr z⟩) ?_
      walk_at "v"
      refine ⟨trivial, ?_⟩
      walk_at "v"
      refine w_iteB (fun hb => ?_) (fun hb => ?_)
      · have nsN : ∀ z ∈ ts.set p u, nosep z = true := fun z hz => by
          rcases List.mem_or_eq_of_mem_set hz with y | y
          · exact (fine_ins (W.ins z y)).2
          · rw [y]; exact nosep_in (by simpa using hb)
        walk_at "v"
        refine v_line lnN leN (fun _ => ⟨neN, nsN⟩) ?_
        walk_at "v"
        refine w_iteNT nT ?_
        walk_at "v"
        refine v_line lnN leN (fun h => by cases h) ?_
        rw [nT]
        walk_at "v"
        rw [decide_eq_true rfl]
        exact Qk _
      · walk_at "v"
        refine v_line lnN leN (fun h => by cases h) ?_
        rw [nT]
        walk_at "v"
        rw [decide_eq_true rfl]
        exact Qk _
    walk_at "v"
    refine ⟨trivial, ?_⟩
    walk_at "v"
    refine w_iteB (fun hb => ?_) (fun hb => ?_)
    · have nsN : ∀ z ∈ ts.set p u, nosep z = true := fun z hz => by
        rcases List.mem_or_eq_of_mem_set hz with y | y
        · exact (fine_ins (W.ins z y)).2
        · rw [y]; exact nosep_in (by simpa using hb)
      walk_at "v"
      refine v_line lnN leN (fun _ => ⟨neN, nsN⟩) ?_
      walk_at "v"
      refine w_iteNT nT ?_
      walk_at "v"
      refine v_line lnN leN (fun h => by cases h) ?_
      rw [nT]
      walk_at "v"
      rw [decide_eq_true rfl]
      exact Qk _
    · walk_at "v"
      refine v_line lnN leN (fun h => by cases h) ?_
      rw [nT]
      walk_at "v"
      rw [decide_eq_true rfl]
      exact Qk _
end
end LW
set_option maxHeartbeats 0
namespace LW
open PySem PySem.Spec PyProof.Rows L2
theorem ctx_of {K : PySem.W.Frag} {h : Heap} {mg : Str → Option Value} (X : K.In h) (G : h.Ns mainGlobals mg) (q : SaysW fa fn exB K) : Ctx K mg :=
  ⟨q, He.glo_ok X G, He.free_ok X G, He.int_ok X G, He.str_ok X G⟩
end LW
open PySem PySem.W PySem.Calls PyProof.Rows
instance : LW.PG (PySem.W.OpenLaw.prog PySem.Challenge.rw_ownlabels_k10_programs_that_are_invalid) := ⟨by decide +kernel, by decide +kernel⟩
theorem PySem.Challenge.cw_ownlabels_k10_programs_that_are_invalid_holds : PySem.Challenge.rw_ownlabels_k10_programs_that_are_invalid.Holds := by
  w_on; o_law
  refine HandSHeadRun.head_any (r := OpenLaw.row PySem.Challenge.rw_ownlabels_k10_programs_that_are_invalid) (q := view (OpenLaw.row PySem.Challenge.rw_ownlabels_k10_programs_that_are_invalid).prog [21]) (H := LW.hkW) (ob := LW.obT LW.fa LW.fn LW.exB) (M := 8000) (loose := LW.looseN) (d := HandSHeadRun.topDef (OpenLaw.row PySem.Challenge.rw_ownlabels_k10_programs_that_are_invalid).prog 21) (kwd := []) LW.obT_eq
    (by kernel_rfl) (fun s => by kernel_rfl) LW.runW (by kernel_rfl) (by kernel_rfl) (by kernel_rfl) (by rfl) (by first | assumption | decide +kernel) (by decide +kernel) ⟨rfl, rfl, rfl, rfl, rfl, by decide +kernel⟩ ?hw ?hc
  case hw => w_witness2
  case hc =>
    refine LW.walkW (l := PySem.Challenge.rw_ownlabels_k10_programs_that_are_invalid) (n := 63) (k := 11) (x := "_law_script") rfl (by decide) (by kernel_rfl) ⟨rfl, by decide, by decide⟩ ?F
    case F =>
      intro w mg fa h Y G hmg0
      obtain ⟨K, KX, q⟩ := Y
      have c := LW.ctx_of KX G q
      have hmg : mg ("law" : PySem.Str) = some (.ref fa) := by
        have e : (HandSHeadRun.topDef (OpenLaw.row PySem.Challenge.rw_ownlabels_k10_programs_that_are_invalid).prog 21).name = ("law" : PySem.Str) := by kernel_rfl
        rw [← e]
        exact hmg0
      have ef : fa = LW.A_law K := Value.ref.inj (Option.some.inj (hmg.symm.trans (LW.g_law c)))
      subst ef
      exact ⟨K, _, LW.spM .A K (LW.WT K) (LW.pf_law K), KX, fun s v => (LW.F_law c).bindsA (ps := ["_law_script"]) (fun _ _ _ _ _ _ us hl => match us, hl with | [_], _ => rfl) s [v] rfl, fun H a ns hl hO hS => LW.sp_law_of hl hO hS, fun base _ _ => LW.ok_law c⟩
#print axioms PySem.Challenge.cw_ownlabels_k10_programs_that_are_invalid_holds
