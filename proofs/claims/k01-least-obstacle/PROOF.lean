import PyProof.Rows.All
import Wide.All
import OpenK.AllK
import Wide.FinOn
import KE.KStateDown
import HandS.ForMost
import HandS.Exc
import HandS.TryOnly
import HandS.TryMany
import HandS.ExcOwn
import HandS.WordsExc
import HandS.CallSlots
import HandS.ExcIs
import HandS.ExcField
import HandS.HotCalls
import HandS.IsInst
import HandS.Wide
import HandS.Defaults
import HandS.Head0
import HandS.Head1
import HandS.Head2
import HandS.HeadEnd
import HandS.HeadHook1
import HandS.HeadHook2
import PySem.Challenge.RW_ownlabels_k01_least_obstacle
set_option Elab.async false
set_option linter.all false
set_option maxRecDepth 100000
set_option maxHeartbeats 4000000
namespace LW
open PySem PySem.Spec PyProof.Rows L2

/-! ### data -/
inductive D where
  | non | bl (b : Bool) | int (i : Int) | str (s : Str)
  | tup (ds : List D) | lst (ds : List D) | ins (C : Addr) (ns : List Str) (ds : List D)

/-- the field names of classes whose instances are never written again -/
def immNames : List (List Str) := [["places"], ["instructions", "rows"], ["program", "numberings", "workers", "cells", "capacity"], ["system"], ["system", "schedule"], ["system", "schedule", "cycle"], ["system", "states", "ranks", "levels", "helpers"]]
def imm (ns : List Str) : Bool := decide (ns ∈ immNames)
def pers : HO → Bool
  | .lst _ => false
  | .dK _ => false
  | .dT _ => false
  | .set _ _ => false
  | .ext _ => false
  | .ins _ _ fs => imm (fs.map (·.1))
  | _ => true

mutual
inductive Rep (K : PySem.W.Frag) (H : Hp) : D → V → Prop
  | non : Rep K H .non .non
  | bl (b : Bool) : Rep K H (.bl b) (.bl b)
  | int (i : Int) : Rep K H (.int i) (.int i)
  | str (s : Str) : Rep K H (.str s) (.str s)
  | tup {a : Addr} {xs : List V} {ds : List D} : SqT K H a xs → Reps K H ds xs → Rep K H (.tup ds) (.ref a)
  | lst {a : Addr} {xs : List V} {ds : List D} : SqL K H a xs → Reps K H ds xs → Rep K H (.lst ds) (.ref a)
  | ins {a C dx : Addr} {ns : List Str} {xs : List V} {ds : List D} : H a = some (.ins C dx (ns.zip xs)) → imm ns = true → ns.length = ds.length → Reps K H ds xs → Rep K H (.ins C ns ds) (.ref a)
inductive Reps (K : PySem.W.Frag) (H : Hp) : List D → List V → Prop
  | nil : Reps K H [] []
  | cons {d : D} {ds : List D} {v : V} {vs : List V} : Rep K H d v → Reps K H ds vs → Reps K H (d :: ds) (v :: vs)
end
mutual
def D.pure : D → Bool
  | .tup ds => D.pures ds
  | .lst _ => false
  | .ins _ _ ds => D.pures ds
  | _ => true
def D.pures : List D → Bool
  | [] => true
  | d :: ds => d.pure && D.pures ds
end

/-! ### how a heap grows -/
structure Gr (S : List Addr) (H H' : Hp) : Prop where
  keep : ∀ a o, H a = some o → a ∉ S → H' a = some o
  mu : ∀ a, a ∈ S → ∃ o, H a = some o ∧ pers o = false
section
variable {K : PySem.W.Frag} {H H' H1 H2 : Hp} {S S' : List Addr} {a l p : Addr} {o : HO} {xs ys : List V}
theorem Gr.refl (H : Hp) : Gr [] H H := ⟨fun _ _ h _ => h, fun _ h => by cases h⟩
theorem Gr.get (g : Gr S H H') (h : H a = some o) (hp : pers o = true) : H' a = some o := g.keep a o h fun m => by
  obtain ⟨u, h1, h2⟩ := g.mu a m
  rw [h] at h1
  cases h1
  rw [hp] at h2
  cases h2
theorem Gr.get0 (g : Gr [] H H') (h : H a = some o) : H' a = some o := g.keep a o h (by simp)
theorem Gr.trans (g : Gr S H H1) (g' : Gr S' H1 H2) (hs : ∀ a, a ∈ S' → a ∈ S ∨ H a = none) : Gr S H H2 :=
  ⟨fun a o h m => g'.keep a o (g.keep a o h m) fun m' => by
    rcases hs a m' with q | q
    · exact m q
    · exact absurd (h.symm.trans q) (by simp), g.mu⟩
theorem Gr.trans0 (g : Gr S H H1) (g' : Gr [] H1 H2) : Gr S H H2 := g.trans g' fun _ h => by cases h
theorem Gr.trans1 (g : Gr [l] H H1) (g' : Gr [l] H1 H2) : Gr [l] H H2 := g.trans g' fun _ h => .inl h
/-- what was changed was new -/
theorem Gr.transN (g : Gr S H H1) (g' : Gr [l] H1 H2) (h : H l = none) : Gr S H H2 := g.trans g' fun a m => by
  have e : a = l := by simpa using m
  subst e
  exact .inr h
theorem Gr.trans2 (g : Gr S H H1) (g' : Gr [l] H1 H2) (h : l ∈ S) : Gr S H H2 := g.trans g' fun a m => by
  have e : a = l := by simpa using m
  subst e
  exact .inl h
theorem Gr.weak (g : Gr [] H H') (h : ∀ a, a ∈ S → ∃ o, H a = some o ∧ pers o = false) : Gr S H H' := ⟨fun a o e _ => g.keep a o e (by simp), h⟩
theorem Gr.weak1 (g : Gr [] H H') (h : H l = some (.lst xs)) : Gr [l] H H' := g.weak fun a m => by
  have e : a = l := by simpa using m
  subst e
  exact ⟨_, h, rfl⟩
theorem Gr.new (h : H p = none) : Gr [] H (upd H p o) := ⟨fun a u e _ => by rw [upd_ne (ne_of_none e h)]; exact e, fun _ m => by cases m⟩
theorem Gr.wr (h : H l = some (.lst xs)) : Gr [l] H (upd H l o) := ⟨fun a u e m => by
    rw [upd_ne (by simpa using m)]
    exact e, fun a m => by
    have e : a = l := by simpa using m
    subst e
    exact ⟨_, h, rfl⟩⟩
theorem Gr.free (g : Gr S H H') (h : H' p = none) (hp : p ∉ S) : H p = none := by
  cases q : H p with
  | none => rfl
  | some u =>
    rw [g.keep p u q hp] at h
    cases h
theorem Gr.free0 (g : Gr [] H H') (h : H' p = none) : H p = none := g.free h (by simp)
theorem Gr.free1 (g : Gr [l] H H') (h : H' p = none) (ne : p ≠ l) : H p = none := g.free h (by simpa using ne)
theorem Gr.sqt (g : Gr S H H') (h : SqT K H a xs) : SqT K H' a xs := by
  rcases h with (h | ⟨u, h⟩) | h
  · exact .inl (.inl (g.get h rfl))
  · exact .inl (.inr ⟨u, g.get h rfl⟩)
  · exact .inr h
theorem Gr.sql0 (g : Gr [] H H') (h : SqL K H a xs) : SqL K H' a xs := by
  rcases h with (h | ⟨u, h⟩) | h
  · exact .inl (.inl (g.get0 h))
  · exact .inl (.inr ⟨u, g.get0 h⟩)
  · exact .inr h
theorem Gr.sql (g : Gr S H H') (h : SqL K H a xs) (hn : a ∉ S) : SqL K H' a xs := by
  rcases h with (h | ⟨u, h⟩) | h
  · exact .inl (.inl (g.keep _ _ h hn))
  · exact .inl (.inr ⟨u, g.keep _ _ h hn⟩)
  · exact .inr h
theorem Gr.lst1 (g : Gr [l] H H') (h : H a = some (.lst xs)) (hn : a ≠ l) : H' a = some (.lst xs) := g.keep _ _ h (by simpa using hn)
end
mutual
theorem Rep.gr {K : PySem.W.Frag} {H H' : Hp} {S : List Addr} (g : Gr S H H') : ∀ {d : D} {v : V}, Rep K H d v → d.pure = true → Rep K H' d v
  | _, _, .non, _ => .non
  | _, _, .bl b, _ => .bl b
  | _, _, .int b, _ => .int b
  | _, _, .str b, _ => .str b
  | _, _, .tup h r, q => .tup (g.sqt h) (Reps.gr g r q)
  | _, _, .lst h r, q => nomatch (show false = true from q)
  | _, _, .ins (ns := ns) (xs := xs) (ds := ds) h i l r, q => .ins (g.get h (by
      have e : xs.length = ds.length := Reps.len r
      show imm ((ns.zip xs).map (·.1)) = true
      rw [List.map_fst_zip (by omega)]
      exact i)) i l (Reps.gr g r q)
theorem Reps.gr {K : PySem.W.Frag} {H H' : Hp} {S : List Addr} (g : Gr S H H') : ∀ {ds : List D} {vs : List V}, Reps K H ds vs → D.pures ds = true → Reps K H' ds vs
  | _, _, .nil, _ => .nil
  | _, _, .cons h r, q => by
    have q2 := Bool.and_eq_true_iff.mp q
    exact .cons (Rep.gr g h q2.1) (Reps.gr g r q2.2)
theorem Reps.len {K : PySem.W.Frag} {H : Hp} : ∀ {ds : List D} {vs : List V}, Reps K H ds vs → vs.length = ds.length
  | _, _, .nil => rfl
  | _, _, .cons _ r => congrArg Nat.succ (Reps.len r)
end
mutual
theorem Rep.gr0 {K : PySem.W.Frag} {H H' : Hp} (g : Gr [] H H') : ∀ {d : D} {v : V}, Rep K H d v → Rep K H' d v
  | _, _, .non => .non
  | _, _, .bl b => .bl b
  | _, _, .int b => .int b
  | _, _, .str b => .str b
  | _, _, .tup h r => .tup (g.sqt h) (Reps.gr0 g r)
  | _, _, .lst h r => .lst (g.sql0 h) (Reps.gr0 g r)
  | _, _, .ins h i l r => .ins (g.get0 h) i l (Reps.gr0 g r)
theorem Reps.gr0 {K : PySem.W.Frag} {H H' : Hp} (g : Gr [] H H') : ∀ {ds : List D} {vs : List V}, Reps K H ds vs → Reps K H' ds vs
  | _, _, .nil => .nil
  | _, _, .cons h r => .cons (Rep.gr0 g h) (Reps.gr0 g r)
end

/-! ### a def of the text -/
def noFd : FuncData := PySem.W.fnOf Str.empty Str.empty ⟨[], [], none, [], [], none, []⟩ [] ⟨.function, [], false, false, []⟩ .none .none .none .none none .none .none
def fdA (K : PySem.W.Frag) (a : Addr) : FuncData := match K.lookup a with
  | some ⟨_, _, .func fd, _⟩ => fd
  | _ => noFd
theorem fdA_of {K : PySem.W.Frag} {x qual : Str} {params : Arguments} {body : List Stmt} {scope : Scope} {dvs : List V} {kws : List (Str × V)} {f : Addr} (h : ∃ fd, FunD K x qual params body scope dvs kws f fd) : FunD K x qual params body scope dvs kws f (fdA K f) := by
  obtain ⟨fd, h⟩ := h
  have e : fdA K f = fd := by
    obtain ⟨oc, od, dV, kV, doc, pm, an, cdv, ct, osl, _, lk, _⟩ := h.ex
    unfold fdA
    rw [lk]
  rw [e]
  exact h
/-- a def that may raise: its body under what takes an exception -/
theorem okT {P : Program} {w : World} {K : PySem.W.Frag} {mg : Str → Option Value} {base : Heap} {x qual : Str} {params : Arguments} {body : List Stmt} {scope : Scope} {dvs : List V} {kws : List (Str × V)} {f : Addr} {fd : FuncData} {N ps : List Str} {k : Nat} {sp : Sp}
    (F : FunD K x qual params body scope dvs kws f fd) (S : FnScope N ps scope) (len : ∀ vs H Q E, sp vs H Q E → vs.length = ps.length)
    (hbody : ∀ (cdv : Value) (A : Around) (outer : List Env) (s : Shared) (H : Hp) (vs : List V) (Q : VK) (E : XK), Room k (A.deeper (envOfC qual scope s.heap.objs.size f cdv)) → sp vs H Q E →
      Takes (cxOf (L2.CX P w) P w K mg base N qual scope f cdv A outer s H E) (fun cls d _ H' => E cls d H') →
      PassesOwn (model P w) (cxOf (L2.CX P w) P w K mg base N qual scope f cdv A outer s H E).A (cxOf (L2.CX P w) P w K mg base N qual scope f cdv A outer s H E).env (cxOf (L2.CX P w) P w K mg base N qual scope f cdv A outer s H E).xe →
      ∃ t, PSs (cxOf (L2.CX P w) P w K mg base N qual scope f cdv A outer s H E) body t ∧ t { nx := fun _ H' => Q .non H', rt := Q } (start N vs) H) : FnOk P w K mg base (L2.CX P w) (k + 1) f fd ps sp :=
  F.ok S len fun cdv A outer s H vs Q E hr h => hbody cdv A outer s H vs Q E hr h (takes_of rfl rfl rfl rfl) (passes_of rfl)

/-! ### try with several clauses, named or not -/
abbrev TSu := Addr → Value → Option Addr → TS
abbrev TSv := Addr → Value → Option Addr → Obj → List (Addr × Obj) → TS
def oeZ : Obj := ⟨.none, none, .plain, #[]⟩
abbrev xeZ : Value → Shared → Prop := fun _ _ => True
/-- behind a clause that binds a name its slot is empty -/
def endsNo (i : Nat) (D : Ends) : Ends := { nx := fun σ H => D.nx (σ.set i none) H, rt := D.rt, bk := fun σ H => D.bk (σ.set i none) H, ct := fun σ H => D.ct (σ.set i none) H }
def wHds (K : PySem.W.Frag) (Wo : WX) (D : Ends) : List (Value × Option Nat × TSu) → WX
  | [] => Wo
  | (c, o, ts) :: r => fun cls d σ H => ∃ b, PySem.W.exmOne K cls c = some b ∧
      (b = true → ∀ a, H a = none → match o with
        | some i => ts a cls d (endsNo i D) (σ.set i (some (.ref a))) H
        | none => ts a cls d D σ H) ∧ (b = false → wHds K Wo D r cls d σ H)
inductive HdsE (X : Cx) : List ExceptHandler → List (Value × Option Nat × TSu) → Prop
  | nil : HdsE X [] []
  | only {x : Str} {c : Value} {ts : TSv} {b0 : Stmt} {su : List Stmt} {np p : Pos} {hds : List ExceptHandler} {l : List (Value × Option Nat × TSu)} (hc : Names X x c)
      (hsu : ∀ (a : Addr) (oe : Obj) (cls : Value) (d : Option Addr) (pn : List (Addr × Obj)), Zc cls d oe → (∃ vs, oe.data = .fields vs) → PSs (X.suite a ((a, oe) :: pn)) (b0 :: su) (ts a cls d oe pn)) (r : HdsE X hds l)
      (he : ∀ a oe cls d pn, ts a cls d oe pn = ts a cls d oeZ [] := by intros; rfl) :
      HdsE X (.ExceptHandler (some (.Name x np)) none (b0 :: su) p :: hds) ((c, none, fun a cls d => ts a cls d oeZ []) :: l)
  | as_ {x n : Str} {i : Nat} {c : Value} {ts : TSv} {b0 : Stmt} {su : List Stmt} {np p : Pos} {hds : List ExceptHandler} {l : List (Value × Option Nat × TSu)} (hN : X.N.Nodup) (hi : X.N[i]? = some n) (hln : X.env.kindOf n = some .local) (hc : Names X x c)
      (hsu : ∀ (a : Addr) (oe : Obj) (cls : Value) (d : Option Addr) (pn : List (Addr × Obj)), Zc cls d oe → (∃ vs, oe.data = .fields vs) → PSs (X.suite a ((a, oe) :: pn)) (b0 :: su) (ts a cls d oe pn)) (r : HdsE X hds l)
      (he : ∀ a oe cls d pn, ts a cls d oe pn = ts a cls d oeZ [] := by intros; rfl) :
      HdsE X (.ExceptHandler (some (.Name x np)) (some n) (b0 :: su) p :: hds) ((c, some i, fun a cls d => ts a cls d oeZ []) :: l)
section
variable {X : Cx} {body : List Stmt} {h0 : ExceptHandler} {hds : List ExceptHandler} {l : List (Value × Option Nat × TSu)} {pos : Pos} {tb : WX → List (Addr × Obj) → (Value → Shared → Prop) → TS} {Wo : WX}
/-- an exception that lies on the ground, asked of the clauses one after another -/
theorem hds_run (hs : X.stack = X.env :: X.outer) (hf : X.env.frame = some X.env.locals) (tk : Takes X Wo) {pins : List (Addr × Obj)} {D : Ends} {a : Addr} {B : Heap} {sI s' : Shared} {σ : L2.St} {H : Hp} {cls : Value} {d : Option Addr} {h3 : Heap}
    (J : Inv X pins σ H sI) (nb : ∀ b o, sI.heap.get? b = some o → b ∉ frs X.stack → B.get? b = some o) (up : sI.heap.UpToSlots s'.heap) (na : H a = none) (os : s'.os = sI.os) (ag : AllBare s'.gens)
    (fl3 : HandSPX.FlyingZ B (X.env :: X.outer) a (Zc cls d) h3) (up3 : s'.heap.UpToSlots h3) : ∀ {hds : List ExceptHandler} {l : List (Value × Option Nat × TSu)}, HdsE X hds l → wHds X.K Wo D l cls d σ H →
    wpAny (model X.prog X.w) X.A (handleBy (.ref a) X.env hds) (SP X pins D) X.xe { s' with heap := h3 } := by
  have ok := J.ok
  have nfr : a ∉ frs (X.env :: X.outer) := fun hm => by
    obtain ⟨oe, vs, he, _, hd⟩ := fl3.there
    obtain ⟨_, o', e', hnf⟩ := fl3.2.2.1.mem hm
    rw [he] at e'
    cases e'
    exact hnf _ hd
  have nL : a ≠ X.env.locals := fun z => nfr (List.mem_filterMap.mpr ⟨X.env, List.mem_cons_self, by rw [hf, z]⟩)
  have nF : a ∉ X.fs := fun hm => by
    obtain ⟨e, he, q⟩ := List.mem_filterMap.mp hm
    exact nfr (List.mem_filterMap.mpr ⟨e, List.mem_cons_of_mem _ he, q⟩)
  have lands : ∀ {h4 : Heap}, HandSPX.FlyingZ B (X.env :: X.outer) a (Zc cls d) h4 → sI.heap.UpToSlots h4 → Inv X pins σ H { s' with heap := h4 } ∧ ∃ oe vs, h4.get? a = some oe ∧ Zc cls d oe ∧ oe.data = .fields vs ∧ Inv (X.suite a ((a, oe) :: (X.pn ++ pins))) [] σ H { s' with heap := h4 } := fun {h4} fl4 u4 => by
    have J4 : Inv X pins σ H { s' with heap := h4 } := J.landed nb fl4.1 u4 os ag
    obtain ⟨oe4, vs4, he4, hz4, hd4⟩ := fl4.there
    exact ⟨J4, oe4, vs4, he4, hz4, hd4, J4.suite he4 hd4 na nL nF⟩
  have ask : ∀ {x : Str} {c : Value} {np : Pos} {b : Bool} {R : Bool → Shared → Prop} {E1 E2 : Value → Shared → Prop}, Names X x c → PySem.W.exmOne X.K cls c = some b → R b { s' with heap := h3 } →
      wpAny (model X.prog X.w) (X.A.mark (some (.ref a))) (eval (.Name x np) X.env) (fun v s1 => wpAny (model X.prog X.w) (X.A.mark (some (.ref a))) (excMatches (.ref a) v) R E2 s1) E1 { s' with heap := h3 } := fun {x c np b R E1 E2} hc hb q => by
    obtain ⟨J3, oe3, vs3, he3, hz3, hd3, S3⟩ := lands fl3 (up.trans up3)
    have LT : PySem.W.Looks (model X.prog X.w) h3 (typeOf (.ref a)) cls := fun A Q E s k q => wpAny_typeOf_ref (k _ _ he3) (by rw [hz3.1]; exact q)
    have LM := PySem.W.exm_one (M := model X.prog X.w) J3.kIn LT hb
    have fin : wpAny (model X.prog X.w) (X.A.mark (some (.ref a))) (excMatches (.ref a) c) R E2 { s' with heap := h3 } := LM.here q
    obtain ⟨hg, hdbg, hm | ⟨hm, hv, hnn⟩⟩ := hc
    · exact ld_glob (X := X.suite a ((a, oe3) :: (X.pn ++ pins))) S3 hg hm fin hdbg
    · exact ld_blt (X := X.suite a ((a, oe3) :: (X.pn ++ pins))) S3 hg hm hv fin hnn hdbg
  intro hds l hk
  induction hk with
  | nil =>
    intro w
    refine wpAny_handleBy_nil ?_
    obtain ⟨k1, k2, k3, oe, vs, T, oT, ts', he, hz, hd, h1, hr⟩ := id fl3
    unfold PySem.passOn
    refine wpAny_bind (wpAny_field he hd h1 ?_)
    rw [if_neg (by simp)]
    have fin : wpAny (model X.prog X.w) X.A (setFlight (.ref a) X.env.frame) (fun _ s4 => wpAny (model X.prog X.w) X.A (throw (.ref a) : Sem Flow) (SP X pins D) X.xe s4) X.xe { s' with heap := h3 } := by
      rw [hf]
      exact HandSPX.setFlight_upZ fl3 fun h4 hh4 up4 => wpAny_throw (tk _ _ ⟨a, B, sI, pins, σ, H, cls, d, rfl, J, nb, (up.trans up3).trans up4, .inr (.inr (by rw [hs]; exact hh4)), na, os, ag, w⟩)
    first
      | exact wpAny_bind (wpAny_pure (wpAny_bind fin))
      | exact wpAny_bind fin
  | only hc hsu r he ih =>
    intro w
    obtain ⟨b, hb, hy, hn⟩ := w
    refine wpAny_handleBy_cons (codeAny_handlers_test (ask hc hb ?_)) (by intro q; cases q)
    cases b with
    | false => exact ih (hn rfl)
    | true =>
      refine codeAny_handlers_suite (HandSPX.lands_againZ fl3 fun h4 fl4 up4 => ?_)
      obtain ⟨J4, oe4, vs4, he4, hz4, hd4, S4⟩ := lands fl4 ((up.trans up3).trans up4)
      have hh := hsu a oe4 cls d (X.pn ++ pins) hz4 ⟨_, hd4⟩
      rw [he] at hh
      refine wpAny_mono (hh.run [] _ _ H _ S4 (hy rfl a na)) (fun f s6 hsp => ?_) fun _ _ z => False.elim z
      cases f with
      | ret u =>
        obtain ⟨v6, σ6, H6, S6, r6, q6⟩ := hsp
        exact ⟨_, _, _, S6.unsuite ok, r6, q6⟩
      | _ =>
        obtain ⟨σ6, H6, S6, q6⟩ := hsp
        exact ⟨_, _, S6.unsuite ok, q6⟩
  | as_ hN hi hln hc hsu r he ih =>
    rename_i x n i c ts b0 su np p hds l
    intro w
    obtain ⟨b, hb, hy, hn⟩ := w
    refine wpAny_handleBy_cons (codeAny_handlers_test (ask hc hb ?_)) (by intro q; cases q)
    cases b with
    | false => exact ih (hn rfl)
    | true =>
      refine codeAny_handlers_suite_as (HandSPX.lands_againZ fl3 fun h4 fl4 up4 => ?_)
      obtain ⟨J4, oe4, vs4, he4, hz4, hd4, S4⟩ := lands fl4 ((up.trans up3).trans up4)
      refine store_ok (X := X.suite a ((a, oe4) :: (X.pn ++ pins))) (v := .ref a) S4 hN hi (.inl hln) rfl (fun s5 S5 => ?_) (.inr hln)
      have hh := hsu a oe4 cls d (X.pn ++ pins) hz4 ⟨_, hd4⟩
      rw [he] at hh
      refine wpAny_mono (hh.run [] s5 _ H _ S5 (hy rfl a na)) (fun f s6 hsp => ?_) fun _ _ z => False.elim z
      have gone : ∀ {σ6 : L2.St} {H6 : Hp} {Q : Shared → Prop}, Inv (X.suite a ((a, oe4) :: (X.pn ++ pins))) [] σ6 H6 s6 → (∀ s7, Inv X pins (σ6.set i none) H6 s7 → Q s7) →
          wpAny (model X.prog X.w) X.A (do bindName X.env n .none; unbindBehindTheSuite X.env n p) (fun _ s7 => Q s7) X.xe s6 := fun {σ6 H6 Q} S6 hq => gone_ok (S6.unsuite ok) hN hi hln hq
      cases f with
      | ret u =>
        obtain ⟨v6, σ6, H6, S6, r6, q6⟩ := hsp
        exact gone S6 fun s7 J7 => ⟨_, _, _, J7, r6, q6⟩
      | _ =>
        obtain ⟨σ6, H6, S6, q6⟩ := hsp
        exact gone S6 fun s7 J7 => ⟨_, _, J7, q6⟩
theorem ps_tryE (hs : X.stack = X.env :: X.outer) (hf : X.env.frame = some X.env.locals) (tk : Takes X Wo)
    (hb : ∀ (W : WX) (pn : List (Addr × Obj)) (xe : Value → Shared → Prop), Takes (X.tr pn xe) W → PassesOwn (model X.prog X.w) X.A X.env xe → PSs (X.tr pn xe) body (tb W pn xe))
    (hh : HdsE X (h0 :: hds) l) (he : ∀ W pn xe, tb W pn xe = tb W [] xeZ := by intros; rfl) : PS X (.Try body (h0 :: hds) [] [] pos) (fun D σ H => tb (wHds X.K Wo D l) [] xeZ D σ H) := by
  refine ⟨fun pins s σ H D I h => ?_⟩
  have ok := I.ok
  have hfr : X.A.frames = some (X.env :: X.outer) := by rw [ok.frames, hs]
  rw [← he (wHds X.K Wo D l) (X.pn ++ pins) (fun e s₁ => wpAny (model X.prog X.w) X.A (noteFrame e X.env) (fun _ s₂ => wpAny (model X.prog X.w) X.A (setFlight e none) (fun _ s₃ =>
    wpAny (model X.prog X.w) X.A (handleBy e X.env (h0 :: hds)) (SP X pins D) X.xe s₃) X.xe s₂) X.xe s₁)] at h
  refine wpAny_Try_except (wpAny_mono ((hb (wHds X.K Wo D l) (X.pn ++ pins) (fun e s₁ => wpAny (model X.prog X.w) X.A (noteFrame e X.env) (fun _ s₂ => wpAny (model X.prog X.w) X.A (setFlight e none) (fun _ s₃ =>
    wpAny (model X.prog X.w) X.A (handleBy e X.env (h0 :: hds)) (SP X pins D) X.xe s₃) X.xe s₂) X.xe s₁) (fun u s' xx => ?_) PassesOwn.looking).run [] s σ H D (I.toTry _) h) (fun f s1 hsp => ?_) fun e s1 he => he)
  · obtain ⟨a, B, sI, pins', σ', H', cls, d, rfl, J', nb, up, sky, na, os, ag, w⟩ := xx
    have J : Inv X pins σ' H' sI := J'.ofTry ok
    refine Sky.land Zc.steady hfr hf (by rw [← hs]; exact sky) fun h3 fl3 up3 => ?_
    exact hds_run hs hf tk J nb up na os ag fl3 up3 hh w
  · cases f with
    | ret u =>
      obtain ⟨v, σ', H', J', r, q⟩ := hsp
      exact ⟨v, σ', H', J'.ofTry ok, r, q⟩
    | next =>
      obtain ⟨σ', H', J', q⟩ := hsp
      exact wpAny_execs_nil ⟨σ', H', J'.ofTry ok, q⟩
    | _ =>
      obtain ⟨σ', H', J', q⟩ := hsp
      exact ⟨σ', H', J'.ofTry ok, q⟩
end

/-! ### built-ins by named readings -/
def rLenA (K : PySem.W.Frag) : List V → Hp → VK → Prop := fun xs H Q => ∃ p ys, xs = [.ref p] ∧ (SqL K H p ys ∨ SqT K H p ys) ∧ Q (.int ys.length) H
theorem cr_len {X : Cx} : CallR X (.builtin "len") (rLenA X.K) := call_len_seq
def rListOf (K : PySem.W.Frag) : List V → Hp → VK → Prop := fun xs H Q => ∃ p ys, xs = [.ref p] ∧ (SqL K H p ys ∨ SqT K H p ys) ∧ ∀ l, H l = none → Q (.ref l) (upd H l (.lst ys))
theorem cr_list {X : Cx} : CallR X (.type "list") (rListOf X.K) := call_list_of
def rTupleOf (K : PySem.W.Frag) : List V → Hp → VK → Prop := fun xs H Q => ∃ p ys, xs = [.ref p] ∧ ((SqL K H p ys ∧ ∀ l, H l = none → Q (.ref l) (upd H l (.tup ys))) ∨ (SqT K H p ys ∧ Q (.ref p) H))
theorem cr_tuple {X : Cx} : CallR X (.type "tuple") (rTupleOf X.K) := call_tuple_of
def rAbs : List V → Hp → VK → Prop := fun xs H Q => ∃ i, xs = [.int i] ∧ Q (.int (if i < 0 then -i else i)) H
theorem cr_abs {X : Cx} : CallR X (.builtin "abs") rAbs := call_abs
def rInt1 : List V → Hp → VK → Prop := fun xs H Q => (∃ i, xs = [.int i] ∧ Q (.int i) H) ∨ ∃ k, xs = [.bl k] ∧ Q (.int (if k then 1 else 0)) H
theorem cr_int {X : Cx} : CallR X (.type "int") rInt1 := call_int1
def rNewL : List V → Hp → VK → Prop := fun xs H Q => xs.length ≤ sizeLine ∧ ∀ p, H p = none → Q (.ref p) (upd H p (.lst xs))
def rNewT : List V → Hp → VK → Prop := fun xs H Q => xs.length ≤ sizeLine ∧ ∀ p, H p = none → Q (.ref p) (upd H p (.tup xs))
def tLstN (t : TA) : TE := fun σ H Q => t σ H fun xs H1 => rNewL xs H1 Q
def tTupN (t : TA) : TE := fun σ H Q => t σ H fun xs H1 => rNewT xs H1 Q
theorem pe_lstN {X : Cx} {es : List Expr} {t : TA} {pos : Pos} (h : PA X es t) : PE X (.List es pos) (tLstN t) := pe_lst h
theorem pe_tupN {X : Cx} {es : List Expr} {t : TA} {pos : Pos} {k : Nat} (h : PA X es t) : PE X (.Tuple es k pos) (tTupN t) := pe_tup h
/-! ### readings, answered from the left -/
section
variable {K : PySem.W.Frag} {σ : L2.St} {H : Hp} {Q : VK} {D : Ends} {ta tb tc te : TE} {tA tr : TA} {c t u' : TT} {ts us : TS} {i j : Int} {v x y : V} {QA : List V → Hp → Prop} {QB : Bool → Hp → Prop}
theorem w_seq (h : ts { D with nx := us D } σ H) : tSeq ts us D σ H := h
theorem w_asg {g : TG} (h : te σ H fun x H1 => g x σ H1 D.nx) : tAsg te g D σ H := h
theorem w_gname {n : Nat} {QS : L2.St → Hp → Prop} (h : QS (σ.set n (some v)) H) : gName n v σ H QS := h
theorem w_drop (h : te σ H fun _ H1 => D.nx σ H1) : tDrop te D σ H := h
theorem w_ret (h : te σ H D.rt) : tRet te D σ H := h
theorem w_retN (h : D.rt .non H) : tRetN D σ H := h
theorem w_next (h : D.nx σ H) : tNext D σ H := h
theorem w_ifS (h : c σ H fun b H1 => if b = true then ts D σ H1 else us D σ H1) : tIfS c ts us D σ H := h
theorem w_var {n : Nat} (h1 : σ[n]? = some (some v)) (h : Q v H) : tVar n σ H Q := ⟨v, h1, h⟩
theorem w_c (h : Q v H) : tC v σ H Q := h
theorem w_op {r : R2} (h : ta σ H fun x H1 => tb σ H1 fun y H2 => r x y H2 Q) : tOp r ta tb σ H Q := h
theorem w_un {r : V → Hp → VK → Prop} (h : ta σ H fun x H1 => r x H1 Q) : tUn r ta σ H Q := h
theorem w_rU {g : Int → V} (h : Q (g i) H) : rU g (.int i) H Q := ⟨i, rfl, h⟩
theorem w_cons (h : te σ H fun x H1 => tr σ H1 fun xs H2 => QA (x :: xs) H2) : tCons te tr σ H QA := h
theorem w_nil (h : QA [] H) : tNil σ H QA := h
theorem w_cb {r : List V → Hp → VK → Prop} (h : tA σ H fun vs H1 => r vs H1 Q) : tCB r tA σ H Q := h
theorem w_rI0 {g : Int → Int → V} (h : Q (g i j) H) : rI0 g (.int i) (.int j) H Q := ⟨i, j, rfl, rfl, h⟩
theorem w_rI {C : Int → Int → Prop} {g : Int → Int → V} (hc : C i j) (h : Q (g i j) H) : rI C g (.int i) (.int j) H Q := ⟨i, j, rfl, rfl, hc, h⟩
theorem w_eq (h0 : scal x y = true) (h : Q (.bl (decide (x = y))) H) : rEq x y H Q := ⟨h0, h⟩
theorem w_ne (h0 : scal x y = true) (h : Q (.bl (!decide (x = y))) H) : rNe x y H Q := ⟨h0, h⟩
theorem w_test (h : te σ H fun x H1 => ∃ k, x = .bl k ∧ QB k H1) : tTest te σ H QB := h
theorem w_tB (h : te σ H fun x H1 => ∃ k, x = .bl k ∧ QB k H1) : tB te σ H QB := h
theorem w_exb {k : Bool} (h : QB k H) : ∃ k', V.bl k = .bl k' ∧ QB k' H := ⟨k, rfl, h⟩
theorem w_and (h : c σ H fun b H1 => if b = true then t σ H1 QB else QB false H1) : tAnd c t σ H QB := h
theorem w_or (h : c σ H fun b H1 => if b = true then QB true H1 else t σ H1 QB) : tOr c t σ H QB := h
theorem w_not (h : c σ H fun b H1 => QB (!b) H1) : tNot c σ H QB := h
theorem w_andV (h : ta σ H fun x H1 => ∃ k, x = .bl k ∧ if k = true then tb σ H1 Q else Q (.bl false) H1) : tAndV ta tb σ H Q := h
theorem w_orV (h : ta σ H fun x H1 => ∃ k, x = .bl k ∧ if k = true then Q (.bl true) H1 else tb σ H1 Q) : tOrV ta tb σ H Q := h
theorem w_notV (h : ta σ H fun x H1 => ∃ k, x = .bl k ∧ Q (.bl (!k)) H1) : tNotV ta σ H Q := h
theorem w_exV {k : Bool} {R : Bool → Prop} (h : R k) : ∃ k', V.bl k = .bl k' ∧ R k' := ⟨k, rfl, h⟩
theorem w_chain {r r' : R2} (h : ta σ H fun x H1 => tb σ H1 fun y H2 => r x y H2 fun z H3 => ∃ k, z = .bl k ∧ if k = true then tc σ H3 (fun w' H4 => r' y w' H4 Q) else Q (.bl false) H3) : tChain r r' ta tb tc σ H Q := h
theorem w_ifE (h : c σ H fun b H1 => if b = true then ta σ H1 Q else tb σ H1 Q) : tIf c ta tb σ H Q := h
theorem w_tLst (h : tA σ H fun xs H1 => rNewL xs H1 Q) : tLstN tA σ H Q := h
theorem w_tTup (h : tA σ H fun xs H1 => rNewT xs H1 Q) : tTupN tA σ H Q := h
theorem w_lst {xs : List V} (h0 : xs.length ≤ sizeLine) (h : ∀ p H', H p = none → Gr [] H H' → H' p = some (.lst xs) → Q (.ref p) H') : rNewL xs H Q := ⟨h0, fun p hp => h p _ hp (Gr.new hp) upd_same⟩
theorem w_tup {xs : List V} (h0 : xs.length ≤ sizeLine) (h : ∀ p H', H p = none → Gr [] H H' → H' p = some (.tup xs) → Q (.ref p) H') : rNewT xs H Q := ⟨h0, fun p hp => h p _ hp (Gr.new hp) upd_same⟩
theorem w_ixL {p : Addr} {xs : List V} {k : Int} (h0 : SqL K H p xs) (h1 : atI xs k = some v) (h : Q v H) : rIxL K (.ref p) (.int k) H Q := ⟨p, xs, k, v, rfl, rfl, h0, h1, h⟩
theorem w_ixT {p : Addr} {xs : List V} {k : Int} (h0 : SqT K H p xs) (h1 : atI xs k = some v) (h : Q v H) : rIxT K (.ref p) (.int k) H Q := ⟨p, xs, k, v, rfl, rfl, h0, h1, h⟩
theorem w_setL {p : Addr} {xs : List V} {k : Int} {n : Nat} {w : V} {R : Hp → Prop} (h0 : H p = some (.lst xs)) (h1 : ixN xs.length k = some n) (h : ∀ H', Gr [p] H H' → H' p = some (.lst (xs.set n w)) → R H') : rSetL (.ref p) (.int k) w H R :=
  ⟨p, xs, k, n, rfl, rfl, h0, h1, h _ (Gr.wr h0) upd_same⟩
theorem w_gsub {to ti : TE} {t : TSet} {QS : L2.St → Hp → Prop} (h : to σ H fun o H1 => ti σ H1 fun i H2 => t o i v H2 fun H3 => QS σ H3) : gSub to ti t v σ H QS := h
theorem w_bm {T : String} {r : V → List V → Hp → VK → Prop} {to : TE} (h : to σ H fun x H1 => tyV K T x H1 ∧ tA σ H1 fun xs H2 => r x xs H2 Q) : tBM K T r to tA σ H Q := h
theorem w_bm0 {T : String} {r : V → List V → Hp → VK → Prop} {to : TE} (h : to σ H fun x H1 => tyV K T x H1 ∧ r x [] H1 Q) : tBM0 K T r to σ H Q := h
theorem w_ty {p : Addr} {xs : List V} {P : Prop} (h0 : SqL K H p xs) (h : P) : tyV K "list" (.ref p) H ∧ P := ⟨.inl ⟨rfl, _, h0⟩, h⟩
theorem w_app {p : Addr} {xs : List V} (h0 : H p = some (.lst xs)) (h1 : xs.length < sizeLine) (h : ∀ H', Gr [p] H H' → H' p = some (.lst (xs ++ [v])) → Q .non H') : rAppend (.ref p) [v] H Q :=
  ⟨p, xs, v, rfl, rfl, h0, h1, h _ (Gr.wr h0) upd_same⟩
theorem w_popAt {p : Addr} {xs : List V} {k : Int} {n : Nat} (h0 : H p = some (.lst xs)) (h1 : 0 ≤ k) (h2 : k < 2 ^ 63) (hn : k.toNat = n) (h3 : xs[n]? = some v) (h : ∀ H', Gr [p] H H' → H' p = some (.lst (xs.eraseIdx n)) → Q v H') : rPopAt (.ref p) [.int k] H Q := by
  have hl : n < xs.length := (List.getElem?_eq_some_iff.mp h3).1
  refine ⟨p, xs, k, n, v, rfl, rfl, h0, by omega, h2, ?_, h3, h _ (Gr.wr h0) upd_same⟩
  exact (ixN_seq (show ixN xs.length k = some n by unfold ixN; rw [if_pos h1, if_pos (by omega), hn])).1
theorem w_len {p : Addr} {xs : List V} (h0 : SqL K H p xs ∨ SqT K H p xs) (h : Q (.int xs.length) H) : rLenA K [.ref p] H Q := ⟨p, xs, rfl, h0, h⟩
theorem w_listOf {p : Addr} {xs : List V} (h0 : SqL K H p xs ∨ SqT K H p xs) (h : ∀ l H', H l = none → Gr [] H H' → H' l = some (.lst xs) → Q (.ref l) H') : rListOf K [.ref p] H Q :=
  ⟨p, xs, rfl, h0, fun l hl => h l _ hl (Gr.new hl) upd_same⟩
theorem w_tupOfL {p : Addr} {xs : List V} (h0 : SqL K H p xs) (h : ∀ l H', H l = none → Gr [] H H' → H' l = some (.tup xs) → Q (.ref l) H') : rTupleOf K [.ref p] H Q :=
  ⟨p, xs, rfl, .inl ⟨h0, fun l hl => h l _ hl (Gr.new hl) upd_same⟩⟩
theorem w_tupOfT {p : Addr} {xs : List V} (h0 : SqT K H p xs) (h : Q (.ref p) H) : rTupleOf K [.ref p] H Q := ⟨p, xs, rfl, .inr ⟨h0, h⟩⟩
theorem w_abs (h : Q (.int (if i < 0 then -i else i)) H) : rAbs [.int i] H Q := ⟨i, rfl, h⟩
theorem w_int (h : Q (.int i) H) : rInt1 [.int i] H Q := .inl ⟨i, rfl, h⟩
theorem w_call {sp : Sp} {E : L2.St → XK} (h : tA σ H fun vs H1 => sp vs H1 Q (E σ)) : tCallS sp E tA σ H Q := h
theorem w_callD {sp : Sp} {dvs : List V} {E : L2.St → XK} (h : tA σ H fun vs H1 => sp (vs ++ dvs) H1 Q (E σ)) : tCallSD sp dvs E tA σ H Q := h
theorem w_call1 {sp : Sp} {dvs : List V} {E : XK} (h : tA σ H fun vs H1 => sp (vs ++ dvs) H1 Q E) : tCall sp dvs E tA σ H Q := h
theorem w_iteI {a b : Int} {A B : Prop} (h1 : a = b → A) (h2 : a ≠ b → B) : if decide (V.int a = V.int b) = true then A else B := by
  by_cases e : a = b
  · rw [if_pos (decide_eq_true (by rw [e]))]; exact h1 e
  · rw [if_neg (by simpa using e)]; exact h2 e
theorem w_iteIN {a b : Int} {A B : Prop} (h1 : a ≠ b → A) (h2 : a = b → B) : if (!decide (V.int a = V.int b)) = true then A else B := by
  by_cases e : a = b
  · rw [if_neg (by simpa using e)]; exact h2 e
  · rw [if_pos (by simpa using e)]; exact h1 e
theorem w_iteP {p : Prop} [Decidable p] {A B : Prop} (h1 : p → A) (h2 : ¬ p → B) : if decide p = true then A else B := by
  by_cases e : p
  · rw [if_pos (decide_eq_true e)]; exact h1 e
  · rw [if_neg (by simpa using e)]; exact h2 e
theorem w_iteNP {p : Prop} [Decidable p] {A B : Prop} (h1 : ¬ p → A) (h2 : p → B) : if (!decide p) = true then A else B := by
  by_cases e : p
  · rw [if_neg (by simpa using e)]; exact h2 e
  · rw [if_pos (by simpa using e)]; exact h1 e
theorem w_iteB {b : Bool} {A B : Prop} (h1 : b = true → A) (h2 : b = false → B) : if b = true then A else B := by
  cases b with
  | true => exact h1 rfl
  | false => exact h2 rfl
theorem w_T {A B : Prop} (h : A) : if true = true then A else B := by rw [if_pos rfl]; exact h
theorem w_F {A B : Prop} (h : B) : if false = true then A else B := by rw [if_neg Bool.false_ne_true]; exact h
theorem w_nT {A B : Prop} (h : B) : if (!true) = true then A else B := by rw [if_neg (by decide)]; exact h
theorem w_nF {A B : Prop} (h : A) : if (!false) = true then A else B := by rw [if_pos (by decide)]; exact h
theorem w_is {b b' : Bool} {R : Bool → Prop} (e : b = b') (h : R b') : R b := by rw [e]; exact h
end
/-- an address apart, by what stands there -/
theorem sql_of {K : PySem.W.Frag} {H : Hp} {a : Addr} {xs : List V} (h : H a = some (.lst xs)) : SqL K H a xs := SqL.of h
theorem small {n : Nat} (h : n ≤ 100000) : n ≤ sizeLine := Nat.le_trans h (by decide)
theorem smallLt {n : Nat} (h : n < 100000) : n < sizeLine := Nat.lt_of_lt_of_le h (by decide)

/-! ### a list that nobody writes any more is frozen behind a call -/
theorem HOk.frzL {P : Program} {w : World} {H : Hp} {h : Heap} {a : Addr} {xs : List V} {o : Obj} (ok : HOk P w H h) (e : H a = some (.lst xs)) (ho : h.get? a = some o) : HOk P w (upd H a (.frz o (.lst xs))) h := fun b u q => by
  have ne : ∀ {b : Addr} {v : HO}, H b = some v → v ≠ .lst xs → b ≠ a := fun {b v} h1 h2 z => by
    subst z
    rw [e] at h1
    exact h2 (Option.some.inj h1).symm
  by_cases hb : b = a
  · subst hb
    rw [upd_same] at q
    cases q
    exact ⟨ho, ok b _ e⟩
  · rw [upd_ne hb] at q
    exact (ok b u q).stay (fun _ _ _ r => r) (fun c r => by rw [upd_ne (ne r (by intro z; cases z))]; exact r) fun c ys r => by rw [upd_ne (ne r (by intro z; cases z))]; exact r
theorem Un.frzL {fs ex : List Addr} {H H' : Hp} {h h' : Heap} {a : Addr} {xs : List V} {o : Obj} (u : Un fs ex H H' h h') (e : H' a = some (.lst xs)) : Un fs ex H (upd H' a (.frz o (.lst xs))) h h' := by
  have ne : ∀ {b : Addr} {v : HO}, H' b = some v → v ≠ .lst xs → b ≠ a := fun {b v} h1 h2 z => by
    subst z
    rw [e] at h1
    exact h2 (Option.some.inj h1).symm
  refine ⟨u.keep, u.slot, fun b ob q n hx => ?_, u.there, fun b ys q => ?_, fun b ob v q => ?_, fun b ps q => ?_⟩
  · have z := u.free b ob q n hx
    rw [upd_ne (ne_of_none e z).symm]
    exact z
  · have z := u.tups b ys q
    rw [upd_ne (ne z (by intro z; cases z))]
    exact z
  · have z := u.frzs b ob v q
    rw [upd_ne (ne z (by intro z; cases z))]
    exact z
  · obtain ⟨more, z⟩ := u.tbls b ps q
    exact ⟨more, by rw [upd_ne (ne z (by intro z; cases z))]; exact z⟩
theorem fnOk_frz {P : Program} {w : World} {K : PySem.W.Frag} {mg : Str → Option Value} {base : Heap} {CX : CXT} {k : Nat} {f : Addr} {fd : FuncData} {ps : List Str} {sp : Sp} (F : FnOk P w K mg base CX k f fd ps sp) :
    FnOk P w K mg base CX k f fd ps (fun vs H Q E => sp vs H (fun v H1 => ∃ a xs, H1 a = some (.lst xs) ∧ ∀ o, Q v (upd H1 a (.frz o (.lst xs)))) E) := by
  refine ⟨fun vs H Q E q => F.len vs H _ E q, fun A outer s H args us vs Q E hr he hb hv hs => codeAny_mono (F.run A outer s H args us vs _ E hr he hb hv hs) fun r s' hq => ?_⟩
  cases r with
  | error e => exact hq
  | ok fl =>
    cases fl with
    | ret u =>
      obtain ⟨v, H', os, bare, un, hok, rv, a, xs, ea, q⟩ := hq
      obtain ⟨_, its, n, _, ho⟩ := hok a _ ea
      exact ⟨v, _, os, bare, Un.frzL un ea, HOk.frzL hok ea ho, rv, q _⟩
    | next => exact False.elim hq
    | brk => exact False.elim hq
    | cont => exact False.elim hq
theorem Gr.frz {H : Hp} {a : Addr} {xs : List V} {o : Obj} (h : H a = some (.lst xs)) : Gr [a] H (upd H a (.frz o (.lst xs))) := Gr.wr h

/-! ### what the heap holds, sought along its growth -/
section
variable {K : PySem.W.Frag} {H H' : Hp} {S : List Addr} {a l l2 l3 : Addr} {o : HO} {ob : Obj} {xs : List V}
theorem Gr.keepB (g : Gr (l :: S) H H') (h : H a = some o) (hn : pers o = true ∨ a ∉ l :: S) : H' a = some o := by
  rcases hn with hn | hn
  · exact g.get h hn
  · exact g.keep _ _ h hn
theorem nin0 : a ∉ ([] : List Addr) := by simp
theorem nin1 (h : a ≠ l) : a ∉ [l] := by simpa using h
theorem nin2 (h : a ≠ l) (h2 : a ≠ l2) : a ∉ [l, l2] := by simp [h, h2]
theorem nin3 (h : a ≠ l) (h2 : a ≠ l2) (h3 : a ≠ l3) : a ∉ [l, l2, l3] := by simp [h, h2, h3]
theorem sql_frz (h : H a = some (.frz ob (.lst xs))) : SqL K H a xs := .inl (.inr ⟨ob, h⟩)
theorem sqt_of (h : H a = some (.tup xs)) : SqT K H a xs := .inl (.inl h)
theorem Gr.sqlB (g : Gr (l :: S) H H') (h : SqL K H a xs) (hn : a ∉ l :: S) : SqL K H' a xs := g.sql h hn
end

/-! ### a place where ways join -/
def tCut (t u : TS) : TS := fun D σ H => ∃ R : L2.St → Hp → Prop, t { D with nx := R } σ H ∧ ∀ σ' H', R σ' H' → u D σ' H'
theorem pss_cut {X : Cx} {st : Stmt} {rest : List Stmt} {t u : TS} (h1 : PS X st t) (h2 : PSs X rest u) : PSs X (st :: rest) (tCut t u) := by
  refine ⟨fun pins s σ H D I h => ?_⟩
  obtain ⟨R, h, hk⟩ := h
  refine wpAny_execs_cons (thn (h1.run pins s σ H { D with nx := R } I h) fun f s1 q => ?_)
  cases f with
  | next =>
    obtain ⟨σ', H', I', q⟩ := q
    exact h2.run pins s1 σ' H' D I' (hk σ' H' q)
  | _ => exact q
theorem w_cut {ts us : TS} {D : Ends} {σ : L2.St} {H : Hp} (R : L2.St → Hp → Prop) (h : ts { D with nx := R } σ H) (k : ∀ σ' H', R σ' H' → us D σ' H') : tCut ts us D σ H := ⟨R, h, k⟩

/-! ### growth, put together -/
section
variable {H H1 H2 : Hp} {S S' : List Addr} {l l2 : Addr} {xs : List V} {o : HO}
theorem Gr.step (g2 : Gr S' H1 H2) (g1 : Gr S H H1) (hs : ∀ a, a ∈ S' → a ∈ S ∨ H a = none) : Gr S H H2 := g1.trans g2 hs
theorem sub0 : ∀ a, a ∈ ([] : List Addr) → a ∈ S ∨ H a = none := fun _ h => by cases h
theorem sub1 (h : l ∈ S ∨ H l = none) : ∀ a, a ∈ [l] → a ∈ S ∨ H a = none := fun a m => by
  have e : a = l := by simpa using m
  subst e
  exact h
theorem sub2 (h : l ∈ S ∨ H l = none) (h2 : l2 ∈ S ∨ H l2 = none) : ∀ a, a ∈ [l, l2] → a ∈ S ∨ H a = none := fun a m => by
  rcases List.mem_cons.mp m with e | m
  · subst e; exact h
  · exact sub1 h2 a m
theorem Gr.same1 (h : H l = some o) (hp : pers o = false) : Gr [l] H H := (Gr.refl H).weak fun a m => by
  have e : a = l := by simpa using m
  subst e
  exact ⟨_, h, hp⟩
theorem Gr.same2 (h : H l = some o) (hp : pers o = false) {o2 : HO} (h2 : H l2 = some o2) (hp2 : pers o2 = false) : Gr [l, l2] H H := (Gr.refl H).weak fun a m => by
  rcases List.mem_cons.mp m with e | m
  · subst e; exact ⟨_, h, hp⟩
  · have e : a = l2 := by simpa using m
    subst e; exact ⟨_, h2, hp2⟩
end
theorem atI_of {α : Type} {xs : List α} {i : Int} {v : α} (h0 : 0 ≤ i) (h : xs[i.toNat]? = some v) : atI xs i = some v := by
  have e := atI_nat h
  rw [Int.toNat_of_nonneg h0] at e
  exact e
theorem ints_at {ns : List Int} {i : Int} (h0 : 0 ≤ i) (h : i < ns.length) : ∃ x, atI (ns.map V.int) i = some (V.int x) ∧ ns[i.toNat]? = some x := by
  have hl : i.toNat < ns.length := by omega
  exact ⟨ns[i.toNat], atI_of h0 (by simp [hl]), by simp [hl]⟩

/-! ### == of data -/
/-- data without instances and truth values, nested to n -/
def D.dep : Nat → D → Bool
  | _, .int _ => true
  | _, .str s => (PyData.str s).canLay0
  | _, .non => true
  | _, .bl _ => false
  | _, .ins _ _ _ => false
  | 0, .tup _ => false
  | 0, .lst _ => false
  | n + 1, .tup ds => ds.all (D.dep n)
  | n + 1, .lst ds => ds.all (D.dep n)
mutual
def D.py : D → PyData
  | .non => .none
  | .bl b => .bool b
  | .int i => .int i
  | .str s => .str s
  | .tup ds => .tuple (D.pys ds)
  | .lst ds => .list (D.pys ds)
  | .ins _ _ _ => .none
def D.pys : List D → List PyData
  | [] => []
  | d :: ds => d.py :: D.pys ds
end
theorem canLay_pys {n : Nat} (ih : ∀ d : D, d.dep n = true → d.py.canLay0 = true ∧ d.py.depth ≤ n) : ∀ ds : List D, ds.all (D.dep n) = true → PyData.canLayAll0 (D.pys ds) = true ∧ PyData.depthAll (D.pys ds) ≤ n
  | [], _ => ⟨rfl, Nat.zero_le _⟩
  | d :: ds, h => by
    rw [List.all_cons, Bool.and_eq_true] at h
    obtain ⟨a1, a2⟩ := ih d h.1
    obtain ⟨b1, b2⟩ := canLay_pys ih ds h.2
    simp only [D.pys, PyData.canLayAll0, PyData.depthAll, a1, b1, Bool.and_self, true_and]
    omega
theorem canLay_py : ∀ (n : Nat) (d : D), d.dep n = true → d.py.canLay0 = true ∧ d.py.depth ≤ n := by
  intro n
  induction n with
  | zero =>
    intro d h
    cases d with
    | tup ds => cases h
    | lst ds => cases h
    | ins C ns ds => cases h
    | bl b => cases h
    | str s => exact ⟨h, Nat.zero_le _⟩
    | _ => exact ⟨rfl, Nat.zero_le _⟩
  | succ n ih =>
    intro d h
    cases d with
    | tup ds =>
      obtain ⟨a, b⟩ := canLay_pys ih ds h
      exact ⟨a, Nat.succ_le_succ b⟩
    | lst ds =>
      obtain ⟨a, b⟩ := canLay_pys ih ds h
      exact ⟨a, Nat.succ_le_succ b⟩
    | ins C ns ds => cases h
    | bl b => cases h
    | str s => exact ⟨h, Nat.zero_le _⟩
    | _ => exact ⟨rfl, Nat.zero_le _⟩
theorem shaped_py {n : Nat} {d : D} (h : d.dep n = true) (hn : n ≤ 64) : SeqAt.shaped d.py = true := by
  obtain ⟨a, b⟩ := canLay_py n d h
  unfold SeqAt.shaped
  rw [a, Bool.true_and]
  exact decide_eq_true (by omega)
theorem eqv_pys {n : Nat} (ih : ∀ d e : D, d.dep n = true → e.dep n = true → (PyData.eqv d.py e.py = true ↔ d = e)) : ∀ ds es : List D, ds.all (D.dep n) = true → es.all (D.dep n) = true → (PyData.eqvAll (D.pys ds) (D.pys es) = true ↔ ds = es)
  | [], [], _, _ => by simp [D.pys, PyData.eqvAll]
  | [], e :: es, _, _ => by simp [D.pys, PyData.eqvAll]
  | d :: ds, [], _, _ => by simp [D.pys, PyData.eqvAll]
  | d :: ds, e :: es, h, h' => by
    rw [List.all_cons, Bool.and_eq_true] at h h'
    simp only [D.pys, PyData.eqvAll, Bool.and_eq_true, ih d e h.1 h'.1, eqv_pys ih ds es h.2 h'.2, List.cons.injEq]
theorem eqv_py : ∀ (n : Nat) (d e : D), d.dep n = true → e.dep n = true → (PyData.eqv d.py e.py = true ↔ d = e) := by
  intro n
  induction n with
  | zero =>
    intro d e h h'
    cases d <;> first | (cases h; done) | (cases e <;> first | (cases h'; done) | simp [D.py, PyData.eqv])
  | succ n ih =>
    intro d e h h'
    cases d <;> first | (cases h; done) | (cases e <;> first | (cases h'; done) | (simp only [D.py, PyData.eqv, D.tup.injEq, D.lst.injEq]; exact eqv_pys ih _ _ h h') | simp [D.py, PyData.eqv])
mutual
theorem dp_py {K : PySem.W.Frag} {H : Hp} : ∀ {d : D} {v : V}, Rep K H d v → ∀ n, d.dep n = true → Dp K H v d.py
  | _, _, .non, _, _ => .non
  | _, _, .bl b, _, _ => .bl b
  | _, _, .int i, _, _ => .int i
  | _, _, .str s, _, _ => .str s
  | _, _, .tup h r, n, q => by
    cases n with
    | zero => cases q
    | succ n => exact .tup h (dp_pys r n q)
  | _, _, .lst h r, n, q => by
    cases n with
    | zero => cases q
    | succ n => exact .lst h (dp_pys r n q)
  | _, _, .ins h i l r, n, q => by
    cases n <;> cases q
theorem dp_pys {K : PySem.W.Frag} {H : Hp} : ∀ {ds : List D} {vs : List V}, Reps K H ds vs → ∀ n, ds.all (D.dep n) = true → DpAll K H vs (D.pys ds)
  | _, _, .nil, _, _ => .nil
  | _, _, .cons h r, n, q => by
    rw [List.all_cons, Bool.and_eq_true] at q
    exact .cons (dp_py h n q.1) (dp_pys r n q.2)
end
section
variable {K : PySem.W.Frag} {H : Hp} {Q : VK} {d e : D} {v w : V}
theorem w_eqD (n : Nat) (hv : Rep K H d v) (hw : Rep K H e w) (hd : d.dep n = true) (he : e.dep n = true) (hn : n ≤ 64) (h1 : d = e → Q (.bl true) H) (h2 : d ≠ e → Q (.bl false) H) : rEqD K v w H Q := by
  refine ⟨d.py, e.py, dp_py hv n hd, dp_py hw n he, shaped_py hd hn, shaped_py he hn, ?_⟩
  by_cases c : d = e
  · rw [(eqv_py n d e hd he).mpr c]
    exact h1 c
  · have z : PyData.eqv d.py e.py = false := by
      cases q : PyData.eqv d.py e.py with
      | false => rfl
      | true => exact absurd ((eqv_py n d e hd he).mp q) c
    rw [z]
    exact h2 c
theorem w_neD (n : Nat) (hv : Rep K H d v) (hw : Rep K H e w) (hd : d.dep n = true) (he : e.dep n = true) (hn : n ≤ 64) (h1 : d = e → Q (.bl false) H) (h2 : d ≠ e → Q (.bl true) H) : rNeD K v w H Q := by
  refine ⟨d.py, e.py, dp_py hv n hd, dp_py hw n he, shaped_py hd hn, shaped_py he hn, ?_⟩
  by_cases c : d = e
  · rw [(eqv_py n d e hd he).mpr c]
    exact h1 c
  · have z : PyData.eqv d.py e.py = false := by
      cases q : PyData.eqv d.py e.py with
      | false => rfl
      | true => exact absurd ((eqv_py n d e hd he).mp q) c
    rw [z]
    exact h2 c
end
theorem Rep.grB {K : PySem.W.Frag} {H H' : Hp} {l : Addr} {S : List Addr} {d : D} {v : V} (g : Gr (l :: S) H H') (h : Rep K H d v) (q : d.pure = true) : Rep K H' d v := Rep.gr g h q
def dInts (ns : List Int) : List D := ns.map D.int
theorem reps_ints {K : PySem.W.Frag} {H : Hp} : ∀ ns : List Int, Reps K H (dInts ns) (ns.map V.int)
  | [] => .nil
  | n :: ns => .cons (.int n) (reps_ints ns)
theorem dep_ints (ns : List Int) (n : Nat) : (dInts ns).all (D.dep n) = true := by
  rw [List.all_eq_true]
  intro d hd
  obtain ⟨i, _, rfl⟩ := List.mem_map.mp hd
  cases n <;> rfl
theorem dInts_inj {ns ms : List Int} (h : dInts ns = dInts ms) : ns = ms := by
  unfold dInts at h
  exact List.map_inj_right (fun _ _ e => by injection e) |>.mp h
theorem pure_ints (ns : List Int) : D.pures (dInts ns) = true := by
  induction ns with
  | nil => rfl
  | cons n ns ih => exact ih
theorem rep_lstI {K : PySem.W.Frag} {H : Hp} {a : Addr} {ns : List Int} (h : SqL K H a (ns.map V.int)) : Rep K H (.lst (dInts ns)) (.ref a) := .lst h (reps_ints ns)
theorem rep_tupI {K : PySem.W.Frag} {H : Hp} {a : Addr} {ns : List Int} (h : SqT K H a (ns.map V.int)) : Rep K H (.tup (dInts ns)) (.ref a) := .tup h (reps_ints ns)

/-! ### keywords over a default -/
theorem kbn1 {K : PySem.W.Frag} {x qual : Str} {params : Arguments} {body : List Stmt} {scope : Scope} {dvs : List V} {f : Addr} {fd : FuncData} {ps : List Str} (F : FunD K x qual params body scope dvs [] f fd) (n : Nat) (ks : List Str)
    (hd : dvs ≠ []) (h : ∀ (T : Addr) (kV doc pm : Value) (an : Option Addr) (cdv ct : Value) (us its ws : List Value), us.length = n → its.length = dvs.length → ws.length = ks.length →
      ∃ k, bindArgs (PySem.W.fnOf x qual params body scope (.ref T) kV doc pm an cdv ct) ⟨us, ks.zip ws⟩ = seqItems? (.ref T) >>= k ∧ k (some its.toArray) = pure (ps.zip (us ++ ws))) :
    KBn K fd ps n ks (fun us ws => us ++ ws) (fun vs zs => vs ++ zs) := by
  obtain ⟨oc, od, dV, kV, doc, pm, an, cdv, ct, osl, rfl, lk, hcd, hD, hK⟩ := F.ex
  rcases hD with ⟨e, _⟩ | ⟨_, T, o, its, m, rfl, lT, oT, rT⟩
  · exact absurd e hd
  · refine ⟨fun s us ws X l1 l2 => BindsTo.of_looks fun M => ?_, fun r1 r2 => r1.append r2⟩
    obtain ⟨k, e1, e2⟩ := h T kV doc pm an cdv ct us its ws l1 rT.length.symm l2
    rw [e1]
    exact looks_items X lT oT (.of_pure e2)
theorem w_callN {n m : Nat} {sp : Sp} {gV : List V → List V → List V} {E : XK} {t tk : TA} {σ : L2.St} {H : Hp} {Q : VK} (h : t σ H fun vs H1 => tk σ H1 fun zs H2 => vs.length = n ∧ zs.length = m ∧ sp (gV vs zs) H2 Q E) : tCallN n m sp gV E t tk σ H Q := h

/-! ### the call with keywords, at the slots -/
def tCallNS (n m : Nat) (sp : Sp) (gV : List V → List V → List V) (E : L2.St → XK) (t tk : TA) : TE := fun σ H Q => t σ H fun vs H1 => tk σ H1 fun zs H2 => vs.length = n ∧ zs.length = m ∧ sp (gV vs zs) H2 Q (E σ)
section
variable {X : Cx} {CX : CXT} {k n : Nat} {f : Addr} {fd : FuncData} {ps ks : List Str} {sp : Sp} {E : L2.St → XK} {x : Str} {p pos : Pos} {e : Expr} {es : List Expr} {kws : List Keyword} {t tk : TA} {g : List Value → List Value → List Value} {gV : List V → List V → List V}
theorem run_fnNS {pins : List (Addr × Obj)} {σ : L2.St} {H : Hp} {s : Shared} {Q : VK} {us ws : List Value} {vs zs : List V} (F : FnOk X.prog X.w X.K X.mg X.base CX k f fd ps sp) (hr : Room k X.A) (hb : KBn X.K fd ps n ks g gV) (hx : PassesAt CX X σ (E σ))
    (I : Inv X pins σ H s) (r : Vals vs us) (rz : Vals zs ws) (l1 : vs.length = n) (l2 : zs.length = ks.length) (h : sp (gV vs zs) H Q (E σ)) : wpAny (model X.prog X.w) X.A (call (.ref f) us (ks.zip ws)) (EP X pins σ Q) X.xe s := by
  have r2 := hb.rel r rz
  refine wpAny_call (codeAny_mono (F.run X.A X.stack s H ⟨us, ks.zip ws⟩ (g us ws) (gV vs zs) Q (E σ) hr I.env0 (hb.to s us ws I.kIn (r.length.symm.trans l1) (rz.length.symm.trans l2)) r2 h) fun r s' hq => ?_)
  cases r with
  | error e => exact hx pins H s e s' I hq
  | ok fl =>
    cases fl with
    | ret u => exact I.after hq
    | next => exact False.elim hq
    | brk => exact False.elim hq
    | cont => exact False.elim hq
/-- f(e, .., k = v, ..) -/
theorem pe_callKS (F : FnOk X.prog X.w X.K X.mg X.base CX k f fd ps sp) (hr : Room k X.A) (hg : Gl X x) (hm : X.mg x = some (.ref f)) (hk : PySem.W.keepIn X.K (.ref f) = true) (hb : KBn X.K fd ps n ks g gV) (hx : ∀ σ, PassesAt CX X σ (E σ))
    (ha : PA X (e :: es) t) (hkw : PK X kws tk) (hall : (backToKw pos (keywordEach kws X.env)).all (·.1.isSome) = true := by rfl) (hks : (backToKw pos (keywordEach kws X.env)).filterMap (·.1) = ks := by rfl)
    (hdb : (x == ("__debug__" : Str)) = false := by decide) (he : starEach (e :: es) X.env = (false, eval e X.env) :: starEach es X.env := by rfl)
    (hpl : ((backTo pos (starEach (e :: es) X.env)).any (·.1) || (backToKw pos (keywordEach kws X.env)).any (·.1.isNone)) = false := by rfl) :
    PE X (.Call (.Name x p) (e :: es) kws pos) (tCallNS n ks.length sp gV E t tk) := by
  refine ⟨fun pins s σ H Q I h => ?_⟩
  refine wpAny_Call_Name_kw (ld_glob I hg hm ?_ hdb)
  refine PySem.W.callWith_KW (h₀ := X.base) I.ok.mod.kin hk hall (thn (ha.run pos pins s σ H _ I h) fun us s1 ⟨vs, H1, I1, r, q⟩ => ?_) hpl he
  refine thn (hkw.run pos pins s1 σ H1 _ I1 q) fun ws s2 ⟨zs, H2, I2, rz, l1, l2, q2⟩ => ⟨I2.kIn, ?_⟩
  rw [hks]
  exact run_fnNS F hr hb (hx σ) I2 r rz l1 l2 q2
end
theorem w_callNS {n m : Nat} {sp : Sp} {gV : List V → List V → List V} {E : L2.St → XK} {t tk : TA} {σ : L2.St} {H : Hp} {Q : VK} (h : t σ H fun vs H1 => tk σ H1 fun zs H2 => vs.length = n ∧ zs.length = m ∧ sp (gV vs zs) H2 Q (E σ)) : tCallNS n m sp gV E t tk σ H Q := h

/-! ### isinstance -/
def D.tyn : D → String
  | .non => "NoneType"
  | .bl _ => "bool"
  | .int _ => "int"
  | .str _ => "str"
  | .tup _ => "tuple"
  | .lst _ => "list"
  | .ins _ _ _ => ""
def D.isIns : D → Bool
  | .ins _ _ _ => true
  | _ => false
theorem tyx_of {K : PySem.W.Frag} {H : Hp} {d : D} {v : V} (h : Rep K H d v) (n : d.isIns = false) : TyX K H v (.type d.tyn) := by
  cases h with
  | non => exact .base .non
  | bl b => exact .base (.bl b)
  | int i => exact .base (.int i)
  | str s => exact .base (.str s)
  | tup h r =>
    rcases h with (h | ⟨o, h⟩) | ⟨o, its, k, h1, h2, _⟩
    · exact .base (.tup h)
    · exact .fTuple h
    · exact .kTuple h1 h2
  | lst h r =>
    rcases h with (h | ⟨o, h⟩) | ⟨o, its, k, h1, h2, _⟩
    · exact .base (.lst h)
    · exact .base (.frz h)
    · exact .kList h1 h2
  | ins h i l r => cases n
section
variable {K : PySem.W.Frag} {H : Hp} {Q : VK} {d : D} {v : V} {b : Bool} {T : String}
/-- isinstance(x, T), T built in -/
theorem w_isi (h : Rep K H d v) (n : d.isIns = false) (hk : kitB d.tyn T = some b) (q : Q (.bl b) H) : rIsi K [v, .ty T] H Q := ⟨v, .ty T, _, _, b, rfl, .ty T, tyx_of h n, kit_ty hk, q⟩
end
/-- an exception class of the text that derives ValueError -/
def XcOk (K : PySem.W.Frag) (C : Addr) : Prop := PySem.W.excIn K C He.veBase "ValueError.__new__" = true ∧ PySem.W.keepIn K (.ref C) = true ∧ PySem.W.subIn K (.ref C) (.type "BaseException") = some true ∧ PySem.W.typeIn K (.ref C) = some (.type "type")
/-- isinstance(e, C), e the exception that the suite holds -/
def rIsEx (K : PySem.W.Frag) (a : Addr) (cls : Value) (d : Option Addr) : List V → Hp → VK → Prop := fun xs H Q => ∃ (D C : Addr) (b : Bool), cls = .ref D ∧ d = none ∧ ExcC K D ∧ xs = [.ref a, .ref C] ∧ PySem.W.kitOne K (.ref D) (.ref C) = some b ∧ Q (.bl b) H
theorem cr_isE {X : Cx} {a : Addr} {oe : Obj} {cls : Value} {d : Option Addr} {pn : List (Addr × Obj)} (hz : Zc cls d oe) (hf : ∃ vs, oe.data = .fields vs) : CallR (X.suite a ((a, oe) :: pn)) (.builtin "isinstance") (rIsEx X.K a cls d) := by
  intro pins s σ H xs us Q I r h
  obtain ⟨D, C, b, e1, e2, hC, e3, hk, q⟩ := h
  subst e1 e2 e3
  exact call_isE hC hz hf pins s σ H _ us Q I r ⟨.ref C, .ref C, b, rfl, fun u ru => ru, hk, q⟩
def excCB (K : PySem.W.Frag) (D : Addr) : Bool := decide (PySem.W.findIn K (.ref D) "__getattribute__" = some (some (.builtin "BaseException.__getattribute__"))) && (decide (PySem.W.findIn K (.ref D) "__getattr__" = some none) && (decide (PySem.W.subIn K (.ref D) (.type "BaseException") = some true) &&
  (PySem.W.hasDictIn K D && (decide (PySem.W.findIn K (.ref D) "__class__" = some (some (.builtin "object.__class__"))) && (decide (PySem.W.specialIn K (.builtin "object.__class__") "__get__" = some (some (.builtin "getset_descriptor.__get__"))) &&
  (decide (PySem.W.takesIn K (.builtin "object.__class__") = some true) && decide (PySem.W.mroIn K D (.type "object") = some true)))))))
theorem excCB_ok {K : PySem.W.Frag} {D : Addr} (h : excCB K D = true) : ExcC K D := by
  unfold excCB at h
  simp only [Bool.and_eq_true, decide_eq_true_eq] at h
  obtain ⟨h1, h2, h3, h4, h5, h6, h7, h8⟩ := h
  exact ⟨h1, h2, h3, h4, h5, h6, h7, h8⟩
theorem w_isE {K : PySem.W.Frag} {a D C : Addr} {b : Bool} {H : Hp} {Q : VK} (hC : ExcC K D) (hk : PySem.W.kitOne K (.ref D) (.ref C) = some b) (q : Q (.bl b) H) : rIsEx K a (.ref D) none [.ref a, .ref C] H Q := ⟨D, C, b, rfl, rfl, hC, rfl, hk, q⟩
/-- the clause that takes an exception: the first that matches -/
theorem w_hd {K : PySem.W.Frag} {Wo : WX} {D : Ends} {c : Value} {i : Nat} {ts : TSu} {r : List (Value × Option Nat × TSu)} {cls : Value} {d : Option Addr} {σ : L2.St} {H : Hp} (h : PySem.W.exmOne K cls c = some true) (k : ∀ a, H a = none → ts a cls d (endsNo i D) (σ.set i (some (.ref a))) H) :
    wHds K Wo D ((c, some i, ts) :: r) cls d σ H := ⟨true, h, fun _ a ha => k a ha, fun q => by cases q⟩
theorem w_hdN {K : PySem.W.Frag} {Wo : WX} {D : Ends} {c : Value} {ts : TSu} {r : List (Value × Option Nat × TSu)} {cls : Value} {d : Option Addr} {σ : L2.St} {H : Hp} (h : PySem.W.exmOne K cls c = some true) (k : ∀ a, H a = none → ts a cls d D σ H) :
    wHds K Wo D ((c, none, ts) :: r) cls d σ H := ⟨true, h, fun _ a ha => k a ha, fun q => by cases q⟩
theorem w_hdF {K : PySem.W.Frag} {Wo : WX} {D : Ends} {c : Value} {o : Option Nat} {ts : TSu} {r : List (Value × Option Nat × TSu)} {cls : Value} {d : Option Addr} {σ : L2.St} {H : Hp} (h : PySem.W.exmOne K cls c = some false) (k : wHds K Wo D r cls d σ H) :
    wHds K Wo D ((c, o, ts) :: r) cls d σ H := ⟨false, h, fun q => by (cases q), fun _ => k⟩
/-! ### data, nested so far -/
def D.lev : Nat → D → Bool
  | _, .int _ => true
  | _, .str _ => true
  | _, .non => true
  | _, .bl _ => true
  | _, .ins _ _ _ => false
  | 0, .tup _ => false
  | 0, .lst _ => false
  | n + 1, .tup ds => decide (ds.length ≤ 1000000) && ds.all (D.lev n)
  | n + 1, .lst ds => decide (ds.length ≤ 1000000) && ds.all (D.lev n)
theorem lev_ints (ns : List Int) (n : Nat) : (dInts ns).all (D.lev n) = true := by
  rw [List.all_eq_true]
  intro d hd
  obtain ⟨i, _, rfl⟩ := List.mem_map.mp hd
  cases n <;> rfl
theorem reps_get {K : PySem.W.Frag} {H : Hp} : ∀ {ds : List D} {vs : List V} {i : Nat} {d : D}, Reps K H ds vs → ds[i]? = some d → ∃ v, vs[i]? = some v ∧ Rep K H d v
  | _, _, _, _, .nil, e => by simp at e
  | _, _, 0, _, .cons h _, e => by
    simp at e
    subst e
    exact ⟨_, rfl, h⟩
  | _, _, i + 1, _, .cons _ r, e => by
    obtain ⟨v, h1, h2⟩ := reps_get (i := i) r (by simpa using e)
    exact ⟨v, by simpa using h1, h2⟩

/-! ### isinstance of data, by the class named-/
@[reducible] def D.isTup : D → Bool
  | .tup _ => true
  | _ => false
theorem w_isi_tuple {K : PySem.W.Frag} {H : Hp} {Q : VK} {d : D} {v : V} (h : Rep K H d v) (n : d.isIns = false) (q : Q (.bl d.isTup) H) : rIsi K [v, .ty "tuple"] H Q :=
  w_isi h n (by cases d <;> first | (cases n; done) | (dsimp only [D.tyn, D.isTup]; decide +kernel)) q
@[reducible] def D.isLst : D → Bool
  | .lst _ => true
  | _ => false
theorem w_isi_list {K : PySem.W.Frag} {H : Hp} {Q : VK} {d : D} {v : V} (h : Rep K H d v) (n : d.isIns = false) (q : Q (.bl d.isLst) H) : rIsi K [v, .ty "list"] H Q :=
  w_isi h n (by cases d <;> first | (cases n; done) | (dsimp only [D.tyn, D.isLst]; decide +kernel)) q
@[reducible] def D.isBl : D → Bool
  | .bl _ => true
  | _ => false
theorem w_isi_bool {K : PySem.W.Frag} {H : Hp} {Q : VK} {d : D} {v : V} (h : Rep K H d v) (n : d.isIns = false) (q : Q (.bl d.isBl) H) : rIsi K [v, .ty "bool"] H Q :=
  w_isi h n (by cases d <;> first | (cases n; done) | (dsimp only [D.tyn, D.isBl]; decide +kernel)) q
@[reducible] def D.isInt : D → Bool
  | .int _ => true
  | .bl _ => true
  | _ => false
theorem w_isi_int {K : PySem.W.Frag} {H : Hp} {Q : VK} {d : D} {v : V} (h : Rep K H d v) (n : d.isIns = false) (q : Q (.bl d.isInt) H) : rIsi K [v, .ty "int"] H Q :=
  w_isi h n (by cases d <;> first | (cases n; done) | (dsimp only [D.tyn, D.isInt]; decide +kernel)) q
@[reducible] def D.isStr : D → Bool
  | .str _ => true
  | _ => false
theorem w_isi_str {K : PySem.W.Frag} {H : Hp} {Q : VK} {d : D} {v : V} (h : Rep K H d v) (n : d.isIns = false) (q : Q (.bl d.isStr) H) : rIsi K [v, .ty "str"] H Q :=
  w_isi h n (by cases d <;> first | (cases n; done) | (dsimp only [D.tyn, D.isStr]; decide +kernel)) q

/-! ### loops, what they walk -/
def rRng1 : List V → Hp → (It → Hp → Prop) → Prop := fun vs H R => ∃ j : Int, vs = [.int j] ∧ -(2 ^ 62) ≤ j ∧ j < 2 ^ 62 ∧ R (Itr 0 j.toNat) H
def rRng2 : List V → Hp → (It → Hp → Prop) → Prop := fun vs H R => ∃ i j : Int, vs = [.int i, .int j] ∧ (-(2 ^ 62) ≤ i ∧ i < 2 ^ 62 ∧ -(2 ^ 62) ≤ j ∧ j < 2 ^ 62) ∧ R (Itr i (j - i).toNat) H
def rRng3 : List V → Hp → (It → Hp → Prop) → Prop := fun vs H R => ∃ (i j c : Int) (n : Nat), vs = [.int i, .int j, .int c] ∧ RgC i j c n ∧ R (Itc i c n) H
def rItL (K : PySem.W.Frag) : V → Hp → (It → Hp → Prop) → Prop := fun x H R => ∃ a, x = .ref a ∧ (∃ xs, SqL K H a xs) ∧ R (Itl K a) H
def rItT (K : PySem.W.Frag) : V → Hp → (It → Hp → Prop) → Prop := fun x H R => ∃ a, x = .ref a ∧ (∃ xs, SqT K H a xs) ∧ R (Itt K a) H
section
variable {K : PySem.W.Frag} {σ : L2.St} {H : Hp} {D : Ends} {ta : TA} {te : TE} {R : It → Hp → Prop} {g : TG} {tb : TS} {i j : Int} {n : Nat} {a : Addr} {xs : List V}
theorem w_iRng1 (h : ta σ H fun vs H1 => rRng1 vs H1 R) : iRng1 ta σ H R := h
theorem w_iRng2 (h : ta σ H fun vs H1 => rRng2 vs H1 R) : iRng2 ta σ H R := h
theorem w_iRng3 (h : ta σ H fun vs H1 => rRng3 vs H1 R) : iRng3 ta σ H R := h
theorem w_iList (h : te σ H fun x H1 => rItL K x H1 R) : iList K te σ H R := h
theorem w_iTup (h : te σ H fun x H1 => rItT K x H1 R) : iTup K te σ H R := h
theorem w_rRng1 (h0 : j ≤ 1000000000) (h1 : -1000000000 ≤ j) (h : R (Itr 0 j.toNat) H) : rRng1 [.int j] H R := ⟨j, rfl, by omega, by omega, h⟩
theorem w_rRng1N (h0 : n ≤ 1000000000) (h : R (Itr 0 n) H) : rRng1 [.int n] H R := ⟨n, rfl, by omega, by omega, h⟩
theorem w_rRng2 (h0 : j ≤ 1000000000) (h1 : -1000000000 ≤ j) (h2 : i ≤ 1000000000) (h3 : -1000000000 ≤ i) (h : R (Itr i (j - i).toNat) H) : rRng2 [.int i, .int j] H R := ⟨i, j, rfl, ⟨by omega, by omega, by omega, by omega⟩, h⟩
theorem w_rRngD (h0 : j ≤ 1000000000) (h1 : -1000000000 ≤ j) (h2 : i ≤ 1000000000) (h3 : -1000000000 ≤ i) (h : R (Itc i (-1) (i - j).toNat) H) : rRng3 [.int i, .int j, .int (-1)] H R := ⟨i, j, -1, _, rfl, RgC.neg (by omega) (by omega) (by omega) (by omega), h⟩
theorem w_rItL (h0 : SqL K H a xs) (h : R (Itl K a) H) : rItL K (.ref a) H R := ⟨a, rfl, ⟨xs, h0⟩, h⟩
theorem w_rItT (h0 : SqT K H a xs) (h : R (Itt K a) H) : rItT K (.ref a) H R := ⟨a, rfl, ⟨xs, h0⟩, h⟩
/-- what a for wants of its iterator -/
def forK (g : TG) (tb : TS) (D : Ends) (σ : L2.St) : It → Hp → Prop := fun J H1 => ∃ W : Nat → Nat → L2.St → Hp → Prop, (∃ m, W 0 m σ H1) ∧ ∀ i m σ H, W i m σ H →
  (J.stop i H ∧ D.nx σ H) ∨ (J.go i H ∧ ∃ N : L2.St → Hp → Prop, (∀ σ' H', N σ' H' → ∃ m', m' < m ∧ W (i + 1) m' σ' H') ∧ ∀ x H', J.yld i H x H' → g x σ H' fun σ2 H2 => tb { D with nx := N, ct := N, bk := D.nx } σ2 H2)
theorem w_for {wi : TI} (h : wi σ H (forK g tb D σ)) : tFor wi g tb D σ H := h
theorem f_list (Pv : Nat → L2.St → Hp → Prop) (h0 : Pv 0 σ H) (hl : ∀ i σ H, i ≤ xs.length → Pv i σ H → SqL K H a xs)
    (hs : ∀ i x σ H, xs[i]? = some x → Pv i σ H → g x σ H fun σ2 H2 => tb { D with nx := Pv (i + 1), ct := Pv (i + 1), bk := D.nx } σ2 H2) (hd : ∀ σ H, Pv xs.length σ H → D.nx σ H) : forK g tb D σ (Itl K a) H := for_list Pv h0 hl hs hd
theorem f_tup (Pv : Nat → L2.St → Hp → Prop) (h0 : Pv 0 σ H) (hl : ∀ i σ H, i ≤ xs.length → Pv i σ H → SqT K H a xs)
    (hs : ∀ i x σ H, xs[i]? = some x → Pv i σ H → g x σ H fun σ2 H2 => tb { D with nx := Pv (i + 1), ct := Pv (i + 1), bk := D.nx } σ2 H2) (hd : ∀ σ H, Pv xs.length σ H → D.nx σ H) : forK g tb D σ (Itt K a) H := for_tup Pv h0 hl hs hd
theorem f_rng {lo : Int} (Pv : Nat → L2.St → Hp → Prop) (h0 : Pv 0 σ H)
    (hs : ∀ i σ H, i < n → Pv i σ H → g (.int (lo + i)) σ H fun σ2 H2 => tb { D with nx := Pv (i + 1), ct := Pv (i + 1), bk := D.nx } σ2 H2) (hd : ∀ σ H, Pv n σ H → D.nx σ H) : forK g tb D σ (Itr lo n) H := for_range Pv h0 hs hd
theorem f_rngC {lo c : Int} (Pv : Nat → L2.St → Hp → Prop) (h0 : Pv 0 σ H)
    (hs : ∀ i σ H, i < n → Pv i σ H → g (.int (lo + i * c)) σ H fun σ2 H2 => tb { D with nx := Pv (i + 1), ct := Pv (i + 1), bk := D.nx } σ2 H2) (hd : ∀ σ H, Pv n σ H → D.nx σ H) : forK g tb D σ (Itc lo c n) H := for_rangeC Pv h0 hs hd
theorem w_bT {b : Bool} {Q : VK} (e : b = true) (h : Q (.bl true) H) : Q (.bl b) H := by rw [e]; exact h
theorem w_bF {b : Bool} {Q : VK} (e : b = false) (h : Q (.bl false) H) : Q (.bl b) H := by rw [e]; exact h
theorem w_ixSL {p : Addr} {k : Int} {v : V} {Q : VK} (h0 : SqL K H p xs) (h1 : atI xs k = some v) (h : Q v H) : rIx K (.ref p) (.int k) H Q := .inl ⟨p, xs, k, v, rfl, rfl, h0, h1, h⟩
theorem w_ixST {p : Addr} {k : Int} {v : V} {Q : VK} (h0 : SqT K H p xs) (h1 : atI xs k = some v) (h : Q v H) : rIx K (.ref p) (.int k) H Q := .inr (.inl ⟨p, xs, k, v, rfl, rfl, h0, h1, h⟩)
end
/-! ### the end: the law's own call -/
theorem walkW {l : PySem.W.OpenLaw} {n k : Nat} {q : Program} {loose : List Str} {XP : (Str → Option Value) → Heap → Prop} {YP : World → Heap → Prop} {d : DefRec} {x : Str}
    (hn : l.most = some n) (hn2 : n ≤ sizeLine) (hdf : d.params.defaults = []) (hr : Room k callerA)
    (F : ∀ (w : World) (mg : Str → Option Value) (fa : Addr) (h : Heap), YP w h → h.Ns mainGlobals mg → mg d.name = some (.ref fa) →
      ∃ (K : PySem.W.Frag) (fd : FuncData) (sp : Sp), K.In h ∧ (∀ (s : Shared) (u : Value), BindsTo s fd ⟨[u], []⟩ [(x, u)]) ∧
        (∀ (H : Hp) (a : Addr) (ns : List Int), ns.length ≤ n → Only H → SqL K H a (ns.map V.int) → sp [.ref a] H (fun v _ => v = .bl true) fun _ _ _ => False) ∧
        ∀ base : Heap, K.In base → base.Ns mainGlobals mg → FnOk l.prog w K mg base (L2.CX l.prog w) k fa fd [x] sp) :
    PySem.W.WalkO q loose XP YP l.row.toRowW d [] (fun f vs => PySem.call f vs) := by
  refine Att.attach_call hn hdf fun w s₀ s₁ mg mb fa o pm cd doc a vs ns G Y ho hd hcd hmg hobj hints hlen hg => ?_
  obtain ⟨K, fd, sp, KX, hb, hsp, hF⟩ := F w mg fa _ Y G.T.g hmg
  refine law_call KX G.T.g G.T.b G.T.builtins G.T.nolimit hg hobj hints (Nat.le_trans hlen hn2) hr hF hb (fun H hO hS => hsp H a ns hlen hO hS) fun H e s' h => ?_
  obtain ⟨_, _, _, _, _, _, _, _, _, _, _, _, z⟩ := h
  exact z
end LW

namespace LW
open PySem PySem.Spec PyProof.Rows L2
local macro_rules | `(tactic| walk_at "pos") => `(tactic| first | decide | omega | assumption)
local macro_rules | `(tactic| walk_at "ne") => `(tactic| first
  | assumption
  | (refine Ne.symm ?_; assumption)
  | (refine' ne_of_none ?h1 ?h2; (case h2 => assumption); (case h1 => walk_at "at"))
  | (refine' Ne.symm (ne_of_none ?h1 ?h2); (case h2 => assumption); (case h1 => walk_at "at")))
local macro_rules | `(tactic| walk_at "nin") => `(tactic| first
  | exact nin0
  | (refine nin1 ?_; walk_at "ne")
  | (refine nin2 ?_ ?_ <;> walk_at "ne")
  | (refine nin3 ?_ ?_ ?_ <;> walk_at "ne"))
local macro_rules | `(tactic| walk_at "at") => `(tactic| first
  | assumption
  | (refine' Gr.get0 ?h1 ?h2; (case h1 => assumption); (case h2 => walk_at "at"))
  | (refine' Gr.keepB ?h1 ?h2 ?h3; (case h1 => assumption); (case h2 => walk_at "at"); (case h3 => first | exact Or.inl rfl | (refine Or.inr ?_; walk_at "nin"))))
local macro_rules | `(tactic| walk_at "sql") => `(tactic| first
  | assumption
  | (refine' sql_of ?h1; (case h1 => walk_at "at"))
  | (refine' sql_frz ?h1; (case h1 => walk_at "at"))
  | (refine' Gr.sql0 ?h1 ?h2; (case h1 => assumption); (case h2 => walk_at "sql"))
  | (refine' Gr.sqlB ?h1 ?h2 ?h3; (case h1 => assumption); (case h2 => walk_at "sql"); (case h3 => walk_at "nin")))
local macro_rules | `(tactic| walk_at "sqt") => `(tactic| first
  | assumption
  | (refine' sqt_of ?h1; (case h1 => walk_at "at"))
  | (refine' Gr.sqt ?h1 ?h2; (case h1 => assumption); (case h2 => walk_at "sqt")))
local macro_rules | `(tactic| walk_at "sq") => `(tactic| first
  | (refine Or.inl ?_; walk_at "sql")
  | (refine Or.inr ?_; walk_at "sqt"))
local macro_rules | `(tactic| walk_at "fre") => `(tactic| first
  | assumption
  | (refine' Gr.free0 ?h1 ?h2; (case h2 => assumption); (case h1 => assumption))
  | (refine' Gr.free1 ?h1 ?h2 ?h3; (case h2 => assumption); (case h1 => assumption); (case h3 => walk_at "ne")))
local macro_rules | `(tactic| walk_at "sub") => `(tactic| first
  | exact sub0
  | (refine sub1 ?_; first | (refine Or.inl ?_; simp; done) | (refine Or.inr ?_; walk_at "fre"))
  | (refine sub2 ?_ ?_ <;> first | (refine Or.inl ?_; simp; done) | (refine Or.inr ?_; walk_at "fre")))
local macro_rules | `(tactic| walk_at "gr") => `(tactic| first
  | assumption
  | exact Gr.refl _
  | (refine' Gr.same1 ?h1 ?h2; (case h1 => walk_at "at"); (case h2 => exact rfl))
  | (refine' Gr.step ?h1 ?h2 ?h3; (case h1 => assumption); (case h2 => walk_at "gr"); (case h3 => walk_at "sub")))
local macro_rules | `(tactic| walk_at "ix") => `(tactic| first
  | exact rfl
  | (refine' atI_nat ?h1; (case h1 => assumption)))
local macro_rules | `(tactic| walk_at "w1") => `(tactic| first
  | with_reducible refine w_seq ?_
  | ((with_reducible refine' w_var ?h1 ?h2); (case h1 => exact rfl))
  | with_reducible refine w_c ?_
  | with_reducible refine w_op ?_
  | with_reducible refine w_asg ?_
  | with_reducible refine w_cons ?_
  | with_reducible refine w_nil ?_
  | with_reducible refine w_rI0 ?_
  | with_reducible refine w_exb ?_
  | with_reducible refine w_test ?_
  | with_reducible refine w_ifS ?_
  | with_reducible refine w_ret ?_
  | with_reducible refine w_cb ?_
  | ((with_reducible refine w_gname ?_); try dsimp only [List.set])
  | ((with_reducible refine w_eq ?h1 ?h2); (case h1 => exact rfl))
  | ((with_reducible refine w_ne ?h1 ?h2); (case h1 => exact rfl))
  | with_reducible refine w_drop ?_
  | with_reducible refine w_call ?_
  | with_reducible refine w_callD ?_
  | with_reducible refine w_call1 ?_
  | with_reducible refine w_callN ?_
  | with_reducible refine w_callNS ?_
  | with_reducible refine w_and ?_
  | with_reducible refine w_or ?_
  | with_reducible refine w_not ?_
  | with_reducible refine w_T ?_
  | with_reducible refine w_F ?_
  | with_reducible refine w_nT ?_
  | with_reducible refine w_nF ?_
  | with_reducible refine w_un ?_
  | with_reducible refine w_rU ?_
  | with_reducible refine w_tLst ?_
  | with_reducible refine w_tTup ?_
  | with_reducible refine w_gsub ?_
  | with_reducible refine w_bm ?_
  | with_reducible refine w_bm0 ?_
  | with_reducible refine w_abs ?_
  | with_reducible refine w_int ?_
  | with_reducible refine w_chain ?_
  | with_reducible refine w_tB ?_
  | with_reducible refine w_exV ?_
  | with_reducible refine w_andV ?_
  | with_reducible refine w_orV ?_
  | with_reducible refine w_notV ?_
  | with_reducible refine w_ifE ?_
  | with_reducible refine w_retN ?_
  | with_reducible refine w_for ?_
  | with_reducible refine w_iRng1 ?_
  | with_reducible refine w_iRng2 ?_
  | with_reducible refine w_iRng3 ?_
  | with_reducible refine w_iList ?_
  | with_reducible refine w_iTup ?_
  | with_reducible refine w_next ?_)
local macro_rules | `(tactic| walk_at "h1") => `(tactic| first
  | ((with_reducible refine' w_ixL ?h1 ?h2 ?h3); (case h1 => walk_at "sql"); (case h2 => walk_at "ix"))
  | ((with_reducible refine' w_ixT ?h1 ?h2 ?h3); (case h1 => walk_at "sqt"); (case h2 => walk_at "ix"))
  | ((with_reducible refine' w_len ?h1 ?h2); (case h1 => walk_at "sq"))
  | ((with_reducible refine' w_ty ?h1 ?h2); (case h1 => walk_at "sql"))
  | ((with_reducible refine' w_setL ?h1 ?h2 ?h3); (case h1 => walk_at "at"); (case h2 => exact rfl); intro _ _ _; try dsimp only [List.set])
  | ((with_reducible refine' w_lst ?h1 ?h2); (case h1 => first | exact small (by decide) | exact small (by simp)); intro _ _ _ _ _)
  | ((with_reducible refine' w_tup ?h1 ?h2); (case h1 => first | exact small (by decide) | exact small (by simp)); intro _ _ _ _ _))
local macro_rules | `(tactic| walk_at "j1") => `(tactic| first
  | ((with_reducible refine' w_rItL ?h1 ?h2); (case h1 => walk_at "sql"))
  | ((with_reducible refine' w_rItT ?h1 ?h2); (case h1 => walk_at "sqt"))
  | ((with_reducible refine' w_ixSL ?h1 ?h2 ?h3); (case h1 => walk_at "sql"); (case h2 => walk_at "ix"))
  | ((with_reducible refine' w_ixST ?h1 ?h2 ?h3); (case h1 => walk_at "sqt"); (case h2 => walk_at "ix")))
local macro_rules | `(tactic| walk_at "rep") => `(tactic| first
  | assumption
  | exact Rep.int _
  | exact Rep.bl _
  | exact Rep.str _
  | exact Rep.non
  | (refine' rep_tupI ?h1; (case h1 => walk_at "sqt"))
  | (refine' rep_lstI ?h1; (case h1 => walk_at "sql"))
  | (refine' Rep.gr0 ?h1 ?h2; (case h1 => assumption); (case h2 => walk_at "rep"))
  | (refine' Rep.grB ?h1 ?h2 ?h3; (case h1 => assumption); (case h2 => walk_at "rep"); (case h3 => first | exact rfl | assumption)))
local macro_rules | `(tactic| walk_at "i1") => `(tactic| first
  | ((with_reducible refine' w_isi_tuple ?h1 ?h2 ?h3); (case h1 => walk_at "rep"); (case h2 => exact rfl); dsimp only [D.isTup])
  | ((with_reducible refine' w_isi_list ?h1 ?h2 ?h3); (case h1 => walk_at "rep"); (case h2 => exact rfl); dsimp only [D.isLst])
  | ((with_reducible refine' w_isi_bool ?h1 ?h2 ?h3); (case h1 => walk_at "rep"); (case h2 => exact rfl); dsimp only [D.isBl])
  | ((with_reducible refine' w_isi_int ?h1 ?h2 ?h3); (case h1 => walk_at "rep"); (case h2 => exact rfl); dsimp only [D.isInt])
  | ((with_reducible refine' w_isi_str ?h1 ?h2 ?h3); (case h1 => walk_at "rep"); (case h2 => exact rfl); dsimp only [D.isStr]))
local macro_rules | `(tactic| walk_at "w") => `(tactic| repeat (first | walk_at "w1" | walk_at "h1" | walk_at "i1" | walk_at "j1"))
def top (i : Nat) : Stmt := PySem.Challenge.pw_ownlabels_k01_least_obstacle.main.body.getD i (.Pass ⟨0, 0, 0, 0⟩)
abbrev s__law_begin : Stmt := top 8
abbrev N__law_begin : List Str := ["_law_script"]
theorem sc__law_begin : FnScope N__law_begin ["_law_script"] (defScope s__law_begin) := ⟨rfl, rfl, rfl, by decide +kernel, rfl, by decide +kernel, by decide +kernel⟩
def d__law_begin : He.DefD := ⟨("_law_begin", none), "_law_begin", "_law_begin", defArgs s__law_begin, defBody s__law_begin, defScope s__law_begin, [], []⟩
def A__law_begin (K : PySem.W.Frag) : Addr := He.fAd K ("_law_begin", none)
abbrev s__law_least : Stmt := top 12
abbrev N__law_least : List Str := ["_law_workers", "_law_cells", "_law_capacity", "_law_least_here", "_law_size"]
theorem sc__law_least : FnScope N__law_least ["_law_workers", "_law_cells", "_law_capacity"] (defScope s__law_least) := ⟨rfl, rfl, rfl, by decide +kernel, rfl, by decide +kernel, by decide +kernel⟩
def d__law_least : He.DefD := ⟨("_law_least", none), "_law_least", "_law_least", defArgs s__law_least, defBody s__law_least, defScope s__law_least, [], []⟩
def A__law_least (K : PySem.W.Frag) : Addr := He.fAd K ("_law_least", none)
abbrev s__law_draw : Stmt := top 9
abbrev N__law_draw : List Str := ["_law_tape", "_law_many", "_law_cell", "_law_number"]
theorem sc__law_draw : FnScope N__law_draw ["_law_tape", "_law_many"] (defScope s__law_draw) := ⟨rfl, rfl, rfl, by decide +kernel, rfl, by decide +kernel, by decide +kernel⟩
def d__law_draw : He.DefD := ⟨("_law_draw", none), "_law_draw", "_law_draw", defArgs s__law_draw, defBody s__law_draw, defScope s__law_draw, [], []⟩
def A__law_draw (K : PySem.W.Frag) : Addr := He.fAd K ("_law_draw", none)
abbrev s__law_same : Stmt := top 10
abbrev N__law_same : List Str := ["_law_actual", "_law_expected", "_law_k"]
theorem sc__law_same : FnScope N__law_same ["_law_actual", "_law_expected"] (defScope s__law_same) := ⟨rfl, rfl, rfl, by decide +kernel, rfl, by decide +kernel, by decide +kernel⟩
def d__law_same : He.DefD := ⟨("_law_same", none), "_law_same", "_law_same", defArgs s__law_same, defBody s__law_same, defScope s__law_same, [], []⟩
def A__law_same (K : PySem.W.Frag) : Addr := He.fAd K ("_law_same", none)
abbrev s_obstacle : Stmt := top 6
abbrev N_obstacle : List Str := ["workers", "cells", "capacity", "size"]
theorem sc_obstacle : FnScope N_obstacle ["workers", "cells", "capacity"] (defScope s_obstacle) := ⟨rfl, rfl, rfl, by decide +kernel, rfl, by decide +kernel, by decide +kernel⟩
def d_obstacle : He.DefD := ⟨("obstacle", none), "obstacle", "obstacle", defArgs s_obstacle, defBody s_obstacle, defScope s_obstacle, [.int 1], []⟩
def A_obstacle (K : PySem.W.Frag) : Addr := He.fAd K ("obstacle", none)
abbrev s__law_refused : Stmt := top 11
abbrev N__law_refused : List Str := ["_law_sizes", "e"]
theorem sc__law_refused : FnScope N__law_refused ["_law_sizes"] (defScope s__law_refused) := ⟨rfl, rfl, rfl, by decide +kernel, rfl, by decide +kernel, by decide +kernel⟩
def d__law_refused : He.DefD := ⟨("_law_refused", none), "_law_refused", "_law_refused", defArgs s__law_refused, defBody s__law_refused, defScope s__law_refused, [], []⟩
def A__law_refused (K : PySem.W.Frag) : Addr := He.fAd K ("_law_refused", none)
abbrev s_law : Stmt := top 13
abbrev N_law : List Str := ["_law_script", "_law_tape", "_law_limit", "_law_workers", "_law_cells", "_law_capacity", "_law_expected", "_law_place", "_law_other", "_law_odd", "_law_sizes"]
theorem sc_law : FnScope N_law ["_law_script"] (defScope s_law) := ⟨rfl, rfl, rfl, by decide +kernel, rfl, by decide +kernel, by decide +kernel⟩
def d_law : He.DefD := ⟨("law", none), "law", "law", defArgs s_law, defBody s_law, defScope s_law, [], []⟩
def A_law (K : PySem.W.Frag) : Addr := He.fAd K ("law", none)
def fn : List He.DefD := [d__law_begin, d__law_least, d__law_draw, d__law_same, d_obstacle, d__law_refused, d_law]
def fa : List He.Fa := [.free "abs", .free "bool", .free "int", .free "isinstance", .free "len", .free "list", .free "range", .free "str", .free "tuple", .glo "_law_begin", .glo "_law_least", .glo "_law_draw", .glo "_law_same", .glo "obstacle", .glo "_law_refused", .glo "law", .glo "HallError", .glo "NoObstacle", .glo "BadSize", .int "LARGEST" 1000, .exc "BadSize", .exm "BadSize" "BadSize" true, .exm "BadSize" "HallError" true]
def exB (K : PySem.W.Frag) : List Bool := [(excCB K (He.ga K "BadSize")), (decide (PySem.W.kitOne K (.ref (He.ga K "BadSize")) (.ref (He.ga K "HallError")) = some true)), (decide (PySem.W.kitOne K (.ref (He.ga K "BadSize")) (.ref (He.ga K "NoObstacle")) = some false))]
structure Ctx (K : PySem.W.Frag) (mg : Str → Option Value) : Prop where
  says : He.SaysD fa fn K
  more : (exB K).all id = true
  glo : ∀ {x : Str}, (He.Fa.glo x).ok K = true → mg x = some (.ref (He.ga K x))
  free : ∀ {x : Str}, (He.Fa.free x).ok K = true → mg x = none
  int : ∀ {x : Str} {i : Int}, (He.Fa.int x i).ok K = true → ∃ t, mg x = some (.int i t)
  str : ∀ {x z : Str}, (He.Fa.str x z).ok K = true → ∃ t, mg x = some (.str z t)
section
variable {K : PySem.W.Frag} {mg : Str → Option Value}
theorem Ctx.b (c : Ctx K mg) (i : Nat) {b : Bool} (h : (exB K)[i]? = some b) : b = true := List.all_eq_true.mp c.more b (List.mem_of_getElem? h)
theorem F__law_begin (c : Ctx K mg) : FunD K "_law_begin" "_law_begin" (defArgs s__law_begin) (defBody s__law_begin) (defScope s__law_begin) [] [] (A__law_begin K) (fdA K (A__law_begin K)) := fdA_of (c.says.def_ 0 (d := d__law_begin) rfl)
theorem b__law_begin (c : Ctx K mg) : Binds K (fdA K (A__law_begin K)) ["_law_script"] [] := (F__law_begin c).bindsN fun _ _ _ _ _ _ us hl => match us, hl with | [_], _ => rfl
theorem F__law_least (c : Ctx K mg) : FunD K "_law_least" "_law_least" (defArgs s__law_least) (defBody s__law_least) (defScope s__law_least) [] [] (A__law_least K) (fdA K (A__law_least K)) := fdA_of (c.says.def_ 1 (d := d__law_least) rfl)
theorem b__law_least (c : Ctx K mg) : Binds K (fdA K (A__law_least K)) ["_law_workers", "_law_cells", "_law_capacity"] [] := (F__law_least c).bindsN fun _ _ _ _ _ _ us hl => match us, hl with | [_, _, _], _ => rfl
theorem F__law_draw (c : Ctx K mg) : FunD K "_law_draw" "_law_draw" (defArgs s__law_draw) (defBody s__law_draw) (defScope s__law_draw) [] [] (A__law_draw K) (fdA K (A__law_draw K)) := fdA_of (c.says.def_ 2 (d := d__law_draw) rfl)
theorem b__law_draw (c : Ctx K mg) : Binds K (fdA K (A__law_draw K)) ["_law_tape", "_law_many"] [] := (F__law_draw c).bindsN fun _ _ _ _ _ _ us hl => match us, hl with | [_, _], _ => rfl
theorem F__law_same (c : Ctx K mg) : FunD K "_law_same" "_law_same" (defArgs s__law_same) (defBody s__law_same) (defScope s__law_same) [] [] (A__law_same K) (fdA K (A__law_same K)) := fdA_of (c.says.def_ 3 (d := d__law_same) rfl)
theorem b__law_same (c : Ctx K mg) : Binds K (fdA K (A__law_same K)) ["_law_actual", "_law_expected"] [] := (F__law_same c).bindsN fun _ _ _ _ _ _ us hl => match us, hl with | [_, _], _ => rfl
theorem F_obstacle (c : Ctx K mg) : FunD K "obstacle" "obstacle" (defArgs s_obstacle) (defBody s_obstacle) (defScope s_obstacle) [.int 1] [] (A_obstacle K) (fdA K (A_obstacle K)) := fdA_of (c.says.def_ 4 (d := d_obstacle) rfl)
theorem bd_obstacle_2 (c : Ctx K mg) : ∃ ds, Vals ([.int 1] : List V) ds ∧ Binds K (fdA K (A_obstacle K)) ["workers", "cells", "capacity"] ds := (F_obstacle c).binds1 2 0 (by simp) rfl fun _ _ _ _ _ _ _ us its h1 h2 => match us, its, h1, h2 with | [_, _], [_], _, _ => ⟨_, rfl, rfl⟩
theorem b0_obstacle (c : Ctx K mg) : ∃ ds, Vals ([] : List V) ds ∧ Binds K (fdA K (A_obstacle K)) ["workers", "cells", "capacity"] ds := (F_obstacle c).binds1 3 1 (by simp) rfl fun _ _ _ _ _ _ _ us its h1 h2 => match us, its, h1, h2 with | [_, _, _], [_], _, _ => ⟨_, rfl, rfl⟩
theorem b_obstacle (c : Ctx K mg) : Binds K (fdA K (A_obstacle K)) ["workers", "cells", "capacity"] [] := by
  obtain ⟨ds, h1, h2⟩ := b0_obstacle c
  cases h1
  exact h2
theorem F__law_refused (c : Ctx K mg) : FunD K "_law_refused" "_law_refused" (defArgs s__law_refused) (defBody s__law_refused) (defScope s__law_refused) [] [] (A__law_refused K) (fdA K (A__law_refused K)) := fdA_of (c.says.def_ 5 (d := d__law_refused) rfl)
theorem b__law_refused (c : Ctx K mg) : Binds K (fdA K (A__law_refused K)) ["_law_sizes"] [] := (F__law_refused c).bindsN fun _ _ _ _ _ _ us hl => match us, hl with | [_], _ => rfl
theorem F_law (c : Ctx K mg) : FunD K "law" "law" (defArgs s_law) (defBody s_law) (defScope s_law) [] [] (A_law K) (fdA K (A_law K)) := fdA_of (c.says.def_ 6 (d := d_law) rfl)
theorem b_law (c : Ctx K mg) : Binds K (fdA K (A_law K)) ["_law_script"] [] := (F_law c).bindsN fun _ _ _ _ _ _ us hl => match us, hl with | [_], _ => rfl
theorem kb_obstacle_capacity (c : Ctx K mg) : KBn K (fdA K (A_obstacle K)) ["workers", "cells", "capacity"] 2 ["capacity"] (fun us ws => us ++ ws) (fun vs zs => vs ++ zs) := kbn1 (F_obstacle c) 2 ["capacity"] (by simp) fun _ _ _ _ _ _ _ us its ws h1 h2 h3 => match us, its, ws, h1, h2, h3 with | [_, _], [_], [_], _, _, _ => ⟨_, rfl, rfl⟩
theorem n_abs (c : Ctx K mg) : mg "abs" = none := c.free (c.says.fact 0 rfl)
theorem n_bool (c : Ctx K mg) : mg "bool" = none := c.free (c.says.fact 1 rfl)
theorem n_int (c : Ctx K mg) : mg "int" = none := c.free (c.says.fact 2 rfl)
theorem n_isinstance (c : Ctx K mg) : mg "isinstance" = none := c.free (c.says.fact 3 rfl)
theorem n_len (c : Ctx K mg) : mg "len" = none := c.free (c.says.fact 4 rfl)
theorem n_list (c : Ctx K mg) : mg "list" = none := c.free (c.says.fact 5 rfl)
theorem n_range (c : Ctx K mg) : mg "range" = none := c.free (c.says.fact 6 rfl)
theorem n_str (c : Ctx K mg) : mg "str" = none := c.free (c.says.fact 7 rfl)
theorem n_tuple (c : Ctx K mg) : mg "tuple" = none := c.free (c.says.fact 8 rfl)
theorem g__law_begin (c : Ctx K mg) : mg "_law_begin" = some (.ref (A__law_begin K)) := c.glo (c.says.fact 9 rfl)
theorem g__law_least (c : Ctx K mg) : mg "_law_least" = some (.ref (A__law_least K)) := c.glo (c.says.fact 10 rfl)
theorem g__law_draw (c : Ctx K mg) : mg "_law_draw" = some (.ref (A__law_draw K)) := c.glo (c.says.fact 11 rfl)
theorem g__law_same (c : Ctx K mg) : mg "_law_same" = some (.ref (A__law_same K)) := c.glo (c.says.fact 12 rfl)
theorem g_obstacle (c : Ctx K mg) : mg "obstacle" = some (.ref (A_obstacle K)) := c.glo (c.says.fact 13 rfl)
theorem g__law_refused (c : Ctx K mg) : mg "_law_refused" = some (.ref (A__law_refused K)) := c.glo (c.says.fact 14 rfl)
theorem g_law (c : Ctx K mg) : mg "law" = some (.ref (A_law K)) := c.glo (c.says.fact 15 rfl)
theorem g_HallError (c : Ctx K mg) : mg "HallError" = some (.ref (He.ga K "HallError")) := c.glo (c.says.fact 16 rfl)
theorem g_NoObstacle (c : Ctx K mg) : mg "NoObstacle" = some (.ref (He.ga K "NoObstacle")) := c.glo (c.says.fact 17 rfl)
theorem g_BadSize (c : Ctx K mg) : mg "BadSize" = some (.ref (He.ga K "BadSize")) := c.glo (c.says.fact 18 rfl)
theorem gv_LARGEST (c : Ctx K mg) : ∃ t, mg "LARGEST" = some (.int 1000 t) := c.int (c.says.fact 19 rfl)
theorem x_BadSize (c : Ctx K mg) : XcOk K (He.ga K "BadSize") := He.exc_ok (K := K) (x := "BadSize") (c.says.fact 20 rfl)
theorem xm_BadSize_BadSize (c : Ctx K mg) : PySem.W.exmOne K (.ref (He.ga K "BadSize")) (.ref (He.ga K "BadSize")) = some true := He.exm_ok (c.says.fact 21 rfl)
theorem xm_BadSize_HallError (c : Ctx K mg) : PySem.W.exmOne K (.ref (He.ga K "BadSize")) (.ref (He.ga K "HallError")) = some true := He.exm_ok (c.says.fact 22 rfl)
theorem ex_BadSize (c : Ctx K mg) : (excCB K (He.ga K "BadSize")) = true := c.b 0 rfl
theorem k_BadSize_HallError (c : Ctx K mg) : (decide (PySem.W.kitOne K (.ref (He.ga K "BadSize")) (.ref (He.ga K "HallError")) = some true)) = true := c.b 1 rfl
theorem k_BadSize_NoObstacle (c : Ctx K mg) : (decide (PySem.W.kitOne K (.ref (He.ga K "BadSize")) (.ref (He.ga K "NoObstacle")) = some false)) = true := c.b 2 rfl
end
/-- the tape: the script's ints (frozen), the place, the rest of a number, a count of at most b -/
def Tape (b : Nat) (H : Hp) (t : Addr) : Prop := ∃ (a : Addr) (o : Obj) (ns : List Int) (i n k : Int), H t = some (.lst [.ref a, .int i, .int n, .int k]) ∧ H a = some (.frz o (.lst (ns.map V.int))) ∧ ns.length ≤ 63 ∧ 0 ≤ i ∧ 0 ≤ n ∧ 0 ≤ k ∧ k ≤ b
theorem Tape.mono {b b' : Nat} {H : Hp} {t : Addr} (h : Tape b H t) (l : b ≤ b') : Tape b' H t := by
  obtain ⟨a, o, ns, i, n, k, h1, h2, h4, h5, h6, h7, h8⟩ := h
  exact ⟨a, o, ns, i, n, k, h1, h2, h4, h5, h6, h7, by omega⟩
theorem Tape.gr {b : Nat} {H H' : Hp} {t : Addr} {S : List Addr} (h : Tape b H t) (g : Gr S H H') (hn : t ∉ S) : Tape b H' t := by
  obtain ⟨a, o, ns, i, n, k, h1, h2, h3⟩ := h
  exact ⟨a, o, ns, i, n, k, g.keep _ _ h1 hn, g.get h2 rfl, h3⟩
theorem Tape.gr0 {b : Nat} {H H' : Hp} {t : Addr} (h : Tape b H t) (g : Gr [] H H') : Tape b H' t := h.gr g (by simp)
theorem Tape.gr1 {b : Nat} {H H' : Hp} {t l : Addr} (h : Tape b H t) (g : Gr [l] H H') (hn : t ≠ l) : Tape b H' t := h.gr g (by simpa using hn)
theorem Tape.at {b : Nat} {H : Hp} {t : Addr} (h : Tape b H t) : ∃ xs, H t = some (.lst xs) := by
  obtain ⟨a, o, ns, i, n, k, h1, _⟩ := h
  exact ⟨_, h1⟩
theorem Tape.ne {b : Nat} {H : Hp} {t l : Addr} (h : Tape b H t) (e : H l = none) : t ≠ l := by
  obtain ⟨xs, h1⟩ := h.at
  exact ne_of_none h1 e
local macro_rules | `(tactic| walk_at "tape") => `(tactic| first
  | assumption
  | (refine' Tape.gr0 ?h1 ?h2; (case h2 => assumption); (case h1 => walk_at "tape"))
  | (refine' Tape.gr1 ?h1 ?h2 ?h3; (case h2 => assumption); (case h1 => walk_at "tape"); (case h3 => first | assumption | (refine Ne.symm ?_; assumption) | walk_at "ne" | (refine' Tape.ne ?a1 ?a2; (case a2 => assumption); (case a1 => walk_at "tape")))))
local macro_rules | `(tactic| walk_at "ne") => `(tactic| first
  | (refine' Tape.ne ?h1 ?h2; (case h2 => assumption); (case h1 => walk_at "tape"))
  | (refine' Ne.symm (Tape.ne ?h1 ?h2); (case h2 => assumption); (case h1 => walk_at "tape")))

def sp__law_begin (K : PySem.W.Frag) : Sp := fun vs H Q _ => ∃ (a : Addr) (ns : List Int), vs = [.ref a] ∧ SqL K H a (ns.map V.int) ∧ ns.length ≤ 63 ∧ ∀ t H', H t = none → Gr [] H H' → Tape 0 H' t → Q (.ref t) H'
theorem w_begin {K : PySem.W.Frag} {H : Hp} {Q : VK} {E : XK} {a : Addr} {ns : List Int} (h : SqL K H a (ns.map V.int)) (hl : ns.length ≤ 63) (k : ∀ t H', H t = none → Gr [] H H' → Tape 0 H' t → Q (.ref t) H') : sp__law_begin K [.ref a] H Q E := ⟨a, ns, rfl, h, hl, k⟩
section
variable {P : Program} {w : World} {K : PySem.W.Frag} {mg : Str → Option Value} {base : Heap}
theorem ok0__law_begin (c : Ctx K mg) : FnOk P w K mg base (L2.CX P w) 1 (A__law_begin K) (fdA K (A__law_begin K)) ["_law_script"]
    (fun vs H Q _ => ∃ (a : Addr) (ns : List Int), vs = [.ref a] ∧ SqL K H a (ns.map V.int) ∧ ∀ t l H1 H', H l = none → Gr [] H H1 → H1 l = some (.lst (ns.map V.int)) → H1 t = none → Gr [] H1 H' → H' t = some (.lst [.ref l, .int 0, .int 0, .int 0]) → Q (.ref t) H') := by
  refine okT (F__law_begin c) sc__law_begin (fun vs H Q E h => ?_) (fun cdv A outer s H vs Q E hr h tk pown => ?_)
  · obtain ⟨_, _, rfl, _⟩ := h; rfl
  · refine ⟨_, (pss_one (ps_ret (pe_lstN (pa_cons (pe_callTy cr_list rfl (n_list c) (by decide +kernel) (pa_cons (pv 0) pa_nil)) (pa_cons pe_int (pa_cons pe_int (pa_cons pe_int pa_nil))))))), ?_⟩
    obtain ⟨a, ns, rfl, hS, k⟩ := h
    walk_at "w"
    refine w_listOf (.inl hS) fun l H1 n1 g1 h1 => ?_
    walk_at "w"
    rename_i t H2 n2 g2 h2
    exact k t l H1 H2 n1 g1 h1 n2 g2 h2
theorem ok__law_begin (c : Ctx K mg) : FnOk P w K mg base (L2.CX P w) 1 (A__law_begin K) (fdA K (A__law_begin K)) ["_law_script"] (sp__law_begin K) := by
  refine (fnOk_frz (ok0__law_begin c)).imp fun vs H Q E h => ?_
  obtain ⟨a, ns, rfl, hS, hl, k⟩ := h
  refine ⟨a, ns, rfl, hS, fun t l H1 H' n1 g1 h1 n2 g2 h2 => ⟨l, _, g2.get0 h1, fun o => ?_⟩⟩
  have ne : t ≠ l := (ne_of_none h1 n2).symm
  refine k t _ (g1.free0 n2) ((g1.trans0 g2).transN (Gr.frz (g2.get0 h1)) n1) ⟨l, o, ns, 0, 0, 0, ?_, upd_same, hl, by decide, by decide, by decide, by decide⟩
  rw [upd_ne ne]
  exact h2
end
def OkSize (i : Int) : Prop := 1 ≤ i ∧ i ≤ 1000
/-- the least divisor of s above k and not above w, or 0 -/
def IsObs (w s k r : Int) : Prop := (r = 0 ∧ ∀ d : Int, k < d → d ≤ w → s % d ≠ 0) ∨ (k < r ∧ r ≤ w ∧ s % r = 0 ∧ ∀ d : Int, k < d → d < r → s % d ≠ 0)
theorem IsObs.one {w s k r r' : Int} (h : IsObs w s k r) (h' : IsObs w s k r') : r = r' := by
  rcases h with ⟨h1, h2⟩ | ⟨h1, h2, h3, h4⟩ <;> rcases h' with ⟨g1, g2⟩ | ⟨g1, g2, g3, g4⟩
  · omega
  · exact absurd g3 (h2 _ g1 g2)
  · exact absurd h3 (g2 _ h1 h2)
  · rcases Int.lt_trichotomy r r' with z | z | z
    · exact absurd h3 (g4 _ h1 z)
    · exact z
    · exact absurd g3 (h4 _ g1 z)

/-- a size between k and 1000, none divided by 0 -/
def sp__law_least (K : PySem.W.Frag) : Sp := fun vs H Q _ => ∃ w s k : Int, vs = [.int w, .int s, .int k] ∧ 1 ≤ k ∧ k ≤ 1000 ∧ 1 ≤ w ∧ w ≤ 1000 ∧ ∀ r, IsObs w s k r → Q (.int r) H
theorem w_least {K : PySem.W.Frag} {H : Hp} {Q : VK} {E : XK} {w s k : Int} (h1 : OkSize w) (h3 : OkSize k) (q : ∀ r, IsObs w s k r → Q (.int r) H) : sp__law_least K [.int w, .int s, .int k] H Q E := ⟨w, s, k, rfl, h3.1, h3.2, h1.1, h1.2, q⟩
section
variable {P : Program} {w : World} {K : PySem.W.Frag} {mg : Str → Option Value} {base : Heap}
theorem ok__law_least (c : Ctx K mg) : FnOk P w K mg base (L2.CX P w) 1 (A__law_least K) (fdA K (A__law_least K)) ["_law_workers", "_law_cells", "_law_capacity"] (sp__law_least K) := by
  refine okT (F__law_least c) sc__law_least (fun vs H Q E h => ?_) (fun cdv A outer s H vs Q E hr h tk pown => ?_)
  · first | (obtain ⟨rfl, _⟩ := h; rfl) | (obtain ⟨_, rfl, _⟩ := h; rfl) | (obtain ⟨_, _, rfl, _⟩ := h; rfl) | (obtain ⟨_, _, _, rfl, _⟩ := h; rfl) | (obtain ⟨_, _, _, _, rfl, _⟩ := h; rfl) | (obtain ⟨_, _, _, _, _, rfl, _⟩ := h; rfl) | (obtain ⟨_, _, _, _, _, _, rfl, _⟩ := h; rfl) | (obtain ⟨_, _, _, _, _, _, _, rfl, _⟩ := h; rfl)
  · skip
    refine ⟨_, (pss_cons (ps_set (i := 3) sc__law_least.nd rfl (Or.inl rfl) pe_int)
  (pss_cons (ps_for pown rfl (pi_range3 rfl (n_range c) (pa_cons (pv 0) (pa_cons (pv 2) (pa_cons (pe_un un_neg pe_int) pa_nil)))) (pg_name (i := 4) sc__law_least.nd rfl (Or.inl rfl))
    (pss_one (ps_if (pt_cmpR op_eq (pe_op op_mod (pe_callTy cr_int rfl (n_int c) (by decide +kernel) (pa_cons (pv 1) pa_nil)) (pv 4)) pe_int (nomark _))
      (pss_one (ps_set (i := 3) sc__law_least.nd rfl (Or.inl rfl) (pv 4)))
      pss_nil)))
  (pss_one (ps_ret (pv 3))))), ?_⟩
    clear tk pown hr
    obtain ⟨wn, sn, kn, rfl, k1, k2, w1, w2, Qk⟩ := h
    dsimp only [L2.start, N__law_least, cxOf, Cx.tr, Cx.suite, List.map, List.length, Nat.reduceAdd, Nat.reduceSub, List.replicate, List.cons_append, List.nil_append, List.append_nil]
    walk_at "w"
    refine w_rRngD (by omega) (by omega) (by omega) (by omega) ?_
    refine f_rngC (fun i σ' H' => H' = H ∧ ∃ (o : Option V) (r : Int), σ' = [some (.int wn), some (.int sn), some (.int kn), some (.int r), o] ∧ ((r = 0 ∧ ∀ d : Int, wn - i < d → d ≤ wn → sn % d ≠ 0) ∨ (wn - i < r ∧ r ≤ wn ∧ sn % r = 0 ∧ ∀ d : Int, wn - i < d → d < r → sn % d ≠ 0))) ⟨rfl, _, _, rfl, .inl ⟨rfl, fun d h1 h2 => absurd h2 (by omega)⟩⟩ ?_ ?_
    · rintro i σ' H' hi ⟨rfl, o, r, rfl, hr⟩
      have ei : wn + (i : Int) * (-1) = wn - i := by omega
      rw [ei]
      walk_at "w"
      refine w_rI (by omega) ?_
      walk_at "w"
      refine w_iteI (fun e => ?_) (fun e => ?_)
      · walk_at "w"
        exact ⟨rfl, _, _, rfl, .inr ⟨by omega, by omega, e, fun d h1 h2 => absurd h2 (by omega)⟩⟩
      · walk_at "w"
        refine ⟨rfl, _, _, rfl, ?_⟩
        have hd : ∀ d : Int, wn - (i + 1 : Nat) < d → wn - i < d ∨ d = wn - i := fun d h => by omega
        rcases hr with ⟨h1, h2⟩ | ⟨h1, h2, h3, h4⟩
        · refine .inl ⟨h1, fun d g1 g2 => ?_⟩
          rcases hd d g1 with z | z
          · exact h2 d z g2
          · rw [z]; exact e
        · refine .inr ⟨by omega, h2, h3, fun d g1 g2 => ?_⟩
          rcases hd d g1 with z | z
          · exact h4 d z g2
          · rw [z]; exact e
    · rintro σ' H' ⟨rfl, o, r, rfl, hr⟩
      walk_at "w"
      refine Qk r ?_
      by_cases hw : kn < wn
      · have e : wn - ((wn - kn).toNat : Int) = kn := by omega
        rw [e] at hr
        exact hr
      · rcases hr with ⟨h1, h2⟩ | ⟨h1, h2, h3, h4⟩
        · exact .inl ⟨h1, fun d g1 g2 => absurd g2 (by omega)⟩
        · exact absurd h1 (by omega)
end
def sp__law_draw (K : PySem.W.Frag) : Sp := fun vs H Q _ => ∃ (t : Addr) (m : Int) (b : Nat), vs = [.ref t, .int m] ∧ Tape b H t ∧ b < 1000000000 ∧ 0 < m ∧ m < 2 ^ 256 ∧ ∀ (r : Int) H', 0 ≤ r → r < m → Gr [t] H H' → Tape (b + 1) H' t → Q (.int r) H'
theorem w_draw {K : PySem.W.Frag} {H : Hp} {Q : VK} {E : XK} {t : Addr} {m : Int} {b : Nat} (h : Tape b H t) (hb : b < 1000000000) (hm : 0 < m) (hm2 : m < 2 ^ 256) (k : ∀ (r : Int) H', 0 ≤ r → r < m → Gr [t] H H' → Tape (b + 1) H' t → Q (.int r) H') : sp__law_draw K [.ref t, .int m] H Q E := ⟨t, m, b, rfl, h, hb, hm, hm2, k⟩
section
variable {P : Program} {w : World} {K : PySem.W.Frag} {mg : Str → Option Value} {base : Heap}
theorem ok__law_draw (c : Ctx K mg) : FnOk P w K mg base (L2.CX P w) 1 (A__law_draw K) (fdA K (A__law_draw K)) ["_law_tape", "_law_many"] (sp__law_draw K) := by
  refine okT (F__law_draw c) sc__law_draw (fun vs H Q E h => ?_) (fun cdv A outer s H vs Q E hr h tk pown => ?_)
  · first | (obtain ⟨rfl, _⟩ := h; rfl) | (obtain ⟨_, rfl, _⟩ := h; rfl) | (obtain ⟨_, _, rfl, _⟩ := h; rfl) | (obtain ⟨_, _, _, rfl, _⟩ := h; rfl) | (obtain ⟨_, _, _, _, rfl, _⟩ := h; rfl) | (obtain ⟨_, _, _, _, _, rfl, _⟩ := h; rfl) | (obtain ⟨_, _, _, _, _, _, rfl, _⟩ := h; rfl) | (obtain ⟨_, _, _, _, _, _, _, rfl, _⟩ := h; rfl)
  · skip
    refine ⟨_, (pss_cut (ps_if (PW.pt (pw_and (pt_cmpR op_eq (pe_ix ix_list (pv 0) pe_int (fun _ _ => rfl)) pe_int (nomark _)) (pw_and1 (pt_cmpR op_lt (pe_ix ix_list (pv 0) pe_int (fun _ _ => rfl)) (pe_callB cr_len rfl (n_len c) (by decide +kernel) (pa_cons (pe_ix ix_list (pv 0) pe_int (fun _ _ => rfl)) pa_nil)) (nomark _)))))
    (pss_cons (ps_asg (pe_callB cr_abs rfl (n_abs c) (by decide +kernel) (pa_cons (pe_ix ix_list (pe_ix ix_list (pv 0) pe_int (fun _ _ => rfl)) (pe_ix ix_list (pv 0) pe_int (fun _ _ => rfl)) (fun _ _ => rfl)) pa_nil)) (pg_sub (pv 0) pe_int set_list))
    (pss_one (ps_asg (pe_op op_add (pe_ix ix_list (pv 0) pe_int (fun _ _ => rfl)) pe_int) (pg_sub (pv 0) pe_int set_list))))
    (pss_one (ps_if (pt_cmpR op_eq (pe_ix ix_list (pv 0) pe_int (fun _ _ => rfl)) pe_int (nomark _))
      (pss_cons (ps_asg (pe_op op_add (pe_ix ix_list (pv 0) pe_int (fun _ _ => rfl)) pe_int) (pg_sub (pv 0) pe_int set_list))
      (pss_cons (ps_if (pt_cmpR (op_eqD hr.units) (pe_ix ix_list (pv 0) pe_int (fun _ _ => rfl)) (pe_lstN pa_nil) (nomark _))
        (pss_one (ps_ret pe_int))
        pss_nil)
      (pss_cons (ps_set (i := 2) sc__law_draw.nd rfl (Or.inl rfl) (pe_ix ix_list (pe_ix ix_list (pv 0) pe_int (fun _ _ => rfl)) (pe_op op_mod (pe_callTy cr_int rfl (n_int c) (by decide +kernel) (pa_cons (pe_ix ix_list (pv 0) pe_int (fun _ _ => rfl)) pa_nil)) (pe_callB cr_len rfl (n_len c) (by decide +kernel) (pa_cons (pe_ix ix_list (pv 0) pe_int (fun _ _ => rfl)) pa_nil))) (fun _ _ => rfl)))
      (pss_one (ps_ret (pe_op op_mod (pe_callTy cr_int rfl (n_int c) (by decide +kernel) (pa_cons (pe_op op_add (pe_op op_mul (pv 2) (pe_op op_add (pe_ix ix_list (pv 0) pe_int (fun _ _ => rfl)) pe_int)) (pe_op op_mul (pe_ix ix_list (pv 0) pe_int (fun _ _ => rfl)) (pe_ix ix_list (pv 0) pe_int (fun _ _ => rfl)))) pa_nil)) (pv 1)))))))
      pss_nil)))
  (pss_cons (ps_set (i := 3) sc__law_draw.nd rfl (Or.inl rfl) (pe_op op_mod (pe_callTy cr_int rfl (n_int c) (by decide +kernel) (pa_cons (pe_ix ix_list (pv 0) pe_int (fun _ _ => rfl)) pa_nil)) (pv 1)))
  (pss_cons (ps_asg (pe_op op_fdivW (pe_ix ix_list (pv 0) pe_int (fun _ _ => rfl)) (pv 1)) (pg_sub (pv 0) pe_int set_list))
  (pss_one (ps_ret (pv 3)))))), ?_⟩
    clear tk pown hr
    obtain ⟨t, m, b, rfl, ⟨a, o, ns, i, n, k, h1, h2, hlen, hi, hn, hk, hkb⟩, hb, hm, hm2, Qk⟩ := h
    dsimp only [L2.start, N__law_draw, cxOf, Cx.tr, Cx.suite, List.map, List.length, Nat.reduceAdd, Nat.reduceSub, List.replicate, List.cons_append, List.nil_append, List.append_nil]
    have wd : ∀ j : Int, CDivW j m := fun j => wide_div hm (by omega : m.natAbs < 2 ^ 256) (by decide) (by decide)
    refine w_cut (fun σ' H' => ∃ i' n' : Int, σ' = [some (.ref t), some (.int m), none, none] ∧ Gr [t] H H' ∧ 0 ≤ i' ∧ 0 ≤ n' ∧ H' t = some (.lst [.ref a, .int i', .int n', .int k])) ?_ ?_
    · walk_at "w"
      refine w_iteI (fun e0 => ?_) (fun e0 => ?_)
      · walk_at "w"
        refine w_iteP (fun e1 => ?_) (fun e1 => ?_)
        · rw [List.length_map] at e1
          obtain ⟨x, hx, _⟩ := ints_at (ns := ns) hi e1
          walk_at "w"
          refine w_ixL (by walk_at "sql") hx ?_
          walk_at "w"
          refine ⟨i + 1, _, rfl, by walk_at "gr", by omega, ?_, by assumption⟩
          split <;> omega
        · walk_at "w"
          refine w_iteI (fun _ => ?_) (fun e2 => absurd e0 e2)
          walk_at "w"
          refine w_eqD (d := .lst (dInts ns)) (e := .lst (dInts [])) 1 ?_ ?_ (dep_ints ns 0) rfl (by decide) (fun e2 => ?_) (fun e2 => ?_)
          · exact rep_lstI (by walk_at "sql")
          · exact rep_lstI (by walk_at "sql")
          · walk_at "w"
            exact Qk 0 _ (by decide) hm (by walk_at "gr") ⟨a, o, ns, i, n, k + 1, by walk_at "at", by walk_at "at", hlen, hi, hn, by omega, by omega⟩
          · have hl0 : 0 < ns.length := by
              cases ns with
              | nil => exact absurd rfl e2
              | cons x xs => exact Nat.succ_pos _
            have hl1 : (0 : Int) < ((ns.map V.int).length : Nat) := by rw [List.length_map]; omega
            have m0 : 0 ≤ (k + 1) % ((ns.map V.int).length : Int) := Int.emod_nonneg _ (by omega)
            have m1 : (k + 1) % ((ns.map V.int).length : Int) < ns.length := by
              have z := Int.emod_lt_of_pos (k + 1) hl1
              rw [List.length_map] at z ⊢
              exact z
            obtain ⟨x, hx, _⟩ := ints_at (ns := ns) m0 m1
            walk_at "w"
            refine w_rI hl1 ?_
            walk_at "w"
            refine w_ixL (by walk_at "sql") hx ?_
            walk_at "w"
            refine w_rI (.inr ⟨by omega, by omega⟩) ?_
            walk_at "w"
            refine w_rI (.inr ⟨by omega, by omega⟩) ?_
            walk_at "w"
            refine w_rI hm ?_
            exact Qk _ _ (Int.emod_nonneg _ (by omega)) (Int.emod_lt_of_pos _ hm) (by walk_at "gr") ⟨a, o, ns, i, n, k + 1, by walk_at "at", by walk_at "at", hlen, hi, hn, by omega, by omega⟩
      · walk_at "w"
        refine w_iteI (fun e1 => absurd e1 e0) (fun _ => ?_)
        walk_at "w"
        exact ⟨i, n, rfl, by walk_at "gr", hi, hn, h1⟩
    · rintro σ' H' ⟨i', n', rfl, g, hi', hn', ht⟩
      walk_at "w"
      refine w_rI hm ?_
      walk_at "w"
      refine w_rI (wd _) ?_
      walk_at "w"
      exact Qk _ _ (Int.emod_nonneg _ (by omega)) (Int.emod_lt_of_pos _ hm) (by walk_at "gr") ⟨a, o, ns, i', _, k, by walk_at "at", by walk_at "at", hlen, hi', Int.ediv_nonneg hn' (by omega), hk, by omega⟩
end
def spS : Nat → PySem.W.Frag → Sp
  | 0, _ => fun _ _ _ _ => False
  | n + 1, K => fun vs H Q _ => ∃ (v w : V) (d : D), vs = [v, w] ∧ Rep K H d v ∧ Rep K H d w ∧ d.lev n = true ∧ Q (.bl true) H
abbrev sp__law_same (K : PySem.W.Frag) : Sp := spS 9 K
theorem w_same {K : PySem.W.Frag} {H : Hp} {Q : VK} {E : XK} {v w : V} (d : D) (hv : Rep K H d v) (hw : Rep K H d w) (hd : d.lev 8 = true) (k : Q (.bl true) H) : sp__law_same K [v, w] H Q E := ⟨v, w, d, rfl, hv, hw, hd, k⟩
theorem w_sameI {K : PySem.W.Frag} {H : Hp} {Q : VK} {E : XK} {i j : Int} (e : i = j) (k : Q (.bl true) H) : sp__law_same K [.int i, .int j] H Q E := w_same (.int j) (by rw [e]; exact .int j) (.int j) rfl k
section
variable {P : Program} {w : World} {K : PySem.W.Frag} {mg : Str → Option Value} {base : Heap}
theorem okS (c : Ctx K mg) : ∀ n : Nat, FnOk P w K mg base (L2.CX P w) n (A__law_same K) (fdA K (A__law_same K)) ["_law_actual", "_law_expected"] (spS n K) := by
  intro n
  induction n with
  | zero => exact ⟨fun _ _ _ _ h => h.elim, fun _ _ _ _ _ _ _ _ _ _ _ _ _ h => h.elim⟩
  | succ n ih =>
    refine okT (F__law_same c) sc__law_same (fun vs H Q E h => ?_) (fun cdv A outer s H vs Q E hr h tk pown => ?_)
    · obtain ⟨_, _, _, rfl, _⟩ := h; rfl
    · refine ⟨_, (pss_cons (ps_if (PW.pt (pw_and (pt_val (pe_callB call_isi rfl (n_isinstance c) (by decide +kernel) (pa_cons (pv 1) (pa_cons (pe_bltn (v := .ty "tuple") (u := .type "tuple") rfl (n_tuple c) (by decide +kernel) rfl) pa_nil)))) (pw_and1 (pt_not (pt_val (pe_callB call_isi rfl (n_isinstance c) (by decide +kernel) (pa_cons (pv 0) (pa_cons (pe_bltn (v := .ty "tuple") (u := .type "tuple") rfl (n_tuple c) (by decide +kernel) rfl) pa_nil))))))))
    (pss_one (ps_ret pe_bl))
    pss_nil)
  (pss_cons (ps_if (PW.pt (pw_and (pt_val (pe_callB call_isi rfl (n_isinstance c) (by decide +kernel) (pa_cons (pv 1) (pa_cons (pe_bltn (v := .ty "list") (u := .type "list") rfl (n_list c) (by decide +kernel) rfl) pa_nil)))) (pw_and1 (pt_not (pt_val (pe_callB call_isi rfl (n_isinstance c) (by decide +kernel) (pa_cons (pv 0) (pa_cons (pe_bltn (v := .ty "list") (u := .type "list") rfl (n_list c) (by decide +kernel) rfl) pa_nil))))))))
    (pss_one (ps_ret pe_bl))
    pss_nil)
  (pss_cons (ps_if (PW.pt (pw_or (pt_val (pe_callB call_isi rfl (n_isinstance c) (by decide +kernel) (pa_cons (pv 1) (pa_cons (pe_bltn (v := .ty "tuple") (u := .type "tuple") rfl (n_tuple c) (by decide +kernel) rfl) pa_nil)))) (pw_or1 (pt_val (pe_callB call_isi rfl (n_isinstance c) (by decide +kernel) (pa_cons (pv 1) (pa_cons (pe_bltn (v := .ty "list") (u := .type "list") rfl (n_list c) (by decide +kernel) rfl) pa_nil)))))))
    (pss_cons (ps_if (pt_cmpR op_ne (pe_callB cr_len rfl (n_len c) (by decide +kernel) (pa_cons (pv 0) pa_nil)) (pe_callB cr_len rfl (n_len c) (by decide +kernel) (pa_cons (pv 1) pa_nil)) (nomark _))
      (pss_one (ps_ret pe_bl))
      pss_nil)
    (pss_cons (ps_for pown rfl (pi_range1 rfl (n_range c) (pa_cons (pe_callB cr_len rfl (n_len c) (by decide +kernel) (pa_cons (pv 1) pa_nil)) pa_nil)) (pg_name (i := 2) sc__law_same.nd rfl (Or.inl rfl))
      (pss_one (ps_if (pt_not (pt_val (pe_callS ih hr rfl (g__law_same c) (F__law_same c).kp (b__law_same c) (fun σ => passAt tk σ) (pa_cons (pe_ix ix_seq (pv 0) (pv 2) (fun _ _ => rfl)) (pa_cons (pe_ix ix_seq (pv 1) (pv 2) (fun _ _ => rfl)) pa_nil)))))
        (pss_one (ps_ret pe_bl))
        pss_nil)))
    (pss_one (ps_ret pe_bl))))
    pss_nil)
  (pss_cons (ps_if (pt_val (pe_callB call_isi rfl (n_isinstance c) (by decide +kernel) (pa_cons (pv 1) (pa_cons (pe_bltn (v := .ty "bool") (u := .type "bool") rfl (n_bool c) (by decide +kernel) rfl) pa_nil))))
    (pss_one (ps_ret (pe_and (pe_callB call_isi rfl (n_isinstance c) (by decide +kernel) (pa_cons (pv 0) (pa_cons (pe_bltn (v := .ty "bool") (u := .type "bool") rfl (n_bool c) (by decide +kernel) rfl) pa_nil))) (pe_one (pe_cmpR op_eq (pv 0) (pv 1) (nomark _))))))
    pss_nil)
  (pss_cons (ps_if (pt_val (pe_callB call_isi rfl (n_isinstance c) (by decide +kernel) (pa_cons (pv 1) (pa_cons (pe_bltn (v := .ty "int") (u := .type "int") rfl (n_int c) (by decide +kernel) rfl) pa_nil))))
    (pss_one (ps_ret (pe_and (pe_callB call_isi rfl (n_isinstance c) (by decide +kernel) (pa_cons (pv 0) (pa_cons (pe_bltn (v := .ty "int") (u := .type "int") rfl (n_int c) (by decide +kernel) rfl) pa_nil))) (pe_and (pe_not (pe_callB call_isi rfl (n_isinstance c) (by decide +kernel) (pa_cons (pv 0) (pa_cons (pe_bltn (v := .ty "bool") (u := .type "bool") rfl (n_bool c) (by decide +kernel) rfl) pa_nil)))) (pe_one (pe_cmpR op_eq (pv 0) (pv 1) (nomark _)))))))
    pss_nil)
  (pss_cons (ps_if (pt_val (pe_callB call_isi rfl (n_isinstance c) (by decide +kernel) (pa_cons (pv 1) (pa_cons (pe_bltn (v := .ty "str") (u := .type "str") rfl (n_str c) (by decide +kernel) rfl) pa_nil))))
    (pss_one (ps_ret (pe_and (pe_callB call_isi rfl (n_isinstance c) (by decide +kernel) (pa_cons (pv 0) (pa_cons (pe_bltn (v := .ty "str") (u := .type "str") rfl (n_str c) (by decide +kernel) rfl) pa_nil))) (pe_one (pe_cmpR op_eq (pv 0) (pv 1) (nomark _))))))
    pss_nil)
  (pss_one (ps_ret (pe_cmpR op_isN (pv 0) pe_non (nomark _)))))))))), ?_⟩
      clear tk pown hr
      obtain ⟨v, w, d, rfl, hv, hw, hd, k⟩ := h
      dsimp only [L2.start, N__law_same, cxOf, List.map, List.length, Nat.reduceAdd, Nat.reduceSub, List.replicate, List.cons_append, List.nil_append, List.append_nil]
      cases d with
      | ins C ns ds => cases n <;> cases hd
      | int i =>
        cases hv
        cases hw
        walk_at "w"
        exact w_bT (Q := Q) (decide_eq_true rfl) k
      | bl i =>
        cases hv
        cases hw
        walk_at "w"
        exact w_bT (Q := Q) (decide_eq_true rfl) k
      | str i =>
        cases hv
        cases hw
        walk_at "w"
        exact w_bT (Q := Q) (decide_eq_true rfl) k
      | non =>
        cases hv
        cases hw
        walk_at "w"
        exact ⟨rfl, k⟩
      | tup ds =>
        cases n with
        | zero => cases hd
        | succ n =>
        have hd0 : (decide (ds.length ≤ 1000000) && ds.all (D.lev n)) = true := hd
        obtain ⟨hdl, hd'⟩ := Bool.and_eq_true_iff.mp hd0
        have hdl := of_decide_eq_true hdl
        have hv0 := hv
        have hw0 := hw
        cases hv with
        | tup q1 r1 =>
        cases hw with
        | tup q2 r2 =>
        rename_i a xs a2 xs2
        have l1 := Reps.len r1
        have l2 := Reps.len r2
        walk_at "w"
        refine w_iteIN (fun e => absurd (by rw [l1, l2]) e) (fun _ => ?_)
        walk_at "w"
        refine w_rRng1N (by omega) ?_
        refine f_rng (fun i σ' H' => ∃ o, σ' = [some (.ref a), some (.ref a2), o] ∧ H' = H) ⟨none, rfl, rfl⟩ ?_ ?_
        · rintro i σ' H' hi ⟨o, rfl, rfl⟩
          rw [Int.zero_add]
          obtain ⟨d, hdi⟩ : ∃ d, ds[i]? = some d := ⟨_, List.getElem?_eq_getElem (by omega)⟩
          obtain ⟨v, hv1, hv2⟩ := reps_get r1 hdi
          obtain ⟨w, hw1, hw2⟩ := reps_get r2 hdi
          walk_at "w"
          refine ⟨v, w, d, rfl, hv2, hw2, List.all_eq_true.mp hd' d (List.mem_of_getElem? hdi), ?_⟩
          walk_at "w"
          exact ⟨_, rfl, rfl⟩
        · rintro σ' H' ⟨o, rfl, rfl⟩
          walk_at "w"
          exact k
      | lst ds =>
        cases n with
        | zero => cases hd
        | succ n =>
        have hd0 : (decide (ds.length ≤ 1000000) && ds.all (D.lev n)) = true := hd
        obtain ⟨hdl, hd'⟩ := Bool.and_eq_true_iff.mp hd0
        have hdl := of_decide_eq_true hdl
        have hv0 := hv
        have hw0 := hw
        cases hv with
        | lst q1 r1 =>
        cases hw with
        | lst q2 r2 =>
        rename_i a xs a2 xs2
        have l1 := Reps.len r1
        have l2 := Reps.len r2
        walk_at "w"
        refine w_iteIN (fun e => absurd (by rw [l1, l2]) e) (fun _ => ?_)
        walk_at "w"
        refine w_rRng1N (by omega) ?_
        refine f_rng (fun i σ' H' => ∃ o, σ' = [some (.ref a), some (.ref a2), o] ∧ H' = H) ⟨none, rfl, rfl⟩ ?_ ?_
        · rintro i σ' H' hi ⟨o, rfl, rfl⟩
          rw [Int.zero_add]
          obtain ⟨d, hdi⟩ : ∃ d, ds[i]? = some d := ⟨_, List.getElem?_eq_getElem (by omega)⟩
          obtain ⟨v, hv1, hv2⟩ := reps_get r1 hdi
          obtain ⟨w, hw1, hw2⟩ := reps_get r2 hdi
          walk_at "w"
          refine ⟨v, w, d, rfl, hv2, hw2, List.all_eq_true.mp hd' d (List.mem_of_getElem? hdi), ?_⟩
          walk_at "w"
          exact ⟨_, rfl, rfl⟩
        · rintro σ' H' ⟨o, rfl, rfl⟩
          walk_at "w"
          exact k
theorem ok__law_same (c : Ctx K mg) : FnOk P w K mg base (L2.CX P w) 9 (A__law_same K) (fdA K (A__law_same K)) ["_law_actual", "_law_expected"] (sp__law_same K) := okS c 9
end
def sp_obstacle (K : PySem.W.Frag) : Sp := fun vs H Q E => ∃ w s k : Int, vs = [.int w, .int s, .int k] ∧ ((¬ (OkSize w ∧ OkSize s ∧ OkSize k) ∧ ∀ H', Gr [] H H' → E (.ref (He.ga K "BadSize")) none H') ∨ ((OkSize w ∧ OkSize s ∧ OkSize k) ∧ ∀ r H', IsObs w s k r → Gr [] H H' → Q (.int r) H'))
theorem w_obstacle {K : PySem.W.Frag} {H : Hp} {Q : VK} {E : XK} {w s k : Int} (h1 : OkSize w) (h2 : OkSize s) (h3 : OkSize k) (q : ∀ r H', IsObs w s k r → Gr [] H H' → Q (.int r) H') : sp_obstacle K [.int w, .int s, .int k] H Q E := ⟨w, s, k, rfl, .inr ⟨⟨h1, h2, h3⟩, q⟩⟩
section
variable {P : Program} {w : World} {K : PySem.W.Frag} {mg : Str → Option Value} {base : Heap}
theorem ok_obstacle (c : Ctx K mg) : FnOk P w K mg base (L2.CX P w) 1 (A_obstacle K) (fdA K (A_obstacle K)) ["workers", "cells", "capacity"] (sp_obstacle K) := by
  refine okT (F_obstacle c) sc_obstacle (fun vs H Q E h => ?_) (fun cdv A outer s H vs Q E hr h tk pown => ?_)
  · first | (obtain ⟨rfl, _⟩ := h; rfl) | (obtain ⟨_, rfl, _⟩ := h; rfl) | (obtain ⟨_, _, rfl, _⟩ := h; rfl) | (obtain ⟨_, _, _, rfl, _⟩ := h; rfl) | (obtain ⟨_, _, _, _, rfl, _⟩ := h; rfl) | (obtain ⟨_, _, _, _, _, rfl, _⟩ := h; rfl) | (obtain ⟨_, _, _, _, _, _, rfl, _⟩ := h; rfl) | (obtain ⟨_, _, _, _, _, _, _, rfl, _⟩ := h; rfl)
  · skip
    refine ⟨_, (pss_cons (ps_for pown rfl (pi_tup (pe_tupN (pa_cons (pv 0) (pa_cons (pv 1) (pa_cons (pv 2) pa_nil))))) (pg_name (i := 3) sc_obstacle.nd rfl (Or.inl rfl))
    (pss_one (ps_if (pt_not (pt_chain op_le op_le pe_int (pv 3) (pe_glob (v := .int 1000) rfl (gv_LARGEST c).choose_spec ⟨_, rfl⟩)))
      (pss_one (ps_raise rfl tk (pmk_own PySem.F.excBase_ValueError (x_BadSize c).1 (g_BadSize c) (x_BadSize c).2.1 (raises_own (x_BadSize c).2.2.1 (x_BadSize c).2.2.2) rfl)))
      pss_nil)))
  (pss_cons (ps_for pown rfl (pi_range2 rfl (n_range c) (pa_cons (pe_op op_add (pv 2) pe_int) (pa_cons (pe_op op_add (pv 0) pe_int) pa_nil))) (pg_name (i := 3) sc_obstacle.nd rfl (Or.inl rfl))
    (pss_one (ps_if (pt_cmpR op_eq (pe_op op_mod (pv 1) (pv 3)) pe_int (nomark _))
      (pss_one (ps_ret (pv 3)))
      pss_nil)))
  (pss_one (ps_ret pe_int)))), ?_⟩
    clear tk pown hr
    obtain ⟨wn, sn, kn, rfl, Qk⟩ := h
    dsimp only [L2.start, N_obstacle, cxOf, Cx.tr, Cx.suite, List.map, List.length, Nat.reduceAdd, Nat.reduceSub, List.replicate, List.cons_append, List.nil_append, List.append_nil]
    walk_at "w"
    rename_i p H1 n1 g1 h1
    refine f_tup (xs := [.int wn, .int sn, .int kn]) (fun i σ' H' => H' = H1 ∧ (∃ o, σ' = [some (.int wn), some (.int sn), some (.int kn), o]) ∧ ∀ (j : Nat) x, j < i → [wn, sn, kn][j]? = some x → OkSize x) ⟨rfl, ⟨_, rfl⟩, fun _ _ h => absurd h (by omega)⟩ (fun i σ' H' _ h => by obtain ⟨rfl, _⟩ := h; exact sqt_of h1) ?_ ?_
    · rintro i v σ' H' hv ⟨rfl, ⟨o, rfl⟩, hj⟩
      obtain ⟨x, rfl, hx⟩ : ∃ x, v = .int x ∧ [wn, sn, kn][i]? = some x := by
        match i, hv with
        | 0, hv => exact ⟨_, (Option.some.inj hv).symm, rfl⟩
        | 1, hv => exact ⟨_, (Option.some.inj hv).symm, rfl⟩
        | 2, hv => exact ⟨_, (Option.some.inj hv).symm, rfl⟩
      have bad : ¬ OkSize x → E (.ref (He.ga K "BadSize")) none H' := fun nx => by
        rcases Qk with ⟨_, q⟩ | ⟨⟨q1, q2, q3⟩, _⟩
        · exact q _ g1
        · refine absurd ?_ nx
          match i, hx with
          | 0, hx => cases hx; exact q1
          | 1, hx => cases hx; exact q2
          | 2, hx => cases hx; exact q3
      walk_at "w"
      refine w_iteP (fun e1 => ?_) (fun e1 => ?_)
      · walk_at "w"
        refine w_iteNP (fun e2 => ?_) (fun e2 => ?_)
        · exact bad fun z => e2 z.2
        · walk_at "w"
          refine ⟨rfl, ⟨_, rfl⟩, fun j y hj' hy => ?_⟩
          by_cases z : j = i
          · subst z
            rw [hx] at hy
            cases hy
            exact ⟨e1, e2⟩
          · exact hj j y (by omega) hy
      · walk_at "w"
        exact bad fun z => e1 z.1
    · rintro σ' H' ⟨rfl, ⟨o, rfl⟩, hj⟩
      have o1 : OkSize wn := hj 0 wn (by show 0 < 3; decide) rfl
      have o2 : OkSize sn := hj 1 sn (by show 1 < 3; decide) rfl
      have o3 : OkSize kn := hj 2 kn (by show 2 < 3; decide) rfl
      have Qk : ∀ r H', IsObs wn sn kn r → Gr [] H H' → Q (.int r) H' := by
        rcases Qk with ⟨q, _⟩ | ⟨_, q⟩
        · exact absurd ⟨o1, o2, o3⟩ q
        · exact q
      unfold OkSize at o1 o2 o3
      walk_at "w"
      refine w_rRng2 (by omega) (by omega) (by omega) (by omega) ?_
      refine f_rng (fun i σ' H'' => H'' = H' ∧ (∃ o, σ' = [some (.int wn), some (.int sn), some (.int kn), o]) ∧ ∀ d : Int, kn < d → d < kn + 1 + i → sn % d ≠ 0) ⟨rfl, ⟨_, rfl⟩, fun d h1 h2 => absurd h2 (by omega)⟩ ?_ ?_
      · rintro i σ' H' hi ⟨rfl, ⟨o, rfl⟩, hd⟩
        walk_at "w"
        refine w_rI (by omega) ?_
        walk_at "w"
        refine w_iteI (fun e => ?_) (fun e => ?_)
        · walk_at "w"
          exact Qk _ _ (.inr ⟨by omega, by omega, e, hd⟩) g1
        · walk_at "w"
          refine ⟨rfl, ⟨_, rfl⟩, fun d h1 h2 => ?_⟩
          by_cases z : d = kn + 1 + i
          · rw [z]; exact e
          · exact hd d h1 (by omega)
      · rintro σ' H' ⟨rfl, ⟨o, rfl⟩, hd⟩
        walk_at "w"
        exact Qk _ _ (.inl ⟨rfl, fun d h1 h2 => hd d h1 (by omega)⟩) g1
end
def sp__law_refused (K : PySem.W.Frag) : Sp := fun vs H Q _ => ∃ (a : Addr) (w s k : Int), vs = [.ref a] ∧ H a = some (.lst [.int w, .int s, .int k]) ∧ ¬ (OkSize w ∧ OkSize s ∧ OkSize k) ∧ ∀ H', Gr [] H H' → Q (.bl true) H'
section
variable {P : Program} {w : World} {K : PySem.W.Frag} {mg : Str → Option Value} {base : Heap}
theorem ok__law_refused (c : Ctx K mg) : FnOk P w K mg base (L2.CX P w) 2 (A__law_refused K) (fdA K (A__law_refused K)) ["_law_sizes"] (sp__law_refused K) := by
  refine okT (F__law_refused c) sc__law_refused (fun vs H Q E h => ?_) (fun cdv A outer s H vs Q E hr h tk pown => ?_)
  · first | (obtain ⟨rfl, _⟩ := h; rfl) | (obtain ⟨_, rfl, _⟩ := h; rfl) | (obtain ⟨_, _, rfl, _⟩ := h; rfl) | (obtain ⟨_, _, _, rfl, _⟩ := h; rfl) | (obtain ⟨_, _, _, _, rfl, _⟩ := h; rfl) | (obtain ⟨_, _, _, _, _, rfl, _⟩ := h; rfl) | (obtain ⟨_, _, _, _, _, _, rfl, _⟩ := h; rfl) | (obtain ⟨_, _, _, _, _, _, _, rfl, _⟩ := h; rfl)
  · skip
    refine ⟨_, (pss_cons (ps_tryE rfl rfl tk (fun W pn xe tk pown => (pss_one (ps_expr (pe_callS (ok_obstacle c) (hr.mono (by decide)) rfl (g_obstacle c) (F_obstacle c).kp (b_obstacle c) (fun σ => passAt tk σ) (pa_cons (pe_ix ix_list (pv 0) pe_int (fun _ _ => rfl)) (pa_cons (pe_ix ix_list (pv 0) pe_int (fun _ _ => rfl)) (pa_cons (pe_ix ix_list (pv 0) pe_int (fun _ _ => rfl)) pa_nil)))))))
    (HdsE.as_ (i := 1) sc__law_refused.nd rfl rfl ⟨rfl, by decide, Or.inl (g_BadSize c)⟩ (fun a oe cls d pn hz hf => (pss_one (ps_ret (pe_and (pe_callB (cr_isE hz hf) rfl (n_isinstance c) (by decide +kernel) (pa_cons (pv 1) (pa_cons (pe_glob (v := .ref (He.ga K "HallError")) rfl (g_HallError c) rfl) pa_nil))) (pe_one (pe_not (pe_callB (cr_isE hz hf) rfl (n_isinstance c) (by decide +kernel) (pa_cons (pv 1) (pa_cons (pe_glob (v := .ref (He.ga K "NoObstacle")) rfl (g_NoObstacle c) rfl) pa_nil)))))))))
    (HdsE.only ⟨rfl, by decide, Or.inl (g_HallError c)⟩ (fun a oe cls d pn hz hf => (pss_one (ps_ret pe_bl)))
    HdsE.nil)))
  (pss_one (ps_ret pe_bl))), ?_⟩
    clear tk pown hr
    obtain ⟨a, wn, sn, kn, rfl, ha, hn, Qk⟩ := h
    dsimp only [L2.start, N__law_refused, cxOf, Cx.tr, Cx.suite, List.map, List.length, Nat.reduceAdd, Nat.reduceSub, List.replicate, List.cons_append, List.nil_append, List.append_nil]
    walk_at "w"
    refine ⟨wn, sn, kn, rfl, .inl ⟨hn, fun H1 g1 => ?_⟩⟩
    refine w_hd (xm_BadSize_BadSize c) fun e he => ?_
    dsimp only [List.set]
    walk_at "w"
    refine w_isE (excCB_ok (ex_BadSize c)) (of_decide_eq_true (k_BadSize_HallError c)) ?_
    walk_at "w"
    refine w_isE (excCB_ok (ex_BadSize c)) (of_decide_eq_true (k_BadSize_NoObstacle c)) ?_
    walk_at "w"
    exact Qk _ g1
end
theorem p997 (d : Int) (h1 : 1 < d) (h2 : d < 997) : (997 : Int) % d ≠ 0 := by
  have z : ∀ n : Nat, n < 997 → 1 < n → (997 : Int) % (n : Int) ≠ 0 := by decide +kernel
  have e := z d.toNat (by omega) (by omega)
  rw [Int.toNat_of_nonneg (by omega)] at e
  exact e
theorem two (W S C x : Int) (i j : Int) (hi : 0 ≤ i ∧ i < 3) (hj : 0 ≤ j ∧ j < 3) (hij : i ≠ j) (hx : ¬ OkSize x) : ∃ (n m : Nat) (w s k y w' s' k' : Int), ixN 3 i = some n ∧ ixN 3 j = some m ∧ ([V.int W, .int S, .int C] : List V).set n (.int x) = [.int w, .int s, .int k] ∧ ¬ (OkSize w ∧ OkSize s ∧ OkSize k) ∧
    atI ([.int w, .int s, .int k] : List V) j = some (.int y) ∧ ([.int w, .int s, .int k] : List V).set m (.int (0 - y)) = [.int w', .int s', .int k'] ∧ ¬ (OkSize w' ∧ OkSize s' ∧ OkSize k') := by
  rcases (by omega : i = 0 ∨ i = 1 ∨ i = 2) with e | e | e <;> rcases (by omega : j = 0 ∨ j = 1 ∨ j = 2) with e' | e' | e' <;> subst e <;> subst e' <;>
    first | exact absurd rfl hij | exact ⟨_, _, _, _, _, _, _, _, _, rfl, rfl, rfl, fun z => hx (by first | exact z.1 | exact z.2.1 | exact z.2.2), rfl, rfl, fun z => hx (by first | exact z.1 | exact z.2.1 | exact z.2.2)⟩
def sp_law (K : PySem.W.Frag) : Sp := fun vs H Q _ => ∃ (a : Addr) (ns : List Int), vs = [.ref a] ∧ SqL K H a (ns.map V.int) ∧ ns.length ≤ 63 ∧ ∀ H', Q (.bl true) H'
section
variable {P : Program} {w : World} {K : PySem.W.Frag} {mg : Str → Option Value} {base : Heap}
theorem ok_law (c : Ctx K mg) : FnOk P w K mg base (L2.CX P w) 10 (A_law K) (fdA K (A_law K)) ["_law_script"] (sp_law K) := by
  refine okT (F_law c) sc_law (fun vs H Q E h => ?_) (fun cdv A outer s H vs Q E hr h tk pown => ?_)
  · first | (obtain ⟨rfl, _⟩ := h; rfl) | (obtain ⟨_, rfl, _⟩ := h; rfl) | (obtain ⟨_, _, rfl, _⟩ := h; rfl) | (obtain ⟨_, _, _, rfl, _⟩ := h; rfl) | (obtain ⟨_, _, _, _, rfl, _⟩ := h; rfl) | (obtain ⟨_, _, _, _, _, rfl, _⟩ := h; rfl) | (obtain ⟨_, _, _, _, _, _, rfl, _⟩ := h; rfl) | (obtain ⟨_, _, _, _, _, _, _, rfl, _⟩ := h; rfl)
  · skip
    refine ⟨_, (pss_cons (ps_set (i := 1) sc_law.nd rfl (Or.inl rfl) (pe_callS (ok__law_begin c) (hr.mono (by decide)) rfl (g__law_begin c) (F__law_begin c).kp (b__law_begin c) (fun σ => passAt tk σ) (pa_cons (pv 0) pa_nil)))
  (pss_cons (ps_set (i := 2) sc_law.nd rfl (Or.inl rfl) (pe_ix ix_list (pe_lstN (pa_cons pe_int (pa_cons pe_int (pa_cons pe_int pa_nil)))) (pe_callS (ok__law_draw c) (hr.mono (by decide)) rfl (g__law_draw c) (F__law_draw c).kp (b__law_draw c) (fun σ => passAt tk σ) (pa_cons (pv 1) (pa_cons pe_int pa_nil))) (fun _ _ => rfl)))
  (pss_cons (ps_set (i := 3) sc_law.nd rfl (Or.inl rfl) (pe_op op_add pe_int (pe_callS (ok__law_draw c) (hr.mono (by decide)) rfl (g__law_draw c) (F__law_draw c).kp (b__law_draw c) (fun σ => passAt tk σ) (pa_cons (pv 1) (pa_cons (pv 2) pa_nil)))))
  (pss_cons (ps_set (i := 4) sc_law.nd rfl (Or.inl rfl) (pe_op op_add pe_int (pe_callS (ok__law_draw c) (hr.mono (by decide)) rfl (g__law_draw c) (F__law_draw c).kp (b__law_draw c) (fun σ => passAt tk σ) (pa_cons (pv 1) (pa_cons (pv 2) pa_nil)))))
  (pss_cons (ps_set (i := 5) sc_law.nd rfl (Or.inl rfl) (pe_op op_add pe_int (pe_callS (ok__law_draw c) (hr.mono (by decide)) rfl (g__law_draw c) (F__law_draw c).kp (b__law_draw c) (fun σ => passAt tk σ) (pa_cons (pv 1) (pa_cons (pe_ix ix_list (pe_lstN (pa_cons pe_int (pa_cons (pv 2) pa_nil))) (pe_callS (ok__law_draw c) (hr.mono (by decide)) rfl (g__law_draw c) (F__law_draw c).kp (b__law_draw c) (fun σ => passAt tk σ) (pa_cons (pv 1) (pa_cons pe_int pa_nil))) (fun _ _ => rfl)) pa_nil)))))
  (pss_cons (ps_set (i := 6) sc_law.nd rfl (Or.inl rfl) (pe_callS (ok__law_least c) (hr.mono (by decide)) rfl (g__law_least c) (F__law_least c).kp (b__law_least c) (fun σ => passAt tk σ) (pa_cons (pv 3) (pa_cons (pv 4) (pa_cons (pv 5) pa_nil)))))
  (pss_cons (ps_if (pt_not (pt_val (pe_callS (ok__law_same c) (hr.mono (by decide)) rfl (g__law_same c) (F__law_same c).kp (b__law_same c) (fun σ => passAt tk σ) (pa_cons (pe_callS (ok_obstacle c) (hr.mono (by decide)) rfl (g_obstacle c) (F_obstacle c).kp (b_obstacle c) (fun σ => passAt tk σ) (pa_cons (pv 3) (pa_cons (pv 4) (pa_cons (pv 5) pa_nil)))) (pa_cons (pv 6) pa_nil)))))
    (pss_one (ps_ret pe_bl))
    pss_nil)
  (pss_cons (ps_if (pt_not (pt_val (pe_callS (ok__law_same c) (hr.mono (by decide)) rfl (g__law_same c) (F__law_same c).kp (b__law_same c) (fun σ => passAt tk σ) (pa_cons (pe_callKS (ok_obstacle c) (hr.mono (by decide)) rfl (g_obstacle c) (F_obstacle c).kp (kb_obstacle_capacity c) (fun σ => passAt tk σ) (pa_cons (pv 3) (pa_cons (pv 4) pa_nil)) (pk_cons (pv 5) pk_nil)) (pa_cons (pv 6) pa_nil)))))
    (pss_one (ps_ret pe_bl))
    pss_nil)
  (pss_cons (ps_if (pt_not (pt_val (pe_callS (ok__law_same c) (hr.mono (by decide)) rfl (g__law_same c) (F__law_same c).kp (b__law_same c) (fun σ => passAt tk σ) (pa_cons (pe_callSD (ok_obstacle c) (hr.mono (by decide)) rfl (g_obstacle c) (F_obstacle c).kp (bd_obstacle_2 c).choose_spec.2 (bd_obstacle_2 c).choose_spec.1 (fun σ => passAt tk σ) (pa_cons (pv 3) (pa_cons (pv 4) pa_nil))) (pa_cons (pe_callS (ok__law_least c) (hr.mono (by decide)) rfl (g__law_least c) (F__law_least c).kp (b__law_least c) (fun σ => passAt tk σ) (pa_cons (pv 3) (pa_cons (pv 4) (pa_cons pe_int pa_nil)))) pa_nil)))))
    (pss_one (ps_ret pe_bl))
    pss_nil)
  (pss_cons (ps_set (i := 7) sc_law.nd rfl (Or.inl rfl) (pe_callS (ok__law_draw c) (hr.mono (by decide)) rfl (g__law_draw c) (F__law_draw c).kp (b__law_draw c) (fun σ => passAt tk σ) (pa_cons (pv 1) (pa_cons pe_int pa_nil))))
  (pss_cons (ps_set (i := 8) sc_law.nd rfl (Or.inl rfl) (pe_op op_mod (pe_callTy cr_int rfl (n_int c) (by decide +kernel) (pa_cons (pe_op op_add (pe_op op_add (pv 7) pe_int) (pe_callS (ok__law_draw c) (hr.mono (by decide)) rfl (g__law_draw c) (F__law_draw c).kp (b__law_draw c) (fun σ => passAt tk σ) (pa_cons (pv 1) (pa_cons pe_int pa_nil)))) pa_nil)) pe_int))
  (pss_cons (ps_for pown rfl (pi_list (pe_lstN (pa_cons pe_int (pa_cons pe_int (pa_cons (pe_op op_sub (pe_un un_neg pe_int) (pe_callS (ok__law_draw c) (hr.mono (by decide)) rfl (g__law_draw c) (F__law_draw c).kp (b__law_draw c) (fun σ => passAt tk σ) (pa_cons (pv 1) (pa_cons pe_int pa_nil)))) (pa_cons (pe_op op_add pe_int (pe_callS (ok__law_draw c) (hr.mono (by decide)) rfl (g__law_draw c) (F__law_draw c).kp (b__law_draw c) (fun σ => passAt tk σ) (pa_cons (pv 1) (pa_cons (pe_op op_pow pe_int pe_int) pa_nil)))) pa_nil)))))) (pg_name (i := 9) sc_law.nd rfl (Or.inl rfl))
    (pss_cons (ps_set (i := 10) sc_law.nd rfl (Or.inl rfl) (pe_lstN (pa_cons (pv 3) (pa_cons (pv 4) (pa_cons (pv 5) pa_nil)))))
    (pss_cons (ps_asg (pv 9) (pg_sub (pv 10) (pv 7) set_list))
    (pss_cons (ps_if (pt_not (pt_val (pe_callS (ok__law_refused c) (hr.mono (by decide)) rfl (g__law_refused c) (F__law_refused c).kp (b__law_refused c) (fun σ => passAt tk σ) (pa_cons (pv 10) pa_nil))))
      (pss_one (ps_ret pe_bl))
      pss_nil)
    (pss_cons (ps_asg (pe_op op_sub pe_int (pe_ix ix_list (pv 10) (pv 8) (fun _ _ => rfl))) (pg_sub (pv 10) (pv 8) set_list))
    (pss_one (ps_if (pt_not (pt_val (pe_callS (ok__law_refused c) (hr.mono (by decide)) rfl (g__law_refused c) (F__law_refused c).kp (b__law_refused c) (fun σ => passAt tk σ) (pa_cons (pv 10) pa_nil))))
      (pss_one (ps_ret pe_bl))
      pss_nil)))))))
  (pss_cons (ps_if (pt_not (pt_val (pe_callS (ok__law_refused c) (hr.mono (by decide)) rfl (g__law_refused c) (F__law_refused c).kp (b__law_refused c) (fun σ => passAt tk σ) (pa_cons (pe_lstN (pa_cons (pe_op op_sub pe_int (pv 3)) (pa_cons (pe_op op_sub pe_int (pv 4)) (pa_cons (pe_op op_sub pe_int (pv 5)) pa_nil)))) pa_nil))))
    (pss_one (ps_ret pe_bl))
    pss_nil)
  (pss_cons (ps_if (PW.pt (pw_or (pt_not (pt_val (pe_callS (ok__law_same c) (hr.mono (by decide)) rfl (g__law_same c) (F__law_same c).kp (b__law_same c) (fun σ => passAt tk σ) (pa_cons (pe_callS (ok_obstacle c) (hr.mono (by decide)) rfl (g_obstacle c) (F_obstacle c).kp (b_obstacle c) (fun σ => passAt tk σ) (pa_cons pe_int (pa_cons pe_int (pa_cons pe_int pa_nil)))) (pa_cons pe_int pa_nil))))) (pw_or1 (pt_not (pt_val (pe_callS (ok__law_same c) (hr.mono (by decide)) rfl (g__law_same c) (F__law_same c).kp (b__law_same c) (fun σ => passAt tk σ) (pa_cons (pe_callS (ok_obstacle c) (hr.mono (by decide)) rfl (g_obstacle c) (F_obstacle c).kp (b_obstacle c) (fun σ => passAt tk σ) (pa_cons pe_int (pa_cons pe_int (pa_cons pe_int pa_nil)))) (pa_cons pe_int pa_nil))))))))
    (pss_one (ps_ret pe_bl))
    pss_nil)
  (pss_one (ps_ret (pe_and (pe_callS (ok__law_same c) (hr.mono (by decide)) rfl (g__law_same c) (F__law_same c).kp (b__law_same c) (fun σ => passAt tk σ) (pa_cons (pe_callSD (ok_obstacle c) (hr.mono (by decide)) rfl (g_obstacle c) (F_obstacle c).kp (bd_obstacle_2 c).choose_spec.2 (bd_obstacle_2 c).choose_spec.1 (fun σ => passAt tk σ) (pa_cons pe_int (pa_cons pe_int pa_nil))) (pa_cons pe_int pa_nil))) (pe_one (pe_callS (ok__law_same c) (hr.mono (by decide)) rfl (g__law_same c) (F__law_same c).kp (b__law_same c) (fun σ => passAt tk σ) (pa_cons (pe_callSD (ok_obstacle c) (hr.mono (by decide)) rfl (g_obstacle c) (F_obstacle c).kp (bd_obstacle_2 c).choose_spec.2 (bd_obstacle_2 c).choose_spec.1 (fun σ => passAt tk σ) (pa_cons pe_int (pa_cons pe_int pa_nil))) (pa_cons pe_int pa_nil))))))))))))))))))))), ?_⟩
    clear tk pown hr
    obtain ⟨a, ns, rfl, hS, hl, Qk⟩ := h
    dsimp only [L2.start, N_law, cxOf, Cx.tr, Cx.suite, List.map, List.length, Nat.reduceAdd, Nat.reduceSub, List.replicate, List.cons_append, List.nil_append, List.append_nil]
    walk_at "w"
    refine w_begin hS hl fun t H0 n0 g0 t0 => ?_
    walk_at "w"
    rename_i p1 H1 n1 g1 h1
    refine w_draw (by walk_at "tape") (by decide) (by decide) (by decide) fun r1 H2 a1 b1 g2 t2 => ?_
    have ne1 : t ≠ p1 := t0.ne n1
    obtain ⟨L, hL, L1, L2⟩ : ∃ L : Int, atI [V.int 12, V.int 60, V.int 1000] r1 = some (.int L) ∧ 12 ≤ L ∧ L ≤ 1000 := by
      rcases (by omega : r1 = 0 ∨ r1 = 1 ∨ r1 = 2) with e | e | e <;> subst e
      · exact ⟨12, rfl, by decide, by decide⟩
      · exact ⟨60, rfl, by decide, by decide⟩
      · exact ⟨1000, rfl, by decide, by decide⟩
    refine w_ixL (by walk_at "sql") hL ?_
    walk_at "w"
    refine w_draw (by walk_at "tape") (by decide) (by omega) (by omega) fun wn H3 w0 w1 g3 t3 => ?_
    walk_at "w"
    refine w_draw (by walk_at "tape") (by decide) (by omega) (by omega) fun sn H4 s0 s1 g4 t4 => ?_
    walk_at "w"
    rename_i p5 H5 n5 g5 h5
    refine w_draw (by walk_at "tape") (by decide) (by decide) (by decide) fun r6 H6 a6 b6 g6 t6 => ?_
    obtain ⟨M, hM, M1, M2⟩ : ∃ M : Int, atI [V.int 4, V.int L] r6 = some (.int M) ∧ 4 ≤ M ∧ M ≤ 1000 := by
      rcases (by omega : r6 = 0 ∨ r6 = 1) with e | e <;> subst e
      · exact ⟨4, rfl, by decide, by decide⟩
      · exact ⟨L, rfl, by omega, by omega⟩
    have ne5 : t ≠ p5 := t4.ne n5
    refine w_ixL (by walk_at "sql") hM ?_
    walk_at "w"
    refine w_draw (by walk_at "tape") (by decide) (by omega) (by omega) fun kn H7 k0 k1 g7 t7 => ?_
    walk_at "w"
    have ow : OkSize (1 + wn) := ⟨by omega, by omega⟩
    have os : OkSize (1 + sn) := ⟨by omega, by omega⟩
    have ok : OkSize (1 + kn) := ⟨by omega, by omega⟩
    have o1 : OkSize 1 := ⟨by decide, by decide⟩
    clear g0 t0 g1 t2 g2 g3 t3 g4 t4 g5 t6 g6 g7 n0 n1 n5 h1 h5 ne1 ne5 hL hM
    generalize 1 + wn = W at *
    generalize 1 + sn = S at *
    generalize 1 + kn = C at *
    refine w_least ow ok fun r hr => ?_
    walk_at "w"
    refine w_obstacle ow os ok fun r8 H8 e8 g8 => ?_
    walk_at "w"
    refine w_sameI (e8.one hr) ?_
    walk_at "w"
    refine ⟨rfl, rfl, w_obstacle ow os ok fun r9 H9 e9 g9 => ?_⟩
    walk_at "w"
    refine w_sameI (e9.one hr) ?_
    walk_at "w"
    refine w_obstacle ow os o1 fun r10 H10 e10 g10 => ?_
    walk_at "w"
    refine w_least ow o1 fun r' hr' => ?_
    walk_at "w"
    refine w_sameI (e10.one hr') ?_
    walk_at "w"
    refine w_draw (by walk_at "tape") (by decide) (by decide) (by decide) fun pl H11 pl0 pl1 g11 t11 => ?_
    walk_at "w"
    refine w_draw (by walk_at "tape") (by decide) (by decide) (by decide) fun ot H12 ot0 ot1 g12 t12 => ?_
    walk_at "w"
    refine w_rI (by decide) ?_
    walk_at "w"
    refine w_draw (by walk_at "tape") (by decide) (by decide) (by decide) fun x3 H13 x30 x31 g13 t13 => ?_
    walk_at "w"
    refine w_rI ⟨by decide, by decide⟩ ?_
    walk_at "w"
    refine w_draw (by walk_at "tape") (by decide) (by decide) (by decide) fun x4 H14 x40 x41 g14 t14 => ?_
    walk_at "w"
    rename_i p15 H15 n15 g15 h15
    have hot : 0 ≤ (pl + 1 + ot) % 3 ∧ (pl + 1 + ot) % 3 < 3 ∧ pl ≠ (pl + 1 + ot) % 3 := by omega
    refine f_list (xs := [.int 0, .int 1001, .int (-1 - x3), .int (1002 + x4)]) (fun i σ' H' => Gr [] H15 H' ∧ ∃ o o', σ' = [some (.ref a), some (.ref t), some (.int L), some (.int W), some (.int S), some (.int C), some (.int r), some (.int pl), some (.int ((pl + 1 + ot) % 3)), o, o']) ⟨Gr.refl _, _, _, rfl⟩ (fun i σ' H' _ h => sql_of (h.1.get0 h15)) ?_ ?_
    · rintro i v σ' H' hv ⟨gl, o, o', rfl⟩
      obtain ⟨x, rfl, hx⟩ : ∃ x, v = .int x ∧ ¬ OkSize x := by
        match i, hv with
        | 0, hv => exact ⟨_, (Option.some.inj hv).symm, fun z => absurd z.1 (by decide)⟩
        | 1, hv => exact ⟨_, (Option.some.inj hv).symm, fun z => absurd z.2 (by decide)⟩
        | 2, hv => exact ⟨_, (Option.some.inj hv).symm, fun z => absurd z.1 (by omega)⟩
        | 3, hv => exact ⟨_, (Option.some.inj hv).symm, fun z => absurd z.2 (by omega)⟩
      obtain ⟨n, m, w1, s1, k1, y, w2, s2, k2, e1, e2, e3, b1, e4, e5, b2⟩ := two W S C x pl _ ⟨pl0, pl1⟩ ⟨hot.1, hot.2.1⟩ hot.2.2 hx
      walk_at "w"
      rename_i q Hq nq gq hq
      refine w_setL hq e1 fun Hr gr hr => ?_
      rw [e3] at hr
      walk_at "w"
      refine ⟨q, w1, s1, k1, rfl, hr, b1, fun Hs gs => ?_⟩
      walk_at "w"
      refine w_ixL (by walk_at "sql") e4 ?_
      walk_at "w"
      refine w_setL (xs := [.int w1, .int s1, .int k1]) (by walk_at "at") e2 fun Ht gt ht => ?_
      rw [e5] at ht
      walk_at "w"
      refine ⟨q, w2, s2, k2, rfl, ht, b2, fun Hu gu => ?_⟩
      walk_at "w"
      exact ⟨by walk_at "gr", _, _, rfl⟩
    · rintro σ' H' ⟨gl, o, o', rfl⟩
      walk_at "w"
      rename_i q Hq nq gq hq
      refine ⟨q, _, _, _, rfl, hq, fun z => absurd z.1.1 (by have := ow.1; omega), fun Hs gs => ?_⟩
      walk_at "w"
      refine w_obstacle ⟨by decide, by decide⟩ ⟨by decide, by decide⟩ ⟨by decide, by decide⟩ fun y1 Hy1 ey1 gy1 => ?_
      walk_at "w"
      refine w_sameI (ey1.one (.inr ⟨by decide, by decide, by decide, fun d h1 h2 => by omega⟩)) ?_
      walk_at "w"
      refine w_obstacle ⟨by decide, by decide⟩ ⟨by decide, by decide⟩ ⟨by decide, by decide⟩ fun y2 Hy2 ey2 gy2 => ?_
      walk_at "w"
      refine w_sameI (ey2.one (.inl ⟨rfl, fun d h1 h2 => by omega⟩)) ?_
      walk_at "w"
      refine w_obstacle ⟨by decide, by decide⟩ ⟨by decide, by decide⟩ ⟨by decide, by decide⟩ fun y3 Hy3 ey3 gy3 => ?_
      walk_at "w"
      refine w_sameI (ey3.one (.inr ⟨by decide, by decide, by decide, p997⟩)) ?_
      walk_at "w"
      refine w_obstacle ⟨by decide, by decide⟩ ⟨by decide, by decide⟩ ⟨by decide, by decide⟩ fun y4 Hy4 ey4 gy4 => ?_
      walk_at "w"
      refine w_sameI (ey4.one (.inl ⟨rfl, fun d h1 h2 => p997 d h1 (by omega)⟩)) ?_
      walk_at "w"
      exact Qk _
end
end LW
set_option maxHeartbeats 0
namespace LW
open PySem PySem.Spec PyProof.Rows L2
abbrev RR : PySem.W.OpenRow := PySem.W.OpenLaw.row PySem.Challenge.rw_ownlabels_k01_least_obstacle
abbrev AlW : Type := He.AlD × Bool
def obW (K : PySem.W.Frag) : AlW := (He.obsD fa fn K, (exB K).all id)
def hkW : PySem.W.Hook where
  α := AlW
  obs := fun s => obW (He.frG s.heap.get? (He.asD s.heap.get? 5))
  val := fun _ => (He.valD fn, true)
  says := fun _ h => ∃ K : PySem.W.Frag, K.In h ∧ He.SaysD fa fn K ∧ (exB K).all id = true
  of := fun _ _ e => ⟨_, He.frG_in, congrArg (fun z : AlW => z.1) e, congrArg (fun z : AlW => z.2) e⟩
  keeps := fun _ _ _ ⟨K, hK, q⟩ k => ⟨K, PySem.W.Frag.In.keeps hK k, q⟩
def obT (s : PySem.W.SharedT) : AlW := obW (He.frG (HandSHeadRun.getT s) (He.asD (HandSHeadRun.getT s) 5))
theorem obT_eq (s : PySem.W.SharedT) : obT s = hkW.obs s.abs := by
  have e : HandSHeadRun.getT s = s.abs.heap.get? := funext (HandSHeadRun.getT_eq s)
  show obW (He.frG (HandSHeadRun.getT s) (He.asD (HandSHeadRun.getT s) 5)) = obW (He.frG s.abs.heap.get? (He.asD s.abs.heap.get? 5))
  rw [e]
def looseN : List PySem.Str := (["HallError", "BadSize", "NoObstacle", "LARGEST", "obstacle", "_law_begin", "_law_draw", "_law_same", "_law_refused", "_law_least"] : List PySem.Str)
theorem runW (w : World) : HandSHeadRun.RunEq RR (PySem.W.view RR.prog [13]) hkW obT 1500 looseN w := by
  intro os
  kernel_rfl
theorem ctx_of {K : PySem.W.Frag} {h : Heap} {mg : Str → Option Value} (X : K.In h) (G : h.Ns mainGlobals mg) (q : He.SaysD fa fn K ∧ (exB K).all id = true) : Ctx K mg :=
  ⟨q.1, q.2, He.glo_ok X G, He.free_ok X G, He.int_ok X G, He.str_ok X G⟩
end LW
open PySem PySem.W PySem.Calls PyProof.Rows
theorem PySem.Challenge.cw_ownlabels_k01_least_obstacle_holds : PySem.Challenge.rw_ownlabels_k01_least_obstacle.Holds := by
  w_on; o_law
  refine HandSHeadRun.head_any (r := OpenLaw.row PySem.Challenge.rw_ownlabels_k01_least_obstacle) (q := view (OpenLaw.row PySem.Challenge.rw_ownlabels_k01_least_obstacle).prog [13]) (H := LW.hkW) (ob := LW.obT) (M := 1500) (loose := LW.looseN) (d := HandSHeadRun.topDef (OpenLaw.row PySem.Challenge.rw_ownlabels_k01_least_obstacle).prog 13) (kwd := []) LW.obT_eq
    (by kernel_rfl) (fun s => by kernel_rfl) LW.runW (by kernel_rfl) (by kernel_rfl) (by kernel_rfl) (by rfl) (by first | assumption | decide +kernel) (by decide +kernel) ⟨rfl, rfl, rfl, rfl, rfl, by decide +kernel⟩ ?hw ?hc
  case hw => w_witness2
  case hc =>
    refine LW.walkW (l := PySem.Challenge.rw_ownlabels_k01_least_obstacle) (n := 63) (k := 10) (x := "_law_script") rfl (by decide) (by kernel_rfl) ⟨rfl, by decide, by decide⟩ ?F
    case F =>
      intro w mg fa h Y G hmg0
      obtain ⟨K, KX, q⟩ := Y
      have c := LW.ctx_of KX G q
      have hmg : mg ("law" : PySem.Str) = some (.ref fa) := by
        have e : (HandSHeadRun.topDef (OpenLaw.row PySem.Challenge.rw_ownlabels_k01_least_obstacle).prog 13).name = ("law" : PySem.Str) := by kernel_rfl
        rw [← e]
        exact hmg0
      have ef : fa = LW.A_law K := Value.ref.inj (Option.some.inj (hmg.symm.trans (LW.g_law c)))
      subst ef
      exact ⟨K, _, LW.sp_law K, KX, fun s v => (LW.F_law c).bindsA (ps := ["_law_script"]) (fun _ _ _ _ _ _ us hl => match us, hl with | [_], _ => rfl) s [v] rfl, fun H a ns hl _ hS => ⟨a, ns, rfl, hS, hl, fun _ => rfl⟩, fun base _ _ => LW.ok_law c⟩
#print axioms PySem.Challenge.cw_ownlabels_k01_least_obstacle_holds
