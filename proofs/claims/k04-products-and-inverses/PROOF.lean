import PyProof.Rows.All
import Wide.All
import OpenK.AllK
import Wide.FinOn
import KE.KStateDown
import HandS.ForMost
import HandS.Exc
import HandS.TryOnly
import HandS.TryMany
import HandS.ExcOwn
import HandS.WordsExc
import HandS.CallSlots
import HandS.ExcIs
import HandS.ExcField
import HandS.HotCalls
import HandS.IsInst
import HandS.Wide
import HandS.Defaults
import HandS.Head0
import HandS.Head1
import HandS.Head2
import HandS.HeadEnd
import HandS.HeadHook1
import HandS.HeadHook2
import HandS.ClsMeth
import HandS.SlotsOwn
import HandS.Star
import HandS.SortInts
import HandS.Conv
import HandS.CallLocal
import KE.KOpsOwn
import PyProof.TupleOfSeq
import HandS.Strs
import PySem.Challenge.RW_ownlabels_k04_products_and_inverses
set_option Elab.async false
set_option linter.all false
set_option maxRecDepth 100000
set_option maxHeartbeats 4000000
namespace LW
open PySem PySem.Spec PyProof.Rows L2

/-! ### data -/
inductive D where
  | non | bl (b : Bool) | int (i : Int) | str (s : Str)
  | tup (ds : List D) | lst (ds : List D) | ins (C : Addr) (ns : List Str) (ds : List D)

/-- the field names of classes whose instances are never written again -/
def immNames : List (List Str) := [["places"], ["instructions", "rows"], ["program", "numberings", "workers", "cells", "capacity"], ["system"], ["system", "schedule"], ["system", "schedule", "cycle"], ["system", "states", "ranks", "levels", "helpers"]]
def imm (ns : List Str) : Bool := decide (ns ∈ immNames)
def pers : HO → Bool
  | .lst _ => false
  | .dK _ => false
  | .dT _ => false
  | .set _ _ => false
  | .ext _ => false
  | .ins _ _ fs => imm (fs.map (·.1))
  | _ => true

mutual
inductive Rep (K : PySem.W.Frag) (H : Hp) : D → V → Prop
  | non : Rep K H .non .non
  | bl (b : Bool) : Rep K H (.bl b) (.bl b)
  | int (i : Int) : Rep K H (.int i) (.int i)
  | str (s : Str) : Rep K H (.str s) (.str s)
  | tup {a : Addr} {xs : List V} {ds : List D} : SqT K H a xs → Reps K H ds xs → Rep K H (.tup ds) (.ref a)
  | lst {a : Addr} {xs : List V} {ds : List D} : SqL K H a xs → Reps K H ds xs → Rep K H (.lst ds) (.ref a)
  | ins {a C dx : Addr} {ns : List Str} {xs : List V} {ds : List D} : H a = some (.ins C dx (ns.zip xs)) → imm ns = true → ns.length = ds.length → Reps K H ds xs → Rep K H (.ins C ns ds) (.ref a)
inductive Reps (K : PySem.W.Frag) (H : Hp) : List D → List V → Prop
  | nil : Reps K H [] []
  | cons {d : D} {ds : List D} {v : V} {vs : List V} : Rep K H d v → Reps K H ds vs → Reps K H (d :: ds) (v :: vs)
end
mutual
def D.pure : D → Bool
  | .tup ds => D.pures ds
  | .lst _ => false
  | .ins _ _ ds => D.pures ds
  | _ => true
def D.pures : List D → Bool
  | [] => true
  | d :: ds => d.pure && D.pures ds
end

/-! ### how a heap grows -/
structure Gr (S : List Addr) (H H' : Hp) : Prop where
  keep : ∀ a o, H a = some o → a ∉ S → H' a = some o
  mu : ∀ a, a ∈ S → ∃ o, H a = some o ∧ pers o = false
section
variable {K : PySem.W.Frag} {H H' H1 H2 : Hp} {S S' : List Addr} {a l p : Addr} {o : HO} {xs ys : List V}
theorem Gr.refl (H : Hp) : Gr [] H H := ⟨fun _ _ h _ => h, fun _ h => by cases h⟩
theorem Gr.get (g : Gr S H H') (h : H a = some o) (hp : pers o = true) : H' a = some o := g.keep a o h fun m => by
  obtain ⟨u, h1, h2⟩ := g.mu a m
  rw [h] at h1
  cases h1
  rw [hp] at h2
  cases h2
theorem Gr.get0 (g : Gr [] H H') (h : H a = some o) : H' a = some o := g.keep a o h (by simp)
theorem Gr.trans (g : Gr S H H1) (g' : Gr S' H1 H2) (hs : ∀ a, a ∈ S' → a ∈ S ∨ H a = none) : Gr S H H2 :=
  ⟨fun a o h m => g'.keep a o (g.keep a o h m) fun m' => by
    rcases hs a m' with q | q
    · exact m q
    · exact absurd (h.symm.trans q) (by simp), g.mu⟩
theorem Gr.trans0 (g : Gr S H H1) (g' : Gr [] H1 H2) : Gr S H H2 := g.trans g' fun _ h => by cases h
theorem Gr.trans1 (g : Gr [l] H H1) (g' : Gr [l] H1 H2) : Gr [l] H H2 := g.trans g' fun _ h => .inl h
/-- what was changed was new -/
theorem Gr.transN (g : Gr S H H1) (g' : Gr [l] H1 H2) (h : H l = none) : Gr S H H2 := g.trans g' fun a m => by
  have e : a = l := by simpa using m
  subst e
  exact .inr h
theorem Gr.trans2 (g : Gr S H H1) (g' : Gr [l] H1 H2) (h : l ∈ S) : Gr S H H2 := g.trans g' fun a m => by
  have e : a = l := by simpa using m
  subst e
  exact .inl h
theorem Gr.weak (g : Gr [] H H') (h : ∀ a, a ∈ S → ∃ o, H a = some o ∧ pers o = false) : Gr S H H' := ⟨fun a o e _ => g.keep a o e (by simp), h⟩
theorem Gr.weak1 (g : Gr [] H H') (h : H l = some (.lst xs)) : Gr [l] H H' := g.weak fun a m => by
  have e : a = l := by simpa using m
  subst e
  exact ⟨_, h, rfl⟩
theorem Gr.new (h : H p = none) : Gr [] H (upd H p o) := ⟨fun a u e _ => by rw [upd_ne (ne_of_none e h)]; exact e, fun _ m => by cases m⟩
theorem Gr.wr (h : H l = some (.lst xs)) : Gr [l] H (upd H l o) := ⟨fun a u e m => by
    rw [upd_ne (by simpa using m)]
    exact e, fun a m => by
    have e : a = l := by simpa using m
    subst e
    exact ⟨_, h, rfl⟩⟩
theorem Gr.free (g : Gr S H H') (h : H' p = none) (hp : p ∉ S) : H p = none := by
  cases q : H p with
  | none => rfl
  | some u =>
    rw [g.keep p u q hp] at h
    cases h
theorem Gr.free0 (g : Gr [] H H') (h : H' p = none) : H p = none := g.free h (by simp)
theorem Gr.free1 (g : Gr [l] H H') (h : H' p = none) (ne : p ≠ l) : H p = none := g.free h (by simpa using ne)
theorem Gr.sqt (g : Gr S H H') (h : SqT K H a xs) : SqT K H' a xs := by
  rcases h with (h | ⟨u, h⟩) | h
  · exact .inl (.inl (g.get h rfl))
  · exact .inl (.inr ⟨u, g.get h rfl⟩)
  · exact .inr h
theorem Gr.sql0 (g : Gr [] H H') (h : SqL K H a xs) : SqL K H' a xs := by
  rcases h with (h | ⟨u, h⟩) | h
  · exact .inl (.inl (g.get0 h))
  · exact .inl (.inr ⟨u, g.get0 h⟩)
  · exact .inr h
theorem Gr.sql (g : Gr S H H') (h : SqL K H a xs) (hn : a ∉ S) : SqL K H' a xs := by
  rcases h with (h | ⟨u, h⟩) | h
  · exact .inl (.inl (g.keep _ _ h hn))
  · exact .inl (.inr ⟨u, g.keep _ _ h hn⟩)
  · exact .inr h
theorem Gr.lst1 (g : Gr [l] H H') (h : H a = some (.lst xs)) (hn : a ≠ l) : H' a = some (.lst xs) := g.keep _ _ h (by simpa using hn)
end
mutual
theorem Rep.gr {K : PySem.W.Frag} {H H' : Hp} {S : List Addr} (g : Gr S H H') : ∀ {d : D} {v : V}, Rep K H d v → d.pure = true → Rep K H' d v
  | _, _, .non, _ => .non
  | _, _, .bl b, _ => .bl b
  | _, _, .int b, _ => .int b
  | _, _, .str b, _ => .str b
  | _, _, .tup h r, q => .tup (g.sqt h) (Reps.gr g r q)
  | _, _, .lst h r, q => nomatch (show false = true from q)
  | _, _, .ins (ns := ns) (xs := xs) (ds := ds) h i l r, q => .ins (g.get h (by
      have e : xs.length = ds.length := Reps.len r
      show imm ((ns.zip xs).map (·.1)) = true
      rw [List.map_fst_zip (by omega)]
      exact i)) i l (Reps.gr g r q)
theorem Reps.gr {K : PySem.W.Frag} {H H' : Hp} {S : List Addr} (g : Gr S H H') : ∀ {ds : List D} {vs : List V}, Reps K H ds vs → D.pures ds = true → Reps K H' ds vs
  | _, _, .nil, _ => .nil
  | _, _, .cons h r, q => by
    have q2 := Bool.and_eq_true_iff.mp q
    exact .cons (Rep.gr g h q2.1) (Reps.gr g r q2.2)
theorem Reps.len {K : PySem.W.Frag} {H : Hp} : ∀ {ds : List D} {vs : List V}, Reps K H ds vs → vs.length = ds.length
  | _, _, .nil => rfl
  | _, _, .cons _ r => congrArg Nat.succ (Reps.len r)
end
mutual
theorem Rep.gr0 {K : PySem.W.Frag} {H H' : Hp} (g : Gr [] H H') : ∀ {d : D} {v : V}, Rep K H d v → Rep K H' d v
  | _, _, .non => .non
  | _, _, .bl b => .bl b
  | _, _, .int b => .int b
  | _, _, .str b => .str b
  | _, _, .tup h r => .tup (g.sqt h) (Reps.gr0 g r)
  | _, _, .lst h r => .lst (g.sql0 h) (Reps.gr0 g r)
  | _, _, .ins h i l r => .ins (g.get0 h) i l (Reps.gr0 g r)
theorem Reps.gr0 {K : PySem.W.Frag} {H H' : Hp} (g : Gr [] H H') : ∀ {ds : List D} {vs : List V}, Reps K H ds vs → Reps K H' ds vs
  | _, _, .nil => .nil
  | _, _, .cons h r => .cons (Rep.gr0 g h) (Reps.gr0 g r)
end

/-! ### a def of the text -/
def noFd : FuncData := PySem.W.fnOf Str.empty Str.empty ⟨[], [], none, [], [], none, []⟩ [] ⟨.function, [], false, false, []⟩ .none .none .none .none none .none .none
def fdA (K : PySem.W.Frag) (a : Addr) : FuncData := match K.lookup a with
  | some ⟨_, _, .func fd, _⟩ => fd
  | _ => noFd
theorem fdA_of {K : PySem.W.Frag} {x qual : Str} {params : Arguments} {body : List Stmt} {scope : Scope} {dvs : List V} {kws : List (Str × V)} {f : Addr} (h : ∃ fd, FunD K x qual params body scope dvs kws f fd) : FunD K x qual params body scope dvs kws f (fdA K f) := by
  obtain ⟨fd, h⟩ := h
  have e : fdA K f = fd := by
    obtain ⟨oc, od, dV, kV, doc, pm, an, cdv, ct, osl, _, lk, _⟩ := h.ex
    unfold fdA
    rw [lk]
  rw [e]
  exact h
/-- a def that may raise: its body under what takes an exception -/
theorem okT {P : Program} {w : World} {K : PySem.W.Frag} {mg : Str → Option Value} {base : Heap} {x qual : Str} {params : Arguments} {body : List Stmt} {scope : Scope} {dvs : List V} {kws : List (Str × V)} {f : Addr} {fd : FuncData} {N ps : List Str} {k : Nat} {sp : Sp}
    (F : FunD K x qual params body scope dvs kws f fd) (S : FnScope N ps scope) (len : ∀ vs H Q E, sp vs H Q E → vs.length = ps.length)
    (hbody : ∀ (cdv : Value) (A : Around) (outer : List Env) (s : Shared) (H : Hp) (vs : List V) (Q : VK) (E : XK), Room k (A.deeper (envOfC qual scope s.heap.objs.size f cdv)) → sp vs H Q E →
      Takes (cxOf (L2.CX P w) P w K mg base N qual scope f cdv A outer s H E) (fun cls d _ H' => E cls d H') →
      PassesOwn (model P w) (cxOf (L2.CX P w) P w K mg base N qual scope f cdv A outer s H E).A (cxOf (L2.CX P w) P w K mg base N qual scope f cdv A outer s H E).env (cxOf (L2.CX P w) P w K mg base N qual scope f cdv A outer s H E).xe →
      ∃ t, PSs (cxOf (L2.CX P w) P w K mg base N qual scope f cdv A outer s H E) body t ∧ t { nx := fun _ H' => Q .non H', rt := Q } (start N vs) H) : FnOk P w K mg base (L2.CX P w) (k + 1) f fd ps sp :=
  F.ok S len fun cdv A outer s H vs Q E hr h => hbody cdv A outer s H vs Q E hr h (takes_of rfl rfl rfl rfl) (passes_of rfl)

/-! ### try with several clauses, named or not -/
abbrev TSu := Addr → Value → Option Addr → TS
abbrev TSv := Addr → Value → Option Addr → Obj → List (Addr × Obj) → TS
def oeZ : Obj := ⟨.none, none, .plain, #[]⟩
abbrev xeZ : Value → Shared → Prop := fun _ _ => True
/-- behind a clause that binds a name its slot is empty -/
def endsNo (i : Nat) (D : Ends) : Ends := { nx := fun σ H => D.nx (σ.set i none) H, rt := D.rt, bk := fun σ H => D.bk (σ.set i none) H, ct := fun σ H => D.ct (σ.set i none) H }
def wHds (K : PySem.W.Frag) (Wo : WX) (D : Ends) : List (Value × Option Nat × TSu) → WX
  | [] => Wo
  | (c, o, ts) :: r => fun cls d σ H => ∃ b, PySem.W.exmOne K cls c = some b ∧
      (b = true → ∀ a, H a = none → match o with
        | some i => ts a cls d (endsNo i D) (σ.set i (some (.ref a))) H
        | none => ts a cls d D σ H) ∧ (b = false → wHds K Wo D r cls d σ H)
inductive HdsE (X : Cx) : List ExceptHandler → List (Value × Option Nat × TSu) → Prop
  | nil : HdsE X [] []
  | only {x : Str} {c : Value} {ts : TSv} {b0 : Stmt} {su : List Stmt} {np p : Pos} {hds : List ExceptHandler} {l : List (Value × Option Nat × TSu)} (hc : Names X x c)
      (hsu : ∀ (a : Addr) (oe : Obj) (cls : Value) (d : Option Addr) (pn : List (Addr × Obj)), Zc cls d oe → (∃ vs, oe.data = .fields vs) → PSs (X.suite a ((a, oe) :: pn)) (b0 :: su) (ts a cls d oe pn)) (r : HdsE X hds l)
      (he : ∀ a oe cls d pn, ts a cls d oe pn = ts a cls d oeZ [] := by intros; rfl) :
      HdsE X (.ExceptHandler (some (.Name x np)) none (b0 :: su) p :: hds) ((c, none, fun a cls d => ts a cls d oeZ []) :: l)
  | as_ {x n : Str} {i : Nat} {c : Value} {ts : TSv} {b0 : Stmt} {su : List Stmt} {np p : Pos} {hds : List ExceptHandler} {l : List (Value × Option Nat × TSu)} (hN : X.N.Nodup) (hi : X.N[i]? = some n) (hln : X.env.kindOf n = some .local) (hc : Names X x c)
      (hsu : ∀ (a : Addr) (oe : Obj) (cls : Value) (d : Option Addr) (pn : List (Addr × Obj)), Zc cls d oe → (∃ vs, oe.data = .fields vs) → PSs (X.suite a ((a, oe) :: pn)) (b0 :: su) (ts a cls d oe pn)) (r : HdsE X hds l)
      (he : ∀ a oe cls d pn, ts a cls d oe pn = ts a cls d oeZ [] := by intros; rfl) :
      HdsE X (.ExceptHandler (some (.Name x np)) (some n) (b0 :: su) p :: hds) ((c, some i, fun a cls d => ts a cls d oeZ []) :: l)
section
variable {X : Cx} {body : List Stmt} {h0 : ExceptHandler} {hds : List ExceptHandler} {l : List (Value × Option Nat × TSu)} {pos : Pos} {tb : WX → List (Addr × Obj) → (Value → Shared → Prop) → TS} {Wo : WX}
/-- an exception that lies on the ground, asked of the clauses one after another -/
theorem hds_run (hs : X.stack = X.env :: X.outer) (hf : X.env.frame = some X.env.locals) (tk : Takes X Wo) {pins : List (Addr × Obj)} {D : Ends} {a : Addr} {B : Heap} {sI s' : Shared} {σ : L2.St} {H : Hp} {cls : Value} {d : Option Addr} {h3 : Heap}
    (J : Inv X pins σ H sI) (nb : ∀ b o, sI.heap.get? b = some o → b ∉ frs X.stack → B.get? b = some o) (up : sI.heap.UpToSlots s'.heap) (na : H a = none) (os : s'.os = sI.os) (ag : AllBare s'.gens)
    (fl3 : HandSPX.FlyingZ B (X.env :: X.outer) a (Zc cls d) h3) (up3 : s'.heap.UpToSlots h3) : ∀ {hds : List ExceptHandler} {l : List (Value × Option Nat × TSu)}, HdsE X hds l → wHds X.K Wo D l cls d σ H →
    wpAny (model X.prog X.w) X.A (handleBy (.ref a) X.env hds) (SP X pins D) X.xe { s' with heap := h3 } := by
  have ok := J.ok
  have nfr : a ∉ frs (X.env :: X.outer) := fun hm => by
    obtain ⟨oe, vs, he, _, hd⟩ := fl3.there
    obtain ⟨_, o', e', hnf⟩ := fl3.2.2.1.mem hm
    rw [he] at e'
    cases e'
    exact hnf _ hd
  have nL : a ≠ X.env.locals := fun z => nfr (List.mem_filterMap.mpr ⟨X.env, List.mem_cons_self, by rw [hf, z]⟩)
  have nF : a ∉ X.fs := fun hm => by
    obtain ⟨e, he, q⟩ := List.mem_filterMap.mp hm
    exact nfr (List.mem_filterMap.mpr ⟨e, List.mem_cons_of_mem _ he, q⟩)
  have lands : ∀ {h4 : Heap}, HandSPX.FlyingZ B (X.env :: X.outer) a (Zc cls d) h4 → sI.heap.UpToSlots h4 → Inv X pins σ H { s' with heap := h4 } ∧ ∃ oe vs, h4.get? a = some oe ∧ Zc cls d oe ∧ oe.data = .fields vs ∧ Inv (X.suite a ((a, oe) :: (X.pn ++ pins))) [] σ H { s' with heap := h4 } := fun {h4} fl4 u4 => by
    have J4 : Inv X pins σ H { s' with heap := h4 } := J.landed nb fl4.1 u4 os ag
    obtain ⟨oe4, vs4, he4, hz4, hd4⟩ := fl4.there
    exact ⟨J4, oe4, vs4, he4, hz4, hd4, J4.suite he4 hd4 na nL nF⟩
  have ask : ∀ {x : Str} {c : Value} {np : Pos} {b : Bool} {R : Bool → Shared → Prop} {E1 E2 : Value → Shared → Prop}, Names X x c → PySem.W.exmOne X.K cls c = some b → R b { s' with heap := h3 } →
      wpAny (model X.prog X.w) (X.A.mark (some (.ref a))) (eval (.Name x np) X.env) (fun v s1 => wpAny (model X.prog X.w) (X.A.mark (some (.ref a))) (excMatches (.ref a) v) R E2 s1) E1 { s' with heap := h3 } := fun {x c np b R E1 E2} hc hb q => by
    obtain ⟨J3, oe3, vs3, he3, hz3, hd3, S3⟩ := lands fl3 (up.trans up3)
    have LT : PySem.W.Looks (model X.prog X.w) h3 (typeOf (.ref a)) cls := fun A Q E s k q => wpAny_typeOf_ref (k _ _ he3) (by rw [hz3.1]; exact q)
    have LM := PySem.W.exm_one (M := model X.prog X.w) J3.kIn LT hb
    have fin : wpAny (model X.prog X.w) (X.A.mark (some (.ref a))) (excMatches (.ref a) c) R E2 { s' with heap := h3 } := LM.here q
    obtain ⟨hg, hdbg, hm | ⟨hm, hv, hnn⟩⟩ := hc
    · exact ld_glob (X := X.suite a ((a, oe3) :: (X.pn ++ pins))) S3 hg hm fin hdbg
    · exact ld_blt (X := X.suite a ((a, oe3) :: (X.pn ++ pins))) S3 hg hm hv fin hnn hdbg
  intro hds l hk
  induction hk with
  | nil =>
    intro w
    refine wpAny_handleBy_nil ?_
    obtain ⟨k1, k2, k3, oe, vs, T, oT, ts', he, hz, hd, h1, hr⟩ := id fl3
    unfold PySem.passOn
    refine wpAny_bind (wpAny_field he hd h1 ?_)
    rw [if_neg (by simp)]
    have fin : wpAny (model X.prog X.w) X.A (setFlight (.ref a) X.env.frame) (fun _ s4 => wpAny (model X.prog X.w) X.A (throw (.ref a) : Sem Flow) (SP X pins D) X.xe s4) X.xe { s' with heap := h3 } := by
      rw [hf]
      exact HandSPX.setFlight_upZ fl3 fun h4 hh4 up4 => wpAny_throw (tk _ _ ⟨a, B, sI, pins, σ, H, cls, d, rfl, J, nb, (up.trans up3).trans up4, .inr (.inr (by rw [hs]; exact hh4)), na, os, ag, w⟩)
    first
      | exact wpAny_bind (wpAny_pure (wpAny_bind fin))
      | exact wpAny_bind fin
  | only hc hsu r he ih =>
    intro w
    obtain ⟨b, hb, hy, hn⟩ := w
    refine wpAny_handleBy_cons (codeAny_handlers_test (ask hc hb ?_)) (by intro q; cases q)
    cases b with
    | false => exact ih (hn rfl)
    | true =>
      refine codeAny_handlers_suite (HandSPX.lands_againZ fl3 fun h4 fl4 up4 => ?_)
      obtain ⟨J4, oe4, vs4, he4, hz4, hd4, S4⟩ := lands fl4 ((up.trans up3).trans up4)
      have hh := hsu a oe4 cls d (X.pn ++ pins) hz4 ⟨_, hd4⟩
      rw [he] at hh
      refine wpAny_mono (hh.run [] _ _ H _ S4 (hy rfl a na)) (fun f s6 hsp => ?_) fun _ _ z => False.elim z
      cases f with
      | ret u =>
        obtain ⟨v6, σ6, H6, S6, r6, q6⟩ := hsp
        exact ⟨_, _, _, S6.unsuite ok, r6, q6⟩
      | _ =>
        obtain ⟨σ6, H6, S6, q6⟩ := hsp
        exact ⟨_, _, S6.unsuite ok, q6⟩
  | as_ hN hi hln hc hsu r he ih =>
    rename_i x n i c ts b0 su np p hds l
    intro w
    obtain ⟨b, hb, hy, hn⟩ := w
    refine wpAny_handleBy_cons (codeAny_handlers_test (ask hc hb ?_)) (by intro q; cases q)
    cases b with
    | false => exact ih (hn rfl)
    | true =>
      refine codeAny_handlers_suite_as (HandSPX.lands_againZ fl3 fun h4 fl4 up4 => ?_)
      obtain ⟨J4, oe4, vs4, he4, hz4, hd4, S4⟩ := lands fl4 ((up.trans up3).trans up4)
      refine store_ok (X := X.suite a ((a, oe4) :: (X.pn ++ pins))) (v := .ref a) S4 hN hi (.inl hln) rfl (fun s5 S5 => ?_) (.inr hln)
      have hh := hsu a oe4 cls d (X.pn ++ pins) hz4 ⟨_, hd4⟩
      rw [he] at hh
      refine wpAny_mono (hh.run [] s5 _ H _ S5 (hy rfl a na)) (fun f s6 hsp => ?_) fun _ _ z => False.elim z
      have gone : ∀ {σ6 : L2.St} {H6 : Hp} {Q : Shared → Prop}, Inv (X.suite a ((a, oe4) :: (X.pn ++ pins))) [] σ6 H6 s6 → (∀ s7, Inv X pins (σ6.set i none) H6 s7 → Q s7) →
          wpAny (model X.prog X.w) X.A (do bindName X.env n .none; unbindBehindTheSuite X.env n p) (fun _ s7 => Q s7) X.xe s6 := fun {σ6 H6 Q} S6 hq => gone_ok (S6.unsuite ok) hN hi hln hq
      cases f with
      | ret u =>
        obtain ⟨v6, σ6, H6, S6, r6, q6⟩ := hsp
        exact gone S6 fun s7 J7 => ⟨_, _, _, J7, r6, q6⟩
      | _ =>
        obtain ⟨σ6, H6, S6, q6⟩ := hsp
        exact gone S6 fun s7 J7 => ⟨_, _, J7, q6⟩
theorem ps_tryE (hs : X.stack = X.env :: X.outer) (hf : X.env.frame = some X.env.locals) (tk : Takes X Wo)
    (hb : ∀ (W : WX) (pn : List (Addr × Obj)) (xe : Value → Shared → Prop), Takes (X.tr pn xe) W → PassesOwn (model X.prog X.w) X.A X.env xe → PSs (X.tr pn xe) body (tb W pn xe))
    (hh : HdsE X (h0 :: hds) l) (he : ∀ W pn xe, tb W pn xe = tb W [] xeZ := by intros; rfl) : PS X (.Try body (h0 :: hds) [] [] pos) (fun D σ H => tb (wHds X.K Wo D l) [] xeZ D σ H) := by
  refine ⟨fun pins s σ H D I h => ?_⟩
  have ok := I.ok
  have hfr : X.A.frames = some (X.env :: X.outer) := by rw [ok.frames, hs]
  rw [← he (wHds X.K Wo D l) (X.pn ++ pins) (fun e s₁ => wpAny (model X.prog X.w) X.A (noteFrame e X.env) (fun _ s₂ => wpAny (model X.prog X.w) X.A (setFlight e none) (fun _ s₃ =>
    wpAny (model X.prog X.w) X.A (handleBy e X.env (h0 :: hds)) (SP X pins D) X.xe s₃) X.xe s₂) X.xe s₁)] at h
  refine wpAny_Try_except (wpAny_mono ((hb (wHds X.K Wo D l) (X.pn ++ pins) (fun e s₁ => wpAny (model X.prog X.w) X.A (noteFrame e X.env) (fun _ s₂ => wpAny (model X.prog X.w) X.A (setFlight e none) (fun _ s₃ =>
    wpAny (model X.prog X.w) X.A (handleBy e X.env (h0 :: hds)) (SP X pins D) X.xe s₃) X.xe s₂) X.xe s₁) (fun u s' xx => ?_) PassesOwn.looking).run [] s σ H D (I.toTry _) h) (fun f s1 hsp => ?_) fun e s1 he => he)
  · obtain ⟨a, B, sI, pins', σ', H', cls, d, rfl, J', nb, up, sky, na, os, ag, w⟩ := xx
    have J : Inv X pins σ' H' sI := J'.ofTry ok
    refine Sky.land Zc.steady hfr hf (by rw [← hs]; exact sky) fun h3 fl3 up3 => ?_
    exact hds_run hs hf tk J nb up na os ag fl3 up3 hh w
  · cases f with
    | ret u =>
      obtain ⟨v, σ', H', J', r, q⟩ := hsp
      exact ⟨v, σ', H', J'.ofTry ok, r, q⟩
    | next =>
      obtain ⟨σ', H', J', q⟩ := hsp
      exact wpAny_execs_nil ⟨σ', H', J'.ofTry ok, q⟩
    | _ =>
      obtain ⟨σ', H', J', q⟩ := hsp
      exact ⟨σ', H', J'.ofTry ok, q⟩
end

/-! ### built-ins by named readings -/
def rLenA (K : PySem.W.Frag) : List V → Hp → VK → Prop := fun xs H Q => ∃ p ys, xs = [.ref p] ∧ (SqL K H p ys ∨ SqT K H p ys) ∧ Q (.int ys.length) H
theorem cr_len {X : Cx} : CallR X (.builtin "len") (rLenA X.K) := call_len_seq
def rListOf (K : PySem.W.Frag) : List V → Hp → VK → Prop := fun xs H Q => ∃ p ys, xs = [.ref p] ∧ (SqL K H p ys ∨ SqT K H p ys) ∧ ∀ l, H l = none → Q (.ref l) (upd H l (.lst ys))
theorem cr_list {X : Cx} : CallR X (.type "list") (rListOf X.K) := call_list_of
/-- a tuple made here: its object is known to have no dict -/
def TupX (H : Hp) (a : Addr) (xs : List V) : Prop := ∃ o : Obj, H a = some (.frz o (.tup xs)) ∧ o.dict = none
theorem TupX.sqt {K : PySem.W.Frag} {H : Hp} {a : Addr} {xs : List V} (h : TupX H a xs) : SqT K H a xs := by
  obtain ⟨o, h, _⟩ := h
  exact .inl (.inr ⟨o, h⟩)
theorem TupX.gr {H H' : Hp} {S : List Addr} {a : Addr} {xs : List V} (h : TupX H a xs) (g : Gr S H H') : TupX H' a xs := by
  obtain ⟨o, h, d⟩ := h
  exact ⟨o, g.get h rfl, d⟩
def rTupleOf (K : PySem.W.Frag) : List V → Hp → VK → Prop := fun xs H Q => ∃ p ys, xs = [.ref p] ∧ ((SqL K H p ys ∧ ∀ (l : Addr) (o : Obj), H l = none → o.dict = none → Q (.ref l) (upd H l (.frz o (.tup ys)))) ∨ (SqT K H p ys ∧ Q (.ref p) H))
theorem cr_tuple {X : Cx} : CallR X (.type "tuple") (rTupleOf X.K) := by
  intro pins s σ H xs us Q I r h
  obtain ⟨p, ys, rfl, h⟩ := h
  obtain ⟨u, rfl, ru⟩ := r.one
  cases (show u = Value.ref p from ru)
  rcases h with ⟨hs, q⟩ | ⟨hs, q⟩
  · obtain ⟨its, rv, pl, hz⟩ := I.list hs
    refine call_tuple_list pl.isList (fun h' hk => ?_) (by rw [List.size_toArray, ← rv.length]; exact hz)
    have I1 : Inv X pins σ H { s with heap := h' } := I.kept (t' := s.toks) hk
    refine ⟨.ref h'.objs.size, _, I1.laid (t' := s.toks) (o := .frz { cls := .type "tuple", data := .seq its.toArray } (.tup ys)) (fun b o e => Heap.get?_push_of_some _ e) (Nat.le_refl _) ⟨Heap.get?_push_size _ rfl, hz, its, rv, IsTup.new _ _⟩, rfl, q _ _ (I1.hok.fresh (Nat.le_refl _)) rfl⟩
  · obtain ⟨its, rv, pl, hz⟩ := I.tuple hs
    exact call_tuple_tup pl ⟨.ref p, H, I, rfl, q⟩
def rAbs : List V → Hp → VK → Prop := fun xs H Q => ∃ i, xs = [.int i] ∧ Q (.int (if i < 0 then -i else i)) H
theorem cr_abs {X : Cx} : CallR X (.builtin "abs") rAbs := call_abs
def rInt1 : List V → Hp → VK → Prop := fun xs H Q => (∃ i, xs = [.int i] ∧ Q (.int i) H) ∨ ∃ k, xs = [.bl k] ∧ Q (.int (if k then 1 else 0)) H
theorem cr_int {X : Cx} : CallR X (.type "int") rInt1 := call_int1
def rNewL : List V → Hp → VK → Prop := fun xs H Q => xs.length ≤ sizeLine ∧ ∀ p, H p = none → Q (.ref p) (upd H p (.lst xs))
def rNewT : List V → Hp → VK → Prop := fun xs H Q => xs.length ≤ sizeLine ∧ ∀ p, H p = none → Q (.ref p) (upd H p (.tup xs))
def tLstN (t : TA) : TE := fun σ H Q => t σ H fun xs H1 => rNewL xs H1 Q
def tTupN (t : TA) : TE := fun σ H Q => t σ H fun xs H1 => rNewT xs H1 Q
theorem pe_lstN {X : Cx} {es : List Expr} {t : TA} {pos : Pos} (h : PA X es t) : PE X (.List es pos) (tLstN t) := pe_lst h
theorem pe_tupN {X : Cx} {es : List Expr} {t : TA} {pos : Pos} {k : Nat} (h : PA X es t) : PE X (.Tuple es k pos) (tTupN t) := pe_tup h
/-! ### readings, answered from the left -/
section
variable {K : PySem.W.Frag} {σ : L2.St} {H : Hp} {Q : VK} {D : Ends} {ta tb tc te : TE} {tA tr : TA} {c t u' : TT} {ts us : TS} {i j : Int} {v x y : V} {QA : List V → Hp → Prop} {QB : Bool → Hp → Prop}
theorem w_seq (h : ts { D with nx := us D } σ H) : tSeq ts us D σ H := h
theorem w_asg {g : TG} (h : te σ H fun x H1 => g x σ H1 D.nx) : tAsg te g D σ H := h
theorem w_gname {n : Nat} {QS : L2.St → Hp → Prop} (h : QS (σ.set n (some v)) H) : gName n v σ H QS := h
theorem w_drop (h : te σ H fun _ H1 => D.nx σ H1) : tDrop te D σ H := h
theorem w_ret (h : te σ H D.rt) : tRet te D σ H := h
theorem w_retN (h : D.rt .non H) : tRetN D σ H := h
theorem w_next (h : D.nx σ H) : tNext D σ H := h
theorem w_ifS (h : c σ H fun b H1 => if b = true then ts D σ H1 else us D σ H1) : tIfS c ts us D σ H := h
theorem w_var {n : Nat} (h1 : σ[n]? = some (some v)) (h : Q v H) : tVar n σ H Q := ⟨v, h1, h⟩
theorem w_c (h : Q v H) : tC v σ H Q := h
theorem w_op {r : R2} (h : ta σ H fun x H1 => tb σ H1 fun y H2 => r x y H2 Q) : tOp r ta tb σ H Q := h
theorem w_un {r : V → Hp → VK → Prop} (h : ta σ H fun x H1 => r x H1 Q) : tUn r ta σ H Q := h
theorem w_rU {g : Int → V} (h : Q (g i) H) : rU g (.int i) H Q := ⟨i, rfl, h⟩
theorem w_cons (h : te σ H fun x H1 => tr σ H1 fun xs H2 => QA (x :: xs) H2) : tCons te tr σ H QA := h
theorem w_nil (h : QA [] H) : tNil σ H QA := h
theorem w_cb {r : List V → Hp → VK → Prop} (h : tA σ H fun vs H1 => r vs H1 Q) : tCB r tA σ H Q := h
theorem w_rI0 {g : Int → Int → V} (h : Q (g i j) H) : rI0 g (.int i) (.int j) H Q := ⟨i, j, rfl, rfl, h⟩
theorem w_rI {C : Int → Int → Prop} {g : Int → Int → V} (hc : C i j) (h : Q (g i j) H) : rI C g (.int i) (.int j) H Q := ⟨i, j, rfl, rfl, hc, h⟩
theorem w_eq (h0 : scal x y = true) (h : Q (.bl (decide (x = y))) H) : rEq x y H Q := ⟨h0, h⟩
theorem w_ne (h0 : scal x y = true) (h : Q (.bl (!decide (x = y))) H) : rNe x y H Q := ⟨h0, h⟩
theorem w_test (h : te σ H fun x H1 => ∃ k, x = .bl k ∧ QB k H1) : tTest te σ H QB := h
theorem w_tB (h : te σ H fun x H1 => ∃ k, x = .bl k ∧ QB k H1) : tB te σ H QB := h
theorem w_exb {k : Bool} (h : QB k H) : ∃ k', V.bl k = .bl k' ∧ QB k' H := ⟨k, rfl, h⟩
theorem w_and (h : c σ H fun b H1 => if b = true then t σ H1 QB else QB false H1) : tAnd c t σ H QB := h
theorem w_or (h : c σ H fun b H1 => if b = true then QB true H1 else t σ H1 QB) : tOr c t σ H QB := h
theorem w_not (h : c σ H fun b H1 => QB (!b) H1) : tNot c σ H QB := h
theorem w_andV (h : ta σ H fun x H1 => ∃ k, x = .bl k ∧ if k = true then tb σ H1 Q else Q (.bl false) H1) : tAndV ta tb σ H Q := h
theorem w_orV (h : ta σ H fun x H1 => ∃ k, x = .bl k ∧ if k = true then Q (.bl true) H1 else tb σ H1 Q) : tOrV ta tb σ H Q := h
theorem w_notV (h : ta σ H fun x H1 => ∃ k, x = .bl k ∧ Q (.bl (!k)) H1) : tNotV ta σ H Q := h
theorem w_exV {k : Bool} {R : Bool → Prop} (h : R k) : ∃ k', V.bl k = .bl k' ∧ R k' := ⟨k, rfl, h⟩
theorem w_chain {r r' : R2} (h : ta σ H fun x H1 => tb σ H1 fun y H2 => r x y H2 fun z H3 => ∃ k, z = .bl k ∧ if k = true then tc σ H3 (fun w' H4 => r' y w' H4 Q) else Q (.bl false) H3) : tChain r r' ta tb tc σ H Q := h
theorem w_ifE (h : c σ H fun b H1 => if b = true then ta σ H1 Q else tb σ H1 Q) : tIf c ta tb σ H Q := h
theorem w_tLst (h : tA σ H fun xs H1 => rNewL xs H1 Q) : tLstN tA σ H Q := h
theorem w_tTup (h : tA σ H fun xs H1 => rNewT xs H1 Q) : tTupN tA σ H Q := h
theorem w_lst {xs : List V} (h0 : xs.length ≤ sizeLine) (h : ∀ p H', H p = none → Gr [] H H' → H' p = some (.lst xs) → Q (.ref p) H') : rNewL xs H Q := ⟨h0, fun p hp => h p _ hp (Gr.new hp) upd_same⟩
theorem w_tup {xs : List V} (h0 : xs.length ≤ sizeLine) (h : ∀ p H', H p = none → Gr [] H H' → H' p = some (.tup xs) → Q (.ref p) H') : rNewT xs H Q := ⟨h0, fun p hp => h p _ hp (Gr.new hp) upd_same⟩
theorem w_ixL {p : Addr} {xs : List V} {k : Int} (h0 : SqL K H p xs) (h1 : atI xs k = some v) (h : Q v H) : rIxL K (.ref p) (.int k) H Q := ⟨p, xs, k, v, rfl, rfl, h0, h1, h⟩
theorem w_ixT {p : Addr} {xs : List V} {k : Int} (h0 : SqT K H p xs) (h1 : atI xs k = some v) (h : Q v H) : rIxT K (.ref p) (.int k) H Q := ⟨p, xs, k, v, rfl, rfl, h0, h1, h⟩
theorem w_setL {p : Addr} {xs : List V} {k : Int} {n : Nat} {w : V} {R : Hp → Prop} (h0 : H p = some (.lst xs)) (h1 : ixN xs.length k = some n) (h : ∀ H', Gr [p] H H' → H' p = some (.lst (xs.set n w)) → R H') : rSetL (.ref p) (.int k) w H R :=
  ⟨p, xs, k, n, rfl, rfl, h0, h1, h _ (Gr.wr h0) upd_same⟩
theorem w_gsub {to ti : TE} {t : TSet} {QS : L2.St → Hp → Prop} (h : to σ H fun o H1 => ti σ H1 fun i H2 => t o i v H2 fun H3 => QS σ H3) : gSub to ti t v σ H QS := h
theorem w_bm {T : String} {r : V → List V → Hp → VK → Prop} {to : TE} (h : to σ H fun x H1 => tyV K T x H1 ∧ tA σ H1 fun xs H2 => r x xs H2 Q) : tBM K T r to tA σ H Q := h
theorem w_bm0 {T : String} {r : V → List V → Hp → VK → Prop} {to : TE} (h : to σ H fun x H1 => tyV K T x H1 ∧ r x [] H1 Q) : tBM0 K T r to σ H Q := h
theorem w_ty {p : Addr} {xs : List V} {P : Prop} (h0 : SqL K H p xs) (h : P) : tyV K "list" (.ref p) H ∧ P := ⟨.inl ⟨rfl, _, h0⟩, h⟩
theorem w_app {p : Addr} {xs : List V} (h0 : H p = some (.lst xs)) (h1 : xs.length < sizeLine) (h : ∀ H', Gr [p] H H' → H' p = some (.lst (xs ++ [v])) → Q .non H') : rAppend (.ref p) [v] H Q :=
  ⟨p, xs, v, rfl, rfl, h0, h1, h _ (Gr.wr h0) upd_same⟩
theorem w_popAt {p : Addr} {xs : List V} {k : Int} {n : Nat} (h0 : H p = some (.lst xs)) (h1 : 0 ≤ k) (h2 : k < 2 ^ 63) (hn : k.toNat = n) (h3 : xs[n]? = some v) (h : ∀ H', Gr [p] H H' → H' p = some (.lst (xs.eraseIdx n)) → Q v H') : rPopAt (.ref p) [.int k] H Q := by
  have hl : n < xs.length := (List.getElem?_eq_some_iff.mp h3).1
  refine ⟨p, xs, k, n, v, rfl, rfl, h0, by omega, h2, ?_, h3, h _ (Gr.wr h0) upd_same⟩
  exact (ixN_seq (show ixN xs.length k = some n by unfold ixN; rw [if_pos h1, if_pos (by omega), hn])).1
theorem w_len {p : Addr} {xs : List V} (h0 : SqL K H p xs ∨ SqT K H p xs) (h : Q (.int xs.length) H) : rLenA K [.ref p] H Q := ⟨p, xs, rfl, h0, h⟩
theorem w_listOf {p : Addr} {xs : List V} (h0 : SqL K H p xs ∨ SqT K H p xs) (h : ∀ l H', H l = none → Gr [] H H' → H' l = some (.lst xs) → Q (.ref l) H') : rListOf K [.ref p] H Q :=
  ⟨p, xs, rfl, h0, fun l hl => h l _ hl (Gr.new hl) upd_same⟩
theorem w_tupOfL {p : Addr} {xs : List V} (h0 : SqL K H p xs) (h : ∀ l H', H l = none → Gr [] H H' → TupX H' l xs → Q (.ref l) H') : rTupleOf K [.ref p] H Q :=
  ⟨p, xs, rfl, .inl ⟨h0, fun l o hl ho => h l _ hl (Gr.new hl) ⟨o, upd_same, ho⟩⟩⟩
theorem w_tupOfT {p : Addr} {xs : List V} (h0 : SqT K H p xs) (h : Q (.ref p) H) : rTupleOf K [.ref p] H Q := ⟨p, xs, rfl, .inr ⟨h0, h⟩⟩
theorem w_abs (h : Q (.int (if i < 0 then -i else i)) H) : rAbs [.int i] H Q := ⟨i, rfl, h⟩
theorem w_int (h : Q (.int i) H) : rInt1 [.int i] H Q := .inl ⟨i, rfl, h⟩
theorem w_call {sp : Sp} {E : L2.St → XK} (h : tA σ H fun vs H1 => sp vs H1 Q (E σ)) : tCallS sp E tA σ H Q := h
theorem w_callD {sp : Sp} {dvs : List V} {E : L2.St → XK} (h : tA σ H fun vs H1 => sp (vs ++ dvs) H1 Q (E σ)) : tCallSD sp dvs E tA σ H Q := h
theorem w_call1 {sp : Sp} {dvs : List V} {E : XK} (h : tA σ H fun vs H1 => sp (vs ++ dvs) H1 Q E) : tCall sp dvs E tA σ H Q := h
theorem w_iteI {a b : Int} {A B : Prop} (h1 : a = b → A) (h2 : a ≠ b → B) : if decide (V.int a = V.int b) = true then A else B := by
  by_cases e : a = b
  · rw [if_pos (decide_eq_true (by rw [e]))]; exact h1 e
  · rw [if_neg (by simpa using e)]; exact h2 e
theorem w_iteIN {a b : Int} {A B : Prop} (h1 : a ≠ b → A) (h2 : a = b → B) : if (!decide (V.int a = V.int b)) = true then A else B := by
  by_cases e : a = b
  · rw [if_neg (by simpa using e)]; exact h2 e
  · rw [if_pos (by simpa using e)]; exact h1 e
theorem w_iteP {p : Prop} [Decidable p] {A B : Prop} (h1 : p → A) (h2 : ¬ p → B) : if decide p = true then A else B := by
  by_cases e : p
  · rw [if_pos (decide_eq_true e)]; exact h1 e
  · rw [if_neg (by simpa using e)]; exact h2 e
theorem w_iteNP {p : Prop} [Decidable p] {A B : Prop} (h1 : ¬ p → A) (h2 : p → B) : if (!decide p) = true then A else B := by
  by_cases e : p
  · rw [if_neg (by simpa using e)]; exact h2 e
  · rw [if_pos (by simpa using e)]; exact h1 e
theorem w_iteB {b : Bool} {A B : Prop} (h1 : b = true → A) (h2 : b = false → B) : if b = true then A else B := by
  cases b with
  | true => exact h1 rfl
  | false => exact h2 rfl
theorem w_T {A B : Prop} (h : A) : if true = true then A else B := by rw [if_pos rfl]; exact h
theorem w_F {A B : Prop} (h : B) : if false = true then A else B := by rw [if_neg Bool.false_ne_true]; exact h
theorem w_nT {A B : Prop} (h : B) : if (!true) = true then A else B := by rw [if_neg (by decide)]; exact h
theorem w_nF {A B : Prop} (h : A) : if (!false) = true then A else B := by rw [if_pos (by decide)]; exact h
theorem w_is {b b' : Bool} {R : Bool → Prop} (e : b = b') (h : R b') : R b := by rw [e]; exact h
end
/-- an address apart, by what stands there -/
theorem sql_of {K : PySem.W.Frag} {H : Hp} {a : Addr} {xs : List V} (h : H a = some (.lst xs)) : SqL K H a xs := SqL.of h
theorem small {n : Nat} (h : n ≤ 100000) : n ≤ sizeLine := Nat.le_trans h (by decide)
theorem smallLt {n : Nat} (h : n < 100000) : n < sizeLine := Nat.lt_of_lt_of_le h (by decide)

/-! ### a list that nobody writes any more is frozen behind a call -/
theorem HOk.frzL {P : Program} {w : World} {H : Hp} {h : Heap} {a : Addr} {xs : List V} {o : Obj} (ok : HOk P w H h) (e : H a = some (.lst xs)) (ho : h.get? a = some o) : HOk P w (upd H a (.frz o (.lst xs))) h := fun b u q => by
  have ne : ∀ {b : Addr} {v : HO}, H b = some v → v ≠ .lst xs → b ≠ a := fun {b v} h1 h2 z => by
    subst z
    rw [e] at h1
    exact h2 (Option.some.inj h1).symm
  by_cases hb : b = a
  · subst hb
    rw [upd_same] at q
    cases q
    exact ⟨ho, ok b _ e⟩
  · rw [upd_ne hb] at q
    exact (ok b u q).stay (fun _ _ _ r => r) (fun c r => by rw [upd_ne (ne r (by intro z; cases z))]; exact r) fun c ys r => by rw [upd_ne (ne r (by intro z; cases z))]; exact r
theorem Un.frzL {fs ex : List Addr} {H H' : Hp} {h h' : Heap} {a : Addr} {xs : List V} {o : Obj} (u : Un fs ex H H' h h') (e : H' a = some (.lst xs)) : Un fs ex H (upd H' a (.frz o (.lst xs))) h h' := by
  have ne : ∀ {b : Addr} {v : HO}, H' b = some v → v ≠ .lst xs → b ≠ a := fun {b v} h1 h2 z => by
    subst z
    rw [e] at h1
    exact h2 (Option.some.inj h1).symm
  refine ⟨u.keep, u.slot, fun b ob q n hx => ?_, u.there, fun b ys q => ?_, fun b ob v q => ?_, fun b ps q => ?_⟩
  · have z := u.free b ob q n hx
    rw [upd_ne (ne_of_none e z).symm]
    exact z
  · have z := u.tups b ys q
    rw [upd_ne (ne z (by intro z; cases z))]
    exact z
  · have z := u.frzs b ob v q
    rw [upd_ne (ne z (by intro z; cases z))]
    exact z
  · obtain ⟨more, z⟩ := u.tbls b ps q
    exact ⟨more, by rw [upd_ne (ne z (by intro z; cases z))]; exact z⟩
theorem fnOk_frz {P : Program} {w : World} {K : PySem.W.Frag} {mg : Str → Option Value} {base : Heap} {CX : CXT} {k : Nat} {f : Addr} {fd : FuncData} {ps : List Str} {sp : Sp} (F : FnOk P w K mg base CX k f fd ps sp) :
    FnOk P w K mg base CX k f fd ps (fun vs H Q E => sp vs H (fun v H1 => ∃ a xs, H1 a = some (.lst xs) ∧ ∀ o, Q v (upd H1 a (.frz o (.lst xs)))) E) := by
  refine ⟨fun vs H Q E q => F.len vs H _ E q, fun A outer s H args us vs Q E hr he hb hv hs => codeAny_mono (F.run A outer s H args us vs _ E hr he hb hv hs) fun r s' hq => ?_⟩
  cases r with
  | error e => exact hq
  | ok fl =>
    cases fl with
    | ret u =>
      obtain ⟨v, H', os, bare, un, hok, rv, a, xs, ea, q⟩ := hq
      obtain ⟨_, its, n, _, ho⟩ := hok a _ ea
      exact ⟨v, _, os, bare, Un.frzL un ea, HOk.frzL hok ea ho, rv, q _⟩
    | next => exact False.elim hq
    | brk => exact False.elim hq
    | cont => exact False.elim hq
theorem Gr.frz {H : Hp} {a : Addr} {xs : List V} {o : Obj} (h : H a = some (.lst xs)) : Gr [a] H (upd H a (.frz o (.lst xs))) := Gr.wr h

/-! ### what the heap holds, sought along its growth -/
section
variable {K : PySem.W.Frag} {H H' : Hp} {S : List Addr} {a l l2 l3 : Addr} {o : HO} {ob : Obj} {xs : List V}
theorem Gr.keepB (g : Gr (l :: S) H H') (h : H a = some o) (hn : pers o = true ∨ a ∉ l :: S) : H' a = some o := by
  rcases hn with hn | hn
  · exact g.get h hn
  · exact g.keep _ _ h hn
theorem nin0 : a ∉ ([] : List Addr) := by simp
theorem nin1 (h : a ≠ l) : a ∉ [l] := by simpa using h
theorem nin2 (h : a ≠ l) (h2 : a ≠ l2) : a ∉ [l, l2] := by simp [h, h2]
theorem nin3 (h : a ≠ l) (h2 : a ≠ l2) (h3 : a ≠ l3) : a ∉ [l, l2, l3] := by simp [h, h2, h3]
theorem sql_frz (h : H a = some (.frz ob (.lst xs))) : SqL K H a xs := .inl (.inr ⟨ob, h⟩)
theorem sqt_of (h : H a = some (.tup xs)) : SqT K H a xs := .inl (.inl h)
theorem Gr.sqlB (g : Gr (l :: S) H H') (h : SqL K H a xs) (hn : a ∉ l :: S) : SqL K H' a xs := g.sql h hn
end

/-! ### a place where ways join -/
def tCut (t u : TS) : TS := fun D σ H => ∃ R : L2.St → Hp → Prop, t { D with nx := R } σ H ∧ ∀ σ' H', R σ' H' → u D σ' H'
theorem pss_cut {X : Cx} {st : Stmt} {rest : List Stmt} {t u : TS} (h1 : PS X st t) (h2 : PSs X rest u) : PSs X (st :: rest) (tCut t u) := by
  refine ⟨fun pins s σ H D I h => ?_⟩
  obtain ⟨R, h, hk⟩ := h
  refine wpAny_execs_cons (thn (h1.run pins s σ H { D with nx := R } I h) fun f s1 q => ?_)
  cases f with
  | next =>
    obtain ⟨σ', H', I', q⟩ := q
    exact h2.run pins s1 σ' H' D I' (hk σ' H' q)
  | _ => exact q
theorem w_cut {ts us : TS} {D : Ends} {σ : L2.St} {H : Hp} (R : L2.St → Hp → Prop) (h : ts { D with nx := R } σ H) (k : ∀ σ' H', R σ' H' → us D σ' H') : tCut ts us D σ H := ⟨R, h, k⟩

/-! ### growth, put together -/
section
variable {H H1 H2 : Hp} {S S' : List Addr} {l l2 : Addr} {xs : List V} {o : HO}
theorem Gr.step (g2 : Gr S' H1 H2) (g1 : Gr S H H1) (hs : ∀ a, a ∈ S' → a ∈ S ∨ H a = none) : Gr S H H2 := g1.trans g2 hs
theorem sub0 : ∀ a, a ∈ ([] : List Addr) → a ∈ S ∨ H a = none := fun _ h => by cases h
theorem sub1 (h : l ∈ S ∨ H l = none) : ∀ a, a ∈ [l] → a ∈ S ∨ H a = none := fun a m => by
  have e : a = l := by simpa using m
  subst e
  exact h
theorem sub2 (h : l ∈ S ∨ H l = none) (h2 : l2 ∈ S ∨ H l2 = none) : ∀ a, a ∈ [l, l2] → a ∈ S ∨ H a = none := fun a m => by
  rcases List.mem_cons.mp m with e | m
  · subst e; exact h
  · exact sub1 h2 a m
theorem Gr.same1 (h : H l = some o) (hp : pers o = false) : Gr [l] H H := (Gr.refl H).weak fun a m => by
  have e : a = l := by simpa using m
  subst e
  exact ⟨_, h, hp⟩
theorem Gr.same2 (h : H l = some o) (hp : pers o = false) {o2 : HO} (h2 : H l2 = some o2) (hp2 : pers o2 = false) : Gr [l, l2] H H := (Gr.refl H).weak fun a m => by
  rcases List.mem_cons.mp m with e | m
  · subst e; exact ⟨_, h, hp⟩
  · have e : a = l2 := by simpa using m
    subst e; exact ⟨_, h2, hp2⟩
end
theorem atI_of {α : Type} {xs : List α} {i : Int} {v : α} (h0 : 0 ≤ i) (h : xs[i.toNat]? = some v) : atI xs i = some v := by
  have e := atI_nat h
  rw [Int.toNat_of_nonneg h0] at e
  exact e
theorem ints_at {ns : List Int} {i : Int} (h0 : 0 ≤ i) (h : i < ns.length) : ∃ x, atI (ns.map V.int) i = some (V.int x) ∧ ns[i.toNat]? = some x := by
  have hl : i.toNat < ns.length := by omega
  exact ⟨ns[i.toNat], atI_of h0 (by simp [hl]), by simp [hl]⟩

/-! ### == of data -/
/-- data without instances and truth values, nested to n -/
def D.dep : Nat → D → Bool
  | _, .int _ => true
  | _, .str s => (PyData.str s).canLay0
  | _, .non => true
  | _, .bl _ => false
  | _, .ins _ _ _ => false
  | 0, .tup _ => false
  | 0, .lst _ => false
  | n + 1, .tup ds => ds.all (D.dep n)
  | n + 1, .lst ds => ds.all (D.dep n)
mutual
def D.py : D → PyData
  | .non => .none
  | .bl b => .bool b
  | .int i => .int i
  | .str s => .str s
  | .tup ds => .tuple (D.pys ds)
  | .lst ds => .list (D.pys ds)
  | .ins _ _ _ => .none
def D.pys : List D → List PyData
  | [] => []
  | d :: ds => d.py :: D.pys ds
end
theorem canLay_pys {n : Nat} (ih : ∀ d : D, d.dep n = true → d.py.canLay0 = true ∧ d.py.depth ≤ n) : ∀ ds : List D, ds.all (D.dep n) = true → PyData.canLayAll0 (D.pys ds) = true ∧ PyData.depthAll (D.pys ds) ≤ n
  | [], _ => ⟨rfl, Nat.zero_le _⟩
  | d :: ds, h => by
    rw [List.all_cons, Bool.and_eq_true] at h
    obtain ⟨a1, a2⟩ := ih d h.1
    obtain ⟨b1, b2⟩ := canLay_pys ih ds h.2
    simp only [D.pys, PyData.canLayAll0, PyData.depthAll, a1, b1, Bool.and_self, true_and]
    omega
theorem canLay_py : ∀ (n : Nat) (d : D), d.dep n = true → d.py.canLay0 = true ∧ d.py.depth ≤ n := by
  intro n
  induction n with
  | zero =>
    intro d h
    cases d with
    | tup ds => cases h
    | lst ds => cases h
    | ins C ns ds => cases h
    | bl b => cases h
    | str s => exact ⟨h, Nat.zero_le _⟩
    | _ => exact ⟨rfl, Nat.zero_le _⟩
  | succ n ih =>
    intro d h
    cases d with
    | tup ds =>
      obtain ⟨a, b⟩ := canLay_pys ih ds h
      exact ⟨a, Nat.succ_le_succ b⟩
    | lst ds =>
      obtain ⟨a, b⟩ := canLay_pys ih ds h
      exact ⟨a, Nat.succ_le_succ b⟩
    | ins C ns ds => cases h
    | bl b => cases h
    | str s => exact ⟨h, Nat.zero_le _⟩
    | _ => exact ⟨rfl, Nat.zero_le _⟩
theorem shaped_py {n : Nat} {d : D} (h : d.dep n = true) (hn : n ≤ 64) : SeqAt.shaped d.py = true := by
  obtain ⟨a, b⟩ := canLay_py n d h
  unfold SeqAt.shaped
  rw [a, Bool.true_and]
  exact decide_eq_true (by omega)
theorem eqv_pys {n : Nat} (ih : ∀ d e : D, d.dep n = true → e.dep n = true → (PyData.eqv d.py e.py = true ↔ d = e)) : ∀ ds es : List D, ds.all (D.dep n) = true → es.all (D.dep n) = true → (PyData.eqvAll (D.pys ds) (D.pys es) = true ↔ ds = es)
  | [], [], _, _ => by simp [D.pys, PyData.eqvAll]
  | [], e :: es, _, _ => by simp [D.pys, PyData.eqvAll]
  | d :: ds, [], _, _ => by simp [D.pys, PyData.eqvAll]
  | d :: ds, e :: es, h, h' => by
    rw [List.all_cons, Bool.and_eq_true] at h h'
    simp only [D.pys, PyData.eqvAll, Bool.and_eq_true, ih d e h.1 h'.1, eqv_pys ih ds es h.2 h'.2, List.cons.injEq]
theorem eqv_py : ∀ (n : Nat) (d e : D), d.dep n = true → e.dep n = true → (PyData.eqv d.py e.py = true ↔ d = e) := by
  intro n
  induction n with
  | zero =>
    intro d e h h'
    cases d <;> first | (cases h; done) | (cases e <;> first | (cases h'; done) | simp [D.py, PyData.eqv])
  | succ n ih =>
    intro d e h h'
    cases d <;> first | (cases h; done) | (cases e <;> first | (cases h'; done) | (simp only [D.py, PyData.eqv, D.tup.injEq, D.lst.injEq]; exact eqv_pys ih _ _ h h') | simp [D.py, PyData.eqv])
mutual
theorem dp_py {K : PySem.W.Frag} {H : Hp} : ∀ {d : D} {v : V}, Rep K H d v → ∀ n, d.dep n = true → Dp K H v d.py
  | _, _, .non, _, _ => .non
  | _, _, .bl b, _, _ => .bl b
  | _, _, .int i, _, _ => .int i
  | _, _, .str s, _, _ => .str s
  | _, _, .tup h r, n, q => by
    cases n with
    | zero => cases q
    | succ n => exact .tup h (dp_pys r n q)
  | _, _, .lst h r, n, q => by
    cases n with
    | zero => cases q
    | succ n => exact .lst h (dp_pys r n q)
  | _, _, .ins h i l r, n, q => by
    cases n <;> cases q
theorem dp_pys {K : PySem.W.Frag} {H : Hp} : ∀ {ds : List D} {vs : List V}, Reps K H ds vs → ∀ n, ds.all (D.dep n) = true → DpAll K H vs (D.pys ds)
  | _, _, .nil, _, _ => .nil
  | _, _, .cons h r, n, q => by
    rw [List.all_cons, Bool.and_eq_true] at q
    exact .cons (dp_py h n q.1) (dp_pys r n q.2)
end
section
variable {K : PySem.W.Frag} {H : Hp} {Q : VK} {d e : D} {v w : V}
theorem w_eqD (n : Nat) (hv : Rep K H d v) (hw : Rep K H e w) (hd : d.dep n = true) (he : e.dep n = true) (hn : n ≤ 64) (h1 : d = e → Q (.bl true) H) (h2 : d ≠ e → Q (.bl false) H) : rEqD K v w H Q := by
  refine ⟨d.py, e.py, dp_py hv n hd, dp_py hw n he, shaped_py hd hn, shaped_py he hn, ?_⟩
  by_cases c : d = e
  · rw [(eqv_py n d e hd he).mpr c]
    exact h1 c
  · have z : PyData.eqv d.py e.py = false := by
      cases q : PyData.eqv d.py e.py with
      | false => rfl
      | true => exact absurd ((eqv_py n d e hd he).mp q) c
    rw [z]
    exact h2 c
theorem w_neD (n : Nat) (hv : Rep K H d v) (hw : Rep K H e w) (hd : d.dep n = true) (he : e.dep n = true) (hn : n ≤ 64) (h1 : d = e → Q (.bl false) H) (h2 : d ≠ e → Q (.bl true) H) : rNeD K v w H Q := by
  refine ⟨d.py, e.py, dp_py hv n hd, dp_py hw n he, shaped_py hd hn, shaped_py he hn, ?_⟩
  by_cases c : d = e
  · rw [(eqv_py n d e hd he).mpr c]
    exact h1 c
  · have z : PyData.eqv d.py e.py = false := by
      cases q : PyData.eqv d.py e.py with
      | false => rfl
      | true => exact absurd ((eqv_py n d e hd he).mp q) c
    rw [z]
    exact h2 c
end
theorem Rep.grB {K : PySem.W.Frag} {H H' : Hp} {l : Addr} {S : List Addr} {d : D} {v : V} (g : Gr (l :: S) H H') (h : Rep K H d v) (q : d.pure = true) : Rep K H' d v := Rep.gr g h q
def dInts (ns : List Int) : List D := ns.map D.int
theorem reps_ints {K : PySem.W.Frag} {H : Hp} : ∀ ns : List Int, Reps K H (dInts ns) (ns.map V.int)
  | [] => .nil
  | n :: ns => .cons (.int n) (reps_ints ns)
theorem dep_ints (ns : List Int) (n : Nat) : (dInts ns).all (D.dep n) = true := by
  rw [List.all_eq_true]
  intro d hd
  obtain ⟨i, _, rfl⟩ := List.mem_map.mp hd
  cases n <;> rfl
theorem dInts_inj {ns ms : List Int} (h : dInts ns = dInts ms) : ns = ms := by
  unfold dInts at h
  exact List.map_inj_right (fun _ _ e => by injection e) |>.mp h
theorem pure_ints (ns : List Int) : D.pures (dInts ns) = true := by
  induction ns with
  | nil => rfl
  | cons n ns ih => exact ih
theorem rep_lstI {K : PySem.W.Frag} {H : Hp} {a : Addr} {ns : List Int} (h : SqL K H a (ns.map V.int)) : Rep K H (.lst (dInts ns)) (.ref a) := .lst h (reps_ints ns)
theorem rep_tupI {K : PySem.W.Frag} {H : Hp} {a : Addr} {ns : List Int} (h : SqT K H a (ns.map V.int)) : Rep K H (.tup (dInts ns)) (.ref a) := .tup h (reps_ints ns)

/-! ### keywords over a default -/
theorem kbn1 {K : PySem.W.Frag} {x qual : Str} {params : Arguments} {body : List Stmt} {scope : Scope} {dvs : List V} {f : Addr} {fd : FuncData} {ps : List Str} (F : FunD K x qual params body scope dvs [] f fd) (n : Nat) (ks : List Str)
    (hd : dvs ≠ []) (h : ∀ (T : Addr) (kV doc pm : Value) (an : Option Addr) (cdv ct : Value) (us its ws : List Value), us.length = n → its.length = dvs.length → ws.length = ks.length →
      ∃ k, bindArgs (PySem.W.fnOf x qual params body scope (.ref T) kV doc pm an cdv ct) ⟨us, ks.zip ws⟩ = seqItems? (.ref T) >>= k ∧ k (some its.toArray) = pure (ps.zip (us ++ ws))) :
    KBn K fd ps n ks (fun us ws => us ++ ws) (fun vs zs => vs ++ zs) := by
  obtain ⟨oc, od, dV, kV, doc, pm, an, cdv, ct, osl, rfl, lk, hcd, hD, hK⟩ := F.ex
  rcases hD with ⟨e, _⟩ | ⟨_, T, o, its, m, rfl, lT, oT, rT⟩
  · exact absurd e hd
  · refine ⟨fun s us ws X l1 l2 => BindsTo.of_looks fun M => ?_, fun r1 r2 => r1.append r2⟩
    obtain ⟨k, e1, e2⟩ := h T kV doc pm an cdv ct us its ws l1 rT.length.symm l2
    rw [e1]
    exact looks_items X lT oT (.of_pure e2)
theorem w_callN {n m : Nat} {sp : Sp} {gV : List V → List V → List V} {E : XK} {t tk : TA} {σ : L2.St} {H : Hp} {Q : VK} (h : t σ H fun vs H1 => tk σ H1 fun zs H2 => vs.length = n ∧ zs.length = m ∧ sp (gV vs zs) H2 Q E) : tCallN n m sp gV E t tk σ H Q := h

/-! ### the call with keywords, at the slots -/
def tCallNS (n m : Nat) (sp : Sp) (gV : List V → List V → List V) (E : L2.St → XK) (t tk : TA) : TE := fun σ H Q => t σ H fun vs H1 => tk σ H1 fun zs H2 => vs.length = n ∧ zs.length = m ∧ sp (gV vs zs) H2 Q (E σ)
section
variable {X : Cx} {CX : CXT} {k n : Nat} {f : Addr} {fd : FuncData} {ps ks : List Str} {sp : Sp} {E : L2.St → XK} {x : Str} {p pos : Pos} {e : Expr} {es : List Expr} {kws : List Keyword} {t tk : TA} {g : List Value → List Value → List Value} {gV : List V → List V → List V}
theorem run_fnNS {pins : List (Addr × Obj)} {σ : L2.St} {H : Hp} {s : Shared} {Q : VK} {us ws : List Value} {vs zs : List V} (F : FnOk X.prog X.w X.K X.mg X.base CX k f fd ps sp) (hr : Room k X.A) (hb : KBn X.K fd ps n ks g gV) (hx : PassesAt CX X σ (E σ))
    (I : Inv X pins σ H s) (r : Vals vs us) (rz : Vals zs ws) (l1 : vs.length = n) (l2 : zs.length = ks.length) (h : sp (gV vs zs) H Q (E σ)) : wpAny (model X.prog X.w) X.A (call (.ref f) us (ks.zip ws)) (EP X pins σ Q) X.xe s := by
  have r2 := hb.rel r rz
  refine wpAny_call (codeAny_mono (F.run X.A X.stack s H ⟨us, ks.zip ws⟩ (g us ws) (gV vs zs) Q (E σ) hr I.env0 (hb.to s us ws I.kIn (r.length.symm.trans l1) (rz.length.symm.trans l2)) r2 h) fun r s' hq => ?_)
  cases r with
  | error e => exact hx pins H s e s' I hq
  | ok fl =>
    cases fl with
    | ret u => exact I.after hq
    | next => exact False.elim hq
    | brk => exact False.elim hq
    | cont => exact False.elim hq
/-- f(e, .., k = v, ..) -/
theorem pe_callKS (F : FnOk X.prog X.w X.K X.mg X.base CX k f fd ps sp) (hr : Room k X.A) (hg : Gl X x) (hm : X.mg x = some (.ref f)) (hk : PySem.W.keepIn X.K (.ref f) = true) (hb : KBn X.K fd ps n ks g gV) (hx : ∀ σ, PassesAt CX X σ (E σ))
    (ha : PA X (e :: es) t) (hkw : PK X kws tk) (hall : (backToKw pos (keywordEach kws X.env)).all (·.1.isSome) = true := by rfl) (hks : (backToKw pos (keywordEach kws X.env)).filterMap (·.1) = ks := by rfl)
    (hdb : (x == ("__debug__" : Str)) = false := by decide) (he : starEach (e :: es) X.env = (false, eval e X.env) :: starEach es X.env := by rfl)
    (hpl : ((backTo pos (starEach (e :: es) X.env)).any (·.1) || (backToKw pos (keywordEach kws X.env)).any (·.1.isNone)) = false := by rfl) :
    PE X (.Call (.Name x p) (e :: es) kws pos) (tCallNS n ks.length sp gV E t tk) := by
  refine ⟨fun pins s σ H Q I h => ?_⟩
  refine wpAny_Call_Name_kw (ld_glob I hg hm ?_ hdb)
  refine PySem.W.callWith_KW (h₀ := X.base) I.ok.mod.kin hk hall (thn (ha.run pos pins s σ H _ I h) fun us s1 ⟨vs, H1, I1, r, q⟩ => ?_) hpl he
  refine thn (hkw.run pos pins s1 σ H1 _ I1 q) fun ws s2 ⟨zs, H2, I2, rz, l1, l2, q2⟩ => ⟨I2.kIn, ?_⟩
  rw [hks]
  exact run_fnNS F hr hb (hx σ) I2 r rz l1 l2 q2
end
theorem w_callNS {n m : Nat} {sp : Sp} {gV : List V → List V → List V} {E : L2.St → XK} {t tk : TA} {σ : L2.St} {H : Hp} {Q : VK} (h : t σ H fun vs H1 => tk σ H1 fun zs H2 => vs.length = n ∧ zs.length = m ∧ sp (gV vs zs) H2 Q (E σ)) : tCallNS n m sp gV E t tk σ H Q := h

/-! ### isinstance -/
def D.tyn : D → String
  | .non => "NoneType"
  | .bl _ => "bool"
  | .int _ => "int"
  | .str _ => "str"
  | .tup _ => "tuple"
  | .lst _ => "list"
  | .ins _ _ _ => ""
def D.isIns : D → Bool
  | .ins _ _ _ => true
  | _ => false
theorem tyx_of {K : PySem.W.Frag} {H : Hp} {d : D} {v : V} (h : Rep K H d v) (n : d.isIns = false) : TyX K H v (.type d.tyn) := by
  cases h with
  | non => exact .base .non
  | bl b => exact .base (.bl b)
  | int i => exact .base (.int i)
  | str s => exact .base (.str s)
  | tup h r =>
    rcases h with (h | ⟨o, h⟩) | ⟨o, its, k, h1, h2, _⟩
    · exact .base (.tup h)
    · exact .fTuple h
    · exact .kTuple h1 h2
  | lst h r =>
    rcases h with (h | ⟨o, h⟩) | ⟨o, its, k, h1, h2, _⟩
    · exact .base (.lst h)
    · exact .base (.frz h)
    · exact .kList h1 h2
  | ins h i l r => cases n
section
variable {K : PySem.W.Frag} {H : Hp} {Q : VK} {d : D} {v : V} {b : Bool} {T : String}
/-- isinstance(x, T), T built in -/
theorem w_isi (h : Rep K H d v) (n : d.isIns = false) (hk : kitB d.tyn T = some b) (q : Q (.bl b) H) : rIsi K [v, .ty T] H Q := ⟨v, .ty T, _, _, b, rfl, .ty T, tyx_of h n, kit_ty hk, q⟩
end
/-- an exception class of the text that derives ValueError -/
def XcOk (K : PySem.W.Frag) (C : Addr) : Prop := PySem.W.excIn K C He.veBase "ValueError.__new__" = true ∧ PySem.W.keepIn K (.ref C) = true ∧ PySem.W.subIn K (.ref C) (.type "BaseException") = some true ∧ PySem.W.typeIn K (.ref C) = some (.type "type")
/-- isinstance(e, C), e the exception that the suite holds -/
def rIsEx (K : PySem.W.Frag) (a : Addr) (cls : Value) (d : Option Addr) : List V → Hp → VK → Prop := fun xs H Q => ∃ (D C : Addr) (b : Bool), cls = .ref D ∧ d = none ∧ ExcC K D ∧ xs = [.ref a, .ref C] ∧ PySem.W.kitOne K (.ref D) (.ref C) = some b ∧ Q (.bl b) H
theorem cr_isE {X : Cx} {a : Addr} {oe : Obj} {cls : Value} {d : Option Addr} {pn : List (Addr × Obj)} (hz : Zc cls d oe) (hf : ∃ vs, oe.data = .fields vs) : CallR (X.suite a ((a, oe) :: pn)) (.builtin "isinstance") (rIsEx X.K a cls d) := by
  intro pins s σ H xs us Q I r h
  obtain ⟨D, C, b, e1, e2, hC, e3, hk, q⟩ := h
  subst e1 e2 e3
  exact call_isE hC hz hf pins s σ H _ us Q I r ⟨.ref C, .ref C, b, rfl, fun u ru => ru, hk, q⟩
def excCB (K : PySem.W.Frag) (D : Addr) : Bool := decide (PySem.W.findIn K (.ref D) "__getattribute__" = some (some (.builtin "BaseException.__getattribute__"))) && (decide (PySem.W.findIn K (.ref D) "__getattr__" = some none) && (decide (PySem.W.subIn K (.ref D) (.type "BaseException") = some true) &&
  (PySem.W.hasDictIn K D && (decide (PySem.W.findIn K (.ref D) "__class__" = some (some (.builtin "object.__class__"))) && (decide (PySem.W.specialIn K (.builtin "object.__class__") "__get__" = some (some (.builtin "getset_descriptor.__get__"))) &&
  (decide (PySem.W.takesIn K (.builtin "object.__class__") = some true) && decide (PySem.W.mroIn K D (.type "object") = some true)))))))
theorem excCB_ok {K : PySem.W.Frag} {D : Addr} (h : excCB K D = true) : ExcC K D := by
  unfold excCB at h
  simp only [Bool.and_eq_true, decide_eq_true_eq] at h
  obtain ⟨h1, h2, h3, h4, h5, h6, h7, h8⟩ := h
  exact ⟨h1, h2, h3, h4, h5, h6, h7, h8⟩
theorem w_isE {K : PySem.W.Frag} {a D C : Addr} {b : Bool} {H : Hp} {Q : VK} (hC : ExcC K D) (hk : PySem.W.kitOne K (.ref D) (.ref C) = some b) (q : Q (.bl b) H) : rIsEx K a (.ref D) none [.ref a, .ref C] H Q := ⟨D, C, b, rfl, rfl, hC, rfl, hk, q⟩
/-- the clause that takes an exception: the first that matches -/
theorem w_hd {K : PySem.W.Frag} {Wo : WX} {D : Ends} {c : Value} {i : Nat} {ts : TSu} {r : List (Value × Option Nat × TSu)} {cls : Value} {d : Option Addr} {σ : L2.St} {H : Hp} (h : PySem.W.exmOne K cls c = some true) (k : ∀ a, H a = none → ts a cls d (endsNo i D) (σ.set i (some (.ref a))) H) :
    wHds K Wo D ((c, some i, ts) :: r) cls d σ H := ⟨true, h, fun _ a ha => k a ha, fun q => by cases q⟩
theorem w_hdN {K : PySem.W.Frag} {Wo : WX} {D : Ends} {c : Value} {ts : TSu} {r : List (Value × Option Nat × TSu)} {cls : Value} {d : Option Addr} {σ : L2.St} {H : Hp} (h : PySem.W.exmOne K cls c = some true) (k : ∀ a, H a = none → ts a cls d D σ H) :
    wHds K Wo D ((c, none, ts) :: r) cls d σ H := ⟨true, h, fun _ a ha => k a ha, fun q => by cases q⟩
theorem w_hdF {K : PySem.W.Frag} {Wo : WX} {D : Ends} {c : Value} {o : Option Nat} {ts : TSu} {r : List (Value × Option Nat × TSu)} {cls : Value} {d : Option Addr} {σ : L2.St} {H : Hp} (h : PySem.W.exmOne K cls c = some false) (k : wHds K Wo D r cls d σ H) :
    wHds K Wo D ((c, o, ts) :: r) cls d σ H := ⟨false, h, fun q => by (cases q), fun _ => k⟩
theorem w_ends {i : Nat} {D : Ends} {σ : L2.St} {H : Hp} (h : D.nx (σ.set i none) H) : (endsNo i D).nx σ H := h
/-! ### data, nested so far -/
def D.lev : Nat → D → Bool
  | _, .int _ => true
  | _, .str _ => true
  | _, .non => true
  | _, .bl _ => true
  | _, .ins _ _ _ => false
  | 0, .tup _ => false
  | 0, .lst _ => false
  | n + 1, .tup ds => decide (ds.length ≤ 1000000) && ds.all (D.lev n)
  | n + 1, .lst ds => decide (ds.length ≤ 1000000) && ds.all (D.lev n)
theorem lev_ints (ns : List Int) (n : Nat) : (dInts ns).all (D.lev n) = true := by
  rw [List.all_eq_true]
  intro d hd
  obtain ⟨i, _, rfl⟩ := List.mem_map.mp hd
  cases n <;> rfl
theorem lev_tupI {ns : List Int} {n : Nat} (h : ns.length ≤ 1000000) : (D.tup (dInts ns)).lev (n + 1) = true := Bool.and_eq_true_iff.mpr ⟨decide_eq_true (by unfold dInts; rw [List.length_map]; exact h), lev_ints ns n⟩
theorem lev_lstI {ns : List Int} {n : Nat} (h : ns.length ≤ 1000000) : (D.lst (dInts ns)).lev (n + 1) = true := Bool.and_eq_true_iff.mpr ⟨decide_eq_true (by unfold dInts; rw [List.length_map]; exact h), lev_ints ns n⟩
theorem reps_get {K : PySem.W.Frag} {H : Hp} : ∀ {ds : List D} {vs : List V} {i : Nat} {d : D}, Reps K H ds vs → ds[i]? = some d → ∃ v, vs[i]? = some v ∧ Rep K H d v
  | _, _, _, _, .nil, e => by simp at e
  | _, _, 0, _, .cons h _, e => by
    simp at e
    subst e
    exact ⟨_, rfl, h⟩
  | _, _, i + 1, _, .cons _ r, e => by
    obtain ⟨v, h1, h2⟩ := reps_get (i := i) r (by simpa using e)
    exact ⟨v, by simpa using h1, h2⟩

/-! ### isinstance of data, by the class named-/
@[reducible] def D.isTup : D → Bool
  | .tup _ => true
  | _ => false
theorem w_isi_tuple {K : PySem.W.Frag} {H : Hp} {Q : VK} {d : D} {v : V} (h : Rep K H d v) (n : d.isIns = false) (q : Q (.bl d.isTup) H) : rIsi K [v, .ty "tuple"] H Q :=
  w_isi h n (by cases d <;> first | (cases n; done) | (dsimp only [D.tyn, D.isTup]; decide +kernel)) q
@[reducible] def D.isLst : D → Bool
  | .lst _ => true
  | _ => false
theorem w_isi_list {K : PySem.W.Frag} {H : Hp} {Q : VK} {d : D} {v : V} (h : Rep K H d v) (n : d.isIns = false) (q : Q (.bl d.isLst) H) : rIsi K [v, .ty "list"] H Q :=
  w_isi h n (by cases d <;> first | (cases n; done) | (dsimp only [D.tyn, D.isLst]; decide +kernel)) q
@[reducible] def D.isBl : D → Bool
  | .bl _ => true
  | _ => false
theorem w_isi_bool {K : PySem.W.Frag} {H : Hp} {Q : VK} {d : D} {v : V} (h : Rep K H d v) (n : d.isIns = false) (q : Q (.bl d.isBl) H) : rIsi K [v, .ty "bool"] H Q :=
  w_isi h n (by cases d <;> first | (cases n; done) | (dsimp only [D.tyn, D.isBl]; decide +kernel)) q
@[reducible] def D.isInt : D → Bool
  | .int _ => true
  | .bl _ => true
  | _ => false
theorem w_isi_int {K : PySem.W.Frag} {H : Hp} {Q : VK} {d : D} {v : V} (h : Rep K H d v) (n : d.isIns = false) (q : Q (.bl d.isInt) H) : rIsi K [v, .ty "int"] H Q :=
  w_isi h n (by cases d <;> first | (cases n; done) | (dsimp only [D.tyn, D.isInt]; decide +kernel)) q
@[reducible] def D.isStr : D → Bool
  | .str _ => true
  | _ => false
theorem w_isi_str {K : PySem.W.Frag} {H : Hp} {Q : VK} {d : D} {v : V} (h : Rep K H d v) (n : d.isIns = false) (q : Q (.bl d.isStr) H) : rIsi K [v, .ty "str"] H Q :=
  w_isi h n (by cases d <;> first | (cases n; done) | (dsimp only [D.tyn, D.isStr]; decide +kernel)) q

theorem tyx_tup {K : PySem.W.Frag} {H : Hp} {a : Addr} {xs : List V} (h : SqT K H a xs) : TyX K H (.ref a) (.type "tuple") := by
  rcases h with (h | ⟨o, h⟩) | ⟨o, its, k, h1, h2, _⟩
  · exact .base (.tup h)
  · exact .fTuple h
  · exact .kTuple h1 h2
theorem tyx_lst {K : PySem.W.Frag} {H : Hp} {a : Addr} {xs : List V} (h : SqL K H a xs) : TyX K H (.ref a) (.type "list") := by
  rcases h with (h | ⟨o, h⟩) | ⟨o, its, k, h1, h2, _⟩
  · exact .base (.lst h)
  · exact .base (.frz h)
  · exact .kList h1 h2
theorem w_isiTT {K : PySem.W.Frag} {H : Hp} {Q : VK} {a : Addr} {xs : List V} (h : SqT K H a xs) (q : Q (.bl true) H) : rIsi K [.ref a, .ty "tuple"] H Q := ⟨.ref a, .ty "tuple", _, _, true, rfl, .ty _, tyx_tup h, kit_ty (by decide +kernel), q⟩
theorem w_isiLL {K : PySem.W.Frag} {H : Hp} {Q : VK} {a : Addr} {xs : List V} (h : SqL K H a xs) (q : Q (.bl true) H) : rIsi K [.ref a, .ty "list"] H Q := ⟨.ref a, .ty "list", _, _, true, rfl, .ty _, tyx_lst h, kit_ty (by decide +kernel), q⟩

/-! ### loops, what they walk -/
def rRng1 : List V → Hp → (It → Hp → Prop) → Prop := fun vs H R => ∃ j : Int, vs = [.int j] ∧ -(2 ^ 62) ≤ j ∧ j < 2 ^ 62 ∧ R (Itr 0 j.toNat) H
def rRng2 : List V → Hp → (It → Hp → Prop) → Prop := fun vs H R => ∃ i j : Int, vs = [.int i, .int j] ∧ (-(2 ^ 62) ≤ i ∧ i < 2 ^ 62 ∧ -(2 ^ 62) ≤ j ∧ j < 2 ^ 62) ∧ R (Itr i (j - i).toNat) H
def rRng3 : List V → Hp → (It → Hp → Prop) → Prop := fun vs H R => ∃ (i j c : Int) (n : Nat), vs = [.int i, .int j, .int c] ∧ RgC i j c n ∧ R (Itc i c n) H
def rItL (K : PySem.W.Frag) : V → Hp → (It → Hp → Prop) → Prop := fun x H R => ∃ a, x = .ref a ∧ (∃ xs, SqL K H a xs) ∧ R (Itl K a) H
def rItT (K : PySem.W.Frag) : V → Hp → (It → Hp → Prop) → Prop := fun x H R => ∃ a, x = .ref a ∧ (∃ xs, SqT K H a xs) ∧ R (Itt K a) H
section
variable {K : PySem.W.Frag} {σ : L2.St} {H : Hp} {D : Ends} {ta : TA} {te : TE} {R : It → Hp → Prop} {g : TG} {tb : TS} {i j : Int} {n : Nat} {a : Addr} {xs : List V}
theorem w_iRng1 (h : ta σ H fun vs H1 => rRng1 vs H1 R) : iRng1 ta σ H R := h
theorem w_iRng2 (h : ta σ H fun vs H1 => rRng2 vs H1 R) : iRng2 ta σ H R := h
theorem w_iRng3 (h : ta σ H fun vs H1 => rRng3 vs H1 R) : iRng3 ta σ H R := h
theorem w_iList (h : te σ H fun x H1 => rItL K x H1 R) : iList K te σ H R := h
theorem w_iTup (h : te σ H fun x H1 => rItT K x H1 R) : iTup K te σ H R := h
theorem w_rRng1 (h0 : j ≤ 1000000000) (h1 : -1000000000 ≤ j) (h : R (Itr 0 j.toNat) H) : rRng1 [.int j] H R := ⟨j, rfl, by omega, by omega, h⟩
theorem w_rRng1N (h0 : n ≤ 1000000000) (h : R (Itr 0 n) H) : rRng1 [.int n] H R := ⟨n, rfl, by omega, by omega, h⟩
theorem w_rRng2 (h0 : j ≤ 1000000000) (h1 : -1000000000 ≤ j) (h2 : i ≤ 1000000000) (h3 : -1000000000 ≤ i) (h : R (Itr i (j - i).toNat) H) : rRng2 [.int i, .int j] H R := ⟨i, j, rfl, ⟨by omega, by omega, by omega, by omega⟩, h⟩
theorem w_rRngD (h0 : j ≤ 1000000000) (h1 : -1000000000 ≤ j) (h2 : i ≤ 1000000000) (h3 : -1000000000 ≤ i) (h : R (Itc i (-1) (i - j).toNat) H) : rRng3 [.int i, .int j, .int (-1)] H R := ⟨i, j, -1, _, rfl, RgC.neg (by omega) (by omega) (by omega) (by omega), h⟩
theorem w_rItL (h0 : SqL K H a xs) (h : R (Itl K a) H) : rItL K (.ref a) H R := ⟨a, rfl, ⟨xs, h0⟩, h⟩
theorem w_rItT (h0 : SqT K H a xs) (h : R (Itt K a) H) : rItT K (.ref a) H R := ⟨a, rfl, ⟨xs, h0⟩, h⟩
/-- what a for wants of its iterator -/
def forK (g : TG) (tb : TS) (D : Ends) (σ : L2.St) : It → Hp → Prop := fun J H1 => ∃ W : Nat → Nat → L2.St → Hp → Prop, (∃ m, W 0 m σ H1) ∧ ∀ i m σ H, W i m σ H →
  (J.stop i H ∧ D.nx σ H) ∨ (J.go i H ∧ ∃ N : L2.St → Hp → Prop, (∀ σ' H', N σ' H' → ∃ m', m' < m ∧ W (i + 1) m' σ' H') ∧ ∀ x H', J.yld i H x H' → g x σ H' fun σ2 H2 => tb { D with nx := N, ct := N, bk := D.nx } σ2 H2)
theorem w_for {wi : TI} (h : wi σ H (forK g tb D σ)) : tFor wi g tb D σ H := h
theorem f_list (Pv : Nat → L2.St → Hp → Prop) (h0 : Pv 0 σ H) (hl : ∀ i σ H, i ≤ xs.length → Pv i σ H → SqL K H a xs)
    (hs : ∀ i x σ H, xs[i]? = some x → Pv i σ H → g x σ H fun σ2 H2 => tb { D with nx := Pv (i + 1), ct := Pv (i + 1), bk := D.nx } σ2 H2) (hd : ∀ σ H, Pv xs.length σ H → D.nx σ H) : forK g tb D σ (Itl K a) H := for_list Pv h0 hl hs hd
theorem f_tup (Pv : Nat → L2.St → Hp → Prop) (h0 : Pv 0 σ H) (hl : ∀ i σ H, i ≤ xs.length → Pv i σ H → SqT K H a xs)
    (hs : ∀ i x σ H, xs[i]? = some x → Pv i σ H → g x σ H fun σ2 H2 => tb { D with nx := Pv (i + 1), ct := Pv (i + 1), bk := D.nx } σ2 H2) (hd : ∀ σ H, Pv xs.length σ H → D.nx σ H) : forK g tb D σ (Itt K a) H := for_tup Pv h0 hl hs hd
theorem f_rng {lo : Int} (Pv : Nat → L2.St → Hp → Prop) (h0 : Pv 0 σ H)
    (hs : ∀ i σ H, i < n → Pv i σ H → g (.int (lo + i)) σ H fun σ2 H2 => tb { D with nx := Pv (i + 1), ct := Pv (i + 1), bk := D.nx } σ2 H2) (hd : ∀ σ H, Pv n σ H → D.nx σ H) : forK g tb D σ (Itr lo n) H := for_range Pv h0 hs hd
theorem f_rngC {lo c : Int} (Pv : Nat → L2.St → Hp → Prop) (h0 : Pv 0 σ H)
    (hs : ∀ i σ H, i < n → Pv i σ H → g (.int (lo + i * c)) σ H fun σ2 H2 => tb { D with nx := Pv (i + 1), ct := Pv (i + 1), bk := D.nx } σ2 H2) (hd : ∀ σ H, Pv n σ H → D.nx σ H) : forK g tb D σ (Itc lo c n) H := for_rangeC Pv h0 hs hd
theorem w_bT {b : Bool} {Q : VK} (e : b = true) (h : Q (.bl true) H) : Q (.bl b) H := by rw [e]; exact h
theorem w_bF {b : Bool} {Q : VK} (e : b = false) (h : Q (.bl false) H) : Q (.bl b) H := by rw [e]; exact h
theorem w_ixSL {p : Addr} {k : Int} {v : V} {Q : VK} (h0 : SqL K H p xs) (h1 : atI xs k = some v) (h : Q v H) : rIx K (.ref p) (.int k) H Q := .inl ⟨p, xs, k, v, rfl, rfl, h0, h1, h⟩
theorem w_ixST {p : Addr} {k : Int} {v : V} {Q : VK} (h0 : SqT K H p xs) (h1 : atI xs k = some v) (h : Q v H) : rIx K (.ref p) (.int k) H Q := .inr (.inl ⟨p, xs, k, v, rfl, rfl, h0, h1, h⟩)
end
/-! ### defs by any address; the head's hook -/
structure DefW where
  at_ : PySem.W.Frag → Addr
  name : Str
  qual : Str
  params : Arguments
  body : List Stmt
  scope : Scope
  dfl : List He.Dv
def fnWA (K : PySem.W.Frag) (a : Addr) : He.FnW := match K.lookup a with
  | some ⟨_, _, .func fd, _⟩ => some (fd.name, fd.qualname, fd.params, fd.body, fd.scope, fd.globals, fd.closure, fd.builtins)
  | _ => none
def DefW.val (d : DefW) : He.FnW := some (d.name, d.qual, d.params, .stmts d.body, d.scope, mainGlobals, [], builtinsNs)
def DefW.dvs (K : PySem.W.Frag) (d : DefW) : List V := d.dfl.map (He.Dv.v K)
def DefW.ok (K : PySem.W.Frag) (d : DefW) : Bool := PySem.W.keepIn K (.ref (d.at_ K)) && (match K.lookup (d.at_ K) with
  | some ⟨_, _, .func fd, _⟩ => PySem.W.codeIn K fd.code d.qual && He.dflB K fd.defaults (d.dvs K)
  | _ => false)
theorem DefW.funD {K : PySem.W.Frag} {d : DefW} (e : fnWA K (d.at_ K) = d.val) (c : d.ok K = true) : ∃ fd, FunD K d.name d.qual d.params d.body d.scope (d.dvs K) [] (d.at_ K) fd := by
  obtain ⟨kp, c2⟩ := Bool.and_eq_true_iff.mp c
  unfold fnWA at e
  rcases q : K.lookup (d.at_ K) with _ | ⟨oc, od, dt, osl⟩
  · rw [q] at c2
    cases c2
  · rw [q] at c2 e
    cases dt with
    | func fd =>
      obtain ⟨n1, n2, n3, n4, n5, n6, n7, n8, n9, n10, n11, n12, n13, n14, n15⟩ := fd
      have e2 : (some (n1, n2, n3, n4, n5, n6, n7, n15) : He.FnW) = some (d.name, d.qual, d.params, .stmts d.body, d.scope, mainGlobals, [], builtinsNs) := e
      simp only [Option.some.injEq, Prod.mk.injEq] at e2
      obtain ⟨h1, h2, h3, h4, h5, h6, h7, h8⟩ := e2
      subst h1 h2 h3 h4 h5 h6 h7 h8
      obtain ⟨k1, k3⟩ := Bool.and_eq_true_iff.mp (show (PySem.W.codeIn K n13 d.qual && He.dflB K n8 (d.dvs K)) = true from c2)
      exact ⟨_, ⟨oc, od, n8, n9, n10, n11, n12, n13, n14, osl, rfl, q, k1, He.dflB_ok k3, He.kwdB_ok rfl⟩, kp⟩
    | _ => cases c2
abbrev AlW : Type := Bool × List He.FnW
def obsW (fa : List He.Fa) (fn : List DefW) (ex : PySem.W.Frag → List Bool) (K : PySem.W.Frag) : AlW := ((fa.all fun f => f.ok K) && ((fn.all fun d => d.ok K) && (ex K).all id), fn.map fun d => fnWA K (d.at_ K))
def valW (fn : List DefW) : AlW := (true, fn.map DefW.val)
def SaysW (fa : List He.Fa) (fn : List DefW) (ex : PySem.W.Frag → List Bool) (K : PySem.W.Frag) : Prop := obsW fa fn ex K = valW fn
/-- the part of the heap that is looked at -/
def asW (g : Addr → Option Obj) : List Addr := He.asD g 5 ++ [cStatics]
def hookW (fa : List He.Fa) (fn : List DefW) (ex : PySem.W.Frag → List Bool) : PySem.W.Hook where
  α := AlW
  obs := fun s => obsW fa fn ex (He.frG s.heap.get? (asW s.heap.get?))
  val := fun _ => valW fn
  says := fun _ h => ∃ K : PySem.W.Frag, K.In h ∧ SaysW fa fn ex K
  of := fun _ _ e => ⟨_, He.frG_in, e⟩
  keeps := fun _ _ _ ⟨K, hK, q⟩ k => ⟨K, PySem.W.Frag.In.keeps hK k, q⟩
def obT (fa : List He.Fa) (fn : List DefW) (ex : PySem.W.Frag → List Bool) (s : PySem.W.SharedT) : AlW := obsW fa fn ex (He.frG (HandSHeadRun.getT s) (asW (HandSHeadRun.getT s)))
theorem obT_eq {fa : List He.Fa} {fn : List DefW} {ex : PySem.W.Frag → List Bool} (s : PySem.W.SharedT) : obT fa fn ex s = (hookW fa fn ex).obs s.abs := by
  have e : HandSHeadRun.getT s = s.abs.heap.get? := funext (HandSHeadRun.getT_eq s)
  show obsW fa fn ex (He.frG (HandSHeadRun.getT s) (asW (HandSHeadRun.getT s))) = obsW fa fn ex (He.frG s.abs.heap.get? (asW s.abs.heap.get?))
  rw [e]
section
variable {fa : List He.Fa} {fn : List DefW} {ex : PySem.W.Frag → List Bool} {K : PySem.W.Frag}
theorem SaysW.all (c : SaysW fa fn ex K) : (fa.all fun f => f.ok K) = true ∧ (fn.all fun d => d.ok K) = true ∧ (ex K).all id = true := by
  have z := Bool.and_eq_true_iff.mp (show ((fa.all fun f => f.ok K) && ((fn.all fun d => d.ok K) && (ex K).all id)) = true from congrArg (fun z : AlW => z.1) c)
  exact ⟨z.1, Bool.and_eq_true_iff.mp z.2⟩
theorem SaysW.fact (c : SaysW fa fn ex K) (i : Nat) {f : He.Fa} (h : fa[i]? = some f) : f.ok K = true := List.all_eq_true.mp c.all.1 f (List.mem_of_getElem? h)
theorem SaysW.exs (c : SaysW fa fn ex K) (i : Nat) {b : Bool} (h : (ex K)[i]? = some b) : b = true := List.all_eq_true.mp c.all.2.2 b (List.mem_of_getElem? h)
theorem SaysW.def_ (c : SaysW fa fn ex K) (i : Nat) {d : DefW} (h : fn[i]? = some d) : ∃ fd, FunD K d.name d.qual d.params d.body d.scope (d.dvs K) [] (d.at_ K) fd := by
  have e : fn.map (fun d => fnWA K (d.at_ K)) = fn.map DefW.val := congrArg (fun z : AlW => z.2) c
  have e2 : (fn.map fun d => fnWA K (d.at_ K))[i]? = (fn.map DefW.val)[i]? := by rw [e]
  rw [List.getElem?_map, List.getElem?_map, h] at e2
  exact DefW.funD (Option.some.inj e2) (List.all_eq_true.mp c.all.2.1 d (List.mem_of_getElem? h))
end
/-- the def behind a classmethod, a property of the class x -/
def recAd (T : String) (K : PySem.W.Frag) (x m : Str) : Addr := match PySem.W.recIn K (He.ma K (He.ga K x) m) T with
  | some (.ref g :: _) => g
  | _ => 0

/-! ### fields -/
def rFld (K : PySem.W.Frag) (f : Str) : V → Hp → VK → Prop := fun x H Q => ∃ a C dx fs v, x = .ref a ∧ H a = some (.ins C dx fs) ∧ Cls K C ∧ NoAttr K C f ∧ fs.lookup f = some v ∧ Q v H
theorem w_fld {K : PySem.W.Frag} {ta : TE} {f : Str} {σ : L2.St} {H : Hp} {Q : VK} (h : ta σ H fun x H1 => rFld K f x H1 Q) : tFld K ta f σ H Q := h
theorem w_rFld {K : PySem.W.Frag} {f : Str} {a C dx : Addr} {fs : List (Str × V)} {v : V} {H : Hp} {Q : VK} (h : H a = some (.ins C dx fs)) (c : Cls K C) (n : NoAttr K C f) (l : fs.lookup f = some v) (q : Q v H) : rFld K f (.ref a) H Q := ⟨a, C, dx, fs, v, rfl, h, c, n, l, q⟩
def rPut (K : PySem.W.Frag) (f : Str) (y : V) : V → Hp → (Hp → Prop) → Prop := fun x H R => ∃ a C dx fs, x = .ref a ∧ H a = some (.ins C dx fs) ∧ Cls K C ∧ NoAttr K C f ∧ fs.length < 1000 ∧ R (upd H a (.ins C dx (putF f y fs)))
theorem w_put {K : PySem.W.Frag} {ta tv : TE} {f : Str} {σ : L2.St} {H : Hp} {D : Ends} (h : tv σ H fun y H1 => ta σ H1 fun x H2 => rPut K f y x H2 fun H3 => D.nx σ H3) : sFld K ta tv f D σ H := h
theorem Gr.put {H : Hp} {a C dx : Addr} {fs : List (Str × V)} {o : HO} (h : H a = some (.ins C dx fs)) (hi : imm (fs.map (·.1)) = false) : Gr [a] H (upd H a o) := ⟨fun b u e m => by
    rw [upd_ne (by simpa using m)]
    exact e, fun b m => by
    have e : b = a := by simpa using m
    subst e
    exact ⟨_, h, hi⟩⟩
theorem w_rPut {K : PySem.W.Frag} {f : Str} {y : V} {a C dx : Addr} {fs : List (Str × V)} {H : Hp} {R : Hp → Prop} (h : H a = some (.ins C dx fs)) (c : Cls K C) (n : NoAttr K C f) (l : fs.length < 1000) (hi : imm (fs.map (·.1)) = false)
    (q : ∀ H', Gr [a] H H' → H' a = some (.ins C dx (putF f y fs)) → R H') : rPut K f y (.ref a) H R := ⟨a, C, dx, fs, rfl, h, c, n, l, q _ (Gr.put h hi) upd_same⟩

/-! ### the end: the law's own call -/
theorem walkW {l : PySem.W.OpenLaw} {n k : Nat} {q : Program} {loose : List Str} {XP : (Str → Option Value) → Heap → Prop} {YP : World → Heap → Prop} {d : DefRec} {x : Str}
    (hn : l.most = some n) (hn2 : n ≤ sizeLine) (hdf : d.params.defaults = []) (hr : Room k callerA)
    (F : ∀ (w : World) (mg : Str → Option Value) (fa : Addr) (h : Heap), YP w h → h.Ns mainGlobals mg → mg d.name = some (.ref fa) →
      ∃ (K : PySem.W.Frag) (fd : FuncData) (sp : Sp), K.In h ∧ (∀ (s : Shared) (u : Value), BindsTo s fd ⟨[u], []⟩ [(x, u)]) ∧
        (∀ (H : Hp) (a : Addr) (ns : List Int), ns.length ≤ n → Only H → SqL K H a (ns.map V.int) → sp [.ref a] H (fun v _ => v = .bl true) fun _ _ _ => False) ∧
        ∀ base : Heap, K.In base → base.Ns mainGlobals mg → FnOk l.prog w K mg base (L2.CX l.prog w) k fa fd [x] sp) :
    PySem.W.WalkO q loose XP YP l.row.toRowW d [] (fun f vs => PySem.call f vs) := by
  refine Att.attach_call hn hdf fun w s₀ s₁ mg mb fa o pm cd doc a vs ns G Y ho hd hcd hmg hobj hints hlen hg => ?_
  obtain ⟨K, fd, sp, KX, hb, hsp, hF⟩ := F w mg fa _ Y G.T.g hmg
  refine law_call KX G.T.g G.T.b G.T.builtins G.T.nolimit hg hobj hints (Nat.le_trans hlen hn2) hr hF hb (fun H hO hS => hsp H a ns hlen hO hS) fun H e s' h => ?_
  obtain ⟨_, _, _, _, _, _, _, _, _, _, _, _, z⟩ := h
  exact z
end LW

namespace LW
open PySem PySem.Spec PyProof.Rows L2

/-! ### own classes: makes, methods, operators, at the slots -/
/-- a statement that is never reached -/
def tDead : TS := fun _ _ _ => False
theorem ps_dead {X : Cx} {st : Stmt} : PS X st tDead := ⟨fun _ _ _ _ _ _ h => h.elim⟩
theorem pss_dead {X : Cx} {st : List Stmt} : PSs X st tDead := ⟨fun _ _ _ _ _ _ h => h.elim⟩
theorem pe_dead {X : Cx} {e : Expr} : PE X e (fun _ _ _ => False) := ⟨fun _ _ _ _ _ _ h => h.elim⟩
abbrev E0S : L2.St → XK := fun _ _ _ _ => False
theorem passAt0 {X : Cx} (σ : L2.St) : PassesAt (L2.CX X.prog X.w) X σ (E0S σ) := fun _ _ _ _ _ _ c => by
  obtain ⟨_, _, _, _, _, _, _, _, _, _, _, z⟩ := c
  exact z.2.elim
theorem rawF {P : Program} {w : World} {K : PySem.W.Frag} {mg : Str → Option Value} {base : Heap} {CX : CXT} {k : Nat} {f : Addr} {fd : FuncData} {ps : List Str} {sp : Sp} (F : FnOk P w K mg base CX k f fd ps sp) (hb : Binds K fd ps []) :
    FnR P w K mg base CX k f sp := (F.raw hb .nil).imp fun vs H Q E h => by rw [List.append_nil]; exact h
section
variable {X : Cx} {CX : CXT} {k : Nat} {C f g p : Addr} {mc : Value} {sp : Sp} {E : L2.St → XK} {pins : List (Addr × Obj)} {σ : L2.St} {H : Hp} {s : Shared} {Q : VK} {us : List Value} {vs : List V}
theorem run_S {A : Around} (F : FnR X.prog X.w X.K X.mg X.base CX k g sp) (hr : Room k A) (e0 : Env0 X.prog X.w X.K X.mg X.base A X.stack s H) (hx : PassesAt CX X σ (E σ)) (I : Inv X pins σ H s) (r : Vals vs us) (h : sp vs H Q (E σ)) :
    codeAny (model X.prog X.w) A (.call (.ref g) ⟨us, []⟩) (fun r s' => match r with | .ok (.ret v) => EP X pins σ Q v s' | .ok _ => False | .error e => X.xe e s') s := by
  refine codeAny_mono (F A X.stack s H us vs Q (E σ) hr e0 r h) fun r s' hq => ?_
  rcases r with e | fl
  · exact hx pins H s e s' I hq
  · cases fl <;> first | exact I.after hq | exact False.elim hq
/-- what __init__ finds: x of the class at C, no field yet -/
def mkHp (H : Hp) (x dx C : Addr) : Hp := upd (upd H dx (.own x)) x (.ins C dx [])
def tMakeS (C : Addr) (sp : Sp) (E : L2.St → XK) (tf : TE) (t : TA) : TE := fun σ H Q => tf σ H fun y H0 => y = .ref C ∧ t σ H0 fun vs H1 => ∀ x dx, H1 x = Option.none → H1 dx = Option.none → dx ≠ x →
  sp (V.ref x :: vs) (mkHp H1 x dx C) (fun v H2 => v = .non ∧ Q (.ref x) H2) (E σ)
variable {o e fe : Expr} {es : List Expr} {m : Str} {pos apos : Pos} {ta tb tf : TE} {t : TA} {pl : Sem Bool}
theorem pe_makeS (hf : PE X fe tf) (M : Mk X.K C f) (F : FnR X.prog X.w X.K X.mg X.base CX k f sp) (hr : Room (k + 1) X.A) (hx : ∀ σ, PassesAt CX X σ (E σ)) (ha : PA X (e :: es) t)
    (ht : eval (.Call fe (e :: es) [] pos) X.env = (do callWith pos (← eval fe X.env) [] (backTo pos (starEach (e :: es) X.env)) (backToKw pos (keywordEach [] X.env))) := by rfl)
    (he : starEach (e :: es) X.env = (false, eval e X.env) :: starEach es X.env := by rfl) (hpl : (backTo pos (starEach es X.env)).any (·.1) = false := by rfl) : PE X (.Call fe (e :: es) [] pos) (tMakeS C sp E tf t) := by
  refine ⟨fun pins s σ H Q I h => ?_⟩
  refine Call_ (thn (hf.run pins s σ H _ I h) fun u s1 ⟨y, H0, I0, ry, ey, q0⟩ => ?_) ht
  subst ey
  obtain rfl : u = Value.ref C := ry
  refine PySem.W.callWith_K (h₀ := X.base) I0.ok.mod.kin M.kp (thn (ha.run pos pins s1 σ H0 _ I0 q0) fun us s2 ⟨vs, H1, I1, r, q⟩ => ⟨I1.kIn, ?_⟩) he hpl
  have hq := q (s2.heap.objs.size + 1) s2.heap.objs.size (I1.hok.fresh (Nat.le_succ _)) (I1.hok.fresh (Nat.le_refl _)) (Nat.ne_of_lt (Nat.lt_succ_self _))
  have I2 := Inv.made (C := C) I1
  refine wpAny_call (make_map (f := f) I1.kIn M.makes M.init (beq_iff_eq.mp M.fn) (codeAny_mono (run_S (us := Value.ref (s2.heap.objs.size + 1) :: us) (vs := V.ref (s2.heap.objs.size + 1) :: vs) F (hr.make C us []) (I2.env0.make C us []) (hx σ) I2 (.cons rfl r) hq) fun r s' hq' => ?_))
  rcases r with e | fl
  · exact hq'
  · cases fl with
    | ret u =>
      obtain ⟨v, H', I3, rv, ev, q3⟩ := hq'
      subst ev
      exact ⟨rv, ⟨V.ref (s2.heap.objs.size + 1), H', I3, rfl, q3⟩⟩
    | _ => exact False.elim hq'
/-- C.m(..), m a classmethod -/
def tCMethS (C : Addr) (sp : Sp) (E : L2.St → XK) (ta : TE) (t : TA) : TE := fun σ H Q => ta σ H fun x H1 => x = .ref C ∧ t σ H1 fun vs H2 => sp (.ref C :: vs) H2 Q (E σ)
theorem pe_cmethS (he : PE X o ta) (r : ClX.CRead X.K C mc) (c : ClX.CMet X.K C mc m p g) (F : FnR X.prog X.w X.K X.mg X.base CX k g sp) (hr : Room k X.A) (hx : ∀ σ, PassesAt CX X σ (E σ)) (ha : PA X (e :: es) t)
    (hst : starEach (e :: es) X.env = (false, eval e X.env) :: starEach es X.env := by rfl) (hpl : (backTo pos (starEach es X.env)).any (·.1) = false := by rfl)
    (ht : eval (.Call (.Attribute o m apos) (e :: es) [] pos) X.env = (do
      let ov ← eval o X.env
      standAt apos.atName
      let (f, first) ← holding [ov] (getMethod ov m pl)
      callWith pos f first (backTo pos (starEach (e :: es) X.env)) (backToKw pos (keywordEach [] X.env))) := by rfl) :
    PE X (.Call (.Attribute o m apos) (e :: es) [] pos) (tCMethS C sp E ta t) := by
  refine ⟨fun pins s σ H Q I h => ?_⟩
  refine PySem.W.methodCall_KW (pl := pl) (thn (he.run pins s σ H _ I h) fun u s1 ⟨x, H1, I1, rx, ex, q⟩ => ?_) ht
  subst ex
  obtain rfl : u = Value.ref C := rx
  refine ClX.getmethcm_ok I1 r c fun s2 I2 => ?_
  refine ClX.callwith_cm I2 (ClX.base_none I1 (Nat.le_refl _)) c.fi (thn (ha.run pos _ s2 σ H1 _ I2 q) fun us s3 ⟨vs, H2, I3, rv, q2⟩ => ⟨⟨ClX.pin_at I3, I3.kIn⟩, ?_⟩) hst hpl
  exact thn (wpAny_call (PySem.W.method_call (ClX.pin_at I3) (run_S (us := .ref C :: us) (vs := .ref C :: vs) F hr I3.env0 (hx σ) I3 (.cons rfl rv) q2))) fun _ _ y => ClX.unpinE y
/-- o.m(..) -/
def tMethSS (C : Addr) (m : Str) (sp : Sp) (E : L2.St → XK) (ta : TE) (t : TA) : TE := fun σ H Q => ta σ H fun x H1 => ∃ a dx fs, x = .ref a ∧ H1 a = some (.ins C dx fs) ∧ fs.lookup m = none ∧ t σ H1 fun vs H2 => sp (x :: vs) H2 Q (E σ)
theorem pe_methS (he : PE X o ta) (c : Cls X.K C) (hm : Meth X.K C m f) (F : FnR X.prog X.w X.K X.mg X.base CX k f sp) (hr : Room k X.A) (hx : ∀ σ, PassesAt CX X σ (E σ)) (ha : PA X (e :: es) t)
    (hst : starEach (e :: es) X.env = (false, eval e X.env) :: starEach es X.env := by rfl) (hpl : (backTo pos (starEach es X.env)).any (·.1) = false := by rfl)
    (ht : eval (.Call (.Attribute o m apos) (e :: es) [] pos) X.env = (do
      let ov ← eval o X.env
      standAt apos.atName
      let (f, first) ← holding [ov] (getMethod ov m pl)
      callWith pos f first (backTo pos (starEach (e :: es) X.env)) (backToKw pos (keywordEach [] X.env))) := by rfl) :
    PE X (.Call (.Attribute o m apos) (e :: es) [] pos) (tMethSS C m sp E ta t) := by
  refine ⟨fun pins s σ H Q I h => ?_⟩
  refine PySem.W.methodCall_KW (pl := pl) (thn (he.run pins s σ H _ I h) fun u s1 ⟨x, H1, I1, rx, a, dx, fs, ex, ea, l, q⟩ => ?_) ht
  subst ex
  obtain rfl : u = Value.ref a := rx
  refine getmeth_ok I1 ea c hm l ?_
  refine PySem.W.callWith_K (first := [.ref a]) (h₀ := X.base) I.ok.mod.kin hm.kp (thn (ha.run pos pins s1 σ H1 _ I1 q) fun us s2 ⟨vs, H2, I2, r, q2⟩ => ⟨I2.kIn, ?_⟩) hst hpl
  exact wpAny_call (run_S (us := .ref a :: us) (vs := .ref a :: vs) F hr I2.env0 (hx σ) I2 (.cons rfl r) q2)
theorem pe_methS0 (he : PE X o ta) (c : Cls X.K C) (hm : Meth X.K C m f) (F : FnR X.prog X.w X.K X.mg X.base CX k f sp) (hr : Room k X.A) (hx : ∀ σ, PassesAt CX X σ (E σ))
    (ht : eval (.Call (.Attribute o m apos) [] [] pos) X.env = (do
      let ov ← eval o X.env
      standAt apos.atName
      let (f, first) ← holding [ov] (getMethod ov m pl)
      callWith pos f first (backTo pos (starEach [] X.env)) (backToKw pos (keywordEach [] X.env))) := by rfl) :
    PE X (.Call (.Attribute o m apos) [] [] pos) (tMethSS C m sp E ta tNil) := by
  refine ⟨fun pins s σ H Q I h => ?_⟩
  refine PySem.W.methodCall_KW (pl := pl) (thn (he.run pins s σ H _ I h) fun u s1 ⟨x, H1, I1, rx, a, dx, fs, ex, ea, l, q⟩ => ?_) ht
  subst ex
  obtain rfl : u = Value.ref a := rx
  refine getmeth_ok I1 ea c hm l ?_
  exact PySem.W.callWith_K0 (first := [.ref a]) I1.kIn hm.kp (wpAny_call (run_S (us := [.ref a]) (vs := [.ref a]) F hr I1.env0 (hx σ) I1 (.cons rfl .nil) q))
/-- o(..), o an instance -/
def tCallOS (C : Addr) (sp : Sp) (E : L2.St → XK) (tf : TE) (t : TA) : TE := fun σ H Q => tf σ H fun y H1 => ∃ a, y = V.ref a ∧ t σ H1 fun vs H2 => (∃ dx fs, H2 a = some (.ins C dx fs)) ∧ sp (V.ref a :: vs) H2 Q (E σ)
theorem pe_callOS (hf : PE X fe tf) (c : StX.CallO X.K C g) (F : FnR X.prog X.w X.K X.mg X.base CX k g sp) (hr : Room k X.A) (hx : ∀ σ, PassesAt CX X σ (E σ)) (ha : PA X (e :: es) t)
    (ht : eval (.Call fe (e :: es) [] pos) X.env = (do callWith pos (← eval fe X.env) [] (backTo pos (starEach (e :: es) X.env)) (backToKw pos (keywordEach [] X.env))) := by rfl)
    (he : starEach (e :: es) X.env = (false, eval e X.env) :: starEach es X.env := by rfl) (hpl : (backTo pos (starEach es X.env)).any (·.1) = false := by rfl) : PE X (.Call fe (e :: es) [] pos) (tCallOS C sp E tf t) := by
  refine ⟨fun pins s σ H Q I h => ?_⟩
  refine Call_ (thn (hf.run pins s σ H _ I h) fun u s1 ⟨y, H1, I1, ry, a, ey, q⟩ => ?_) ht
  subst ey
  obtain rfl : u = Value.ref a := ry
  refine StX.callO_with (thn (ha.run pos pins s1 σ H1 _ I1 q) fun us s2 ⟨vs, H2, I2, r, hi, q2⟩ => ?_) he hpl
  obtain ⟨ox, od, J, hd⟩ := StX.insC_at I2 (.inr hi)
  exact ⟨⟨C, ox, od, J, hd⟩, wpAny_call (PySem.W.kco_code I2.kIn J hd c.at_ c.fn c.fi (run_S (us := .ref a :: us) (vs := .ref a :: vs) F hr I2.env0 (hx σ) I2 (.cons rfl r) q2))⟩
/-- x op y, both of the class at C -/
def tBinS (C : Addr) (sp : Sp) (E : L2.St → XK) (ta tb : TE) : TE := fun σ H Q => ta σ H fun x H1 => tb σ H1 fun y H2 => ∃ a dx fs b dy gs, x = .ref a ∧ y = .ref b ∧ H2 a = some (.ins C dx fs) ∧ H2 b = some (.ins C dy gs) ∧ sp [x, y] H2 Q (E σ)
structure OpO (K : PySem.W.Frag) (C : Addr) (m : Str) (g : Addr) : Prop where
  self : PySem.W.selfFirst K C = true
  at_ : PySem.W.findIn K (.ref C) m = some (some (.ref g))
  fn : PySem.W.isFn K (.ref g) = true
theorem ins_at (I : Inv X pins σ H s) {a dx : Addr} {fs : List (Str × V)} (h : H a = some (.ins C dx fs)) : ∃ ox od, PySem.W.InstAt s.heap a ox C od := by
  obtain ⟨ox, od, J, _⟩ := StX.insC_at I (.inr ⟨dx, fs, h⟩)
  exact ⟨ox, od, J⟩
theorem pe_binS {a b : Expr} {op : Operator} (c : OpO X.K C (PySem.dunder op.info.2) g) (F : FnR X.prog X.w X.K X.mg X.base CX k g sp) (hr : Room k X.A) (hx : ∀ σ, PassesAt CX X σ (E σ)) (ha : PE X a ta) (hb : PE X b tb) : PE X (.BinOp a op b pos) (tBinS C sp E ta tb) := by
  refine ⟨fun pins s σ H Q I h => ?_⟩
  refine wpAny_BinOp (binT ha hb I h fun v u s2 x y H2 I2 rx ry q => ?_)
  obtain ⟨a, dx, fs, b, dy, gs, rfl, rfl, ea, eb, q⟩ := q
  cases (show v = Value.ref a from rx)
  cases (show u = Value.ref b from ry)
  obtain ⟨ox, od, J⟩ := ins_at I2 ea
  obtain ⟨ox', od', J'⟩ := ins_at I2 eb
  obtain ⟨m, hF⟩ := I2.fr
  refine PySem.W.binop_K hF I2.ok.mod.kin J J'.type c.self c.at_ c.fn ?_
  refine wpAny_mono (wpAny_call (run_S (us := [.ref a, .ref b]) (vs := [.ref a, .ref b]) F hr I2.env0 (hx σ) I2 (.cons rfl (.cons rfl .nil)) q)) (fun w s' z => ?_) fun _ _ x => x
  obtain ⟨z', H', I', rz, qz⟩ := z
  exact SlX.cmpback rz ⟨z', H', I', rz, qz⟩
structure CmO (K : PySem.W.Frag) (C : Addr) (m : Str) (g : Addr) : Prop where
  at_ : PySem.W.findIn K (.ref C) m = some (some (.ref g))
  fn : PySem.W.isFn K (.ref g) = true
theorem pe_cmpS {a b : Expr} {op : CmpOp} (c : CmO X.K C (cmpInfo op).2.1 g) (hop : ∀ a b, compareOp op a b = richCompare op a b) (F : FnR X.prog X.w X.K X.mg X.base CX k g sp) (hr : Room k X.A) (hx : ∀ σ, PassesAt CX X σ (E σ)) (ha : PE X a ta) (hb : PE X b tb) (hm : behindInMarks op b = false) : PE X (.Compare a [op] [b] pos) (tBinS C sp E ta tb) := by
  refine ⟨fun pins s σ H Q I h => ?_⟩
  refine wpAny_Compare1 (binT ha hb I h fun v u s2 x y H2 I2 rx ry q => ?_) hm
  obtain ⟨a, dx, fs, b, dy, gs, rfl, rfl, ea, eb, q⟩ := q
  cases (show v = Value.ref a from rx)
  cases (show u = Value.ref b from ry)
  obtain ⟨ox, od, J⟩ := ins_at I2 ea
  obtain ⟨ox', od', J'⟩ := ins_at I2 eb
  obtain ⟨m, hF⟩ := I2.fr
  rw [hop]
  refine PySem.W.cmp_K (op := op) (tb := .ref C) hr.units0 hF I2.ok.mod.kin J J'.type (by unfold PySem.W.notFirst; simp) c.at_ c.fn ?_
  refine wpAny_mono (wpAny_call (run_S (us := [.ref a, .ref b]) (vs := [.ref a, .ref b]) F hr I2.env0 (hx σ) I2 (.cons rfl (.cons rfl .nil)) q)) (fun w s' z => ?_) fun _ _ x => x
  obtain ⟨z', H', I', rz, qz⟩ := z
  exact SlX.cmpback rz ⟨z', H', I', rz, qz⟩
/-- ~x -/
def tInvS (C : Addr) (sp : Sp) (E : L2.St → XK) (ta : TE) : TE := fun σ H Q => ta σ H fun x H1 => ∃ a dx fs, x = .ref a ∧ H1 a = some (.ins C dx fs) ∧ sp [x] H1 Q (E σ)
theorem pe_invS {a : Expr} (c : CmO X.K C "__invert__" g) (F : FnR X.prog X.w X.K X.mg X.base CX k g sp) (hr : Room k X.A) (hx : ∀ σ, PassesAt CX X σ (E σ)) (ha : PE X a ta) : PE X (.UnaryOp .Invert a pos) (tInvS C sp E ta) := by
  refine ⟨fun pins s σ H Q I h => ?_⟩
  refine UnaryOp_ (thn (ha.run pins s σ H _ I h) fun v s1 ⟨x, H1, I1, r1, a, dx, fs, ex, ea, q⟩ => ?_)
  subst ex
  cases (show v = Value.ref a from r1)
  obtain ⟨ox, od, J⟩ := ins_at I1 ea
  obtain ⟨m, hF⟩ := I1.fr
  exact PySem.W.ksp_inv hF I1.ok.mod.kin J c.at_ c.fn (wpAny_call (run_S (us := [.ref a]) (vs := [.ref a]) F hr I1.env0 (hx σ) I1 (.cons rfl .nil) q))
/-- len(x) by an own __len__ that lets nothing out -/
def rLenO (C : Addr) (sp : Sp) : List V → Hp → VK → Prop := fun xs H Q => ∃ a dx fs, xs = [.ref a] ∧ H a = some (.ins C dx fs) ∧ sp [.ref a] H (fun v H' => ∃ n : Int, v = .int n ∧ 0 ≤ n ∧ n < 2 ^ 63 ∧ Q (.int n) H') (fun _ _ _ => False)
theorem cr_lenO (c : CmO X.K C "__len__" g) (F : FnR X.prog X.w X.K X.mg X.base (L2.CX X.prog X.w) k g sp) (hr : Room (k + 1) X.A) : CallR X (.builtin "len") (rLenO C sp) := by
  intro pins s σ H xs us Q I r h
  obtain ⟨a, dx, fs, rfl, ea, q⟩ := h
  obtain ⟨u, rfl, ru⟩ := r.one
  cases (show u = Value.ref a from ru)
  obtain ⟨ox, od, J⟩ := ins_at I ea
  obtain ⟨m, hF⟩ := I.fr
  refine PySem.W.len_K hF I.ok.mod.kin J c.at_ c.fn (wpAny_mono (wpAny_call (run_S (E := E0S) (us := [.ref a]) (vs := [.ref a]) F hr.in1 I.env0.in1 (passAt0 σ) I (.cons rfl .nil) q)) (fun w s' z => ?_) fun _ _ x => x)
  obtain ⟨z', H', I', rz, n, ez, h0, h1, qz⟩ := z
  subst ez
  obtain ⟨t, e⟩ := (show ∃ t, w = Value.int n t from rz)
  cases e
  exact ⟨⟨h0, h1⟩, .int n, H', I'.tok _, ⟨_, rfl⟩, qz⟩
end
/-! ### what is asked of the text, as truth values -/
section
variable {K : PySem.W.Frag} {x m : Str}
theorem and2 {a b : Bool} (h : (a && b) = true) : a = true ∧ b = true := Bool.and_eq_true_iff.mp h
def cmoB (K : PySem.W.Frag) (x m : Str) : Bool := decide (PySem.W.findIn K (.ref (He.ga K x)) m = some (some (.ref (He.ma K (He.ga K x) m)))) && PySem.W.isFn K (.ref (He.ma K (He.ga K x) m))
theorem cmoB_ok (h : cmoB K x m = true) : CmO K (He.ga K x) m (He.ma K (He.ga K x) m) := ⟨of_decide_eq_true (and2 h).1, (and2 h).2⟩
def opoB (K : PySem.W.Frag) (x m : Str) : Bool := PySem.W.selfFirst K (He.ga K x) && cmoB K x m
theorem opoB_ok (h : opoB K x m = true) : OpO K (He.ga K x) m (He.ma K (He.ga K x) m) := ⟨(and2 h).1, (cmoB_ok (and2 h).2).1, (cmoB_ok (and2 h).2).2⟩
def calB (K : PySem.W.Frag) (x : Str) : Bool := cmoB K x "__call__" && PySem.W.fnIn K (He.ma K (He.ga K x) "__call__")
theorem calB_ok (h : calB K x = true) : StX.CallO K (He.ga K x) (He.ma K (He.ga K x) "__call__") := ⟨(cmoB_ok (and2 h).1).1, (cmoB_ok (and2 h).1).2, (and2 h).2⟩
def crdB (K : PySem.W.Frag) (x : Str) : Bool := PySem.W.readsIn K (He.ga K x) (.type "type") && decide (PySem.W.specialIn K (.ref (He.ga K x)) "__getattribute__" = some (some (.builtin "type.__getattribute__")))
theorem crdB_ok (h : crdB K x = true) : ClX.CRead K (He.ga K x) (.type "type") := ⟨(and2 h).1, of_decide_eq_true (and2 h).2⟩
def recB (K : PySem.W.Frag) (T : String) (p g : Addr) : Bool := match PySem.W.recIn K p T with
  | some (.ref a :: _) => decide (a = g)
  | _ => false
theorem recB_ok {T : String} {p g : Addr} (h : recB K T p g = true) : ∃ rest, PySem.W.recIn K p T = some (.ref g :: rest) := by
  unfold recB at h
  split at h
  · rename_i a r e
    rw [of_decide_eq_true h] at e
    exact ⟨_, e⟩
  · cases h
def getB (K : PySem.W.Frag) (x m : Str) : Bool := match PySem.W.findCls K (.ref (He.ga K x)) (.type "type") m with
  | some (.get (.builtin b) (.ref p) .none (.ref c)) => decide (b = "classmethod.__get__") && (decide (p = He.ma K (He.ga K x) m) && decide (c = He.ga K x))
  | _ => false
theorem getB_ok (h : getB K x m = true) : PySem.W.findCls K (.ref (He.ga K x)) (.type "type") m = some (.get (.builtin "classmethod.__get__") (.ref (He.ma K (He.ga K x) m)) .none (.ref (He.ga K x))) := by
  unfold getB at h
  split at h
  · rename_i b p c e
    obtain ⟨h1, h⟩ := and2 h
    obtain ⟨h2, h3⟩ := and2 h
    rw [of_decide_eq_true h1, of_decide_eq_true h2, of_decide_eq_true h3] at e
    exact e
  · cases h
def cmtB (K : PySem.W.Frag) (x m : Str) : Bool := getB K x m && (recB K "classmethod" (He.ma K (He.ga K x) m) (recAd "classmethod" K x m) && PySem.W.fnIn K (recAd "classmethod" K x m))
theorem cmtB_ok (h : cmtB K x m = true) : ClX.CMet K (He.ga K x) (.type "type") m (He.ma K (He.ga K x) m) (recAd "classmethod" K x m) := ⟨getB_ok (and2 h).1, recB_ok (and2 (and2 h).2).1, (and2 (and2 h).2).2⟩
def cvlB (K : PySem.W.Frag) (x m : Str) (i : Int) : Bool := match PySem.W.findCls K (.ref (He.ga K x)) (.type "type") m with
  | some (.val (.int j _)) => decide (j = i)
  | _ => false
theorem cvlB_ok {i : Int} (h : cvlB K x m i = true) : ∃ u, ClX.CVal K (He.ga K x) (.type "type") m (.int i) u := by
  unfold cvlB at h
  split at h
  · rename_i j t e
    exact ⟨_, e, t, by rw [of_decide_eq_true h]⟩
  · cases h
/-- isinstance(x, D), x of the class C -/
structure IsiC (K : PySem.W.Frag) (C : Addr) : Prop where
  cls : Cls K C
  ca : PySem.W.findIn K (.ref C) "__class__" = some (some (.builtin "object.__class__"))
  cn : PySem.W.specialIn K (.builtin "object.__class__") "__get__" = some (some (.builtin "getset_descriptor.__get__"))
  ct : PySem.W.takesIn K (.builtin "object.__class__") = some true
  cm : PySem.W.mroIn K C (.type "object") = some true
def isiB (K : PySem.W.Frag) (x : Str) : Bool := (He.Fa.cls x).ok K && (decide (PySem.W.findIn K (.ref (He.ga K x)) "__class__" = some (some (.builtin "object.__class__"))) && (decide (PySem.W.specialIn K (.builtin "object.__class__") "__get__" = some (some (.builtin "getset_descriptor.__get__"))) &&
  (decide (PySem.W.takesIn K (.builtin "object.__class__") = some true) && decide (PySem.W.mroIn K (He.ga K x) (.type "object") = some true))))
theorem isiB_ok (h : isiB K x = true) : IsiC K (He.ga K x) := by
  obtain ⟨h1, h⟩ := and2 h
  obtain ⟨h2, h⟩ := and2 h
  obtain ⟨h3, h⟩ := and2 h
  obtain ⟨h4, h5⟩ := and2 h
  exact ⟨He.cls_ok h1, of_decide_eq_true h2, of_decide_eq_true h3, of_decide_eq_true h4, of_decide_eq_true h5⟩
theorem w_isiO {H : Hp} {Q : VK} {a C D dx : Addr} {fs : List (Str × V)} {b : Bool} (I : IsiC K C) (h : H a = some (.ins C dx fs)) (hk : PySem.W.kitOne K (.ref C) (.ref D) = some b) (q : Q (.bl b) H) : rIsi K [.ref a, .ref D] H Q :=
  ⟨.ref a, .ref D, .ref C, .ref D, b, rfl, .own D, .base (.ins h I.cls I.ca I.cn I.ct I.cm), hk, q⟩
end
/-! ### walks -/
section
variable {K : PySem.W.Frag} {C : Addr} {sp : Sp} {E : L2.St → XK} {ta tb tf : TE} {t : TA} {σ : L2.St} {H : Hp} {Q : VK} {m : Str}
def kMake (C : Addr) (sp : Sp) (E : XK) (vs : List V) (H1 : Hp) (Q : VK) : Prop := ∀ x dx, H1 x = Option.none → H1 dx = Option.none → dx ≠ x → sp (V.ref x :: vs) (mkHp H1 x dx C) (fun v H2 => v = .non ∧ Q (.ref x) H2) E
def kRef (C : Addr) (y : V) (P : Prop) : Prop := y = .ref C ∧ P
theorem w_kRef {P : Prop} (h : P) : kRef C (.ref C) P := ⟨rfl, h⟩
theorem w_makeS (h : tf σ H fun y H0 => kRef C y (t σ H0 fun vs H1 => kMake C sp (E σ) vs H1 Q)) : tMakeS C sp E tf t σ H Q := h
theorem w_cmethS (h : ta σ H fun y H0 => kRef C y (t σ H0 fun vs H1 => sp (.ref C :: vs) H1 Q (E σ))) : tCMethS C sp E ta t σ H Q := h
def rBinO (C : Addr) (sp : Sp) (E : XK) (x y : V) (H2 : Hp) (Q : VK) : Prop := ∃ a dx fs b dy gs, x = .ref a ∧ y = .ref b ∧ H2 a = some (.ins C dx fs) ∧ H2 b = some (.ins C dy gs) ∧ sp [x, y] H2 Q E
theorem w_binS (h : ta σ H fun x H1 => tb σ H1 fun y H2 => rBinO C sp (E σ) x y H2 Q) : tBinS C sp E ta tb σ H Q := h
def rInvO (C : Addr) (sp : Sp) (E : XK) (x : V) (H2 : Hp) (Q : VK) : Prop := ∃ a dx fs, x = .ref a ∧ H2 a = some (.ins C dx fs) ∧ sp [x] H2 Q E
theorem w_invS (h : ta σ H fun x H1 => rInvO C sp (E σ) x H1 Q) : tInvS C sp E ta σ H Q := h
def rCalO (C : Addr) (sp : Sp) (E : XK) (t : TA) (σ : L2.St) (y : V) (H1 : Hp) (Q : VK) : Prop := ∃ a, y = V.ref a ∧ t σ H1 fun vs H2 => (∃ dx fs, H2 a = some (.ins C dx fs)) ∧ sp (V.ref a :: vs) H2 Q E
theorem w_callOS (h : tf σ H fun y H1 => rCalO C sp (E σ) t σ y H1 Q) : tCallOS C sp E tf t σ H Q := h
def rMetO (C : Addr) (m : Str) (sp : Sp) (E : XK) (t : TA) (σ : L2.St) (y : V) (H1 : Hp) (Q : VK) : Prop := ∃ a dx fs, y = .ref a ∧ H1 a = some (.ins C dx fs) ∧ fs.lookup m = none ∧ t σ H1 fun vs H2 => sp (y :: vs) H2 Q E
theorem w_methS (h : ta σ H fun y H1 => rMetO C m sp (E σ) t σ y H1 Q) : tMethSS C m sp E ta t σ H Q := h
def rCVal (K : PySem.W.Frag) (f : Str) (x : V) (H : Hp) (Q : VK) : Prop := ∃ C mc v u, x = .ref C ∧ ClX.CRead K C mc ∧ ClX.CVal K C mc f v u ∧ Q v H
theorem w_cval {f : Str} (h : ta σ H fun x H1 => rCVal K f x H1 Q) : ClX.tCVal K ta f σ H Q := h
theorem w_rCVal {f : Str} {v : V} {mc : Value} (r : ClX.CRead K C mc) (k : ∃ u, ClX.CVal K C mc f v u) (q : Q v H) : rCVal K f (.ref C) H Q := by
  obtain ⟨u, k⟩ := k
  exact ⟨C, mc, v, u, rfl, r, k, q⟩
def kLstRg (a b : Int) (H1 : Hp) (Q : VK) : Prop := RgOk a b ∧ ∀ q, H1 q = none → Q (.ref q) (upd H1 q (.lst (rgV a b)))
def kTupRg (a b : Int) (H1 : Hp) (Q : VK) : Prop := RgOk a b ∧ ∀ q, H1 q = none → Q (.ref q) (upd H1 q (.tup (rgV a b)))
def kRg1 (x : V) (R : Int → Int → Hp → Prop) (H : Hp) : Prop := ∃ n, x = .int n ∧ R 0 n H
theorem w_lstRg {te : L2.St → Hp → (Int → Int → Hp → Prop) → Prop} (h : te σ H fun a b H1 => kLstRg a b H1 Q) : tLstRg te σ H Q := h
theorem w_tupRg {te : L2.St → Hp → (Int → Int → Hp → Prop) → Prop} (h : te σ H fun a b H1 => kTupRg a b H1 Q) : tTupRg te σ H Q := h
theorem w_tRg1 {R : Int → Int → Hp → Prop} (h : ta σ H fun x H1 => kRg1 x R H1) : tRg1 ta σ H R := h
theorem w_kRg1 {n : Int} {R : Int → Int → Hp → Prop} (h : R 0 n H) : kRg1 (.int n) R H := ⟨n, rfl, h⟩
/-- 0, 1, .. n - 1 -/
def rg (n : Nat) : List Int := (List.range n).map fun (i : Nat) => (i : Int)
theorem rgV_eq (n : Nat) : rgV 0 n = (rg n).map V.int := by
  unfold rgV rg
  rw [List.map_map, show ((n : Int) - 0).toNat = n by omega]
  exact List.map_congr_left fun i _ => by show V.int (0 + (i : Nat)) = V.int (i : Int); rw [Int.zero_add]
theorem w_kLstRg {n : Nat} (hn : n ≤ 1000000) (h : ∀ q H', H q = none → Gr [] H H' → H' q = some (.lst ((rg n).map V.int)) → Q (.ref q) H') : kLstRg 0 n H Q :=
  ⟨.of_le (by omega) (by omega) (by omega) (by omega), fun q hq => h q _ hq (Gr.new hq) (by rw [rgV_eq]; exact upd_same)⟩
theorem w_kTupRg {n : Nat} (hn : n ≤ 1000000) (h : ∀ q H', H q = none → Gr [] H H' → H' q = some (.tup ((rg n).map V.int)) → Q (.ref q) H') : kTupRg 0 n H Q :=
  ⟨.of_le (by omega) (by omega) (by omega) (by omega), fun q hq => h q _ hq (Gr.new hq) (by rw [rgV_eq]; exact upd_same)⟩
end
/-! ### list comprehensions, one clause -/
abbrev Blk (α : Type) : Type := Shared → Hp → Addr → List (Str × Addr) → List Addr → α
section
variable {X : Cx} {elt tg iter : Expr} {ifs : List Expr} {scope : Scope} {own : List (Str × Nat)} {pos spos : Pos} {wi : TI} {g : TG} {tt : Blk TT} {te : Blk TE} {i : Nat} {y : Str} {py : Pos}
theorem pe_lcD (hc : X.calm = true) (hN : X.N.Nodup) (hi : PI X tg iter wi) (ok : BlkOk X.N X.env.scope scope own)
    (hg : ∀ s H C cl fp, PG (X.blk s H scope (compEnvC scope cl C X.env) fp) tg g) (ht : ∀ s H C cl fp, PTs (X.blk s H scope (compEnvC scope cl C X.env) fp) ifs (tt s H C cl fp))
    (he : ∀ s H C cl fp, PE (X.blk s H scope (compEnvC scope cl C X.env) fp) elt (te s H C cl fp)) (ht0 : ∀ s H C cl fp, tt s H C cl fp = tt X.s_0 X.H_0 0 [] [] := by intros; rfl) (he0 : ∀ s H C cl fp, te s H C cl fp = te X.s_0 X.H_0 0 [] [] := by intros; rfl)
    (hs : ∀ x, foldedSetIterable iter X.env x = pure x := by intro _; rfl) :
    PE X (.ListComp elt [⟨tg, iter, ifs, 0⟩] scope pos) (tLc wi g (tt X.s_0 X.H_0 0 [] []) (te X.s_0 X.H_0 0 [] []) (own.map (·.2))) :=
  pe_lc hc hN hi ok hg (fun s H C cl fp => by rw [← ht0 s H C cl fp]; exact ht s H C cl fp) (fun s H C cl fp => by rw [← he0 s H C cl fp]; exact he s H C cl fp) hs
theorem ps_setLcD (hc : X.calm = true) (hN : X.N.Nodup) (hy : X.N[i]? = some y) (hyl : X.env.scope.names.lookup y = some .local)
    (hsw : swapsWith (.ListComp elt [⟨tg, iter, ifs, 0⟩] scope pos) (some (.Name y py)) spos.line X.env = pure true) (hi : PI X tg iter wi) (ok : BlkOk X.N X.env.scope scope own)
    (hg : ∀ s H C cl fp, PG (X.blk s H scope (compEnvC scope cl C X.env) fp) tg g) (ht : ∀ s H C cl fp, PTs (X.blk s H scope (compEnvC scope cl C X.env) fp) ifs (tt s H C cl fp))
    (he : ∀ s H C cl fp, PE (X.blk s H scope (compEnvC scope cl C X.env) fp) elt (te s H C cl fp)) (ht0 : ∀ s H C cl fp, tt s H C cl fp = tt X.s_0 X.H_0 0 [] [] := by intros; rfl) (he0 : ∀ s H C cl fp, te s H C cl fp = te X.s_0 X.H_0 0 [] [] := by intros; rfl)
    (hs : ∀ x, foldedSetIterable iter X.env x = pure x := by intro _; rfl) :
    PS X (.Assign [.Name y py] (.ListComp elt [⟨tg, iter, ifs, 0⟩] scope pos) spos) (tAsg (tLc wi g (tt X.s_0 X.H_0 0 [] []) (te X.s_0 X.H_0 0 [] []) (own.map (·.2))) (gName i)) :=
  ps_setLc hc hN hy hyl hsw hi ok hg (fun s H C cl fp => by rw [← ht0 s H C cl fp]; exact ht s H C cl fp) (fun s H C cl fp => by rw [← he0 s H C cl fp]; exact he s H C cl fp) hs
end
def kLc (g : TG) (tt : TT) (te : TE) (vs : List Nat) (σ : L2.St) : It → Hp → VK → Prop := fun J H1 Q => ∀ D, H1 D = none → ∃ W : Nat → Nat → Hp → Prop, (∃ m, W 0 m (upd H1 D (.lst []))) ∧ ∀ i m H, W i m H →
  (J.stop i H ∧ Q (.ref D) H) ∨ (J.go i H ∧ ∃ Nx : Hp → Prop, (∀ H', Nx H' → ∃ m', m' < m ∧ W (i + 1) m' H') ∧ ∀ x H', J.yld i H x H' → g x (wipe σ vs) H' fun σ2 H2 => wipe σ2 vs = wipe σ vs ∧ tt σ2 H2 fun b H3 =>
    if b = true then te σ2 H3 fun y H4 => ∃ acc, H4 D = some (.lst acc) ∧ acc.length < sizeLine ∧ Nx (upd H4 D (.lst (acc ++ [y]))) else Nx H3)
section
variable {K : PySem.W.Frag} {σ : L2.St} {H H1 : Hp} {Q : VK} {wi : TI} {g : TG} {tt : TT} {te : TE} {vs : List Nat} {n : Nat} {lo : Int} {a : Addr} {xs : List V}
theorem w_lc (h : wi σ H fun J H1 => kLc g tt te vs σ J H1 Q) : tLc wi g tt te vs σ H Q := h
/-- the item y goes onto the list at D -/
def rApp (D : Addr) (Nx : Hp → Prop) (y : V) (H4 : Hp) : Prop := ∃ acc, H4 D = some (.lst acc) ∧ acc.length < sizeLine ∧ Nx (upd H4 D (.lst (acc ++ [y])))
/-- behind i turns -/
def kNx (D : Addr) (Pv : Addr → Nat → List V → Hp → Prop) (i : Nat) (H : Hp) : Prop := ∃ acc, acc.length ≤ i ∧ H D = some (.lst acc) ∧ Pv D i acc H
theorem w_rApp {D : Addr} {Pv : Addr → Nat → List V → Hp → Prop} {i : Nat} {y : V} {acc : List V} (h : H D = some (.lst acc)) (hl : acc.length ≤ i) (hi : i < 100000) (k : ∀ H5, Gr [D] H H5 → H5 D = some (.lst (acc ++ [y])) → Pv D (i + 1) (acc ++ [y]) H5) : rApp D (kNx D Pv (i + 1)) y H :=
  ⟨acc, h, smallLt (by omega), acc ++ [y], by simp; omega, upd_same, k _ (Gr.wr h) upd_same⟩
def kIf (b : Bool) (A B : Prop) : Prop := if b = true then A else B
def kTrn (g : TG) (tt : TT) (te : TE) (vs : List Nat) (σ : L2.St) (D : Addr) (Nx : Hp → Prop) (x : V) (H : Hp) : Prop := g x (wipe σ vs) H fun σ2 H2 => wipe σ2 vs = wipe σ vs ∧ tt σ2 H2 fun b H3 => kIf b (te σ2 H3 (rApp D Nx)) (Nx H3)
/-- without a test -/
theorem w_trn {D : Addr} {Nx : Hp → Prop} {x : V} (h : g x (wipe σ vs) H fun σ2 H2 => wipe σ2 vs = wipe σ vs ∧ te σ2 H2 (rApp D Nx)) : kTrn g tYes te vs σ D Nx x H := h
theorem k_lcRng (Pv : Addr → Nat → List V → Hp → Prop) (h0 : ∀ D H2, H1 D = none → Gr [] H1 H2 → H2 D = some (.lst []) → Pv D 0 [] H2)
    (hs : ∀ D i acc H2, H1 D = none → i < n → acc.length ≤ i → H2 D = some (.lst acc) → Pv D i acc H2 → kTrn g tt te vs σ D (kNx D Pv (i + 1)) (.int (lo + i)) H2)
    (hd : ∀ D acc H2, H1 D = none → acc.length ≤ n → H2 D = some (.lst acc) → Pv D n acc H2 → Q (.ref D) H2) : kLc g tt te vs σ (Itr lo n) H1 Q := fun D hD =>
  lc_range (kNx D Pv) ⟨[], Nat.zero_le _, upd_same, h0 D _ hD (Gr.new hD) upd_same⟩ (fun i H hi ⟨acc, hl, ha, hp⟩ => hs D i acc H hD hi hl ha hp) fun H ⟨acc, hl, ha, hp⟩ => hd D acc H hD hl ha hp
theorem k_lcLst (Pv : Addr → Nat → List V → Hp → Prop) (h0 : ∀ D H2, H1 D = none → Gr [] H1 H2 → H2 D = some (.lst []) → Pv D 0 [] H2)
    (hl : ∀ D i acc H2, H1 D = none → i ≤ xs.length → H2 D = some (.lst acc) → Pv D i acc H2 → SqL K H2 a xs)
    (hs : ∀ D i x acc H2, H1 D = none → xs[i]? = some x → acc.length ≤ i → H2 D = some (.lst acc) → Pv D i acc H2 → kTrn g tt te vs σ D (kNx D Pv (i + 1)) x H2)
    (hd : ∀ D acc H2, H1 D = none → acc.length ≤ xs.length → H2 D = some (.lst acc) → Pv D xs.length acc H2 → Q (.ref D) H2) : kLc g tt te vs σ (Itl K a) H1 Q := fun D hD =>
  lc_list (kNx D Pv) ⟨[], Nat.zero_le _, upd_same, h0 D _ hD (Gr.new hD) upd_same⟩ (fun i H hi ⟨acc, _, ha, hp⟩ => hl D i acc H hD hi ha hp) (fun i x H hi ⟨acc, hl, ha, hp⟩ => hs D i x acc H hD hi hl ha hp) fun H ⟨acc, hl, ha, hp⟩ => hd D acc H hD hl ha hp
theorem k_lcTup (Pv : Addr → Nat → List V → Hp → Prop) (h0 : ∀ D H2, H1 D = none → Gr [] H1 H2 → H2 D = some (.lst []) → Pv D 0 [] H2)
    (hl : ∀ D i acc H2, H1 D = none → i ≤ xs.length → H2 D = some (.lst acc) → Pv D i acc H2 → SqT K H2 a xs)
    (hs : ∀ D i x acc H2, H1 D = none → xs[i]? = some x → acc.length ≤ i → H2 D = some (.lst acc) → Pv D i acc H2 → kTrn g tt te vs σ D (kNx D Pv (i + 1)) x H2)
    (hd : ∀ D acc H2, H1 D = none → acc.length ≤ xs.length → H2 D = some (.lst acc) → Pv D xs.length acc H2 → Q (.ref D) H2) : kLc g tt te vs σ (Itt K a) H1 Q := fun D hD =>
  lc_tup (kNx D Pv) ⟨[], Nat.zero_le _, upd_same, h0 D _ hD (Gr.new hD) upd_same⟩ (fun i H hi ⟨acc, _, ha, hp⟩ => hl D i acc H hD hi ha hp) (fun i x H hi ⟨acc, hl, ha, hp⟩ => hs D i x acc H hD hi hl ha hp) fun H ⟨acc, hl, ha, hp⟩ => hd D acc H hD hl ha hp
/-- every item by itself, nothing else written -/
def pvM (H1 : Hp) (f : Nat → V) : Addr → Nat → List V → Hp → Prop := fun D i acc H2 => Gr [] H1 H2 ∧ acc = (List.range i).map f
theorem pvM_step {f : Nat → V} {D : Addr} {i : Nat} {y : V} {acc : List V} {H2 H4 : Hp} (hD : H1 D = none) (hd : H2 D = some (.lst acc)) (hl : acc.length ≤ i) (hi : i < 100000) (p : pvM H1 f D i acc H2) (g : Gr [] H2 H4) (e : y = f i) : rApp D (kNx D (pvM H1 f) (i + 1)) y H4 :=
  w_rApp (g.get0 hd) hl hi fun H5 g5 h5 => ⟨(p.1.trans0 g).transN g5 hD, by rw [p.2, e, List.range_succ, List.map_append] <;> rfl⟩
theorem k_lcRngM (f : Nat → V) (hn : n ≤ 100000) (hs : ∀ D i H2, i < n → Gr [] H1 H2 → (∀ y H4, Gr [] H2 H4 → y = f i → rApp D (kNx D (pvM H1 f) (i + 1)) y H4) → kTrn g tt te vs σ D (kNx D (pvM H1 f) (i + 1)) (.int (lo + i)) H2)
    (hd : ∀ D H2, H1 D = none → Gr [] H1 H2 → H2 D = some (.lst ((List.range n).map f)) → Q (.ref D) H2) : kLc g tt te vs σ (Itr lo n) H1 Q :=
  k_lcRng (pvM H1 f) (fun D H2 _ g _ => ⟨g, rfl⟩) (fun D i acc H2 hD hi hl ha p => hs D i H2 hi p.1 fun y H4 g e => pvM_step hD ha hl (by omega) p g e) fun D acc H2 hD _ ha p => hd D H2 hD p.1 (by rw [ha, p.2])
theorem k_lcTupM (f : Nat → V) (hn : xs.length ≤ 100000) (hx : SqT K H1 a xs) (hs : ∀ D i x H2, xs[i]? = some x → i < xs.length → Gr [] H1 H2 → (∀ y H4, Gr [] H2 H4 → y = f i → rApp D (kNx D (pvM H1 f) (i + 1)) y H4) → kTrn g tt te vs σ D (kNx D (pvM H1 f) (i + 1)) x H2)
    (hd : ∀ D H2, H1 D = none → Gr [] H1 H2 → H2 D = some (.lst ((List.range xs.length).map f)) → Q (.ref D) H2) : kLc g tt te vs σ (Itt K a) H1 Q :=
  k_lcTup (pvM H1 f) (fun D H2 _ g _ => ⟨g, rfl⟩) (fun D i acc H2 _ _ _ p => p.1.sqt hx) (fun D i x acc H2 hD hx hl ha p => hs D i x H2 hx (List.getElem?_eq_some_iff.mp hx).1 p.1 fun y H4 g e => pvM_step hD ha hl (by have := (List.getElem?_eq_some_iff.mp hx).1; omega) p g e) fun D acc H2 hD _ ha p => hd D H2 hD p.1 (by rw [ha, p.2])
theorem k_lcLstM (f : Nat → V) (hn : xs.length ≤ 100000) (hx : SqL K H1 a xs) (hs : ∀ D i x H2, xs[i]? = some x → i < xs.length → Gr [] H1 H2 → (∀ y H4, Gr [] H2 H4 → y = f i → rApp D (kNx D (pvM H1 f) (i + 1)) y H4) → kTrn g tt te vs σ D (kNx D (pvM H1 f) (i + 1)) x H2)
    (hd : ∀ D H2, H1 D = none → Gr [] H1 H2 → H2 D = some (.lst ((List.range xs.length).map f)) → Q (.ref D) H2) : kLc g tt te vs σ (Itl K a) H1 Q :=
  k_lcLst (pvM H1 f) (fun D H2 _ g _ => ⟨g, rfl⟩) (fun D i acc H2 _ _ _ p => p.1.sql0 hx) (fun D i x acc H2 hD hx hl ha p => hs D i x H2 hx (List.getElem?_eq_some_iff.mp hx).1 p.1 fun y H4 g e => pvM_step hD ha hl (by have := (List.getElem?_eq_some_iff.mp hx).1; omega) p g e) fun D acc H2 hD _ ha p => hd D H2 hD p.1 (by rw [ha, p.2])
theorem range_getD {α β : Type} (xs : List α) (d : α) (f : α → β) : ((List.range xs.length).map fun i => f (xs.getD i d)) = xs.map f := by
  refine List.ext_getElem? fun i => ?_
  rw [List.getElem?_map, List.getElem?_map]
  by_cases hi : i < xs.length
  · rw [List.getElem?_range hi, List.getElem?_eq_getElem hi]
    show some (f (xs.getD i d)) = some (f _)
    rw [List.getD_eq_getElem?_getD, List.getElem?_eq_getElem hi] <;> rfl
  · rw [List.getElem?_eq_none (by rw [List.length_range]; omega), List.getElem?_eq_none (by omega)] <;> rfl
theorem int_get {ns : List Int} {i : Nat} {x : V} (h : (ns.map V.int)[i]? = some x) : ∃ y, ns[i]? = some y ∧ x = .int y := by
  rw [List.getElem?_map] at h
  obtain ⟨y, hy, e⟩ := Option.map_eq_some_iff.mp h
  exact ⟨y, hy, e.symm⟩
/-- over ints, each by itself -/
theorem k_lcTupI {ns : List Int} (f : Int → V) (hn : ns.length ≤ 100000) (hx : SqT K H1 a (ns.map V.int)) (hs : ∀ D i y H2, ns[i]? = some y → i < ns.length → Gr [] H1 H2 → (∀ z H4, Gr [] H2 H4 → z = f y → rApp D (kNx D (pvM H1 (fun i => f (ns.getD i 0))) (i + 1)) z H4) → kTrn g tt te vs σ D (kNx D (pvM H1 (fun i => f (ns.getD i 0))) (i + 1)) (.int y) H2)
    (hd : ∀ D H2, H1 D = none → Gr [] H1 H2 → H2 D = some (.lst (ns.map f)) → Q (.ref D) H2) : kLc g tt te vs σ (Itt K a) H1 Q :=
  k_lcTupM (xs := ns.map V.int) (fun i => f (ns.getD i 0)) (by rw [List.length_map]; exact hn) hx (fun D i x H2 hx hi gr hk => by
    obtain ⟨y, hy, rfl⟩ := int_get hx
    have eg : ns.getD i 0 = y := by rw [List.getD_eq_getElem?_getD, hy] <;> rfl
    exact hs D i y H2 hy (by rw [List.length_map] at hi; exact hi) gr fun z H4 g4 e => hk z H4 g4 (by rw [e, eg])) fun D H2 n2 g2 h2 => hd D H2 n2 g2 (by rw [h2, List.length_map, range_getD ns 0 f])
theorem k_lcLstI {ns : List Int} (f : Int → V) (hn : ns.length ≤ 100000) (hx : SqL K H1 a (ns.map V.int)) (hs : ∀ D i y H2, ns[i]? = some y → i < ns.length → Gr [] H1 H2 → (∀ z H4, Gr [] H2 H4 → z = f y → rApp D (kNx D (pvM H1 (fun i => f (ns.getD i 0))) (i + 1)) z H4) → kTrn g tt te vs σ D (kNx D (pvM H1 (fun i => f (ns.getD i 0))) (i + 1)) (.int y) H2)
    (hd : ∀ D H2, H1 D = none → Gr [] H1 H2 → H2 D = some (.lst (ns.map f)) → Q (.ref D) H2) : kLc g tt te vs σ (Itl K a) H1 Q :=
  k_lcLstM (xs := ns.map V.int) (fun i => f (ns.getD i 0)) (by rw [List.length_map]; exact hn) hx (fun D i x H2 hx hi gr hk => by
    obtain ⟨y, hy, rfl⟩ := int_get hx
    have eg : ns.getD i 0 = y := by rw [List.getD_eq_getElem?_getD, hy] <;> rfl
    exact hs D i y H2 hy (by rw [List.length_map] at hi; exact hi) gr fun z H4 g4 e => hk z H4 g4 (by rw [e, eg])) fun D H2 n2 g2 h2 => hd D H2 n2 g2 (by rw [h2, List.length_map, range_getD ns 0 f])
end
end LW

namespace LW
open PySem PySem.Spec PyProof.Rows L2

/-! ### numberings, plain -/
theorem eraseIdx_mapL {α β : Type} (f : α → β) : ∀ (l : List α) (i : Nat), (l.map f).eraseIdx i = (l.eraseIdx i).map f
  | [], _ => rfl
  | _ :: _, 0 => rfl
  | a :: l, i + 1 => congrArg (f a :: ·) (eraseIdx_mapL f l i)
theorem eraseIdx_permL {α : Type} : ∀ {l : List α} {i : Nat} {v : α}, l[i]? = some v → (v :: l.eraseIdx i).Perm l
  | [], _, _, h => by simp at h
  | a :: l, 0, v, h => by
    have e : a = v := by simpa using h
    subst e
    exact .refl _
  | a :: l, i + 1, v, h => by
    have h : l[i]? = some v := by simpa using h
    exact (List.Perm.swap a v _).trans ((eraseIdx_permL h).cons a)
theorem nodup_part {α : Type} [BEq α] [LawfulBEq α] : ∀ {l m : List α}, l.Nodup → (∀ x ∈ l, x ∈ m) → ∃ r, m.Perm (l ++ r)
  | [], m, _, _ => ⟨m, .refl _⟩
  | a :: l, m, hn, hs => by
    obtain ⟨ha, hn⟩ := List.nodup_cons.mp hn
    have h1 : m.Perm (a :: m.erase a) := List.perm_cons_erase (hs a List.mem_cons_self)
    obtain ⟨r, hr⟩ := nodup_part (m := m.erase a) hn fun x hx => by
      have hm := hs x (List.mem_cons_of_mem _ hx)
      have hne : x ≠ a := fun e => ha (e ▸ hx)
      exact (List.mem_erase_of_ne hne).mpr hm
    exact ⟨r, h1.trans (hr.cons a)⟩
theorem perm_of {α : Type} [BEq α] [LawfulBEq α] {l m : List α} (hn : l.Nodup) (hs : ∀ x ∈ l, x ∈ m) (hl : m.length ≤ l.length) : l.Perm m := by
  obtain ⟨r, hr⟩ := nodup_part hn hs
  have e := hr.length_eq
  rw [List.length_append] at e
  have : r = [] := List.eq_nil_of_length_eq_zero (by omega)
  rw [this, List.append_nil] at hr
  exact hr.symm
theorem mem_rg {n : Nat} {x : Int} : x ∈ rg n ↔ 0 ≤ x ∧ x < n := by
  unfold rg
  rw [List.mem_map]
  refine ⟨fun ⟨i, hi, e⟩ => ?_, fun ⟨h0, h1⟩ => ⟨x.toNat, List.mem_range.mpr (by omega), by omega⟩⟩
  have := List.mem_range.mp hi
  omega
theorem length_rg (n : Nat) : (rg n).length = n := by unfold rg; rw [List.length_map, List.length_range]
theorem nodup_rg (n : Nat) : (rg n).Nodup := by
  unfold rg
  exact List.Pairwise.map _ (fun a b h e => h (by omega)) List.nodup_range
theorem sorted_rg (n : Nat) : (rg n).Pairwise (· ≤ ·) := by
  unfold rg
  refine List.Pairwise.map _ (fun a b h => ?_) (List.pairwise_lt_range (n := n))
  exact Int.ofNat_le.mpr (Nat.le_of_lt h)
theorem rg_get {n i : Nat} (h : i < n) : (rg n)[i]? = some (i : Int) := by
  unfold rg
  simp [h]
/-- each of 0 .. length - 1 once, 1 to 12 of them -/
def IsNum (ps : List Int) : Prop := 1 ≤ ps.length ∧ ps.length ≤ 12 ∧ ps.Perm (rg ps.length)
section
variable {ps qs : List Int} {n : Nat}
theorem IsNum.of (h1 : 1 ≤ n) (h2 : n ≤ 12) (hl : ps.length = n) (hn : ps.Nodup) (hb : ∀ x ∈ ps, 0 ≤ x ∧ x < n) : IsNum ps := by
  subst hl
  exact ⟨h1, h2, perm_of hn (fun x hx => mem_rg.mpr (hb x hx)) (by rw [length_rg]; omega)⟩
theorem IsNum.nodup (h : IsNum ps) : ps.Nodup := h.2.2.symm.nodup (nodup_rg _)
theorem IsNum.mem (h : IsNum ps) {x : Int} : x ∈ ps ↔ 0 ≤ x ∧ x < ps.length := by rw [h.2.2.mem_iff]; exact mem_rg
theorem IsNum.get (h : IsNum ps) {i : Nat} {x : Int} (e : ps[i]? = some x) : 0 ≤ x ∧ x < ps.length := h.mem.mp (List.mem_of_getElem? e)
theorem isNum_rg (h1 : 1 ≤ n) (h2 : n ≤ 12) : IsNum (rg n) := .of h1 h2 (length_rg n) (nodup_rg n) fun _ hx => mem_rg.mp hx
/-- sorted is 0, 1, .. -/
theorem sorted_iff {ns : List Int} (h : ns.Perm ps) (hs : ns.Pairwise (· ≤ ·)) : ns = rg ps.length ↔ ps.Perm (rg ps.length) := by
  refine ⟨fun e => e ▸ h.symm, fun p => ?_⟩
  exact List.Perm.eq_of_pairwise (le := (· ≤ ·)) (fun a b _ _ h1 h2 => Int.le_antisymm h1 h2) hs (sorted_rg _) (h.trans p)
end

/-! ### sorted, a list or a tuple of ints -/
def rSortedA (K : PySem.W.Frag) : List V → Hp → VK → Prop := fun vs H Q => ∃ (a : Addr) (ns : List Int), vs = [V.ref a] ∧ (SqL K H a (ns.map V.int) ∨ SqT K H a (ns.map V.int)) ∧ ns.length < 64 ∧
  ∀ (ns' : List Int) (p : Addr), ns'.Perm ns → ns'.Pairwise (· ≤ ·) → H p = none → Q (.ref p) (upd H p (.lst (ns'.map V.int)))
section
variable {prog : Program} {w : World} {A : Around} {s : Shared} {E : Value → Shared → Prop}
theorem sorted_any {a : Addr} {T : String} {o : Obj} {n : Nat} {vs : List Value} {ns : List Int} {Q : Value → Shared → Prop} (hT : T = "list" ∨ T = "tuple") (ho : s.heap.get? a = some o) (hc : o.cls = .type T) (hd : o.data = .seq vs.toArray n) (hI : IntsAre vs ns) (h64 : vs.length < 64)
    (h : ∀ (h' h2 : Heap) (out : Array Value) (e : Nat) (ns' : List Int), (∀ b o', s.heap.get? b = some o' → h'.get? b = some o') → (∀ b o', h'.get? b = some o' → h2.get? b = some o') → h2.get? h'.objs.size = some (seqObj "list" out e) → IntsAre out.toList ns' → ns'.Perm ns → ns'.Pairwise (· ≤ ·) → Q (.ref h'.objs.size) { s with heap := h2 }) :
    wpAny (model prog w) A (call (.builtin "sorted") [.ref a]) Q E s := by
  refine Calls.call_function_entry kind_sorted plain_sorted entry_sorted (args_sorted1 _) ?_
  unfold Builtin.«sorted»
  refine wpAny_bind (m := checkCount "sorted" 1 1 _) (wpAny_pure ?_)
  refine wpAny_bind (wpAny_collect_seq a hT ho hc hd (fun h' hk => ?_) (by show vs.length ≤ sizeLine; rw [sizeLine_eq]; omega))
  refine wpAny_bind (wpAny_newList ?_)
  have e1 : vs.toArray.toList = vs := by simp
  rw [e1]
  have hoL : (h'.push (seqObj "list" vs.toArray 0)).get? h'.objs.size = some (seqObj "list" vs.toArray 0) := Heap.get?_push_size _ rfl
  refine wpAny_bind (wpAny_holding (wpAny_call_entry slot_list_sort ⟨_, hoL, rfl⟩ entry_list_sort (list_sort_tree hoL hI h64 fun out ns' a1 a2 a3 => ⟨_, rfl, ?_⟩) (args_list_sort _)))
  obtain ⟨e, he⟩ := sortedHeap_at (vs := vs) (out := out) (n := 0) hoL
  refine wpAny_pure ⟨_, rfl, h h' _ out e ns' hk (fun b o' q => ?_) he a1 a2 a3⟩
  have lt := Heap.lt_size q
  rw [sortedHeap_old (Nat.ne_of_lt lt) (by show b < (h'.push _).objs.size; rw [size_push']; exact Nat.lt_succ_of_lt lt)]
  exact Heap.get?_push_of_some _ q
end
theorem cr_sortedA {X : Cx} : CallR X (.builtin "sorted") (rSortedA X.K) := by
  intro pins s σ H vs us Q I r h
  obtain ⟨a, ns, rfl, hs, h64, q⟩ := h
  obtain ⟨u, rfl, ru⟩ := r.one
  cases (show u = Value.ref a from ru)
  have fin : ∀ {T : String} {o : Obj} {n : Nat} {its : List Value}, (T = "list" ∨ T = "tuple") → s.heap.get? a = some o → o.cls = .type T → o.data = .seq its.toArray n → Vals (ns.map V.int) its → wpAny (model X.prog X.w) X.A (call (.builtin "sorted") [.ref a]) (EP X pins σ Q) X.xe s := fun {T o n its} hT ho hc hd rv => by
    have hi := rv.ints
    refine sorted_any hT ho hc hd hi (by rw [hi.length]; exact h64) fun h' h2 out e ns' hk hk2 he h1 h2' h3 => ?_
    have I1 : Inv X pins σ H { s with heap := h' } := I.kept (t' := s.toks) hk
    have hlen : (ns'.map V.int).length ≤ sizeLine := by rw [List.length_map, h2'.length_eq]; exact small (by omega)
    exact ⟨.ref _, upd H h'.objs.size (.lst (ns'.map V.int)), I1.laid (t' := s.toks) hk2 (Nat.le_refl _) ⟨hlen, out.toList, e, vals_of_ints h1, he⟩, rfl, q ns' _ h2' h3 (I1.hok.fresh (Nat.le_refl _))⟩
  rcases hs with hs | hs
  · obtain ⟨its, rv, hl, _⟩ := I.list hs
    obtain ⟨o, ho, hc, n, hd⟩ := hl.isList
    exact fin (.inl rfl) ho hc hd rv
  · obtain ⟨its, rv, ⟨o, ho, hc, n, hd⟩, _⟩ := I.tuple hs
    exact fin (.inr rfl) ho hc hd rv
theorem w_sorted {K : PySem.W.Frag} {H : Hp} {Q : VK} {a : Addr} {ns : List Int} (h : SqL K H a (ns.map V.int) ∨ SqT K H a (ns.map V.int)) (hl : ns.length < 64)
    (k : ∀ (ns' : List Int) p H', H p = none → Gr [] H H' → H' p = some (.lst (ns'.map V.int)) → ns'.Perm ns → ns'.Pairwise (· ≤ ·) → Q (.ref p) H') : rSortedA K [.ref a] H Q :=
  ⟨a, ns, rfl, h, hl, fun ns' p hp hs h0 => k ns' p _ h0 (Gr.new h0) upd_same hp hs⟩

/-- t.index(x): the first place of x, t a tuple of ints -/
def rIndexT (K : PySem.W.Frag) : V → List V → Hp → VK → Prop := fun x xs H Q => ∃ (p : Addr) (ns : List Int) (z : Int), x = .ref p ∧ xs = [.int z] ∧ SqT K H p (ns.map V.int) ∧ z ∈ ns ∧ Q (.int (ns.idxOf z : Nat)) H
theorem flat_ints (ns : List Int) : (ns.map V.int).all flatV = true := by
  rw [List.all_map]
  exact List.all_eq_true.mpr fun _ _ => rfl
theorem mt_tindex {X : Cx} : MtR X "tuple.index" (rIndexT X.K) := by
  intro pins s σ H x xs v us Q I rx rs h
  obtain ⟨p, ns, z, rfl, rfl, hq, hz, q⟩ := h
  cases rx
  obtain ⟨u, rfl, t, rfl⟩ := vals1 rs
  obtain ⟨its, r, ⟨⟨cls, dd, dt, sl⟩, ho, hc, n, hd⟩, hzz⟩ := I.tuple hq
  simp only at hc hd
  subst hc hd
  have hl : its.toArray.size = ns.length := by rw [List.size_toArray, ← r.length, List.length_map]
  have at' : ∀ (m : Nat) (hm : m < its.toArray.size), ∃ (y : Int) (t' : Tok), ns[m]? = some y ∧ its.toArray[m] = Value.int y t' := fun m hm => by
    have hm' : m < ns.length := by rw [← hl]; exact hm
    obtain ⟨w, hw, t', hw'⟩ := r.get (i := m) (x := .int ns[m]) (by simp [hm'])
    refine ⟨ns[m], t', List.getElem?_eq_getElem hm', ?_⟩
    have e := (List.getElem?_eq_some_iff.mp hw).2
    rw [← hw', ← e]
    simp
  have hj0 : ns.idxOf z < ns.length := List.idxOf_lt_length_of_mem hz
  have hj : ns.idxOf z < its.toArray.size := by rw [hl]; exact hj0
  refine call_meets PySem.F.slot_tuple_index ⟨_, ho, rfl⟩ PySem.F.entry_tuple_index (PySem.F.args_tuple_index_2 _ _) (TI.tuple_indexAt p its.toArray n dd sl (.int z t) (eqU (.int z)) (ns.idxOf z) hj ?_ ?_)
    ⟨ho, fun w hw => mem_eqAt (x := .int z) ⟨t, rfl⟩ rfl r (flat_ints ns) w (by simpa using hw), ⟨.int (ns.idxOf z : Nat), H, I.tok _, ⟨_, rfl⟩, q⟩⟩
  · obtain ⟨y, t', h1, h2⟩ := at' _ hj
    rw [List.getElem?_eq_getElem hj0, List.getElem_idxOf hj0] at h1
    cases h1
    rw [h2]
    show (z == z) = true
    exact beq_self_eq_true z
  · intro m hm hmj
    obtain ⟨y, t', h1, h2⟩ := at' m hm
    rw [h2]
    show (y == z) = false
    refine beq_eq_false_iff_ne.mpr fun e => ?_
    subst e
    have z1 := List.not_of_lt_findIdx (xs := ns) (p := (· == y)) (i := m) hmj
    obtain ⟨hml, hme⟩ := List.getElem?_eq_some_iff.mp h1
    exact absurd (beq_iff_eq.mpr hme) (by simpa using z1)
theorem w_indexT {K : PySem.W.Frag} {H : Hp} {Q : VK} {p : Addr} {ns : List Int} {z : Int} (h : SqT K H p (ns.map V.int)) (hz : z ∈ ns) (q : Q (.int (ns.idxOf z : Nat)) H) : rIndexT K (.ref p) [.int z] H Q := ⟨p, ns, z, rfl, rfl, h, hz, q⟩
/-- a method of such a tuple -/
def kTupX (x : V) (H : Hp) (P : Prop) : Prop := (∃ p ys, x = .ref p ∧ TupX H p ys) ∧ P
def tBMX (r : V → List V → Hp → VK → Prop) (to : TE) (t : TA) : TE := fun σ H Q => to σ H fun x H1 => kTupX x H1 (t σ H1 fun xs H2 => r x xs H2 Q)
theorem pe_bmX {X : Cx} {o e : Expr} {es : List Expr} {to : TE} {t : TA} {name : Str} {apos cpos : Pos} {id : String} {r : V → List V → Hp → VK → Prop} (slot : Slot "tuple" name id) (hty : typeOf (.builtin id) = pure (.type "method_descriptor")) (hm : MtR X id r) (ho : PE X o to) (ha : PA X (e :: es) t)
    (hbase : attributeBase o name X.env (eval o X.env) = eval o X.env := by rfl)
    (hfew : ((backTo cpos (starEach (e :: es) X.env)).all (fun x => !x.1) && (backToKw cpos (keywordEach [] X.env)).all (fun x => x.1.isSome)
      && decide ((e :: es).length + ([] : List Keyword).length + (if ([] : List Keyword).isEmpty then 0 else 1) < 30)) = true := by rfl)
    (hline : (apos.endLine == cpos.line) = true := by rfl) (hs : starEach (e :: es) X.env = (false, eval e X.env) :: starEach es X.env := by rfl) (hplain : (backTo cpos (starEach es X.env)).any (·.1) = false := by rfl) :
    PE X (.Call (.Attribute o name apos) (e :: es) [] cpos) (tBMX r to t) := by
  refine ⟨fun pins s σ H Q I h => ?_⟩
  refine wpAny_Call_method_late hbase hfew hline rfl (thn (ho.run pins s σ H _ I h) fun v s1 ⟨x, H1, I1, r1, ⟨p, ys, ex, ob, ep, hd⟩, q1⟩ => ?_)
  subst ex
  cases (show v = Value.ref p from r1)
  obtain ⟨g1, _, its, rv, o2, g2, g3, n, g4⟩ := (show ObjOk X.prog X.w H1 s1.heap p (.frz ob (.tup ys)) from I1.hok p _ ep)
  have e2 : o2 = ob := Option.some.inj (g2.symm.trans g1)
  subst e2
  refine ⟨"tuple", id, PySem.F.plainAttrs_tuple, slot, hty, ⟨_, g1, g3⟩, fun a e => ?_, ?_⟩
  · cases e
    exact ⟨_, g1, hd⟩
  have hA := ha.run cpos pins s1 σ H1 _ I1 q1
  rw [hs] at hA ⊢
  refine Calls.callWith_builtin (by show (false || (backTo cpos (starEach es X.env)).any (·.1)) = false; rw [hplain] <;> rfl) (Calls.evalArgs_plain ?_)
  exact thn hA fun us s2 ⟨vs, H2, I2, r2, q2⟩ => hm pins s2 σ H2 (.ref p) vs (.ref p) us Q I2 rfl r2 q2
theorem w_bmX {r : V → List V → Hp → VK → Prop} {to : TE} {t : TA} {σ : L2.St} {H : Hp} {Q : VK} (h : to σ H fun x H1 => kTupX x H1 (t σ H1 fun xs H2 => r x xs H2 Q)) : tBMX r to t σ H Q := h
theorem w_kTupX {p : Addr} {ys : List V} {H : Hp} {P : Prop} (h0 : TupX H p ys) (h : P) : kTupX (.ref p) H P := ⟨⟨p, ys, rfl, h0⟩, h⟩

theorem w_indexL {K : PySem.W.Frag} {H : Hp} {Q : VK} {p : Addr} {ns : List Int} {z : Int} (h : SqL K H p (ns.map V.int)) (hz : z ∈ ns) (q : Q (.int (ns.idxOf z : Nat)) H) : rIndex K (.ref p) [.int z] H Q := by
  have hj := List.idxOf_lt_length_of_mem hz
  refine ⟨p, ns.map V.int, .int z, ns.idxOf z, .int z, rfl, rfl, h, rfl, flat_ints ns, by rw [List.getElem?_map, List.getElem?_eq_getElem hj, List.getElem_idxOf hj] <;> rfl, by show (z == z) = true; exact beq_self_eq_true z, fun m z' hm hz' => ?_, q⟩
  obtain ⟨y, hy, rfl⟩ := int_get hz'
  obtain ⟨hml, hme⟩ := List.getElem?_eq_some_iff.mp hy
  have z1 := List.not_of_lt_findIdx (xs := ns) (p := (· == z)) (i := m) hm
  show (y == z) = false
  rw [← hme]
  simpa using z1
/-! ### numberings in the heap -/
abbrev NC (K : PySem.W.Frag) : Addr := He.ga K "Numbering"
structure NumC (K : PySem.W.Frag) : Prop where
  cls : Cls K (NC K)
  na : NoAttr K (NC K) "places"
def Num (K : PySem.W.Frag) (H : Hp) (a : Addr) (ps : List Int) : Prop := IsNum ps ∧ ∃ dx t, H a = some (.ins (NC K) dx [("places", .ref t)]) ∧ TupX H t (ps.map V.int)
section
variable {K : PySem.W.Frag} {H H' H1 : Hp} {Q : VK} {E : XK} {a x p : Addr} {ps ns : List Int} {S : List Addr}
theorem Num.gr (h : Num K H a ps) (g : Gr S H H') : Num K H' a ps := by
  obtain ⟨h0, dx, t, h1, h2⟩ := h
  exact ⟨h0, dx, t, g.get h1 rfl, h2.gr g⟩
theorem Num.ins (h : Num K H a ps) : ∃ dx fs, H a = some (.ins (NC K) dx fs) := by
  obtain ⟨_, dx, t, h1, _⟩ := h
  exact ⟨_, _, h1⟩
theorem w_places (c : NumC K) (h : Num K H a ps) (q : ∀ t, TupX H t (ps.map V.int) → Q (.ref t) H) : rFld K "places" (.ref a) H Q := by
  obtain ⟨_, dx, t, h1, h2⟩ := h
  exact w_rFld h1 c.cls c.na rfl (q t h2)
theorem Gr.made {dx C : Addr} (hx : H x = none) (hd : H dx = none) : Gr [] H (mkHp H x dx C) := ⟨fun b u e _ => by
    unfold mkHp
    rw [upd_ne (ne_of_none e hx), upd_ne (ne_of_none e hd)]
    exact e, fun _ m => by cases m⟩
/-- Numbering.__init__ -/
def sp_Numbering___init__ (K : PySem.W.Frag) : Sp := fun vs H Q E => ∃ (x dx p : Addr) (ns : List Int), vs = [.ref x, .ref p] ∧ H x = some (.ins (NC K) dx []) ∧ (SqL K H p (ns.map V.int) ∨ TupX H p (ns.map V.int)) ∧
  ((¬ IsNum ns ∧ ∀ H', Gr [] H H' → E (.ref (He.ga K "BadNumbering")) none H') ∨ (IsNum ns ∧ ∀ t H', Gr [x] H H' → H' x = some (.ins (NC K) dx [("places", .ref t)]) → TupX H' t (ns.map V.int) → Q .non H'))
theorem w_num (h : SqL K H p (ns.map V.int) ∨ TupX H p (ns.map V.int)) (hn : IsNum ns) (q : ∀ a H', H a = none → Gr [] H H' → Num K H' a ns → Q (.ref a) H') : kMake (NC K) (sp_Numbering___init__ K) E [.ref p] H Q := by
  intro x dx hx hd ne
  have g := Gr.made (C := NC K) hx hd
  refine ⟨x, dx, p, ns, rfl, upd_same, h.imp g.sql0 (·.gr g), .inr ⟨hn, fun t H' g' h1 h2 => ⟨rfl, q x H' hx (g.transN g' hx) ⟨hn, dx, t, h1, h2⟩⟩⟩⟩
theorem w_numBad (h : SqL K H p (ns.map V.int) ∨ TupX H p (ns.map V.int)) (hn : ¬ IsNum ns) (q : ∀ H', Gr [] H H' → E (.ref (He.ga K "BadNumbering")) none H') : kMake (NC K) (sp_Numbering___init__ K) E [.ref p] H Q := by
  intro x dx hx hd ne
  have g := Gr.made (C := NC K) hx hd
  exact ⟨x, dx, p, ns, rfl, upd_same, h.imp g.sql0 (·.gr g), .inl ⟨hn, fun H' g' => q H' (g.trans0 g')⟩⟩
/-- Numbering.turn -/
def turnP (n : Nat) (by_ : Int) : List Int := (List.range n).map fun (k : Nat) => ((k : Int) + by_) % n
theorem isNum_turn {n : Nat} {b : Int} (h1 : 1 ≤ n) (h2 : n ≤ 12) : IsNum (turnP n b) := by
  refine .of h1 h2 (by unfold turnP; rw [List.length_map, List.length_range]) ?_ fun x hx => ?_
  · unfold turnP
    refine List.pairwise_map.mpr (List.Pairwise.imp_of_mem (fun {a c} ha hc (hne : a ≠ c) e => hne ?_) List.nodup_range)
    have ha := List.mem_range.mp ha
    have hc := List.mem_range.mp hc
    have z : ((a : Int) - c) % n = 0 := by
      have := Int.emod_eq_emod_iff_emod_sub_eq_zero.mp e
      rw [show ((a : Int) + b) - (c + b) = a - c by omega] at this
      exact this
    have d : (n : Int) ∣ (a : Int) - c := Int.dvd_of_emod_eq_zero z
    obtain ⟨k, hk⟩ := d
    rcases Int.lt_trichotomy k 0 with q | q | q
    · have : (n : Int) * k ≤ n * (-1) := Int.mul_le_mul_of_nonneg_left (by omega) (by omega)
      omega
    · rw [q] at hk; omega
    · have : (n : Int) * 1 ≤ n * k := Int.mul_le_mul_of_nonneg_left (by omega) (by omega)
      omega
  · obtain ⟨k, _, rfl⟩ := List.mem_map.mp hx
    exact ⟨Int.emod_nonneg _ (by omega), Int.emod_lt_of_pos _ (by omega)⟩
def sp_Numbering_turn (K : PySem.W.Frag) : Sp := fun vs H Q E => ∃ n b : Int, vs = [.ref (NC K), .int n, .int b] ∧
  ((¬ (1 ≤ n ∧ n ≤ 12) ∧ ∀ H', Gr [] H H' → E (.ref (He.ga K "BadSize")) none H') ∨ (1 ≤ n ∧ n ≤ 12 ∧ ∀ a H', H a = none → Gr [] H H' → Num K H' a (turnP n.toNat b) → Q (.ref a) H'))
def sp_Numbering_plain (K : PySem.W.Frag) : Sp := fun vs H Q E => ∃ n : Int, vs = [.ref (NC K), .int n] ∧
  ((¬ (1 ≤ n ∧ n ≤ 12) ∧ ∀ H', Gr [] H H' → E (.ref (He.ga K "BadSize")) none H') ∨ (1 ≤ n ∧ n ≤ 12 ∧ ∀ a H', H a = none → Gr [] H H' → Num K H' a (turnP n.toNat 0) → Q (.ref a) H'))
/-- the place of k -/
def atP (ps : List Int) (k : Int) : Int := ps.getD k.toNat 0
theorem atP_at {k : Int} (h0 : 0 ≤ k) (h : k < ps.length) : atI (ps.map V.int) k = some (.int (atP ps k)) := by
  have hl : k.toNat < ps.length := by omega
  refine atI_of h0 ?_
  unfold atP
  rw [List.getElem?_map, List.getD_eq_getElem?_getD, List.getElem?_eq_getElem hl] <;> rfl
theorem atP_mem {k : Int} (h0 : 0 ≤ k) (h : k < ps.length) : atP ps k ∈ ps := by
  have hl : k.toNat < ps.length := by omega
  unfold atP
  rw [List.getD_eq_getElem?_getD, List.getElem?_eq_getElem hl]
  exact List.getElem_mem hl
/-- a place called: one that is there -/
def sp_Numbering___call__ (K : PySem.W.Frag) : Sp := fun vs H Q _ => ∃ (a : Addr) (ps : List Int) (k : Int), vs = [.ref a, .int k] ∧ Num K H a ps ∧ 0 ≤ k ∧ k < ps.length ∧ Q (.int (atP ps k)) H
/-- the product, the inverse -/
def mulP (ps qs : List Int) : List Int := qs.map (atP ps)
def sp_Numbering___mul__ (K : PySem.W.Frag) : Sp := fun vs H Q E => ∃ (a b : Addr) (ps qs : List Int), vs = [.ref a, .ref b] ∧ Num K H a ps ∧ Num K H b qs ∧
  ((ps.length ≠ qs.length ∧ ∀ H', Gr [] H H' → E (.ref (He.ga K "BadNumbering")) none H') ∨ (ps.length = qs.length ∧ ∀ c H', H c = none → Gr [] H H' → Num K H' c (mulP ps qs) → Q (.ref c) H'))
theorem atP_inj (h : IsNum ps) {i j : Int} (hi : 0 ≤ i ∧ i < ps.length) (hj : 0 ≤ j ∧ j < ps.length) (e : atP ps i = atP ps j) : i = j := by
  unfold atP at e
  have li : i.toNat < ps.length := by omega
  have lj : j.toNat < ps.length := by omega
  rw [List.getD_eq_getElem?_getD, List.getD_eq_getElem?_getD, List.getElem?_eq_getElem li, List.getElem?_eq_getElem lj] at e
  have e : ps[i.toNat] = ps[j.toNat] := e
  have z := List.pairwise_iff_getElem.mp h.nodup
  rcases Nat.lt_trichotomy i.toNat j.toNat with q | q | q
  · exact absurd e (z _ _ li lj q)
  · omega
  · exact absurd e.symm (z _ _ lj li q)
theorem isNum_mul {qs : List Int} (hp : IsNum ps) (hq : IsNum qs) (hl : ps.length = qs.length) : IsNum (mulP ps qs) := by
  refine .of hq.1 hq.2.1 (by unfold mulP; rw [List.length_map]) ?_ fun x hx => ?_
  · unfold mulP
    refine List.pairwise_map.mpr (List.Pairwise.imp_of_mem (fun {i j} hi hj (hne : i ≠ j) e => hne ?_) hq.nodup)
    have hi := hq.mem.mp hi
    have hj := hq.mem.mp hj
    exact atP_inj hp (by omega) (by omega) e
  · obtain ⟨i, hi, rfl⟩ := List.mem_map.mp hx
    have hi := hq.mem.mp hi
    rw [← hl]
    exact hp.mem.mp (atP_mem (by omega) (by omega))
def sp_Numbering___eq__ (K : PySem.W.Frag) : Sp := fun vs H Q _ => ∃ (a b : Addr) (ps qs : List Int), vs = [.ref a, .ref b] ∧ Num K H a ps ∧ Num K H b qs ∧ Q (.bl (decide (ps = qs))) H
def sp_Numbering___lt__ (K : PySem.W.Frag) : Sp := fun vs H Q _ => ∃ (a b : Addr) (ps qs : List Int), vs = [.ref a, .ref b] ∧ Num K H a ps ∧ Num K H b qs ∧ Q (.bl (HT.lexLt ps qs)) H
def sp_Numbering___len__ (K : PySem.W.Frag) : Sp := fun vs H Q _ => ∃ (a : Addr) (ps : List Int), vs = [.ref a] ∧ Num K H a ps ∧ Q (.int ps.length) H
theorem w_numOp {sp : Sp} {b : Addr} {qs : List Int} (ha : Num K H a ps) (hb : Num K H b qs) (h : sp [.ref a, .ref b] H Q E) : rBinO (NC K) sp E (.ref a) (.ref b) H Q := by
  obtain ⟨dx, fs, h1⟩ := ha.ins
  obtain ⟨dy, gs, h2⟩ := hb.ins
  exact ⟨a, dx, fs, b, dy, gs, rfl, rfl, h1, h2, h⟩
theorem w_numInv {sp : Sp} (ha : Num K H a ps) (h : sp [.ref a] H Q E) : rInvO (NC K) sp E (.ref a) H Q := by
  obtain ⟨dx, fs, h1⟩ := ha.ins
  exact ⟨a, dx, fs, rfl, h1, h⟩
theorem w_mul {b : Addr} {qs : List Int} (ha : Num K H a ps) (hb : Num K H b qs) (hl : ps.length = qs.length) (q : ∀ c H', H c = none → Gr [] H H' → Num K H' c (mulP ps qs) → Q (.ref c) H') : rBinO (NC K) (sp_Numbering___mul__ K) E (.ref a) (.ref b) H Q := w_numOp ha hb ⟨a, b, ps, qs, rfl, ha, hb, .inr ⟨hl, q⟩⟩
theorem w_numEq {b : Addr} {qs : List Int} (ha : Num K H a ps) (hb : Num K H b qs) (q : Q (.bl (decide (ps = qs))) H) : rBinO (NC K) (sp_Numbering___eq__ K) E (.ref a) (.ref b) H Q := w_numOp ha hb ⟨a, b, ps, qs, rfl, ha, hb, q⟩
theorem w_turn {m : Nat} {b : Int} (h1 : 1 ≤ m) (h2 : m ≤ 12) (q : ∀ a H', H a = none → Gr [] H H' → Num K H' a (turnP m b) → Q (.ref a) H') : sp_Numbering_turn K [.ref (NC K), .int m, .int b] H Q E := ⟨m, b, rfl, .inr ⟨by omega, by omega, by rw [Int.toNat_natCast]; exact q⟩⟩
theorem w_plain {m : Nat} (h1 : 1 ≤ m) (h2 : m ≤ 12) (q : ∀ a H', H a = none → Gr [] H H' → Num K H' a (turnP m 0) → Q (.ref a) H') : sp_Numbering_plain K [.ref (NC K), .int m] H Q E := ⟨m, rfl, .inr ⟨by omega, by omega, by rw [Int.toNat_natCast]; exact q⟩⟩
theorem length_turn (m : Nat) (b : Int) : (turnP m b).length = m := by unfold turnP; rw [List.length_map, List.length_range]
theorem turn_zero (m : Nat) : turnP m 0 = rg m := by
  unfold turnP rg
  refine List.map_congr_left fun k hk => ?_
  have := List.mem_range.mp hk
  rw [Int.add_zero]
  exact Int.emod_eq_of_lt (by omega) (by omega)
theorem turn_at {m : Nat} {b k : Int} (h0 : 0 ≤ k) (h : k < m) : atP (turnP m b) k = (k + b) % m := by
  unfold atP turnP
  rw [List.getD_eq_getElem?_getD, List.getElem?_map, List.getElem?_range (by omega)]
  show ((k.toNat : Int) + b) % m = _
  rw [Int.toNat_of_nonneg h0]
theorem mul_turn {m : Nat} (hm : 1 ≤ m) (b c : Int) : mulP (turnP m b) (turnP m c) = turnP m (b + c) := by
  have e : turnP m c = (List.range m).map fun (k : Nat) => ((k : Int) + c) % m := rfl
  unfold mulP
  rw [e, List.map_map]
  unfold turnP
  refine List.map_congr_left fun k hk => ?_
  show atP (turnP m b) (((k : Int) + c) % m) = _
  rw [turn_at (Int.emod_nonneg _ (by omega)) (Int.emod_lt_of_pos _ (by omega)), Int.emod_add_emod]
  congr 1
  omega
theorem w_isiNum {b : Bool} {D : Addr} (hk : PySem.W.kitOne K (.ref (NC K)) (.ref D) = some b) (I : IsiC K (NC K)) (h : Num K H a ps) (q : Q (.bl b) H) : rIsi K [.ref a, .ref D] H Q := by
  obtain ⟨dx, fs, h1⟩ := h.ins
  exact w_isiO I h1 hk q
theorem w_numCal {sp : Sp} {t : TA} {σ : L2.St} {E : XK} (h : t σ H fun vs H2 => (∃ dx fs, H2 a = some (.ins (NC K) dx fs)) ∧ sp (V.ref a :: vs) H2 Q E) : rCalO (NC K) sp E t σ (.ref a) H Q := ⟨a, rfl, h⟩
theorem w_place {k : Int} (h : Num K H a ps) (h0 : 0 ≤ k) (h1 : k < ps.length) (q : Q (.int (atP ps k)) H) : (∃ dx fs, H a = some (.ins (NC K) dx fs)) ∧ sp_Numbering___call__ K [.ref a, .int k] H Q E := ⟨h.ins, a, ps, k, rfl, h, h0, h1, q⟩
theorem w_numLen {ps : List Int} (h : Num K H a ps) (q : Q (.int ps.length) H) : rLenO (NC K) (sp_Numbering___len__ K) [.ref a] H Q := by
  obtain ⟨dx, fs, h1⟩ := h.ins
  have := h.1.2.1
  exact ⟨a, dx, fs, rfl, h1, a, ps, rfl, h, ps.length, rfl, by omega, by omega, q⟩
theorem mul_turnP {m : Nat} {b : Int} (hp : IsNum ps) (hl : ps.length = m) : mulP (turnP m b) ps = ps.map fun p => (p + b) % m := by
  unfold mulP
  refine List.map_congr_left fun p hp' => ?_
  have := hp.mem.mp hp'
  exact turn_at this.1 (by omega)
theorem mul_rg (hp : IsNum ps) (b : Int) (hb : b % ps.length = 0) : mulP (turnP ps.length b) ps = ps := by
  rw [mul_turnP hp rfl]
  refine (List.map_congr_left fun p hp' => ?_).trans (List.map_id ps)
  have h := hp.mem.mp hp'
  show (p + b) % ps.length = p
  rw [Int.add_emod, hb, Int.add_zero, Int.emod_emod]
  exact Int.emod_eq_of_lt h.1 h.2
/-- rings.ring -/
def sp_ring (K : PySem.W.Frag) : Sp := fun vs H Q E => ∃ (a : Addr) (s : Int) (ps : List Int), vs = [.ref a, .int s] ∧ Num K H a ps ∧
  ((¬ (1 ≤ s ∧ (ps.length : Int) % s = 0) ∧ ∀ H', Gr [] H H' → E (.ref (He.ga K "BadSize")) none H') ∨ (1 ≤ s ∧ (ps.length : Int) % s = 0 ∧ ∀ l (bs : List Addr) H', H l = none → Gr [] H H' → SqT K H' l (bs.map V.ref) → bs.length = s.toNat →
    (∀ (i : Nat) b, bs[i]? = some b → Num K H' b (mulP (turnP ps.length (i * (ps.length / s))) ps)) → Q (.ref l) H'))
/-! ### the inverse -/
/-- where k stands -/
def invP (ps : List Int) : List Int := (rg ps.length).map fun k => (ps.idxOf k : Int)
theorem idx_lt (h : IsNum ps) {k : Int} (h0 : 0 ≤ k) (h1 : k < ps.length) : ps.idxOf k < ps.length := List.idxOf_lt_length_of_mem (h.mem.mpr ⟨h0, h1⟩)
theorem idx_at (h : IsNum ps) {k : Int} (h0 : 0 ≤ k) (h1 : k < ps.length) : atP ps (ps.idxOf k : Int) = k := by
  unfold atP
  rw [List.getD_eq_getElem?_getD, Int.toNat_natCast, List.getElem?_eq_getElem (idx_lt h h0 h1)]
  exact List.getElem_idxOf (idx_lt h h0 h1)
theorem length_inv : (invP ps).length = ps.length := by unfold invP; rw [List.length_map, length_rg]
theorem inv_get {k : Int} (h0 : 0 ≤ k) (h1 : k < ps.length) : atP (invP ps) k = (ps.idxOf k : Int) := by
  unfold atP invP
  rw [List.getD_eq_getElem?_getD, List.getElem?_map, rg_get (by omega)]
  show ((ps.idxOf (k.toNat : Int) : Nat) : Int) = _
  rw [Int.toNat_of_nonneg h0]
theorem isNum_inv (h : IsNum ps) : IsNum (invP ps) := by
  refine .of h.1 h.2.1 length_inv ?_ fun x hx => ?_
  · unfold invP
    refine List.pairwise_map.mpr (List.Pairwise.imp_of_mem (fun {i j} hi hj (hne : i ≠ j) e => hne ?_) (nodup_rg _))
    have hi := mem_rg.mp hi
    have hj := mem_rg.mp hj
    have z := idx_at h hi.1 hi.2
    rw [e, idx_at h hj.1 hj.2] at z
    exact z.symm
  · obtain ⟨k, hk, rfl⟩ := List.mem_map.mp hx
    have hk := mem_rg.mp hk
    have := idx_lt h hk.1 hk.2
    omega
/-- two lists of one length, alike at each place -/
theorem ext_at {qs : List Int} (hl : ps.length = qs.length) (h : ∀ k : Int, 0 ≤ k → k < ps.length → atP ps k = atP qs k) : ps = qs := by
  refine List.ext_getElem hl fun i h1 h2 => ?_
  have z := h i (by omega) (by omega)
  unfold atP at z
  rw [List.getD_eq_getElem?_getD, List.getD_eq_getElem?_getD, Int.toNat_natCast, List.getElem?_eq_getElem h1, List.getElem?_eq_getElem h2] at z
  exact z
theorem length_mul {qs : List Int} : (mulP ps qs).length = qs.length := by unfold mulP; rw [List.length_map]
theorem mul_at {qs : List Int} {k : Int} (h0 : 0 ≤ k) (h1 : k < qs.length) : atP (mulP ps qs) k = atP ps (atP qs k) := by
  have hl : k.toNat < qs.length := by omega
  have e : (mulP ps qs).getD k.toNat 0 = atP ps (qs.getD k.toNat 0) := by
    unfold mulP
    rw [List.getD_eq_getElem?_getD, List.getD_eq_getElem?_getD, List.getElem?_map, List.getElem?_eq_getElem hl] <;> rfl
  exact e
theorem rg_at {n : Nat} {k : Int} (h0 : 0 ≤ k) (h1 : k < n) : atP (rg n) k = k := by
  unfold atP
  rw [List.getD_eq_getElem?_getD, rg_get (by omega)]
  show ((k.toNat : Nat) : Int) = k
  exact Int.toNat_of_nonneg h0
theorem atP_lt (h : IsNum ps) {k : Int} (h0 : 0 ≤ k) (h1 : k < ps.length) : 0 ≤ atP ps k ∧ atP ps k < ps.length := h.mem.mp (atP_mem h0 h1)
theorem mul_inv (h : IsNum ps) : mulP ps (invP ps) = rg ps.length := by
  refine ext_at (by rw [length_mul, length_inv, length_rg]) fun k h0 h1 => ?_
  rw [length_mul, length_inv] at h1
  rw [mul_at h0 (by rw [length_inv]; exact h1), inv_get h0 h1, idx_at h h0 h1, rg_at h0 h1]
theorem inv_mul (h : IsNum ps) : mulP (invP ps) ps = rg ps.length := by
  refine ext_at (by rw [length_mul, length_rg]) fun k h0 h1 => ?_
  rw [length_mul] at h1
  have z := atP_lt h h0 h1
  rw [mul_at h0 h1, inv_get z.1 z.2, rg_at h0 h1]
  have y := idx_at h z.1 z.2
  have := idx_lt h z.1 z.2
  exact atP_inj h (by omega) (by omega) y
theorem mul_assoc {qs rs : List Int} (hr : IsNum rs) (hl : rs.length = qs.length) : mulP (mulP ps qs) rs = mulP ps (mulP qs rs) := by
  refine ext_at (by rw [length_mul, length_mul, length_mul]) fun k h0 h1 => ?_
  rw [length_mul] at h1
  have z := atP_lt hr h0 h1
  rw [mul_at h0 h1, mul_at z.1 (by omega), mul_at h0 (by rw [length_mul]; exact h1), mul_at h0 h1]
theorem inv_unique {qs : List Int} (hp : IsNum ps) (hq : IsNum qs) (hl : ps.length = qs.length) (h : mulP ps qs = rg ps.length) : qs = invP ps := by
  refine ext_at (by rw [length_inv, hl]) fun k h0 h1 => ?_
  have z := atP_lt hq h0 h1
  have e : atP (mulP ps qs) k = k := by rw [h]; exact rg_at h0 (by omega)
  rw [mul_at h0 h1] at e
  rw [inv_get h0 (by omega)]
  have y := idx_at hp h0 (by omega)
  have := idx_lt hp h0 (by omega)
  exact atP_inj hp (by omega) (by omega) (e.trans y.symm)
theorem mul_rgL {qs : List Int} (hq : IsNum qs) : mulP (rg qs.length) qs = qs := by
  refine ext_at length_mul fun k h0 h1 => ?_
  rw [length_mul] at h1
  have z := atP_lt hq h0 h1
  rw [mul_at h0 h1, rg_at z.1 z.2]
theorem inv_mulP {qs : List Int} (hp : IsNum ps) (hq : IsNum qs) (hl : ps.length = qs.length) : invP (mulP ps qs) = mulP (invP qs) (invP ps) := by
  have hip := isNum_inv hp
  have hiq := isNum_inv hq
  have h1 : (invP ps).length = ps.length := length_inv
  have h2 : (invP qs).length = qs.length := length_inv
  refine (inv_unique (isNum_mul hp hq hl) (isNum_mul hiq hip (by omega)) (by rw [length_mul, length_mul]; omega) ?_).symm
  rw [mul_assoc (isNum_mul hiq hip (by omega)) (by rw [length_mul]; omega), ← mul_assoc (ps := qs) hip (by omega), mul_inv hq]
  have e : qs.length = (invP ps).length := by omega
  rw [e, mul_rgL hip, mul_inv hp, length_mul]
  congr 1
def sp_Numbering___invert__ (K : PySem.W.Frag) : Sp := fun vs H Q _ => ∃ (a : Addr) (ps : List Int), vs = [.ref a] ∧ Num K H a ps ∧ ∀ c H', H c = none → Gr [] H H' → Num K H' c (invP ps) → Q (.ref c) H'
theorem w_inv (ha : Num K H a ps) (q : ∀ c H', H c = none → Gr [] H H' → Num K H' c (invP ps) → Q (.ref c) H') : rInvO (NC K) (sp_Numbering___invert__ K) E (.ref a) H Q := w_numInv ha ⟨a, ps, rfl, ha, q⟩
end
end LW

namespace LW
open PySem PySem.Spec PyProof.Rows L2
local macro_rules | `(tactic| walk_at "pos") => `(tactic| first | decide | omega | assumption)
local macro_rules | `(tactic| walk_at "ne") => `(tactic| first
  | assumption
  | (refine Ne.symm ?_; assumption)
  | (refine' ne_of_none ?h1 ?h2; (case h2 => assumption); (case h1 => walk_at "at"))
  | (refine' Ne.symm (ne_of_none ?h1 ?h2); (case h2 => assumption); (case h1 => walk_at "at")))
local macro_rules | `(tactic| walk_at "nin") => `(tactic| first
  | exact nin0
  | (refine nin1 ?_; walk_at "ne")
  | (refine nin2 ?_ ?_ <;> walk_at "ne")
  | (refine nin3 ?_ ?_ ?_ <;> walk_at "ne"))
local macro_rules | `(tactic| walk_at "at") => `(tactic| first
  | assumption
  | (refine' Gr.get0 ?h1 ?h2; (case h1 => assumption); (case h2 => walk_at "at"))
  | (refine' Gr.keepB ?h1 ?h2 ?h3; (case h1 => assumption); (case h2 => walk_at "at"); (case h3 => first | exact Or.inl rfl | (refine Or.inr ?_; walk_at "nin"))))
local macro_rules | `(tactic| walk_at "sql") => `(tactic| first
  | assumption
  | (refine' sql_of ?h1; (case h1 => walk_at "at"))
  | (refine' sql_frz ?h1; (case h1 => walk_at "at"))
  | (refine' Gr.sql0 ?h1 ?h2; (case h1 => assumption); (case h2 => walk_at "sql"))
  | (refine' Gr.sqlB ?h1 ?h2 ?h3; (case h1 => assumption); (case h2 => walk_at "sql"); (case h3 => walk_at "nin")))
local macro_rules | `(tactic| walk_at "tx") => `(tactic| first
  | assumption
  | (refine' TupX.gr ?tx1 ?tx2; (case tx2 => assumption); (case tx1 => walk_at "tx")))
local macro_rules | `(tactic| walk_at "sqt") => `(tactic| first
  | assumption
  | (refine' TupX.sqt ?tx1; (case tx1 => walk_at "tx"))
  | (refine' sqt_of ?h1; (case h1 => walk_at "at"))
  | (refine' Gr.sqt ?h1 ?h2; (case h1 => assumption); (case h2 => walk_at "sqt")))
local macro_rules | `(tactic| walk_at "sq") => `(tactic| first
  | assumption
  | (refine Or.inl ?_; walk_at "sql")
  | (refine Or.inr ?_; walk_at "sqt"))
local macro_rules | `(tactic| walk_at "fre") => `(tactic| first
  | assumption
  | (refine' Gr.free0 ?h1 ?h2; (case h2 => assumption); (case h1 => assumption))
  | (refine' Gr.free1 ?h1 ?h2 ?h3; (case h2 => assumption); (case h1 => assumption); (case h3 => walk_at "ne")))
local macro_rules | `(tactic| walk_at "sub") => `(tactic| first
  | exact sub0
  | (refine sub1 ?_; first | (refine Or.inl ?_; simp; done) | (refine Or.inr ?_; walk_at "fre"))
  | (refine sub2 ?_ ?_ <;> first | (refine Or.inl ?_; simp; done) | (refine Or.inr ?_; walk_at "fre")))
local macro_rules | `(tactic| walk_at "gr") => `(tactic| first
  | assumption
  | exact Gr.refl _
  | (refine' Gr.same1 ?h1 ?h2; (case h1 => walk_at "at"); (case h2 => exact rfl))
  | (refine' Gr.step ?h1 ?h2 ?h3; (case h1 => assumption); (case h2 => walk_at "gr"); (case h3 => walk_at "sub")))
local macro_rules | `(tactic| walk_at "ix") => `(tactic| first
  | exact rfl
  | (refine' atI_nat ?h1; (case h1 => assumption)))
local macro_rules | `(tactic| walk_at "w1") => `(tactic| first
  | with_reducible refine w_seq ?_
  | ((with_reducible refine' w_var ?h1 ?h2); (case h1 => exact rfl))
  | with_reducible refine w_c ?_
  | with_reducible refine w_op ?_
  | with_reducible refine w_asg ?_
  | with_reducible refine w_cons ?_
  | with_reducible refine w_nil ?_
  | with_reducible refine w_rI0 ?_
  | with_reducible refine w_exb ?_
  | with_reducible refine w_test ?_
  | with_reducible refine w_ifS ?_
  | with_reducible refine w_ret ?_
  | with_reducible refine w_cb ?_
  | ((with_reducible refine w_gname ?_); try dsimp only [List.set])
  | ((with_reducible refine w_eq ?h1 ?h2); (case h1 => exact rfl))
  | ((with_reducible refine w_ne ?h1 ?h2); (case h1 => exact rfl))
  | with_reducible refine w_drop ?_
  | with_reducible refine w_call ?_
  | with_reducible refine w_callD ?_
  | with_reducible refine w_call1 ?_
  | with_reducible refine w_callN ?_
  | with_reducible refine w_callNS ?_
  | with_reducible refine w_and ?_
  | with_reducible refine w_or ?_
  | with_reducible refine w_not ?_
  | with_reducible refine w_T ?_
  | with_reducible refine w_F ?_
  | with_reducible refine w_nT ?_
  | with_reducible refine w_nF ?_
  | with_reducible refine w_un ?_
  | with_reducible refine w_rU ?_
  | with_reducible refine w_tLst ?_
  | with_reducible refine w_tTup ?_
  | with_reducible refine w_gsub ?_
  | with_reducible refine w_bm ?_
  | with_reducible refine w_bm0 ?_
  | with_reducible refine w_abs ?_
  | with_reducible refine w_int ?_
  | with_reducible refine w_chain ?_
  | with_reducible refine w_tB ?_
  | with_reducible refine w_exV ?_
  | with_reducible refine w_andV ?_
  | with_reducible refine w_orV ?_
  | with_reducible refine w_notV ?_
  | with_reducible refine w_ifE ?_
  | with_reducible refine w_retN ?_
  | with_reducible refine w_for ?_
  | with_reducible refine w_iRng1 ?_
  | with_reducible refine w_iRng2 ?_
  | with_reducible refine w_iRng3 ?_
  | with_reducible refine w_iList ?_
  | with_reducible refine w_iTup ?_
  | with_reducible refine w_next ?_
  | ((with_reducible refine w_ends ?_); dsimp only [List.set]))
local macro_rules | `(tactic| walk_at "h1") => `(tactic| first
  | ((with_reducible refine' w_ixL ?h1 ?h2 ?h3); (case h1 => walk_at "sql"); (case h2 => walk_at "ix"))
  | ((with_reducible refine' w_ixT ?h1 ?h2 ?h3); (case h1 => walk_at "sqt"); (case h2 => walk_at "ix"))
  | ((with_reducible refine' w_tupOfT ?h1 ?h2); (case h1 => walk_at "sqt"))
  | ((with_reducible refine' w_tupOfL ?h1 ?h2); (case h1 => walk_at "sql"); intro _ _ _ _ _)
  | ((with_reducible refine' w_len ?h1 ?h2); (case h1 => walk_at "sq"))
  | ((with_reducible refine' w_ty ?h1 ?h2); (case h1 => walk_at "sql"))
  | ((with_reducible refine' w_setL ?h1 ?h2 ?h3); (case h1 => walk_at "at"); (case h2 => exact rfl); intro _ _ _; try dsimp only [List.set])
  | ((with_reducible refine' w_lst ?h1 ?h2); (case h1 => first | exact small (by decide) | exact small (by simp)); intro _ _ _ _ _)
  | ((with_reducible refine' w_tup ?h1 ?h2); (case h1 => first | exact small (by decide) | exact small (by simp)); intro _ _ _ _ _))
local macro_rules | `(tactic| walk_at "j1") => `(tactic| first
  | ((with_reducible refine' w_rItL ?h1 ?h2); (case h1 => walk_at "sql"))
  | ((with_reducible refine' w_rItT ?h1 ?h2); (case h1 => walk_at "sqt"))
  | ((with_reducible refine' w_ixSL ?h1 ?h2 ?h3); (case h1 => walk_at "sql"); (case h2 => walk_at "ix"))
  | ((with_reducible refine' w_ixST ?h1 ?h2 ?h3); (case h1 => walk_at "sqt"); (case h2 => walk_at "ix")))
local macro_rules | `(tactic| walk_at "rep") => `(tactic| first
  | assumption
  | exact Rep.int _
  | exact Rep.bl _
  | exact Rep.str _
  | exact Rep.non
  | (refine' rep_tupI ?h1; (case h1 => walk_at "sqt"))
  | (refine' rep_lstI ?h1; (case h1 => walk_at "sql"))
  | (refine' Rep.gr0 ?h1 ?h2; (case h1 => assumption); (case h2 => walk_at "rep"))
  | (refine' Rep.grB ?h1 ?h2 ?h3; (case h1 => assumption); (case h2 => walk_at "rep"); (case h3 => first | exact rfl | assumption)))
local macro_rules | `(tactic| walk_at "i1") => `(tactic| first
  | ((with_reducible refine' w_isiTT ?is1 ?is2); (case is1 => walk_at "sqt"))
  | ((with_reducible refine' w_isiLL ?is1 ?is2); (case is1 => walk_at "sql"))
  | ((with_reducible refine' w_isE ?ie1 ?ie2 ?ie3); (case ie2 => assumption); (case ie1 => assumption))
  | ((with_reducible refine' w_isi_tuple ?h1 ?h2 ?h3); (case h1 => walk_at "rep"); (case h2 => exact rfl); dsimp only [D.isTup])
  | ((with_reducible refine' w_isi_list ?h1 ?h2 ?h3); (case h1 => walk_at "rep"); (case h2 => exact rfl); dsimp only [D.isLst])
  | ((with_reducible refine' w_isi_bool ?h1 ?h2 ?h3); (case h1 => walk_at "rep"); (case h2 => exact rfl); dsimp only [D.isBl])
  | ((with_reducible refine' w_isi_int ?h1 ?h2 ?h3); (case h1 => walk_at "rep"); (case h2 => exact rfl); dsimp only [D.isInt])
  | ((with_reducible refine' w_isi_str ?h1 ?h2 ?h3); (case h1 => walk_at "rep"); (case h2 => exact rfl); dsimp only [D.isStr]))
local macro_rules | `(tactic| walk_at "w") => `(tactic| repeat (first | walk_at "w1" | walk_at "h1" | walk_at "c1" | walk_at "n1" | walk_at "i1" | walk_at "j1"))
local macro_rules | `(tactic| walk_at "c1") => `(tactic| first
  | with_reducible refine w_fld ?_
  | with_reducible refine w_put ?_
  | with_reducible refine w_kRef ?_
  | with_reducible refine w_makeS ?_
  | with_reducible refine w_cmethS ?_
  | with_reducible refine w_binS ?_
  | with_reducible refine w_invS ?_
  | with_reducible refine w_callOS ?_
  | with_reducible refine w_methS ?_
  | with_reducible refine w_cval ?_
  | with_reducible refine w_lstRg ?_
  | with_reducible refine w_tupRg ?_
  | with_reducible refine w_tRg1 ?_
  | with_reducible refine w_kRg1 ?_
  | with_reducible refine w_lc ?_
  | (with_reducible refine w_trn ?_; dsimp only [wipe, List.set])
  | ((with_reducible refine' w_rCVal ?rc1 ?rc2 ?rc3); (case rc2 => assumption); (case rc1 => assumption)))
local macro_rules | `(tactic| walk_at "num") => `(tactic| first
  | assumption
  | (refine' Num.gr ?h1 ?h2; (case h2 => assumption); (case h1 => walk_at "num")))
local macro_rules | `(tactic| walk_at "n1") => `(tactic| first
  | ((with_reducible refine' w_places ?nm1 ?nm2 ?nm3); (case nm2 => walk_at "num"); (case nm1 => assumption); intro _ _))
local macro_rules | `(tactic| walk_at "n1") => `(tactic| first
  | ((with_reducible refine' w_isiNum ?nm1 ?nm2 ?nm3 ?nm4); (case nm3 => walk_at "num"); (case nm1 => assumption); (case nm2 => assumption))
  | ((with_reducible refine' w_numLen ?nm1 ?nm2); (case nm1 => walk_at "num"))
  | with_reducible refine w_numCal ?_
  | with_reducible refine w_bmX ?_
  | ((with_reducible refine' w_kTupX ?nm1 ?nm2); (case nm1 => walk_at "tx")))
def top (i : Nat) : Stmt := PySem.Challenge.pw_ownlabels_k04_products_and_inverses.main.body.getD i (.Pass ⟨0, 0, 0, 0⟩)
abbrev s__law_begin : Stmt := top 9
abbrev N__law_begin : List Str := ["_law_script"]
theorem sc__law_begin : FnScope N__law_begin ["_law_script"] (defScope s__law_begin) := ⟨rfl, rfl, rfl, by decide +kernel, rfl, by decide +kernel, by decide +kernel⟩
def d__law_begin : DefW := ⟨fun K => He.ga K "_law_begin", "_law_begin", "_law_begin", defArgs s__law_begin, defBody s__law_begin, defScope s__law_begin, []⟩
abbrev A__law_begin (K : PySem.W.Frag) : Addr := He.ga K "_law_begin"
abbrev s__law_draw : Stmt := top 10
abbrev N__law_draw : List Str := ["_law_tape", "_law_many", "_law_cell", "_law_number"]
theorem sc__law_draw : FnScope N__law_draw ["_law_tape", "_law_many"] (defScope s__law_draw) := ⟨rfl, rfl, rfl, by decide +kernel, rfl, by decide +kernel, by decide +kernel⟩
def d__law_draw : DefW := ⟨fun K => He.ga K "_law_draw", "_law_draw", "_law_draw", defArgs s__law_draw, defBody s__law_draw, defScope s__law_draw, []⟩
abbrev A__law_draw (K : PySem.W.Frag) : Addr := He.ga K "_law_draw"
abbrev s__law_shuffled : Stmt := top 12
abbrev N__law_shuffled : List Str := ["_law_tape", "_law_cells", "_law_left", "_law_places", "_law_k"]
theorem sc__law_shuffled : FnScope N__law_shuffled ["_law_tape", "_law_cells"] (defScope s__law_shuffled) := ⟨rfl, rfl, rfl, by decide +kernel, rfl, by decide +kernel, by decide +kernel⟩
def d__law_shuffled : DefW := ⟨fun K => He.ga K "_law_shuffled", "_law_shuffled", "_law_shuffled", defArgs s__law_shuffled, defBody s__law_shuffled, defScope s__law_shuffled, []⟩
abbrev A__law_shuffled (K : PySem.W.Frag) : Addr := He.ga K "_law_shuffled"
abbrev s_Numbering___init__ : Stmt := inClass (top 7) 1
abbrev N_Numbering___init__ : List Str := ["self", "places", "many"]
theorem sc_Numbering___init__ : FnScope N_Numbering___init__ ["self", "places"] (defScope s_Numbering___init__) := ⟨rfl, rfl, rfl, by decide +kernel, rfl, by decide +kernel, by decide +kernel⟩
def d_Numbering___init__ : DefW := ⟨fun K => He.ma K (He.ga K "Numbering") "__init__", "__init__", "Numbering.__init__", defArgs s_Numbering___init__, defBody s_Numbering___init__, defScope s_Numbering___init__, []⟩
abbrev A_Numbering___init__ (K : PySem.W.Frag) : Addr := He.ma K (He.ga K "Numbering") "__init__"
abbrev s__law_same : Stmt := top 11
abbrev N__law_same : List Str := ["_law_actual", "_law_expected", "_law_k"]
theorem sc__law_same : FnScope N__law_same ["_law_actual", "_law_expected"] (defScope s__law_same) := ⟨rfl, rfl, rfl, by decide +kernel, rfl, by decide +kernel, by decide +kernel⟩
def d__law_same : DefW := ⟨fun K => He.ga K "_law_same", "_law_same", "_law_same", defArgs s__law_same, defBody s__law_same, defScope s__law_same, []⟩
abbrev A__law_same (K : PySem.W.Frag) : Addr := He.ga K "_law_same"
abbrev s_Numbering___mul__ : Stmt := inClass (top 7) 5
abbrev N_Numbering___mul__ : List Str := ["self", "other", "place"]
theorem sc_Numbering___mul__ : FnScope N_Numbering___mul__ ["self", "other"] (defScope s_Numbering___mul__) := ⟨rfl, rfl, rfl, by decide +kernel, rfl, by decide +kernel, by decide +kernel⟩
def d_Numbering___mul__ : DefW := ⟨fun K => He.ma K (He.ga K "Numbering") "__mul__", "__mul__", "Numbering.__mul__", defArgs s_Numbering___mul__, defBody s_Numbering___mul__, defScope s_Numbering___mul__, []⟩
abbrev A_Numbering___mul__ (K : PySem.W.Frag) : Addr := He.ma K (He.ga K "Numbering") "__mul__"
abbrev s_Numbering___invert__ : Stmt := inClass (top 7) 6
abbrev N_Numbering___invert__ : List Str := ["self", "place"]
theorem sc_Numbering___invert__ : FnScope N_Numbering___invert__ ["self"] (defScope s_Numbering___invert__) := ⟨rfl, rfl, rfl, by decide +kernel, rfl, by decide +kernel, by decide +kernel⟩
def d_Numbering___invert__ : DefW := ⟨fun K => He.ma K (He.ga K "Numbering") "__invert__", "__invert__", "Numbering.__invert__", defArgs s_Numbering___invert__, defBody s_Numbering___invert__, defScope s_Numbering___invert__, []⟩
abbrev A_Numbering___invert__ (K : PySem.W.Frag) : Addr := He.ma K (He.ga K "Numbering") "__invert__"
abbrev s_Numbering___eq__ : Stmt := inClass (top 7) 9
abbrev N_Numbering___eq__ : List Str := ["self", "other"]
theorem sc_Numbering___eq__ : FnScope N_Numbering___eq__ ["self", "other"] (defScope s_Numbering___eq__) := ⟨rfl, rfl, rfl, by decide +kernel, rfl, by decide +kernel, by decide +kernel⟩
def d_Numbering___eq__ : DefW := ⟨fun K => He.ma K (He.ga K "Numbering") "__eq__", "__eq__", "Numbering.__eq__", defArgs s_Numbering___eq__, defBody s_Numbering___eq__, defScope s_Numbering___eq__, []⟩
abbrev A_Numbering___eq__ (K : PySem.W.Frag) : Addr := He.ma K (He.ga K "Numbering") "__eq__"
abbrev s__law_refused : Stmt := top 13
abbrev N__law_refused : List Str := ["_law_left", "_law_right", "_law_product", "e"]
theorem sc__law_refused : FnScope N__law_refused ["_law_left", "_law_right"] (defScope s__law_refused) := ⟨rfl, rfl, rfl, by decide +kernel, rfl, by decide +kernel, by decide +kernel⟩
def d__law_refused : DefW := ⟨fun K => He.ga K "_law_refused", "_law_refused", "_law_refused", defArgs s__law_refused, defBody s__law_refused, defScope s__law_refused, []⟩
abbrev A__law_refused (K : PySem.W.Frag) : Addr := He.ga K "_law_refused"
abbrev s_law : Stmt := top 14
abbrev N_law : List Str := ["_law_script", "_law_tape", "_law_cells", "_law_first", "_law_second", "_law_third", "_law_a", "_law_b", "_law_c", "_law_plain", "_law_size", "_law_d", "_law_place"]
theorem sc_law : FnScope N_law ["_law_script"] (defScope s_law) := ⟨rfl, rfl, rfl, by decide +kernel, rfl, by decide +kernel, by decide +kernel⟩
def d_law : DefW := ⟨fun K => He.ga K "law", "law", "law", defArgs s_law, defBody s_law, defScope s_law, []⟩
abbrev A_law (K : PySem.W.Frag) : Addr := He.ga K "law"
def fn : List DefW := [d__law_begin, d__law_draw, d__law_shuffled, d_Numbering___init__, d__law_same, d_Numbering___mul__, d_Numbering___invert__, d_Numbering___eq__, d__law_refused, d_law]
def fa : List He.Fa := [.free "abs", .free "bool", .free "int", .free "isinstance", .free "len", .free "list", .free "range", .free "sorted", .free "str", .free "tuple", .glo "_law_begin", .glo "_law_draw", .glo "_law_shuffled", .glo "_law_same", .glo "_law_refused", .glo "law", .glo "BadNumbering", .glo "BadSize", .glo "HallError", .glo "Numbering", .exc "BadNumbering", .mkr "Numbering", .cls "Numbering", .exm "BadNumbering" "BadNumbering" true, .exm "BadNumbering" "HallError" true, .noat "Numbering" "places"]
def exB (K : PySem.W.Frag) : List Bool := [(isiB K "Numbering"), (decide (PySem.W.kitOne K (.ref (He.ga K "Numbering")) (.ref (He.ga K "Numbering")) = some true)), (cmoB K "Numbering" "__eq__"), (cmoB K "Numbering" "__invert__"), (crdB K "Numbering"), (cvlB K "Numbering" "MOST" 12), (excCB K (He.ga K "BadNumbering")), (decide (PySem.W.kitOne K (.ref (He.ga K "BadNumbering")) (.ref (He.ga K "BadSize")) = some false)), (decide (PySem.W.kitOne K (.ref (He.ga K "BadNumbering")) (.ref (He.ga K "HallError")) = some true)), (opoB K "Numbering" "__mul__")]
structure Ctx (K : PySem.W.Frag) (mg : Str → Option Value) : Prop where
  says : SaysW fa fn exB K
  glo : ∀ {x : Str}, (He.Fa.glo x).ok K = true → mg x = some (.ref (He.ga K x))
  free : ∀ {x : Str}, (He.Fa.free x).ok K = true → mg x = none
  int : ∀ {x : Str} {i : Int}, (He.Fa.int x i).ok K = true → ∃ t, mg x = some (.int i t)
  str : ∀ {x z : Str}, (He.Fa.str x z).ok K = true → ∃ t, mg x = some (.str z t)
section
variable {K : PySem.W.Frag} {mg : Str → Option Value}
theorem Ctx.b (c : Ctx K mg) (i : Nat) {b : Bool} (h : (exB K)[i]? = some b) : b = true := c.says.exs i h
theorem F__law_begin (c : Ctx K mg) : FunD K "_law_begin" "_law_begin" (defArgs s__law_begin) (defBody s__law_begin) (defScope s__law_begin) [] [] (A__law_begin K) (fdA K (A__law_begin K)) := fdA_of (c.says.def_ 0 (d := d__law_begin) rfl)
theorem b__law_begin (c : Ctx K mg) : Binds K (fdA K (A__law_begin K)) ["_law_script"] [] := (F__law_begin c).bindsN fun _ _ _ _ _ _ us hl => match us, hl with | [_], _ => rfl
theorem F__law_draw (c : Ctx K mg) : FunD K "_law_draw" "_law_draw" (defArgs s__law_draw) (defBody s__law_draw) (defScope s__law_draw) [] [] (A__law_draw K) (fdA K (A__law_draw K)) := fdA_of (c.says.def_ 1 (d := d__law_draw) rfl)
theorem b__law_draw (c : Ctx K mg) : Binds K (fdA K (A__law_draw K)) ["_law_tape", "_law_many"] [] := (F__law_draw c).bindsN fun _ _ _ _ _ _ us hl => match us, hl with | [_, _], _ => rfl
theorem F__law_shuffled (c : Ctx K mg) : FunD K "_law_shuffled" "_law_shuffled" (defArgs s__law_shuffled) (defBody s__law_shuffled) (defScope s__law_shuffled) [] [] (A__law_shuffled K) (fdA K (A__law_shuffled K)) := fdA_of (c.says.def_ 2 (d := d__law_shuffled) rfl)
theorem b__law_shuffled (c : Ctx K mg) : Binds K (fdA K (A__law_shuffled K)) ["_law_tape", "_law_cells"] [] := (F__law_shuffled c).bindsN fun _ _ _ _ _ _ us hl => match us, hl with | [_, _], _ => rfl
theorem F_Numbering___init__ (c : Ctx K mg) : FunD K "__init__" "Numbering.__init__" (defArgs s_Numbering___init__) (defBody s_Numbering___init__) (defScope s_Numbering___init__) [] [] (A_Numbering___init__ K) (fdA K (A_Numbering___init__ K)) := fdA_of (c.says.def_ 3 (d := d_Numbering___init__) rfl)
theorem b_Numbering___init__ (c : Ctx K mg) : Binds K (fdA K (A_Numbering___init__ K)) ["self", "places"] [] := (F_Numbering___init__ c).bindsN fun _ _ _ _ _ _ us hl => match us, hl with | [_, _], _ => rfl
theorem F__law_same (c : Ctx K mg) : FunD K "_law_same" "_law_same" (defArgs s__law_same) (defBody s__law_same) (defScope s__law_same) [] [] (A__law_same K) (fdA K (A__law_same K)) := fdA_of (c.says.def_ 4 (d := d__law_same) rfl)
theorem b__law_same (c : Ctx K mg) : Binds K (fdA K (A__law_same K)) ["_law_actual", "_law_expected"] [] := (F__law_same c).bindsN fun _ _ _ _ _ _ us hl => match us, hl with | [_, _], _ => rfl
theorem F_Numbering___mul__ (c : Ctx K mg) : FunD K "__mul__" "Numbering.__mul__" (defArgs s_Numbering___mul__) (defBody s_Numbering___mul__) (defScope s_Numbering___mul__) [] [] (A_Numbering___mul__ K) (fdA K (A_Numbering___mul__ K)) := fdA_of (c.says.def_ 5 (d := d_Numbering___mul__) rfl)
theorem b_Numbering___mul__ (c : Ctx K mg) : Binds K (fdA K (A_Numbering___mul__ K)) ["self", "other"] [] := (F_Numbering___mul__ c).bindsN fun _ _ _ _ _ _ us hl => match us, hl with | [_, _], _ => rfl
theorem F_Numbering___invert__ (c : Ctx K mg) : FunD K "__invert__" "Numbering.__invert__" (defArgs s_Numbering___invert__) (defBody s_Numbering___invert__) (defScope s_Numbering___invert__) [] [] (A_Numbering___invert__ K) (fdA K (A_Numbering___invert__ K)) := fdA_of (c.says.def_ 6 (d := d_Numbering___invert__) rfl)
theorem b_Numbering___invert__ (c : Ctx K mg) : Binds K (fdA K (A_Numbering___invert__ K)) ["self"] [] := (F_Numbering___invert__ c).bindsN fun _ _ _ _ _ _ us hl => match us, hl with | [_], _ => rfl
theorem F_Numbering___eq__ (c : Ctx K mg) : FunD K "__eq__" "Numbering.__eq__" (defArgs s_Numbering___eq__) (defBody s_Numbering___eq__) (defScope s_Numbering___eq__) [] [] (A_Numbering___eq__ K) (fdA K (A_Numbering___eq__ K)) := fdA_of (c.says.def_ 7 (d := d_Numbering___eq__) rfl)
theorem b_Numbering___eq__ (c : Ctx K mg) : Binds K (fdA K (A_Numbering___eq__ K)) ["self", "other"] [] := (F_Numbering___eq__ c).bindsN fun _ _ _ _ _ _ us hl => match us, hl with | [_, _], _ => rfl
theorem F__law_refused (c : Ctx K mg) : FunD K "_law_refused" "_law_refused" (defArgs s__law_refused) (defBody s__law_refused) (defScope s__law_refused) [] [] (A__law_refused K) (fdA K (A__law_refused K)) := fdA_of (c.says.def_ 8 (d := d__law_refused) rfl)
theorem b__law_refused (c : Ctx K mg) : Binds K (fdA K (A__law_refused K)) ["_law_left", "_law_right"] [] := (F__law_refused c).bindsN fun _ _ _ _ _ _ us hl => match us, hl with | [_, _], _ => rfl
theorem F_law (c : Ctx K mg) : FunD K "law" "law" (defArgs s_law) (defBody s_law) (defScope s_law) [] [] (A_law K) (fdA K (A_law K)) := fdA_of (c.says.def_ 9 (d := d_law) rfl)
theorem b_law (c : Ctx K mg) : Binds K (fdA K (A_law K)) ["_law_script"] [] := (F_law c).bindsN fun _ _ _ _ _ _ us hl => match us, hl with | [_], _ => rfl
theorem n_abs (c : Ctx K mg) : mg "abs" = none := c.free (c.says.fact 0 rfl)
theorem n_bool (c : Ctx K mg) : mg "bool" = none := c.free (c.says.fact 1 rfl)
theorem n_int (c : Ctx K mg) : mg "int" = none := c.free (c.says.fact 2 rfl)
theorem n_isinstance (c : Ctx K mg) : mg "isinstance" = none := c.free (c.says.fact 3 rfl)
theorem n_len (c : Ctx K mg) : mg "len" = none := c.free (c.says.fact 4 rfl)
theorem n_list (c : Ctx K mg) : mg "list" = none := c.free (c.says.fact 5 rfl)
theorem n_range (c : Ctx K mg) : mg "range" = none := c.free (c.says.fact 6 rfl)
theorem n_sorted (c : Ctx K mg) : mg "sorted" = none := c.free (c.says.fact 7 rfl)
theorem n_str (c : Ctx K mg) : mg "str" = none := c.free (c.says.fact 8 rfl)
theorem n_tuple (c : Ctx K mg) : mg "tuple" = none := c.free (c.says.fact 9 rfl)
theorem g__law_begin (c : Ctx K mg) : mg "_law_begin" = some (.ref (A__law_begin K)) := c.glo (c.says.fact 10 rfl)
theorem g__law_draw (c : Ctx K mg) : mg "_law_draw" = some (.ref (A__law_draw K)) := c.glo (c.says.fact 11 rfl)
theorem g__law_shuffled (c : Ctx K mg) : mg "_law_shuffled" = some (.ref (A__law_shuffled K)) := c.glo (c.says.fact 12 rfl)
theorem g__law_same (c : Ctx K mg) : mg "_law_same" = some (.ref (A__law_same K)) := c.glo (c.says.fact 13 rfl)
theorem g__law_refused (c : Ctx K mg) : mg "_law_refused" = some (.ref (A__law_refused K)) := c.glo (c.says.fact 14 rfl)
theorem g_law (c : Ctx K mg) : mg "law" = some (.ref (A_law K)) := c.glo (c.says.fact 15 rfl)
theorem g_BadNumbering (c : Ctx K mg) : mg "BadNumbering" = some (.ref (He.ga K "BadNumbering")) := c.glo (c.says.fact 16 rfl)
theorem g_BadSize (c : Ctx K mg) : mg "BadSize" = some (.ref (He.ga K "BadSize")) := c.glo (c.says.fact 17 rfl)
theorem g_HallError (c : Ctx K mg) : mg "HallError" = some (.ref (He.ga K "HallError")) := c.glo (c.says.fact 18 rfl)
theorem g_Numbering (c : Ctx K mg) : mg "Numbering" = some (.ref (He.ga K "Numbering")) := c.glo (c.says.fact 19 rfl)
theorem x_BadNumbering (c : Ctx K mg) : XcOk K (He.ga K "BadNumbering") := He.exc_ok (K := K) (x := "BadNumbering") (c.says.fact 20 rfl)
theorem mk_Numbering (c : Ctx K mg) : Mk K (He.ga K "Numbering") (He.ma K (He.ga K "Numbering") "__init__") := He.mkr_ok (c.says.fact 21 rfl)
theorem cl_Numbering (c : Ctx K mg) : Cls K (He.ga K "Numbering") := He.cls_ok (c.says.fact 22 rfl)
theorem xm_BadNumbering_BadNumbering (c : Ctx K mg) : PySem.W.exmOne K (.ref (He.ga K "BadNumbering")) (.ref (He.ga K "BadNumbering")) = some true := He.exm_ok (c.says.fact 23 rfl)
theorem xm_BadNumbering_HallError (c : Ctx K mg) : PySem.W.exmOne K (.ref (He.ga K "BadNumbering")) (.ref (He.ga K "HallError")) = some true := He.exm_ok (c.says.fact 24 rfl)
theorem na_Numbering_places (c : Ctx K mg) : NoAttr K (He.ga K "Numbering") "places" := He.noat_ok (c.says.fact 25 rfl)
theorem isB_Numbering (c : Ctx K mg) : (isiB K "Numbering") = true := c.b 0 rfl
theorem ki_Numbering (c : Ctx K mg) : (decide (PySem.W.kitOne K (.ref (He.ga K "Numbering")) (.ref (He.ga K "Numbering")) = some true)) = true := c.b 1 rfl
theorem cmo_Numbering___eq__ (c : Ctx K mg) : CmO K (He.ga K "Numbering") "__eq__" (He.ma K (He.ga K "Numbering") "__eq__") := cmoB_ok (c.b 2 rfl)
theorem cmo_Numbering___invert__ (c : Ctx K mg) : CmO K (He.ga K "Numbering") "__invert__" (He.ma K (He.ga K "Numbering") "__invert__") := cmoB_ok (c.b 3 rfl)
theorem cr_Numbering (c : Ctx K mg) : ClX.CRead K (He.ga K "Numbering") (.type "type") := crdB_ok (c.b 4 rfl)
theorem cv_Numbering_MOST (c : Ctx K mg) : ∃ u, ClX.CVal K (He.ga K "Numbering") (.type "type") "MOST" (.int 12) u := cvlB_ok (c.b 5 rfl)
theorem exC_BadNumbering (c : Ctx K mg) : ExcC K (He.ga K "BadNumbering") := excCB_ok (c.b 6 rfl)
theorem kit_BadNumbering_BadSize (c : Ctx K mg) : PySem.W.kitOne K (.ref (He.ga K "BadNumbering")) (.ref (He.ga K "BadSize")) = some false := of_decide_eq_true (c.b 7 rfl)
theorem kit_BadNumbering_HallError (c : Ctx K mg) : PySem.W.kitOne K (.ref (He.ga K "BadNumbering")) (.ref (He.ga K "HallError")) = some true := of_decide_eq_true (c.b 8 rfl)
theorem op_Numbering___mul__ (c : Ctx K mg) : OpO K (He.ga K "Numbering") "__mul__" (He.ma K (He.ga K "Numbering") "__mul__") := opoB_ok (c.b 9 rfl)
end
/-- the tape: the script's ints (frozen), the place, the rest of a number, a count of at most b -/
def Tape (b : Nat) (H : Hp) (t : Addr) : Prop := ∃ (a : Addr) (o : Obj) (ns : List Int) (i n k : Int), H t = some (.lst [.ref a, .int i, .int n, .int k]) ∧ H a = some (.frz o (.lst (ns.map V.int))) ∧ ns.length ≤ 63 ∧ 0 ≤ i ∧ 0 ≤ n ∧ 0 ≤ k ∧ k ≤ b
theorem Tape.mono {b b' : Nat} {H : Hp} {t : Addr} (h : Tape b H t) (l : b ≤ b') : Tape b' H t := by
  obtain ⟨a, o, ns, i, n, k, h1, h2, h4, h5, h6, h7, h8⟩ := h
  exact ⟨a, o, ns, i, n, k, h1, h2, h4, h5, h6, h7, by omega⟩
theorem Tape.gr {b : Nat} {H H' : Hp} {t : Addr} {S : List Addr} (h : Tape b H t) (g : Gr S H H') (hn : t ∉ S) : Tape b H' t := by
  obtain ⟨a, o, ns, i, n, k, h1, h2, h3⟩ := h
  exact ⟨a, o, ns, i, n, k, g.keep _ _ h1 hn, g.get h2 rfl, h3⟩
theorem Tape.gr0 {b : Nat} {H H' : Hp} {t : Addr} (h : Tape b H t) (g : Gr [] H H') : Tape b H' t := h.gr g (by simp)
theorem Tape.gr1 {b : Nat} {H H' : Hp} {t l : Addr} (h : Tape b H t) (g : Gr [l] H H') (hn : t ≠ l) : Tape b H' t := h.gr g (by simpa using hn)
theorem Tape.at {b : Nat} {H : Hp} {t : Addr} (h : Tape b H t) : ∃ xs, H t = some (.lst xs) := by
  obtain ⟨a, o, ns, i, n, k, h1, _⟩ := h
  exact ⟨_, h1⟩
theorem Tape.ne {b : Nat} {H : Hp} {t l : Addr} (h : Tape b H t) (e : H l = none) : t ≠ l := by
  obtain ⟨xs, h1⟩ := h.at
  exact ne_of_none h1 e
local macro_rules | `(tactic| walk_at "tape") => `(tactic| first
  | assumption
  | (refine' Tape.gr0 ?h1 ?h2; (case h2 => assumption); (case h1 => walk_at "tape"))
  | (refine' Tape.gr1 ?h1 ?h2 ?h3; (case h2 => assumption); (case h1 => walk_at "tape"); (case h3 => first | assumption | (refine Ne.symm ?_; assumption) | walk_at "ne" | (refine' Tape.ne ?a1 ?a2; (case a2 => assumption); (case a1 => walk_at "tape")))))
local macro_rules | `(tactic| walk_at "ne") => `(tactic| first
  | (refine' Tape.ne ?h1 ?h2; (case h2 => assumption); (case h1 => walk_at "tape"))
  | (refine' Ne.symm (Tape.ne ?h1 ?h2); (case h2 => assumption); (case h1 => walk_at "tape")))

def sp__law_begin (K : PySem.W.Frag) : Sp := fun vs H Q _ => ∃ (a : Addr) (ns : List Int), vs = [.ref a] ∧ SqL K H a (ns.map V.int) ∧ ns.length ≤ 63 ∧ ∀ t H', H t = none → Gr [] H H' → Tape 0 H' t → Q (.ref t) H'
theorem w_begin {K : PySem.W.Frag} {H : Hp} {Q : VK} {E : XK} {a : Addr} {ns : List Int} (h : SqL K H a (ns.map V.int)) (hl : ns.length ≤ 63) (k : ∀ t H', H t = none → Gr [] H H' → Tape 0 H' t → Q (.ref t) H') : sp__law_begin K [.ref a] H Q E := ⟨a, ns, rfl, h, hl, k⟩
section
variable {P : Program} {w : World} {K : PySem.W.Frag} {mg : Str → Option Value} {base : Heap}
theorem ok0__law_begin (c : Ctx K mg) : FnOk P w K mg base (L2.CX P w) 1 (A__law_begin K) (fdA K (A__law_begin K)) ["_law_script"]
    (fun vs H Q _ => ∃ (a : Addr) (ns : List Int), vs = [.ref a] ∧ SqL K H a (ns.map V.int) ∧ ∀ t l H1 H', H l = none → Gr [] H H1 → H1 l = some (.lst (ns.map V.int)) → H1 t = none → Gr [] H1 H' → H' t = some (.lst [.ref l, .int 0, .int 0, .int 0]) → Q (.ref t) H') := by
  refine okT (F__law_begin c) sc__law_begin (fun vs H Q E h => ?_) (fun cdv A outer s H vs Q E hr h tk pown => ?_)
  · obtain ⟨_, _, rfl, _⟩ := h; rfl
  · refine ⟨_, (pss_one (ps_ret (pe_lstN (pa_cons (pe_callTy cr_list rfl (n_list c) (by decide +kernel) (pa_cons (pv 0) pa_nil)) (pa_cons pe_int (pa_cons pe_int (pa_cons pe_int pa_nil))))))), ?_⟩
    obtain ⟨a, ns, rfl, hS, k⟩ := h
    walk_at "w"
    refine w_listOf (.inl hS) fun l H1 n1 g1 h1 => ?_
    walk_at "w"
    rename_i t H2 n2 g2 h2
    exact k t l H1 H2 n1 g1 h1 n2 g2 h2
theorem ok__law_begin (c : Ctx K mg) : FnOk P w K mg base (L2.CX P w) 1 (A__law_begin K) (fdA K (A__law_begin K)) ["_law_script"] (sp__law_begin K) := by
  refine (fnOk_frz (ok0__law_begin c)).imp fun vs H Q E h => ?_
  obtain ⟨a, ns, rfl, hS, hl, k⟩ := h
  refine ⟨a, ns, rfl, hS, fun t l H1 H' n1 g1 h1 n2 g2 h2 => ⟨l, _, g2.get0 h1, fun o => ?_⟩⟩
  have ne : t ≠ l := (ne_of_none h1 n2).symm
  refine k t _ (g1.free0 n2) ((g1.trans0 g2).transN (Gr.frz (g2.get0 h1)) n1) ⟨l, o, ns, 0, 0, 0, ?_, upd_same, hl, by decide, by decide, by decide, by decide⟩
  rw [upd_ne ne]
  exact h2
end
def sp__law_draw (K : PySem.W.Frag) : Sp := fun vs H Q _ => ∃ (t : Addr) (m : Int) (b : Nat), vs = [.ref t, .int m] ∧ Tape b H t ∧ b < 1000000000 ∧ 0 < m ∧ m < 2 ^ 256 ∧ ∀ (r : Int) H', 0 ≤ r → r < m → Gr [t] H H' → Tape (b + 1) H' t → Q (.int r) H'
theorem w_draw {K : PySem.W.Frag} {H : Hp} {Q : VK} {E : XK} {t : Addr} {m : Int} {b : Nat} (h : Tape b H t) (hb : b < 1000000000) (hm : 0 < m) (hm2 : m < 2 ^ 256) (k : ∀ (r : Int) H', 0 ≤ r → r < m → Gr [t] H H' → Tape (b + 1) H' t → Q (.int r) H') : sp__law_draw K [.ref t, .int m] H Q E := ⟨t, m, b, rfl, h, hb, hm, hm2, k⟩
section
variable {P : Program} {w : World} {K : PySem.W.Frag} {mg : Str → Option Value} {base : Heap}
theorem ok__law_draw (c : Ctx K mg) : FnOk P w K mg base (L2.CX P w) 1 (A__law_draw K) (fdA K (A__law_draw K)) ["_law_tape", "_law_many"] (sp__law_draw K) := by
  refine okT (F__law_draw c) sc__law_draw (fun vs H Q E h => ?_) (fun cdv A outer s H vs Q E hr h tk pown => ?_)
  · first | (obtain ⟨rfl, _⟩ := h; rfl) | (obtain ⟨_, rfl, _⟩ := h; rfl) | (obtain ⟨_, _, rfl, _⟩ := h; rfl) | (obtain ⟨_, _, _, rfl, _⟩ := h; rfl) | (obtain ⟨_, _, _, _, rfl, _⟩ := h; rfl) | (obtain ⟨_, _, _, _, _, rfl, _⟩ := h; rfl) | (obtain ⟨_, _, _, _, _, _, rfl, _⟩ := h; rfl) | (obtain ⟨_, _, _, _, _, _, _, rfl, _⟩ := h; rfl)
  · skip
    refine ⟨_, (pss_cut (ps_if (PW.pt (pw_and (pt_cmpR op_eq (pe_ix ix_list (pv 0) pe_int (fun _ _ => rfl)) pe_int (nomark _)) (pw_and1 (pt_cmpR op_lt (pe_ix ix_list (pv 0) pe_int (fun _ _ => rfl)) (pe_callB cr_len rfl (n_len c) (by decide +kernel) (pa_cons (pe_ix ix_list (pv 0) pe_int (fun _ _ => rfl)) pa_nil)) (nomark _)))))
    (pss_cons (ps_asg (pe_callB cr_abs rfl (n_abs c) (by decide +kernel) (pa_cons (pe_ix ix_list (pe_ix ix_list (pv 0) pe_int (fun _ _ => rfl)) (pe_ix ix_list (pv 0) pe_int (fun _ _ => rfl)) (fun _ _ => rfl)) pa_nil)) (pg_sub (pv 0) pe_int set_list))
    (pss_one (ps_asg (pe_op op_add (pe_ix ix_list (pv 0) pe_int (fun _ _ => rfl)) pe_int) (pg_sub (pv 0) pe_int set_list))))
    (pss_one (ps_if (pt_cmpR op_eq (pe_ix ix_list (pv 0) pe_int (fun _ _ => rfl)) pe_int (nomark _))
      (pss_cons (ps_asg (pe_op op_add (pe_ix ix_list (pv 0) pe_int (fun _ _ => rfl)) pe_int) (pg_sub (pv 0) pe_int set_list))
      (pss_cons (ps_if (pt_cmpR (op_eqD hr.units) (pe_ix ix_list (pv 0) pe_int (fun _ _ => rfl)) (pe_lstN pa_nil) (nomark _))
        (pss_one (ps_ret pe_int))
        pss_nil)
      (pss_cons (ps_set (i := 2) sc__law_draw.nd rfl (Or.inl rfl) (pe_ix ix_list (pe_ix ix_list (pv 0) pe_int (fun _ _ => rfl)) (pe_op op_mod (pe_callTy cr_int rfl (n_int c) (by decide +kernel) (pa_cons (pe_ix ix_list (pv 0) pe_int (fun _ _ => rfl)) pa_nil)) (pe_callB cr_len rfl (n_len c) (by decide +kernel) (pa_cons (pe_ix ix_list (pv 0) pe_int (fun _ _ => rfl)) pa_nil))) (fun _ _ => rfl)))
      (pss_one (ps_ret (pe_op op_mod (pe_callTy cr_int rfl (n_int c) (by decide +kernel) (pa_cons (pe_op op_add (pe_op op_mul (pv 2) (pe_op op_add (pe_ix ix_list (pv 0) pe_int (fun _ _ => rfl)) pe_int)) (pe_op op_mul (pe_ix ix_list (pv 0) pe_int (fun _ _ => rfl)) (pe_ix ix_list (pv 0) pe_int (fun _ _ => rfl)))) pa_nil)) (pv 1)))))))
      pss_nil)))
  (pss_cons (ps_set (i := 3) sc__law_draw.nd rfl (Or.inl rfl) (pe_op op_mod (pe_callTy cr_int rfl (n_int c) (by decide +kernel) (pa_cons (pe_ix ix_list (pv 0) pe_int (fun _ _ => rfl)) pa_nil)) (pv 1)))
  (pss_cons (ps_asg (pe_op op_fdivW (pe_ix ix_list (pv 0) pe_int (fun _ _ => rfl)) (pv 1)) (pg_sub (pv 0) pe_int set_list))
  (pss_one (ps_ret (pv 3)))))), ?_⟩
    clear tk pown hr
    have h_nc : NumC K := ⟨cl_Numbering c, na_Numbering_places c⟩
    obtain ⟨t, m, b, rfl, ⟨a, o, ns, i, n, k, h1, h2, hlen, hi, hn, hk, hkb⟩, hb, hm, hm2, Qk⟩ := h
    dsimp only [L2.start, N__law_draw, cxOf, Cx.tr, Cx.suite, List.map, List.length, Nat.reduceAdd, Nat.reduceSub, List.replicate, List.cons_append, List.nil_append, List.append_nil]
    have wd : ∀ j : Int, CDivW j m := fun j => wide_div hm (by omega : m.natAbs < 2 ^ 256) (by decide) (by decide)
    refine w_cut (fun σ' H' => ∃ i' n' : Int, σ' = [some (.ref t), some (.int m), none, none] ∧ Gr [t] H H' ∧ 0 ≤ i' ∧ 0 ≤ n' ∧ H' t = some (.lst [.ref a, .int i', .int n', .int k])) ?_ ?_
    · walk_at "w"
      refine w_iteI (fun e0 => ?_) (fun e0 => ?_)
      · walk_at "w"
        refine w_iteP (fun e1 => ?_) (fun e1 => ?_)
        · rw [List.length_map] at e1
          obtain ⟨x, hx, _⟩ := ints_at (ns := ns) hi e1
          walk_at "w"
          refine w_ixL (by walk_at "sql") hx ?_
          walk_at "w"
          refine ⟨i + 1, _, rfl, by walk_at "gr", by omega, ?_, by assumption⟩
          split <;> omega
        · walk_at "w"
          refine w_iteI (fun _ => ?_) (fun e2 => absurd e0 e2)
          walk_at "w"
          refine w_eqD (d := .lst (dInts ns)) (e := .lst (dInts [])) 1 ?_ ?_ (dep_ints ns 0) rfl (by decide) (fun e2 => ?_) (fun e2 => ?_)
          · exact rep_lstI (by walk_at "sql")
          · exact rep_lstI (by walk_at "sql")
          · walk_at "w"
            exact Qk 0 _ (by decide) hm (by walk_at "gr") ⟨a, o, ns, i, n, k + 1, by walk_at "at", by walk_at "at", hlen, hi, hn, by omega, by omega⟩
          · have hl0 : 0 < ns.length := by
              cases ns with
              | nil => exact absurd rfl e2
              | cons x xs => exact Nat.succ_pos _
            have hl1 : (0 : Int) < ((ns.map V.int).length : Nat) := by rw [List.length_map]; omega
            have m0 : 0 ≤ (k + 1) % ((ns.map V.int).length : Int) := Int.emod_nonneg _ (by omega)
            have m1 : (k + 1) % ((ns.map V.int).length : Int) < ns.length := by
              have z := Int.emod_lt_of_pos (k + 1) hl1
              rw [List.length_map] at z ⊢
              exact z
            obtain ⟨x, hx, _⟩ := ints_at (ns := ns) m0 m1
            walk_at "w"
            refine w_rI hl1 ?_
            walk_at "w"
            refine w_ixL (by walk_at "sql") hx ?_
            walk_at "w"
            refine w_rI (.inr ⟨by omega, by omega⟩) ?_
            walk_at "w"
            refine w_rI (.inr ⟨by omega, by omega⟩) ?_
            walk_at "w"
            refine w_rI hm ?_
            exact Qk _ _ (Int.emod_nonneg _ (by omega)) (Int.emod_lt_of_pos _ hm) (by walk_at "gr") ⟨a, o, ns, i, n, k + 1, by walk_at "at", by walk_at "at", hlen, hi, hn, by omega, by omega⟩
      · walk_at "w"
        refine w_iteI (fun e1 => absurd e1 e0) (fun _ => ?_)
        walk_at "w"
        exact ⟨i, n, rfl, by walk_at "gr", hi, hn, h1⟩
    · rintro σ' H' ⟨i', n', rfl, g, hi', hn', ht⟩
      walk_at "w"
      refine w_rI hm ?_
      walk_at "w"
      refine w_rI (wd _) ?_
      walk_at "w"
      exact Qk _ _ (Int.emod_nonneg _ (by omega)) (Int.emod_lt_of_pos _ hm) (by walk_at "gr") ⟨a, o, ns, i', _, k, by walk_at "at", by walk_at "at", hlen, hi', Int.ediv_nonneg hn' (by omega), hk, by omega⟩
end
def sp__law_shuffled (K : PySem.W.Frag) : Sp := fun vs H Q _ => ∃ (t : Addr) (m b : Nat), vs = [.ref t, .int m] ∧ Tape b H t ∧ b < 100000000 ∧ 1 ≤ m ∧ m ≤ 12 ∧ ∀ l ps H', H l = none → Gr [t] H H' → H' l = some (.lst (ps.map V.int)) → IsNum ps → ps.length = m → Tape (b + 12) H' t → Q (.ref l) H'
theorem w_shuffled {K : PySem.W.Frag} {H : Hp} {Q : VK} {E : XK} {t : Addr} {m b : Nat} (h : Tape b H t) (hb : b < 100000000) (m1 : 1 ≤ m) (m2 : m ≤ 12) (k : ∀ l ps H', H l = none → Gr [t] H H' → H' l = some (.lst (ps.map V.int)) → IsNum ps → ps.length = m → Tape (b + 12) H' t → Q (.ref l) H') : sp__law_shuffled K [.ref t, .int m] H Q E := ⟨t, m, b, rfl, h, hb, m1, m2, k⟩
section
variable {P : Program} {w : World} {K : PySem.W.Frag} {mg : Str → Option Value} {base : Heap}
theorem ok__law_shuffled (c : Ctx K mg) : FnOk P w K mg base (L2.CX P w) 2 (A__law_shuffled K) (fdA K (A__law_shuffled K)) ["_law_tape", "_law_cells"] (sp__law_shuffled K) := by
  refine okT (F__law_shuffled c) sc__law_shuffled (fun vs H Q E h => ?_) (fun cdv A outer s H vs Q E hr h tk pown => ?_)
  · first | (obtain ⟨rfl, _⟩ := h; rfl) | (obtain ⟨_, rfl, _⟩ := h; rfl) | (obtain ⟨_, _, rfl, _⟩ := h; rfl) | (obtain ⟨_, _, _, rfl, _⟩ := h; rfl) | (obtain ⟨_, _, _, _, rfl, _⟩ := h; rfl) | (obtain ⟨_, _, _, _, _, rfl, _⟩ := h; rfl) | (obtain ⟨_, _, _, _, _, _, rfl, _⟩ := h; rfl) | (obtain ⟨_, _, _, _, _, _, _, rfl, _⟩ := h; rfl)
  · skip
    refine ⟨_, (pss_cons (ps_set (i := 2) sc__law_shuffled.nd rfl (Or.inl rfl) (pe_listRg rfl rfl (n_list c) (prg_1 rfl (n_range c) (pv 1))))
  (pss_cons (ps_set (i := 3) sc__law_shuffled.nd rfl (Or.inl rfl) (pe_lstN pa_nil))
  (pss_cons (ps_for pown rfl (pi_range1 rfl (n_range c) (pa_cons (pv 1) pa_nil)) (pg_name (i := 4) sc__law_shuffled.nd rfl (Or.inl rfl))
    (pss_one (ps_expr (pe_bm PySem.F.plainAttrs_list PySem.F.slot_list_append PySem.F.type_list_append mt_append (pv 3) (pa_cons (pe_bm PySem.F.plainAttrs_list PySem.F.slot_list_pop PySem.F.type_list_pop mt_popAt (pv 2) (pa_cons (pe_callS (ok__law_draw c) (hr.mono (by decide)) rfl (g__law_draw c) (F__law_draw c).kp (b__law_draw c) (fun σ => passAt tk σ) (pa_cons (pv 0) (pa_cons (pe_callB cr_len rfl (n_len c) (by decide +kernel) (pa_cons (pv 2) pa_nil)) pa_nil))) pa_nil)) pa_nil)))))
  (pss_one (ps_ret (pv 3)))))), ?_⟩
    clear tk pown hr
    have h_nc : NumC K := ⟨cl_Numbering c, na_Numbering_places c⟩
    obtain ⟨t, m, b, rfl, ht, hb, m1, m2, Qk⟩ := h
    dsimp only [L2.start, N__law_shuffled, cxOf, Cx.tr, Cx.suite, List.map, List.length, Nat.reduceAdd, Nat.reduceSub, List.replicate, List.cons_append, List.nil_append, List.append_nil]
    walk_at "w"
    refine w_kLstRg (by omega) fun q H1 n1 g1 h1 => ?_
    walk_at "w"
    rename_i l H2 n2 g2 h2
    refine w_rRng1N (by omega) ?_
    have nl : H l = none := g1.free0 n2
    have qt : t ≠ q := ht.ne n1
    have lt : t ≠ l := ht.ne nl
    have ql : q ≠ l := ne_of_none h1 n2
    refine f_rng (fun i σ' H' => ∃ (acc left : List Int) (o : Option V), σ' = [some (.ref t), some (.int m), some (.ref q), some (.ref l), o] ∧ Gr [t] H H' ∧ H' q = some (.lst (left.map V.int)) ∧ H' l = some (.lst (acc.map V.int)) ∧ acc.length = i ∧ (left ++ acc).Perm (rg m) ∧ Tape (b + i) H' t) ⟨[], rg m, _, rfl, (g1.trans0 g2).weak (fun a ha => ?_), g2.get0 h1, h2, rfl, by rw [List.append_nil], (ht.gr0 g1).gr0 g2⟩ ?_ ?_
    · have e : a = t := by simpa using ha
      subst e
      obtain ⟨_, h⟩ := ht.at
      exact ⟨_, h, rfl⟩
    · rintro i σ' H3 hi ⟨acc, left, o, rfl, g3, hq, hl, ha, hp, ht3⟩
      have ll : left.length = m - i := by
        have e := hp.length_eq
        rw [List.length_append, length_rg] at e
        omega
      walk_at "w"
      rw [List.length_map, ll]
      refine w_draw ht3 (by omega) (by omega) (by omega) fun r H4 r0 r1 g4 ht4 => ?_
      walk_at "w"
      obtain ⟨v, hv⟩ : ∃ v, left[r.toNat]? = some v := ⟨_, List.getElem?_eq_getElem (by omega)⟩
      refine w_popAt (p := q) (xs := left.map V.int) (v := .int v) (n := r.toNat) (by walk_at "at") r0 (by omega) rfl (by rw [List.getElem?_map, hv] <;> rfl) fun H5 g5 h5 => ?_
      walk_at "w"
      refine w_app (p := l) (xs := acc.map V.int) (by walk_at "at") (by rw [List.length_map]; exact smallLt (by omega)) fun H6 g6 h6 => ?_
      walk_at "w"
      refine ⟨acc ++ [v], left.eraseIdx r.toNat, _, rfl, ?_, ?_, by rw [h6, List.map_append] <;> rfl, by rw [List.length_append, ha] <;> rfl, ?_, ?_⟩
      · exact ((g3.trans g4 (sub1 (.inl (by simp)))).trans g5 (sub1 (.inr n1))).trans g6 (sub1 (.inr nl))
      · have z : H6 q = some (.lst ((left.map V.int).eraseIdx r.toNat)) := by walk_at "at"
        rw [z]
        congr 2
        exact eraseIdx_mapL _ _ _
      · have z := eraseIdx_permL hv
        refine .trans ?_ hp
        rw [← List.append_assoc]
        refine (List.perm_append_comm (l₁ := _ ++ acc) (l₂ := [v])).trans ?_
        rw [← List.append_assoc]
        exact z.append_right acc
      · have z : Tape (b + i + 1) H6 t := by walk_at "tape"
        exact z
    · rintro σ' H3 ⟨acc, left, o, rfl, g3, hq, hl, ha, hp, ht3⟩
      have e : left = [] := by
        have e := hp.length_eq
        rw [List.length_append, length_rg] at e
        exact List.eq_nil_of_length_eq_zero (by omega)
      subst e
      walk_at "w"
      refine Qk l acc H3 nl g3 hl ⟨by omega, by omega, by rw [ha]; exact hp⟩ ha (ht3.mono (by omega))
end
section
variable {P : Program} {w : World} {K : PySem.W.Frag} {mg : Str → Option Value} {base : Heap}
theorem ok_Numbering___init__ (c : Ctx K mg) : FnOk P w K mg base (L2.CX P w) 1 (A_Numbering___init__ K) (fdA K (A_Numbering___init__ K)) ["self", "places"] (sp_Numbering___init__ K) := by
  refine okT (F_Numbering___init__ c) sc_Numbering___init__ (fun vs H Q E h => ?_) (fun cdv A outer s H vs Q E hr h tk pown => ?_)
  · first | (obtain ⟨rfl, _⟩ := h; rfl) | (obtain ⟨_, rfl, _⟩ := h; rfl) | (obtain ⟨_, _, rfl, _⟩ := h; rfl) | (obtain ⟨_, _, _, rfl, _⟩ := h; rfl) | (obtain ⟨_, _, _, _, rfl, _⟩ := h; rfl) | (obtain ⟨_, _, _, _, _, rfl, _⟩ := h; rfl) | (obtain ⟨_, _, _, _, _, _, rfl, _⟩ := h; rfl) | (obtain ⟨_, _, _, _, _, _, _, rfl, _⟩ := h; rfl)
  · skip
    refine ⟨_, (pss_cons (ps_set (i := 2) sc_Numbering___init__.nd rfl (Or.inl rfl) (pe_callB cr_len rfl (n_len c) (by decide +kernel) (pa_cons (pv 1) pa_nil)))
  (pss_cons (ps_if (PW.pt (pw_or (pt_not (pt_chain op_le op_le pe_int (pv 2) (ClX.pe_cval (pe_glob (v := .ref (He.ga K "Numbering")) rfl (g_Numbering c) rfl)))) (pw_or1 (pt_cmpR (op_neD hr.units) (pe_callB cr_sortedA rfl (n_sorted c) (by decide +kernel) (pa_cons (pv 1) pa_nil)) (pe_listRg rfl rfl (n_list c) (prg_1 rfl (n_range c) (pv 2))) (nomark _)))))
    (pss_one (ps_raise rfl tk (pmk_own PySem.F.excBase_ValueError (x_BadNumbering c).1 (g_BadNumbering c) (x_BadNumbering c).2.1 (raises_own (x_BadNumbering c).2.2.1 (x_BadNumbering c).2.2.2) rfl)))
    pss_nil)
  (pss_one (ps_fld (pv 0) (pe_callTy cr_tuple rfl (n_tuple c) (by decide +kernel) (pa_cons (pv 1) pa_nil)) rfl)))), ?_⟩
    clear tk pown hr
    have h_cr_Numbering := cr_Numbering c
    have h_cv_Numbering_MOST := cv_Numbering_MOST c
    have h_nc : NumC K := ⟨cl_Numbering c, na_Numbering_places c⟩
    obtain ⟨x, dx, p, ns, rfl, hx, hp, Qk⟩ := h
    dsimp only [L2.start, N_Numbering___init__, cxOf, Cx.tr, Cx.suite, List.map, List.length, Nat.reduceAdd, Nat.reduceSub, List.replicate, List.cons_append, List.nil_append, List.append_nil]
    have cr := cr_Numbering c
    have cv := cv_Numbering_MOST c
    have nc : NumC K := ⟨cl_Numbering c, na_Numbering_places c⟩
    have bad : ∀ H', Gr [] H H' → ¬ IsNum ns → E (.ref (He.ga K "BadNumbering")) none H' := fun H' g n => by
      rcases Qk with ⟨_, q⟩ | ⟨q, _⟩
      · exact q H' g
      · exact absurd q n
    have hp2 : SqL K H p (ns.map V.int) ∨ SqT K H p (ns.map V.int) := hp.imp id (·.sqt)
    walk_at "w"
    rw [List.length_map]
    refine w_iteP (fun e1 => ?_) (fun e1 => ?_)
    · walk_at "w"
      refine w_iteNP (fun e2 => ?_) (fun e2 => ?_)
      · walk_at "w"
        exact bad _ (Gr.refl _) fun z => e2 (by have := z.2.1; omega)
      · walk_at "w"
        refine w_sorted hp2 (by omega) fun ns' q H1 n1 g1 h1 hp1 hp3 => ?_
        walk_at "w"
        refine w_kLstRg (by omega) fun q2 H2 n2 g2 h2 => ?_
        refine w_neD (d := .lst (dInts ns')) (e := .lst (dInts (rg ns.length))) 1 (by walk_at "rep") (by walk_at "rep") (dep_ints _ 0) (dep_ints _ 0) (by decide) (fun e => ?_) (fun e => ?_)
        · have e3 : ns' = rg ns.length := dInts_inj (D.lst.inj e)
          have hn : IsNum ns := ⟨by omega, by omega, (sorted_iff hp1 hp3).mp e3⟩
          have Qk : ∀ t H', Gr [x] H H' → H' x = some (.ins (NC K) dx [("places", .ref t)]) → TupX H' t (ns.map V.int) → Q .non H' := by
            rcases Qk with ⟨q, _⟩ | ⟨_, q⟩
            · exact absurd hn q
            · exact q
          walk_at "w"
          rcases hp with hp | hp
          · refine w_tupOfL (by walk_at "sql") fun t H3 n3 g3 h3 => ?_
            walk_at "w"
            refine w_rPut (by walk_at "at") nc.cls nc.na (by decide) rfl fun H4 g4 h4 => ?_
            exact Qk t H4 (by walk_at "gr") h4 (by walk_at "tx")
          · refine w_tupOfT (by walk_at "sqt") ?_
            walk_at "w"
            refine w_rPut (by walk_at "at") nc.cls nc.na (by decide) rfl fun H4 g4 h4 => ?_
            exact Qk p H4 (by walk_at "gr") h4 (by walk_at "tx")
        · walk_at "w"
          exact bad _ (by walk_at "gr") fun z => e (congrArg (fun l => D.lst (dInts l)) ((sorted_iff hp1 hp3).mpr z.2.2))
    · walk_at "w"
      exact bad _ (Gr.refl _) fun z => e1 (by have := z.1; omega)
end
def spS : Nat → PySem.W.Frag → Sp
  | 0, _ => fun _ _ _ _ => False
  | n + 1, K => fun vs H Q _ => ∃ (v w : V) (d : D), vs = [v, w] ∧ Rep K H d v ∧ Rep K H d w ∧ d.lev n = true ∧ Q (.bl true) H
abbrev sp__law_same (K : PySem.W.Frag) : Sp := spS 9 K
theorem w_same {K : PySem.W.Frag} {H : Hp} {Q : VK} {E : XK} {v w : V} (d : D) (hv : Rep K H d v) (hw : Rep K H d w) (hd : d.lev 8 = true) (k : Q (.bl true) H) : sp__law_same K [v, w] H Q E := ⟨v, w, d, rfl, hv, hw, hd, k⟩
theorem w_sameI {K : PySem.W.Frag} {H : Hp} {Q : VK} {E : XK} {i j : Int} (e : i = j) (k : Q (.bl true) H) : sp__law_same K [.int i, .int j] H Q E := w_same (.int j) (by rw [e]; exact .int j) (.int j) rfl k
theorem w_sameT {K : PySem.W.Frag} {H : Hp} {Q : VK} {E : XK} {a b : Addr} {ns : List Int} (ha : SqT K H a (ns.map V.int)) (hb : SqT K H b (ns.map V.int)) (hl : ns.length ≤ 1000000) (k : Q (.bl true) H) : sp__law_same K [.ref a, .ref b] H Q E := w_same (.tup (dInts ns)) (rep_tupI ha) (rep_tupI hb) (lev_tupI hl) k
theorem w_sameL {K : PySem.W.Frag} {H : Hp} {Q : VK} {E : XK} {a b : Addr} {ns : List Int} (ha : SqL K H a (ns.map V.int)) (hb : SqL K H b (ns.map V.int)) (hl : ns.length ≤ 1000000) (k : Q (.bl true) H) : sp__law_same K [.ref a, .ref b] H Q E := w_same (.lst (dInts ns)) (rep_lstI ha) (rep_lstI hb) (lev_lstI hl) k
theorem w_sameB {K : PySem.W.Frag} {H : Hp} {Q : VK} {E : XK} {b c : Bool} (e : b = c) (k : Q (.bl true) H) : sp__law_same K [.bl b, .bl c] H Q E := w_same (.bl c) (by rw [e]; exact .bl c) (.bl c) rfl k
section
variable {P : Program} {w : World} {K : PySem.W.Frag} {mg : Str → Option Value} {base : Heap}
theorem okS (c : Ctx K mg) : ∀ n : Nat, FnOk P w K mg base (L2.CX P w) n (A__law_same K) (fdA K (A__law_same K)) ["_law_actual", "_law_expected"] (spS n K) := by
  intro n
  induction n with
  | zero => exact ⟨fun _ _ _ _ h => h.elim, fun _ _ _ _ _ _ _ _ _ _ _ _ _ h => h.elim⟩
  | succ n ih =>
    refine okT (F__law_same c) sc__law_same (fun vs H Q E h => ?_) (fun cdv A outer s H vs Q E hr h tk pown => ?_)
    · obtain ⟨_, _, _, rfl, _⟩ := h; rfl
    · refine ⟨_, (pss_cons (ps_if (PW.pt (pw_and (pt_val (pe_callB call_isi rfl (n_isinstance c) (by decide +kernel) (pa_cons (pv 1) (pa_cons (pe_bltn (v := .ty "tuple") (u := .type "tuple") rfl (n_tuple c) (by decide +kernel) rfl) pa_nil)))) (pw_and1 (pt_not (pt_val (pe_callB call_isi rfl (n_isinstance c) (by decide +kernel) (pa_cons (pv 0) (pa_cons (pe_bltn (v := .ty "tuple") (u := .type "tuple") rfl (n_tuple c) (by decide +kernel) rfl) pa_nil))))))))
    (pss_one (ps_ret pe_bl))
    pss_nil)
  (pss_cons (ps_if (PW.pt (pw_and (pt_val (pe_callB call_isi rfl (n_isinstance c) (by decide +kernel) (pa_cons (pv 1) (pa_cons (pe_bltn (v := .ty "list") (u := .type "list") rfl (n_list c) (by decide +kernel) rfl) pa_nil)))) (pw_and1 (pt_not (pt_val (pe_callB call_isi rfl (n_isinstance c) (by decide +kernel) (pa_cons (pv 0) (pa_cons (pe_bltn (v := .ty "list") (u := .type "list") rfl (n_list c) (by decide +kernel) rfl) pa_nil))))))))
    (pss_one (ps_ret pe_bl))
    pss_nil)
  (pss_cons (ps_if (PW.pt (pw_or (pt_val (pe_callB call_isi rfl (n_isinstance c) (by decide +kernel) (pa_cons (pv 1) (pa_cons (pe_bltn (v := .ty "tuple") (u := .type "tuple") rfl (n_tuple c) (by decide +kernel) rfl) pa_nil)))) (pw_or1 (pt_val (pe_callB call_isi rfl (n_isinstance c) (by decide +kernel) (pa_cons (pv 1) (pa_cons (pe_bltn (v := .ty "list") (u := .type "list") rfl (n_list c) (by decide +kernel) rfl) pa_nil)))))))
    (pss_cons (ps_if (pt_cmpR op_ne (pe_callB cr_len rfl (n_len c) (by decide +kernel) (pa_cons (pv 0) pa_nil)) (pe_callB cr_len rfl (n_len c) (by decide +kernel) (pa_cons (pv 1) pa_nil)) (nomark _))
      (pss_one (ps_ret pe_bl))
      pss_nil)
    (pss_cons (ps_for pown rfl (pi_range1 rfl (n_range c) (pa_cons (pe_callB cr_len rfl (n_len c) (by decide +kernel) (pa_cons (pv 1) pa_nil)) pa_nil)) (pg_name (i := 2) sc__law_same.nd rfl (Or.inl rfl))
      (pss_one (ps_if (pt_not (pt_val (pe_callS ih hr rfl (g__law_same c) (F__law_same c).kp (b__law_same c) (fun σ => passAt tk σ) (pa_cons (pe_ix ix_seq (pv 0) (pv 2) (fun _ _ => rfl)) (pa_cons (pe_ix ix_seq (pv 1) (pv 2) (fun _ _ => rfl)) pa_nil)))))
        (pss_one (ps_ret pe_bl))
        pss_nil)))
    (pss_one (ps_ret pe_bl))))
    pss_nil)
  (pss_cons (ps_if (pt_val (pe_callB call_isi rfl (n_isinstance c) (by decide +kernel) (pa_cons (pv 1) (pa_cons (pe_bltn (v := .ty "bool") (u := .type "bool") rfl (n_bool c) (by decide +kernel) rfl) pa_nil))))
    (pss_one (ps_ret (pe_and (pe_callB call_isi rfl (n_isinstance c) (by decide +kernel) (pa_cons (pv 0) (pa_cons (pe_bltn (v := .ty "bool") (u := .type "bool") rfl (n_bool c) (by decide +kernel) rfl) pa_nil))) (pe_one (pe_cmpR op_eq (pv 0) (pv 1) (nomark _))))))
    pss_nil)
  (pss_cons (ps_if (pt_val (pe_callB call_isi rfl (n_isinstance c) (by decide +kernel) (pa_cons (pv 1) (pa_cons (pe_bltn (v := .ty "int") (u := .type "int") rfl (n_int c) (by decide +kernel) rfl) pa_nil))))
    (pss_one (ps_ret (pe_and (pe_callB call_isi rfl (n_isinstance c) (by decide +kernel) (pa_cons (pv 0) (pa_cons (pe_bltn (v := .ty "int") (u := .type "int") rfl (n_int c) (by decide +kernel) rfl) pa_nil))) (pe_and (pe_not (pe_callB call_isi rfl (n_isinstance c) (by decide +kernel) (pa_cons (pv 0) (pa_cons (pe_bltn (v := .ty "bool") (u := .type "bool") rfl (n_bool c) (by decide +kernel) rfl) pa_nil)))) (pe_one (pe_cmpR op_eq (pv 0) (pv 1) (nomark _)))))))
    pss_nil)
  (pss_cons (ps_if (pt_val (pe_callB call_isi rfl (n_isinstance c) (by decide +kernel) (pa_cons (pv 1) (pa_cons (pe_bltn (v := .ty "str") (u := .type "str") rfl (n_str c) (by decide +kernel) rfl) pa_nil))))
    (pss_one (ps_ret (pe_and (pe_callB call_isi rfl (n_isinstance c) (by decide +kernel) (pa_cons (pv 0) (pa_cons (pe_bltn (v := .ty "str") (u := .type "str") rfl (n_str c) (by decide +kernel) rfl) pa_nil))) (pe_one (pe_cmpR op_eq (pv 0) (pv 1) (nomark _))))))
    pss_nil)
  (pss_one (ps_ret (pe_cmpR op_isN (pv 0) pe_non (nomark _)))))))))), ?_⟩
      clear tk pown hr
      obtain ⟨v, w, d, rfl, hv, hw, hd, k⟩ := h
      dsimp only [L2.start, N__law_same, cxOf, List.map, List.length, Nat.reduceAdd, Nat.reduceSub, List.replicate, List.cons_append, List.nil_append, List.append_nil]
      cases d with
      | ins C ns ds => cases n <;> cases hd
      | int i =>
        cases hv
        cases hw
        walk_at "w"
        exact w_bT (Q := Q) (decide_eq_true rfl) k
      | bl i =>
        cases hv
        cases hw
        walk_at "w"
        exact w_bT (Q := Q) (decide_eq_true rfl) k
      | str i =>
        cases hv
        cases hw
        walk_at "w"
        exact w_bT (Q := Q) (decide_eq_true rfl) k
      | non =>
        cases hv
        cases hw
        walk_at "w"
        exact ⟨rfl, k⟩
      | tup ds =>
        cases n with
        | zero => cases hd
        | succ n =>
        have hd0 : (decide (ds.length ≤ 1000000) && ds.all (D.lev n)) = true := hd
        obtain ⟨hdl, hd'⟩ := Bool.and_eq_true_iff.mp hd0
        have hdl := of_decide_eq_true hdl
        have hv0 := hv
        have hw0 := hw
        cases hv with
        | tup q1 r1 =>
        cases hw with
        | tup q2 r2 =>
        rename_i a xs a2 xs2
        have l1 := Reps.len r1
        have l2 := Reps.len r2
        walk_at "w"
        refine w_iteIN (fun e => absurd (by rw [l1, l2]) e) (fun _ => ?_)
        walk_at "w"
        refine w_rRng1N (by omega) ?_
        refine f_rng (fun i σ' H' => ∃ o, σ' = [some (.ref a), some (.ref a2), o] ∧ H' = H) ⟨none, rfl, rfl⟩ ?_ ?_
        · rintro i σ' H' hi ⟨o, rfl, rfl⟩
          rw [Int.zero_add]
          obtain ⟨d, hdi⟩ : ∃ d, ds[i]? = some d := ⟨_, List.getElem?_eq_getElem (by omega)⟩
          obtain ⟨v, hv1, hv2⟩ := reps_get r1 hdi
          obtain ⟨w, hw1, hw2⟩ := reps_get r2 hdi
          walk_at "w"
          refine ⟨v, w, d, rfl, hv2, hw2, List.all_eq_true.mp hd' d (List.mem_of_getElem? hdi), ?_⟩
          walk_at "w"
          exact ⟨_, rfl, rfl⟩
        · rintro σ' H' ⟨o, rfl, rfl⟩
          walk_at "w"
          exact k
      | lst ds =>
        cases n with
        | zero => cases hd
        | succ n =>
        have hd0 : (decide (ds.length ≤ 1000000) && ds.all (D.lev n)) = true := hd
        obtain ⟨hdl, hd'⟩ := Bool.and_eq_true_iff.mp hd0
        have hdl := of_decide_eq_true hdl
        have hv0 := hv
        have hw0 := hw
        cases hv with
        | lst q1 r1 =>
        cases hw with
        | lst q2 r2 =>
        rename_i a xs a2 xs2
        have l1 := Reps.len r1
        have l2 := Reps.len r2
        walk_at "w"
        refine w_iteIN (fun e => absurd (by rw [l1, l2]) e) (fun _ => ?_)
        walk_at "w"
        refine w_rRng1N (by omega) ?_
        refine f_rng (fun i σ' H' => ∃ o, σ' = [some (.ref a), some (.ref a2), o] ∧ H' = H) ⟨none, rfl, rfl⟩ ?_ ?_
        · rintro i σ' H' hi ⟨o, rfl, rfl⟩
          rw [Int.zero_add]
          obtain ⟨d, hdi⟩ : ∃ d, ds[i]? = some d := ⟨_, List.getElem?_eq_getElem (by omega)⟩
          obtain ⟨v, hv1, hv2⟩ := reps_get r1 hdi
          obtain ⟨w, hw1, hw2⟩ := reps_get r2 hdi
          walk_at "w"
          refine ⟨v, w, d, rfl, hv2, hw2, List.all_eq_true.mp hd' d (List.mem_of_getElem? hdi), ?_⟩
          walk_at "w"
          exact ⟨_, rfl, rfl⟩
        · rintro σ' H' ⟨o, rfl, rfl⟩
          walk_at "w"
          exact k
theorem ok__law_same (c : Ctx K mg) : FnOk P w K mg base (L2.CX P w) 9 (A__law_same K) (fdA K (A__law_same K)) ["_law_actual", "_law_expected"] (sp__law_same K) := okS c 9
end
section
variable {P : Program} {w : World} {K : PySem.W.Frag} {mg : Str → Option Value} {base : Heap}
theorem ok_Numbering___mul__ (c : Ctx K mg) : FnOk P w K mg base (L2.CX P w) 3 (A_Numbering___mul__ K) (fdA K (A_Numbering___mul__ K)) ["self", "other"] (sp_Numbering___mul__ K) := by
  refine okT (F_Numbering___mul__ c) sc_Numbering___mul__ (fun vs H Q E h => ?_) (fun cdv A outer s H vs Q E hr h tk pown => ?_)
  · first | (obtain ⟨rfl, _⟩ := h; rfl) | (obtain ⟨_, rfl, _⟩ := h; rfl) | (obtain ⟨_, _, rfl, _⟩ := h; rfl) | (obtain ⟨_, _, _, rfl, _⟩ := h; rfl) | (obtain ⟨_, _, _, _, rfl, _⟩ := h; rfl) | (obtain ⟨_, _, _, _, _, rfl, _⟩ := h; rfl) | (obtain ⟨_, _, _, _, _, _, rfl, _⟩ := h; rfl) | (obtain ⟨_, _, _, _, _, _, _, rfl, _⟩ := h; rfl)
  · skip
    refine ⟨_, (pss_cons (ps_if (pt_cmpR op_ne (pe_callB cr_len rfl (n_len c) (by decide +kernel) (pa_cons (pe_fld (pv 0) rfl) pa_nil)) (pe_callB cr_len rfl (n_len c) (by decide +kernel) (pa_cons (pe_fld (pv 1) rfl) pa_nil)) (nomark _))
    (pss_one (ps_raise rfl tk (pmk_own PySem.F.excBase_ValueError (x_BadNumbering c).1 (g_BadNumbering c) (x_BadNumbering c).2.1 (raises_own (x_BadNumbering c).2.2.1 (x_BadNumbering c).2.2.2) rfl)))
    pss_nil)
  (pss_one (ps_ret (pe_makeS (pe_glob (v := .ref (He.ga K "Numbering")) rfl (g_Numbering c) rfl) (mk_Numbering c) (rawF (ok_Numbering___init__ c) (b_Numbering___init__ c)) (hr.mono (by decide)) (fun σ => passAt tk σ) (pa_cons (pe_lcD (own := [("place", 2)]) (g := gName 2) (tt := fun _ _ _ _ _ => tYes) rfl sc_Numbering___mul__.nd (pi_tup (pe_fld (pv 1) rfl)) (blkOk_by (N := N_Numbering___mul__) (sc := defScope s_Numbering___mul__) (by decide +kernel)) (fun _ _ _ _ _ => (pg_name (i := 2) sc_Numbering___mul__.nd rfl (Or.inl rfl))) (fun _ _ _ _ _ => pts_nil) (fun _ _ _ _ _ => (pe_ix ix_tup (pe_fld (pv 0) rfl) (pv 2) (fun _ _ => rfl)))) pa_nil))))), ?_⟩
    clear tk pown hr
    have h_nc : NumC K := ⟨cl_Numbering c, na_Numbering_places c⟩
    obtain ⟨a, b, ps, qs, rfl, ha, hb, Qk⟩ := h
    dsimp only [L2.start, N_Numbering___mul__, cxOf, Cx.tr, Cx.suite, List.map, List.length, Nat.reduceAdd, Nat.reduceSub, List.replicate, List.cons_append, List.nil_append, List.append_nil]
    have nc : NumC K := ⟨cl_Numbering c, na_Numbering_places c⟩
    walk_at "w"
    rw [List.length_map, List.length_map]
    refine w_iteIN (fun e1 => ?_) (fun e1 => ?_)
    · rcases Qk with ⟨_, q⟩ | ⟨q, _⟩
      · exact q _ (Gr.refl _)
      · exact absurd (congrArg Int.ofNat q) e1
    · have el : ps.length = qs.length := by omega
      have Qk : ∀ c H', H c = none → Gr [] H H' → Num K H' c (mulP ps qs) → Q (.ref c) H' := by
        rcases Qk with ⟨q, _⟩ | ⟨_, q⟩
        · exact absurd el q
        · exact q
      have l12 := hb.1.2.1
      walk_at "w"
      rename_i t ht
      refine k_lcTupI (ns := qs) (fun y => .int (atP ps y)) (by omega) ht.sqt (fun D i y H2 hy hi g hk => ?_) (fun D H2 n2 g2 h2 => ?_)
      · have hb2 := hb.1.get hy
        walk_at "w"
        refine ⟨rfl, ?_⟩
        walk_at "w"
        refine w_ixT (by walk_at "sqt") (atP_at hb2.1 (by omega)) ?_
        exact hk _ _ (Gr.refl _) rfl
      · walk_at "w"
        have e : (qs.map fun y => V.int (atP ps y)) = (mulP ps qs).map V.int := by
          unfold mulP
          rw [List.map_map] <;> rfl
        rw [e] at h2
        refine w_num (.inl (sql_of h2)) (isNum_mul ha.1 hb.1 el) fun a H3 n3 g3 h3 => ?_
        exact Qk a H3 (g2.free0 n3) (by walk_at "gr") h3
end
section
variable {P : Program} {w : World} {K : PySem.W.Frag} {mg : Str → Option Value} {base : Heap}
theorem ok_Numbering___invert__ (c : Ctx K mg) : FnOk P w K mg base (L2.CX P w) 3 (A_Numbering___invert__ K) (fdA K (A_Numbering___invert__ K)) ["self"] (sp_Numbering___invert__ K) := by
  refine okT (F_Numbering___invert__ c) sc_Numbering___invert__ (fun vs H Q E h => ?_) (fun cdv A outer s H vs Q E hr h tk pown => ?_)
  · first | (obtain ⟨rfl, _⟩ := h; rfl) | (obtain ⟨_, rfl, _⟩ := h; rfl) | (obtain ⟨_, _, rfl, _⟩ := h; rfl) | (obtain ⟨_, _, _, rfl, _⟩ := h; rfl) | (obtain ⟨_, _, _, _, rfl, _⟩ := h; rfl) | (obtain ⟨_, _, _, _, _, rfl, _⟩ := h; rfl) | (obtain ⟨_, _, _, _, _, _, rfl, _⟩ := h; rfl) | (obtain ⟨_, _, _, _, _, _, _, rfl, _⟩ := h; rfl)
  · skip
    refine ⟨_, (pss_one (ps_ret (pe_makeS (pe_glob (v := .ref (He.ga K "Numbering")) rfl (g_Numbering c) rfl) (mk_Numbering c) (rawF (ok_Numbering___init__ c) (b_Numbering___init__ c)) (hr.mono (by decide)) (fun σ => passAt tk σ) (pa_cons (pe_lcD (own := [("place", 1)]) (g := gName 1) (tt := fun _ _ _ _ _ => tYes) rfl sc_Numbering___invert__.nd (pi_range1 rfl (n_range c) (pa_cons (pe_callB cr_len rfl (n_len c) (by decide +kernel) (pa_cons (pe_fld (pv 0) rfl) pa_nil)) pa_nil)) (blkOk_by (N := N_Numbering___invert__) (sc := defScope s_Numbering___invert__) (by decide +kernel)) (fun _ _ _ _ _ => (pg_name (i := 1) sc_Numbering___invert__.nd rfl (Or.inl rfl))) (fun _ _ _ _ _ => pts_nil) (fun _ _ _ _ _ => (pe_bmX PySem.F.slot_tuple_index PySem.F.type_tuple_index mt_tindex (pe_fld (pv 0) rfl) (pa_cons (pv 1) pa_nil)))) pa_nil)))), ?_⟩
    clear tk pown hr
    have h_nc : NumC K := ⟨cl_Numbering c, na_Numbering_places c⟩
    obtain ⟨a, ps, rfl, ha, Qk⟩ := h
    dsimp only [L2.start, N_Numbering___invert__, cxOf, Cx.tr, Cx.suite, List.map, List.length, Nat.reduceAdd, Nat.reduceSub, List.replicate, List.cons_append, List.nil_append, List.append_nil]
    have hp := ha.1
    have p2 := hp.2.1
    walk_at "w"
    rw [List.length_map]
    refine w_rRng1N (by omega) ?_
    refine k_lcRngM (fun k => .int (ps.idxOf (k : Int) : Nat)) (by omega) (fun D i H2 hi g hk => ?_) (fun D H2 n2 g2 h2 => ?_)
    · rw [Int.zero_add]
      walk_at "w"
      refine ⟨rfl, ?_⟩
      walk_at "w"
      refine w_indexT (by walk_at "sqt") (hp.mem.mpr ⟨by omega, by omega⟩) ?_
      exact hk _ _ (Gr.refl _) rfl
    · walk_at "w"
      have e : ((List.range ps.length).map fun (k : Nat) => V.int (ps.idxOf (k : Int) : Nat)) = (invP ps).map V.int := by
        unfold invP rg
        rw [List.map_map, List.map_map] <;> rfl
      rw [e] at h2
      refine w_num (.inl (sql_of h2)) (isNum_inv hp) fun a H3 n3 g3 h3 => ?_
      exact Qk a H3 (g2.free0 n3) (by walk_at "gr") h3
end
section
variable {P : Program} {w : World} {K : PySem.W.Frag} {mg : Str → Option Value} {base : Heap}
theorem ok_Numbering___eq__ (c : Ctx K mg) : FnOk P w K mg base (L2.CX P w) 1 (A_Numbering___eq__ K) (fdA K (A_Numbering___eq__ K)) ["self", "other"] (sp_Numbering___eq__ K) := by
  refine okT (F_Numbering___eq__ c) sc_Numbering___eq__ (fun vs H Q E h => ?_) (fun cdv A outer s H vs Q E hr h tk pown => ?_)
  · first | (obtain ⟨rfl, _⟩ := h; rfl) | (obtain ⟨_, rfl, _⟩ := h; rfl) | (obtain ⟨_, _, rfl, _⟩ := h; rfl) | (obtain ⟨_, _, _, rfl, _⟩ := h; rfl) | (obtain ⟨_, _, _, _, rfl, _⟩ := h; rfl) | (obtain ⟨_, _, _, _, _, rfl, _⟩ := h; rfl) | (obtain ⟨_, _, _, _, _, _, rfl, _⟩ := h; rfl) | (obtain ⟨_, _, _, _, _, _, _, rfl, _⟩ := h; rfl)
  · skip
    refine ⟨_, (pss_one (ps_ret (pe_and (pe_callB call_isi rfl (n_isinstance c) (by decide +kernel) (pa_cons (pv 1) (pa_cons (pe_glob (v := .ref (He.ga K "Numbering")) rfl (g_Numbering c) rfl) pa_nil))) (pe_one (pe_cmpR (op_eqD hr.units) (pe_fld (pv 0) rfl) (pe_fld (pv 1) rfl) (nomark _)))))), ?_⟩
    clear tk pown hr
    have h_nc : NumC K := ⟨cl_Numbering c, na_Numbering_places c⟩
    obtain ⟨a, b, ps, qs, rfl, ha, hb, Qk⟩ := h
    dsimp only [L2.start, N_Numbering___eq__, cxOf, Cx.tr, Cx.suite, List.map, List.length, Nat.reduceAdd, Nat.reduceSub, List.replicate, List.cons_append, List.nil_append, List.append_nil]
    have nc : NumC K := ⟨cl_Numbering c, na_Numbering_places c⟩
    obtain ⟨dx, fs, hi⟩ := hb.ins
    walk_at "w"
    refine w_isiO (isiB_ok (isB_Numbering c)) hi (of_decide_eq_true (ki_Numbering c)) ?_
    walk_at "w"
    refine w_eqD (d := .tup (dInts ps)) (e := .tup (dInts qs)) 1 (by walk_at "rep") (by walk_at "rep") (dep_ints _ 0) (dep_ints _ 0) (by decide) (fun e => ?_) (fun e => ?_)
    · rw [decide_eq_true (dInts_inj (D.tup.inj e))] at Qk
      exact Qk
    · rw [decide_eq_false (fun z => e (by rw [z]))] at Qk
      exact Qk
end
def sp__law_refused (K : PySem.W.Frag) : Sp := fun vs H Q _ => ∃ (a b : Addr) (ps qs : List Int), vs = [.ref a, .ref b] ∧ Num K H a ps ∧ Num K H b qs ∧ ps.length ≠ qs.length ∧ ∀ H', Gr [] H H' → Q (.bl true) H'
theorem w_refused {K : PySem.W.Frag} {H : Hp} {Q : VK} {E : XK} {a b : Addr} {ps qs : List Int} (ha : Num K H a ps) (hb : Num K H b qs) (hn : ps.length ≠ qs.length) (k : ∀ H', Gr [] H H' → Q (.bl true) H') : sp__law_refused K [.ref a, .ref b] H Q E := ⟨a, b, ps, qs, rfl, ha, hb, hn, k⟩
section
variable {P : Program} {w : World} {K : PySem.W.Frag} {mg : Str → Option Value} {base : Heap}
theorem ok__law_refused (c : Ctx K mg) : FnOk P w K mg base (L2.CX P w) 4 (A__law_refused K) (fdA K (A__law_refused K)) ["_law_left", "_law_right"] (sp__law_refused K) := by
  refine okT (F__law_refused c) sc__law_refused (fun vs H Q E h => ?_) (fun cdv A outer s H vs Q E hr h tk pown => ?_)
  · first | (obtain ⟨rfl, _⟩ := h; rfl) | (obtain ⟨_, rfl, _⟩ := h; rfl) | (obtain ⟨_, _, rfl, _⟩ := h; rfl) | (obtain ⟨_, _, _, rfl, _⟩ := h; rfl) | (obtain ⟨_, _, _, _, rfl, _⟩ := h; rfl) | (obtain ⟨_, _, _, _, _, rfl, _⟩ := h; rfl) | (obtain ⟨_, _, _, _, _, _, rfl, _⟩ := h; rfl) | (obtain ⟨_, _, _, _, _, _, _, rfl, _⟩ := h; rfl)
  · skip
    refine ⟨_, (pss_cons (ps_set (i := 2) sc__law_refused.nd rfl (Or.inl rfl) pe_non)
  (pss_cons (ps_tryE rfl rfl tk (fun W pn xe tk pown => (pss_one (ps_set (i := 2) sc__law_refused.nd rfl (Or.inl rfl) (pe_binS (op := .Mult) (op_Numbering___mul__ c) (rawF (ok_Numbering___mul__ c) (b_Numbering___mul__ c)) (hr.mono (by decide)) (fun σ => passAt tk σ) (pv 0) (pv 1)))))
    (HdsE.as_ (i := 3) sc__law_refused.nd rfl rfl ⟨rfl, by decide, Or.inl (g_BadNumbering c)⟩ (fun a oe cls d pn hz hf => (pss_one (ps_ret (pe_and (pe_callB (cr_isE hz hf) rfl (n_isinstance c) (by decide +kernel) (pa_cons (pv 3) (pa_cons (pe_glob (v := .ref (He.ga K "HallError")) rfl (g_HallError c) rfl) pa_nil))) (pe_and (pe_not (pe_callB (cr_isE hz hf) rfl (n_isinstance c) (by decide +kernel) (pa_cons (pv 3) (pa_cons (pe_glob (v := .ref (He.ga K "BadSize")) rfl (g_BadSize c) rfl) pa_nil)))) (pe_one (pe_cmpR op_isN (pv 2) pe_non (nomark _))))))))
    (HdsE.only ⟨rfl, by decide, Or.inl (g_HallError c)⟩ (fun a oe cls d pn hz hf => (pss_one (ps_ret pe_bl)))
    HdsE.nil)))
  (pss_one (ps_ret pe_bl)))), ?_⟩
    clear tk pown hr
    have h_exC_BadNumbering := exC_BadNumbering c
    have h_kit_BadNumbering_BadSize := kit_BadNumbering_BadSize c
    have h_kit_BadNumbering_HallError := kit_BadNumbering_HallError c
    have h_op_Numbering___mul__ := op_Numbering___mul__ c
    have h_nc : NumC K := ⟨cl_Numbering c, na_Numbering_places c⟩
    obtain ⟨a, b, ps, qs, rfl, ha, hb, hn, Qk⟩ := h
    dsimp only [L2.start, N__law_refused, cxOf, Cx.tr, Cx.suite, List.map, List.length, Nat.reduceAdd, Nat.reduceSub, List.replicate, List.cons_append, List.nil_append, List.append_nil]
    walk_at "w"
    refine w_numOp ha hb ⟨a, b, ps, qs, rfl, ha, hb, .inl ⟨hn, fun H1 g1 => ?_⟩⟩
    refine w_hd (xm_BadNumbering_BadNumbering c) fun e he => ?_
    dsimp only [List.set]
    walk_at "w"
    
    exact ⟨rfl, Qk _ g1⟩
end
def sp_law (K : PySem.W.Frag) : Sp := fun vs H Q _ => ∃ (a : Addr) (ns : List Int), vs = [.ref a] ∧ SqL K H a (ns.map V.int) ∧ ns.length ≤ 63 ∧ ∀ H', Q (.bl true) H'
section
variable {P : Program} {w : World} {K : PySem.W.Frag} {mg : Str → Option Value} {base : Heap}
theorem ok_law (c : Ctx K mg) : FnOk P w K mg base (L2.CX P w) 10 (A_law K) (fdA K (A_law K)) ["_law_script"] (sp_law K) := by
  refine okT (F_law c) sc_law (fun vs H Q E h => ?_) (fun cdv A outer s H vs Q E hr h tk pown => ?_)
  · first | (obtain ⟨rfl, _⟩ := h; rfl) | (obtain ⟨_, rfl, _⟩ := h; rfl) | (obtain ⟨_, _, rfl, _⟩ := h; rfl) | (obtain ⟨_, _, _, rfl, _⟩ := h; rfl) | (obtain ⟨_, _, _, _, rfl, _⟩ := h; rfl) | (obtain ⟨_, _, _, _, _, rfl, _⟩ := h; rfl) | (obtain ⟨_, _, _, _, _, _, rfl, _⟩ := h; rfl) | (obtain ⟨_, _, _, _, _, _, _, rfl, _⟩ := h; rfl)
  · skip
    refine ⟨_, (pss_cons (ps_set (i := 1) sc_law.nd rfl (Or.inl rfl) (pe_callS (ok__law_begin c) (hr.mono (by decide)) rfl (g__law_begin c) (F__law_begin c).kp (b__law_begin c) (fun σ => passAt tk σ) (pa_cons (pv 0) pa_nil)))
  (pss_cons (ps_set (i := 2) sc_law.nd rfl (Or.inl rfl) (pe_op op_add pe_int (pe_callS (ok__law_draw c) (hr.mono (by decide)) rfl (g__law_draw c) (F__law_draw c).kp (b__law_draw c) (fun σ => passAt tk σ) (pa_cons (pv 1) (pa_cons pe_int pa_nil)))))
  (pss_cons (ps_set (i := 3) sc_law.nd rfl (Or.inr rfl) (pe_callS (ok__law_shuffled c) (hr.mono (by decide)) rfl (g__law_shuffled c) (F__law_shuffled c).kp (b__law_shuffled c) (fun σ => passAt tk σ) (pa_cons (pv 1) (pa_cons (pv 2) pa_nil))))
  (pss_cons (ps_set (i := 4) sc_law.nd rfl (Or.inl rfl) (pe_callS (ok__law_shuffled c) (hr.mono (by decide)) rfl (g__law_shuffled c) (F__law_shuffled c).kp (b__law_shuffled c) (fun σ => passAt tk σ) (pa_cons (pv 1) (pa_cons (pv 2) pa_nil))))
  (pss_cons (ps_set (i := 5) sc_law.nd rfl (Or.inl rfl) (pe_callS (ok__law_shuffled c) (hr.mono (by decide)) rfl (g__law_shuffled c) (F__law_shuffled c).kp (b__law_shuffled c) (fun σ => passAt tk σ) (pa_cons (pv 1) (pa_cons (pv 2) pa_nil))))
  (pss_cons (ps_set (i := 6) sc_law.nd rfl (Or.inl rfl) (pe_makeS (pe_glob (v := .ref (He.ga K "Numbering")) rfl (g_Numbering c) rfl) (mk_Numbering c) (rawF (ok_Numbering___init__ c) (b_Numbering___init__ c)) (hr.mono (by decide)) (fun σ => passAt tk σ) (pa_cons (pe_callTy cr_list rfl (n_list c) (by decide +kernel) (pa_cons (pv 3) pa_nil)) pa_nil)))
  (pss_cons (ps_set (i := 7) sc_law.nd rfl (Or.inl rfl) (pe_makeS (pe_glob (v := .ref (He.ga K "Numbering")) rfl (g_Numbering c) rfl) (mk_Numbering c) (rawF (ok_Numbering___init__ c) (b_Numbering___init__ c)) (hr.mono (by decide)) (fun σ => passAt tk σ) (pa_cons (pe_callTy cr_list rfl (n_list c) (by decide +kernel) (pa_cons (pv 4) pa_nil)) pa_nil)))
  (pss_cons (ps_set (i := 8) sc_law.nd rfl (Or.inl rfl) (pe_makeS (pe_glob (v := .ref (He.ga K "Numbering")) rfl (g_Numbering c) rfl) (mk_Numbering c) (rawF (ok_Numbering___init__ c) (b_Numbering___init__ c)) (hr.mono (by decide)) (fun σ => passAt tk σ) (pa_cons (pe_callTy cr_list rfl (n_list c) (by decide +kernel) (pa_cons (pv 5) pa_nil)) pa_nil)))
  (pss_cons (ps_set (i := 9) sc_law.nd rfl (Or.inl rfl) (pe_tupRg rfl rfl (n_tuple c) (prg_1 rfl (n_range c) (pv 2))))
  (pss_cons (ps_if (pt_not (pt_val (pe_callS (ok__law_same c) (hr.mono (by decide)) rfl (g__law_same c) (F__law_same c).kp (b__law_same c) (fun σ => passAt tk σ) (pa_cons (pe_fld (pe_binS (op := .Mult) (op_Numbering___mul__ c) (rawF (ok_Numbering___mul__ c) (b_Numbering___mul__ c)) (hr.mono (by decide)) (fun σ => passAt tk σ) (pv 6) (pv 7)) rfl) (pa_cons (pe_callTy cr_tuple rfl (n_tuple c) (by decide +kernel) (pa_cons (pe_lcD (own := [("_law_place", 12)]) (g := gName 12) (tt := fun _ _ _ _ _ => tYes) rfl sc_law.nd (pi_list (pv 4)) (blkOk_by (N := N_law) (sc := defScope s_law) (by decide +kernel)) (fun _ _ _ _ _ => (pg_name (i := 12) sc_law.nd rfl (Or.inl rfl))) (fun _ _ _ _ _ => pts_nil) (fun _ _ _ _ _ => (pe_ix ix_list (pv 3) (pv 12) (fun _ _ => rfl)))) pa_nil)) pa_nil)))))
    (pss_one (ps_ret pe_bl))
    pss_nil)
  (pss_cons (ps_if (pt_not (pt_val (pe_callS (ok__law_same c) (hr.mono (by decide)) rfl (g__law_same c) (F__law_same c).kp (b__law_same c) (fun σ => passAt tk σ) (pa_cons (pe_fld (pe_invS (cmo_Numbering___invert__ c) (rawF (ok_Numbering___invert__ c) (b_Numbering___invert__ c)) (hr.mono (by decide)) (fun σ => passAt tk σ) (pv 6)) rfl) (pa_cons (pe_callTy cr_tuple rfl (n_tuple c) (by decide +kernel) (pa_cons (pe_lcD (own := [("_law_place", 12)]) (g := gName 12) (tt := fun _ _ _ _ _ => tYes) rfl sc_law.nd (pi_tup (pv 9)) (blkOk_by (N := N_law) (sc := defScope s_law) (by decide +kernel)) (fun _ _ _ _ _ => (pg_name (i := 12) sc_law.nd rfl (Or.inl rfl))) (fun _ _ _ _ _ => pts_nil) (fun _ _ _ _ _ => (pe_bm PySem.F.plainAttrs_list PySem.F.slot_list_index PySem.F.type_list_index mt_index (pv 3) (pa_cons (pv 12) pa_nil)))) pa_nil)) pa_nil)))))
    (pss_one (ps_ret pe_bl))
    pss_nil)
  (pss_cons (ps_if (PW.pt (pw_or (pt_not (pt_val (pe_callS (ok__law_same c) (hr.mono (by decide)) rfl (g__law_same c) (F__law_same c).kp (b__law_same c) (fun σ => passAt tk σ) (pa_cons (pe_fld (pe_binS (op := .Mult) (op_Numbering___mul__ c) (rawF (ok_Numbering___mul__ c) (b_Numbering___mul__ c)) (hr.mono (by decide)) (fun σ => passAt tk σ) (pe_invS (cmo_Numbering___invert__ c) (rawF (ok_Numbering___invert__ c) (b_Numbering___invert__ c)) (hr.mono (by decide)) (fun σ => passAt tk σ) (pv 6)) (pv 6)) rfl) (pa_cons (pv 9) pa_nil))))) (pw_or1 (pt_not (pt_val (pe_callS (ok__law_same c) (hr.mono (by decide)) rfl (g__law_same c) (F__law_same c).kp (b__law_same c) (fun σ => passAt tk σ) (pa_cons (pe_fld (pe_binS (op := .Mult) (op_Numbering___mul__ c) (rawF (ok_Numbering___mul__ c) (b_Numbering___mul__ c)) (hr.mono (by decide)) (fun σ => passAt tk σ) (pv 6) (pe_invS (cmo_Numbering___invert__ c) (rawF (ok_Numbering___invert__ c) (b_Numbering___invert__ c)) (hr.mono (by decide)) (fun σ => passAt tk σ) (pv 6))) rfl) (pa_cons (pv 9) pa_nil))))))))
    (pss_one (ps_ret pe_bl))
    pss_nil)
  (pss_cons (ps_if (PW.pt (pw_or (pt_not (pt_val (pe_callS (ok__law_same c) (hr.mono (by decide)) rfl (g__law_same c) (F__law_same c).kp (b__law_same c) (fun σ => passAt tk σ) (pa_cons (pe_cmpS (cmo_Numbering___eq__ c) (fun _ _ => rfl) (rawF (ok_Numbering___eq__ c) (b_Numbering___eq__ c)) (hr.mono (by decide)) (fun σ => passAt tk σ) (pe_binS (op := .Mult) (op_Numbering___mul__ c) (rawF (ok_Numbering___mul__ c) (b_Numbering___mul__ c)) (hr.mono (by decide)) (fun σ => passAt tk σ) (pe_binS (op := .Mult) (op_Numbering___mul__ c) (rawF (ok_Numbering___mul__ c) (b_Numbering___mul__ c)) (hr.mono (by decide)) (fun σ => passAt tk σ) (pv 6) (pv 7)) (pv 8)) (pe_binS (op := .Mult) (op_Numbering___mul__ c) (rawF (ok_Numbering___mul__ c) (b_Numbering___mul__ c)) (hr.mono (by decide)) (fun σ => passAt tk σ) (pv 6) (pe_binS (op := .Mult) (op_Numbering___mul__ c) (rawF (ok_Numbering___mul__ c) (b_Numbering___mul__ c)) (hr.mono (by decide)) (fun σ => passAt tk σ) (pv 7) (pv 8))) (nomark _)) (pa_cons pe_bl pa_nil))))) (pw_or1 (pt_not (pt_val (pe_callS (ok__law_same c) (hr.mono (by decide)) rfl (g__law_same c) (F__law_same c).kp (b__law_same c) (fun σ => passAt tk σ) (pa_cons (pe_cmpS (cmo_Numbering___eq__ c) (fun _ _ => rfl) (rawF (ok_Numbering___eq__ c) (b_Numbering___eq__ c)) (hr.mono (by decide)) (fun σ => passAt tk σ) (pe_invS (cmo_Numbering___invert__ c) (rawF (ok_Numbering___invert__ c) (b_Numbering___invert__ c)) (hr.mono (by decide)) (fun σ => passAt tk σ) (pe_binS (op := .Mult) (op_Numbering___mul__ c) (rawF (ok_Numbering___mul__ c) (b_Numbering___mul__ c)) (hr.mono (by decide)) (fun σ => passAt tk σ) (pv 6) (pv 7))) (pe_binS (op := .Mult) (op_Numbering___mul__ c) (rawF (ok_Numbering___mul__ c) (b_Numbering___mul__ c)) (hr.mono (by decide)) (fun σ => passAt tk σ) (pe_invS (cmo_Numbering___invert__ c) (rawF (ok_Numbering___invert__ c) (b_Numbering___invert__ c)) (hr.mono (by decide)) (fun σ => passAt tk σ) (pv 7)) (pe_invS (cmo_Numbering___invert__ c) (rawF (ok_Numbering___invert__ c) (b_Numbering___invert__ c)) (hr.mono (by decide)) (fun σ => passAt tk σ) (pv 6))) (nomark _)) (pa_cons pe_bl pa_nil))))))))
    (pss_one (ps_ret pe_bl))
    pss_nil)
  (pss_cons (ps_set (i := 10) sc_law.nd rfl (Or.inl rfl) (pe_op op_add pe_int (pe_callS (ok__law_draw c) (hr.mono (by decide)) rfl (g__law_draw c) (F__law_draw c).kp (b__law_draw c) (fun σ => passAt tk σ) (pa_cons (pv 1) (pa_cons pe_int pa_nil)))))
  (pss_cut (ps_if (pt_cmpR op_eq (pv 10) (pv 2) (nomark _))
    (pss_one (ps_set (i := 10) sc_law.nd rfl (Or.inl rfl) (pe_op op_add (pe_op op_mod (pe_callTy cr_int rfl (n_int c) (by decide +kernel) (pa_cons (pv 2) pa_nil)) pe_int) pe_int)))
    pss_nil)
  (pss_cons (ps_set (i := 11) sc_law.nd rfl (Or.inl rfl) (pe_makeS (pe_glob (v := .ref (He.ga K "Numbering")) rfl (g_Numbering c) rfl) (mk_Numbering c) (rawF (ok_Numbering___init__ c) (b_Numbering___init__ c)) (hr.mono (by decide)) (fun σ => passAt tk σ) (pa_cons (pe_callS (ok__law_shuffled c) (hr.mono (by decide)) rfl (g__law_shuffled c) (F__law_shuffled c).kp (b__law_shuffled c) (fun σ => passAt tk σ) (pa_cons (pv 1) (pa_cons (pv 10) pa_nil))) pa_nil)))
  (pss_cons (ps_if (PW.pt (pw_or (pt_not (pt_val (pe_callS (ok__law_refused c) (hr.mono (by decide)) rfl (g__law_refused c) (F__law_refused c).kp (b__law_refused c) (fun σ => passAt tk σ) (pa_cons (pv 6) (pa_cons (pv 11) pa_nil))))) (pw_or1 (pt_not (pt_val (pe_callS (ok__law_refused c) (hr.mono (by decide)) rfl (g__law_refused c) (F__law_refused c).kp (b__law_refused c) (fun σ => passAt tk σ) (pa_cons (pv 11) (pa_cons (pv 6) pa_nil))))))))
    (pss_one (ps_ret pe_bl))
    pss_nil)
  (pss_one (ps_ret (pe_callS (ok__law_same c) (hr.mono (by decide)) rfl (g__law_same c) (F__law_same c).kp (b__law_same c) (fun σ => passAt tk σ) (pa_cons (pe_lstN (pa_cons (pe_fld (pv 6) rfl) (pa_cons (pe_fld (pv 7) rfl) (pa_cons (pe_fld (pv 8) rfl) pa_nil)))) (pa_cons (pe_lstN (pa_cons (pe_callTy cr_tuple rfl (n_tuple c) (by decide +kernel) (pa_cons (pv 3) pa_nil)) (pa_cons (pe_callTy cr_tuple rfl (n_tuple c) (by decide +kernel) (pa_cons (pv 4) pa_nil)) (pa_cons (pe_callTy cr_tuple rfl (n_tuple c) (by decide +kernel) (pa_cons (pv 5) pa_nil)) pa_nil)))) pa_nil)))))))))))))))))))))), ?_⟩
    clear tk pown hr
    have h_cmo_Numbering___eq__ := cmo_Numbering___eq__ c
    have h_cmo_Numbering___invert__ := cmo_Numbering___invert__ c
    have h_op_Numbering___mul__ := op_Numbering___mul__ c
    have h_nc : NumC K := ⟨cl_Numbering c, na_Numbering_places c⟩
    obtain ⟨a, ns, rfl, hS, hl, Qk⟩ := h
    dsimp only [L2.start, N_law, cxOf, Cx.tr, Cx.suite, List.map, List.length, Nat.reduceAdd, Nat.reduceSub, List.replicate, List.cons_append, List.nil_append, List.append_nil]
    walk_at "w"
    refine w_begin hS hl fun t H0 n0 g0 t0 => ?_
    walk_at "w"
    refine w_draw (by walk_at "tape") (by decide) (by decide) (by decide) fun r1 H1 a1 b1 g1 t1 => ?_
    walk_at "w"
    obtain ⟨m, em⟩ : ∃ m : Nat, 1 + r1 = m := ⟨(1 + r1).toNat, by omega⟩
    rw [em]
    have m1 : 1 ≤ m := by omega
    have m2 : m ≤ 12 := by omega
    clear em a1 b1
    refine w_shuffled (by walk_at "tape") (by decide) m1 m2 fun l1 ps H2 n2 g2 h2 hp lp t2 => ?_
    walk_at "w"
    have e1 : t ≠ l1 := t1.ne n2
    refine w_shuffled (by walk_at "tape") (by decide) m1 m2 fun l2 qs H3 n3 g3 h3 hq lq t3 => ?_
    walk_at "w"
    have e2 : t ≠ l2 := t2.ne n3
    refine w_shuffled (by walk_at "tape") (by decide) m1 m2 fun l3 rs H4 n4 g4 h4 hr lr t4 => ?_
    walk_at "w"
    have e3 : t ≠ l3 := t3.ne n4
    have k1 : H4 l1 = some (.lst (ps.map V.int)) := by walk_at "at"
    have k2 : H4 l2 = some (.lst (qs.map V.int)) := by walk_at "at"
    clear g0 t0 g1 t1 g2 h2 t2 g3 h3 t3 g4 n2 n3 n4
    refine w_listOf (.inl (sql_of k1)) fun c1 H5 n5 g5 h5 => ?_
    walk_at "w"
    refine w_num (.inl (sql_of h5)) hp fun na H6 n6 g6 u6 => ?_
    walk_at "w"
    refine w_listOf (.inl (by walk_at "sql")) fun c2 H7 n7 g7 h7 => ?_
    walk_at "w"
    refine w_num (.inl (sql_of h7)) hq fun nb H8 n8 g8 u8 => ?_
    walk_at "w"
    refine w_listOf (.inl (by walk_at "sql")) fun c3 H9 n9 g9 h9 => ?_
    walk_at "w"
    refine w_num (.inl (sql_of h9)) hr fun ncc H10 n10 g10 u10 => ?_
    walk_at "w"
    refine w_kTupRg (by omega) fun pl H11 n11 g11 h11 => ?_
    walk_at "w"
    have q1 : H11 l1 = some (.lst (ps.map V.int)) := by walk_at "at"
    have q2 : H11 l2 = some (.lst (qs.map V.int)) := by walk_at "at"
    have q3 : H11 l3 = some (.lst (rs.map V.int)) := by walk_at "at"
    have ua : Num K H11 na ps := by walk_at "num"
    have ub : Num K H11 nb qs := by walk_at "num"
    have uc : Num K H11 ncc rs := by walk_at "num"
    have tt : Tape 40 H11 t := Tape.mono (b := 0 + 1 + 12 + 12 + 12) (by walk_at "tape") (by decide)
    clear k1 k2 h4 t4 n5 g5 h5 n6 g6 u6 n7 g7 h7 n8 g8 u8 n9 g9 h9 n10 g10 u10 n11 g11
    walk_at "w"
    refine w_mul ua ub (by omega) fun x1 J1 y1 z1 v1 => ?_
    walk_at "w"
    refine k_lcLstI (ns := qs) (fun y => .int (atP ps y)) (by omega) (by walk_at "sql") (fun D i y J2 hy hi g hk => ?_) (fun D J2 y2 z2 v2 => ?_)
    · have hb2 := hq.get hy
      walk_at "w"
      refine ⟨rfl, ?_⟩
      walk_at "w"
      refine w_ixL (by walk_at "sql") (atP_at hb2.1 (by omega)) ?_
      exact hk _ _ (Gr.refl _) rfl
    have e2' : (qs.map fun y => V.int (atP ps y)) = (mulP ps qs).map V.int := by
      unfold mulP
      rw [List.map_map] <;> rfl
    rw [e2'] at v2
    walk_at "w"
    refine w_sameT (ns := mulP ps qs) (by walk_at "sqt") (by walk_at "sqt") (by rw [length_mul]; omega) ?_
    walk_at "w"
    refine w_inv (ps := ps) (by walk_at "num") fun x3 J3 y3 z3 v3 => ?_
    walk_at "w"
    refine k_lcTupI (ns := rg m) (fun y => .int (ps.idxOf y : Nat)) (by rw [length_rg]; omega) (by walk_at "sqt") (fun D i y J4 hy hi g hk => ?_) (fun D J4 y4 z4 v4 => ?_)
    · have hb2 := mem_rg.mp (List.mem_of_getElem? hy)
      walk_at "w"
      refine ⟨rfl, ?_⟩
      walk_at "w"
      refine w_indexL (by walk_at "sql") (hp.mem.mpr ⟨hb2.1, by omega⟩) ?_
      exact hk _ _ (Gr.refl _) rfl
    have e4' : ((rg m).map fun y => V.int (ps.idxOf y : Nat)) = (invP ps).map V.int := by
      unfold invP
      rw [List.map_map, lp] <;> rfl
    rw [e4'] at v4
    walk_at "w"
    refine w_sameT (ns := invP ps) (by walk_at "sqt") (by walk_at "sqt") (by rw [length_inv]; omega) ?_
    walk_at "w"
    refine w_inv (ps := ps) (by walk_at "num") fun x5 J5 y5 z5 v5 => ?_
    walk_at "w"
    refine w_mul v5 (by walk_at "num") (by rw [length_inv]) fun x6 J6 y6 z6 v6 => ?_
    rw [inv_mul hp, lp] at v6
    walk_at "w"
    refine w_sameT (ns := rg m) (by walk_at "sqt") (by walk_at "sqt") (by rw [length_rg]; omega) ?_
    walk_at "w"
    refine w_inv (ps := ps) (by walk_at "num") fun x7 J7 y7 z7 v7 => ?_
    walk_at "w"
    refine w_mul (ps := ps) (by walk_at "num") v7 (by rw [length_inv]) fun x8 J8 y8 z8 v8 => ?_
    rw [mul_inv hp, lp] at v8
    walk_at "w"
    refine w_sameT (ns := rg m) (by walk_at "sqt") (by walk_at "sqt") (by rw [length_rg]; omega) ?_
    have p1 : J8 l1 = some (.lst (ps.map V.int)) := by walk_at "at"
    have p2 : J8 l2 = some (.lst (qs.map V.int)) := by walk_at "at"
    have p3 : J8 l3 = some (.lst (rs.map V.int)) := by walk_at "at"
    have wa : Num K J8 na ps := by walk_at "num"
    have wb : Num K J8 nb qs := by walk_at "num"
    have wc : Num K J8 ncc rs := by walk_at "num"
    have t8 : Tape 40 J8 t := by walk_at "tape"
    clear q1 q2 q3 ua ub uc tt z1 v1 z2 v2 z3 v3 z4 v4 z5 v5 z6 v6 z7 v7 z8 v8 h11
    walk_at "w"
    refine w_mul wa wb (by omega) fun x9 J9 y9 z9 v9 => ?_
    walk_at "w"
    refine w_mul (qs := rs) v9 (by walk_at "num") (by rw [length_mul]; omega) fun x10 J10 y10 z10 v10 => ?_
    walk_at "w"
    refine w_mul (ps := qs) (qs := rs) (by walk_at "num") (by walk_at "num") (by omega) fun x11 J11 y11 z11 v11 => ?_
    walk_at "w"
    refine w_mul (ps := ps) (by walk_at "num") v11 (by rw [length_mul]; omega) fun x12 J12 y12 z12 v12 => ?_
    walk_at "w"
    refine w_numEq (ps := mulP (mulP ps qs) rs) (by walk_at "num") v12 ?_
    walk_at "w"
    refine w_sameB (decide_eq_true (mul_assoc hr (by omega))) ?_
    walk_at "w"
    refine w_mul (ps := ps) (qs := qs) (by walk_at "num") (by walk_at "num") (by omega) fun x13 J13 y13 z13 v13 => ?_
    walk_at "w"
    refine w_inv v13 fun x14 J14 y14 z14 v14 => ?_
    walk_at "w"
    refine w_inv (ps := qs) (by walk_at "num") fun x15 J15 y15 z15 v15 => ?_
    walk_at "w"
    refine w_inv (ps := ps) (by walk_at "num") fun x16 J16 y16 z16 v16 => ?_
    walk_at "w"
    refine w_mul (ps := invP qs) (by walk_at "num") v16 (by rw [length_inv, length_inv]; omega) fun x17 J17 y17 z17 v17 => ?_
    walk_at "w"
    refine w_numEq (ps := invP (mulP ps qs)) (by walk_at "num") v17 ?_
    walk_at "w"
    refine w_sameB (decide_eq_true (inv_mulP hp hq (by omega))) ?_
    walk_at "w"
    refine w_draw (b := 40) (by walk_at "tape") (by decide) (by decide) (by decide) fun r18 J18 a18 b18 z18 t18 => ?_
    walk_at "w"
    refine w_cut (fun σ' H' => ∃ k : Nat, σ' = [some (.ref a), some (.ref t), some (.int m), some (.ref l1), some (.ref l2), some (.ref l3), some (.ref na), some (.ref nb), some (.ref ncc), some (.ref pl), some (.int k), none, none] ∧ 1 ≤ k ∧ k ≤ 12 ∧ k ≠ m ∧ H' = J18) ?_ ?_
    · walk_at "w"
      refine w_iteI (fun e => ?_) (fun e => ?_)
      · walk_at "w"
        refine w_rI (by decide) ?_
        walk_at "w"
        refine ⟨((m : Int) % 12 + 1).toNat, ?_, by omega, by omega, by omega, rfl⟩
        rw [Int.toNat_of_nonneg (by omega)]
      · walk_at "w"
        refine ⟨(1 + r18).toNat, ?_, by omega, by omega, by omega, rfl⟩
        rw [Int.toNat_of_nonneg (by omega)]
    rintro σ' H' ⟨k, rfl, k1, k2, km, rfl⟩
    have s1 : H' l1 = some (.lst (ps.map V.int)) := by walk_at "at"
    have s2 : H' l2 = some (.lst (qs.map V.int)) := by walk_at "at"
    have s3 : H' l3 = some (.lst (rs.map V.int)) := by walk_at "at"
    have wwa : Num K H' na ps := by walk_at "num"
    have wwb : Num K H' nb qs := by walk_at "num"
    have wwc : Num K H' ncc rs := by walk_at "num"
    clear p1 p2 p3 wa wb wc t8 z9 v9 z10 v10 z11 v11 z12 v12 z13 v13 z14 v14 z15 v15 z16 v16 z17 v17 z18
    walk_at "w"
    refine w_shuffled t18 (by decide) k1 k2 fun l4 ds H19 n19 g19 h19 hd ld t19 => ?_
    walk_at "w"
    refine w_num (.inl (sql_of h19)) hd fun nd H20 n20 g20 u20 => ?_
    walk_at "w"
    refine w_refused (ps := ps) (qs := ds) (by walk_at "num") (by walk_at "num") (by omega) fun H21 g21 => ?_
    walk_at "w"
    refine w_refused (ps := ds) (qs := ps) (by walk_at "num") (by walk_at "num") (by omega) fun H22 g22 => ?_
    walk_at "w"
    have lv : (LW.D.lst [.tup (dInts ps), .tup (dInts qs), .tup (dInts rs)]).lev 8 = true := by
      refine Bool.and_eq_true_iff.mpr ⟨rfl, ?_⟩
      rw [List.all_cons, List.all_cons, List.all_cons, lev_tupI (by omega), lev_tupI (by omega), lev_tupI (by omega)] <;> rfl
    refine w_same (.lst [.tup (dInts ps), .tup (dInts qs), .tup (dInts rs)]) (.lst (by walk_at "sql") (.cons (by walk_at "rep") (.cons (by walk_at "rep") (.cons (by walk_at "rep") .nil)))) (.lst (by walk_at "sql") (.cons (by walk_at "rep") (.cons (by walk_at "rep") (.cons (by walk_at "rep") .nil)))) lv (Qk _)
end
end LW
set_option maxHeartbeats 0
namespace LW
open PySem PySem.Spec PyProof.Rows L2
abbrev RR : PySem.W.OpenRow := PySem.W.OpenLaw.row PySem.Challenge.rw_ownlabels_k04_products_and_inverses
abbrev hkW : PySem.W.Hook := hookW fa fn exB
def looseN : List PySem.Str := (["_wall", "HallError", "BadNumbering", "BadSize", "NoCell", "Numbering", "_law_begin", "_law_draw", "_law_same", "_law_shuffled", "_law_refused"] : List PySem.Str)
theorem runW (w : World) : HandSHeadRun.RunEq RR (PySem.W.view RR.prog [14]) hkW (obT fa fn exB) 3000 looseN w := by
  intro os
  kernel_rfl
theorem ctx_of {K : PySem.W.Frag} {h : Heap} {mg : Str → Option Value} (X : K.In h) (G : h.Ns mainGlobals mg) (q : SaysW fa fn exB K) : Ctx K mg :=
  ⟨q, He.glo_ok X G, He.free_ok X G, He.int_ok X G, He.str_ok X G⟩
end LW
open PySem PySem.W PySem.Calls PyProof.Rows
theorem PySem.Challenge.cw_ownlabels_k04_products_and_inverses_holds : PySem.Challenge.rw_ownlabels_k04_products_and_inverses.Holds := by
  w_on; o_law
  refine HandSHeadRun.head_any (r := OpenLaw.row PySem.Challenge.rw_ownlabels_k04_products_and_inverses) (q := view (OpenLaw.row PySem.Challenge.rw_ownlabels_k04_products_and_inverses).prog [14]) (H := LW.hkW) (ob := LW.obT LW.fa LW.fn LW.exB) (M := 3000) (loose := LW.looseN) (d := HandSHeadRun.topDef (OpenLaw.row PySem.Challenge.rw_ownlabels_k04_products_and_inverses).prog 14) (kwd := []) LW.obT_eq
    (by kernel_rfl) (fun s => by kernel_rfl) LW.runW (by kernel_rfl) (by kernel_rfl) (by kernel_rfl) (by rfl) (by first | assumption | decide +kernel) (by decide +kernel) ⟨rfl, rfl, rfl, rfl, rfl, by decide +kernel⟩ ?hw ?hc
  case hw => w_witness2
  case hc =>
    refine LW.walkW (l := PySem.Challenge.rw_ownlabels_k04_products_and_inverses) (n := 63) (k := 10) (x := "_law_script") rfl (by decide) (by kernel_rfl) ⟨rfl, by decide, by decide⟩ ?F
    case F =>
      intro w mg fa h Y G hmg0
      obtain ⟨K, KX, q⟩ := Y
      have c := LW.ctx_of KX G q
      have hmg : mg ("law" : PySem.Str) = some (.ref fa) := by
        have e : (HandSHeadRun.topDef (OpenLaw.row PySem.Challenge.rw_ownlabels_k04_products_and_inverses).prog 14).name = ("law" : PySem.Str) := by kernel_rfl
        rw [← e]
        exact hmg0
      have ef : fa = LW.A_law K := Value.ref.inj (Option.some.inj (hmg.symm.trans (LW.g_law c)))
      subst ef
      exact ⟨K, _, LW.sp_law K, KX, fun s v => (LW.F_law c).bindsA (ps := ["_law_script"]) (fun _ _ _ _ _ _ us hl => match us, hl with | [_], _ => rfl) s [v] rfl, fun H a ns hl _ hS => ⟨a, ns, rfl, hS, hl, fun _ => rfl⟩, fun base _ _ => LW.ok_law c⟩
#print axioms PySem.Challenge.cw_ownlabels_k04_products_and_inverses_holds
