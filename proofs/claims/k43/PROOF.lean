import PyProof.Rows.All
import Wide.All
import OpenK.AllK
import Wide.FinOn
import HandS.ForMost
import HandS.ForExc
import HandS.Wide
import HandS.Flow
import HandS.Style
import HandS.TupAny
import HandS.TupMul
import HandS.SortInts
import HandS.IsInst
import HandS.Deep
import HandS.Rev
import HandS.RevRange
import HandS.Exc
import HandS.ExcOwn
import HandS.TryOnly
import HandS.RaiseMore
import HandS.ExcIs
import HandS.Conv
import HandS.Walk
import HandS.Zip
import HandS.Comp
import HandS.Iter
import HandS.More
import KE.GoesEnum
import KE.GoesNew
import KE.GoesMore
import HandS.NoneIn
import PyProof.Rows.ReprR
import KE.KIndexOf
import HandS.Text
import PySem.Challenge.RW_evenpass_k43_rounds_and_bricks
set_option Elab.async false
set_option linter.all false
set_option maxRecDepth 100000
set_option maxHeartbeats 4000000
/-! RX: an evaluator over plain data, and that the linked text keeps what it says. Part a: data, the relation to the abstract heap. -/
namespace RX
open PySem L2

/-- plain values: lists by value; frs a list just made that nothing else holds; sl the list that a slot holds -/
inductive AV where
  | non | bl (b : Bool) | int (i : Int) | str (x : Str)
  | tup (xs : List AV) | lst (nw : Bool) (xs : List AV) | frs (xs : List AV) | sl (i : Nat)
  | fn (x : Str) | ty (n : String) | jk (nw : Bool) (n : Nat) | exo (c : Str) | dcx
inductive Slot where
  | val (d : AV) | own (nw : Bool) (xs : List AV) | io (xs : List AV) | brw (t : Bool) (xs : List AV)
abbrev En := List (Option Slot)
def Slot.mut : Slot → Bool
  | .own _ _ => true
  | .io _ => true
  | _ => false
/-- what is fixed through a def's frame: the written part, the heap at the entry, what of it may change -/
structure Gh where
  K : PySem.W.Frag
  H0 : Hp
  IO : Addr → Prop

/-- an exception of the class at D lies at a -/
def exn (a D : Addr) : HO := .ext fun h => ∃ oe, PySem.W.InstAt h a oe D none
theorem exn_ne {a D : Addr} (vs : List V) : exn a D ≠ .lst vs := fun z => by cases z
mutual
inductive RV (K : PySem.W.Frag) (H0 H : Hp) (P : Addr → Prop) : AV → V → Prop
  | non : RV K H0 H P .non .non
  | bl (b : Bool) : RV K H0 H P (.bl b) (.bl b)
  | int (i : Int) : RV K H0 H P (.int i) (.int i)
  | str (x : Str) : RV K H0 H P (.str x) (.str x)
  | ty (n : String) : RV K H0 H P (.ty n) (.ty n)
  | tup {a : Addr} {xs : List AV} {vs : List V} : SqT K H a vs → RVs K H0 H P xs vs → RV K H0 H P (.tup xs) (.ref a)
  | lst {nw : Bool} {a : Addr} {xs : List AV} {vs : List V} : H a = some (.lst vs) → ¬ P a → (nw = true → H0 a = none) → RVs K H0 H P xs vs → RV K H0 H P (.lst nw xs) (.ref a)
  | fn {x : Str} {a : Addr} : PySem.W.nsIn K mainGlobals x = some (some (.ref a)) → RV K H0 H P (.fn x) (.ref a)
  | jk {nw : Bool} {n : Nat} {a : Addr} {vs : List V} : H a = some (.lst vs) → ¬ P a → (nw = true → H0 a = none) → vs.length ≤ n → RV K H0 H P (.jk nw n) (.ref a)
  | exo {c : Str} {a D : Addr} : H a = some (exn a D) → PySem.W.nsIn K mainGlobals c = some (some (.ref D)) → RV K H0 H P (.exo c) (.ref a)
  | dcx {a : Addr} {kvs : List (Key × V)} : H a = some (.dK kvs) → RV K H0 H P .dcx (.ref a)
inductive RVs (K : PySem.W.Frag) (H0 H : Hp) (P : Addr → Prop) : List AV → List V → Prop
  | nil : RVs K H0 H P [] []
  | cons {x : AV} {v : V} {xs : List AV} {vs : List V} : RV K H0 H P x v → RVs K H0 H P xs vs → RVs K H0 H P (x :: xs) (v :: vs)
end

section
variable {K : PySem.W.Frag} {H0 H H' : Hp} {P P' : Addr → Prop}
/-- what stays: all that isn't a list in P -/
def Stab (P : Addr → Prop) (H H' : Hp) : Prop := ∀ b o, H b = some o → (¬ P b ∨ ∀ vs, o ≠ .lst vs) → H' b = some o
theorem Stab.sqT {a : Addr} {vs : List V} (s : Stab P H H') (h : SqT K H a vs) : SqT K H' a vs := by
  rcases h with (h | ⟨o, h⟩) | h
  · exact .inl (.inl (s _ _ h (.inr fun _ z => by cases z)))
  · exact .inl (.inr ⟨o, s _ _ h (.inr fun _ z => by cases z)⟩)
  · exact .inr h
mutual
theorem RV.mono (s : Stab P H H') (hp : ∀ b, P' b → H b ≠ none → P b) : ∀ {d : AV} {v : V}, RV K H0 H P d v → RV K H0 H' P' d v
  | _, _, .non => .non
  | _, _, .bl b => .bl b
  | _, _, .int i => .int i
  | _, _, .str x => .str x
  | _, _, .ty n => .ty n
  | _, _, .tup h r => .tup (s.sqT h) (RVs.mono s hp r)
  | _, _, .lst h n k r => .lst (s _ _ h (.inl n)) (fun z => n (hp _ z (by rw [h]; simp))) k (RVs.mono s hp r)
  | _, _, .fn h => .fn h
  | _, _, .jk h n k l => .jk (s _ _ h (.inl n)) (fun z => n (hp _ z (by rw [h]; simp))) k l
  | _, _, .exo h k => .exo (s _ _ h (.inr exn_ne)) k
  | _, _, .dcx h => .dcx (s _ _ h (.inr fun _ z => by cases z))
theorem RVs.mono (s : Stab P H H') (hp : ∀ b, P' b → H b ≠ none → P b) : ∀ {xs : List AV} {vs : List V}, RVs K H0 H P xs vs → RVs K H0 H' P' xs vs
  | _, _, .nil => .nil
  | _, _, .cons a r => .cons (RV.mono s hp a) (RVs.mono s hp r)
end
theorem RVs.length : ∀ {xs : List AV} {vs : List V}, RVs K H0 H P xs vs → xs.length = vs.length
  | _, _, .nil => rfl
  | _, _, .cons _ r => by rw [List.length_cons, List.length_cons, RVs.length r]
theorem RVs.get : ∀ {xs : List AV} {vs : List V} {i : Nat} {x : AV}, RVs K H0 H P xs vs → xs[i]? = some x → ∃ v, vs[i]? = some v ∧ RV K H0 H P x v
  | _, _, _, _, .nil, h => by simp at h
  | _, _, 0, _, .cons a _, h => by
    simp at h
    subst h
    exact ⟨_, rfl, a⟩
  | _, _, i + 1, x, .cons _ r, h => by
    simp at h
    obtain ⟨v, h1, h2⟩ := RVs.get r h
    exact ⟨v, by simpa using h1, h2⟩
theorem RVs.append : ∀ {xs ys : List AV} {vs ws : List V}, RVs K H0 H P xs vs → RVs K H0 H P ys ws → RVs K H0 H P (xs ++ ys) (vs ++ ws)
  | _, _, _, _, .nil, s => s
  | _, _, _, _, .cons a r, s => .cons a (RVs.append r s)
theorem RVs.set {x : AV} {v : V} (a : RV K H0 H P x v) : ∀ {xs : List AV} {vs : List V} (i : Nat), RVs K H0 H P xs vs → RVs K H0 H P (xs.set i x) (vs.set i v)
  | _, _, _, .nil => .nil
  | _, _, 0, .cons _ r => .cons a r
  | _, _, i + 1, .cons b r => .cons b (RVs.set a i r)
theorem RVs.take : ∀ {xs : List AV} {vs : List V} (n : Nat), RVs K H0 H P xs vs → RVs K H0 H P (xs.take n) (vs.take n)
  | _, _, 0, _ => by simp; exact .nil
  | _, _, _ + 1, .nil => .nil
  | _, _, n + 1, .cons a r => .cons a (RVs.take n r)
theorem RVs.drop : ∀ {xs : List AV} {vs : List V} (n : Nat), RVs K H0 H P xs vs → RVs K H0 H P (xs.drop n) (vs.drop n)
  | _, _, 0, r => r
  | _, _, _ + 1, .nil => .nil
  | _, _, n + 1, .cons _ r => RVs.drop n r
end

/-! ### the state relation -/
/-- slot i holds a list that may change -/
def IsMut (env : En) (i : Nat) : Prop := ∃ s, env[i]? = some (some s) ∧ s.mut = true
/-- the addresses of such lists -/
def Pm (env : En) (σ : L2.St) (b : Addr) : Prop := ∃ i, IsMut env i ∧ σ[i]? = some (some (.ref b))
/-- what no plain value may lie at -/
def Pv (N : Addr → Prop) (env : En) (σ : L2.St) (b : Addr) : Prop := N b ∨ Pm env σ b

structure SR (g : Gh) (N : Addr → Prop) (env : En) (σ : L2.St) (H : Hp) : Prop where
  len : env.length = σ.length
  val : ∀ (i : Nat) (d : AV), env[i]? = some (some (.val d)) → ∃ v, σ[i]? = some (some v) ∧ RV g.K g.H0 H (Pv N env σ) d v
  own : ∀ (i : Nat) (nw : Bool) (xs : List AV), env[i]? = some (some (.own nw xs)) → ∃ a vs, σ[i]? = some (some (.ref a)) ∧ H a = some (.lst vs) ∧ RVs g.K g.H0 H (Pv N env σ) xs vs ∧ ¬ N a ∧ (nw = true → g.H0 a = none) ∧ (g.IO a ∨ g.H0 a = none)
  io : ∀ (i : Nat) (xs : List AV), env[i]? = some (some (.io xs)) → ∃ a vs, σ[i]? = some (some (.ref a)) ∧ H a = some (.lst vs) ∧ RVs g.K g.H0 H (Pv N env σ) xs vs ∧ ¬ N a ∧ g.IO a
  brw : ∀ (i : Nat) (t : Bool) (xs : List AV), env[i]? = some (some (.brw t xs)) → ∃ a vs, σ[i]? = some (some (.ref a)) ∧ ((SqL g.K (fun _ => none) a vs ∧ t = false ∧ ∀ H P, RVs g.K g.H0 H P xs vs) ∨ (Rd H a (.lst vs) ∧ N a ∧ RVs g.K g.H0 H (Pv N env σ) xs vs ∧ (t = true → H a = some (.lst vs))))
  inj : ∀ (i j : Nat) (b : Addr), IsMut env i → IsMut env j → σ[i]? = some (some (.ref b)) → σ[j]? = some (some (.ref b)) → i = j
  keep : ∀ b o, g.H0 b = some o → ¬ g.IO b → H b = some o
  dom : ∀ b, g.H0 b ≠ none → H b ≠ none
  nst : ∀ b, N b → H b ≠ none

theorem lt_of_get {α : Type} {l : List α} {i : Nat} {x : α} (h : l[i]? = some x) : i < l.length := by
  rw [List.getElem?_eq_some_iff] at h
  exact h.1
section
variable {g : Gh} {N N' : Addr → Prop} {env env' env2 : En} {σ σ' σ2 : L2.St} {H H' H2 : Hp}
theorem SR.mutAt (s : SR g N env σ H) {i : Nat} (h : IsMut env i) : ∃ a vs, σ[i]? = some (some (.ref a)) ∧ H a = some (.lst vs) ∧ ¬ N a ∧ (g.IO a ∨ g.H0 a = none) := by
  obtain ⟨sl, h1, h2⟩ := h
  cases sl with
  | val d => cases h2
  | brw t xs => cases h2
  | own nw xs =>
    obtain ⟨a, vs, e1, e2, _, e3, _, e4⟩ := s.own i nw xs h1
    exact ⟨a, vs, e1, e2, e3, e4⟩
  | io xs =>
    obtain ⟨a, vs, e1, e2, _, e3, e4⟩ := s.io i xs h1
    exact ⟨a, vs, e1, e2, e3, .inl e4⟩
theorem SR.pmLst (s : SR g N env σ H) {b : Addr} (h : Pm env σ b) : (∃ vs, H b = some (.lst vs)) ∧ ¬ N b ∧ (g.IO b ∨ g.H0 b = none) := by
  obtain ⟨i, hi, e⟩ := h
  obtain ⟨a, vs, e1, e2, e3, e4⟩ := s.mutAt hi
  rw [e] at e1
  cases e1
  exact ⟨⟨vs, e2⟩, e3, e4⟩

/-- a step: what isn't held by a slot stays -/
structure Stp (A : Addr → Prop) (env : En) (σ : L2.St) (H : Hp) (env' : En) (σ' : L2.St) (H' : Hp) : Prop where
  ext : ∀ b o, H b = some o → A b → ¬ Pm env σ b → H' b = some o
  grow : ∀ b, Pm env' σ' b → Pm env σ b ∨ H b = none
  dom : ∀ b, H b ≠ none → H' b ≠ none
  fixB : ∀ (i : Nat) (t : Bool) (xs : List AV), env[i]? = some (some (.brw t xs)) → env'[i]? = some (some (.brw t xs)) ∧ σ'[i]? = σ[i]?
  fixI : ∀ (i : Nat) (xs : List AV), env[i]? = some (some (.io xs)) → (∃ ys, env'[i]? = some (some (.io ys))) ∧ σ'[i]? = σ[i]?
  noB : ∀ (i : Nat) (t : Bool) (xs : List AV), env'[i]? = some (some (.brw t xs)) → env[i]? = some (some (.brw t xs))
theorem Stp.refl {A : Addr → Prop} : Stp A env σ H env σ H :=
  ⟨fun _ _ h _ _ => h, fun _ h => .inl h, fun _ h => h, fun _ _ _ h => ⟨h, rfl⟩, fun _ xs h => ⟨⟨xs, h⟩, rfl⟩, fun _ _ _ h => h⟩
theorem Stp.trans {A : Addr → Prop} (a : Stp A env σ H env' σ' H') (b : Stp A env' σ' H' env2 σ2 H2) : Stp A env σ H env2 σ2 H2 where
  ext := fun c o h hA hn => b.ext c o (a.ext c o h hA hn) hA fun z => by
    rcases a.grow c z with q | q
    · exact hn q
    · rw [h] at q; cases q
  grow := fun c z => by
    rcases b.grow c z with q | q
    · exact a.grow c q
    · refine .inr ?_
      cases e : H c with
      | none => rfl
      | some o => exact absurd q (a.dom c (by rw [e]; simp))
  dom := fun c h => b.dom c (a.dom c h)
  fixB := fun i t xs h => by
    obtain ⟨h1, h2⟩ := a.fixB i t xs h
    obtain ⟨h3, h4⟩ := b.fixB i t xs h1
    exact ⟨h3, h4.trans h2⟩
  fixI := fun i xs h => by
    obtain ⟨⟨ys, h1⟩, h2⟩ := a.fixI i xs h
    obtain ⟨h3, h4⟩ := b.fixI i ys h1
    exact ⟨h3, h4.trans h2⟩
  noB := fun i t xs h => a.noB i t xs (b.noB i t xs h)
theorem Stp.weak {A B : Addr → Prop} (a : Stp A env σ H env' σ' H') (h : ∀ b, B b → A b) : Stp B env σ H env' σ' H' :=
  ⟨fun b o e hb hn => a.ext b o e (h b hb) hn, a.grow, a.dom, a.fixB, a.fixI, a.noB⟩
abbrev All : Addr → Prop := fun _ => True
/-- plain values through a step -/
theorem SR.stab (s : SR g N env σ H) (t : Stp All env σ H env' σ' H') : Stab (Pv N env σ) H H' := fun b o h hq => t.ext b o h trivial fun z => by
  obtain ⟨⟨vs, e⟩, _⟩ := s.pmLst z
  rcases hq with q | q
  · exact q (.inr z)
  · rw [h] at e
    cases e
    exact q vs rfl
theorem RV.step {d : AV} {v : V} (s : SR g N env σ H) (t : Stp All env σ H env' σ' H') (r : RV g.K g.H0 H (Pv N env σ) d v) : RV g.K g.H0 H' (Pv N env' σ') d v :=
  RV.mono (s.stab t) (fun b hb hn => by
    rcases hb with z | z
    · exact .inl z
    · rcases t.grow b z with q | q
      · exact .inr q
      · exact absurd q hn) r
theorem RVs.step {d : List AV} {v : List V} (s : SR g N env σ H) (t : Stp All env σ H env' σ' H') (r : RVs g.K g.H0 H (Pv N env σ) d v) : RVs g.K g.H0 H' (Pv N env' σ') d v :=
  RVs.mono (s.stab t) (fun b hb hn => by
    rcases hb with z | z
    · exact .inl z
    · rcases t.grow b z with q | q
      · exact .inr q
      · exact absurd q hn) r

/-- a new object that nothing holds yet -/
theorem SR.new (s : SR g N env σ H) {p : Addr} {o : HO} (hp : H p = none) : SR g N env σ (upd H p o) ∧ Stp All env σ H env σ (upd H p o) := by
  have st : Stab (Pv N env σ) H (upd H p o) := fun b u h _ => by rw [upd_ne (ne_of_none h hp)]; exact h
  have ne : ∀ {b : Addr} {u : HO}, H b = some u → upd H p o b = some u := fun h => by rw [upd_ne (ne_of_none h hp)]; exact h
  have dm : ∀ b, H b ≠ none → upd H p o b ≠ none := fun b h => by
    have : b ≠ p := fun z => h (by rw [z]; exact hp)
    rw [upd_ne this]; exact h
  have id : ∀ b, Pv N env σ b → H b ≠ none → Pv N env σ b := fun _ h _ => h
  refine ⟨⟨s.len, fun i d h => ?_, fun i nw xs h => ?_, fun i xs h => ?_, fun i t xs h => ?_, s.inj, fun b u h n => ne (s.keep b u h n), fun b h => dm b (s.dom b h), fun b h => dm b (s.nst b h)⟩, ⟨fun b u h _ _ => ne h, fun _ h => .inl h, dm, fun _ _ _ h => ⟨h, rfl⟩, fun _ xs h => ⟨⟨xs, h⟩, rfl⟩, fun _ _ _ h => h⟩⟩
  · obtain ⟨v, h1, h2⟩ := s.val i d h
    exact ⟨v, h1, h2.mono st id⟩
  · obtain ⟨a, vs, h1, h2, h3, h4⟩ := s.own i nw xs h
    exact ⟨a, vs, h1, ne h2, h3.mono st id, h4⟩
  · obtain ⟨a, vs, h1, h2, h3, h4⟩ := s.io i xs h
    exact ⟨a, vs, h1, ne h2, h3.mono st id, h4⟩
  · obtain ⟨a, vs, h1, h2⟩ := s.brw i t xs h
    refine ⟨a, vs, h1, ?_⟩
    rcases h2 with h2 | ⟨h2 | ⟨u, h2⟩, h3, h4, h5⟩
    · exact .inl h2
    · exact .inr ⟨.inl (ne h2), h3, h4.mono st id, fun q => ne (h5 q)⟩
    · exact .inr ⟨.inr ⟨u, ne h2⟩, h3, h4.mono st id, fun q => ne (h5 q)⟩

abbrev adN (N : Addr → Prop) (a : Addr) : Addr → Prop := fun b => N b ∨ b = a
theorem SR.newN (s : SR g N env σ H) {p : Addr} {ws : List V} (hp : H p = none) : SR g (adN N p) env σ (upd H p (.lst ws)) := by
  obtain ⟨s1, _⟩ := s.new (o := .lst ws) hp
  have st : Stab (Pv N env σ) H (upd H p (.lst ws)) := fun b u h _ => by rw [upd_ne (ne_of_none h hp)]; exact h
  have id : ∀ b, Pv (adN N p) env σ b → H b ≠ none → Pv N env σ b := fun b h hn => by
    rcases h with (h | h) | h
    · exact .inl h
    · exact absurd (by rw [h]; exact hp) hn
    · exact .inr h
  have np : ∀ {a : Addr} {u : HO}, H a = some u → ¬ N a → ¬ adN N p a := fun h hn z => by
    rcases z with z | z
    · exact hn z
    · rw [z, hp] at h; cases h
  refine ⟨s.len, fun i d h => ?_, fun i nw xs h => ?_, fun i xs h => ?_, fun i t xs h => ?_, s.inj, s1.keep, s1.dom, fun b h => ?_⟩
  · obtain ⟨v, h1, h2⟩ := s.val i d h
    exact ⟨v, h1, h2.mono st id⟩
  · obtain ⟨a, vs, h1, h2, h3, h4, h5⟩ := s.own i nw xs h
    exact ⟨a, vs, h1, by rw [upd_ne (ne_of_none h2 hp)]; exact h2, h3.mono st id, np h2 h4, h5⟩
  · obtain ⟨a, vs, h1, h2, h3, h4, h5⟩ := s.io i xs h
    exact ⟨a, vs, h1, by rw [upd_ne (ne_of_none h2 hp)]; exact h2, h3.mono st id, np h2 h4, h5⟩
  · obtain ⟨a, vs, h1, h2⟩ := s.brw i t xs h
    have ne : ∀ {b : Addr} {u : HO}, H b = some u → upd H p (.lst ws) b = some u := fun h => by rw [upd_ne (ne_of_none h hp)]; exact h
    refine ⟨a, vs, h1, ?_⟩
    rcases h2 with h2 | ⟨h2 | ⟨u, h2⟩, h3, h4, h5⟩
    · exact .inl h2
    · exact .inr ⟨.inl (ne h2), .inl h3, h4.mono st id, fun q => ne (h5 q)⟩
    · exact .inr ⟨.inr ⟨u, ne h2⟩, .inl h3, h4.mono st id, fun q => ne (h5 q)⟩
  · rcases h with h | h
    · exact s1.nst b h
    · rw [h, upd_same]; simp
/-- fewer addresses that nothing holds -/
theorem SR.drop (s1 : SR g N env σ H) (t : Stp All env σ H env' σ' H') (s2 : SR g N' env' σ' H') (h : ∀ b, N b → N' b) : SR g N env' σ' H' := by
  have st : Stab (Pv N' env' σ') H' H' := fun b u h _ => h
  have id : ∀ b, Pv N env' σ' b → H' b ≠ none → Pv N' env' σ' b := fun b z _ => z.elim (fun q => .inl (h b q)) .inr
  refine ⟨s2.len, fun i d e => ?_, fun i nw xs e => ?_, fun i xs e => ?_, fun i tt xs e => ?_, s2.inj, s2.keep, s2.dom, fun b e => s2.nst b (h b e)⟩
  · obtain ⟨v, h1, h2⟩ := s2.val i d e
    exact ⟨v, h1, h2.mono st id⟩
  · obtain ⟨a, vs, h1, h2, h3, h4, h5⟩ := s2.own i nw xs e
    exact ⟨a, vs, h1, h2, h3.mono st id, fun z => h4 (h _ z), h5⟩
  · obtain ⟨a, vs, h1, h2, h3, h4, h5⟩ := s2.io i xs e
    exact ⟨a, vs, h1, h2, h3.mono st id, fun z => h4 (h _ z), h5⟩
  · have e1 := t.noB i tt xs e
    obtain ⟨a, vs, h1, h2⟩ := s1.brw i tt xs e1
    have nP : N a → ¬ Pm env σ a := fun z q => (s1.pmLst q).2.1 z
    refine ⟨a, vs, (t.fixB i tt xs e1).2.trans h1, ?_⟩
    rcases h2 with h2 | ⟨h2 | ⟨u, h2⟩, h3, h4, h5⟩
    · exact .inl h2
    · exact .inr ⟨.inl (t.ext _ _ h2 trivial (nP h3)), h3, RVs.step s1 t h4, fun q => t.ext _ _ (h5 q) trivial (nP h3)⟩
    · exact .inr ⟨.inr ⟨u, t.ext _ _ h2 trivial (nP h3)⟩, h3, RVs.step s1 t h4, fun q => t.ext _ _ (h5 q) trivial (nP h3)⟩
end
end RX
/-! RX part b: results, what an expression's reading says, operations on values. -/
namespace RX
open PySem L2

/-- how an evaluation ends: a value, or an exception of the class so called -/
inductive R (α : Type) where
  | ok (a : α) (e : En)
  | exc (c : Str) (e : En)
def bnd {α β : Type} (x : Option (R α)) (f : α → En → Option (R β)) : Option (R β) := match x with
  | none => none
  | some (.ok a e) => f a e
  | some (.exc c e) => some (.exc c e)
@[simp] theorem bnd_ok {α β : Type} {a : α} {e : En} {f : α → En → Option (R β)} : bnd (some (.ok a e)) f = f a e := id rfl
@[simp] theorem bnd_exc {α β : Type} {c : Str} {e : En} {f : α → En → Option (R β)} : bnd (some (.exc c e)) f = some (.exc c e) := id rfl
@[simp] theorem bnd_none {α β : Type} {f : α → En → Option (R β)} : bnd (none : Option (R α)) f = none := id rfl

/-- what is wanted of an evaluation's end -/
def wpR {α : Type} (x : Option (R α)) (K1 : α → En → Prop) (K2 : Str → En → Prop) : Prop := match x with
  | none => False
  | some (.ok a e) => K1 a e
  | some (.exc c e) => K2 c e
theorem wpR_bnd {α β : Type} {x : Option (R α)} {f : α → En → Option (R β)} {K1 : β → En → Prop} {K2 : Str → En → Prop} (h : wpR (bnd x f) K1 K2) : wpR x (fun a e => wpR (f a e) K1 K2) K2 := by
  cases x with
  | none => exact h
  | some y => cases y <;> exact h
theorem wpR_mono {α : Type} {x : Option (R α)} {K1 K1' : α → En → Prop} {K2 K2' : Str → En → Prop} (h : wpR x K1 K2) (h1 : ∀ a e, K1 a e → K1' a e) (h2 : ∀ c e, K2 c e → K2' c e) : wpR x K1' K2' := by
  cases x with
  | none => exact h
  | some y =>
    cases y with
    | ok a e => exact h1 a e h
    | exc c e => exact h2 c e h
/-- the addresses of lists just made among some values -/
def tmp : List AV → List V → Addr → Prop
  | .frs _ :: ds, .ref a :: vs, b => b = a ∨ tmp ds vs b
  | _ :: ds, _ :: vs, b => tmp ds vs b
  | _, _, _ => False
abbrev orN (N T : Addr → Prop) : Addr → Prop := fun b => N b ∨ T b
/-- a value at hand: what is wanted of it; T: what is made behind it -/
def HeadOk (g : Gh) (F N T : Addr → Prop) (env : En) (σ : L2.St) (H : Hp) (d : AV) (v : V) : Prop := match d with
  | .frs xs => SR g N env σ H ∧ ∃ a ws, v = .ref a ∧ H a = some (.lst ws) ∧ g.H0 a = none ∧ ¬ N a ∧ RVs g.K g.H0 H (Pv (orN (adN N a) T) env σ) xs ws ∧ F a
  | .sl i => σ[i]? = some (some v)
  | d => RV g.K g.H0 H (Pv (orN N T) env σ) d v
/-- behind it: its address is held by nothing else -/
def nxN (N : Addr → Prop) (d : AV) (v : V) : Addr → Prop := match d, v with
  | .frs _, .ref a => adN N a
  | _, _ => N
def Posts (g : Gh) (F : Addr → Prop) (env : En) (σ : L2.St) (H : Hp) : (Addr → Prop) → List AV → List V → Prop
  | N, [], [] => SR g N env σ H
  | N, d :: ds, v :: vs => HeadOk g F N (tmp ds vs) env σ H d v ∧ Posts g F env σ H (nxN N d v) ds vs
  | _, _, _ => False
/-- what may have come since: no slot's, no known one -/
def Fr (env : En) (σ : L2.St) (H : Hp) : Addr → Prop := fun b => H b = none ∨ Pm env σ b
theorem Fr.sub {A : Addr → Prop} {env env' : En} {σ σ' : L2.St} {H H' : Hp} (t : Stp A env σ H env' σ' H') (b : Addr) (h : Fr env' σ' H' b) : Fr env σ H b := by
  rcases h with h | h
  · refine .inl ?_
    cases e : H b with
    | none => rfl
    | some o => exact absurd h (t.dom b (by rw [e]; simp))
  · exact (t.grow b h).symm
theorem Fr.sub1 {A : Addr → Prop} {env env' : En} {σ σ' : L2.St} {H H' : Hp} (t : Stp A env σ H env' σ' H') (b : Addr) (h : H' b = none) : Fr env σ H b := Fr.sub t b (.inl h)

section
variable {g : Gh} {F F' N N' T T' M : Addr → Prop} {env env' env2 : En} {σ σ' σ2 : L2.St} {H H' H2 : Hp} {d : AV} {v : V} {ds : List AV} {vs : List V}
theorem nxN_sub {b : Addr} (h : N b) : nxN N d v b := by
  cases d <;> cases v <;> first | exact h | exact .inl h
theorem RV.stepM {d : AV} {v : V} (s : SR g N env σ H) (t : Stp All env σ H env' σ' H') (hM : ∀ b, N b → M b) (r : RV g.K g.H0 H (Pv M env σ) d v) : RV g.K g.H0 H' (Pv M env' σ') d v :=
  RV.mono (fun b o h q => s.stab t b o h (q.imp (fun z w => z (w.elim (fun y => .inl (hM b y)) .inr)) id)) (fun b hb hn => by
    rcases hb with z | z
    · exact .inl z
    · rcases t.grow b z with q | q
      · exact .inr q
      · exact absurd q hn) r
theorem RVs.stepM {d : List AV} {v : List V} (s : SR g N env σ H) (t : Stp All env σ H env' σ' H') (hM : ∀ b, N b → M b) (r : RVs g.K g.H0 H (Pv M env σ) d v) : RVs g.K g.H0 H' (Pv M env' σ') d v :=
  RVs.mono (fun b o h q => s.stab t b o h (q.imp (fun z w => z (w.elim (fun y => .inl (hM b y)) .inr)) id)) (fun b hb hn => by
    rcases hb with z | z
    · exact .inl z
    · rcases t.grow b z with q | q
      · exact .inr q
      · exact absurd q hn) r
theorem HeadOk.monoT (k : ∀ b, T' b → H b ≠ none → T b) (h : HeadOk g F N T env σ H d v) : HeadOk g F N T' env σ H d v := by
  have up : ∀ b, Pv (orN N T') env σ b → H b ≠ none → Pv (orN N T) env σ b := fun b hb hn => by
    rcases hb with (hb | hb) | hb
    · exact .inl (.inl hb)
    · exact .inl (.inr (k b hb hn))
    · exact .inr hb
  have id : Stab (Pv (orN N T) env σ) H H := fun _ _ h _ => h
  cases d with
  | frs xs =>
    obtain ⟨h1, a, ws, rfl, h3, h4, h5, h6, h7⟩ := h
    refine ⟨h1, a, ws, rfl, h3, h4, h5, h6.mono (fun _ _ h _ => h) fun b hb hn => ?_, h7⟩
    rcases hb with (hb | hb) | hb
    · exact .inl (.inl hb)
    · exact .inl (.inr (k b hb hn))
    · exact .inr hb
  | sl i => exact h
  | tup xs => exact RV.mono id up h
  | lst nw xs => exact RV.mono id up h
  | non => exact RV.mono id up h
  | bl b => exact RV.mono id up h
  | int i => exact RV.mono id up h
  | str x => exact RV.mono id up h
  | fn x => exact RV.mono id up h
  | jk q1 q2 => exact RV.mono id up h
  | exo q1 => exact RV.mono id up h
  | dcx => exact RV.mono id up h
  | ty x => exact RV.mono id up h
theorem Posts.sr : ∀ {N : Addr → Prop} {ds : List AV} {vs : List V}, Posts g F env σ H N ds vs → SR g N env σ H
  | _, [], [], h => h
  | N, d :: ds, v :: vs, h => by
    obtain ⟨h1, h2⟩ := h
    have h3 := Posts.sr h2
    cases d with
    | frs xs => exact h1.1
    | _ => cases v <;> exact h3
  | _, [], _ :: _, h => h.elim
  | _, _ :: _, [], h => h.elim
theorem Posts.length : ∀ {N : Addr → Prop} {ds : List AV} {vs : List V}, Posts g F env σ H N ds vs → ds.length = vs.length
  | _, [], [], _ => rfl
  | N, d :: ds, v :: vs, h => by rw [List.length_cons, List.length_cons, Posts.length h.2]
  | _, [], _ :: _, h => h.elim
  | _, _ :: _, [], h => h.elim
/-- a value through a step -/
theorem HeadOk.step (h : HeadOk g F N T env σ H d v) (s : SR g (nxN N d v) env σ H) (t : Stp All env σ H env' σ H') (s2 : SR g (nxN N d v) env' σ H') : HeadOk g F N T env' σ H' d v := by
  cases d with
  | frs xs =>
    obtain ⟨h1, a, ws, rfl, h3, h4, h5, h6, h7⟩ := h
    have s : SR g (adN N a) env σ H := s
    have s2 : SR g (adN N a) env' σ H' := s2
    refine ⟨SR.drop h1 t s2 fun _ => .inl, a, ws, rfl, t.ext _ _ h3 trivial fun q => (s.pmLst q).2.1 (.inr rfl), h4, h5, RVs.stepM s t (fun _ => .inl) h6, h7⟩
  | sl i => exact h
  | tup xs => exact RV.stepM (by cases v <;> exact s) t (fun _ => .inl) h
  | lst nw xs => exact RV.stepM (by cases v <;> exact s) t (fun _ => .inl) h
  | non => exact RV.stepM (by cases v <;> exact s) t (fun _ => .inl) h
  | bl b => exact RV.stepM (by cases v <;> exact s) t (fun _ => .inl) h
  | int i => exact RV.stepM (by cases v <;> exact s) t (fun _ => .inl) h
  | str x => exact RV.stepM (by cases v <;> exact s) t (fun _ => .inl) h
  | fn x => exact RV.stepM (by cases v <;> exact s) t (fun _ => .inl) h
  | jk q1 q2 => exact RV.stepM (by cases v <;> exact s) t (fun _ => .inl) h
  | exo q1 => exact RV.stepM (by cases v <;> exact s) t (fun _ => .inl) h
  | dcx => exact RV.stepM (by cases v <;> exact s) t (fun _ => .inl) h
  | ty x => exact RV.stepM (by cases v <;> exact s) t (fun _ => .inl) h
theorem Posts.monoF (k : ∀ b, F b → F' b) : ∀ {N : Addr → Prop} {ds : List AV} {vs : List V}, Posts g F env σ H N ds vs → Posts g F' env σ H N ds vs
  | _, [], [], h => h
  | N, d :: ds, v :: vs, h => by
    refine ⟨?_, Posts.monoF k h.2⟩
    have h1 := h.1
    cases d with
    | frs xs =>
      obtain ⟨h1, a, ws, rfl, h3, h4, h5, h6, h7⟩ := h1
      exact ⟨h1, a, ws, rfl, h3, h4, h5, h6, k _ h7⟩
    | _ => exact h1
  | _, [], _ :: _, h => h.elim
  | _, _ :: _, [], h => h.elim
theorem Posts.tmpF : ∀ {N : Addr → Prop} {ds : List AV} {vs : List V}, Posts g F env σ H N ds vs → ∀ b, tmp ds vs b → F b
  | _, [], [], _, _, h => h.elim
  | N, d :: ds, v :: vs, h, b, hb => by
    have h2 := Posts.tmpF h.2 b
    cases d with
    | frs xs =>
      obtain ⟨h1, a, ws, rfl, h3, h4, h5, h6, h7⟩ := h.1
      have hb : b = a ∨ tmp ds vs b := hb
      rcases hb with rfl | hb
      · exact h7
      · exact h2 hb
    | _ => cases v <;> exact h2 hb
  | _, [], _ :: _, h, _, _ => h.elim
  | _, _ :: _, [], h, _, _ => h.elim
theorem Posts.cons (h : Posts g F env σ H N [d] [v]) (t : Stp All env σ H env' σ H') (h2 : Posts g (Fr env σ H) env' σ H' (nxN N d v) ds vs) (hF : ∀ b, Fr env σ H b → F b) : Posts g F env' σ H' N (d :: ds) (v :: vs) := by
  refine ⟨?_, h2.monoF hF⟩
  -- ahead of the step the head's lists are known, so none of them is made later
  have hT := h2.tmpF
  refine HeadOk.step ?_ h.2 t h2.sr
  have id : Stab (Pv (orN N fun _ => False) env σ) H H := fun _ _ h _ => h
  have h1 := h.1
  have up : ∀ b, Pv (orN N (tmp ds vs)) env σ b → H b ≠ none → Pv (orN N (tmp [] [])) env σ b := fun b hb hn => by
    rcases hb with (hb | hb) | hb
    · exact .inl (.inl hb)
    · exact (hT b hb).elim (fun z => absurd z hn) .inr
    · exact .inr hb
  have id : Stab (Pv (orN N (tmp [] [])) env σ) H H := fun _ _ h _ => h
  cases d with
  | frs xs =>
    obtain ⟨k1, a, ws, rfl, h3, h4, h5, h6, h7⟩ := h1
    refine ⟨k1, a, ws, rfl, h3, h4, h5, h6.mono (fun _ _ h _ => h) fun b hb hn => ?_, h7⟩
    rcases hb with (hb | hb) | hb
    · exact .inl (.inl hb)
    · exact (hT b hb).elim (fun z => absurd z hn) .inr
    · exact .inr hb
  | sl i => exact h1
  | tup xs => exact RV.mono id up h1
  | lst nw xs => exact RV.mono id up h1
  | non => exact RV.mono id up h1
  | bl b => exact RV.mono id up h1
  | int i => exact RV.mono id up h1
  | str x => exact RV.mono id up h1
  | fn x => exact RV.mono id up h1
  | jk q1 q2 => exact RV.mono id up h1
  | exo q1 => exact RV.mono id up h1
  | dcx => exact RV.mono id up h1
  | ty x => exact RV.mono id up h1

/-- what may be put into a container or kept -/
def sto : AV → Option AV
  | .frs xs => some (.lst true xs)
  | .sl _ => none
  | d => some d
def stos : List AV → Option (List AV)
  | [] => some []
  | d :: ds => match sto d with
    | none => none
    | some e => match stos ds with
      | none => none
      | some es => some (e :: es)
theorem HeadOk.sto {e : AV} (h : HeadOk g F N T env σ H d v) (s : SR g (nxN N d v) env σ H) (hs : sto d = some e) : RV g.K g.H0 H (Pv N env σ) e v := by
  cases d with
  | frs xs =>
    obtain ⟨h1, a, ws, rfl, h3, h4, h5, h6, h7⟩ := h
    have s : SR g (adN N a) env σ H := s
    cases hs
    refine .lst h3 (fun q => ?_) (fun _ => h4) (h6.mono (fun _ _ q _ => q) fun b q _ => ?_)
    · rcases q with q | q
      · exact h5 q
      · exact (s.pmLst q).2.1 (.inr rfl)
    · rcases q with q | q
      · exact .inl (.inl (.inl q))
      · exact .inr q
  | sl i => cases hs
  | tup xs => cases hs; exact RV.mono (fun _ _ h _ => h) (fun _ q _ => q.imp .inl id) h
  | lst nw xs => cases hs; exact RV.mono (fun _ _ h _ => h) (fun _ q _ => q.imp .inl id) h
  | non => cases hs; exact RV.mono (fun _ _ h _ => h) (fun _ q _ => q.imp .inl id) h
  | bl b => cases hs; exact RV.mono (fun _ _ h _ => h) (fun _ q _ => q.imp .inl id) h
  | int i => cases hs; exact RV.mono (fun _ _ h _ => h) (fun _ q _ => q.imp .inl id) h
  | str x => cases hs; exact RV.mono (fun _ _ h _ => h) (fun _ q _ => q.imp .inl id) h
  | fn x => cases hs; exact RV.mono (fun _ _ h _ => h) (fun _ q _ => q.imp .inl id) h
  | jk q1 q2 => cases hs; exact RV.mono (fun _ _ h _ => h) (fun _ q _ => q.imp .inl id) h
  | exo q1 => cases hs; exact RV.mono (fun _ _ h _ => h) (fun _ q _ => q.imp .inl id) h
  | dcx => cases hs; exact RV.mono (fun _ _ h _ => h) (fun _ q _ => q.imp .inl id) h
  | ty x => cases hs; exact RV.mono (fun _ _ h _ => h) (fun _ q _ => q.imp .inl id) h
theorem pv_sub (b : Addr) (h : Pv N env σ b) : Pv (nxN N d v) env σ b := h.elim (fun q => .inl (nxN_sub q)) .inr
theorem Posts.stos : ∀ {N : Addr → Prop} {ds : List AV} {vs : List V} {es : List AV}, Posts g F env σ H N ds vs → stos ds = some es → RVs g.K g.H0 H (Pv N env σ) es vs
  | _, [], [], _, _, h => by cases h; exact .nil
  | N, d :: ds, v :: vs, es, h, hs => by
    obtain ⟨h1, h2⟩ := h
    unfold RX.stos at hs
    split at hs
    · cases hs
    · rename_i e he
      split at hs
      · cases hs
      · rename_i r hr
        cases hs
        exact .cons (h1.sto h2.sr he) ((Posts.stos h2 hr).mono (fun _ _ q _ => q) fun b q _ => pv_sub b q)
  | _, [], _ :: _, _, h, _ => h.elim
  | _, _ :: _, [], _, h, _ => h.elim

/-- the items of the list that a slot holds -/
def slL (env : En) (i : Nat) : Option (List AV) := match env[i]? with
  | some (some (.own _ xs)) => some xs
  | some (some (.io xs)) => some xs
  | some (some (.brw _ xs)) => some xs
  | _ => none
/-- the items of a list -/
def asL (env : En) : AV → Option (List AV)
  | .frs xs => some xs
  | .lst _ xs => some xs
  | .sl i => slL env i
  | _ => none
theorem sqL_none {K : PySem.W.Frag} {a : Addr} {ws : List V} (h : SqL K (fun _ => none) a ws) : SqL K H a ws := by
  rcases h with (h | ⟨o, h⟩) | h
  · cases h
  · cases h
  · exact .inr h
theorem HeadOk.list {xs : List AV} (h : HeadOk g F N T env σ H d v) (s : SR g (nxN N d v) env σ H) (hs : asL env d = some xs) : ∃ a ws, v = .ref a ∧ SqL g.K H a ws ∧ RVs g.K g.H0 H (Pv N env σ) xs ws := by
  cases d with
  | frs ys =>
    obtain ⟨h1, a, ws, rfl, h3, h4, h5, h6, h7⟩ := h
    cases hs
    exact ⟨a, ws, rfl, SqL.of h3, h6.mono (fun _ _ q _ => q) fun b q _ => q.elim (fun z => .inl (.inl (.inl z))) .inr⟩
  | lst nw ys =>
    cases hs
    cases h with
    | lst h1 h2 h3 h4 => exact ⟨_, _, rfl, SqL.of h1, h4.mono (fun _ _ q _ => q) fun b q _ => q.imp .inl id⟩
  | sl i =>
    have h : σ[i]? = some (some v) := h
    have s : SR g N env σ H := s
    have hs : slL env i = some xs := hs
    unfold slL at hs
    split at hs
    · rename_i nw ys e
      cases hs
      obtain ⟨a, ws, h1, h2, h3, _⟩ := s.own i _ _ e
      rw [h] at h1; cases h1
      exact ⟨a, ws, rfl, SqL.of h2, h3⟩
    · rename_i ys e
      cases hs
      obtain ⟨a, ws, h1, h2, h3, _⟩ := s.io i _ e
      rw [h] at h1; cases h1
      exact ⟨a, ws, rfl, SqL.of h2, h3⟩
    · rename_i tb ys e
      cases hs
      obtain ⟨a, ws, h1, h2⟩ := s.brw i _ _ e
      rw [h] at h1; cases h1
      rcases h2 with ⟨h2, _, h3⟩ | ⟨h2, _, h3, _⟩
      · exact ⟨a, ws, rfl, sqL_none h2, h3 _ _⟩
      · exact ⟨a, ws, rfl, .inl h2, h3⟩
    · cases hs
  | tup ys => cases hs
  | non => cases hs
  | bl b => cases hs
  | int i => cases hs
  | str x => cases hs
  | fn x => cases hs
  | jk q1 q2 => cases hs
  | exo q1 => cases hs
  | dcx => cases hs
  | ty x => cases hs
/-- the items of a list that is no known object -/
def slM (env : En) (i : Nat) : Option (List AV) := match env[i]? with
  | some (some (.own _ xs)) => some xs
  | some (some (.io xs)) => some xs
  | some (some (.brw true xs)) => some xs
  | _ => none
def asM (env : En) : AV → Option (List AV)
  | .frs xs => some xs
  | .lst _ xs => some xs
  | .sl i => slM env i
  | _ => none
theorem HeadOk.listM {xs : List AV} (h : HeadOk g F N T env σ H d v) (s : SR g (nxN N d v) env σ H) (hs : asM env d = some xs) : ∃ a ws, v = .ref a ∧ H a = some (.lst ws) ∧ RVs g.K g.H0 H (Pv N env σ) xs ws := by
  cases d with
  | frs ys =>
    obtain ⟨h1, a, ws, rfl, h3, h4, h5, h6, h7⟩ := h
    cases hs
    exact ⟨a, ws, rfl, h3, h6.mono (fun _ _ q _ => q) fun b q _ => q.elim (fun z => .inl (.inl (.inl z))) .inr⟩
  | lst nw ys =>
    cases hs
    cases h with
    | lst h1 h2 h3 h4 => exact ⟨_, _, rfl, h1, h4.mono (fun _ _ q _ => q) fun b q _ => q.imp .inl id⟩
  | sl i =>
    have h : σ[i]? = some (some v) := h
    have s : SR g N env σ H := s
    have hs : slM env i = some xs := hs
    unfold slM at hs
    split at hs
    · rename_i nw ys e
      cases hs
      obtain ⟨a, ws, h1, h2, h3, _⟩ := s.own i _ _ e
      rw [h] at h1; cases h1
      exact ⟨a, ws, rfl, h2, h3⟩
    · rename_i ys e
      cases hs
      obtain ⟨a, ws, h1, h2, h3, _⟩ := s.io i _ e
      rw [h] at h1; cases h1
      exact ⟨a, ws, rfl, h2, h3⟩
    · rename_i ys e
      cases hs
      obtain ⟨a, ws, h1, h2⟩ := s.brw i _ _ e
      rw [h] at h1; cases h1
      rcases h2 with ⟨_, h2, _⟩ | ⟨_, _, h3, h4⟩
      · cases h2
      · exact ⟨a, ws, rfl, h4 rfl, h3⟩
    · cases hs
  | tup ys => cases hs
  | non => cases hs
  | bl b => cases hs
  | int i => cases hs
  | str x => cases hs
  | fn x => cases hs
  | jk q1 q2 => cases hs
  | exo q1 => cases hs
  | dcx => cases hs
  | ty x => cases hs
theorem Posts.listM {xs : List AV} (h : Posts g F env σ H N (d :: ds) (v :: vs)) (hs : asM env d = some xs) : ∃ a ws, v = .ref a ∧ H a = some (.lst ws) ∧ RVs g.K g.H0 H (Pv N env σ) xs ws := HeadOk.listM h.1 h.2.sr hs
theorem Posts.two {d2 : AV} {v2 : V} (h : Posts g F env σ H N [d, d2] [v, v2]) : Posts g F env σ H N [d] [v] ∧ Posts g F env σ H (nxN N d v) [d2] [v2] := by
  obtain ⟨h1, h2⟩ := h
  exact ⟨⟨h1.monoT fun _ z _ => z.elim, h2.sr⟩, h2⟩
theorem Posts.list {xs : List AV} (h : Posts g F env σ H N (d :: ds) (v :: vs)) (hs : asL env d = some xs) : ∃ a ws, v = .ref a ∧ SqL g.K H a ws ∧ RVs g.K g.H0 H (Pv N env σ) xs ws := HeadOk.list h.1 h.2.sr hs
theorem pv0 (b : Addr) (h : Pv (orN N (tmp [] [])) env σ b) : Pv N env σ b := by
  rcases h with (h | h) | h
  · exact .inl h
  · exact h.elim
  · exact .inr h
theorem rv0 (h : RV g.K g.H0 H (Pv N env σ) d v) : RV g.K g.H0 H (Pv (orN N (tmp [] [])) env σ) d v := h.mono (fun _ _ q _ => q) fun b q _ => pv0 b q
theorem rvs0 (h : RVs g.K g.H0 H (Pv N env σ) ds vs) : RVs g.K g.H0 H (Pv (orN N (tmp [] [])) env σ) ds vs := h.mono (fun _ _ q _ => q) fun b q _ => pv0 b q
/-- a plain value at hand -/
theorem post_plain {e : AV} (s : SR g N env σ H) (h : RV g.K g.H0 H (Pv N env σ) e v) (hd : ∀ xs, e ≠ .frs xs := by intro _ z; cases z) (hi : ∀ i, e ≠ .sl i := by intro _ z; cases z) : Posts g F env σ H N [e] [v] := by
  cases e with
  | frs xs => exact absurd rfl (hd xs)
  | sl i => exact absurd rfl (hi i)
  | tup xs => exact ⟨rv0 h, by cases v <;> exact s⟩
  | lst nw xs => exact ⟨rv0 h, by cases v <;> exact s⟩
  | non => exact ⟨rv0 h, by cases v <;> exact s⟩
  | bl b => exact ⟨rv0 h, by cases v <;> exact s⟩
  | int i => exact ⟨rv0 h, by cases v <;> exact s⟩
  | str x => exact ⟨rv0 h, by cases v <;> exact s⟩
  | fn x => exact ⟨rv0 h, by cases v <;> exact s⟩
  | jk q1 q2 => exact ⟨rv0 h, by cases v <;> exact s⟩
  | exo q1 => exact ⟨rv0 h, by cases v <;> exact s⟩
  | dcx => exact ⟨rv0 h, by cases v <;> exact s⟩
  | ty x => exact ⟨rv0 h, by cases v <;> exact s⟩
theorem post_sto {e : AV} (s : SR g N env σ H) (h : RV g.K g.H0 H (Pv N env σ) e v) : Posts g F env σ H N [e] [v] :=
  post_plain s h (fun xs z => by subst z; cases h) fun i z => by subst z; cases h
/-- a new list -/
theorem post_new {ys : List AV} {ws : List V} (hF : ∀ b, H b = none → F b) (s : SR g N env σ H) (h : RVs g.K g.H0 H (Pv N env σ) ys ws) {p : Addr} (hp : H p = none) : Posts g F env σ (upd H p (.lst ws)) N [.frs ys] [.ref p] := by
  obtain ⟨s1, t1⟩ := s.new (o := .lst ws) hp
  have s2 := s.newN (ws := ws) hp
  refine ⟨⟨s1, p, ws, rfl, upd_same, ?_, fun z => s.nst p z hp, h.mono (s.stab t1) fun b q hn => ?_, hF p hp⟩, s2⟩
  · cases e : g.H0 p with
    | none => rfl
    | some o => exact absurd hp (s.dom p (by rw [e]; simp))
  · rcases q with ((q | q) | q) | q
    · exact .inl q
    · exact absurd (by rw [q]; exact hp) hn
    · exact q.elim
    · exact .inr q
/-- a new tuple -/
theorem post_tup {ys : List AV} {ws : List V} (s : SR g N env σ H) (h : RVs g.K g.H0 H (Pv N env σ) ys ws) {p : Addr} (hp : H p = none) : Posts g F env σ (upd H p (.tup ws)) N [.tup ys] [.ref p] := by
  obtain ⟨s1, t1⟩ := s.new (o := .tup ws) hp
  exact ⟨rv0 (.tup (SqT.of upd_same) (RVs.step s t1 h)), s1⟩
end

/-! ### readings -/
section
variable (g : Gh) (W : WX) (cl : Str → Value)
def tA (r : En → Option (R (List AV))) : TA := fun σ H Q => ∃ N env, SR g N env σ H ∧
  wpR (r env) (fun ds env' => ∀ H' vs, Stp All env σ H env' σ H' → Posts g (Fr env σ H) env' σ H' N ds vs → Q vs H') (fun c env' => ∀ H' (dd : Unit), Stp All env σ H env' σ H' → SR g N env' σ H' → W (cl c) none σ H')
def tE (r : En → Option (R AV)) : TE := fun σ H Q => ∃ N env, SR g N env σ H ∧
  wpR (r env) (fun d env' => ∀ H' v, Stp All env σ H env' σ H' → Posts g (Fr env σ H) env' σ H' N [d] [v] → Q v H') (fun c env' => ∀ H' (dd : Unit), Stp All env σ H env' σ H' → SR g N env' σ H' → W (cl c) none σ H')
def tT (r : En → Option (R Bool)) : TT := fun σ H Q => ∃ N env, SR g N env σ H ∧
  wpR (r env) (fun b env' => ∀ H', Stp All env σ H env' σ H' → SR g N env' σ H' → Q b H') (fun c env' => ∀ H' (dd : Unit), Stp All env σ H env' σ H' → SR g N env' σ H' → W (cl c) none σ H')
end
theorem PE.weak {X : Cx} {e : Expr} {t t' : TE} (h : PE X e t) (k : ∀ σ H Q, t' σ H Q → t σ H Q) : PE X e t' := ⟨fun pins s σ H Q I q => h.run pins s σ H Q I (k _ _ _ q)⟩
theorem PT.weak {X : Cx} {e : Expr} {t t' : TT} (h : PT X e t) (k : ∀ σ H Q, t' σ H Q → t σ H Q) : PT X e t' := ⟨fun pins s σ H Q I q => h.run pins s σ H Q I (k _ _ _ q)⟩
theorem PA.weak {X : Cx} {e : List Expr} {t t' : TA} (h : PA X e t) (k : ∀ σ H Q, t' σ H Q → t σ H Q) : PA X e t' := ⟨fun pos pins s σ H Q I q => h.run pos pins s σ H Q I (k _ _ _ q)⟩
theorem PS.weak {X : Cx} {e : Stmt} {t t' : TS} (h : PS X e t) (k : ∀ D σ H, t' D σ H → t D σ H) : PS X e t' := ⟨fun pins s σ H D I q => h.run pins s σ H D I (k _ _ _ q)⟩
theorem PSs.weak {X : Cx} {e : List Stmt} {t t' : TS} (h : PSs X e t) (k : ∀ D σ H, t' D σ H → t D σ H) : PSs X e t' := ⟨fun pins s σ H D I q => h.run pins s σ H D I (k _ _ _ q)⟩

section
variable {g : Gh} {W : WX} {cl : Str → Value}
/-- an operation on values keeps what the evaluator says -/
def OpS (g : Gh) (op : En → List AV → Option AV) (r : List V → Hp → VK → Prop) : Prop := ∀ (F N : Addr → Prop) env σ H ds vs d Q, (∀ b, H b = none → F b) → Posts g F env σ H N ds vs → op env ds = some d →
  (∀ H' v, Stp All env σ H env σ H' → Posts g F env σ H' N [d] [v] → Q v H') → r vs H Q
def lift (op : En → List AV → Option AV) (ds : List AV) (e : En) : Option (R AV) := match op e ds with
  | none => none
  | some d => some (.ok d e)
theorem tA_nil {σ : L2.St} {H : Hp} {Q : List V → Hp → Prop} (h : tA g W cl (fun e => some (.ok [] e)) σ H Q) : tNil σ H Q := by
  obtain ⟨N, env, s, h⟩ := h
  exact h H [] Stp.refl s
theorem tA_cons {r1 : En → Option (R AV)} {r2 : En → Option (R (List AV))} {σ : L2.St} {H : Hp} {Q : List V → Hp → Prop} (h : tA g W cl (fun e => bnd (r1 e) fun d e1 => bnd (r2 e1) fun ds e2 => some (.ok (d :: ds) e2)) σ H Q) : tCons (tE g W cl r1) (tA g W cl r2) σ H Q := by
  obtain ⟨N, env, s, h⟩ := h
  refine ⟨N, env, s, wpR_mono (wpR_bnd h) (fun d env1 h H1 v t1 p1 => ⟨nxN N d v, env1, p1.2, wpR_mono (wpR_bnd h) (fun ds env2 h H2 vs t2 p2 => ?_) fun c env2 h H2 dd t2 s2 => ?_⟩) fun _ _ h => h⟩
  · exact h H2 (v :: vs) (t1.trans t2) (p1.cons t2 p2 (Fr.sub t1))
  · exact h H2 dd (t1.trans t2) (SR.drop p1.sr t2 s2 fun _ => nxN_sub)
theorem wpR_lift {op : En → List AV → Option AV} {ds : List AV} {e : En} {K1 : AV → En → Prop} {K2 : Str → En → Prop} (h : wpR (lift op ds e) K1 K2) : ∃ d, op e ds = some d ∧ K1 d e := by
  unfold lift at h
  cases q : op e ds with
  | none => rw [q] at h; exact h.elim
  | some d => rw [q] at h; exact ⟨d, rfl, h⟩
/-- one operand, an operation -/
theorem tE_op1 {r1 : En → Option (R AV)} {op : En → List AV → Option AV} {r : List V → Hp → VK → Prop} (ho : OpS g op r) {σ : L2.St} {H : Hp} {Q : VK} (h : tE g W cl (fun e => bnd (r1 e) fun d e1 => lift op [d] e1) σ H Q) :
    tE g W cl r1 σ H fun x H1 => r [x] H1 Q := by
  obtain ⟨N, env, s, h⟩ := h
  refine ⟨N, env, s, wpR_mono (wpR_bnd h) (fun d env1 h H1 v t1 p1 => ?_) fun _ _ h => h⟩
  obtain ⟨y, e2, h⟩ := wpR_lift h
  exact ho _ N env1 σ H1 [d] [v] y Q (Fr.sub1 t1) p1 e2 fun H2 u t2 p2 => h H2 u (t1.trans t2) p2
/-- an argument list, an operation -/
theorem tE_opA {r1 : En → Option (R (List AV))} {op : En → List AV → Option AV} {r : List V → Hp → VK → Prop} (ho : OpS g op r) {σ : L2.St} {H : Hp} {Q : VK} (h : tE g W cl (fun e => bnd (r1 e) fun d e1 => lift op d e1) σ H Q) :
    tA g W cl r1 σ H fun x H1 => r x H1 Q := by
  obtain ⟨N, env, s, h⟩ := h
  refine ⟨N, env, s, wpR_mono (wpR_bnd h) (fun d env1 h H1 v t1 p1 => ?_) fun _ _ h => h⟩
  obtain ⟨y, e2, h⟩ := wpR_lift h
  exact ho _ N env1 σ H1 d v y Q (Fr.sub1 t1) p1 e2 fun H2 u t2 p2 => h H2 u (t1.trans t2) p2
/-- two operands, an operation -/
def r2L (r : R2) : List V → Hp → VK → Prop := fun vs H Q => match vs with
  | [x, y] => r x y H Q
  | _ => False
theorem tE_op2 {r1 r2 : En → Option (R AV)} {op : En → List AV → Option AV} {r : R2} (ho : OpS g op (r2L r)) {σ : L2.St} {H : Hp} {Q : VK}
    (h : tE g W cl (fun e => bnd (r1 e) fun d e1 => bnd (r2 e1) fun d2 e2 => lift op [d, d2] e2) σ H Q) : tOp r (tE g W cl r1) (tE g W cl r2) σ H Q := by
  obtain ⟨N, env, s, h⟩ := h
  refine ⟨N, env, s, wpR_mono (wpR_bnd h) (fun d env1 h H1 v t1 p1 => ⟨nxN N d v, env1, p1.2, wpR_mono (wpR_bnd h) (fun d2 env2 h H2 v2 t2 p2 => ?_) fun c env2 h H2 dd t2 s2 => ?_⟩) fun _ _ h => h⟩
  · obtain ⟨y, e3, h⟩ := wpR_lift h
    exact ho _ N env2 σ H2 [d, d2] [v, v2] y Q (Fr.sub1 (t1.trans t2)) (p1.cons t2 p2 (Fr.sub t1)) e3 fun H3 u t3 p3 => h H3 u ((t1.trans t2).trans t3) p3
  · exact h H2 dd (t1.trans t2) (SR.drop p1.sr t2 s2 fun _ => nxN_sub)
end
end RX
/-! RX part c: operations on values, each with its reading. -/
namespace RX
open PySem L2

section
variable {g : Gh} {F N T : Addr → Prop} {env : En} {σ : L2.St} {H : Hp} {v : V}
theorem hd_int {i : Int} (h : HeadOk g F N T env σ H (.int i) v) : v = .int i := by cases (show RV _ _ _ _ (.int i) v from h); rfl
theorem hd_bl {i : Bool} (h : HeadOk g F N T env σ H (.bl i) v) : v = .bl i := by cases (show RV _ _ _ _ (.bl i) v from h); rfl
theorem hd_str {i : Str} (h : HeadOk g F N T env σ H (.str i) v) : v = .str i := by cases (show RV _ _ _ _ (.str i) v from h); rfl
theorem hd_non (h : HeadOk g F N T env σ H .non v) : v = .non := by cases (show RV _ _ _ _ .non v from h); rfl
theorem hd_ty {i : String} (h : HeadOk g F N T env σ H (.ty i) v) : v = .ty i := by cases (show RV _ _ _ _ (.ty i) v from h); rfl
theorem hd_tup {xs : List AV} (h : HeadOk g F N T env σ H (.tup xs) v) : ∃ a vs, v = .ref a ∧ SqT g.K H a vs ∧ RVs g.K g.H0 H (Pv N env σ) xs vs := by
  cases (show RV _ _ _ _ (.tup xs) v from h) with
  | tup h1 h2 => exact ⟨_, _, rfl, h1, h2.mono (fun _ _ q _ => q) fun b q _ => q.imp .inl id⟩
theorem Posts.vs1 {d : AV} {vs : List V} (h : Posts g F env σ H N [d] vs) : ∃ v, vs = [v] := by
  have e := h.length
  match vs, e with
  | [v], _ => exact ⟨v, rfl⟩
theorem Posts.vs2 {d e : AV} {vs : List V} (h : Posts g F env σ H N [d, e] vs) : ∃ v w, vs = [v, w] := by
  have e := h.length
  match vs, e with
  | [v, w], _ => exact ⟨v, w, rfl⟩
theorem Posts.vs0 {vs : List V} (h : Posts g F env σ H N [] vs) : vs = [] := by
  have e := h.length
  match vs, e with
  | [], _ => rfl
theorem Posts.int2 {i j : Int} {w : V} (h : Posts g F env σ H N [.int i, .int j] [v, w]) : v = .int i ∧ w = .int j ∧ SR g N env σ H :=
  ⟨hd_int h.1, hd_int h.2.1, h.sr⟩
/-- fewer addresses: a value held at nxN is held at N -/
theorem rvs_less {d : AV} {xs : List AV} {vs : List V} (h : RVs g.K g.H0 H (Pv (nxN N d v) env σ) xs vs) : RVs g.K g.H0 H (Pv N env σ) xs vs :=
  h.mono (fun _ _ q _ => q) fun b q _ => pv_sub b q
end
theorem stp_upd {A : Addr → Prop} {env : En} {σ : L2.St} {H : Hp} {g : Gh} {N : Addr → Prop} (s : SR g N env σ H) {p : Addr} {o : HO} (hp : H p = none) : Stp A env σ H env σ (upd H p o) := ((s.new hp).2).weak fun _ _ => trivial

/-! ### ints -/
theorem OpS.imp {g : Gh} {op : En → List AV → Option AV} {r r' : List V → Hp → VK → Prop} (h : OpS g op r) (k : ∀ vs H Q, r vs H Q → r' vs H Q) : OpS g op r' :=
  fun F N env σ H ds vs d Q hF p e q => k _ _ _ (h F N env σ H ds vs d Q hF p e q)
theorem r2L_imp {r r' : R2} (k : ∀ x y H Q, r x y H Q → r' x y H Q) : ∀ vs H Q, r2L r vs H Q → r2L r' vs H Q := fun vs H Q h => by
  unfold r2L at h ⊢
  split at h
  · exact k _ _ _ _ h
  · exact h.elim
def iI (C : Int → Int → Bool) (f : Int → Int → Int) : En → List AV → Option AV := fun _ ds => match ds with
  | [.int i, .int j] => if C i j then some (.int (f i j)) else none
  | _ => none
def iB (f : Int → Int → Bool) : En → List AV → Option AV := fun _ ds => match ds with
  | [.int i, .int j] => some (.bl (f i j))
  | _ => none
theorem ops_iI {g : Gh} {C : Int → Int → Bool} {C' : Int → Int → Prop} (hc : ∀ i j, C i j = true → C' i j) {f : Int → Int → Int} : OpS g (iI C f) (r2L (rI C' fun i j => .int (f i j))) := by
  intro F N env σ H ds vs d Q hF h e q
  unfold iI at e
  split at e
  · rename_i i j
    obtain ⟨v, w, rfl⟩ := h.vs2
    obtain ⟨rfl, rfl, s⟩ := h.int2
    split at e
    · rename_i hC
      cases e
      exact ⟨i, j, rfl, rfl, hc i j hC, q H _ Stp.refl ⟨.int _, s⟩⟩
    · cases e
  · cases e
theorem ops_iI0 {g : Gh} {f : Int → Int → Int} {C : Int → Int → Bool} : OpS g (iI C f) (r2L (rI0 fun i j => .int (f i j))) :=
  (ops_iI (C' := fun _ _ => True) fun _ _ _ => trivial).imp (r2L_imp fun x y H Q h => by
    obtain ⟨i, j, h1, h2, _, h3⟩ := h
    exact ⟨i, j, h1, h2, h3⟩)
theorem ops_iB {g : Gh} {f : Int → Int → Bool} : OpS g (iB f) (r2L (rI0 fun i j => .bl (f i j))) := by
  intro F N env σ H ds vs d Q hF h e q
  unfold iB at e
  split at e
  · rename_i i j
    obtain ⟨v, w, rfl⟩ := h.vs2
    obtain ⟨rfl, rfl, s⟩ := h.int2
    cases e
    exact ⟨i, j, rfl, rfl, q H _ Stp.refl ⟨.bl _, s⟩⟩
  · cases e
abbrev yes : Int → Int → Bool := fun _ _ => true
def cMul (i j : Int) : Bool := decide (i.natAbs < 18446744073709551616) || decide (j.natAbs < 18446744073709551616) || decide (i.natAbs.log2 + j.natAbs.log2 < 1000000)
def cDiv (_ j : Int) : Bool := decide (0 < j) && decide (j < 2 ^ 256)
def cPos (_ j : Int) : Bool := decide (0 < j)
def cPow (i j : Int) : Bool := decide (0 ≤ j) && decide (j ≤ 1000000) && decide (i.natAbs < 18446744073709551616)
def cNN (_ j : Int) : Bool := decide (0 ≤ j)
/-! the operators -/
inductive Bop where
  | add | sub | mul | div | mod | pow | shl | shr | band
def lenOk (n : Nat) : Bool := decide (n ≤ sizeLine)
def oSub := iI yes fun i j => i - j
def oDiv := iI cDiv fun i j => i / j
def oMod := iI cPos fun i j => i % j
def oPow := iI cPow fun i j => i ^ j.toNat
def oShl := iI cPow fun i j => i * 2 ^ j.toNat
def oShr := iI cNN fun i j => i / 2 ^ j.toNat
def oBand := iI yes fun i j => Builtin.bitAnd i j
section
variable {X : Cx} {g : Gh}
abbrev BinOk (X : Cx) (g : Gh) (op : Operator) (o : En → List AV → Option AV) : Prop := ∃ r : R2, OpR X (binaryOp op) r ∧ OpS g o (r2L r)
theorem bo_sub : BinOk X g .Sub oSub := ⟨_, op_sub, ops_iI0⟩
theorem bo_div : BinOk X g .FloorDiv oDiv := ⟨_, op_fdivW, ops_iI fun i j h => by
  unfold cDiv at h
  simp only [Bool.and_eq_true, decide_eq_true_eq] at h
  exact wide_div h.1 (b := 256) (by omega) (by decide) (by decide)⟩
theorem bo_mod : BinOk X g .Mod oMod := ⟨_, op_mod, ops_iI fun i j h => by
  unfold cPos at h
  simpa using h⟩
theorem cPow_ok {i j : Int} (h : cPow i j = true) : CPow i j := by
  unfold cPow at h
  simp only [Bool.and_eq_true, decide_eq_true_eq] at h
  exact ⟨h.1.1, h.1.2, by omega⟩
theorem bo_pow : BinOk X g .Pow oPow := ⟨_, op_pow, ops_iI fun i j h => cPow_ok h⟩
theorem bo_shl : BinOk X g .LShift oShl := ⟨_, op_shl, ops_iI fun i j h => cPow_ok h⟩
theorem bo_band : BinOk X g .BitAnd oBand := ⟨_, op_and, ops_iI0⟩
theorem bo_shr : BinOk X g .RShift oShr := ⟨_, op_shr, ops_iI fun i j h => by
  unfold cNN at h
  simpa using h⟩
/-- + : ints, texts, lists, tuples -/
def oAdd : En → List AV → Option AV := fun env ds => match ds with
  | [.int i, .int j] => some (.int (i + j))
  | [.str x, .str y] => if lenOk (x.length + y.length) then some (.str (x ++ y)) else none
  | [.tup xs, .tup ys] => if lenOk (xs.length + ys.length) then some (.tup (xs ++ ys)) else none
  | [x, y] => match asM env x, asM env y with
    | some xs, some ys => if lenOk (xs.length + ys.length) then some (.frs (xs ++ ys)) else none
    | _, _ => none
  | _ => none
theorem lenOk_le {n : Nat} (h : lenOk n = true) : n ≤ sizeLine := by
  unfold lenOk at h
  simpa using h
theorem listM_len {F N : Addr → Prop} {env : En} {σ : L2.St} {H : Hp} {xs : List AV} {ws : List V} (h : RVs g.K g.H0 H (Pv N env σ) xs ws) : ws.length = xs.length := h.length.symm
theorem bo_add (hK : X.K = g.K) : BinOk X g .Add oAdd := by
  refine ⟨_, op_add.or (op_add_str.or (op_cat.or op_catA)), ?_⟩
  intro F N env σ H ds vs d Q hF h e q
  unfold oAdd at e
  split at e
  · rename_i i j
    obtain ⟨v, w, rfl⟩ := h.vs2
    obtain ⟨rfl, rfl, s⟩ := h.int2
    cases e
    exact .inl ⟨i, j, rfl, rfl, q H _ Stp.refl ⟨.int _, s⟩⟩
  · rename_i x y
    obtain ⟨v, w, rfl⟩ := h.vs2
    have h1 := hd_str h.1
    have h2 := hd_str h.2.1
    subst h1 h2
    split at e
    · rename_i hl
      cases e
      exact .inr (.inl ⟨x, y, rfl, rfl, lenOk_le hl, q H _ Stp.refl ⟨.str _, h.sr⟩⟩)
    · cases e
  · rename_i xs ys
    obtain ⟨v, w, rfl⟩ := h.vs2
    obtain ⟨a, us, rfl, h1, h2⟩ := hd_tup h.1
    obtain ⟨b, ws, rfl, h3, h4⟩ := hd_tup h.2.1
    have h4 := rvs_less h4
    split at e
    · rename_i hl
      cases e
      have hl := lenOk_le hl
      rw [h2.length, h4.length] at hl
      rw [← hK] at h1 h3
      refine .inr (.inr (.inr ⟨a, b, us, ws, rfl, rfl, h1, h3, hl, fun e => ?_, fun _ e => ?_, fun _ _ p hp => ?_⟩))
      · subst e
        cases h2
        exact q H _ Stp.refl (post_plain h.sr (.tup (by rw [← hK]; exact h3) h4))
      · subst e
        cases h4
        rw [List.append_nil] at q
        exact q H _ Stp.refl (post_plain h.sr (.tup (by rw [← hK]; exact h1) h2))
      · exact q _ _ (stp_upd h.sr hp) (post_tup h.sr (h2.append h4) hp)
    · cases e
  · rename_i x y _ _ _
    split at e
    · rename_i xs ys e1 e2
      obtain ⟨v, w, rfl⟩ := h.vs2
      obtain ⟨a, us, rfl, h1, h2⟩ := h.listM e1
      obtain ⟨b, ws, rfl, h3, h4⟩ := h.two.2.listM e2
      have h4 := rvs_less h4
      split at e
      · rename_i hl
        cases e
        have hl := lenOk_le hl
        rw [h2.length, h4.length] at hl
        exact .inr (.inr (.inl ⟨a, b, us, ws, rfl, rfl, h1, h3, hl, fun p hp => q _ _ (stp_upd h.sr hp) (post_new hF h.sr (h2.append h4) hp)⟩))
      · cases e
    · cases e
  · cases e
/-- * : ints, a list and an int, a tuple and an int -/
def oMul : En → List AV → Option AV := fun env ds => match ds with
  | [.int i, .int j] => if cMul i j then some (.int (i * j)) else none
  | [.tup xs, .int k] => if decide (xs ≠ []) && decide (2 ≤ k) && decide (k ≤ 1000) && decide (xs.length ≤ 1000) then some (.tup (List.replicate k.toNat xs).flatten) else none
  | [x, .int k] => match asM env x with
    | some xs => if decide (-(2 ^ 63) ≤ k) && decide (k < 2 ^ 63) && lenOk (xs.length * k.toNat) then some (.frs (List.replicate k.toNat xs).flatten) else none
    | _ => none
  | _ => none
end
end RX
/-! RX part d: more operations: products, comparisons, items, built-ins. -/
namespace RX
open PySem L2

section
variable {K : PySem.W.Frag} {H0 H : Hp} {P : Addr → Prop}
theorem RVs.rep {xs : List AV} {vs : List V} (h : RVs K H0 H P xs vs) : ∀ n : Nat, RVs K H0 H P (List.replicate n xs).flatten (List.replicate n vs).flatten
  | 0 => .nil
  | n + 1 => by
    rw [List.replicate_succ, List.replicate_succ, List.flatten_cons, List.flatten_cons]
    exact h.append (RVs.rep h n)
theorem RVs.ints : ∀ {ns : List Int} {vs : List V}, RVs K H0 H P (ns.map .int) vs → vs = ns.map .int
  | [], _, h => by cases h; rfl
  | n :: ns, _, h => by
    cases h with
    | cons a r =>
      cases a
      rw [RVs.ints r]
      rfl
theorem RVs.ofInts : ∀ (ns : List Int), RVs K H0 H P (ns.map .int) (ns.map .int)
  | [] => .nil
  | n :: ns => .cons (.int n) (RVs.ofInts ns)
theorem RVs.bls : ∀ {ns : List Bool} {vs : List V}, RVs K H0 H P (ns.map .bl) vs → vs = ns.map .bl
  | [], _, h => by cases h; rfl
  | n :: ns, _, h => by
    cases h with
    | cons a r =>
      cases a
      rw [RVs.bls r]
      rfl
theorem RVs.none_at {xs : List AV} {vs : List V} {i : Nat} (h : RVs K H0 H P xs vs) : xs.length = vs.length := h.length
end
/-- a list of ints, of bools, read off -/
def ints? : List AV → Option (List Int)
  | [] => some []
  | .int i :: r => (ints? r).map (i :: ·)
  | _ => none
theorem ints?_map : ∀ {xs : List AV} {ns : List Int}, ints? xs = some ns → xs = ns.map .int
  | [], ns, h => by cases h; rfl
  | .int i :: r, ns, h => by
    unfold ints? at h
    cases e : ints? r with
    | none => rw [e] at h; cases h
    | some ms =>
      rw [e] at h
      cases h
      rw [ints?_map e]
      rfl
  | .non :: _, _, h => by cases h
  | .bl _ :: _, _, h => by cases h
  | .str _ :: _, _, h => by cases h
  | .tup _ :: _, _, h => by cases h
  | .lst _ _ :: _, _, h => by cases h
  | .frs _ :: _, _, h => by cases h
  | .sl _ :: _, _, h => by cases h
  | .fn _ :: _, _, h => by cases h
  | .jk _ _ :: _, _, h => by cases h
  | .exo _ :: _, _, h => by cases h
  | .dcx :: _, _, h => by cases h
  | .ty _ :: _, _, h => by cases h
@[simp] theorem ints?_ints (ns : List Int) : ints? (ns.map .int) = some ns := by
  induction ns with
  | nil => rfl
  | cons n ns ih => simp [ints?, ih]
def bls? : List AV → Option (List Bool)
  | [] => some []
  | .bl i :: r => (bls? r).map (i :: ·)
  | _ => none
theorem bls?_map : ∀ {xs : List AV} {ns : List Bool}, bls? xs = some ns → xs = ns.map .bl
  | [], ns, h => by cases h; rfl
  | .bl i :: r, ns, h => by
    unfold bls? at h
    cases e : bls? r with
    | none => rw [e] at h; cases h
    | some ms =>
      rw [e] at h
      cases h
      rw [bls?_map e]
      rfl
  | .non :: _, _, h => by cases h
  | .int _ :: _, _, h => by cases h
  | .str _ :: _, _, h => by cases h
  | .tup _ :: _, _, h => by cases h
  | .lst _ _ :: _, _, h => by cases h
  | .frs _ :: _, _, h => by cases h
  | .sl _ :: _, _, h => by cases h
  | .fn _ :: _, _, h => by cases h
  | .jk _ _ :: _, _, h => by cases h
  | .exo _ :: _, _, h => by cases h
  | .dcx :: _, _, h => by cases h
  | .ty _ :: _, _, h => by cases h
@[simp] theorem bls?_bls (ns : List Bool) : bls? (ns.map .bl) = some ns := by
  induction ns with
  | nil => rfl
  | cons n ns ih => simp [bls?, ih]

section
variable {X : Cx} {g : Gh}
theorem bo_mul (hK : X.K = g.K) : BinOk X g .Mult oMul := by
  refine ⟨_, op_mul.or (op_mulW.or (op_rep.or op_repT)), ?_⟩
  intro F N env σ H ds vs d Q hF h e q
  unfold oMul at e
  split at e
  · rename_i i j
    obtain ⟨v, w, rfl⟩ := h.vs2
    obtain ⟨rfl, rfl, s⟩ := h.int2
    split at e
    · rename_i hc
      cases e
      have q := q H _ Stp.refl ⟨.int _, s⟩
      unfold cMul at hc
      simp only [Bool.or_eq_true, decide_eq_true_eq] at hc
      rcases hc with (hc | hc) | hc
      · exact .inl ⟨i, j, rfl, rfl, .inl (by omega), q⟩
      · exact .inl ⟨i, j, rfl, rfl, .inr (by omega), q⟩
      · exact .inr (.inl ⟨i, j, rfl, rfl, hc, q⟩)
    · cases e
  · rename_i xs k
    obtain ⟨v, w, rfl⟩ := h.vs2
    obtain ⟨a, us, rfl, h1, h2⟩ := hd_tup h.1
    have h3 := hd_int h.2.1
    subst h3
    split at e
    · rename_i hc
      cases e
      simp only [Bool.and_eq_true, decide_eq_true_eq] at hc
      obtain ⟨⟨⟨c1, c2⟩, c3⟩, c4⟩ := hc
      rw [← hK] at h1
      refine .inr (.inr (.inr ⟨a, k, us, rfl, rfl, h1, fun z => c1 ?_, c2, c3, by rw [← h2.length]; exact c4, fun p hp => q _ _ (stp_upd h.sr hp) (post_tup h.sr (h2.rep _) hp)⟩))
      subst z
      cases h2
      rfl
    · cases e
  · rename_i x k _ _
    split at e
    · rename_i xs e1
      obtain ⟨v, w, rfl⟩ := h.vs2
      obtain ⟨a, us, rfl, h1, h2⟩ := h.listM e1
      have h3 := hd_int h.2.1
      subst h3
      split at e
      · rename_i hc
        cases e
        simp only [Bool.and_eq_true, decide_eq_true_eq] at hc
        exact .inr (.inr (.inl ⟨a, k, us, rfl, rfl, h1, hc.1.1, hc.1.2, by rw [← h2.length]; exact lenOk_le hc.2, fun p hp => q _ _ (stp_upd h.sr hp) (post_new hF h.sr (h2.rep _) hp)⟩))
      · cases e
    · cases e
  · cases e
/-! ### comparisons -/
abbrev CmpOk (X : Cx) (g : Gh) (op : CmpOp) (o : En → List AV → Option AV) : Prop := ∃ r : R2, OpR X (compareOp op) r ∧ OpS g o (r2L r)
def oLt := iB fun i j => decide (i < j)
def oLe := iB fun i j => decide (i ≤ j)
def oGt := iB fun i j => decide (j < i)
def oGe := iB fun i j => decide (j ≤ i)
theorem co_lt : CmpOk X g .Lt oLt := ⟨_, op_lt, ops_iB⟩
theorem co_le : CmpOk X g .LtE oLe := ⟨_, op_le, ops_iB⟩
theorem co_gt : CmpOk X g .Gt oGt := ⟨_, op_gt, ops_iB⟩
theorem co_ge : CmpOk X g .GtE oGe := ⟨_, op_ge, ops_iB⟩
mutual
/-- data to be compared -/
def toP : AV → PyData
  | .non => .none
  | .bl b => .bool b
  | .int i => .int i
  | .str x => .str x
  | .tup xs => .tuple (toPs xs)
  | .lst _ xs => .list (toPs xs)
  | _ => .none
def toPs : List AV → List PyData
  | [] => []
  | x :: xs => toP x :: toPs xs
end
mutual
def plA : AV → Bool
  | .non => true
  | .bl _ => true
  | .int _ => true
  | .str _ => true
  | .tup xs => plAs xs
  | .lst _ xs => plAs xs
  | _ => false
def plAs : List AV → Bool
  | [] => true
  | x :: xs => plA x && plAs xs
end
mutual
theorem RV.dp {K : PySem.W.Frag} {H0 H : Hp} {P : Addr → Prop} : ∀ {d : AV} {v : V}, RV K H0 H P d v → plA d = true → Dp K H v (toP d)
  | _, _, .non, _ => .non
  | _, _, .bl b, _ => .bl b
  | _, _, .int i, _ => .int i
  | _, _, .str x, _ => .str x
  | _, _, .ty n, h => by cases h
  | _, _, .tup a r, h => .tup a (RVs.dp r h)
  | _, _, .lst a _ _ r, h => .lst (SqL.of a) (RVs.dp r h)
  | _, _, .fn _, h => by cases h
  | _, _, .jk _ _ _ _, h => by cases h
  | _, _, .exo _ _, h => by cases h
  | _, _, .dcx _, h => by cases h
theorem RVs.dp {K : PySem.W.Frag} {H0 H : Hp} {P : Addr → Prop} : ∀ {d : List AV} {v : List V}, RVs K H0 H P d v → plAs d = true → DpAll K H v (toPs d)
  | _, _, .nil, _ => .nil
  | _, _, .cons a r, h => by
    unfold plAs at h
    simp only [Bool.and_eq_true] at h
    exact .cons (RV.dp a h.1) (RVs.dp r h.2)
end
/-- a value as data: a slot's list resolved -/
def rsv (env : En) (d : AV) : Option AV := match asL env d with
  | some xs => some (.lst false xs)
  | none => match d with
    | .frs _ => none
    | .sl _ => none
    | d => some d
theorem HeadOk.dp {F N T : Addr → Prop} {env : En} {σ : L2.St} {H : Hp} {d e : AV} {v : V} (h : HeadOk g F N T env σ H d v) (s : SR g (nxN N d v) env σ H) (hr : rsv env d = some e) (hp : plA e = true) : Dp g.K H v (toP e) := by
  unfold rsv at hr
  split at hr
  · rename_i xs e1
    cases hr
    obtain ⟨a, ws, rfl, h1, h2⟩ := h.list s e1
    exact .lst h1 (RVs.dp h2 hp)
  · rename_i e1
    split at hr
    · cases hr
    · cases hr
    · rename_i n1 n2
      cases hr
      cases d with
      | frs xs => exact absurd rfl (n1 xs)
      | sl i => exact absurd rfl (n2 i)
      | tup xs => exact RV.dp h hp
      | lst nw xs => exact RV.dp h hp
      | non => exact RV.dp h hp
      | bl b => exact RV.dp h hp
      | int i => exact RV.dp h hp
      | str x => exact RV.dp h hp
      | fn x => exact RV.dp h hp
      | jk q1 q2 => exact RV.dp h hp
      | exo q1 => exact RV.dp h hp
      | dcx => exact RV.dp h hp
      | ty x => exact RV.dp h hp
def okE (d : AV) : Bool := plA d && SeqAt.shaped (toP d)
def eqA (x y : AV) : Bool := PyData.eqv (toP x) (toP y)
/-- == : data at any depth -/
def oEqN (neg : Bool) : En → List AV → Option AV := fun env ds => match ds with
  | [x, y] => match rsv env x, rsv env y with
    | some x', some y' => if okE x' && okE y' then some (.bl (if neg then !eqA x' y' else eqA x' y')) else none
    | _, _ => none
  | _ => none
def oEq := oEqN false
def oNe := oEqN true
theorem ops_eq {F N : Addr → Prop} {env : En} {σ : L2.St} {H : Hp} {ds : List AV} {vs : List V} {d : AV} {neg : Bool} {Q : VK} (h : Posts g F env σ H N ds vs) (e : oEqN neg env ds = some d) (q : ∀ H' v, Stp All env σ H env σ H' → Posts g F env σ H' N [d] [v] → Q v H') :
    ∃ x y a b, vs = [x, y] ∧ Dp g.K H x a ∧ Dp g.K H y b ∧ SeqAt.shaped a = true ∧ SeqAt.shaped b = true ∧ Q (.bl (if neg then !PyData.eqv a b else PyData.eqv a b)) H := by
  unfold oEqN at e
  split at e
  · rename_i x y
    obtain ⟨v, w, rfl⟩ := h.vs2
    split at e
    · rename_i x' y' e1 e2
      split at e
      · rename_i hc
        cases e
        unfold okE at hc
        simp only [Bool.and_eq_true] at hc
        exact ⟨v, w, _, _, rfl, h.1.dp h.2.sr e1 hc.1.1, HeadOk.dp h.2.1 h.2.2 e2 hc.2.1, hc.1.2, hc.2.2, q H _ Stp.refl ⟨.bl _, h.sr⟩⟩
      · cases e
    · cases e
  · cases e
theorem co_eq (hK : X.K = g.K) (hu : X.A.units + 64 < cLine) : CmpOk X g .Eq oEq := by
  refine ⟨_, op_eqD hu, ?_⟩
  intro F N env σ H ds vs d Q hF h e q
  obtain ⟨x, y, a, b, rfl, h1, h2, h3, h4, h5⟩ := ops_eq h e q
  rw [← hK] at h1 h2
  exact ⟨a, b, h1, h2, h3, h4, h5⟩
theorem co_ne (hK : X.K = g.K) (hu : X.A.units + 64 < cLine) : CmpOk X g .NotEq oNe := by
  refine ⟨_, op_neD hu, ?_⟩
  intro F N env σ H ds vs d Q hF h e q
  obtain ⟨x, y, a, b, rfl, h1, h2, h3, h4, h5⟩ := ops_eq h e q
  rw [← hK] at h1 h2
  exact ⟨a, b, h1, h2, h3, h4, h5⟩
/-- is, is not: None, True, False on the right -/
def isN : AV → Bool
  | .non => true
  | _ => false
def oIsN (neg : Bool) : En → List AV → Option AV := fun env ds => match ds with
  | [.bl a, .bl b] => some (.bl (if neg then !decide (a = b) else decide (a = b)))
  | [x, .non] => some (.bl (if neg then !isN x else isN x))
  | _ => none
theorem isN_ok {F N T : Addr → Prop} {env : En} {σ : L2.St} {H : Hp} {d : AV} {v : V} (h : HeadOk g F N T env σ H d v) (s : SR g (nxN N d v) env σ H) (hi : ∀ i, d = .sl i → ∃ xs, asL env d = some xs) : decide (v = .non) = isN d := by
  cases d with
  | sl i =>
    obtain ⟨xs, e⟩ := hi i rfl
    obtain ⟨a, ws, rfl, _⟩ := h.list s e
    rfl
  | frs xs => obtain ⟨_, a, ws, rfl, _⟩ := h; rfl
  | tup xs => obtain ⟨a, ws, rfl, _⟩ := hd_tup h; rfl
  | lst nw xs => cases (show RV _ _ _ _ (.lst nw xs) v from h); rfl
  | non => rw [hd_non h]; rfl
  | bl b => rw [hd_bl h]; rfl
  | int i => rw [hd_int h]; rfl
  | str x => rw [hd_str h]; rfl
  | fn x => cases (show RV _ _ _ _ (.fn x) v from h); rfl
  | jk q1 q2 => cases (show RV _ _ _ _ (.jk q1 q2) v from h); rfl
  | exo q1 => cases (show RV _ _ _ _ (.exo q1) v from h); rfl
  | dcx => cases (show RV _ _ _ _ .dcx v from h); rfl
  | ty x => rw [hd_ty h]; rfl
end
end RX
/-! RX part e: is, in, items, slices, built-in calls. -/
namespace RX
open PySem L2

def isNA (env : En) : AV → Option Bool
  | .sl i => match slL env i with
    | some _ => some false
    | none => none
  | d => some (isN d)
def oIs (neg : Bool) : En → List AV → Option AV := fun env ds => match ds with
  | [.bl a, .bl b] => some (.bl (if neg then !decide (a = b) else decide (a = b)))
  | [x, .non] => match isNA env x with
    | some b => some (.bl (if neg then !b else b))
    | none => none
  | _ => none
section
variable {X : Cx} {g : Gh}
theorem isNA_ok {F N T : Addr → Prop} {env : En} {σ : L2.St} {H : Hp} {d : AV} {v : V} {b : Bool} (h : HeadOk g F N T env σ H d v) (s : SR g (nxN N d v) env σ H) (e : isNA env d = some b) : decide (v = .non) = b := by
  have key : (∀ i, d = .sl i → ∃ xs, asL env d = some xs) → isN d = b → decide (v = .non) = b := fun h1 h2 => h2 ▸ isN_ok h s h1
  cases d with
  | sl i =>
    unfold isNA at e
    simp only at e
    split at e
    · rename_i xs e2
      cases e
      exact key (fun j q => by cases q; exact ⟨xs, e2⟩) rfl
    · cases e
  | frs xs => exact key (fun _ q => by cases q) (Option.some.inj e)
  | tup xs => exact key (fun _ q => by cases q) (Option.some.inj e)
  | lst nw xs => exact key (fun _ q => by cases q) (Option.some.inj e)
  | non => exact key (fun _ q => by cases q) (Option.some.inj e)
  | bl c => exact key (fun _ q => by cases q) (Option.some.inj e)
  | int i => exact key (fun _ q => by cases q) (Option.some.inj e)
  | str x => exact key (fun _ q => by cases q) (Option.some.inj e)
  | fn x => exact key (fun _ q => by cases q) (Option.some.inj e)
  | jk q1 q2 => exact key (fun _ q => by cases q) (Option.some.inj e)
  | exo q1 => exact key (fun _ q => by cases q) (Option.some.inj e)
  | dcx => exact key (fun _ q => by cases q) (Option.some.inj e)
  | ty x => exact key (fun _ q => by cases q) (Option.some.inj e)
theorem ops_is {F N : Addr → Prop} {env : En} {σ : L2.St} {H : Hp} {ds : List AV} {vs : List V} {d : AV} {neg : Bool} {Q : VK} (h : Posts g F env σ H N ds vs) (e : oIs neg env ds = some d) (q : ∀ H' v, Stp All env σ H env σ H' → Posts g F env σ H' N [d] [v] → Q v H') :
    (∃ a b : Bool, vs = [.bl a, .bl b] ∧ Q (.bl (if neg then !decide (a = b) else decide (a = b))) H) ∨ ∃ x, vs = [x, .non] ∧ Q (.bl (if neg then !decide (x = .non) else decide (x = .non))) H := by
  unfold oIs at e
  split at e
  · rename_i a b
    obtain ⟨v, w, rfl⟩ := h.vs2
    cases e
    rw [hd_bl h.1, hd_bl h.2.1]
    exact .inl ⟨a, b, rfl, q H _ Stp.refl ⟨.bl _, h.sr⟩⟩
  · rename_i x _
    obtain ⟨v, w, rfl⟩ := h.vs2
    split at e
    · rename_i b e1
      cases e
      have h2 := hd_non h.2.1
      subst h2
      refine .inr ⟨v, rfl, ?_⟩
      rw [isNA_ok h.1 h.2.sr e1]
      exact q H _ Stp.refl ⟨.bl _, h.sr⟩
    · cases e
  · cases e
theorem co_is : CmpOk X g .Is (oIs false) := by
  refine ⟨_, op_isBl.or op_isN, ?_⟩
  intro F N env σ H ds vs d Q hF h e q
  rcases ops_is h e q with ⟨a, b, rfl, h1⟩ | ⟨x, rfl, h1⟩
  · exact .inl ⟨a, b, rfl, rfl, h1⟩
  · exact .inr ⟨rfl, h1⟩
theorem co_isNot : CmpOk X g .IsNot (oIs true) := by
  refine ⟨_, op_notBl.or op_notN, ?_⟩
  intro F N env σ H ds vs d Q hF h e q
  rcases ops_is h e q with ⟨a, b, rfl, h1⟩ | ⟨x, rfl, h1⟩
  · exact .inl ⟨a, b, rfl, rfl, h1⟩
  · exact .inr ⟨rfl, h1⟩
/-! ### in -/
def flA : AV → Option V
  | .non => some .non
  | .bl b => some (.bl b)
  | .int i => some (.int i)
  | .str x => some (.str x)
  | _ => none
def flAs : List AV → Option (List V)
  | [] => some []
  | x :: xs => match flA x, flAs xs with
    | some v, some vs => some (v :: vs)
    | _, _ => none
theorem flA_ok {K : PySem.W.Frag} {H0 H : Hp} {P : Addr → Prop} {d : AV} {v w : V} (h : RV K H0 H P d v) (e : flA d = some w) : v = w ∧ flatV w = true := by
  cases h <;> cases e <;> exact ⟨rfl, rfl⟩
theorem flAs_ok {K : PySem.W.Frag} {H0 H : Hp} {P : Addr → Prop} : ∀ {ds : List AV} {vs ws : List V}, RVs K H0 H P ds vs → flAs ds = some ws → vs = ws ∧ ws.all flatV = true
  | [], _, ws, h, e => by cases h; cases e; exact ⟨rfl, rfl⟩
  | d :: ds, _, ws, h, e => by
    cases h with
    | cons a r =>
      unfold flAs at e
      split at e
      · rename_i v' vs' e1 e2
        cases e
        obtain ⟨rfl, f1⟩ := flA_ok a e1
        obtain ⟨rfl, f2⟩ := flAs_ok r e2
        exact ⟨rfl, by simp [f1, f2]⟩
      · cases e
/-- the items of a list or a tuple -/
def asS (env : En) : AV → Option (List AV)
  | .tup xs => some xs
  | d => asL env d
theorem HeadOk.seq {F N T : Addr → Prop} {env : En} {σ : L2.St} {H : Hp} {d : AV} {v : V} {xs : List AV} (h : HeadOk g F N T env σ H d v) (s : SR g (nxN N d v) env σ H) (hs : asS env d = some xs) : ∃ a ws, v = .ref a ∧ (SqL g.K H a ws ∨ SqT g.K H a ws) ∧ RVs g.K g.H0 H (Pv N env σ) xs ws := by
  have key : asL env d = some xs → ∃ a ws, v = .ref a ∧ (SqL g.K H a ws ∨ SqT g.K H a ws) ∧ RVs g.K g.H0 H (Pv N env σ) xs ws := fun e => by
    obtain ⟨a, ws, h1, h2, h3⟩ := h.list s e
    exact ⟨a, ws, h1, .inl h2, h3⟩
  cases d with
  | tup ys =>
    cases hs
    obtain ⟨a, ws, h1, h2, h3⟩ := hd_tup h
    exact ⟨a, ws, h1, .inr h2, h3⟩
  | sl i => exact key hs
  | frs xs => exact key hs
  | lst nw xs => exact key hs
  | non => exact key hs
  | bl c => exact key hs
  | int i => exact key hs
  | str x => exact key hs
  | fn x => exact key hs
  | jk q1 q2 => exact key hs
  | exo q1 => exact key hs
  | dcx => exact key hs
  | ty x => exact key hs
def oInF (neg : Bool) : En → List AV → Option AV := fun env ds => match ds with
  | [x, y] => match flA x, asS env y with
    | some v, some xs => match flAs xs with
      | some vs => some (.bl (if neg then !inV v vs else inV v vs))
      | none => none
    | _, _ => none
  | _ => none
def oInD (neg : Bool) : En → List AV → Option AV := fun env ds => match ds with
  | [x, y] => match rsv env x, asL env y with
    | some x', some ys => if okE x' && okE (.lst false ys) then some (.bl (if neg then !(ys.any fun z => eqA z x') else ys.any fun z => eqA z x')) else none
    | _, _ => none
  | _ => none
def oInS (neg : Bool) : En → List AV → Option AV := fun _ ds => match ds with
  | [.str x, .str y] => match x.cps.toList with
    | [c] => some (.bl (if neg then !decide (c ∈ y.cps.toList) else decide (c ∈ y.cps.toList)))
    | _ => none
  | _ => none
def orO (a b : En → List AV → Option AV) : En → List AV → Option AV := fun env ds => match a env ds with
  | some d => some d
  | none => b env ds
theorem OpS.or {a b : En → List AV → Option AV} {r r' : R2} (h : OpS g a (r2L r)) (h' : OpS g b (r2L r')) : OpS g (orO a b) (r2L fun x y H Q => r x y H Q ∨ r' x y H Q) := by
  intro F N env σ H ds vs d Q hF p e q
  unfold orO at e
  split at e
  · rename_i d' e1
    cases e
    have := h F N env σ H ds vs _ Q hF p e1 q
    unfold r2L at this ⊢
    split at this
    · exact .inl this
    · exact this.elim
  · have := h' F N env σ H ds vs _ Q hF p e q
    unfold r2L at this ⊢
    split at this
    · exact .inr this
    · exact this.elim
theorem inF_ok (neg : Bool) : OpS g (oInF neg) (r2L (rIn g.K neg)) := by
  intro F N env σ H ds vs d Q hF h e q
  unfold oInF at e
  split at e
  · rename_i x y
    obtain ⟨v, w, rfl⟩ := h.vs2
    split at e
    · rename_i v' xs e1 e2
      split at e
      · rename_i ws' e3
        cases e
        have hx : v = v' ∧ flatV v' = true := by
          cases x <;> first
            | cases e1; done
            | exact flA_ok h.1 e1
        obtain ⟨rfl, f1⟩ := hx
        obtain ⟨a, ws, rfl, hq, hr⟩ := HeadOk.seq h.2.1 h.2.2 e2
        obtain ⟨rfl, f2⟩ := flAs_ok hr e3
        exact ⟨a, ws, rfl, hq, f1, f2, q H _ Stp.refl ⟨.bl _, h.sr⟩⟩
      · cases e
    · cases e
  · cases e
theorem toPs_map : ∀ xs : List AV, toPs xs = xs.map toP
  | [] => rfl
  | x :: xs => by rw [List.map_cons, ← toPs_map xs]; rfl
theorem inD_ok {F N : Addr → Prop} {env : En} {σ : L2.St} {H : Hp} {ds : List AV} {vs : List V} {d : AV} {neg : Bool} {Q : VK} (h : Posts g F env σ H N ds vs) (e : oInD neg env ds = some d) (q : ∀ H' v, Stp All env σ H env σ H' → Posts g F env σ H' N [d] [v] → Q v H') :
    ∃ x y a bs, vs = [x, y] ∧ Dp g.K H x a ∧ Dp g.K H y (.list bs) ∧ SeqAt.shaped a = true ∧ SeqAt.shaped (.list bs) = true ∧ Q (.bl (if neg then !bs.any fun z => PyData.eqv z a else bs.any fun z => PyData.eqv z a)) H := by
  unfold oInD at e
  split at e
  · rename_i x y
    obtain ⟨v, w, rfl⟩ := h.vs2
    split at e
    · rename_i x' ys e1 e2
      split at e
      · rename_i hc
        cases e
        unfold okE at hc
        simp only [Bool.and_eq_true] at hc
        obtain ⟨a, ws, rfl, hq, hr⟩ := HeadOk.list h.2.1 h.2.2 e2
        refine ⟨v, _, _, _, rfl, h.1.dp h.2.sr e1 hc.1.1, .lst hq (RVs.dp hr hc.2.1), hc.1.2, hc.2.2, ?_⟩
        have q := q H _ Stp.refl ⟨.bl _, h.sr⟩
        rw [toPs_map, List.any_map]
        exact q
      · cases e
    · cases e
  · cases e
theorem co_in (hK : X.K = g.K) (hu : X.A.units + 65 < cLine) : CmpOk X g .In (orO (oInF false) (orO (oInD false) (oInS false))) := by
  have h1 : OpS g (oInF false) (r2L (rIn X.K false)) := by rw [hK]; exact inF_ok false
  refine ⟨_, op_in_seq.or ((op_inD hu).or op_in_sign), h1.or (OpS.or ?_ ?_)⟩
  · intro F N env σ H ds vs d Q hF h e q
    obtain ⟨x, y, a, bs, rfl, h1, h2, h3, h4, h5⟩ := inD_ok h e q
    rw [← hK] at h1 h2
    exact ⟨a, bs, h1, h2, h3, h4, h5⟩
  · intro F N env σ H ds vs d Q hF h e q
    unfold oInS at e
    split at e
    · rename_i x y
      obtain ⟨v, w, rfl⟩ := h.vs2
      split at e
      · rename_i c ec
        cases e
        rw [hd_str h.1, hd_str h.2.1]
        refine ⟨c, y, ?_, rfl, q H _ Stp.refl ⟨.bl _, h.sr⟩⟩
        have : x = ⟨#[c]⟩ := by
          cases x with
          | mk cps =>
            have ec : cps.toList = [c] := ec
            rw [show cps = #[c] from by rw [← Array.toArray_toList (xs := cps), ec]]
        rw [this]
      · cases e
    · cases e
theorem co_notIn (hK : X.K = g.K) (hu : X.A.units + 65 < cLine) : CmpOk X g .NotIn (orO (oInF true) (orO (oInD true) (oInS true))) := by
  have h1 : OpS g (oInF true) (r2L (rIn X.K true)) := by rw [hK]; exact inF_ok true
  refine ⟨_, op_notIn_seq.or ((op_notInD hu).or op_notIn_sign), h1.or (OpS.or ?_ ?_)⟩
  · intro F N env σ H ds vs d Q hF h e q
    obtain ⟨x, y, a, bs, rfl, h1, h2, h3, h4, h5⟩ := inD_ok h e q
    rw [← hK] at h1 h2
    exact ⟨a, bs, h1, h2, h3, h4, h5⟩
  · intro F N env σ H ds vs d Q hF h e q
    unfold oInS at e
    split at e
    · rename_i x y
      obtain ⟨v, w, rfl⟩ := h.vs2
      split at e
      · rename_i c ec
        cases e
        rw [hd_str h.1, hd_str h.2.1]
        refine ⟨c, y, ?_, rfl, q H _ Stp.refl ⟨.bl _, h.sr⟩⟩
        have : x = ⟨#[c]⟩ := by
          cases x with
          | mk cps =>
            have ec : cps.toList = [c] := ec
            rw [show cps = #[c] from by rw [← Array.toArray_toList (xs := cps), ec]]
        rw [this]
      · cases e
    · cases e
/-! ### items -/
def oIx : En → List AV → Option AV := fun env ds => match ds with
  | [.str z, .int i] => if lenOk z.length then (atI z.cps.toList i).map fun c => .str ⟨#[c]⟩ else none
  | [x, .int i] => match asS env x with
    | some xs => atI xs i
    | none => none
  | _ => none
theorem atI_rv {K : PySem.W.Frag} {H0 H : Hp} {P : Addr → Prop} {xs : List AV} {vs : List V} {i : Int} {d : AV} (h : RVs K H0 H P xs vs) (e : atI xs i = some d) : ∃ v, atI vs i = some v ∧ RV K H0 H P d v := by
  unfold atI at e ⊢
  rw [← h.length]
  cases q : ixN xs.length i with
  | none => rw [q] at e; cases e
  | some j =>
    rw [q] at e
    obtain ⟨v, h1, h2⟩ := h.get (i := j) e
    exact ⟨v, h1, h2⟩
theorem oix_ok (hK : X.K = g.K) : ∃ r : R2, IxR X r ∧ OpS g oIx (r2L r) := by
  refine ⟨_, ix_seq, ?_⟩
  intro F N env σ H ds vs d Q hF h e q
  unfold oIx at e
  split at e
  · rename_i z i
    obtain ⟨v, w, rfl⟩ := h.vs2
    rw [hd_str h.1, hd_int h.2.1]
    split at e
    · rename_i hl
      cases ec : atI z.cps.toList i with
      | none => rw [ec] at e; cases e
      | some c =>
        rw [ec] at e
        cases e
        exact .inr (.inr ⟨z, i, c, rfl, rfl, lenOk_le hl, ec, q H _ Stp.refl ⟨.str _, h.sr⟩⟩)
    · cases e
  · rename_i x i _
    split at e
    · rename_i xs e1
      obtain ⟨v, w, rfl⟩ := h.vs2
      obtain ⟨a, ws, rfl, hq, hr⟩ := HeadOk.seq h.1 h.2.sr e1
      obtain ⟨u, e2, r⟩ := atI_rv hr e
      have h3 := hd_int h.2.1
      subst h3
      rw [← hK] at hq
      rcases hq with hq | hq
      · exact .inl ⟨a, ws, i, u, rfl, rfl, hq, e2, q H _ Stp.refl (post_sto h.sr r)⟩
      · exact .inr (.inl ⟨a, ws, i, u, rfl, rfl, hq, e2, q H _ Stp.refl (post_sto h.sr r)⟩)
    · cases e
  · cases e
/-! ### displays -/
def oTup : En → List AV → Option AV := fun _ ds => match stos ds with
  | some es => if lenOk es.length then some (.tup es) else none
  | none => none
def oLst : En → List AV → Option AV := fun _ ds => match stos ds with
  | some es => if lenOk es.length then some (.frs es) else none
  | none => none
theorem otup_ok : OpS g oTup (fun xs H Q => xs.length ≤ sizeLine ∧ ∀ p, H p = none → Q (.ref p) (upd H p (.tup xs))) := by
  intro F N env σ H ds vs d Q hF h e q
  unfold oTup at e
  split at e
  · rename_i es e1
    split at e
    · rename_i hl
      cases e
      have hr := h.stos e1
      have hl := lenOk_le hl
      rw [hr.length] at hl
      exact ⟨hl, fun p hp => q _ _ (stp_upd h.sr hp) (post_tup h.sr hr hp)⟩
    · cases e
  · cases e
theorem olst_ok : OpS g oLst (fun xs H Q => xs.length ≤ sizeLine ∧ ∀ p, H p = none → Q (.ref p) (upd H p (.lst xs))) := by
  intro F N env σ H ds vs d Q hF h e q
  unfold oLst at e
  split at e
  · rename_i es e1
    split at e
    · rename_i hl
      cases e
      have hr := h.stos e1
      have hl := lenOk_le hl
      rw [hr.length] at hl
      exact ⟨hl, fun p hp => q _ _ (stp_upd h.sr hp) (post_new hF h.sr hr hp)⟩
    · cases e
  · cases e
/-! ### built-in calls -/
def oLen : En → List AV → Option AV := fun env ds => match ds with
  | [.str z] => if lenOk z.length then some (.int z.length) else none
  | [x] => match asS env x with
    | some xs => some (.int xs.length)
    | none => none
  | _ => none
abbrev BiOk (X : Cx) (g : Gh) (f : Value) (o : En → List AV → Option AV) : Prop := ∃ r : List V → Hp → VK → Prop, CallR X f r ∧ OpS g o r
theorem bi_len (hK : X.K = g.K) : BiOk X g (.builtin "len") oLen := by
  refine ⟨_, call_len, ?_⟩
  intro F N env σ H ds vs d Q hF h e q
  unfold oLen at e
  split at e
  · rename_i z
    obtain ⟨v, rfl⟩ := h.vs1
    rw [hd_str h.1]
    split at e
    · rename_i hl
      cases e
      exact ⟨_, _, rfl, ⟨lenOk_le hl, rfl⟩, q H _ Stp.refl ⟨.int _, h.sr⟩⟩
    · cases e
  · rename_i x _
    split at e
    · rename_i xs e1
      cases e
      obtain ⟨v, rfl⟩ := h.vs1
      obtain ⟨a, ws, rfl, hq, hr⟩ := HeadOk.seq h.1 h.2.sr e1
      rw [← hK] at hq
      have q := q H _ Stp.refl ⟨.int _, h.sr⟩
      rw [hr.length] at q
      rcases hq with hq | hq
      · exact ⟨_, _, rfl, .inl ⟨ws, hq, rfl⟩, q⟩
      · exact ⟨_, _, rfl, .inr ⟨ws, hq, rfl⟩, q⟩
    · cases e
  · cases e
def oSum : En → List AV → Option AV := fun env ds => match ds with
  | [x] => match asL env x with
    | some xs => (ints? xs).map fun ns => .int ns.sum
    | none => none
  | _ => none
theorem ints_at {F N : Addr → Prop} {env : En} {σ : L2.St} {H : Hp} {x : AV} {v : V} {xs : List AV} {ns : List Int} (h : Posts g F env σ H N [x] [v]) (e1 : asL env x = some xs) (e2 : ints? xs = some ns) : ∃ a, v = .ref a ∧ SqL g.K H a (ns.map .int) := by
  obtain ⟨a, ws, rfl, h1, h2⟩ := h.list e1
  rw [ints?_map e2] at h2
  rw [h2.ints] at h1
  exact ⟨a, rfl, h1⟩
theorem bi_sum (hK : X.K = g.K) (hc : X.calm = true) : BiOk X g (.builtin "sum") oSum := by
  refine ⟨_, cr_sum hc, ?_⟩
  intro F N env σ H ds vs d Q hF h e q
  unfold oSum at e
  split at e
  · rename_i x
    split at e
    · rename_i xs e1
      cases e2 : ints? xs with
      | none => rw [e2] at e; cases e
      | some ns =>
        rw [e2] at e
        cases e
        obtain ⟨v, rfl⟩ := h.vs1
        obtain ⟨a, rfl, h1⟩ := ints_at h e1 e2
        rw [← hK] at h1
        exact ⟨a, ns, rfl, h1, q H _ Stp.refl ⟨.int _, h.sr⟩⟩
    · cases e
  · cases e
def maxL : List Int → Int
  | [] => 0
  | [n] => n
  | n :: r => max n (maxL r)
def minL : List Int → Int
  | [] => 0
  | [n] => n
  | n :: r => min n (minL r)
theorem maxL_ge : ∀ {ns : List Int} {n : Int}, n ∈ ns → n ≤ maxL ns
  | [n], _, h => by
    simp at h
    simp [maxL, h]
  | n :: m :: r, k, h => by
    rw [List.mem_cons] at h
    simp only [maxL]
    rcases h with rfl | h
    · exact Int.le_max_left _ _
    · exact Int.le_trans (maxL_ge h) (Int.le_max_right _ _)
theorem maxL_mem : ∀ {ns : List Int}, ns ≠ [] → maxL ns ∈ ns
  | [n], _ => by simp [maxL]
  | n :: m :: r, _ => by
    simp only [maxL]
    rcases Int.max_def n (maxL (m :: r)) with e
    have ih := maxL_mem (ns := m :: r) (by simp)
    rw [e]
    split
    · exact List.mem_cons_of_mem _ ih
    · exact List.mem_cons_self
theorem minL_le : ∀ {ns : List Int} {n : Int}, n ∈ ns → minL ns ≤ n
  | [n], _, h => by
    simp at h
    simp [minL, h]
  | n :: m :: r, k, h => by
    rw [List.mem_cons] at h
    simp only [minL]
    rcases h with rfl | h
    · exact Int.min_le_left _ _
    · exact Int.le_trans (Int.min_le_right _ _) (minL_le h)
theorem minL_mem : ∀ {ns : List Int}, ns ≠ [] → minL ns ∈ ns
  | [n], _ => by simp [minL]
  | n :: m :: r, _ => by
    simp only [minL]
    have ih := minL_mem (ns := m :: r) (by simp)
    rw [Int.min_def]
    split
    · exact List.mem_cons_self
    · exact List.mem_cons_of_mem _ ih
def oMax : En → List AV → Option AV := fun env ds => match ds with
  | [.int i, .int j] => some (.int (max i j))
  | [x] => match asL env x with
    | some xs => match ints? xs with
      | some ns => if ns.length = 0 then none else some (.int (maxL ns))
      | none => none
    | none => none
  | _ => none
def oMin : En → List AV → Option AV := fun env ds => match ds with
  | [.int i, .int j] => some (.int (min i j))
  | [x] => match asL env x with
    | some xs => match ints? xs with
      | some ns => if ns.length = 0 then none else some (.int (minL ns))
      | none => none
    | none => none
  | _ => none
theorem bi_max (hK : X.K = g.K) (hc : X.calm = true) : BiOk X g (.builtin "max") oMax := by
  refine ⟨_, (call_max2 hc).or (cr_max hc), ?_⟩
  intro F N env σ H ds vs d Q hF h e q
  unfold oMax at e
  split at e
  · rename_i i j
    obtain ⟨v, w, rfl⟩ := h.vs2
    obtain ⟨rfl, rfl, s⟩ := h.int2
    cases e
    refine .inl ⟨i, j, rfl, ?_⟩
    have q := q H _ Stp.refl ⟨.int _, h.sr⟩
    have e : max i j = if j > i then j else i := by
      rw [Int.max_def]
      split <;> split <;> omega
    rw [← e]
    exact q
  · rename_i x
    split at e
    · rename_i xs e1
      split at e
      · rename_i ns e2
        split at e
        · cases e
        · rename_i hl
          cases e
          obtain ⟨v, rfl⟩ := h.vs1
          obtain ⟨a, rfl, h1⟩ := ints_at h e1 e2
          rw [← hK] at h1
          have hne : ns ≠ [] := fun z => hl (by rw [z]; rfl)
          refine .inr ⟨a, ns, rfl, h1, by omega, fun m hm hy => ?_⟩
          have e : m = maxL ns := by
            have h3 := hy _ (maxL_mem hne)
            have h4 := maxL_ge hm
            omega
          rw [e]
          exact q H _ Stp.refl ⟨.int _, h.sr⟩
      · cases e
    · cases e
  · cases e
theorem bi_min (hK : X.K = g.K) (hc : X.calm = true) : BiOk X g (.builtin "min") oMin := by
  refine ⟨_, (call_min2 hc).or (cr_min hc), ?_⟩
  intro F N env σ H ds vs d Q hF h e q
  unfold oMin at e
  split at e
  · rename_i i j
    obtain ⟨v, w, rfl⟩ := h.vs2
    obtain ⟨rfl, rfl, s⟩ := h.int2
    cases e
    refine .inl ⟨i, j, rfl, ?_⟩
    have q := q H _ Stp.refl ⟨.int _, h.sr⟩
    have e : min i j = if j < i then j else i := by
      rw [Int.min_def]
      split <;> split <;> omega
    rw [← e]
    exact q
  · rename_i x
    split at e
    · rename_i xs e1
      split at e
      · rename_i ns e2
        split at e
        · cases e
        · rename_i hl
          cases e
          obtain ⟨v, rfl⟩ := h.vs1
          obtain ⟨a, rfl, h1⟩ := ints_at h e1 e2
          rw [← hK] at h1
          have hne : ns ≠ [] := fun z => hl (by rw [z]; rfl)
          refine .inr ⟨a, ns, rfl, h1, by omega, fun m hm hy => ?_⟩
          have e : m = minL ns := by
            have h3 := hy _ (minL_mem hne)
            have h4 := minL_le hm
            omega
          rw [e]
          exact q H _ Stp.refl ⟨.int _, h.sr⟩
      · cases e
    · cases e
  · cases e
end
end RX
/-! RX part f: more built-in calls, slices. -/
namespace RX
open PySem L2

/-! ### isinstance of built-in types -/
def tyA (env : En) : AV → Option String
  | .non => some "NoneType"
  | .bl _ => some "bool"
  | .int _ => some "int"
  | .str _ => some "str"
  | .tup _ => some "tuple"
  | .lst _ _ => some "list"
  | .frs _ => some "list"
  | .dcx => some "dict"
  | .sl i => match slL env i with
    | some _ => some "list"
    | none => none
  | _ => none
def tyNames : List String := ["NoneType", "bool", "int", "str", "tuple", "list", "dict"]
def tyAsk : List String := ["bool", "int", "str", "tuple", "list", "dict"]
def isiB (t n : String) : Bool := t == n || (t == "bool" && n == "int")
theorem isi_tab : (tyNames.all fun t => tyAsk.all fun n => kitB t n == some (isiB t n)) = true := by decide +kernel
theorem isi_kit {K : PySem.W.Frag} {t n : String} (h1 : t ∈ tyNames) (h2 : n ∈ tyAsk) : PySem.W.kitOne K (.type t) (.type n) = some (isiB t n) := by
  have h := List.all_eq_true.mp (List.all_eq_true.mp isi_tab t h1) n h2
  exact kit_ty (by simpa using h)
theorem tyX_list {K : PySem.W.Frag} {H : Hp} {a : Addr} {ws : List V} (h : SqL K H a ws) : TyX K H (.ref a) (.type "list") := by
  rcases h with (h | ⟨o, h⟩) | ⟨o, its, n, h1, h2, _⟩
  · exact .base (.lst h)
  · exact .base (.frz h)
  · exact .kList h1 h2
theorem tyX_tup {K : PySem.W.Frag} {H : Hp} {a : Addr} {ws : List V} (h : SqT K H a ws) : TyX K H (.ref a) (.type "tuple") := by
  rcases h with (h | ⟨o, h⟩) | ⟨o, its, n, h1, h2, _⟩
  · exact .base (.tup h)
  · exact .fTuple h
  · exact .kTuple h1 h2
section
variable {X : Cx} {g : Gh}
theorem HeadOk.tyX {F N T : Addr → Prop} {env : En} {σ : L2.St} {H : Hp} {d : AV} {v : V} {t : String} (h : HeadOk g F N T env σ H d v) (s : SR g (nxN N d v) env σ H) (e : tyA env d = some t) : TyX g.K H v (.type t) ∧ t ∈ tyNames := by
  cases d with
  | non => cases e; rw [hd_non h]; exact ⟨.base .non, by decide⟩
  | bl b => cases e; rw [hd_bl h]; exact ⟨.base (.bl b), by decide⟩
  | int i => cases e; rw [hd_int h]; exact ⟨.base (.int i), by decide⟩
  | str x => cases e; rw [hd_str h]; exact ⟨.base (.str x), by decide⟩
  | tup xs =>
    cases e
    obtain ⟨a, ws, rfl, h1, _⟩ := hd_tup h
    exact ⟨tyX_tup h1, by decide⟩
  | lst nw xs =>
    cases e
    obtain ⟨a, ws, rfl, h1, _⟩ := h.list (xs := xs) s rfl
    exact ⟨tyX_list h1, by decide⟩
  | frs xs =>
    cases e
    obtain ⟨a, ws, rfl, h1, _⟩ := h.list (xs := xs) s rfl
    exact ⟨tyX_list h1, by decide⟩
  | sl i =>
    unfold tyA at e
    simp only at e
    split at e
    · rename_i xs e1
      cases e
      obtain ⟨a, ws, rfl, h1, _⟩ := h.list (xs := xs) s e1
      exact ⟨tyX_list h1, by decide⟩
    · cases e
  | fn x => cases e
  | jk q1 q2 => cases e
  | exo q1 => cases e
  | dcx =>
    cases e
    cases (show RV _ _ _ _ .dcx v from h) with
    | dcx h1 => exact ⟨.base (.dK h1), by decide⟩
  | ty x => cases e
def oIsi : En → List AV → Option AV := fun env ds => match ds with
  | [x, .ty n] => match tyA env x with
    | some t => if tyAsk.contains n then some (.bl (isiB t n)) else none
    | none => none
  | _ => none
theorem bi_isi (hK : X.K = g.K) : BiOk X g (.builtin "isinstance") oIsi := by
  refine ⟨_, call_isi, ?_⟩
  intro F N env σ H ds vs d Q hF h e q
  unfold oIsi at e
  split at e
  · rename_i x n
    obtain ⟨v, w, rfl⟩ := h.vs2
    split at e
    · rename_i t e1
      split at e
      · rename_i hn
        cases e
        rw [hd_ty h.2.1]
        obtain ⟨h1, h2⟩ := h.1.tyX h.2.sr e1
        rw [← hK] at h1
        exact ⟨v, _, _, _, _, rfl, .ty n, h1, isi_kit h2 (by simpa using hn), q H _ Stp.refl ⟨.bl _, h.sr⟩⟩
      · cases e
    · cases e
  · cases e
def oInt : En → List AV → Option AV := fun _ ds => match ds with
  | [.int i] => some (.int i)
  | [.bl b] => some (.int (if b then 1 else 0))
  | [.str x] => match PySem.intText? x with
    | some n => if decide (x.length ≤ 640) then some (.int n) else none
    | none => none
  | _ => none
theorem bi_int : BiOk X g (.type "int") oInt := by
  refine ⟨_, call_int1.or call_int_str, ?_⟩
  intro F N env σ H ds vs d Q hF h e q
  unfold oInt at e
  split at e
  · rename_i i
    obtain ⟨v, rfl⟩ := h.vs1
    cases e
    rw [hd_int h.1]
    exact .inl (.inl ⟨i, rfl, q H _ Stp.refl ⟨.int _, h.sr⟩⟩)
  · rename_i b
    obtain ⟨v, rfl⟩ := h.vs1
    cases e
    rw [hd_bl h.1]
    exact .inl (.inr ⟨b, rfl, q H _ Stp.refl ⟨.int _, h.sr⟩⟩)
  · rename_i x
    obtain ⟨v, rfl⟩ := h.vs1
    rw [hd_str h.1]
    split at e
    · rename_i n e1
      split at e
      · rename_i hl
        cases e
        exact .inr ⟨x, n, rfl, e1, by simpa using hl, q H _ Stp.refl ⟨.int _, h.sr⟩⟩
      · cases e
    · cases e
  · cases e
def oStr : En → List AV → Option AV := fun _ ds => match ds with
  | [.int i] => if decide (i.natAbs < 2 ^ 250) then some (.str (toString i)) else none
  | [.str x] => some (.str x)
  | _ => none
theorem bi_str : BiOk X g (.type "str") oStr := by
  refine ⟨_, call_str_int.or SkE.call_str_str, ?_⟩
  intro F N env σ H ds vs d Q hF h e q
  unfold oStr at e
  split at e
  · rename_i i
    obtain ⟨v, rfl⟩ := h.vs1
    rw [hd_int h.1]
    split at e
    · rename_i hl
      cases e
      refine .inl ⟨i, rfl, ?_, q H _ Stp.refl ⟨.str _, h.sr⟩⟩
      have hl : i.natAbs < 2 ^ 250 := by simpa using hl
      exact Nat.lt_of_lt_of_le (PySem.Flt.log2_lt_of (by decide) hl) (by decide)
    · cases e
  · rename_i x
    obtain ⟨v, rfl⟩ := h.vs1
    cases e
    rw [hd_str h.1]
    exact .inr ⟨x, rfl, q H _ Stp.refl ⟨.str _, h.sr⟩⟩
  · cases e
def oAbs : En → List AV → Option AV := fun _ ds => match ds with
  | [.int i] => some (.int (if i < 0 then -i else i))
  | _ => none
theorem bi_abs : BiOk X g (.builtin "abs") oAbs := by
  refine ⟨_, call_abs, ?_⟩
  intro F N env σ H ds vs d Q hF h e q
  unfold oAbs at e
  split at e
  · rename_i i
    obtain ⟨v, rfl⟩ := h.vs1
    cases e
    rw [hd_int h.1]
    exact ⟨i, rfl, q H _ Stp.refl ⟨.int _, h.sr⟩⟩
  · cases e
def oList : En → List AV → Option AV := fun env ds => match ds with
  | [x] => (asS env x).map .frs
  | _ => none
theorem bi_list (hK : X.K = g.K) : BiOk X g (.type "list") oList := by
  refine ⟨_, call_list_of, ?_⟩
  intro F N env σ H ds vs d Q hF h e q
  unfold oList at e
  split at e
  · rename_i x
    cases e1 : asS env x with
    | none => rw [e1] at e; cases e
    | some xs =>
      rw [e1] at e
      cases e
      obtain ⟨v, rfl⟩ := h.vs1
      obtain ⟨a, ws, rfl, hq, hr⟩ := HeadOk.seq h.1 h.2.sr e1
      rw [← hK] at hq
      exact ⟨a, ws, rfl, hq, fun p hp => q _ _ (stp_upd h.sr hp) (post_new hF h.sr hr hp)⟩
  · cases e
def oTuple : En → List AV → Option AV := fun env ds => match ds with
  | [x] => (asS env x).map .tup
  | _ => none
theorem bi_tuple (hK : X.K = g.K) : BiOk X g (.type "tuple") oTuple := by
  refine ⟨_, call_tuple_of, ?_⟩
  intro F N env σ H ds vs d Q hF h e q
  unfold oTuple at e
  split at e
  · rename_i x
    cases e1 : asS env x with
    | none => rw [e1] at e; cases e
    | some xs =>
      rw [e1] at e
      cases e
      obtain ⟨v, rfl⟩ := h.vs1
      obtain ⟨a, ws, rfl, hq, hr⟩ := HeadOk.seq h.1 h.2.sr e1
      rw [← hK] at hq
      rcases hq with hq | hq
      · exact ⟨a, ws, rfl, .inl ⟨hq, fun p hp => q _ _ (stp_upd h.sr hp) (post_tup h.sr hr hp)⟩⟩
      · exact ⟨a, ws, rfl, .inr ⟨hq, q H _ Stp.refl (post_plain h.sr (.tup (by rw [← hK]; exact hq) hr))⟩⟩
  · cases e
def oAll : En → List AV → Option AV := fun env ds => match ds with
  | [x] => match asL env x with
    | some xs => (bls? xs).map fun bs => .bl (bs.all id)
    | none => none
  | _ => none
def oAny : En → List AV → Option AV := fun env ds => match ds with
  | [x] => match asL env x with
    | some xs => (bls? xs).map fun bs => .bl (bs.any id)
    | none => none
  | _ => none
theorem bls_at {F N : Addr → Prop} {env : En} {σ : L2.St} {H : Hp} {x : AV} {v : V} {xs : List AV} {ns : List Bool} (h : Posts g F env σ H N [x] [v]) (e1 : asL env x = some xs) (e2 : bls? xs = some ns) : ∃ a, v = .ref a ∧ SqL g.K H a (ns.map .bl) := by
  obtain ⟨a, ws, rfl, h1, h2⟩ := h.list e1
  rw [bls?_map e2] at h2
  rw [h2.bls] at h1
  exact ⟨a, rfl, h1⟩
theorem bi_all (hK : X.K = g.K) (hc : X.calm = true) : BiOk X g (.builtin "all") oAll := by
  refine ⟨_, cr_all hc, ?_⟩
  intro F N env σ H ds vs d Q hF h e q
  unfold oAll at e
  split at e
  · rename_i x
    split at e
    · rename_i xs e1
      cases e2 : bls? xs with
      | none => rw [e2] at e; cases e
      | some ns =>
        rw [e2] at e
        cases e
        obtain ⟨v, rfl⟩ := h.vs1
        obtain ⟨a, rfl, h1⟩ := bls_at h e1 e2
        rw [← hK] at h1
        exact ⟨a, ns, rfl, h1, q H _ Stp.refl ⟨.bl _, h.sr⟩⟩
    · cases e
  · cases e
theorem bi_any (hK : X.K = g.K) (hc : X.calm = true) : BiOk X g (.builtin "any") oAny := by
  refine ⟨_, cr_any hc, ?_⟩
  intro F N env σ H ds vs d Q hF h e q
  unfold oAny at e
  split at e
  · rename_i x
    split at e
    · rename_i xs e1
      cases e2 : bls? xs with
      | none => rw [e2] at e; cases e
      | some ns =>
        rw [e2] at e
        cases e
        obtain ⟨v, rfl⟩ := h.vs1
        obtain ⟨a, rfl, h1⟩ := bls_at h e1 e2
        rw [← hK] at h1
        exact ⟨a, ns, rfl, h1, q H _ Stp.refl ⟨.bl _, h.sr⟩⟩
    · cases e
  · cases e
/-- sorted of ints -/
def ins (n : Int) : List Int → List Int
  | [] => [n]
  | m :: r => if n ≤ m then n :: m :: r else m :: ins n r
def srt : List Int → List Int
  | [] => []
  | n :: r => ins n (srt r)
theorem ins_perm (n : Int) : ∀ l, (ins n l).Perm (n :: l)
  | [] => .refl _
  | m :: r => by
    unfold ins
    split
    · exact .refl _
    · exact (List.Perm.cons m (ins_perm n r)).trans (List.Perm.swap n m r)
theorem srt_perm : ∀ l, (srt l).Perm l
  | [] => .refl _
  | n :: r => (ins_perm n _).trans (List.Perm.cons n (srt_perm r))
theorem ins_pw (n : Int) : ∀ l : List Int, l.Pairwise (· ≤ ·) → (ins n l).Pairwise (· ≤ ·)
  | [], _ => by simp [ins]
  | m :: r, h => by
    unfold ins
    rw [List.pairwise_cons] at h
    split
    · rename_i hc
      refine List.pairwise_cons.mpr ⟨fun k hk => ?_, List.pairwise_cons.mpr h⟩
      rcases List.mem_cons.mp hk with rfl | hk
      · exact hc
      · exact Int.le_trans hc (h.1 k hk)
    · rename_i hc
      refine List.pairwise_cons.mpr ⟨fun k hk => ?_, ins_pw n r h.2⟩
      rcases List.mem_cons.mp ((ins_perm n r).mem_iff.mp hk) with rfl | hk
      · omega
      · exact h.1 k hk
theorem srt_pw : ∀ l : List Int, (srt l).Pairwise (· ≤ ·)
  | [] => .nil
  | n :: r => ins_pw n _ (srt_pw r)
def oSorted : En → List AV → Option AV := fun env ds => match ds with
  | [x] => match asL env x with
    | some xs => (ints? xs).map fun ns => .frs ((srt ns).map .int)
    | none => none
  | _ => none
theorem bi_sorted (hK : X.K = g.K) : BiOk X g (.builtin "sorted") oSorted := by
  refine ⟨_, cr_sortedI, ?_⟩
  intro F N env σ H ds vs d Q hF h e q
  unfold oSorted at e
  split at e
  · rename_i x
    split at e
    · rename_i xs e1
      cases e2 : ints? xs with
      | none => rw [e2] at e; cases e
      | some ns =>
        rw [e2] at e
        cases e
        obtain ⟨v, rfl⟩ := h.vs1
        obtain ⟨a, rfl, h1⟩ := ints_at h e1 e2
        rw [← hK] at h1
        refine ⟨a, ns, rfl, h1, fun ns' p hp hs hn => ?_⟩
        rw [PySem.W.ksm_same (hp.trans (srt_perm ns).symm) hs (srt_pw ns)]
        exact q _ _ (stp_upd h.sr hn) (post_new hF h.sr (RVs.ofInts _) hn)
    · cases e
  · cases e
/-! ### slices -/
def cutA (xs : List AV) (lo hi : Option Int) : List AV := (xs.drop (HT.sIx xs.length 0 lo)).take (HT.sIx xs.length xs.length hi - HT.sIx xs.length 0 lo)
theorem cut_rv {K : PySem.W.Frag} {H0 H : Hp} {P : Addr → Prop} {xs : List AV} {vs : List V} {lo hi : Option Int} (h : RVs K H0 H P xs vs) : RVs K H0 H P (cutA xs lo hi) (cutV vs lo hi) := by
  unfold cutA cutV
  rw [h.length]
  exact (h.drop _).take _
def oSl (lo hi : Option Int) : En → AV → Option AV := fun env d => match d with
  | .str z => if lenOk z.length then some (.str (cutS z lo hi)) else none
  | .tup xs => some (.tup (cutA xs lo hi))
  | d => (asL env d).map fun xs => .frs (cutA xs lo hi)
theorem cut_all {vs : List V} {lo hi : Option Int} (h : HT.sIx vs.length 0 lo = 0 ∧ HT.sIx vs.length vs.length hi = vs.length) : cutV vs lo hi = vs := by
  unfold cutV
  rw [h.1, h.2]
  simp
theorem osl_ok (hK : X.K = g.K) : ∃ r : V → Option Int → Option Int → Hp → VK → Prop, SlR X r ∧ ∀ (F N : Addr → Prop) env σ H x v lo hi d Q, (∀ b, H b = none → F b) → Posts g F env σ H N [x] [v] → oSl lo hi env x = some d →
    (∀ H' v, Stp All env σ H env σ H' → Posts g F env σ H' N [d] [v] → Q v H') → r v lo hi H Q := by
  refine ⟨_, sl_str.or (sl_tupA.or sl_list), ?_⟩
  intro F N env σ H x v lo hi d Q hF h e q
  have key : (asL env x).map (fun xs => AV.frs (cutA xs lo hi)) = some d → rSlS v lo hi H Q ∨ rSlA X.K v lo hi H Q ∨ rSlL X.K v lo hi H Q := fun e => by
    cases e1 : asL env x with
    | none => rw [e1] at e; cases e
    | some xs =>
      rw [e1] at e
      cases e
      obtain ⟨a, ws, rfl, h1, h2⟩ := h.list e1
      rw [← hK] at h1
      exact .inr (.inr ⟨a, ws, rfl, h1, fun p hp => q _ _ (stp_upd h.sr hp) (post_new hF h.sr (cut_rv h2) hp)⟩)
  cases x with
  | str z =>
    unfold oSl at e
    simp only at e
    rw [hd_str h.1]
    split at e
    · rename_i hl
      cases e
      exact .inl ⟨z, rfl, lenOk_le hl, q H _ Stp.refl ⟨.str _, h.sr⟩⟩
    · cases e
  | tup xs =>
    cases e
    obtain ⟨a, ws, rfl, h1, h2⟩ := hd_tup h.1
    have h3 := cut_rv (lo := lo) (hi := hi) h2
    rw [← hK] at h1
    refine .inr (.inl ⟨a, ws, rfl, h1, fun hw => ?_, fun _ p hp => q _ _ (stp_upd h.sr hp) (post_tup h.sr h3 hp)⟩)
    rw [cut_all hw] at h3
    exact q H _ Stp.refl (post_plain h.sr (.tup (by rw [← hK]; exact h1) h3))
  | sl i => exact key e
  | frs xs => exact key e
  | lst nw xs => exact key e
  | non => exact key e
  | bl c => exact key e
  | int i => exact key e
  | fn x => exact key e
  | jk q1 q2 => exact key e
  | exo q1 => exact key e
  | dcx => exact key e
  | ty x => exact key e
end
end RX
/-! RX part g: the small language and its evaluator. -/
namespace RX
open PySem L2

inductive Bi where
  | len | sum | max | min | isi | int | str | abs | list | tuple | all | any | sorted | rpr
/-- methods that change nothing: index of a list, of a global tuple; split, join of texts -/
inductive Pmt where
  | ixL | ixG | spl | joi
/-- methods of lists -/
inductive Mt where
  | app | ext | ins | clr | rev | pop | popAt
/-- targets: a slot; a tuple of targets -/
inductive Tg where
  | nm (i : Nat)
  | tp (ts : List Tg)
mutual
inductive Ex where
  | var (i : Nat) | mv (i : Nat) | fz (i : Nat)
  | int (i : Int) | bl (b : Bool) | str (x : Str) | non | nul
  | ty (x : Str) (n : String) | gl (x : Str) (d : AV)
  | bin (o : Bop) (a b : Ex) | neg (a : Ex)
  | cmp (o : CmpOp) (a b : Ex) | chain (o p : CmpOp) (a b c : Ex)
  | and (es : Exs) | or (es : Exs) | not (a : Ex) | ite (c a b : Ex)
  | tup (es : Exs) | lst (es : Exs)
  | ix (a i : Ex) | slc (a lo hi : Ex)
  | call (f : Str) (ms : List Bool) (es : Exs)
  | bi (b : Bi) (es : Exs)
  | comp (e : Ex) (own : List Nat) (t : Tg) (it : It) (c : Ex)
  | mth (m : Mt) (i : Nat) (es : Exs)
  | stv (b : Bool) (e : Ex)
  | rvs (a : Ex) | lse (a : Ex) | isx (e : Ex) (ts : List (Str × Bool)) | fcl (fs : List Str) (a : Ex) (ms : List Bool) (es : Exs)
  | pm (m : Pmt) (a : Ex) (es : Exs) | emd | dc1 (k v : Ex) | ist (a : Ex) (ns : List String)
inductive Exs where
  | nil | cons (e : Ex) (es : Exs)
inductive It where
  | seq (e : Ex) | rrg (e : Ex) | rg (es : Exs) | zip (a b : Ex) | enum (a : Ex) | rev (a : Ex)
end
mutual
inductive St where
  | set (i : Nat) (e : Ex) | unp (t : Tg) (e : Ex) | par (i j : Nat) (a b : Ex) | stx (i : Nat) (k e : Ex)
  | exp (e : Ex) | ret (e : Ex) | retN | pass | brk | cont
  | rse (c : Str) | trc (b : Sts) (c : Str) (ys : List Str) (s : St)
  | swp (i : Nat) (k l a b : Ex) | trA (b : Sts) (c : Str) (ys : List Str) (i j : Nat)
  | ifs (c : Ex) (a b : Sts) | whl (n : Nat) (c : Ex) (b : Sts) | for_ (t : Tg) (it : It) (b : Sts)
inductive Sts where
  | nil | cons (s : St) (ss : Sts) | wip (is : List Nat) (ss : Sts)
end
/-- how a call ends: the value (or the exception's class), what the in-and-out lists hold then -/
inductive CR where
  | ok (d : AV) (ios : List (Option (List AV)))
  | exc (c : Str) (ios : List (Option (List AV)))
abbrev Calls := Str → List Slot → Option CR
/-- a constant of the top -/
inductive Gc where
  | int (i : Int) | tup (ns : List Int)
  deriving DecidableEq
/-- names of the top: defs with their number of parameters, constants, classes of exceptions with those that they catch -/
abbrev Tb := List (Str × (Nat ⊕ (Gc ⊕ List (Str × Bool))))

/-! ### calls -/
mutual
/-- a value as a called def sees it: nothing in it is new -/
def age : AV → AV
  | .tup xs => .tup (ages xs)
  | .lst _ xs => .lst false (ages xs)
  | .jk _ n => .jk false n
  | d => d
def ages : List AV → List AV
  | [] => []
  | x :: xs => age x :: ages xs
end
def argSlot (env : En) (m : Bool) (d : AV) : Option Slot := match m, d with
  | true, .sl i => match env[i]? with
    | some (some (.own _ xs)) => some (.io (ages xs))
    | some (some (.io xs)) => some (.io (ages xs))
    | _ => none
  | true, _ => none
  | false, .sl i => match env[i]? with
    | some (some (.own _ xs)) => some (.brw true (ages xs))
    | some (some (.io xs)) => some (.brw true (ages xs))
    | some (some (.brw t xs)) => some (.brw t (ages xs))
    | _ => none
  | false, .frs xs => some (.own false (ages xs))
  | false, d => some (.val (age d))
def argSlots (env : En) : List Bool → List AV → Option (List Slot)
  | [], [] => some []
  | m :: ms, d :: ds => match argSlot env m d, argSlots env ms ds with
    | some s, some ss => some (s :: ss)
    | _, _ => none
  | _, _ => none
def ioIx : List Bool → List AV → List Nat
  | true :: ms, .sl i :: ds => i :: ioIx ms ds
  | _ :: ms, _ :: ds => ioIx ms ds
  | _, _ => []
def brIx : List Bool → List AV → List Nat
  | false :: ms, .sl i :: ds => i :: brIx ms ds
  | _ :: ms, _ :: ds => brIx ms ds
  | _, _ => []
def putIo (env : En) (i : Nat) (ys : List AV) : En := match env[i]? with
  | some (some (.own nw _)) => env.set i (some (.own nw ys))
  | some (some (.io _)) => env.set i (some (.io ys))
  | _ => env
def putIos (env : En) : List AV → List (Option (List AV)) → En
  | .sl i :: ds, some ys :: yss => putIos (putIo env i ys) ds yss
  | _ :: ds, _ :: yss => putIos env ds yss
  | _, _ => env
def argsOk (ms : List Bool) (ds : List AV) : Bool := decide (ioIx ms ds).Nodup && (brIx ms ds).all fun i => !(ioIx ms ds).contains i
def callE (G : Calls) (f : Str) (ms : List Bool) (ds : List AV) (env : En) : Option (R AV) :=
  if argsOk ms ds then
    match argSlots env ms ds with
    | none => none
    | some ss => match G f ss with
      | none => none
      | some (.ok d ios) => some (.ok d (putIos env ds ios))
      | some (.exc c ios) => some (.exc c (putIos env ds ios))
  else none

/-! ### assignment -/
def asgN (i : Nat) (d : AV) (env : En) : Option En := match env[i]? with
  | some (some (.io _)) => none
  | some (some (.brw _ _)) => none
  | some _ => match d with
    | .frs xs => some (env.set i (some (.own true xs)))
    | .sl _ => none
    | d => some (env.set i (some (.val d)))
  | none => none
mutual
/-- a plain value to a target -/
def asgT : Tg → AV → En → Option En
  | .nm i, d, env => asgN i d env
  | .tp ts, d, env => match asS env d with
    | some ds => asgTs ts ds env
    | none => none
def asgTs : List Tg → List AV → En → Option En
  | [], [], env => some env
  | t :: ts, d :: ds, env => match asgT t d env with
    | some env1 => asgTs ts ds env1
    | none => none
  | _, _, _ => none
end
/-! ### what is walked -/
/-- the items; the slots locked while they are walked -/
structure Src where
  xs : List AV
  lk : List Nat
def lkL : List AV → List Nat
  | [] => []
  | .sl i :: ds => i :: lkL ds
  | _ :: ds => lkL ds
def lock1 (env : En) (i : Nat) : En := match env[i]? with
  | some (some (.own _ xs)) => env.set i (some (.brw true xs))
  | _ => env
def unl1 (env0 : En) (i : Nat) (env : En) : En := match env0[i]? with
  | some (some (.own nw xs)) => env.set i (some (.own nw xs))
  | _ => env
def lockE (env : En) : List Nat → En
  | [] => env
  | i :: is => lockE (lock1 env i) is
/-- behind the walk: the slots as they were ahead of it (env0) -/
def unlockE (env0 env : En) : List Nat → En
  | [] => env
  | i :: is => unl1 env0 i (unlockE (lock1 env0 i) env is)
/-- a tuple's (true) or a list's (false) items, all locked -/
def seqOf (env : En) : AV → Option (Bool × List AV)
  | .tup xs => some (true, xs)
  | .lst _ xs => some (false, xs)
  | .frs xs => some (false, xs)
  | .sl i => match env[i]? with
    | some (some (.brw _ xs)) => some (false, xs)
    | _ => none
  | _ => none
def rgL (a b : Int) : List AV := (List.range (b - a).toNat).map fun i => .int (a + (i : Nat))
def enumL : Nat → List AV → List AV
  | _, [] => []
  | n, x :: xs => .tup [.int n, x] :: enumL (n + 1) xs
def zipL : List AV → List AV → List AV
  | x :: xs, y :: ys => .tup [x, y] :: zipL xs ys
  | _, _ => []
def rgOk (a b : Int) : Bool := decide (-(2 ^ 62) ≤ a) && decide (a < 2 ^ 62) && decide (-(2 ^ 62) ≤ b) && decide (b < 2 ^ 62)
/-- range(..) of one, two or three ints -/
def rngL : List AV → Option (List AV)
  | [.int n] => if rgOk 0 n then some (rgL 0 n) else none
  | [.int m, .int n] => if rgOk m n then some (rgL m n) else none
  | [.int m, .int n, .int c] => if decide (c ≠ 0) && decide (c.natAbs < 1073741824) && Builtin.Range.small m n c && decide (Builtin.Range.rangeSize m n c = ((Builtin.Range.rangeSize m n c).toNat : Int)) then
      some ((List.range (Builtin.Range.rangeSize m n c).toNat).map fun i => .int (m + (i : Nat) * c)) else none
  | _ => none
/-- a slot whose value may be forgotten -/
def wipB (env : En) (i : Nat) : Bool := match env[i]? with
  | some (some (.io _)) => false
  | some (some (.brw _ _)) => false
  | _ => true
def wipeE (env : En) : List Nat → En
  | [] => env
  | i :: is => (wipeE env is).set i none
/-- the slots of a comprehension's own names as they were ahead of it -/
def backE (env0 env : En) : List Nat → En
  | [] => env
  | i :: is => match env0[i]? with
    | some s => (backE env0 env is).set i s
    | none => backE env0 env is
def ownOk (env : En) : List Nat → Bool
  | [] => true
  | i :: is => (match env[i]? with
    | some none => true
    | some (some (.val _)) => true
    | _ => false) && ownOk env is
def noX {α : Type} (x : Option (R α)) : Option (R α) := match x with
  | some (.exc _ _) => none
  | x => x
/-- a comprehension's turns -/
def compL (own : List Nat) (t : Tg) (c : En → Option (R Bool)) (e : En → Option (R AV)) : List AV → En → Option (R (List AV))
  | [], env => some (.ok [] env)
  | x :: xs, env => match asgT t x env with
    | none => none
    | some env1 => bnd (noX (c env1)) fun b env2 =>
      if b then bnd (noX (e env2)) fun d env3 => match sto d with
        | none => none
        | some d' => bnd (compL own t c e xs (wipeE env3 own)) fun ds env4 => some (.ok (d' :: ds) env4)
      else compL own t c e xs (wipeE env2 own)
def asB (d : AV) (env : En) : Option (R Bool) := match d with
  | .bl b => some (.ok b env)
  | _ => none
def binO : Bop → En → List AV → Option AV
  | .add => oAdd | .sub => oSub | .mul => oMul | .div => oDiv | .mod => oMod | .pow => oPow | .shl => oShl | .shr => oShr | .band => oBand
def cmpO : CmpOp → En → List AV → Option AV
  | .Lt => oLt | .LtE => oLe | .Gt => oGt | .GtE => oGe | .Eq => oEq | .NotEq => oNe
  | .Is => oIs false | .IsNot => oIs true
  | .In => orO (oInF false) (orO (oInD false) (oInS false))
  | .NotIn => orO (oInF true) (orO (oInD true) (oInS true))
/-- a list turned about -/
def oRvs : En → List AV → Option AV := fun env ds => match ds with
  | [x] => match asL env x with
    | some xs => some (.frs xs.reverse)
    | none => none
  | _ => none
/-- len(set(a)) of ints -/
def ddN (ns : List Int) : Nat := (PyProof.Rows.firstMet (fun j => ns.getD j 0) ns.length).length
def oLse : En → List AV → Option AV := fun env ds => match ds with
  | [x] => match asL env x with
    | some xs => match ints? xs with
      | some ns => if ns.length ≤ 4000 then some (.int (ddN ns)) else none
      | none => none
    | none => none
  | _ => none
/-- isinstance of an exception -/
def oIsx (ts : List (Str × Bool)) : En → List AV → Option AV := fun _ ds => match ds with
  | [.exo c] => match ts.lookup c with
    | some b => some (.bl b)
    | none => none
  | _ => none
/-- repr of a tuple, of a list -/
def dsp : AV → Bool
  | .tup _ => true
  | .lst _ _ => true
  | _ => false
def oRpr : En → List AV → Option AV := fun env ds => match ds with
  | [x] => match rsv env x with
    | some y => if dsp y && okE y && PyData.showable (toP y) && decide ((toP y).shown.length ≤ sizeLine) then some (.str (toP y).shown) else none
    | none => none
  | _ => none
/-- isinstance, a tuple of built-in types -/
def oIst (ns : List String) : En → List AV → Option AV := fun env ds => match ds with
  | [x] => match tyA env x with
    | some t => if ns.all tyAsk.contains then some (.bl (ns.any fun n => isiB t n)) else none
    | none => none
  | _ => none
def strs? : List AV → Option (List Str)
  | [] => some []
  | .str x :: r => (strs? r).map (x :: ·)
  | _ => none
/-- the kinds of a method's object -/
def pmK (m : Pmt) (env : En) (x : AV) : Bool := match m, x with
  | .ixL, x => (asL env x).isSome
  | .ixG, .tup _ => true
  | .spl, .str _ => true
  | .joi, .str _ => true
  | _, _ => false
def pmO (m : Pmt) : En → List AV → Option AV := fun env ds => match m, ds with
  | .ixL, [x, .int k] => match asL env x with
    | some xs => match ints? xs with
      | some ns => if decide (k ∈ ns) && lenOk ns.length then some (.int (ns.idxOf k : Nat)) else none
      | none => none
    | none => none
  | .ixG, [.tup xs, .int k] => match ints? xs with
    | some ns => if decide (k ∈ ns) then some (.int (ns.idxOf k : Nat)) else none
    | none => none
  | .spl, [.str a, .str b] => if !(b.length == 0) && decide (a.length + 2 ≤ sizeLine) then some (.frs ((Txt.split a b).map .str)) else none
  | .joi, [.str a, y] => match asS env y with
    | some ys => match strs? ys with
      | some zs => if decide ((zs.map (·.length)).sum + zs.length * a.length ≤ 16777216) then some (.str (Txt.join a zs)) else none
      | none => none
    | none => none
  | _, _ => none
def keyA : AV → Bool
  | .int _ => true
  | .str _ => true
  | _ => false
/-- the name of a def's value -/
def fnN (fs : List Str) : AV → Option Str
  | .fn f => if f ∈ fs then some f else none
  | _ => none
def oNeg : En → List AV → Option AV := fun _ ds => match ds with
  | [.int i] => some (.int (-i))
  | _ => none
def biO : Bi → En → List AV → Option AV
  | .len => oLen | .sum => oSum | .max => oMax | .min => oMin | .isi => oIsi | .int => oInt | .str => oStr | .abs => oAbs | .list => oList | .tuple => oTuple | .all => oAll | .any => oAny | .sorted => oSorted | .rpr => oRpr
def partI : AV → Option Int
  | .int i => some i
  | _ => none

/-- a list's method: the list behind it, what is given back -/
def mthL (m : Mt) (xs ds : List AV) (env : En) : Option (List AV × AV) := match m, ds with
  | .app, [d] => match sto d with
    | some d' => if xs.length < sizeLine then some (xs ++ [d'], .non) else none
    | none => none
  | .ext, [d] => match asM env d with
    | some ys => if xs.length + ys.length ≤ sizeLine then some (xs ++ ys, .non) else none
    | none => none
  | .ins, [.int k, d] => match sto d with
    | some d' => if decide (xs.length < sizeLine) && decide (0 ≤ k) && decide (k < 2 ^ 63) then some (xs.take k.toNat ++ [d'] ++ xs.drop k.toNat, .non) else none
    | none => none
  | .clr, [] => some ([], .non)
  | .rev, [] => some (xs.reverse, .non)
  | .pop, [] => match xs[xs.length - 1]? with
    | some y => some (xs.dropLast, y)
    | none => none
  | .popAt, [.int i] => if decide (-(2 ^ 63) ≤ i) && decide (i < 2 ^ 63) then match seqIndex? i xs.length with
    | some k => match xs[k]? with
      | some y => some (xs.eraseIdx k, y)
      | none => none
    | none => none else none
  | _, _ => none
def mutB (env : En) (i : Nat) : Bool := match env[i]? with
  | some (some (.own _ _)) => true
  | some (some (.io _)) => true
  | _ => false
/-- the list in a slot, changed -/
def updS (env : En) (i : Nat) (ys : List AV) : En := match env[i]? with
  | some (some (.own nw _)) => env.set i (some (.own nw ys))
  | some (some (.io _)) => env.set i (some (.io ys))
  | _ => env
def mthE (m : Mt) (i : Nat) (ds : List AV) (env : En) : Option (R AV) := if mutB env i then match slL env i with
  | some xs => match mthL m xs ds env with
    | some (ys, d) => some (.ok d (updS env i ys))
    | none => none
  | none => none else none
def isNul : Ex → Bool
  | .nul => true
  | _ => false
/-- a comprehension's test -/
def evCk (n : Bool) (r : En → Option (R AV)) (env : En) : Option (R Bool) := if n then some (.ok true env) else bnd (r env) asB
/-- a slice's end -/
def evPk (n : Bool) (r : En → Option (R AV)) (env : En) : Option (R (Option Int)) := if n then some (.ok none env) else bnd (r env) fun d e1 => match d with
  | .int i => some (.ok (some i) e1)
  | _ => none
/-- reversed(range(n)) -/
def rrgK (d : AV) (env : En) : Option (R Src) := match d with
  | .int n => if rgOk 0 n then some (.ok ⟨(List.range n.toNat).map fun i => .int ((n.toNat : Int) - 1 + (i : Nat) * (-1)), []⟩ env) else none
  | _ => none
/-- a value as it is kept: a list just made becomes a plain value (b: known to be new) -/
def stw (b : Bool) (d : AV) : Option AV := match sto d with
  | some (.lst nw xs) => some (.lst (b && nw) xs)
  | x => x
def stwK (b : Bool) (d : AV) (env : En) : Option (R AV) := match stw b d with
  | some d' => some (.ok d' env)
  | none => none
mutual
def ev (G : Calls) : Ex → En → Option (R AV)
  | .var i, env => match env[i]? with
    | some (some (.val d)) => some (.ok d env)
    | some (some _) => some (.ok (.sl i) env)
    | _ => none
  | .mv i, env => match env[i]? with
    | some (some (.own true xs)) => some (.ok (.frs xs) (env.set i none))
    | _ => none
  | .fz i, env => match env[i]? with
    | some (some (.own nw xs)) => some (.ok (.lst nw xs) (env.set i (some (.val (.lst nw xs)))))
    | some (some (.val d)) => some (.ok d env)
    | _ => none
  | .int i, env => some (.ok (.int i) env)
  | .bl b, env => some (.ok (.bl b) env)
  | .str x, env => some (.ok (.str x) env)
  | .non, env => some (.ok .non env)
  | .nul, _ => none
  | .ty _ n, env => some (.ok (.ty n) env)
  | .gl _ d, env => some (.ok d env)
  | .bin o a b, env => bnd (ev G a env) fun x e1 => bnd (ev G b e1) fun y e2 => lift (binO o) [x, y] e2
  | .neg a, env => bnd (ev G a env) fun x e1 => lift oNeg [x] e1
  | .cmp o a b, env => bnd (ev G a env) fun x e1 => bnd (ev G b e1) fun y e2 => lift (cmpO o) [x, y] e2
  | .chain o p a b c, env => bnd (ev G a env) fun x e1 => bnd (ev G b e1) fun y e2 => bnd (lift (cmpO o) [x, y] e2) fun z e3 => match z, y with
    | .bl true, .int j => bnd (ev G c e3) fun w e4 => lift (cmpO p) [.int j, w] e4
    | .bl false, _ => some (.ok (.bl false) e3)
    | _, _ => none
  | .and es, env => evAnd G es env
  | .or es, env => evOr G es env
  | .not a, env => bnd (ev G a env) fun x e1 => bnd (asB x e1) fun b e2 => some (.ok (.bl (!b)) e2)
  | .ite c a b, env => bnd (ev G c env) fun x e1 => bnd (asB x e1) fun t e2 => if t then ev G a e2 else ev G b e2
  | .tup es, env => bnd (evs G es env) fun ds e1 => lift oTup ds e1
  | .lst es, env => bnd (evs G es env) fun ds e1 => lift oLst ds e1
  | .ix a i, env => bnd (ev G a env) fun x e1 => bnd (ev G i e1) fun y e2 => lift oIx [x, y] e2
  | .slc a lo hi, env => bnd (ev G a env) fun x e1 => bnd (evPk (isNul lo) (ev G lo) e1) fun l e2 => bnd (evPk (isNul hi) (ev G hi) e2) fun u e3 => match oSl l u e3 x with
    | some d => some (.ok d e3)
    | none => none
  | .call f ms es, env => bnd (evs G es env) fun ds e1 => callE G f ms ds e1
  | .bi b es, env => bnd (evs G es env) fun ds e1 => lift (biO b) ds e1
  | .comp e own t it c, env => bnd (evI G it env) fun s e1 =>
      if lenOk s.xs.length && ownOk e1 own && (own.all fun i => !s.lk.contains i) then
        bnd (compL own t (evCk (isNul c) (ev G c)) (ev G e) s.xs (wipeE (lockE e1 s.lk) own)) fun ds e2 => some (.ok (.frs ds) (unlockE e1 (backE (lockE e1 s.lk) e2 own) s.lk))
      else none
  | .mth m i es, env => if mutB env i then bnd (evs G es env) fun ds e1 => mthE m i ds e1 else none
  | .stv b e, env => bnd (ev G e env) (stwK b)
  | .rvs a, env => bnd (ev G a env) fun x e1 => lift oRvs [x] e1
  | .lse a, env => bnd (ev G a env) fun x e1 => lift oLse [x] e1
  | .isx a ts, env => bnd (ev G a env) fun x e1 => lift (oIsx ts) [x] e1
  | .fcl fs a ms es, env => bnd (ev G a env) fun x e1 => match fnN fs x with
    | some f => bnd (evs G es e1) fun ds e2 => callE G f ms ds e2
    | none => none
  | .pm m a es, env => bnd (ev G a env) fun x e1 => if pmK m e1 x then bnd (evs G es e1) fun ds e2 => lift (pmO m) (x :: ds) e2 else none
  | .emd, env => some (.ok .dcx env)
  | .dc1 k v, env => bnd (ev G k env) fun x e1 => if keyA x then bnd (ev G v e1) fun y e2 => match sto y with
    | some _ => some (.ok .dcx e2)
    | none => none else none
  | .ist a ns, env => bnd (ev G a env) fun x e1 => lift (oIst ns) [x] e1
def evs (G : Calls) : Exs → En → Option (R (List AV))
  | .nil, env => some (.ok [] env)
  | .cons e es, env => bnd (ev G e env) fun d e1 => bnd (evs G es e1) fun ds e2 => some (.ok (d :: ds) e2)
def evAnd (G : Calls) : Exs → En → Option (R AV)
  | .nil, _ => none
  | .cons e .nil, env => ev G e env
  | .cons e es, env => bnd (ev G e env) fun x e1 => bnd (asB x e1) fun b e2 => if b then evAnd G es e2 else some (.ok (.bl false) e2)
def evOr (G : Calls) : Exs → En → Option (R AV)
  | .nil, _ => none
  | .cons e .nil, env => ev G e env
  | .cons e es, env => bnd (ev G e env) fun x e1 => bnd (asB x e1) fun b e2 => if b then some (.ok (.bl true) e2) else evOr G es e2
def evI (G : Calls) : It → En → Option (R Src)
  | .seq e, env => bnd (ev G e env) fun d e1 => match seqOf (lockE e1 (lkL [d])) d with
    | some (_, xs) => some (.ok ⟨xs, lkL [d]⟩ e1)
    | none => none
  | .rev e, env => bnd (ev G e env) fun d e1 => match seqOf (lockE e1 (lkL [d])) d with
    | some (_, xs) => some (.ok ⟨xs.reverse, lkL [d]⟩ e1)
    | none => none
  | .rg es, env => bnd (evs G es env) fun ds e1 => match rngL ds with
    | some xs => some (.ok ⟨xs, []⟩ e1)
    | none => none
  | .rrg e, env => bnd (ev G e env) rrgK
  | .enum e, env => bnd (ev G e env) fun d e1 => match seqOf (lockE e1 (lkL [d])) d with
    | some (_, xs) => some (.ok ⟨enumL 0 xs, lkL [d]⟩ e1)
    | none => none
  | .zip e e2, env => bnd (ev G e env) fun d e1 => bnd (ev G e2 e1) fun d2 e2 => match seqOf (lockE e2 (lkL [d, d2])) d, seqOf (lockE e2 (lkL [d, d2])) d2 with
    | some (_, xs), some (_, ys) => some (.ok ⟨zipL xs ys, lkL [d, d2]⟩ e2)
    | _, _ => none
end
end RX
/-! RX part h: slots set, frozen, locked. -/
namespace RX
open PySem L2

theorem set_self {α : Type} {l : List α} {i : Nat} {x : α} (h : l[i]? = some x) : l.set i x = l := by
  apply List.ext_getElem?
  intro j
  by_cases e : i = j
  · subst e
    rw [List.getElem?_set_self (lt_of_get h), h]
  · rw [List.getElem?_set_ne e]
section
variable {g : Gh} {F N N0 : Addr → Prop} {env env' env0 : En} {σ σ' : L2.St} {H H' Hs : Hp}
/-- what slot i must be -/
def SlotIs (g : Gh) (N N0 : Addr → Prop) (env : En) (σ : L2.St) (H : Hp) (i : Nat) (ns : Option Slot) (nv : Option V) : Prop := match ns with
  | none => True
  | some (.val d) => ∃ v, nv = some v ∧ RV g.K g.H0 H (Pv N0 env σ) d v
  | some (.own nw xs) => ∃ a vs, nv = some (.ref a) ∧ H a = some (.lst vs) ∧ RVs g.K g.H0 H (Pv N0 env σ) xs vs ∧ ¬ N a ∧ (nw = true → g.H0 a = none) ∧ (g.IO a ∨ g.H0 a = none) ∧ ∀ j, j ≠ i → IsMut env j → σ[j]? ≠ some (some (.ref a))
  | some (.io xs) => ∃ a vs, nv = some (.ref a) ∧ H a = some (.lst vs) ∧ RVs g.K g.H0 H (Pv N0 env σ) xs vs ∧ ¬ N a ∧ g.IO a ∧ ∀ j, j ≠ i → IsMut env j → σ[j]? ≠ some (some (.ref a))
  | some (.brw t xs) => ∃ a vs, nv = some (.ref a) ∧ H a = some (.lst vs) ∧ RVs g.K g.H0 H (Pv N0 env σ) xs vs ∧ N a
theorem SR.setSlot (s : SR g N0 env σ H) (s1 : SR g N env σ H) {i : Nat} {ns : Option Slot} {nv : Option V} (hi : i < env.length)
    (hP : ∀ b, Pv N (env.set i ns) (σ.set i nv) b → H b ≠ none → Pv N0 env σ b) (hN : ∀ j b, j ≠ i → IsMut env j → σ[j]? = some (some (.ref b)) → ¬ N b) (ok : SlotIs g N N0 env σ H i ns nv) : SR g N (env.set i ns) (σ.set i nv) H := by
  have iσ : i < σ.length := by rw [← s.len]; exact hi
  have st : Stab (Pv N0 env σ) H H := fun _ _ h _ => h
  have self : (env.set i ns)[i]? = some ns := List.getElem?_set_self hi
  have selfσ : (σ.set i nv)[i]? = some nv := List.getElem?_set_self iσ
  have oth : ∀ j, j ≠ i → (env.set i ns)[j]? = env[j]? ∧ (σ.set i nv)[j]? = σ[j]? := fun j h => ⟨List.getElem?_set_ne (Ne.symm h), List.getElem?_set_ne (Ne.symm h)⟩
  have mo : ∀ j, j ≠ i → IsMut (env.set i ns) j → IsMut env j := fun j h ⟨sl, h1, h2⟩ => ⟨sl, by rw [← (oth j h).1]; exact h1, h2⟩
  have key : ∀ j b, IsMut (env.set i ns) i → j ≠ i → IsMut env j → (σ.set i nv)[i]? = some (some (.ref b)) → σ[j]? ≠ some (some (.ref b)) := fun j b ⟨sl, h1, h2⟩ hj hm e => by
    rw [self] at h1
    cases h1
    rw [selfσ] at e
    cases e
    cases sl with
    | val d => cases h2
    | brw t xs => cases h2
    | own nw xs =>
      obtain ⟨a, vs, e, _, _, _, _, _, k⟩ := ok
      cases e
      exact k j hj hm
    | io xs =>
      obtain ⟨a, vs, e, _, _, _, _, k⟩ := ok
      cases e
      exact k j hj hm
  refine ⟨by rw [List.length_set, List.length_set]; exact s.len, fun j d h => ?_, fun j nw xs h => ?_, fun j xs h => ?_, fun j t xs h => ?_, fun j k b hm hk ej ek => ?_, s.keep, s.dom, s1.nst⟩
  · by_cases hj : j = i
    · subst hj
      rw [self] at h
      cases h
      obtain ⟨v, e, r⟩ := ok
      subst e
      exact ⟨v, selfσ, r.mono st hP⟩
    · rw [(oth j hj).1] at h
      obtain ⟨v, e, r⟩ := s.val j d h
      exact ⟨v, by rw [(oth j hj).2]; exact e, r.mono st hP⟩
  · by_cases hj : j = i
    · subst hj
      rw [self] at h
      cases h
      obtain ⟨a, vs, e, h1, r, h2, h3, h4, _⟩ := ok
      subst e
      exact ⟨a, vs, selfσ, h1, r.mono st hP, h2, h3, h4⟩
    · rw [(oth j hj).1] at h
      obtain ⟨a, vs, e, h1, r, h2, h3⟩ := s.own j nw xs h
      exact ⟨a, vs, by rw [(oth j hj).2]; exact e, h1, r.mono st hP, hN j a hj ⟨_, h, rfl⟩ e, h3⟩
  · by_cases hj : j = i
    · subst hj
      rw [self] at h
      cases h
      obtain ⟨a, vs, e, h1, r, h2, h3, _⟩ := ok
      subst e
      exact ⟨a, vs, selfσ, h1, r.mono st hP, h2, h3⟩
    · rw [(oth j hj).1] at h
      obtain ⟨a, vs, e, h1, r, h2, h3⟩ := s.io j xs h
      exact ⟨a, vs, by rw [(oth j hj).2]; exact e, h1, r.mono st hP, hN j a hj ⟨_, h, rfl⟩ e, h3⟩
  · by_cases hj : j = i
    · subst hj
      rw [self] at h
      cases h
      obtain ⟨a, vs, e, h1, r, h2⟩ := ok
      subst e
      exact ⟨a, vs, selfσ, .inr ⟨.inl h1, h2, r.mono st hP, fun _ => h1⟩⟩
    · rw [(oth j hj).1] at h
      obtain ⟨a, vs, e, h1⟩ := s.brw j t xs h
      obtain ⟨a', vs', e', h1'⟩ := s1.brw j t xs h
      rw [e] at e'
      cases e'
      rcases h1' with h1' | ⟨_, h2, _⟩
      · exact ⟨a, vs', by rw [(oth j hj).2]; exact e, .inl h1'⟩
      · rcases h1 with h1 | ⟨h1, _, h3, h4⟩
        · exact ⟨a, vs, by rw [(oth j hj).2]; exact e, .inl h1⟩
        · exact ⟨a, vs, by rw [(oth j hj).2]; exact e, .inr ⟨h1, h2, h3.mono st hP, h4⟩⟩
  · by_cases hj : j = i
    · by_cases hk' : k = i
      · rw [hj, hk']
      · subst hj
        exact absurd (by rw [← (oth k hk').2]; exact ek) (key k b hm hk' (mo k hk' hk) ej)
    · by_cases hk' : k = i
      · subst hk'
        exact absurd (by rw [← (oth j hj).2]; exact ej) (key j b hk hj (mo j hj hm) ek)
      · exact s.inj j k b (mo j hj hm) (mo k hk' hk) (by rw [← (oth j hj).2]; exact ej) (by rw [← (oth k hk').2]; exact ek)

/-- a slot that may be set anew -/
def Free (env : En) (i : Nat) : Prop := ∃ s, env[i]? = some s ∧ (∀ xs, s ≠ some (.io xs)) ∧ ∀ t xs, s ≠ some (.brw t xs)
theorem Free.lt {i : Nat} (h : Free env i) : i < env.length := by
  obtain ⟨s, e, _⟩ := h
  exact lt_of_get e
theorem stp_set {i : Nat} {ns : Option Slot} {nv : Option V} (t : Stp All env0 σ Hs env σ' H) (hl : env.length = σ'.length) (hi : Free env i) (hb : ∀ tt xs, ns ≠ some (.brw tt xs)) (hm : ∀ sl b, ns = some sl → sl.mut = true → nv = some (.ref b) → Fr env0 σ Hs b) :
    Stp All env0 σ Hs (env.set i ns) (σ'.set i nv) H := by
  have lt := hi.lt
  have iσ : i < σ'.length := by rw [← hl]; exact lt
  obtain ⟨s, e, n1, n2⟩ := hi
  refine ⟨t.ext, fun b ⟨j, ⟨sl, h1, h2⟩, h3⟩ => ?_, t.dom, fun j tt xs h => ?_, fun j xs h => ?_, fun j tt xs h => ?_⟩
  · by_cases hj : j = i
    · subst hj
      rw [List.getElem?_set_self lt] at h1
      rw [List.getElem?_set_self iσ] at h3
      cases h1
      cases h3
      exact (hm sl b rfl h2 rfl).symm
    · rw [List.getElem?_set_ne (Ne.symm hj)] at h1 h3
      exact t.grow b ⟨j, ⟨sl, h1, h2⟩, h3⟩
  · obtain ⟨h1, h2⟩ := t.fixB j tt xs h
    have hj : j ≠ i := fun z => by
      subst z
      rw [e] at h1
      cases h1
      exact n2 _ _ rfl
    rw [List.getElem?_set_ne (Ne.symm hj), List.getElem?_set_ne (Ne.symm hj)]
    exact ⟨h1, h2⟩
  · obtain ⟨⟨ys, h1⟩, h2⟩ := t.fixI j xs h
    have hj : j ≠ i := fun z => by
      subst z
      rw [e] at h1
      cases h1
      exact n1 _ rfl
    rw [List.getElem?_set_ne (Ne.symm hj), List.getElem?_set_ne (Ne.symm hj)]
    exact ⟨⟨ys, h1⟩, h2⟩
  · by_cases hj : j = i
    · subst hj
      rw [List.getElem?_set_self lt] at h
      cases h
      exact absurd rfl (hb _ _)
    · rw [List.getElem?_set_ne (Ne.symm hj)] at h
      exact t.noB j tt xs h
theorem asgN_free {i : Nat} {d : AV} (h : asgN i d env = some env') : Free env i := by
  unfold asgN at h
  split at h
  · cases h
  · cases h
  · rename_i s n1 n2 e
    exact ⟨s, e, fun xs z => n1 xs z, fun t xs z => n2 t xs z⟩
  · cases h
theorem asgN_eq {i : Nat} {d : AV} (h : asgN i d env = some env') : (∃ xs, d = .frs xs ∧ env' = env.set i (some (.own true xs))) ∨ ((∀ xs, d ≠ .frs xs) ∧ (∀ j, d ≠ .sl j) ∧ env' = env.set i (some (.val d))) := by
  unfold asgN at h
  split at h
  · cases h
  · cases h
  · split at h
    · cases h
      exact .inl ⟨_, rfl, rfl⟩
    · cases h
    · rename_i n1 n2
      cases h
      exact .inr ⟨n1, n2, rfl⟩
  · cases h
theorem asgN_ok {i : Nat} {d : AV} {v : V} (t : Stp All env0 σ Hs env σ' H) (p : Posts g (Fr env0 σ Hs) env σ' H N [d] [v]) (h : asgN i d env = some env') : SR g N env' (σ'.set i (some v)) H ∧ Stp All env0 σ Hs env' (σ'.set i (some v)) H := by
  have hf := asgN_free h
  have s1 := p.sr
  have hN : ∀ j b, j ≠ i → IsMut env j → σ'[j]? = some (some (.ref b)) → ¬ N b := fun j b _ hm e => (s1.pmLst ⟨j, hm, e⟩).2.1
  have lt := hf.lt
  have iσ : i < σ'.length := by rw [← s1.len]; exact lt
  rcases asgN_eq h with ⟨xs, rfl, rfl⟩ | ⟨n1, n2, rfl⟩
  · obtain ⟨⟨_, a, ws, rfl, h2, h3, h4, h5, h6⟩, s2⟩ := p
    have s2 : SR g (adN N a) env σ' H := s2
    refine ⟨SR.setSlot s2 s1 lt (fun b hb _ => ?_) hN ⟨a, ws, rfl, h2, h5.mono (fun _ _ q _ => q) (fun b q _ => q.imp .inl id), h4, fun _ => h3, .inr h3, fun j _ hm e => (s2.pmLst ⟨j, hm, e⟩).2.1 (.inr rfl)⟩, stp_set t s1.len hf (fun _ _ z => by cases z) fun sl b e1 e2 e3 => ?_⟩
    · rcases hb with hb | ⟨j, ⟨sl, k1, k2⟩, k3⟩
      · exact .inl (.inl hb)
      · by_cases hj : j = i
        · subst hj
          rw [List.getElem?_set_self iσ] at k3
          cases k3
          exact .inl (.inr rfl)
        · rw [List.getElem?_set_ne (Ne.symm hj)] at k1 k3
          exact .inr ⟨j, ⟨sl, k1, k2⟩, k3⟩
    · cases e3
      exact h6
  · have hr : RV g.K g.H0 H (Pv N env σ') d v := p.1.sto p.2 (by
      cases d with
      | frs xs => exact absurd rfl (n1 xs)
      | sl j => exact absurd rfl (n2 j)
      | _ => rfl)
    refine ⟨SR.setSlot s1 s1 lt (fun b hb _ => ?_) hN ⟨v, rfl, hr⟩, stp_set t s1.len hf (fun _ _ z => by cases z) fun sl b e1 e2 e3 => by cases e1; cases e2⟩
    rcases hb with hb | ⟨j, ⟨sl, k1, k2⟩, k3⟩
    · exact .inl hb
    · by_cases hj : j = i
      · subst hj
        rw [List.getElem?_set_self lt] at k1
        cases k1
        cases k2
      · rw [List.getElem?_set_ne (Ne.symm hj)] at k1 k3
        exact .inr ⟨j, ⟨sl, k1, k2⟩, k3⟩
/-- a slot whose list is given up, or frozen -/
theorem unown_ok {i : Nat} {nw : Bool} {xs : List AV} {ns : Option Slot} (s : SR g N env σ H) (h : env[i]? = some (some (.own nw xs))) {a : Addr} {vs : List V} (ha : σ[i]? = some (some (.ref a))) (hv : H a = some (.lst vs)) (hr : RVs g.K g.H0 H (Pv N env σ) xs vs) (hn : nw = true → g.H0 a = none)
    (hs : ns = none ∨ ns = some (.val (.lst nw xs))) : SR g N (env.set i ns) σ H ∧ Stp All env σ H (env.set i ns) σ H := by
  have lt := lt_of_get h
  have iσ : i < σ.length := lt_of_get ha
  have es : σ.set i (some (.ref a)) = σ := set_self ha
  have hN : ∀ j b, j ≠ i → IsMut env j → σ[j]? = some (some (.ref b)) → ¬ N b := fun j b _ hm e => (s.pmLst ⟨j, hm, e⟩).2.1
  have nm : ¬ IsMut (env.set i ns) i := fun ⟨sl, k1, k2⟩ => by
    rw [List.getElem?_set_self lt] at k1
    rcases hs with rfl | rfl
    · cases k1
    · cases k1; cases k2
  have sub : ∀ b, Pm (env.set i ns) σ b → Pm env σ b ∧ ∃ j, j ≠ i ∧ IsMut env j ∧ σ[j]? = some (some (.ref b)) := fun b ⟨j, hm, e⟩ => by
    have hj : j ≠ i := fun z => nm (z ▸ hm)
    obtain ⟨sl, k1, k2⟩ := hm
    rw [List.getElem?_set_ne (Ne.symm hj)] at k1
    exact ⟨⟨j, ⟨sl, k1, k2⟩, e⟩, j, hj, ⟨sl, k1, k2⟩, e⟩
  have hf : Free env i := ⟨_, h, ⟨(fun _ z => by cases z), (fun _ _ z => by cases z)⟩⟩
  have t := stp_set (i := i) (ns := ns) (nv := some (.ref a)) (Stp.refl (A := All) (env := env) (σ := σ) (H := H)) s.len hf (fun _ _ z => by rcases hs with rfl | rfl <;> cases z) fun sl b e1 e2 _ => by
    rcases hs with rfl | rfl
    · cases e1
    · cases e1; cases e2
  rw [es] at t
  refine ⟨?_, t⟩
  -- what the slot holds may now be held by plain values
  have st : Stab (Pv N env σ) H H := fun _ _ h _ => h
  have hP : ∀ b, Pv N (env.set i ns) σ b → H b ≠ none → Pv N env σ b := fun b hb _ => hb.elim .inl fun q => .inr (sub b q).1
  have oth : ∀ j, j ≠ i → (env.set i ns)[j]? = env[j]? := fun j h => List.getElem?_set_ne (Ne.symm h)
  have self : (env.set i ns)[i]? = some ns := List.getElem?_set_self lt
  refine ⟨by rw [List.length_set]; exact s.len, fun j d e => ?_, fun j nw' ys e => ?_, fun j ys e => ?_, fun j tt ys e => ?_, fun j k b hm hk ej ek => ?_, s.keep, s.dom, s.nst⟩
  · by_cases hj : j = i
    · subst hj
      rw [self] at e
      cases e
      rcases hs with z | z
      · cases z
      · cases z
        refine ⟨.ref a, ha, .lst hv (fun q => ?_) hn (hr.mono st hP)⟩
        rcases q with q | q
        · exact (s.pmLst ⟨j, ⟨_, h, rfl⟩, ha⟩).2.1 q
        · obtain ⟨_, k, hk, hm, e⟩ := sub a q
          exact hk (s.inj k j a hm ⟨_, h, rfl⟩ e ha)
    · rw [oth j hj] at e
      obtain ⟨v, e1, r⟩ := s.val j d e
      exact ⟨v, e1, r.mono st hP⟩
  · have hj : j ≠ i := fun z => by subst z; exact nm ⟨_, e, rfl⟩
    rw [oth j hj] at e
    obtain ⟨b, ws, e1, e2, r, e3⟩ := s.own j nw' ys e
    exact ⟨b, ws, e1, e2, r.mono st hP, e3⟩
  · have hj : j ≠ i := fun z => by subst z; exact nm ⟨_, e, rfl⟩
    rw [oth j hj] at e
    obtain ⟨b, ws, e1, e2, r, e3⟩ := s.io j ys e
    exact ⟨b, ws, e1, e2, r.mono st hP, e3⟩
  · by_cases hj : j = i
    · subst hj
      rw [self] at e
      rcases hs with z | z
      · subst z; cases e
      · subst z; cases e
    · rw [oth j hj] at e
      obtain ⟨b, ws, e1, e2⟩ := s.brw j tt ys e
      refine ⟨b, ws, e1, ?_⟩
      rcases e2 with e2 | ⟨e2, e3, r, e4⟩
      · exact .inl e2
      · exact .inr ⟨e2, e3, r.mono st hP, e4⟩
  · have mm : ∀ j, IsMut (env.set i ns) j → IsMut env j := fun j hm => by
      have hj : j ≠ i := fun z => nm (z ▸ hm)
      obtain ⟨sl, k1, k2⟩ := hm
      rw [oth j hj] at k1
      exact ⟨sl, k1, k2⟩
    exact s.inj j k b (mm j hm) (mm k hk) ej ek
/-- a slot's list locked while it is walked -/
theorem lock_ok {i : Nat} {nw : Bool} {xs : List AV} (s : SR g N env σ H) (h : env[i]? = some (some (.own nw xs))) {a : Addr} {vs : List V} (ha : σ[i]? = some (some (.ref a))) (hv : H a = some (.lst vs)) (hr : RVs g.K g.H0 H (Pv N env σ) xs vs) : SR g (adN N a) (env.set i (some (.brw true xs))) σ H := by
  have lt := lt_of_get h
  have es : σ.set i (some (.ref a)) = σ := set_self ha
  have st : Stab (Pv N env σ) H H := fun _ _ h _ => h
  have self : (env.set i (some (.brw true xs)))[i]? = some (some (.brw true xs)) := List.getElem?_set_self lt
  have oth : ∀ j, j ≠ i → (env.set i (some (.brw true xs)))[j]? = env[j]? := fun j h => List.getElem?_set_ne (Ne.symm h)
  have nm : ¬ IsMut (env.set i (some (.brw true xs))) i := fun ⟨sl, k1, k2⟩ => by
    rw [self] at k1
    cases k1
    cases k2
  have mm : ∀ j, IsMut (env.set i (some (.brw true xs))) j → j ≠ i ∧ IsMut env j := fun j hm => by
    have hj : j ≠ i := fun z => nm (z ▸ hm)
    obtain ⟨sl, k1, k2⟩ := hm
    rw [oth j hj] at k1
    exact ⟨hj, sl, k1, k2⟩
  have pa : Pm env σ a := ⟨i, ⟨_, h, rfl⟩, ha⟩
  have hP : ∀ b, Pv (adN N a) (env.set i (some (.brw true xs))) σ b → H b ≠ none → Pv N env σ b := fun b hb _ => by
    rcases hb with (hb | hb) | ⟨j, hm, e⟩
    · exact .inl hb
    · rw [hb]; exact .inr pa
    · exact .inr ⟨j, (mm j hm).2, e⟩
  have na : ∀ j b, j ≠ i → IsMut env j → σ[j]? = some (some (.ref b)) → ¬ adN N a b := fun j b hj hm e z => by
    rcases z with z | z
    · exact (s.pmLst ⟨j, hm, e⟩).2.1 z
    · subst z
      exact hj (s.inj j i _ hm ⟨_, h, rfl⟩ e ha)
  refine ⟨by rw [List.length_set]; exact s.len, fun j d e => ?_, fun j nw' ys e => ?_, fun j ys e => ?_, fun j tt ys e => ?_, fun j k b hm hk ej ek => s.inj j k b (mm j hm).2 (mm k hk).2 ej ek, s.keep, s.dom, fun b hb => ?_⟩
  · have hj : j ≠ i := fun z => by subst z; rw [self] at e; cases e
    rw [oth j hj] at e
    obtain ⟨v, e1, r⟩ := s.val j d e
    exact ⟨v, e1, r.mono st hP⟩
  · have hj : j ≠ i := fun z => by subst z; rw [self] at e; cases e
    rw [oth j hj] at e
    obtain ⟨b, ws, e1, e2, r, e3, e4⟩ := s.own j nw' ys e
    exact ⟨b, ws, e1, e2, r.mono st hP, na j b hj ⟨_, e, rfl⟩ e1, e4⟩
  · have hj : j ≠ i := fun z => by subst z; rw [self] at e; cases e
    rw [oth j hj] at e
    obtain ⟨b, ws, e1, e2, r, e3, e4⟩ := s.io j ys e
    exact ⟨b, ws, e1, e2, r.mono st hP, na j b hj ⟨_, e, rfl⟩ e1, e4⟩
  · by_cases hj : j = i
    · subst hj
      rw [self] at e
      cases e
      exact ⟨a, vs, ha, .inr ⟨.inl hv, .inr rfl, hr.mono st hP, fun _ => hv⟩⟩
    · rw [oth j hj] at e
      obtain ⟨b, ws, e1, e2⟩ := s.brw j tt ys e
      refine ⟨b, ws, e1, ?_⟩
      rcases e2 with e2 | ⟨e2, e3, r, e4⟩
      · exact .inl e2
      · exact .inr ⟨e2, .inl e3, r.mono st hP, e4⟩
  · rcases hb with hb | hb
    · exact s.nst b hb
    · rw [hb, hv]; simp
/-- .. and unlocked -/
theorem unlock_ok {i : Nat} {nw : Bool} {xs : List AV} (s : SR g N env σ H) (h : env[i]? = some (some (.own nw xs))) {a : Addr} (ha : σ[i]? = some (some (.ref a)))
    {N2 : Addr → Prop} (hN : ∀ b, N b → N2 b) (na : ¬ N2 a) (t : Stp All (env.set i (some (.brw true xs))) σ H env' σ' H') (s2 : SR g (adN N2 a) env' σ' H') : SR g N2 (env'.set i (some (.own nw xs))) σ' H' ∧ Stp All env σ H (env'.set i (some (.own nw xs))) σ' H' := by
  have lt := lt_of_get h
  obtain ⟨b, ws, hb, _, _, nN, n0, nIO⟩ := s.own i nw xs h
  rw [ha] at hb
  cases hb
  have self0 : (env.set i (some (.brw true xs)))[i]? = some (some (.brw true xs)) := List.getElem?_set_self lt
  obtain ⟨e', eσ⟩ := t.fixB i true xs self0
  rw [ha] at eσ
  have lt' := lt_of_get e'
  have oth0 : ∀ j, j ≠ i → (env.set i (some (.brw true xs)))[j]? = env[j]? := fun j h => List.getElem?_set_ne (Ne.symm h)
  have self : (env'.set i (some (.own nw xs)))[i]? = some (some (.own nw xs)) := List.getElem?_set_self lt'
  have oth : ∀ j, j ≠ i → (env'.set i (some (.own nw xs)))[j]? = env'[j]? := fun j h => List.getElem?_set_ne (Ne.symm h)
  have pa : Pm env σ a := ⟨i, ⟨_, h, rfl⟩, ha⟩
  have st : Stab (Pv (adN N2 a) env' σ') H' H' := fun _ _ h _ => h
  have mm : ∀ j, j ≠ i → IsMut (env'.set i (some (.own nw xs))) j → IsMut env' j := fun j hj ⟨sl, k1, k2⟩ => ⟨sl, by rw [← oth j hj]; exact k1, k2⟩
  have hP : ∀ b, Pv N2 (env'.set i (some (.own nw xs))) σ' b → H' b ≠ none → Pv (adN N2 a) env' σ' b := fun b hb _ => by
    rcases hb with hb | ⟨j, hm, e⟩
    · exact .inl (.inl hb)
    · by_cases hj : j = i
      · subst hj
        rw [eσ] at e
        cases e
        exact .inl (.inr rfl)
      · exact .inr ⟨j, mm j hj hm, e⟩
  have key : ∀ j b, j ≠ i → IsMut (env'.set i (some (.own nw xs))) j → σ'[j]? = some (some (.ref b)) → b ≠ a := fun j b hj hm e z => (s2.pmLst ⟨j, mm j hj hm, e⟩).2.1 (.inr z)
  constructor
  · refine ⟨by rw [List.length_set]; exact s2.len, fun j d e => ?_, fun j nw' ys e => ?_, fun j ys e => ?_, fun j tt ys e => ?_, fun j k b hm hk ej ek => ?_, s2.keep, s2.dom, fun b hb => s2.nst b (.inl hb)⟩
    · have hj : j ≠ i := fun z => by subst z; rw [self] at e; cases e
      rw [oth j hj] at e
      obtain ⟨v, e1, r⟩ := s2.val j d e
      exact ⟨v, e1, r.mono st hP⟩
    · by_cases hj : j = i
      · subst hj
        rw [self] at e
        cases e
        obtain ⟨b, vs, e1, e2⟩ := s2.brw j true xs e'
        rw [eσ] at e1
        cases e1
        rcases e2 with ⟨_, z, _⟩ | ⟨_, _, r, e4⟩
        · cases z
        · exact ⟨a, vs, eσ, e4 rfl, r.mono st hP, na, n0, nIO⟩
      · rw [oth j hj] at e
        obtain ⟨b, ws, e1, e2, r, e3, e4⟩ := s2.own j nw' ys e
        exact ⟨b, ws, e1, e2, r.mono st hP, fun z => e3 (.inl z), e4⟩
    · have hj : j ≠ i := fun z => by subst z; rw [self] at e; cases e
      rw [oth j hj] at e
      obtain ⟨b, ws, e1, e2, r, e3, e4⟩ := s2.io j ys e
      exact ⟨b, ws, e1, e2, r.mono st hP, fun z => e3 (.inl z), e4⟩
    · have hj : j ≠ i := fun z => by subst z; rw [self] at e; cases e
      rw [oth j hj] at e
      have e0 := t.noB j tt ys e
      have e1 := (t.fixB j tt ys e0).2
      have e0' := e0
      rw [oth0 j hj] at e0'
      obtain ⟨b, ws, k1, k2⟩ := s.brw j tt ys e0'
      obtain ⟨b', ws', k1', k2'⟩ := s2.brw j tt ys e
      rw [e1, k1] at k1'
      cases k1'
      rcases k2 with k2 | ⟨_, k3, _⟩
      · exact ⟨b, ws, e1.trans k1, .inl k2⟩
      · rcases k2' with k2' | ⟨k4, _, r, k5⟩
        · exact ⟨b, ws', e1.trans k1, .inl k2'⟩
        · exact ⟨b, ws', e1.trans k1, .inr ⟨k4, hN _ k3, r.mono st hP, k5⟩⟩
    · by_cases hj : j = i
      · by_cases hk' : k = i
        · rw [hj, hk']
        · subst hj
          rw [eσ] at ej
          cases ej
          exact absurd rfl (key k _ hk' hk ek)
      · by_cases hk' : k = i
        · subst hk'
          rw [eσ] at ek
          cases ek
          exact absurd rfl (key j _ hj hm ej)
        · exact s2.inj j k b (mm j hj hm) (mm k hk' hk) ej ek
  · have pl : ∀ b, Pm (env.set i (some (.brw true xs))) σ b → Pm env σ b := fun b ⟨j, ⟨sl, k1, k2⟩, k3⟩ => by
      by_cases hj : j = i
      · subst hj
        rw [self0] at k1
        cases k1
        cases k2
      · rw [oth0 j hj] at k1
        exact ⟨j, ⟨sl, k1, k2⟩, k3⟩
    refine ⟨fun b o hb ha hn => t.ext b o hb ha fun z => hn (pl b z), fun b ⟨j, hm, e⟩ => ?_, t.dom, fun j tt ys e => ?_, fun j ys e => ?_, fun j tt ys e => ?_⟩
    · by_cases hj : j = i
      · subst hj
        rw [eσ] at e
        cases e
        exact .inl pa
      · rcases t.grow b ⟨j, mm j hj hm, e⟩ with z | z
        · exact .inl (pl b z)
        · exact .inr z
    · have hj : j ≠ i := fun z => by subst z; rw [h] at e; cases e
      have := t.fixB j tt ys (by rw [oth0 j hj]; exact e)
      rw [oth j hj]
      exact this
    · have hj : j ≠ i := fun z => by subst z; rw [h] at e; cases e
      have := t.fixI j ys (by rw [oth0 j hj]; exact e)
      rw [oth j hj]
      exact this
    · have hj : j ≠ i := fun z => by subst z; rw [self] at e; cases e
      rw [oth j hj] at e
      have := t.noB j tt ys e
      rw [oth0 j hj] at this
      exact this
end
end RX
/-! RX part i: what a call promises; the caller's side. -/
namespace RX
open PySem L2

section
variable {K : PySem.W.Frag} {H0 H1 H : Hp} {P P' : Addr → Prop}
mutual
theorem RV.age : ∀ {d : AV} {v : V}, RV K H0 H P d v → RV K H1 H P (age d) v
  | _, _, .non => .non
  | _, _, .bl b => .bl b
  | _, _, .int i => .int i
  | _, _, .str x => .str x
  | _, _, .ty n => .ty n
  | _, _, .tup h r => .tup h (RVs.ages r)
  | _, _, .lst h n k r => .lst h n (fun z => by cases z) (RVs.ages r)
  | _, _, .fn h => .fn h
  | _, _, .jk h n k l => .jk h n (fun z => by cases z) l
  | _, _, .exo h k => .exo h k
  | _, _, .dcx h => .dcx h
theorem RVs.ages : ∀ {d : List AV} {v : List V}, RVs K H0 H P d v → RVs K H1 H P (ages d) v
  | _, _, .nil => .nil
  | _, _, .cons a r => .cons (RV.age a) (RVs.ages r)
end
mutual
theorem RV.h0 (k : ∀ b, H0 b = none → H1 b = none) : ∀ {d : AV} {v : V}, RV K H0 H P d v → RV K H1 H P d v
  | _, _, .non => .non
  | _, _, .bl b => .bl b
  | _, _, .int i => .int i
  | _, _, .str x => .str x
  | _, _, .ty n => .ty n
  | _, _, .tup h r => .tup h (RVs.h0 k r)
  | _, _, .lst h n q r => .lst h n (fun z => k _ (q z)) (RVs.h0 k r)
  | _, _, .fn h => .fn h
  | _, _, .jk h n q l => .jk h n (fun z => k _ (q z)) l
  | _, _, .exo h q => .exo h q
  | _, _, .dcx h => .dcx h
theorem RVs.h0 (k : ∀ b, H0 b = none → H1 b = none) : ∀ {d : List AV} {v : List V}, RVs K H0 H P d v → RVs K H1 H P d v
  | _, _, .nil => .nil
  | _, _, .cons a r => .cons (RV.h0 k a) (RVs.h0 k r)
end
end

/-! ### what holds behind a call -/
structure Back (K : PySem.W.Frag) (H : Hp) (N IO : Addr → Prop) (ss : List Slot) (vs : List V) (ios : List (Option (List AV))) (H' : Hp) (P : Addr → Prop) : Prop where
  keep : ∀ b o, H b = some o → ¬ IO b → H' b = some o
  dom : ∀ b, H b ≠ none → H' b ≠ none
  pN : ∀ b, N b → P b
  pI : ∀ (k : Nat) (xs : List AV) (b : Addr), ss[k]? = some (.io xs) → vs[k]? = some (.ref b) → P b
  io1 : ∀ (k : Nat) (ys : List AV), ios[k]? = some (some ys) → ∃ a ws xs, vs[k]? = some (.ref a) ∧ ss[k]? = some (.io xs) ∧ H' a = some (.lst ws) ∧ RVs K H H' P ys ws
  io2 : ∀ (k : Nat) (xs : List AV), ss[k]? = some (.io xs) → ∃ ys, ios[k]? = some (some ys)
def RetV (K : PySem.W.Frag) (H : Hp) (N IO : Addr → Prop) (ss : List Slot) (vs : List V) (H' : Hp) (P : Addr → Prop) (d : AV) (v : V) : Prop := match d with
  | .frs xs => ∃ a ws, v = .ref a ∧ H' a = some (.lst ws) ∧ (H a = none ∨ IO a) ∧ ¬ N a ∧ P a ∧ (∀ (k : Nat) (ys : List AV), ss[k]? = some (.io ys) → vs[k]? ≠ some (.ref a)) ∧ RVs K H H' P xs ws
  | .sl _ => False
  | d => RV K H H' P d v
/-- what a def promises, from the evaluator's word for it -/
def spD (K : PySem.W.Frag) (cl : Str → Value) (G : Calls) (f : Str) (n : Nat) : Sp := fun vs H Q E => ∃ (ss : List Slot) (N IO : Addr → Prop), vs.length = n ∧ ss.length = n ∧ SR ⟨K, H, IO⟩ N (ss.map some) (vs.map some) H ∧ (∀ b, IO b → Pm (ss.map some) (vs.map some) b) ∧
  match G f ss with
  | none => False
  | some (.ok d ios) => ∀ H' v P, Back K H N IO ss vs ios H' P → RetV K H N IO ss vs H' P d v → Q v H'
  | some (.exc c ios) => ∀ H' (dd : Unit) P, Back K H N IO ss vs ios H' P → E (cl c) none H'

section
variable {g : Gh} {F N : Addr → Prop} {env : En} {σ : L2.St} {H : Hp}
/-! ### all that is at hand, flat -/
def lastN : (Addr → Prop) → List AV → List V → Addr → Prop
  | N, d :: ds, v :: vs => lastN (nxN N d v) ds vs
  | N, _, _ => N
theorem lastN_iff : ∀ {N : Addr → Prop} {ds : List AV} {vs : List V} {b : Addr}, ds.length = vs.length → (lastN N ds vs b ↔ N b ∨ tmp ds vs b)
  | _, [], [], b, _ => ⟨.inl, fun h => h.elim id False.elim⟩
  | N, d :: ds, v :: vs, b, h => by
    have ih := lastN_iff (N := nxN N d v) (ds := ds) (vs := vs) (b := b) (by simpa using h)
    show lastN (nxN N d v) ds vs b ↔ _
    rw [ih]
    cases d with
    | frs xs =>
      cases v with
      | ref a =>
        show (adN N a b ∨ _) ↔ N b ∨ (b = a ∨ tmp ds vs b)
        constructor
        · rintro ((h | h) | h)
          · exact .inl h
          · exact .inr (.inl h)
          · exact .inr (.inr h)
        · rintro (h | h | h)
          · exact .inl (.inl h)
          · exact .inl (.inr h)
          · exact .inr h
      | _ => exact Iff.rfl
    | _ => cases v <;> exact Iff.rfl
  | _, [], _ :: _, _, h => by simp at h
  | _, _ :: _, [], _, h => by simp at h
theorem Posts.last : ∀ {N : Addr → Prop} {ds : List AV} {vs : List V}, Posts g F env σ H N ds vs → SR g (lastN N ds vs) env σ H
  | _, [], [], h => h
  | N, d :: ds, v :: vs, h => show SR g (lastN (nxN N d v) ds vs) env σ H from Posts.last h.2
  | _, [], _ :: _, h => h.elim
  | _, _ :: _, [], h => h.elim
def Flat (g : Gh) (F N M : Addr → Prop) (env : En) (σ : L2.St) (H : Hp) (d : AV) (v : V) : Prop := match d with
  | .frs xs => ∃ a ws, v = .ref a ∧ H a = some (.lst ws) ∧ g.H0 a = none ∧ ¬ N a ∧ RVs g.K g.H0 H (Pv M env σ) xs ws ∧ F a ∧ M a
  | .sl i => σ[i]? = some (some v)
  | d => RV g.K g.H0 H (Pv M env σ) d v
theorem Flat.mono {M M' N' : Addr → Prop} {d : AV} {v : V} (h : Flat g F N M env σ H d v) (k : ∀ b, M' b ↔ M b) (kN : ∀ b, N' b → N b) : Flat g F N' M' env σ H d v := by
  have up : ∀ b, Pv M' env σ b → H b ≠ none → Pv M env σ b := fun b q _ => q.imp (k b).mp id
  have st : Stab (Pv M env σ) H H := fun _ _ h _ => h
  cases d with
  | frs xs =>
    obtain ⟨a, ws, h1, h2, h3, h4, h5, h6, h7⟩ := h
    exact ⟨a, ws, h1, h2, h3, fun z => h4 (kN _ z), h5.mono st up, h6, (k a).mpr h7⟩
  | sl i => exact h
  | tup xs => exact RV.mono st up h
  | lst nw xs => exact RV.mono st up h
  | non => exact RV.mono st up h
  | bl b => exact RV.mono st up h
  | int i => exact RV.mono st up h
  | str x => exact RV.mono st up h
  | fn x => exact RV.mono st up h
  | jk q1 q2 => exact RV.mono st up h
  | exo q1 => exact RV.mono st up h
  | dcx => exact RV.mono st up h
  | ty x => exact RV.mono st up h
theorem Posts.flat : ∀ {N : Addr → Prop} {ds : List AV} {vs : List V}, Posts g F env σ H N ds vs → ∀ (k : Nat) (d : AV), ds[k]? = some d → ∃ v, vs[k]? = some v ∧ Flat g F N (lastN N ds vs) env σ H d v
  | _, [], [], _, k, d, h => by simp at h
  | N, d :: ds, v :: vs, h, 0, d', e => by
    simp at e
    subst e
    refine ⟨v, rfl, ?_⟩
    have hl := h.length
    have h1 := h.1
    have it : ∀ b, lastN N (d :: ds) (v :: vs) b ↔ N b ∨ tmp (d :: ds) (v :: vs) b := fun b => lastN_iff hl
    have st : Stab (Pv (orN N (tmp ds vs)) env σ) H H := fun _ _ h _ => h
    have key : (∀ b, tmp (d :: ds) (v :: vs) b → tmp ds vs b) → ∀ b, Pv (lastN N (d :: ds) (v :: vs)) env σ b → H b ≠ none → Pv (orN N (tmp ds vs)) env σ b := fun k b q _ => by
      rcases q with q | q
      · exact .inl (((it b).mp q).imp id (k b))
      · exact .inr q
    cases d with
    | frs xs =>
      obtain ⟨h1, a, ws, rfl, h3, h4, h5, h6, h7⟩ := h1
      refine ⟨a, ws, rfl, h3, h4, h5, h6.mono (fun _ _ h _ => h) fun b q _ => ?_, h7, (it a).mpr (.inr (.inl rfl))⟩
      rcases q with q | q
      · rcases (it b).mp q with z | z | z
        · exact .inl (.inl (.inl z))
        · exact .inl (.inl (.inr z))
        · exact .inl (.inr z)
      · exact .inr q
    | sl i => exact h1
    | tup xs => exact RV.mono st (key fun b z => z) h1
    | lst nw xs => exact RV.mono st (key fun b z => z) h1
    | non => exact RV.mono st (key fun b z => z) h1
    | bl c => exact RV.mono st (key fun b z => z) h1
    | int i => exact RV.mono st (key fun b z => z) h1
    | str x => exact RV.mono st (key fun b z => z) h1
    | fn x => exact RV.mono st (key fun b z => z) h1
    | jk q1 q2 => exact RV.mono st (key fun b z => z) h1
    | exo q1 => exact RV.mono st (key fun b z => z) h1
    | dcx => exact RV.mono st (key fun b z => z) h1
    | ty x => exact RV.mono st (key fun b z => z) h1
  | N, d :: ds, v :: vs, h, k + 1, d', e => by
    obtain ⟨w, e1, f⟩ := Posts.flat h.2 k d' (by simpa using e)
    exact ⟨w, by simpa using e1, f.mono (fun b => Iff.rfl) fun b z => nxN_sub z⟩
  | _, [], _ :: _, h, _, _, _ => h.elim
  | _, _ :: _, [], h, _, _, _ => h.elim
/-- lists just made lie apart -/
theorem Posts.apart : ∀ {N : Addr → Prop} {ds : List AV} {vs : List V}, Posts g F env σ H N ds vs → ∀ (k l : Nat) (xs ys : List AV) (a : Addr), ds[k]? = some (.frs xs) → ds[l]? = some (.frs ys) → vs[k]? = some (.ref a) → vs[l]? = some (.ref a) → k = l
  | _, [], [], _, k, l, xs, ys, a, h, _, _, _ => by simp at h
  | N, d :: ds, v :: vs, h, k, l, xs, ys, a, h1, h2, h3, h4 => by
    have later : ∀ (k : Nat) (zs ys : List AV), ds[k]? = some (.frs ys) → vs[k]? = some (.ref a) → d = .frs zs → v = .ref a → False := fun k zs ys e1 e2 e3 e4 => by
      subst e3 e4
      obtain ⟨w, e5, f⟩ := Posts.flat h.2 k _ e1
      rw [e2] at e5
      cases e5
      obtain ⟨b, ws, e6, _, _, n, _⟩ := f
      cases e6
      exact n (.inr rfl)
    cases k with
    | zero =>
      cases l with
      | zero => rfl
      | succ l =>
        simp at h1 h3
        exact (later l _ _ (by simpa using h2) (by simpa using h4) h1 h3).elim
    | succ k =>
      cases l with
      | zero =>
        simp at h2 h4
        exact (later k _ _ (by simpa using h1) (by simpa using h3) h2 h4).elim
      | succ l => rw [Posts.apart h.2 k l xs ys a (by simpa using h1) (by simpa using h2) (by simpa using h3) (by simpa using h4)]
  | _, [], _ :: _, h, _, _, _, _, _, _, _, _, _ => h.elim
  | _, _ :: _, [], h, _, _, _, _, _, _, _, _, _ => h.elim
theorem tmp_ix : ∀ {ds : List AV} {vs : List V} {b : Addr}, tmp ds vs b → ∃ (k : Nat) (xs : List AV), ds[k]? = some (.frs xs) ∧ vs[k]? = some (.ref b)
  | [], _, _, h => by cases h
  | d :: ds, [], _, h => by cases d <;> cases h
  | d :: ds, v :: vs, b, h => by
    have up : tmp ds vs b → ∃ (k : Nat) (xs : List AV), (d :: ds)[k]? = some (.frs xs) ∧ (v :: vs)[k]? = some (.ref b) := fun h => by
      obtain ⟨k, xs, h1, h2⟩ := tmp_ix h
      exact ⟨k + 1, xs, by simpa using h1, by simpa using h2⟩
    cases d with
    | frs xs =>
      cases v with
      | ref a =>
        have h : b = a ∨ tmp ds vs b := h
        rcases h with h | h
        · exact ⟨0, xs, rfl, by rw [h]; rfl⟩
        · exact up h
      | _ => exact up h
    | _ => cases v <;> exact up h
theorem argSlots_ix : ∀ {ms : List Bool} {ds : List AV} {ss : List Slot}, argSlots env ms ds = some ss → ss.length = ds.length ∧ ∀ (k : Nat) (s : Slot), ss[k]? = some s → ∃ m d, ms[k]? = some m ∧ ds[k]? = some d ∧ argSlot env m d = some s
  | [], [], ss, h => by
    cases h
    exact ⟨rfl, fun k s h => by simp at h⟩
  | m :: ms, d :: ds, ss, h => by
    unfold argSlots at h
    split at h
    · rename_i s ss' e1 e2
      cases h
      obtain ⟨h1, h2⟩ := argSlots_ix e2
      refine ⟨by simp [h1], fun k s' e => ?_⟩
      cases k with
      | zero =>
        simp at e
        subst e
        exact ⟨m, d, rfl, rfl, e1⟩
      | succ k =>
        obtain ⟨m', d', a, b, c⟩ := h2 k s' (by simpa using e)
        exact ⟨m', d', by simpa using a, by simpa using b, c⟩
    · cases h
  | [], _ :: _, _, h => by cases h
  | _ :: _, [], _, h => by cases h
theorem ioIx_mem : ∀ {ms : List Bool} {ds : List AV} {i : Nat}, i ∈ ioIx ms ds → ∃ k : Nat, ms[k]? = some true ∧ ds[k]? = some (AV.sl i)
  | [], _, i, h => by unfold ioIx at h; cases h
  | true :: ms, [], i, h => by unfold ioIx at h; cases h
  | false :: ms, [], i, h => by unfold ioIx at h; cases h
  | m :: ms, d :: ds, i, h => by
    have up : i ∈ ioIx ms ds → ∃ k : Nat, (m :: ms)[k]? = some true ∧ (d :: ds)[k]? = some (AV.sl i) := fun h => by
      obtain ⟨k, a, b⟩ := ioIx_mem h
      exact ⟨k + 1, by simpa using a, by simpa using b⟩
    cases m with
    | false => exact up (by cases d <;> exact h)
    | true =>
      cases d with
      | sl j =>
        have h : i ∈ j :: ioIx ms ds := h
        rcases List.mem_cons.mp h with rfl | h
        · exact ⟨0, rfl, rfl⟩
        · exact up h
      | _ => exact up h
theorem mem_ioIx : ∀ {ms : List Bool} {ds : List AV} {i k : Nat}, ms[k]? = some true → ds[k]? = some (.sl i) → i ∈ ioIx ms ds
  | [], _, i, k, h, _ => by simp at h
  | _ :: _, [], i, k, _, h => by simp at h
  | m :: ms, d :: ds, i, 0, h, h2 => by
    simp at h h2
    subst h h2
    exact List.mem_cons_self
  | m :: ms, d :: ds, i, k + 1, h, h2 => by
    have ih := mem_ioIx (ms := ms) (ds := ds) (i := i) (k := k) (by simpa using h) (by simpa using h2)
    cases m with
    | false => cases d <;> exact ih
    | true =>
      cases d with
      | sl j => exact List.mem_cons_of_mem _ ih
      | _ => exact ih
theorem mem_brIx : ∀ {ms : List Bool} {ds : List AV} {i k : Nat}, ms[k]? = some false → ds[k]? = some (.sl i) → i ∈ brIx ms ds
  | [], _, i, k, h, _ => by simp at h
  | _ :: _, [], i, k, _, h => by simp at h
  | m :: ms, d :: ds, i, 0, h, h2 => by
    simp at h h2
    subst h h2
    exact List.mem_cons_self
  | m :: ms, d :: ds, i, k + 1, h, h2 => by
    have ih := mem_brIx (ms := ms) (ds := ds) (i := i) (k := k) (by simpa using h) (by simpa using h2)
    cases m with
    | true => cases d <;> exact ih
    | false =>
      cases d with
      | sl j => exact List.mem_cons_of_mem _ ih
      | _ => exact ih
theorem ioIx_inj : ∀ {ms : List Bool} {ds : List AV}, (ioIx ms ds).Nodup → ∀ (i k l : Nat), ms[k]? = some true → ds[k]? = some (.sl i) → ms[l]? = some true → ds[l]? = some (.sl i) → k = l
  | [], _, _, i, k, l, h, _, _, _ => by simp at h
  | _ :: _, [], _, i, k, l, _, h, _, _ => by simp at h
  | m :: ms, d :: ds, hn, i, k, l, h1, h2, h3, h4 => by
    have tail : (ioIx ms ds).Nodup := by
      cases m with
      | false => cases d <;> exact hn
      | true =>
        cases d with
        | sl j => exact (List.nodup_cons.mp hn).2
        | _ => exact hn
    have later : ∀ k : Nat, ms[k]? = some true → ds[k]? = some (.sl i) → m = true → d = .sl i → False := fun k e1 e2 e3 e4 => by
      subst e3 e4
      exact (List.nodup_cons.mp hn).1 (mem_ioIx e1 e2)
    cases k with
    | zero =>
      cases l with
      | zero => rfl
      | succ l =>
        simp at h1 h2
        exact (later l (by simpa using h3) (by simpa using h4) h1 h2).elim
    | succ k =>
      cases l with
      | zero =>
        simp at h3 h4
        exact (later k (by simpa using h1) (by simpa using h2) h3 h4).elim
      | succ l => rw [ioIx_inj tail i k l (by simpa using h1) (by simpa using h2) (by simpa using h3) (by simpa using h4)]
theorem putIo_other {i j : Nat} {ys : List AV} (h : j ≠ i) : (putIo env i ys)[j]? = env[j]? := by
  unfold putIo
  split
  · exact List.getElem?_set_ne (Ne.symm h)
  · exact List.getElem?_set_ne (Ne.symm h)
  · rfl
/-- a slot behind the call -/
def Put (env env' : En) (j : Nat) (ys : List AV) : Prop := (∃ nw xs, env[j]? = some (some (.own nw xs)) ∧ env'[j]? = some (some (.own nw ys))) ∨ (∃ xs, env[j]? = some (some (.io xs)) ∧ env'[j]? = some (some (.io ys))) ∨ ((∀ nw xs, env[j]? ≠ some (some (.own nw xs))) ∧ (∀ xs, env[j]? ≠ some (some (.io xs))) ∧ env'[j]? = env[j]?)
theorem putIo_self (env : En) (i : Nat) (ys : List AV) : Put env (putIo env i ys) i ys := by
  unfold putIo
  split
  · rename_i nw xs e
    exact .inl ⟨nw, xs, e, List.getElem?_set_self (lt_of_get e)⟩
  · rename_i xs e
    exact .inr (.inl ⟨xs, e, List.getElem?_set_self (lt_of_get e)⟩)
  · rename_i n1 n2
    exact .inr (.inr ⟨fun nw xs z => n1 nw xs z, fun xs z => n2 xs z, rfl⟩)
theorem Put.trans {e1 e2 e3 : En} {j : Nat} {ys zs : List AV} (a : Put e1 e2 j ys) (b : Put e2 e3 j zs) : Put e1 e3 j zs := by
  rcases a with ⟨nw, xs, h1, h2⟩ | ⟨xs, h1, h2⟩ | ⟨h1, h2, h3⟩
  · rcases b with ⟨nw', xs', k1, k2⟩ | ⟨xs', k1, k2⟩ | ⟨k1, k2, k3⟩
    · rw [h2] at k1
      cases k1
      exact .inl ⟨nw, xs, h1, k2⟩
    · rw [h2] at k1; cases k1
    · exact absurd h2 (k1 _ _)
  · rcases b with ⟨nw', xs', k1, k2⟩ | ⟨xs', k1, k2⟩ | ⟨k1, k2, k3⟩
    · rw [h2] at k1; cases k1
    · exact .inr (.inl ⟨xs, h1, k2⟩)
    · exact absurd h2 (k2 _)
  · rcases b with ⟨nw', xs', k1, k2⟩ | ⟨xs', k1, k2⟩ | ⟨k1, k2, k3⟩
    · rw [h3] at k1; exact absurd k1 (h1 _ _)
    · rw [h3] at k1; exact absurd k1 (h2 _)
    · exact .inr (.inr ⟨h1, h2, k3.trans h3⟩)
theorem putIos_ix : ∀ {ds : List AV} {ios : List (Option (List AV))} {env : En} (j : Nat), ((putIos env ds ios)[j]? = env[j]? ∧ ∀ (k : Nat) (ys : List AV), ds[k]? = some (.sl j) → ios[k]? ≠ some (some ys)) ∨ ∃ (k : Nat) (ys : List AV), ds[k]? = some (.sl j) ∧ ios[k]? = some (some ys) ∧ Put env (putIos env ds ios) j ys
  | [], _, env, j => .inl ⟨by unfold putIos; rfl, fun k ys h => by simp at h⟩
  | d :: ds, [], env, j => .inl ⟨by cases d <;> (unfold putIos; rfl), fun k ys _ h => by simp at h⟩
  | d :: ds, y :: ios, env, j => by
    have plain : (∀ i ys, d = .sl i → y ≠ some ys) → putIos env (d :: ds) (y :: ios) = putIos env ds ios := fun h => by
      cases d with
      | sl i =>
        cases y with
        | none => rfl
        | some ys => exact absurd rfl (h i ys rfl)
      | _ => rfl
    have up : (∀ i ys, d = .sl i → y ≠ some ys) → ((putIos env (d :: ds) (y :: ios))[j]? = env[j]? ∧ ∀ (k : Nat) (ys : List AV), (d :: ds)[k]? = some (.sl j) → (y :: ios)[k]? ≠ some (some ys)) ∨ ∃ (k : Nat) (ys : List AV), (d :: ds)[k]? = some (.sl j) ∧ (y :: ios)[k]? = some (some ys) ∧ Put env (putIos env (d :: ds) (y :: ios)) j ys := fun h => by
      rw [plain h]
      rcases putIos_ix (ds := ds) (ios := ios) (env := env) j with ⟨h1, h2⟩ | ⟨k, ys, h1, h2, h3⟩
      · refine .inl ⟨h1, fun k ys e1 e2 => ?_⟩
        cases k with
        | zero =>
          simp at e1 e2
          exact h _ _ e1 e2
        | succ k => exact h2 k ys (by simpa using e1) (by simpa using e2)
      · exact .inr ⟨k + 1, ys, by simpa using h1, by simpa using h2, h3⟩
    cases d with
    | sl i =>
      cases y with
      | none => exact up fun _ _ _ z => by cases z
      | some ys =>
        have e : putIos env (.sl i :: ds) (some ys :: ios) = putIos (putIo env i ys) ds ios := rfl
        rw [e]
        rcases putIos_ix (ds := ds) (ios := ios) (env := putIo env i ys) j with ⟨h1, h2⟩ | ⟨k, zs, h1, h2, h3⟩
        · by_cases hj : j = i
          · subst hj
            refine .inr ⟨0, ys, rfl, rfl, ?_⟩
            rcases putIo_self env j ys with ⟨nw, xs, k1, k2⟩ | ⟨xs, k1, k2⟩ | ⟨k1, k2, k3⟩
            · exact .inl ⟨nw, xs, k1, h1.trans k2⟩
            · exact .inr (.inl ⟨xs, k1, h1.trans k2⟩)
            · exact .inr (.inr ⟨k1, k2, h1.trans k3⟩)
          · refine .inl ⟨h1.trans (putIo_other hj), fun k zs e1 e2 => ?_⟩
            cases k with
            | zero =>
              simp at e1
              exact hj e1.symm
            | succ k => exact h2 k zs (by simpa using e1) (by simpa using e2)
        · refine .inr ⟨k + 1, zs, by simpa using h1, by simpa using h2, ?_⟩
          by_cases hj : j = i
          · subst hj
            exact (putIo_self env j ys).trans h3
          · rcases h3 with ⟨nw, xs, k1, k2⟩ | ⟨xs, k1, k2⟩ | ⟨k1, k2, k3⟩
            · rw [putIo_other hj] at k1
              exact .inl ⟨nw, xs, k1, k2⟩
            · rw [putIo_other hj] at k1
              exact .inr (.inl ⟨xs, k1, k2⟩)
            · refine .inr (.inr ⟨fun nw xs z => k1 nw xs (by rw [putIo_other hj]; exact z), fun xs z => k2 xs (by rw [putIo_other hj]; exact z), by rw [k3, putIo_other hj]⟩)
    | non => exact up fun _ _ z => by cases z
    | bl b => exact up fun _ _ z => by cases z
    | int i => exact up fun _ _ z => by cases z
    | str x => exact up fun _ _ z => by cases z
    | tup xs => exact up fun _ _ z => by cases z
    | lst nw xs => exact up fun _ _ z => by cases z
    | frs xs => exact up fun _ _ z => by cases z
    | fn x => exact up fun _ _ z => by cases z
    | jk q1 q2 => exact up fun _ _ z => by cases z
    | exo q1 => exact up fun _ _ z => by cases z
    | dcx => exact up fun _ _ z => by cases z
    | ty x => exact up fun _ _ z => by cases z
end
end RX
/-! RX part j: a call, from the caller. -/
namespace RX
open PySem L2

section
variable {g : Gh} {F N : Addr → Prop} {env env0 : En} {σ : L2.St} {H Hs : Hp} {ms : List Bool} {ds : List AV} {vs : List V} {ss : List Slot}
/-- what the called def may change: the lists handed in and out, the lists handed over -/
def IOc (σ : L2.St) (ms : List Bool) (ds : List AV) (vs : List V) (b : Addr) : Prop := (∃ (k i : Nat), ms[k]? = some true ∧ ds[k]? = some (.sl i) ∧ σ[i]? = some (some (.ref b))) ∨ tmp ds vs b
def Nc (N : Addr → Prop) (env : En) (σ : L2.St) (ms : List Bool) (ds : List AV) (vs : List V) (b : Addr) : Prop := (N b ∨ Pm env σ b) ∧ ¬ IOc σ ms ds vs b
theorem tmp_last (hl : ds.length = vs.length) {b : Addr} (h : tmp ds vs b) : lastN N ds vs b := (lastN_iff hl).mpr (.inr h)
/-- which slot a called def has for an argument -/
theorem argSlot_io {m : Bool} {d : AV} {xs : List AV} (h : argSlot env m d = some (.io xs)) : m = true ∧ ∃ i, d = .sl i ∧ ((∃ nw ys, env[i]? = some (some (.own nw ys)) ∧ xs = ages ys) ∨ ∃ ys, env[i]? = some (some (.io ys)) ∧ xs = ages ys) := by
  unfold argSlot at h
  split at h
  · split at h
    · rename_i nw ys e
      cases h
      exact ⟨rfl, _, rfl, .inl ⟨nw, ys, e, rfl⟩⟩
    · rename_i ys e
      cases h
      exact ⟨rfl, _, rfl, .inr ⟨ys, e, rfl⟩⟩
    · cases h
  · cases h
  · split at h <;> cases h
  · cases h
  · cases h
theorem argSlot_brw {m t : Bool} {d : AV} {xs : List AV} (h : argSlot env m d = some (.brw t xs)) : m = false ∧ ∃ i, d = .sl i ∧ ((t = true ∧ ∃ nw ys, env[i]? = some (some (.own nw ys)) ∧ xs = ages ys) ∨ (t = true ∧ ∃ ys, env[i]? = some (some (.io ys)) ∧ xs = ages ys) ∨ ∃ ys, env[i]? = some (some (.brw t ys)) ∧ xs = ages ys) := by
  unfold argSlot at h
  split at h
  · split at h <;> cases h
  · cases h
  · split at h
    · rename_i nw ys e
      cases h
      exact ⟨rfl, _, rfl, .inl ⟨rfl, nw, ys, e, rfl⟩⟩
    · rename_i ys e
      cases h
      exact ⟨rfl, _, rfl, .inr (.inl ⟨rfl, ys, e, rfl⟩)⟩
    · rename_i t' ys e
      cases h
      exact ⟨rfl, _, rfl, .inr (.inr ⟨ys, e, rfl⟩)⟩
    · cases h
  · cases h
  · cases h
theorem argSlot_own {m nw : Bool} {d : AV} {xs : List AV} (h : argSlot env m d = some (.own nw xs)) : m = false ∧ nw = false ∧ ∃ ys, d = .frs ys ∧ xs = ages ys := by
  unfold argSlot at h
  split at h
  · split at h <;> cases h
  · cases h
  · split at h <;> cases h
  · cases h
    exact ⟨rfl, rfl, _, rfl, rfl⟩
  · cases h
theorem argSlot_val {m : Bool} {d e : AV} (h : argSlot env m d = some (.val e)) : m = false ∧ e = age d ∧ (∀ xs, d ≠ .frs xs) ∧ ∀ i, d ≠ .sl i := by
  unfold argSlot at h
  split at h
  · split at h <;> cases h
  · cases h
  · split at h <;> cases h
  · cases h
  · rename_i n1 n2
    cases h
    exact ⟨rfl, rfl, fun xs z => n2 xs z, fun i z => n1 i z⟩
theorem mapSome_get {α : Type} {l : List α} {k : Nat} {x : Option α} : (l.map some)[k]? = some x ↔ ∃ y, l[k]? = some y ∧ x = some y := by
  rw [List.getElem?_map]
  cases l[k]? with
  | none => simp
  | some y => simp [eq_comm]
theorem flat_rv {M : Addr → Prop} {d : AV} {v : V} (h : Flat g F N M env σ H d v) (h1 : ∀ xs, d ≠ .frs xs) (h2 : ∀ i, d ≠ .sl i) : RV g.K g.H0 H (Pv M env σ) d v := by
  cases d with
  | frs xs => exact absurd rfl (h1 xs)
  | sl i => exact absurd rfl (h2 i)
  | _ => exact h
theorem call_in (p : Posts g F env σ H N ds vs) (ok : argsOk ms ds = true) (e : argSlots env ms ds = some ss) : SR ⟨g.K, H, IOc σ ms ds vs⟩ (Nc N env σ ms ds vs) (ss.map some) (vs.map some) H ∧ ss.length = vs.length ∧ ∀ b, IOc σ ms ds vs b → Pm (ss.map some) (vs.map some) b := by
  have hl := p.length
  have sM := p.last
  have s := p.sr
  obtain ⟨len, ix⟩ := argSlots_ix e
  unfold argsOk at ok
  simp only [Bool.and_eq_true, decide_eq_true_eq, List.all_eq_true, Bool.not_eq_true', List.contains_eq_mem, decide_eq_false_iff_not] at ok
  obtain ⟨nd, dis⟩ := ok
  have at_ : ∀ (k : Nat) (d : AV), ds[k]? = some d → ∃ v, vs[k]? = some v ∧ Flat g F N (lastN N ds vs) env σ H d v := p.flat
  have len2 : ss.length = vs.length := len.trans hl
  -- positions of what may change
  have mutk : ∀ (k : Nat) (b : Addr), IsMut (ss.map some) k → (vs.map some)[k]? = some (some (.ref b)) → (∃ i, ms[k]? = some true ∧ ds[k]? = some (.sl i) ∧ IsMut env i ∧ σ[i]? = some (some (.ref b))) ∨ ∃ ys, ds[k]? = some (.frs ys) ∧ vs[k]? = some (.ref b) ∧ tmp ds vs b ∧ lastN N ds vs b := fun k b ⟨sl, h1, h2⟩ h3 => by
    obtain ⟨sl', e1, e2⟩ := mapSome_get.mp h1
    cases e2
    obtain ⟨u, e3, e4⟩ := mapSome_get.mp h3
    cases e4
    obtain ⟨m, d, em, ed, ea⟩ := ix k sl e1
    obtain ⟨v, ev, fl⟩ := at_ k d ed
    rw [e3] at ev
    cases ev
    cases sl with
    | val d => cases h2
    | brw t xs => cases h2
    | io xs =>
      obtain ⟨rfl, i, rfl, q⟩ := argSlot_io ea
      refine .inl ⟨i, em, ed, ?_, fl⟩
      rcases q with ⟨nw, ys, q, _⟩ | ⟨ys, q, _⟩
      · exact ⟨_, q, rfl⟩
      · exact ⟨_, q, rfl⟩
    | own nw xs =>
      obtain ⟨rfl, _, ys, rfl, _⟩ := argSlot_own ea
      obtain ⟨a, ws, e5, _, _, nN, _, _, hM⟩ := fl
      cases e5
      have ht : tmp ds vs b := ((lastN_iff hl).mp hM).elim (fun z => absurd z nN) id
      exact .inr ⟨ys, ed, e3, ht, hM⟩
  have subP : ∀ b, Pv (Nc N env σ ms ds vs) (ss.map some) (vs.map some) b → H b ≠ none → Pv (lastN N ds vs) env σ b := fun b hb _ => by
    rcases hb with ⟨hb | hb, _⟩ | ⟨k, hm, e⟩
    · exact .inl ((lastN_iff hl).mpr (.inl hb))
    · exact .inr hb
    · rcases mutk k b hm e with ⟨i, _, _, q1, q2⟩ | ⟨_, _, _, _, q⟩
      · exact .inr ⟨i, q1, q2⟩
      · exact .inl q
  have st : Stab (Pv (lastN N ds vs) env σ) H H := fun _ _ h _ => h
  have age_ : ∀ {xs : List AV} {ws : List V}, RVs g.K g.H0 H (Pv (lastN N ds vs) env σ) xs ws → RVs g.K H H (Pv (Nc N env σ ms ds vs) (ss.map some) (vs.map some)) (ages xs) ws := fun r => (r.mono st subP).ages
  have notT : ∀ b, Pm env σ b → ¬ tmp ds vs b := fun b hb ht => (sM.pmLst hb).2.1 (tmp_last hl ht)
  refine ⟨⟨by rw [List.length_map, List.length_map, len2], fun k d h => ?_, fun k nw xs h => ?_, fun k xs h => ?_, fun k t xs h => ?_, fun k l b hk hl' ek el => ?_, fun b o h _ => h, fun b h => h, fun b hb => ?_⟩, len2, fun b hb => ?_⟩
  · obtain ⟨sl, e1, e2⟩ := mapSome_get.mp h
    cases e2
    obtain ⟨m, d', em, ed, ea⟩ := ix k _ e1
    obtain ⟨rfl, rfl, n1, n2⟩ := argSlot_val ea
    obtain ⟨v, ev, fl⟩ := at_ k d' ed
    exact ⟨v, mapSome_get.mpr ⟨v, ev, rfl⟩, ((flat_rv fl n1 n2).mono st subP).age⟩
  · obtain ⟨sl, e1, e2⟩ := mapSome_get.mp h
    cases e2
    obtain ⟨m, d', em, ed, ea⟩ := ix k _ e1
    obtain ⟨rfl, rfl, ys, rfl, rfl⟩ := argSlot_own ea
    obtain ⟨v, ev, a, ws, rfl, h2, h3, h4, h5, h6, h7⟩ := at_ k _ ed
    have ht : tmp ds vs a := ((lastN_iff hl).mp h7).elim (fun z => absurd z h4) id
    exact ⟨a, ws, mapSome_get.mpr ⟨_, ev, rfl⟩, h2, age_ h5, (fun z => z.2 (.inr ht)), (fun z => by cases z), .inl (.inr ht)⟩
  · obtain ⟨sl, e1, e2⟩ := mapSome_get.mp h
    cases e2
    obtain ⟨m, d', em, ed, ea⟩ := ix k _ e1
    obtain ⟨rfl, i, rfl, q⟩ := argSlot_io ea
    obtain ⟨v, ev, fl⟩ := at_ k _ ed
    have fl : σ[i]? = some (some v) := fl
    rcases q with ⟨nw, ys, q, rfl⟩ | ⟨ys, q, rfl⟩
    · obtain ⟨a, ws, k1, k2, k3, _⟩ := sM.own i nw ys q
      rw [fl] at k1
      cases k1
      exact ⟨a, ws, mapSome_get.mpr ⟨_, ev, rfl⟩, k2, age_ k3, fun z => z.2 (.inl ⟨k, i, em, ed, fl⟩), .inl ⟨k, i, em, ed, fl⟩⟩
    · obtain ⟨a, ws, k1, k2, k3, _⟩ := sM.io i ys q
      rw [fl] at k1
      cases k1
      exact ⟨a, ws, mapSome_get.mpr ⟨_, ev, rfl⟩, k2, age_ k3, fun z => z.2 (.inl ⟨k, i, em, ed, fl⟩), .inl ⟨k, i, em, ed, fl⟩⟩
  · obtain ⟨sl, e1, e2⟩ := mapSome_get.mp h
    cases e2
    obtain ⟨m, d', em, ed, ea⟩ := ix k _ e1
    obtain ⟨rfl, i, rfl, q⟩ := argSlot_brw ea
    obtain ⟨v, ev, fl⟩ := at_ k _ ed
    have fl : σ[i]? = some (some v) := fl
    have ni : ∀ a, IsMut env i → σ[i]? = some (some (.ref a)) → ¬ IOc σ ms ds vs a := fun a hm ha z => by
      rcases z with ⟨k', j, z1, z2, z3⟩ | z
      · have hj : IsMut env j := by
          obtain ⟨sl', hs', _⟩ : ∃ sl', ss[k']? = some sl' ∧ True := by
            have : k' < ss.length := by rw [len]; exact lt_of_get z2
            exact ⟨ss[k'], List.getElem?_eq_getElem this, trivial⟩
          obtain ⟨m', d'', em', ed', ea'⟩ := ix k' sl' hs'
          rw [z1] at em'
          cases em'
          rw [z2] at ed'
          cases ed'
          unfold argSlot at ea'
          simp only at ea'
          split at ea'
          · rename_i e; exact ⟨_, e, rfl⟩
          · rename_i e; exact ⟨_, e, rfl⟩
          · cases ea'
        have : i = j := s.inj i j a hm hj ha z3
        subst this
        exact dis i (mem_brIx em ed) (mem_ioIx z1 z2)
      · exact notT a ⟨i, hm, ha⟩ z
    rcases q with ⟨rfl, nw, ys, q, rfl⟩ | ⟨rfl, ys, q, rfl⟩ | ⟨ys, q, rfl⟩
    · obtain ⟨a, ws, k1, k2, k3, _⟩ := sM.own i nw ys q
      have k1' := k1
      rw [fl] at k1
      cases k1
      exact ⟨a, ws, mapSome_get.mpr ⟨_, ev, rfl⟩, .inr ⟨.inl k2, ⟨.inr ⟨i, ⟨_, q, rfl⟩, k1'⟩, ni a ⟨_, q, rfl⟩ k1'⟩, age_ k3, fun _ => k2⟩⟩
    · obtain ⟨a, ws, k1, k2, k3, _⟩ := sM.io i ys q
      have k1' := k1
      rw [fl] at k1
      cases k1
      exact ⟨a, ws, mapSome_get.mpr ⟨_, ev, rfl⟩, .inr ⟨.inl k2, ⟨.inr ⟨i, ⟨_, q, rfl⟩, k1'⟩, ni a ⟨_, q, rfl⟩ k1'⟩, age_ k3, fun _ => k2⟩⟩
    · obtain ⟨a, ws, k1, k2⟩ := sM.brw i t ys q
      obtain ⟨a', ws', k1', k2'⟩ := s.brw i t ys q
      rw [k1] at k1'
      cases k1'
      rw [fl] at k1
      cases k1
      rcases k2 with ⟨k2, k3, k4⟩ | ⟨k2, k3, k4, k5⟩
      · exact ⟨a, ws, mapSome_get.mpr ⟨_, ev, rfl⟩, .inl ⟨k2, k3, fun H' P => (k4 H' P).ages⟩⟩
      · rcases k2' with ⟨k2', k3', k4'⟩ | ⟨_, nA, _, _⟩
        · exact ⟨a, ws', mapSome_get.mpr ⟨_, ev, rfl⟩, .inl ⟨k2', k3', fun H' P => (k4' H' P).ages⟩⟩
        · refine ⟨a, ws, mapSome_get.mpr ⟨_, ev, rfl⟩, .inr ⟨k2, ⟨.inl nA, fun z => ?_⟩, age_ k4, k5⟩⟩
          rcases z with ⟨k', j, z1, z2, z3⟩ | z
          · obtain ⟨sl', hs', _⟩ : ∃ sl', ss[k']? = some sl' ∧ True := by
              have : k' < ss.length := by rw [len]; exact lt_of_get z2
              exact ⟨ss[k'], List.getElem?_eq_getElem this, trivial⟩
            obtain ⟨m', d'', em', ed', ea'⟩ := ix k' sl' hs'
            rw [z1] at em'
            cases em'
            rw [z2] at ed'
            cases ed'
            have hj : IsMut env j := by
              unfold argSlot at ea'
              simp only at ea'
              split at ea'
              · rename_i e; exact ⟨_, e, rfl⟩
              · rename_i e; exact ⟨_, e, rfl⟩
              · cases ea'
            exact (s.pmLst ⟨j, hj, z3⟩).2.1 nA
          · obtain ⟨k', ys', y1, y2⟩ := tmp_ix z
            obtain ⟨v', ev', b, ws'', e5, _, _, n, _⟩ := at_ k' _ y1
            rw [y2] at ev'
            cases ev'
            cases e5
            exact n nA
  · rcases mutk k b hk ek with ⟨i, a1, a2, a3, a4⟩ | ⟨ys, a1, a2, a3, a4⟩
    · rcases mutk l b hl' el with ⟨j, b1, b2, b3, b4⟩ | ⟨zs, b1, b2, b3, b4⟩
      · have : i = j := s.inj i j b a3 b3 a4 b4
        subst this
        exact ioIx_inj nd i k l a1 a2 b1 b2
      · exact absurd b4 (sM.pmLst ⟨i, a3, a4⟩).2.1
    · rcases mutk l b hl' el with ⟨j, b1, b2, b3, b4⟩ | ⟨zs, b1, b2, b3, b4⟩
      · exact absurd a4 (sM.pmLst ⟨j, b3, b4⟩).2.1
      · exact p.apart k l ys zs b a1 b1 a2 b2
  · rcases hb with ⟨hb | hb, _⟩
    · exact s.nst b hb
    · obtain ⟨⟨ws, h⟩, _⟩ := s.pmLst hb
      show H b ≠ none
      rw [h]; simp
  · rcases hb with ⟨k, i, z1, z2, z3⟩ | z
    · have : k < ss.length := by rw [len]; exact lt_of_get z2
      obtain ⟨m', d'', em', ed', ea'⟩ := ix k ss[k] (List.getElem?_eq_getElem this)
      rw [z1] at em'
      cases em'
      rw [z2] at ed'
      cases ed'
      obtain ⟨v, ev, fl⟩ := at_ k _ z2
      have fl : σ[i]? = some (some v) := fl
      rw [z3] at fl
      cases fl
      refine ⟨k, ⟨ss[k], mapSome_get.mpr ⟨_, List.getElem?_eq_getElem this, rfl⟩, ?_⟩, mapSome_get.mpr ⟨_, ev, rfl⟩⟩
      unfold argSlot at ea'
      simp only at ea'
      split at ea'
      · injection ea' with q; rw [← q]; rfl
      · injection ea' with q; rw [← q]; rfl
      · cases ea'
    · obtain ⟨k, ys, y1, y2⟩ := tmp_ix z
      have : k < ss.length := by rw [len]; exact lt_of_get y1
      obtain ⟨m', d'', em', ed', ea'⟩ := ix k ss[k] (List.getElem?_eq_getElem this)
      rw [y1] at ed'
      cases ed'
      refine ⟨k, ⟨ss[k], mapSome_get.mpr ⟨_, List.getElem?_eq_getElem this, rfl⟩, ?_⟩, mapSome_get.mpr ⟨_, y2, rfl⟩⟩
      cases m' with
      | true => cases ea'
      | false => injection ea' with q; rw [← q]; rfl

theorem call_out (p : Posts g (Fr env0 σ Hs) env σ H N ds vs) (t : Stp All env0 σ Hs env σ H) (ok : argsOk ms ds = true) (e : argSlots env ms ds = some ss) {ios : List (Option (List AV))} {H' : Hp} {P : Addr → Prop} (B : Back g.K H (Nc N env σ ms ds vs) (IOc σ ms ds vs) ss vs ios H' P) :
    SR g N (putIos env ds ios) σ H' ∧ Stp All env0 σ Hs (putIos env ds ios) σ H' ∧ (∀ b, Pm (putIos env ds ios) σ b ↔ Pm env σ b) ∧ (∀ b, N b ∨ Pm env σ b → P b) ∧
      ∀ a ws, H' a = some (.lst ws) → g.H0 a = none → ¬ N a → P a → (∀ (k : Nat) (ys : List AV), ss[k]? = some (.io ys) → vs[k]? ≠ some (.ref a)) → (H a = none ∨ IOc σ ms ds vs a) → SR g (adN N a) (putIos env ds ios) σ H' := by
  have hl := p.length
  have sM := p.last
  have s := p.sr
  obtain ⟨len, ix⟩ := argSlots_ix e
  have at_ : ∀ (k : Nat) (d : AV), ds[k]? = some d → ∃ v, vs[k]? = some v ∧ Flat g (Fr env0 σ Hs) N (lastN N ds vs) env σ H d v := p.flat
  have ssk : ∀ {k : Nat} {d : AV}, ds[k]? = some d → ∃ s, ss[k]? = some s := fun {k d} h => ⟨ss[k]'(by rw [len]; exact lt_of_get h), List.getElem?_eq_getElem _⟩
  have tmpFacts : ∀ b, tmp ds vs b → (∃ ws, H b = some (.lst ws)) ∧ g.H0 b = none ∧ ¬ N b ∧ Fr env0 σ Hs b ∧ lastN N ds vs b := fun b z => by
    obtain ⟨k, ys, y1, y2⟩ := tmp_ix z
    obtain ⟨v', ev', a, ws, e5, h2, h3, h4, h5, h6, h7⟩ := at_ k _ y1
    rw [y2] at ev'
    cases ev'
    cases e5
    exact ⟨⟨ws, h2⟩, h3, h4, h6, h7⟩
  -- a slot handed in and out
  have ioMut : ∀ (k i : Nat), ms[k]? = some true → ds[k]? = some (.sl i) → IsMut env i ∧ ∃ xs, ss[k]? = some (.io xs) := fun k i z1 z2 => by
    obtain ⟨sl', hs'⟩ := ssk z2
    obtain ⟨m', d'', em', ed', ea'⟩ := ix k sl' hs'
    rw [z1] at em'
    cases em'
    rw [z2] at ed'
    cases ed'
    unfold argSlot at ea'
    simp only at ea'
    split at ea'
    · rename_i e
      injection ea' with q
      exact ⟨⟨_, e, rfl⟩, _, by rw [hs', ← q]⟩
    · rename_i e
      injection ea' with q
      exact ⟨⟨_, e, rfl⟩, _, by rw [hs', ← q]⟩
    · cases ea'
  have ioP : ∀ b, IOc σ ms ds vs b → Pv (lastN N ds vs) env σ b ∧ (∃ ws, H b = some (.lst ws)) ∧ ¬ N b ∧ (g.IO b ∨ g.H0 b = none) ∧ (Fr env0 σ Hs b) := fun b z => by
    rcases z with ⟨k, i, z1, z2, z3⟩ | z
    · obtain ⟨hm, _⟩ := ioMut k i z1 z2
      obtain ⟨q1, q2, q3⟩ := s.pmLst ⟨i, hm, z3⟩
      exact ⟨.inr ⟨i, hm, z3⟩, q1, q2, q3, (t.grow b ⟨i, hm, z3⟩).symm⟩
    · obtain ⟨q1, q2, q3, q4, q5⟩ := tmpFacts b z
      exact ⟨.inl q5, q1, q3, .inr q2, q4⟩
  have keep : ∀ b o, H b = some o → (¬ Pv (lastN N ds vs) env σ b ∨ ∀ ws, o ≠ .lst ws) → H' b = some o := fun b o h q => B.keep b o h fun z => by
    obtain ⟨q1, ⟨ws, q2⟩, _⟩ := ioP b z
    rcases q with q | q
    · exact q q1
    · rw [h] at q2
      cases q2
      exact q ws rfl
  -- the slots that may change are the same
  have mut_ : ∀ j, IsMut (putIos env ds ios) j ↔ IsMut env j := fun j => by
    rcases putIos_ix (ds := ds) (ios := ios) (env := env) j with ⟨h1, _⟩ | ⟨k, ys, _, _, ⟨nw, xs, h1, h2⟩ | ⟨xs, h1, h2⟩ | ⟨_, _, h1⟩⟩
    · exact ⟨fun ⟨sl, a, b⟩ => ⟨sl, by rw [← h1]; exact a, b⟩, fun ⟨sl, a, b⟩ => ⟨sl, by rw [h1]; exact a, b⟩⟩
    · exact ⟨fun _ => ⟨_, h1, rfl⟩, fun _ => ⟨_, h2, rfl⟩⟩
    · exact ⟨fun _ => ⟨_, h1, rfl⟩, fun _ => ⟨_, h2, rfl⟩⟩
    · exact ⟨fun ⟨sl, a, b⟩ => ⟨sl, by rw [← h1]; exact a, b⟩, fun ⟨sl, a, b⟩ => ⟨sl, by rw [h1]; exact a, b⟩⟩
  have pm_ : ∀ b, Pm (putIos env ds ios) σ b ↔ Pm env σ b := fun b => ⟨fun ⟨j, a, c⟩ => ⟨j, (mut_ j).mp a, c⟩, fun ⟨j, a, c⟩ => ⟨j, (mut_ j).mpr a, c⟩⟩
  have toP : ∀ b, N b ∨ Pm env σ b → P b := fun b q => by
    by_cases z : IOc σ ms ds vs b
    · rcases z with ⟨k, i, z1, z2, z3⟩ | z
      · obtain ⟨_, xs, hx⟩ := ioMut k i z1 z2
        obtain ⟨v, ev, fl⟩ := at_ k _ z2
        have fl : σ[i]? = some (some v) := fl
        rw [z3] at fl
        cases fl
        exact B.pI k xs b hx ev
      · obtain ⟨_, _, q3, _, q5⟩ := tmpFacts b z
        rcases q with q | q
        · exact absurd q q3
        · exact absurd q5 (sM.pmLst q).2.1
    · exact B.pN b ⟨q, z⟩
  have h0 : ∀ b, H b = none → g.H0 b = none := fun b h => by
    cases q : g.H0 b with
    | none => rfl
    | some o => exact absurd h (s.dom b (by rw [q]; simp))
  have isNone : ∀ {b : Addr}, ¬ g.IO b → g.H0 b ≠ none → ¬ IOc σ ms ds vs b := fun n1 n2 z => (ioP _ z).2.2.2.1.elim n1 n2
  -- for any further address a that nothing holds
  have main : ∀ M : Addr → Prop, (∀ b, N b → M b) → (∀ b, M b → P b) → (∀ b, M b → H b ≠ none → Pv (lastN N ds vs) env σ b) → (∀ b, M b → H' b ≠ none) → (∀ b, M b → ¬ Pm env σ b) → SR g M (putIos env ds ios) σ H' := fun M hN hP hL hT hPm => by
    have subP : ∀ b, Pv M (putIos env ds ios) σ b → H b ≠ none → Pv (lastN N ds vs) env σ b := fun b q hn => q.elim (fun z => hL b z hn) fun z => .inr ((pm_ b).mp z)
    have subQ : ∀ b, Pv M (putIos env ds ios) σ b → H' b ≠ none → P b := fun b q _ => q.elim (hP b) fun z => toP b (.inr ((pm_ b).mp z))
    have idS : Stab P H' H' := fun _ _ h _ => h
    refine ⟨?_, fun j d h => ?_, fun j nw xs h => ?_, fun j xs h => ?_, fun j tt xs h => ?_, fun j k b hj hk ej ek => s.inj j k b ((mut_ j).mp hj) ((mut_ k).mp hk) ej ek, fun b o h n => B.keep b o (s.keep b o h n) (isNone n (by rw [h]; simp)), fun b h => B.dom b (s.dom b h), hT⟩
    · have : ∀ (ds : List AV) (ios : List (Option (List AV))) (env : En), (putIos env ds ios).length = env.length := by
        intro ds
        induction ds with
        | nil => intro ios env; cases ios <;> rfl
        | cons d ds ih =>
          intro ios env
          cases ios with
          | nil => cases d <;> rfl
          | cons y ios =>
            cases d with
            | sl i =>
              cases y with
              | none => exact ih ios env
              | some ys =>
                refine (ih ios (putIo env i ys)).trans ?_
                unfold putIo
                split
                · rw [List.length_set]
                · rw [List.length_set]
                · rfl
            | _ => exact ih ios env
      rw [this]
      exact s.len
    · rcases putIos_ix (ds := ds) (ios := ios) (env := env) j with ⟨h1, _⟩ | ⟨k, ys, _, _, ⟨nw, xs, h1, h2⟩ | ⟨xs, h1, h2⟩ | ⟨_, _, h1⟩⟩
      · rw [h1] at h
        obtain ⟨v, ev, r⟩ := sM.val j d h
        exact ⟨v, ev, r.mono keep subP⟩
      · rw [h2] at h; cases h
      · rw [h2] at h; cases h
      · rw [h1] at h
        obtain ⟨v, ev, r⟩ := sM.val j d h
        exact ⟨v, ev, r.mono keep subP⟩
    · rcases putIos_ix (ds := ds) (ios := ios) (env := env) j with ⟨h1, h2⟩ | ⟨k, ys, k1, k2, ⟨nw', xs', h1, h2⟩ | ⟨xs', h1, h2⟩ | ⟨hn, _, h1⟩⟩
      · rw [h1] at h
        obtain ⟨a, ws, e1, e2, r, n1, n2⟩ := sM.own j nw xs h
        have nI : ¬ IOc σ ms ds vs a := fun z => by
          rcases z with ⟨k, i, z1, z2, z3⟩ | z
          · obtain ⟨hm, xs', hx⟩ := ioMut k i z1 z2
            have : j = i := s.inj j i a ⟨_, h, rfl⟩ hm e1 z3
            subst this
            obtain ⟨ys, hy⟩ := B.io2 k xs' hx
            exact h2 k ys z2 hy
          · exact n1 (tmpFacts a z).2.2.2.2
        exact ⟨a, ws, e1, B.keep a _ e2 nI, r.mono keep subP, fun z => hPm a z ⟨j, ⟨_, h, rfl⟩, e1⟩, n2⟩
      · rw [h2] at h
        cases h
        obtain ⟨a, ws, e1, _, _, n1, n2⟩ := s.own j nw xs' h1
        obtain ⟨b, ws', xs'', b1, b2, b3, b4⟩ := B.io1 k _ k2
        obtain ⟨v, ev, fl⟩ := at_ k _ k1
        have fl : σ[j]? = some (some v) := fl
        rw [b1] at ev
        cases ev
        rw [fl] at e1
        cases e1
        exact ⟨_, ws', fl, b3, (b4.h0 h0).mono idS subQ, fun z => hPm _ z ⟨j, ⟨_, h1, rfl⟩, fl⟩, n2⟩
      · rw [h2] at h; cases h
      · rw [h1] at h
        exact absurd h (hn _ _)
    · rcases putIos_ix (ds := ds) (ios := ios) (env := env) j with ⟨h1, h2⟩ | ⟨k, ys, k1, k2, ⟨nw', xs', h1, h2⟩ | ⟨xs', h1, h2⟩ | ⟨_, hn, h1⟩⟩
      · rw [h1] at h
        obtain ⟨a, ws, e1, e2, r, n1, n2⟩ := sM.io j xs h
        have nI : ¬ IOc σ ms ds vs a := fun z => by
          rcases z with ⟨k, i, z1, z2, z3⟩ | z
          · obtain ⟨hm, xs', hx⟩ := ioMut k i z1 z2
            have : j = i := s.inj j i a ⟨_, h, rfl⟩ hm e1 z3
            subst this
            obtain ⟨ys, hy⟩ := B.io2 k xs' hx
            exact h2 k ys z2 hy
          · exact n1 (tmpFacts a z).2.2.2.2
        exact ⟨a, ws, e1, B.keep a _ e2 nI, r.mono keep subP, fun z => hPm a z ⟨j, ⟨_, h, rfl⟩, e1⟩, n2⟩
      · rw [h2] at h; cases h
      · rw [h2] at h
        cases h
        obtain ⟨a, ws, e1, _, _, n1, n2⟩ := s.io j xs' h1
        obtain ⟨b, ws', xs'', b1, b2, b3, b4⟩ := B.io1 k _ k2
        obtain ⟨v, ev, fl⟩ := at_ k _ k1
        have fl : σ[j]? = some (some v) := fl
        rw [b1] at ev
        cases ev
        rw [fl] at e1
        cases e1
        exact ⟨_, ws', fl, b3, (b4.h0 h0).mono idS subQ, fun z => hPm _ z ⟨j, ⟨_, h1, rfl⟩, fl⟩, n2⟩
      · rw [h1] at h
        exact absurd h (hn _)
    · have hb : env[j]? = some (some (.brw tt xs)) := by
        rcases putIos_ix (ds := ds) (ios := ios) (env := env) j with ⟨h1, _⟩ | ⟨k, ys, _, _, ⟨nw, xs, h1, h2⟩ | ⟨xs, h1, h2⟩ | ⟨_, _, h1⟩⟩
        · rw [← h1]; exact h
        · rw [h2] at h; cases h
        · rw [h2] at h; cases h
        · rw [← h1]; exact h
      obtain ⟨a, ws, k1, k2⟩ := sM.brw j tt xs hb
      obtain ⟨a', ws', k1', k2'⟩ := s.brw j tt xs hb
      rw [k1] at k1'
      cases k1'
      rcases k2 with k2 | ⟨k2, _, k4, k5⟩
      · exact ⟨a, ws, k1, .inl k2⟩
      · rcases k2' with k2' | ⟨_, nA, _, _⟩
        · exact ⟨a, ws', k1, .inl k2'⟩
        · have nI : ¬ IOc σ ms ds vs a := fun z => (ioP a z).2.2.1 nA
          refine ⟨a, ws, k1, .inr ⟨?_, hN a nA, k4.mono keep subP, fun q => B.keep a _ (k5 q) nI⟩⟩
          rcases k2 with k2 | ⟨u, k2⟩
          · exact .inl (B.keep a _ k2 nI)
          · exact .inr ⟨u, B.keep a _ k2 nI⟩
  refine ⟨main N (fun _ h => h) (fun b h => toP b (.inl h)) (fun b h _ => .inl ((lastN_iff hl).mpr (.inl h))) (fun b h => B.dom b (s.nst b h)) (fun b h z => (s.pmLst z).2.1 h), ⟨fun b o h _ n => ?_, fun b h => t.grow b ((pm_ b).mp h), fun b h => B.dom b (t.dom b h), fun j tt xs h => ?_, fun j xs h => ?_, fun j tt xs h => ?_⟩, pm_, toP, fun a ws h1 h2 h3 h4 h5 h6 => ?_⟩
  · refine B.keep b o (t.ext b o h trivial n) fun z => ?_
    rcases (ioP b z).2.2.2.2 with q | q
    · rw [h] at q; cases q
    · exact n q
  · obtain ⟨e1, e2⟩ := t.fixB j tt xs h
    refine ⟨?_, e2⟩
    rcases putIos_ix (ds := ds) (ios := ios) (env := env) j with ⟨h1, _⟩ | ⟨k, ys, _, _, ⟨nw, xs, h1, h2⟩ | ⟨xs, h1, h2⟩ | ⟨_, _, h1⟩⟩
    · rw [h1]; exact e1
    · rw [h1] at e1; cases e1
    · rw [h1] at e1; cases e1
    · rw [h1]; exact e1
  · obtain ⟨⟨ys, e1⟩, e2⟩ := t.fixI j xs h
    refine ⟨?_, e2⟩
    rcases putIos_ix (ds := ds) (ios := ios) (env := env) j with ⟨h1, _⟩ | ⟨k, zs, _, _, ⟨nw, xs, h1, h2⟩ | ⟨xs, h1, h2⟩ | ⟨_, _, h1⟩⟩
    · exact ⟨ys, by rw [h1]; exact e1⟩
    · rw [h1] at e1; cases e1
    · exact ⟨zs, h2⟩
    · exact ⟨ys, by rw [h1]; exact e1⟩
  · refine t.noB j tt xs ?_
    rcases putIos_ix (ds := ds) (ios := ios) (env := env) j with ⟨h1, _⟩ | ⟨k, ys, _, _, ⟨nw, xs, h1, h2⟩ | ⟨xs, h1, h2⟩ | ⟨_, _, h1⟩⟩
    · rw [← h1]; exact h
    · rw [h2] at h; cases h
    · rw [h2] at h; cases h
    · rw [← h1]; exact h
  · have hb : ∀ b, adN N a b → N b ∨ b = a := fun _ h => h
    have na : ¬ Pm env σ a := fun ⟨j, hm, ej⟩ => by
      obtain ⟨⟨zs, hz⟩, _⟩ := s.pmLst ⟨j, hm, ej⟩
      rcases h6 with q | ⟨k, i, z1, z2, z3⟩ | q
      · rw [hz] at q; cases q
      · obtain ⟨_, xs, hx⟩ := ioMut k i z1 z2
        obtain ⟨v, ev, fl⟩ := at_ k _ z2
        have fl : σ[i]? = some (some v) := fl
        rw [z3] at fl
        cases fl
        exact h5 k xs hx ev
      · exact (sM.pmLst ⟨j, hm, ej⟩).2.1 (tmp_last hl q)
    refine main (adN N a) (fun _ => .inl) (fun b h => ?_) (fun b h hn => ?_) (fun b h => ?_) (fun b h z => ?_)
    · rcases h with h | h
      · exact toP b (.inl h)
      · rw [h]; exact h4
    · rcases h with h | h
      · exact .inl ((lastN_iff hl).mpr (.inl h))
      · subst h
        rcases h6 with q | q
        · exact absurd q hn
        · exact (ioP _ q).1
    · rcases h with h | h
      · exact B.dom b (s.nst b h)
      · rw [h, h1]; simp
    · rcases h with h | h
      · exact (s.pmLst z).2.1 h
      · subst h; exact na z
/-- a call keeps what the evaluator says -/
theorem call_ok {G : Calls} {f : Str} {cl : Str → Value} {W : WX} {Q : VK} (p : Posts g (Fr env0 σ Hs) env σ H N ds vs) (t : Stp All env0 σ Hs env σ H) (hm : ms.length = ds.length)
    (h : wpR (callE G f ms ds env) (fun d env' => ∀ H' v, Stp All env0 σ Hs env' σ H' → Posts g (Fr env0 σ Hs) env' σ H' N [d] [v] → Q v H') fun c env' => ∀ H' (dd : Unit), Stp All env0 σ Hs env' σ H' → SR g N env' σ H' → W (cl c) none σ H') :
    spD g.K cl G f ds.length vs H Q fun c d H' => W c d σ H' := by
  unfold callE at h
  split at h
  · rename_i ok
    split at h
    · exact h.elim
    · rename_i ss e
      obtain ⟨h1, h2, h3⟩ := call_in p ok e
      refine ⟨ss, _, _, p.length.symm, h2.trans p.length.symm, h1, h3, ?_⟩
      cases eg : G f ss with
      | none => rw [eg] at h; exact h
      | some r =>
        rw [eg] at h
        cases r with
        | exc c ios =>
          intro H' dd P B
          obtain ⟨o1, o2, _⟩ := call_out p t ok e B
          exact h H' dd o2 o1
        | ok d ios =>
          intro H' v P B r
          obtain ⟨o1, o2, o3, o4, o5⟩ := call_out p t ok e B
          have h : ∀ H' v, Stp All env0 σ Hs (putIos env ds ios) σ H' → Posts g (Fr env0 σ Hs) (putIos env ds ios) σ H' N [d] [v] → Q v H' := h
          have h0 : ∀ b, H b = none → g.H0 b = none := fun b h => by
            cases q : g.H0 b with
            | none => rfl
            | some o => exact absurd h (p.sr.dom b (by rw [q]; simp))
          have subQ : ∀ b, Pv N (putIos env ds ios) σ b → H' b ≠ none → P b := fun b q _ => o4 b (q.imp id (o3 b).mp)
          have key : RV g.K H H' P d v → Posts g (Fr env0 σ Hs) (putIos env ds ios) σ H' N [d] [v] := fun r => post_sto o1 ((r.h0 h0).mono (fun _ _ h _ => h) subQ)
          refine h H' v o2 ?_
          cases d with
          | sl i => exact r.elim
          | frs xs =>
            obtain ⟨a, ws, rfl, r1, r2, r3, r4, r5, r6⟩ := r
            have hl := p.length
            have at_ := p.flat
            have io : IOc σ ms ds vs a → g.H0 a = none ∧ Fr env0 σ Hs a ∧ ¬ N a := fun z => by
              rcases z with ⟨k, i, z1, z2, z3⟩ | z
              · obtain ⟨len, ix⟩ := argSlots_ix e
                have : k < ss.length := by rw [len]; exact lt_of_get z2
                obtain ⟨m', d'', em', ed', ea'⟩ := ix k ss[k] (List.getElem?_eq_getElem this)
                rw [z1] at em'
                cases em'
                rw [z2] at ed'
                cases ed'
                obtain ⟨v, ev, fl⟩ := at_ k _ z2
                have fl : σ[i]? = some (some v) := fl
                rw [z3] at fl
                cases fl
                unfold argSlot at ea'
                simp only at ea'
                split at ea'
                · injection ea' with q
                  exact absurd ev (r5 k _ (by rw [List.getElem?_eq_getElem this, ← q]))
                · injection ea' with q
                  exact absurd ev (r5 k _ (by rw [List.getElem?_eq_getElem this, ← q]))
                · cases ea'
              · obtain ⟨k, ys, y1, y2⟩ := tmp_ix z
                obtain ⟨v', ev', b, ws', e5, _, q3, q4, _, q6, _⟩ := at_ k _ y1
                rw [y2] at ev'
                cases ev'
                cases e5
                exact ⟨q3, q6, q4⟩
            have g0 : g.H0 a = none ∧ Fr env0 σ Hs a ∧ ¬ N a := by
              rcases r2 with q | q
              · refine ⟨h0 a q, Fr.sub1 t a q, fun z => ?_⟩
                exact p.sr.nst a z q
              · exact io q
            have s2 := o5 a ws r1 g0.1 g0.2.2 r4 r5 r2
            refine ⟨⟨o1, a, ws, rfl, r1, g0.1, g0.2.2, (r6.h0 h0).mono (fun _ _ h _ => h) fun b q _ => ?_, g0.2.1⟩, s2⟩
            rcases q with ((q | q) | q) | q
            · exact o4 b (.inl q)
            · rw [q]; exact r4
            · exact q.elim
            · exact o4 b (.inr ((o3 b).mp q))
          | tup xs => exact key r
          | lst nw xs => exact key r
          | non => exact key r
          | bl b => exact key r
          | int i => exact key r
          | str x => exact key r
          | fn x => exact key r
          | jk q1 q2 => exact key r
          | exo q1 => exact key r
          | dcx => exact key r
          | ty x => exact key r
  · exact h.elim
end
end RX
/-! RX part k: lists and tuples alike as what is walked: for, enumerate, zip, reversed. -/
namespace RX
open PySem PySem.Spec PyProof.Rows L2

/-- a tuple (true) or a list (false) -/
def Sq (b : Bool) (K : PySem.W.Frag) (H : Hp) (a : Addr) (xs : List V) : Prop := match b with
  | true => SqT K H a xs
  | false => SqL K H a xs
def Has (b : Bool) (h : Heap) (a : Addr) (items : Array Value) : Prop := match b with
  | true => h.IsTuple a items
  | false => h.IsList a items
def itO (b : Bool) (a : Addr) : Obj := match b with
  | true => { cls := .type "tuple_iterator", data := .fields #[.ref a, .int 0 0] }
  | false => { cls := .type "list_iterator", data := .fields #[.ref a, .int 0 0] }
def ItAt (b : Bool) (h : Heap) (it a : Addr) (i : Nat) : Prop := match b with
  | true => h.IsTupleIter it a i
  | false => h.IsListIter it a i
theorem sq_has {X : Cx} {pins : List (Addr × Obj)} {σ : L2.St} {H : Hp} {s : Shared} {b : Bool} {a : Addr} {xs : List V} (I : Inv X pins σ H s) (q : Sq b X.K H a xs) : ∃ its, Vals xs its ∧ Has b s.heap a its.toArray ∧ xs.length ≤ sizeLine := by
  cases b
  · obtain ⟨its, r, p, z⟩ := I.list q
    exact ⟨its, r, p.isList, z⟩
  · obtain ⟨its, r, p, z⟩ := I.tuple q
    exact ⟨its, r, p, z⟩
theorem begs (b : Bool) (a : Addr) (items : Array Value) : Begins (.ref a) (itO b a) fun h => Has b h a items := by
  cases b
  · exact begins_list a items
  · exact begins_tuple a items
theorem draws {prog : Program} {w : World} {A : Around} (b : Bool) (hh : A.handled = none) (it a : Addr) (ne : a ≠ it) (items : Array Value) :
    Draws prog w A it [it, a] items.size (fun i v => items[i]? = some v) (fun i h => ItAt b h it a i ∧ Has b h a items) := by
  cases b
  · exact Draws.list hh it a ne items
  · exact Draws.tuple hh it a ne items
theorem itAt_obj {b : Bool} {h : Heap} {it a : Addr} {i : Nat} (q : ItAt b h it a i) : ∃ o, h.get? it = some o ∧ ∀ v, o.data ≠ .cell v := by
  cases b <;>
  · obtain ⟨o, e, _, d⟩ := q
    exact ⟨o, e, fun v z => by rw [d] at z; cases z⟩
theorem itAt_at {b : Bool} {h h' : Heap} {it a : Addr} {i : Nat} (q : ItAt b h it a i) (k : ∀ o, h.get? it = some o → h'.get? it = some o) : ItAt b h' it a i := by
  cases b <;>
  · obtain ⟨o, e, c, d⟩ := q
    exact ⟨o, k o e, c, d⟩
theorem itAt_new {b : Bool} {h : Heap} {it a : Addr} (e : h.get? it = some (itO b a)) : ItAt b h it a 0 := by
  cases b <;> exact ⟨_, e, rfl, rfl⟩
theorem has_lt {b : Bool} {h : Heap} {a : Addr} {items : Array Value} (q : Has b h a items) : a < h.objs.size := by
  cases b <;>
  · obtain ⟨o, e, _⟩ := q
    exact Heap.lt_size e

/-- a walk of n turns while G stands -/
def Jx (G : Hp → Prop) (n : Nat) (Y : Nat → Hp → V → Hp → Prop) : L2.It := ⟨fun i H => i < n ∧ G H, Y, fun i H => i = n ∧ G H⟩
theorem walk_jx {G : Hp → Prop} {n : Nat} {Y : Nat → Hp → V → Hp → Prop} : Walk (Jx G n Y) n G Y :=
  ⟨fun _ _ h g => ⟨h, g⟩, fun _ g => ⟨rfl, g⟩, fun _ _ _ _ _ _ y => y⟩

/-- an iterator of new tuples -/
theorem turn_new {P : Program} {w : World} {K : PySem.W.Frag} {tg : Expr} {G : Hp → Prop} {n : Nat} {Y : Nat → Hp → V → Hp → Prop} {fp wr : List Addr} {it : Addr} {tn : Nat → Heap → Prop}
    (mem : it ∈ fp) (sub : ∀ b ∈ wr, b ∈ fp) (obj : ∀ i h, tn i h → ∀ b ∈ fp, ∃ o, h.get? b = some o ∧ ∀ v, o.data ≠ .cell v)
    (keep : ∀ i h h', tn i h → (∀ b ∈ fp, ∀ o, h.get? b = some o → h'.get? b = some o) → tn i h')
    (goes : ∀ (X : Cx), X.prog = P → X.w = w → X.K = K → X.A.handled = none → ∀ (pins : List (Addr × Obj)) (s : Shared) (σ : L2.St) (H : Hp), Inv X pins σ H s → G H → ∃ (fpG : List Addr) (St : Nat → Heap → Prop) (Yg : Nat → Heap → Value → Heap → Prop),
      GoesN P w X.A tg it fpG wr n Yg St ∧ (∀ i, tn i s.heap → St i s.heap) ∧ (∀ i h, St i h → tn i h) ∧
      ∀ i u h', i < n → Yg i s.heap u h' → ∃ T xs vals, u = .ref T ∧ s.heap.objs.size ≤ T ∧ h'.IsTuple T vals ∧ Vals xs vals.toList ∧ xs.length ≤ sizeLine ∧ Y i H (.ref T) (upd H T (.tup xs)))
    (self : ∀ (A : Around) (i : Nat) (s : Shared) (Q : Value → Shared → Prop) (E : Value → Shared → Prop), tn i s.heap → Q (.ref it) s → wpAny (model P w) A (pyIter (.ref it)) Q E s) :
    Turn P w K tg (Jx G n Y) fp it tn where
  mem := mem
  obj := obj
  keep := keep
  self := self
  item := fun X hP hw hK hc i pins s σ H E I hf st ⟨hin, hG⟩ => by
    obtain ⟨fpG, St, Yg, W, w1, w2, w3⟩ := goes X hP hw hK (I.ok.hd hc) pins s σ H I hG
    refine W.goes i s _ _ hin (w1 i st) fun u h' tk hY st' hk htk => ?_
    obtain ⟨T, xs, vals, rfl, hT, ⟨o, e1, e2, m, e3⟩, rv, hz, y⟩ := w3 i u h' hin hY
    have I1 := I.turnedNew (t' := tk) (ob := .tup xs) hk (fun b hb => hf b (sub b hb)) hT ⟨hz, vals.toList, rv, ⟨o, e1, e2, m, by simpa using e3⟩⟩
    refine ⟨.ref T, _, I1, rfl, y, w2 _ _ st', fun b hb => ?_⟩
    obtain ⟨ob, q, _⟩ := obj i s.heap st b hb
    rw [upd_ne (Nat.ne_of_lt (Nat.lt_of_lt_of_le (Heap.lt_size q) hT))]
    exact (hf b hb).1
  done := fun X hP hw hK hc i pins s σ H E I hf st ⟨hin, hG⟩ => by
    obtain ⟨fpG, St, Yg, W, w1, w2, w3⟩ := goes X hP hw hK (I.ok.hd hc) pins s σ H I hG
    subst hin
    exact W.stops s _ _ (w1 _ st) fun h' tk hk htk => I.turnedL hk fun b hb => hf b (sub b hb)

/-! ### enumerate -/
theorem meets_enum1 {v : Value} {o : Obj} {Hs : Heap → Prop} (B : Begins v o Hs) :
    Meets (Builtin.«enumerate.__new__» ⟨[.type "enumerate", v], []⟩) (fun _ R s => Hs s.heap ∧
      R (.ok (.ret (.ref (s.heap.push o).objs.size))) { s with heap := (s.heap.push o).push { cls := .type "enumerate", data := .fields #[.none, .bool false, .ref s.heap.objs.size, rawInt 0, .none, .none] } }) :=
  .of_wp fun prog w A R s ⟨hs, hr⟩ => by
    obtain ⟨hp, gn, dr, tok, osys⟩ := s
    have hsub := sub_enumerate
    have step : ∀ {A₁ : Around} {E₁ : Value → Shared → Prop} {Q₁ : Value → Shared → Prop}, Q₁ (.ref hp.objs.size) ⟨hp.push o, gn, dr, tok, osys⟩ → wpAny (model prog w) A₁ (pyIter v) Q₁ E₁ ⟨hp, gn, dr, tok, osys⟩ :=
      fun z => B.iter prog w _ _ ⟨hp, gn, dr, tok, osys⟩ _ hs z
    wp_walk using step
    refine wpAny_stack_any fun stk => wpAny_pure ?_
    split
    · rename_i cl _ _ _ _ _
      cases (cl == Value.type "enumerate") <;>
      · wp_walk using step
        exact ⟨_, rfl, hr⟩
    · wp_walk using step
      exact ⟨_, rfl, hr⟩
theorem enum1_begins {prog : Program} {w : World} {A : Around} {E : Value → Shared → Prop} {s : Shared} {v : Value} {o : Obj} {Hs : Heap → Prop} {Q : Value → Shared → Prop} (B : Begins v o Hs) (h1 : Hs s.heap)
    (h : ∀ h', IsEnum h' (s.heap.objs.size + 1) s.heap.objs.size 0 .none → h'.get? s.heap.objs.size = some o → (∀ b o, s.heap.get? b = some o → h'.get? b = some o) → Q (.ref (s.heap.objs.size + 1)) { s with heap := h' }) :
    wpAny (model prog w) A (call (.type "enumerate") [v]) Q E s := by
  refine callType_new F.called_enumerate (by decide) (F.typeCall_enumerate_1 _) (F.newCall_enumerate_1 _) (fun obj => F.args_object_init_2 obj _) F.entry_enumerate_new (meets_enum1 B) ⟨h1, ?_⟩
  have zs : (s.heap.push o).objs.size = s.heap.objs.size + 1 := Heap.size_push ..
  show _ ∧ _
  rw [zs]
  have en : IsEnum ((s.heap.push o).push { cls := .type "enumerate", data := .fields #[.none, .bool false, .ref s.heap.objs.size, rawInt 0, .none, .none] }) (s.heap.objs.size + 1) s.heap.objs.size 0 .none := by
    have q := Heap.get?_push_size (s.heap.push o) (o := { cls := .type "enumerate", data := .fields #[.none, .bool false, .ref s.heap.objs.size, rawInt 0, .none, .none] }) rfl
    rw [zs] at q
    exact q
  exact ⟨⟨_, en, rfl⟩, h _ en (Heap.get?_push_of_some _ (Heap.get?_push_size _ B.free)) fun b o x => Heap.get?_push_of_some _ (Heap.get?_push_of_some _ x)⟩
theorem vals_two {x y : V} {u v : Value} (a : RelV x u) (b : RelV y v) : Vals [x, y] [u, v] := .cons a (.cons b .nil)
theorem turn_enumX {P : Program} {w : World} {K : PySem.W.Frag} {elts : List Expr} {kk : Nat} {tpos : Pos} (b : Bool) (a e it : Addr) (xs : List V) (hei : e ≠ it) (hae : a ≠ e) (hai : a ≠ it) :
    Turn P w K (.Tuple elts kk tpos) (Jx (fun H => Sq b K H a xs) xs.length (YPair (fun i => some (.int (i : Nat))) fun i => xs[i]?)) [e, it] e (fun i h => (∃ old, IsEnum h e it ((0 : Int) + (i : Int)) old) ∧ ItAt b h it a i) := by
  refine turn_new (wr := [e, it]) (by simp) (fun _ h => h) (fun i h ⟨⟨old, q1⟩, q2⟩ c hc => ?_) (fun i h h' ⟨⟨old, q1⟩, q2⟩ k => ⟨⟨old, k e (by simp) _ q1⟩, itAt_at q2 fun o q => k it (by simp) o q⟩) (fun X hP hw hK hh pins s σ H I hG => ?_)
    fun A i s Q E st q => let ⟨⟨_, he⟩, _⟩ := st; wpAny_pyIter_enum he q
  · have hc : c = e ∨ c = it := by simpa using hc
    rcases hc with rfl | rfl
    · exact ⟨_, q1, fun v z => nomatch z⟩
    · exact itAt_obj q2
  · subst hP hw hK
    obtain ⟨its, rv, p, hz⟩ := sq_has I hG
    have hl : its.toArray.size = xs.length := by simp [rv.length]
    have D := draws (prog := X.prog) (w := X.w) (A := X.A.in1) b hh it a hai its.toArray
    have W := GoesN.ofWalksT (elts := elts) (k := kk) (pos := tpos) (WalksT.enumFrom 0 D e hei (by simp [hei, Ne.symm hae]) (by simp))
    rw [hl] at W
    refine ⟨_, _, _, W, fun i st => ⟨st.1, st.2, p⟩, fun i h st => ⟨st.1, st.2.1⟩, fun i u h' hi y => ?_⟩
    obtain ⟨T, vals, rfl, hT, ⟨t, x, hx, rfl⟩, hI⟩ := y
    obtain ⟨xv, hxv⟩ : ∃ z, xs[i]? = some z := ⟨xs[i], by simp [hi]⟩
    obtain ⟨u, hu, ru⟩ := rv.get hxv
    have : u = x := by
      have hx : its[i]? = some x := by simpa using hx
      rw [hu] at hx
      exact Option.some.inj hx
    subst this
    refine ⟨T, [.int (i : Nat), xv], _, rfl, hT, hI, vals_two ⟨t, by simp⟩ ru, by show 2 ≤ sizeLine; decide, T, .int (i : Nat), xv, rfl, I.hok.fresh hT, rfl, rfl, hxv⟩
def iEnumX (K : PySem.W.Frag) (ta : TA) : TI := fun σ H R => ta σ H fun vs H1 => ∃ b a xs, vs = [.ref a] ∧ Sq b K H1 a xs ∧ R (Jx (fun H => Sq b K H a xs) xs.length (YPair (fun i => some (.int (i : Nat))) fun i => xs[i]?)) H1
theorem pi_enumX {X : Cx} {e : Expr} {ta : TA} {p pos tpos : Pos} {elts : List Expr} {kk : Nat} (hg : Gl X "enumerate") (hm : X.mg "enumerate" = none) (ha : PA X [e] ta) (hs : starEach [e] X.env = [(false, eval e X.env)]) :
    PI X (.Tuple elts kk tpos) (.Call (.Name "enumerate" p) [e] [] pos) (iEnumX X.K ta) := by
  refine ⟨fun pins s σ H R I h => ?_⟩
  refine Call_ (ld_blt I hg hm boot_enumerate (PyProof.Rows.callWith_type1 (thn (ha.run pos pins s σ H _ I h) fun us s1 ⟨vs, H1, I1, r1, q1⟩ => ?_) hs rfl))
  obtain ⟨b, a, xs, rfl, hq, q⟩ := q1
  cases r1 with
  | cons r rr =>
    cases rr
    cases r
    obtain ⟨its, rv, p', hz⟩ := sq_has I1 hq
    have la := has_lt p'
    refine enum1_begins (begs b a its.toArray) p' fun h' he hit hk => wpAny_pyIter_enum he ?_
    have I2 : Inv X pins σ H1 { s1 with heap := h' } := I1.kept (t' := s1.toks) hk
    have na : a ≠ s1.heap.objs.size := Nat.ne_of_lt la
    have na1 : a ≠ s1.heap.objs.size + 1 := Nat.ne_of_lt (Nat.lt_succ_of_lt la)
    refine ⟨s1.heap.objs.size + 1, [s1.heap.objs.size + 1, s1.heap.objs.size], _, _, H1, rfl, I2, turn_enumX b a (s1.heap.objs.size + 1) s1.heap.objs.size xs (Nat.succ_ne_self _) na1 na, ⟨⟨.none, ?_⟩, itAt_new hit⟩, fun c hc => ?_, q⟩
    · simpa using he
    have e' : c = s1.heap.objs.size + 1 ∨ c = s1.heap.objs.size := by simpa using hc
    have hle : s1.heap.objs.size ≤ c := by
      rcases e' with z | z
      · rw [z]; exact Nat.le_add_right _ _
      · rw [z]; exact Nat.le_refl _
    exact I1.fpOk hle (I1.hok.fresh hle)

/-! ### zip -/
theorem turn_zipX {P : Program} {w : World} {K : PySem.W.Frag} {elts : List Expr} {kk : Nat} {tpos : Pos} (b c : Bool) (a d : Addr) (N : Nat) (xs ys : List V) (la : a < N) (ld : d < N) :
    Turn P w K (.Tuple elts kk tpos) (Jx (fun H => Sq b K H a xs ∧ Sq c K H d ys) (min xs.length ys.length) (YPair (fun i => xs[i]?) fun i => ys[i]?)) [N + 4, N + 2, N + 3, N, N + 1] (N + 4)
      (fun i h => IsZip h (N + 4) (N + 2) (N + 3) .none ∧ IsTupOf2 h (N + 2) (.ref N) (.ref (N + 1)) ∧ (∃ a1 a2, IsTupOf2 h (N + 3) a1 a2) ∧ ItAt b h N a i ∧ ItAt c h (N + 1) d i) := by
  refine turn_new (wr := [N + 4, N + 3, N, N + 1]) (by simp) (fun q h => ?_) (fun i h ⟨q1, q2, ⟨_, _, q3⟩, q4, q5⟩ z hz => ?_)
    (fun i h h' ⟨q1, q2, ⟨a1, a2, q3⟩, q4, q5⟩ k => ⟨k _ (by simp) _ q1, k _ (by simp) _ q2, ⟨a1, a2, k _ (by simp) _ q3⟩, itAt_at q4 fun o q => k _ (by simp) o q, itAt_at q5 fun o q => k _ (by simp) o q⟩)
    (fun X hP hw hK hh pins s σ H I hG => ?_) fun A i s Q E st q => wpAny_pyIter_zip st.1 q
  · have h : q = N + 4 ∨ q = N + 3 ∨ q = N ∨ q = N + 1 := by simpa using h
    rcases h with h | h | h | h <;> simp [h]
  · have hz : z = N + 4 ∨ z = N + 2 ∨ z = N + 3 ∨ z = N ∨ z = N + 1 := by simpa using hz
    rcases hz with rfl | rfl | rfl | rfl | rfl
    · exact ⟨_, q1, fun v z => nomatch z⟩
    · exact ⟨_, q2, fun v z => nomatch z⟩
    · exact ⟨_, q3, fun v z => nomatch z⟩
    · exact itAt_obj q4
    · exact itAt_obj q5
  · subst hP hw hK
    obtain ⟨its, rv, p, hz⟩ := sq_has I hG.1
    obtain ⟨its2, rv2, p2, hz2⟩ := sq_has I hG.2
    have hl : its.toArray.size = xs.length := by simp [rv.length]
    have hl2 : its2.toArray.size = ys.length := by simp [rv2.length]
    have D := draws (prog := X.prog) (w := X.w) (A := X.A.in1) b hh N a (Nat.ne_of_lt la) its.toArray
    have D2 := draws (prog := X.prog) (w := X.w) (A := X.A.in1) c hh (N + 1) d (Nat.ne_of_lt (Nat.lt_succ_of_lt ld)) its2.toArray
    have W := GoesN.ofWalksT (elts := elts) (k := kk) (pos := tpos) (WalksT.zipD2 (zip_sep2 (N := N) (fp1 := [a]) (fp2 := [d]) (by simpa using la) (by simpa using ld)) D D2)
    rw [hl, hl2] at W
    refine ⟨_, _, _, W, fun i st => ⟨st.1, st.2.1, st.2.2.1, ⟨st.2.2.2.1, p⟩, st.2.2.2.2, p2⟩, fun i h st => ⟨st.1, st.2.1, st.2.2.1, st.2.2.2.1.1, st.2.2.2.2.1⟩, fun i u h' hi y => ?_⟩
    obtain ⟨T, vals, rfl, hT, ⟨x, y, hx, hy, rfl⟩, hI⟩ := y
    have i1 : i < xs.length := by omega
    have i2 : i < ys.length := by omega
    have hxv : xs[i]? = some xs[i] := by simp [i1]
    have hyv : ys[i]? = some ys[i] := by simp [i2]
    obtain ⟨u, hu, ru⟩ := rv.get hxv
    obtain ⟨u2, hu2, ru2⟩ := rv2.get hyv
    have e1 : u = x := by
      have hx : its[i]? = some x := by simpa using hx
      rw [hu] at hx
      exact Option.some.inj hx
    have e2 : u2 = y := by
      have hy : its2[i]? = some y := by simpa using hy
      rw [hu2] at hy
      exact Option.some.inj hy
    subst e1 e2
    exact ⟨T, [xs[i], ys[i]], _, rfl, hT, hI, vals_two ru ru2, by show 2 ≤ sizeLine; decide, T, xs[i], ys[i], rfl, I.hok.fresh hT, rfl, hxv, hyv⟩
def iZipX (K : PySem.W.Frag) (ta : TA) : TI := fun σ H R => ta σ H fun vs H1 => ∃ b c a d xs ys, vs = [.ref a, .ref d] ∧ Sq b K H1 a xs ∧ Sq c K H1 d ys ∧
  R (Jx (fun H => Sq b K H a xs ∧ Sq c K H d ys) (min xs.length ys.length) (YPair (fun i => xs[i]?) fun i => ys[i]?)) H1
theorem pi_zipX {X : Cx} {e e2 : Expr} {ta : TA} {p pos tpos : Pos} {elts : List Expr} {kk : Nat} (hg : Gl X "zip") (hm : X.mg "zip" = none) (ha : PA X [e, e2] ta)
    (hs : starEach [e, e2] X.env = (false, eval e X.env) :: starEach [e2] X.env) (hpl : (backTo pos (starEach [e2] X.env)).any (·.1) = false) :
    PI X (.Tuple elts kk tpos) (.Call (.Name "zip" p) [e, e2] [] pos) (iZipX X.K ta) := by
  refine ⟨fun pins s σ H R I h => ?_⟩
  refine Call_ (ld_blt I hg hm PyProof.Rows.boot_zip (PyProof.Rows.callWith_type1 (thn (ha.run pos pins s σ H _ I h) fun us s1 ⟨vs, H1, I1, r1, q1⟩ => ?_) hs hpl))
  obtain ⟨b, c, a, d, xs, ys, rfl, hq, hq2, q⟩ := q1
  cases r1 with
  | cons r rr =>
    cases rr with
    | cons r' rr =>
      cases rr
      cases r
      cases r'
      obtain ⟨its, rv, p', hz⟩ := sq_has I1 hq
      obtain ⟨its2, rv2, p2, hz2⟩ := sq_has I1 hq2
      refine zip_begins2 (begs b a its.toArray) (begs c d its2.toArray) p' p2 fun h' hzp hTI hTO h1 h2 hsz hk => wpAny_pyIter_zip hzp ?_
      have I2 : Inv X pins σ H1 { s1 with heap := h' } := I1.kept (t' := s1.toks) hk
      refine ⟨s1.heap.objs.size + 4, [s1.heap.objs.size + 4, s1.heap.objs.size + 2, s1.heap.objs.size + 3, s1.heap.objs.size, s1.heap.objs.size + 1], _, _, H1, rfl, I2, turn_zipX b c a d s1.heap.objs.size xs ys (has_lt p') (has_lt p2), ⟨hzp, hTI, ⟨_, _, hTO⟩, itAt_new h1, itAt_new h2⟩, fun z hc => ?_, q⟩
      have e' : z = s1.heap.objs.size + 4 ∨ z = s1.heap.objs.size + 2 ∨ z = s1.heap.objs.size + 3 ∨ z = s1.heap.objs.size ∨ z = s1.heap.objs.size + 1 := by simpa using hc
      have hle : s1.heap.objs.size ≤ z := by
        rcases e' with e | e | e | e | e <;> rw [e] <;> first | exact Nat.le_refl _ | exact Nat.le_add_right _ _
      exact I1.fpOk hle (I1.hok.fresh hle)
/-! ### a list or a tuple; reversed -/
def iSeqX (K : PySem.W.Frag) (te : TE) : TI := fun σ H R => te σ H fun v H1 => ∃ b a xs, v = .ref a ∧ Sq b K H1 a xs ∧ ∀ J, Walk J xs.length (fun H => Sq b K H a xs) (YAt xs) → R J H1
theorem pi_seqX {X : Cx} {tg e : Expr} {te : TE} (he : PE X e te) : PI X tg e (iSeqX X.K te) := by
  constructor
  intro pins s σ H R I h
  refine thn (he.run pins s σ H _ I h) fun u s1 hp => ?_
  obtain ⟨v, H1, I1, r1, b, a, xs, ev, hq, q⟩ := hp
  subst ev
  cases r1
  have fp : ∀ c ∈ [s1.heap.objs.size], FpOk X pins H1 c := fun c hc => by
    have e : c = s1.heap.objs.size := by simpa using hc
    subst e
    exact I1.fpOk (Nat.le_refl _) (I1.hok.fresh (Nat.le_refl _))
  cases b with
  | false =>
    obtain ⟨its, rv, p, hz⟩ := I1.list hq
    exact wpAny_pyIter_list p.isList ⟨_, [s1.heap.objs.size], _, Itl X.K a, H1, rfl, I1.kept (t' := s1.toks) fun _ _ w => Heap.get?_push_of_some _ w, turn_list a s1.heap.objs.size, ⟨_, Heap.get?_push_size _ rfl, rfl, rfl⟩, fp, q _ walk_list⟩
  | true =>
    obtain ⟨its, rv, p, hz⟩ := I1.tuple hq
    exact wpAny_pyIter_tuple (show s1.heap.IsTuple a its.toArray from p) ⟨_, [s1.heap.objs.size], _, Itt X.K a, H1, rfl, I1.kept (t' := s1.toks) fun _ _ w => Heap.get?_push_of_some _ w, turn_tuple a s1.heap.objs.size, ⟨_, Heap.get?_push_size _ rfl, rfl, rfl⟩, fp, q _ walk_tup⟩
end RX
/-! RX part l: what is walked, locked; the readings of iterables. -/
namespace RX
open PySem L2
section
variable {g : Gh} {F N N2 N' M M' T : Addr → Prop} {env env' env2 envL : En} {σ σ' σ2 : L2.St} {H H' H2 : Hp}
theorem SR.drop2 (s1 : SR g N env σ H) (t : Stp All env σ H env' σ' H') (s2 : SR g N' env' σ' H') (h : ∀ b, N b → N2 b) (h2 : ∀ b, N2 b → N' b) : SR g N2 env' σ' H' := by
  have st : Stab (Pv N' env' σ') H' H' := fun b u h _ => h
  have id : ∀ b, Pv N2 env' σ' b → H' b ≠ none → Pv N' env' σ' b := fun b z _ => z.elim (fun q => .inl (h2 b q)) .inr
  refine ⟨s2.len, fun i d e => ?_, fun i nw xs e => ?_, fun i xs e => ?_, fun i tt xs e => ?_, s2.inj, s2.keep, s2.dom, fun b e => s2.nst b (h2 b e)⟩
  · obtain ⟨v, h1, r⟩ := s2.val i d e
    exact ⟨v, h1, r.mono st id⟩
  · obtain ⟨a, vs, h1, r1, r, n, r5⟩ := s2.own i nw xs e
    exact ⟨a, vs, h1, r1, r.mono st id, fun z => n (h2 _ z), r5⟩
  · obtain ⟨a, vs, h1, r1, r, n, r5⟩ := s2.io i xs e
    exact ⟨a, vs, h1, r1, r.mono st id, fun z => n (h2 _ z), r5⟩
  · have e1 := t.noB i tt xs e
    obtain ⟨a, vs, k1, k2⟩ := s1.brw i tt xs e1
    obtain ⟨a', vs', q1, q2⟩ := s2.brw i tt xs e
    have e2 := (t.fixB i tt xs e1).2
    rw [e2, k1] at q1
    cases q1
    rcases k2 with k2 | ⟨_, k3, _⟩
    · exact ⟨a, vs, e2.trans k1, .inl k2⟩
    · rcases q2 with q2 | ⟨q2, _, r, q5⟩
      · exact ⟨a, vs', e2.trans k1, .inl q2⟩
      · exact ⟨a, vs', e2.trans k1, .inr ⟨q2, h _ k3, r.mono st id, q5⟩⟩
theorem SR.cg (s : SR g N env σ H) (h : ∀ b, N b ↔ N2 b) : SR g N2 env σ H := by
  have : N = N2 := funext fun b => propext (h b)
  rw [← this]; exact s

/-- slots locked, and how they are unlocked -/
structure Lk (g : Gh) (M : Addr → Prop) (env : En) (σ : L2.St) (H : Hp) (M' : Addr → Prop) (envL : En) (un : En → En) : Prop where
  sub : ∀ b, M b → M' b
  sr : SR g M' envL σ H
  pv : ∀ b, Pv M' envL σ b → Pv M env σ b
  bk : ∀ (M2 : Addr → Prop) env2 σ2 H2, (∀ b, M2 b → ¬ M' b) → Stp All envL σ H env2 σ2 H2 → SR g (orN M' M2) env2 σ2 H2 → SR g (orN M M2) (un env2) σ2 H2 ∧ Stp All env σ H (un env2) σ2 H2 ∧ ∀ b, Pv (orN M M2) (un env2) σ2 b → Pv (orN M' M2) env2 σ2 b
theorem Lk.rfl (s : SR g M env σ H) : Lk g M env σ H M env id := ⟨fun _ h => h, s, fun _ h => h, fun _ _ _ _ _ t s2 => ⟨s2, t, fun _ h => h⟩⟩
theorem lock1_ok (s : SR g M env σ H) (i : Nat) : ∃ M', Lk g M env σ H M' (lock1 env i) (unl1 env i) := by
  by_cases h : ∃ nw xs, env[i]? = some (some (.own nw xs))
  · obtain ⟨nw, xs, h⟩ := h
    obtain ⟨a, vs, ha, hv, hr, hN, hn, hio⟩ := s.own i nw xs h
    have e1 : lock1 env i = env.set i (some (.brw true xs)) := by unfold lock1; rw [h]
    have e2 : unl1 env i = fun e => e.set i (some (.own nw xs)) := by funext e; unfold unl1; rw [h]
    rw [e1, e2]
    refine ⟨adN M a, fun _ => .inl, lock_ok s h ha hv hr, fun b hb => ?_, fun M2 env2 σ2 H2 hM t s2 => ?_⟩
    · have lt := lt_of_get h
      rcases hb with (hb | hb) | ⟨j, ⟨sl, k1, k2⟩, k3⟩
      · exact .inl hb
      · exact .inr ⟨i, ⟨_, h, by rfl⟩, by rw [hb]; exact ha⟩
      · by_cases hj : j = i
        · subst hj
          rw [List.getElem?_set_self lt] at k1
          cases k1
          cases k2
        · rw [List.getElem?_set_ne (Ne.symm hj)] at k1
          exact .inr ⟨j, ⟨sl, k1, k2⟩, k3⟩
    · have s2 : SR g (adN (orN M M2) a) env2 σ2 H2 := s2.cg fun b => by
        constructor
        · rintro ((q | q) | q)
          · exact .inl (.inl q)
          · exact .inr q
          · exact .inl (.inr q)
        · rintro ((q | q) | q)
          · exact .inl (.inl q)
          · exact .inr q
          · exact .inl (.inr q)
      obtain ⟨r1, r2⟩ := unlock_ok s h ha (N2 := orN M M2) (fun _ => .inl) (fun z => by
        rcases z with z | z
        · exact hN z
        · exact hM _ z (.inr (by rfl))) t s2
      refine ⟨r1, r2, fun b hb => ?_⟩
      obtain ⟨e', eσ⟩ := t.fixB i true xs (List.getElem?_set_self (lt_of_get h))
      rw [ha] at eσ
      rcases hb with (hb | hb) | ⟨j, ⟨sl, k1, k2⟩, k3⟩
      · exact .inl (.inl (.inl hb))
      · exact .inl (.inr hb)
      · by_cases hj : j = i
        · subst hj
          rw [eσ] at k3
          cases k3
          exact .inl (.inl (.inr (by rfl)))
        · rw [List.getElem?_set_ne (Ne.symm hj)] at k1
          exact .inr ⟨j, ⟨sl, k1, k2⟩, k3⟩
  · have e1 : lock1 env i = env := by
      unfold lock1
      split
      · rename_i nw xs e
        exact absurd ⟨nw, xs, e⟩ h
      · rfl
    have e2 : unl1 env i = id := by
      funext e
      unfold unl1
      split
      · rename_i nw xs e
        exact absurd ⟨nw, xs, e⟩ h
      · rfl
    rw [e1, e2]
    exact ⟨M, Lk.rfl s⟩
theorem lockE_ok : ∀ (lks : List Nat) {M : Addr → Prop} {env : En}, SR g M env σ H → ∃ M', Lk g M env σ H M' (lockE env lks) fun e => unlockE env e lks
  | [], M, env, s => ⟨M, Lk.rfl s⟩
  | i :: is, M, env, s => by
    obtain ⟨M1, L⟩ := lock1_ok s i
    obtain ⟨M2, L2⟩ := lockE_ok is L.sr
    refine ⟨M2, fun b h => L2.sub b (L.sub b h), L2.sr, fun b h => L.pv b (L2.pv b h), fun M3 env2 σ2 H2 hM t s2 => ?_⟩
    obtain ⟨s3, t3, p3⟩ := L2.bk M3 env2 σ2 H2 hM t s2
    obtain ⟨s4, t4, p4⟩ := L.bk M3 _ σ2 H2 (fun b h k => hM b h (L2.sub b k)) t3 s3
    exact ⟨s4, t4, fun b h => p3 b (p4 b h)⟩

/-- what may be walked -/
def Wk (g : Gh) (M' : Addr → Prop) (envL : En) (σ : L2.St) (H : Hp) (b : Bool) (xs : List AV) (v : V) : Prop := ∃ a ws, v = .ref a ∧ Sq b g.K H a ws ∧ (b = true ∨ ¬ Pm envL σ a ∨ SqL g.K (fun _ => none) a ws) ∧ RVs g.K g.H0 H (Pv M' envL σ) xs ws
theorem wk_of {d : AV} {v : V} {b : Bool} {xs : List AV} {un : En → En} (f : Flat g F N M env σ H d v) (L : Lk g M env σ H M' envL un) (e : seqOf envL d = some (b, xs)) : Wk g M' envL σ H b xs v := by
  have st : Stab (Pv M env σ) H H := fun _ _ h _ => h
  have pv : ∀ b, Pv M' envL σ b → H b ≠ none → Pv M env σ b := fun b h _ => L.pv b h
  cases d with
  | tup ys =>
    cases e
    have f : RV g.K g.H0 H (Pv M env σ) (.tup xs) v := f
    cases f with
    | tup h r => exact ⟨_, _, rfl, h, .inl rfl, r.mono st pv⟩
  | lst nw ys =>
    cases e
    have f : RV g.K g.H0 H (Pv M env σ) (.lst nw xs) v := f
    cases f with
    | lst h n k r => exact ⟨_, _, rfl, SqL.of h, .inr (.inl fun z => n (L.pv _ (.inr z))), r.mono st pv⟩
  | frs ys =>
    cases e
    obtain ⟨a, ws, rfl, h2, h3, h4, h5, h6, h7⟩ := f
    exact ⟨a, ws, rfl, SqL.of h2, .inr (.inl fun z => (L.sr.pmLst z).2.1 (L.sub _ h7)), h5.mono st pv⟩
  | sl i =>
    have f : σ[i]? = some (some v) := f
    have e : (match envL[i]? with | some (some (.brw _ xs)) => some (false, xs) | _ => none) = some (b, xs) := e
    split at e
    · rename_i tb ys q
      cases e
      obtain ⟨a, ws, k1, k2⟩ := L.sr.brw _ tb xs q
      rw [f] at k1
      cases k1
      rcases k2 with ⟨k2, _, k4⟩ | ⟨k2, k3, k4, _⟩
      · exact ⟨a, ws, rfl, sqL_none k2, .inr (.inr k2), k4 _ _⟩
      · exact ⟨a, ws, rfl, .inl k2, .inr (.inl fun z => (L.sr.pmLst z).2.1 k3), k4⟩
    · cases e
  | non => cases e
  | bl _ => cases e
  | int _ => cases e
  | str _ => cases e
  | fn _ => cases e
  | jk _ _ => cases e
  | exo _ => cases e
  | dcx => cases e
  | ty _ => cases e
theorem wk_stays {b : Bool} {xs : List AV} {a : Addr} {ws : List V} (s : SR g M' envL σ H) (q : Sq b g.K H a ws) (k : b = true ∨ ¬ Pm envL σ a ∨ SqL g.K (fun _ => none) a ws) (r : RVs g.K g.H0 H (Pv M' envL σ) xs ws)
    (hM : ∀ b, M b → H b = none) (t : Stp All envL σ H env2 σ2 H2) : Sq b g.K H2 a ws ∧ RVs g.K g.H0 H2 (Pv (orN M' M) env2 σ2) xs ws := by
  refine ⟨?_, RVs.stepM s t (fun _ => .inl) (r.mono (fun _ _ h _ => h) fun b h hn => ?_)⟩
  · cases b with
    | true => exact (s.stab t).sqT q
    | false =>
      rcases k with k | k | k
      · cases k
      · rcases q with (q | ⟨u, q⟩) | q
        · exact .inl (.inl (t.ext _ _ q trivial k))
        · exact .inl (.inr ⟨u, t.ext _ _ q trivial k⟩)
        · exact .inr q
      · exact sqL_none k
  · rcases h with (h | h) | h
    · exact .inl h
    · exact absurd (hM b h) hn
    · exact .inr h

/-- a walk over the items -/
def WZ (g : Gh) (M' : Addr → Prop) (envL : En) (σ : L2.St) (H : Hp) (J : L2.It) (xs : List AV) : Prop := ∃ G Y, Walk J xs.length G Y ∧ ∀ (M2 : Addr → Prop) env2 σ2 H2, (∀ b, M2 b → H b = none) → Stp All envL σ H env2 σ2 H2 → SR g (orN M' M2) env2 σ2 H2 →
  G H2 ∧ ∀ i x H3, i < xs.length → Y i H2 x H3 → ∃ d, xs[i]? = some d ∧ Stp All env2 σ2 H2 env2 σ2 H3 ∧ Posts g (Fr env2 σ2 H2) env2 σ2 H3 (orN M' M2) [d] [x]
theorem get_lt {α : Type} {xs : List α} {i : Nat} (h : i < xs.length) : xs[i]? = some xs[i] := by simp [h]
theorem RVs.get' {K : PySem.W.Frag} {H0 : Hp} {P : Addr → Prop} : ∀ {xs : List AV} {vs : List V} {i : Nat} {v : V}, RVs K H0 H P xs vs → vs[i]? = some v → ∃ x, xs[i]? = some x ∧ RV K H0 H P x v
  | _, _, _, _, .nil, h => by simp at h
  | _, _, 0, _, .cons a _, h => by
    simp at h
    subst h
    exact ⟨_, rfl, a⟩
  | _, _, i + 1, x, .cons _ r, h => by
    simp at h
    obtain ⟨v, h1, h2⟩ := RVs.get' r h
    exact ⟨v, by simpa using h1, h2⟩
theorem wz_seq {b : Bool} {xs : List AV} {a : Addr} {ws : List V} {J : L2.It} (s : SR g M' envL σ H) (q : Sq b g.K H a ws) (k : b = true ∨ ¬ Pm envL σ a ∨ SqL g.K (fun _ => none) a ws) (r : RVs g.K g.H0 H (Pv M' envL σ) xs ws)
    (w : Walk J ws.length (fun H => Sq b g.K H a ws) (YAt ws)) : WZ g M' envL σ H J xs := by
  refine ⟨_, _, by rw [r.length]; exact w, fun M2 env2 σ2 H2 hM t s2 => ?_⟩
  obtain ⟨q2, r2⟩ := wk_stays s q k r hM t
  refine ⟨q2, fun i x H3 hi ⟨e, hx⟩ => ?_⟩
  subst e
  obtain ⟨d, hd, rd⟩ := r2.get' hx
  exact ⟨d, hd, Stp.refl, post_sto s2 rd⟩
theorem wz_rev {b : Bool} {xs : List AV} {a : Addr} {ws : List V} {J : L2.It} (s : SR g M' envL σ H) (q : Sq b g.K H a ws) (k : b = true ∨ ¬ Pm envL σ a ∨ SqL g.K (fun _ => none) a ws) (r : RVs g.K g.H0 H (Pv M' envL σ) xs ws)
    (w : Walk J ws.length (fun H => Sq b g.K H a ws) (fun i H x H' => H' = H ∧ ws[ws.length - 1 - i]? = some x)) : WZ g M' envL σ H J xs.reverse := by
  refine ⟨_, _, by rw [List.length_reverse, r.length]; exact w, fun M2 env2 σ2 H2 hM t s2 => ?_⟩
  obtain ⟨q2, r2⟩ := wk_stays s q k r hM t
  refine ⟨q2, fun i x H3 hi ⟨e, hx⟩ => ?_⟩
  subst e
  obtain ⟨d, hd, rd⟩ := r2.get' hx
  rw [List.length_reverse] at hi
  refine ⟨d, ?_, Stp.refl, post_sto s2 rd⟩
  rw [List.getElem?_reverse hi, r.length]
  exact hd
theorem enumL_get : ∀ {n : Nat} {xs : List AV} {i : Nat} {d : AV}, xs[i]? = some d → (enumL n xs)[i]? = some (.tup [.int ((n + i : Nat) : Int), d])
  | _, [], _, _, h => by simp at h
  | n, x :: xs, 0, d, h => by simp at h; subst h; rfl
  | n, x :: xs, i + 1, d, h => by
    simp at h
    have := enumL_get (n := n + 1) h
    simp only [enumL, List.getElem?_cons_succ, this]
    rw [show n + 1 + i = n + (i + 1) by omega]
theorem enumL_length : ∀ {n : Nat} {xs : List AV}, (enumL n xs).length = xs.length
  | _, [] => rfl
  | n, x :: xs => by simp only [enumL, List.length_cons, enumL_length]
theorem zipL_get : ∀ {xs ys : List AV} {i : Nat} {x y : AV}, xs[i]? = some x → ys[i]? = some y → (zipL xs ys)[i]? = some (.tup [x, y])
  | [], _, _, _, _, h, _ => by simp at h
  | _ :: _, [], _, _, _, _, h => by simp at h
  | a :: xs, b :: ys, 0, x, y, h, k => by simp at h k; subst h k; rfl
  | a :: xs, b :: ys, i + 1, x, y, h, k => by
    simp at h k
    simpa [zipL] using zipL_get h k
theorem zipL_length : ∀ {xs ys : List AV}, (zipL xs ys).length = min xs.length ys.length
  | [], _ => by simp [zipL]
  | _ :: _, [] => by simp [zipL]
  | a :: xs, b :: ys => by simp only [zipL, List.length_cons, zipL_length]; omega
theorem wz_pair {J : L2.It} {xs : List AV} {G : Hp → Prop} {f1 f2 : Nat → Option V} (hw : Walk J xs.length G (YPair f1 f2))
    (hg : ∀ (M2 : Addr → Prop) env2 σ2 H2, (∀ b, M2 b → H b = none) → Stp All envL σ H env2 σ2 H2 → SR g (orN M' M2) env2 σ2 H2 → G H2 ∧ ∀ i x y, i < xs.length → f1 i = some x → f2 i = some y → ∃ d1 d2, xs[i]? = some (.tup [d1, d2]) ∧ RVs g.K g.H0 H2 (Pv (orN M' M2) env2 σ2) [d1, d2] [x, y]) : WZ g M' envL σ H J xs := by
  refine ⟨G, _, hw, fun M2 env2 σ2 H2 hM t s2 => ?_⟩
  obtain ⟨g1, g2⟩ := hg M2 env2 σ2 H2 hM t s2
  refine ⟨g1, fun i v H3 hi ⟨T, x, y, e1, e2, e3, e4, e5⟩ => ?_⟩
  subst e1 e3
  obtain ⟨d1, d2, h1, h2⟩ := g2 i x y hi e4 e5
  exact ⟨_, h1, (s2.new e2).2, post_tup s2 h2 e2⟩
theorem wz_enum {b : Bool} {xs : List AV} {a : Addr} {ws : List V} (s : SR g M' envL σ H) (q : Sq b g.K H a ws) (k : b = true ∨ ¬ Pm envL σ a ∨ SqL g.K (fun _ => none) a ws) (r : RVs g.K g.H0 H (Pv M' envL σ) xs ws) :
    WZ g M' envL σ H (Jx (fun H => Sq b g.K H a ws) ws.length (YPair (fun i => some (.int (i : Nat))) fun i => ws[i]?)) (enumL 0 xs) := by
  refine wz_pair (by rw [enumL_length, r.length]; exact walk_jx) fun M2 env2 σ2 H2 hM t s2 => ?_
  obtain ⟨q2, r2⟩ := wk_stays s q k r hM t
  refine ⟨q2, fun i x y hi e1 e2 => ?_⟩
  cases e1
  obtain ⟨d, hd, rd⟩ := r2.get' e2
  refine ⟨.int (i : Nat), d, ?_, .cons (.int _) (.cons rd .nil)⟩
  have := enumL_get (n := 0) hd
  simpa using this
theorem wz_zip {b c : Bool} {xs ys : List AV} {a d : Addr} {ws us : List V} (s : SR g M' envL σ H) (q : Sq b g.K H a ws) (k : b = true ∨ ¬ Pm envL σ a ∨ SqL g.K (fun _ => none) a ws) (r : RVs g.K g.H0 H (Pv M' envL σ) xs ws)
    (q' : Sq c g.K H d us) (k' : c = true ∨ ¬ Pm envL σ d ∨ SqL g.K (fun _ => none) d us) (r' : RVs g.K g.H0 H (Pv M' envL σ) ys us) :
    WZ g M' envL σ H (Jx (fun H => Sq b g.K H a ws ∧ Sq c g.K H d us) (min ws.length us.length) (YPair (fun i => ws[i]?) fun i => us[i]?)) (zipL xs ys) := by
  refine wz_pair (by rw [zipL_length, r.length, r'.length]; exact walk_jx) fun M2 env2 σ2 H2 hM t s2 => ?_
  obtain ⟨q2, r2⟩ := wk_stays s q k r hM t
  obtain ⟨q3, r3⟩ := wk_stays s q' k' r' hM t
  refine ⟨⟨q2, q3⟩, fun i x y hi e1 e2 => ?_⟩
  obtain ⟨d1, hd1, rd1⟩ := r2.get' e1
  obtain ⟨d2, hd2, rd2⟩ := r3.get' e2
  exact ⟨d1, d2, zipL_get hd1 hd2, .cons rd1 (.cons rd2 .nil)⟩
theorem wz_ints {J : L2.It} {n : Nat} {f : Nat → Int} (s : SR g M' envL σ H) (w : Walk J n (fun _ => True) (YFn fun i => .int (f i))) : WZ g M' envL σ H J ((List.range n).map fun i => .int (f i)) := by
  refine ⟨fun _ => True, YFn fun i => .int (f i), by rw [List.length_map, List.length_range]; exact w, fun M2 env2 σ2 H2 hM t s2 => ⟨trivial, fun i x H3 hi y => ?_⟩⟩
  obtain ⟨e1, e2⟩ := y
  subst e1 e2
  rw [List.length_map, List.length_range] at hi
  exact ⟨.int (f i), by simp [hi], Stp.refl, post_sto s2 (.int _)⟩
end

/-! ### the reading -/
section
variable (g : Gh) (W : WX) (cl : Str → Value)
def tI (r : En → Option (R Src)) : TI := fun σ H Rr => ∃ N env, SR g N env σ H ∧
  wpR (r env) (fun s env1 => ∀ J H1 M M', Stp All env σ H env1 σ H1 → (∀ b, N b → M b) → Lk g M env1 σ H1 M' (lockE env1 s.lk) (fun e => unlockE env1 e s.lk) → SR g N env1 σ H1 → WZ g M' (lockE env1 s.lk) σ H1 J s.xs → Rr J H1) fun c env' => ∀ H' (dd : Unit), Stp All env σ H env' σ H' → SR g N env' σ H' → W (cl c) none σ H'
end
theorem PI.weak {X : Cx} {tg e : Expr} {t t' : TI} (h : PI X tg e t) (k : ∀ σ H Q, t' σ H Q → t σ H Q) : PI X tg e t' := ⟨fun pins s σ H Q I q => h.run pins s σ H Q I (k _ _ _ q)⟩
section
variable {g : Gh} {W : WX} {cl : Str → Value} {G : Calls} {N M : Addr → Prop} {σ : L2.St} {H : Hp} {Q : L2.It → Hp → Prop}
theorem lastN_sub {d : List AV} {v : List V} (hl : d.length = v.length) (b : Addr) (h : N b) : lastN N d v b := (lastN_iff hl).mpr (.inl h)
theorem tI_seq {e : Ex} (h : tI g W cl (evI G (.seq e)) σ H Q) : iSeqX g.K (tE g W cl (ev G e)) σ H Q := by
  obtain ⟨N, env, s, h⟩ := h
  unfold evI at h
  refine ⟨N, env, s, wpR_mono (wpR_bnd h) (fun d env1 h H1 v t1 p1 => ?_) fun _ _ h => h⟩
  obtain ⟨M', L⟩ := lockE_ok (lkL [d]) p1.last
  split at h
  · rename_i b xs e
    obtain ⟨v', ev, fl⟩ := p1.flat 0 d rfl
    cases ev
    obtain ⟨a, ws, rfl, q, k, r⟩ := wk_of fl L e
    exact ⟨b, a, ws, rfl, q, fun J w => h J H1 _ M' t1 (lastN_sub p1.length) L p1.sr (wz_seq L.sr q k r w)⟩
  · exact h.elim
theorem tI_enum {e : Ex} (h : tI g W cl (evI G (.enum e)) σ H Q) : iEnumX g.K (tCons (tE g W cl (ev G e)) tNil) σ H Q := by
  obtain ⟨N, env, s, h⟩ := h
  unfold evI at h
  refine ⟨N, env, s, wpR_mono (wpR_bnd h) (fun d env1 h H1 v t1 p1 => ?_) fun _ _ h => h⟩
  obtain ⟨M', L⟩ := lockE_ok (lkL [d]) p1.last
  split at h
  · rename_i b xs e
    obtain ⟨v', ev, fl⟩ := p1.flat 0 d rfl
    cases ev
    obtain ⟨a, ws, rfl, q, k, r⟩ := wk_of fl L e
    exact ⟨b, a, ws, rfl, q, h _ H1 _ M' t1 (lastN_sub p1.length) L p1.sr (wz_enum L.sr q k r)⟩
  · exact h.elim
theorem tI_zip {e e2 : Ex} (h : tI g W cl (evI G (.zip e e2)) σ H Q) : iZipX g.K (tCons (tE g W cl (ev G e)) (tCons (tE g W cl (ev G e2)) tNil)) σ H Q := by
  obtain ⟨N, env, s, h⟩ := h
  unfold evI at h
  refine ⟨N, env, s, wpR_mono (wpR_bnd h) ?_ fun _ _ h => h⟩
  intro d env1 h H1 v t1 p1
  refine ⟨nxN N d v, env1, p1.2, wpR_mono (wpR_bnd h) ?_ ?_⟩
  · intro d2 env2 h H2 v2 t2 p2
    have p3 := p1.cons t2 p2 (Fr.sub t1)
    have t3 := t1.trans t2
    obtain ⟨M', L⟩ := lockE_ok (lkL [d, d2]) p3.last
    split at h
    · rename_i b xs c ys e1 e2
      obtain ⟨v', ev, fl⟩ := p3.flat 0 d rfl
      cases ev
      obtain ⟨v', ev, fl2⟩ := p3.flat 1 d2 rfl
      cases ev
      obtain ⟨a, ws, rfl, q, k, r⟩ := wk_of fl L e1
      obtain ⟨a2, us, rfl, q2, k2, r2⟩ := wk_of fl2 L e2
      exact ⟨b, c, a, a2, ws, us, rfl, q, q2, h _ H2 _ M' t3 (lastN_sub p3.length) L p3.sr (wz_zip L.sr q k r q2 k2 r2)⟩
    · exact h.elim
  · intro c env2 h H2 dd t2 s2
    exact h H2 dd (t1.trans t2) (SR.drop p1.sr t2 s2 fun _ => nxN_sub)
theorem tI_rev {e : Ex} (h : tI g W cl (evI G (.rev e)) σ H Q) : RT.iRevA g.K (tE g W cl (ev G e)) σ H Q := by
  obtain ⟨N, env, s, h⟩ := h
  unfold evI at h
  refine ⟨N, env, s, wpR_mono (wpR_bnd h) (fun d env1 h H1 v t1 p1 => ?_) fun _ _ h => h⟩
  obtain ⟨M', L⟩ := lockE_ok (lkL [d]) p1.last
  split at h
  · rename_i b xs e
    obtain ⟨v', ev, fl⟩ := p1.flat 0 d rfl
    cases ev
    obtain ⟨a, ws, rfl, q, k, r⟩ := wk_of fl L e
    refine ⟨a, ws, rfl, ?_⟩
    cases b with
    | false => exact .inl ⟨q, h _ H1 _ M' t1 (lastN_sub p1.length) L p1.sr (wz_rev L.sr q k r walk_rev)⟩
    | true =>
      refine .inr ⟨q, h _ H1 _ M' t1 (lastN_sub p1.length) L p1.sr (wz_rev L.sr q k r ⟨fun i H hi q => ⟨hi, ws, ws[ws.length - 1 - i]'(by omega), q, by simp [show ws.length - 1 - i < ws.length by omega]⟩, fun _ _ => Nat.le_refl _, fun _ _ _ _ _ q y => ⟨y.1, y.2 ws q⟩⟩)⟩
  · exact h.elim
theorem rg_it {lk : List Nat} {xs : List AV} {env1 : En} {H1 : Hp} (s : SR g N env1 σ H1) {J : L2.It} {n : Nat} {f : Nat → Int} (w : Walk J n (fun _ => True) (YFn fun i => .int (f i)))
    (h : ∀ J H1' M M', Stp All env1 σ H1 env1 σ H1' → (∀ b, N b → M b) → Lk g M env1 σ H1' M' (lockE env1 []) (fun e => unlockE env1 e []) → SR g N env1 σ H1' → WZ g M' (lockE env1 []) σ H1' J ((List.range n).map fun i => .int (f i)) → Q J H1') : Q J H1 :=
  h J H1 N N Stp.refl (fun _ h => h) ⟨fun _ h => h, s, fun _ h => h, fun _ _ _ _ _ t s2 => ⟨s2, t, fun _ h => h⟩⟩ s (wz_ints s w)
theorem tI_rrg {e : Ex} (h : tI g W cl (evI G (.rrg e)) σ H Q) : iRevR (tRg1 (tE g W cl (ev G e))) σ H Q := by
  obtain ⟨N, env, s, h⟩ := h
  have h : wpR (bnd (ev G e env) rrgK) _ _ := h
  refine ⟨N, env, s, wpR_mono (wpR_bnd h) (fun d env1 h H1 v t1 p1 => ?_) fun _ _ h => h⟩
  unfold rrgK at h
  split at h
  · rename_i n
    split at h
    · rename_i hr
      cases hd_int p1.1
      have s1 := p1.sr
      have h : ∀ J H1' M M', Stp All env1 σ H1 env1 σ H1' → (∀ b, N b → M b) → Lk g M env1 σ H1' M' (lockE env1 []) (fun e => unlockE env1 e []) → SR g N env1 σ H1' → WZ g M' (lockE env1 []) σ H1' J _ → Q J H1' := fun J H1' M M' t => h J H1' M M' (t1.trans t)
      simp only [rgOk, Bool.and_eq_true, decide_eq_true_eq] at hr
      refine ⟨n, rfl, by decide, by decide, hr.1.2, hr.2, ?_⟩
      have e0 : (n - 0).toNat = n.toNat := by simp
      rw [e0]
      have e1 : (0 : Int) + ((n.toNat : Nat) : Int) - 1 = (n.toNat : Int) - 1 := by omega
      rw [e1]
      exact rg_it (lk := []) (xs := []) s1 (f := fun i => (n.toNat : Int) - 1 + (i : Nat) * (-1)) walk_rangeC h
    · exact h.elim
  · exact h.elim
theorem tI_rg {es : Exs} (h : tI g W cl (evI G (.rg es)) σ H Q) : ∃ N env, SR g N env σ H ∧ wpR (evs G es env) (fun ds env1 => ∀ H1 vs, Stp All env σ H env1 σ H1 → Posts g (Fr env σ H) env1 σ H1 N ds vs →
    (ds.length = 1 → ∃ j : Int, vs = [.int j] ∧ -(2 ^ 62) ≤ j ∧ j < 2 ^ 62 ∧ Q (Itr 0 j.toNat) H1) ∧
    (ds.length = 2 → ∃ i j : Int, vs = [.int i, .int j] ∧ (-(2 ^ 62) ≤ i ∧ i < 2 ^ 62 ∧ -(2 ^ 62) ≤ j ∧ j < 2 ^ 62) ∧ Q (Itr i (j - i).toNat) H1) ∧
    (ds.length = 3 → ∃ (i j c : Int) (n : Nat), vs = [.int i, .int j, .int c] ∧ RgC i j c n ∧ Q (Itc i c n) H1)) fun c env' => ∀ H' (dd : Unit), Stp All env σ H env' σ H' → SR g N env' σ H' → W (cl c) none σ H' := by
  obtain ⟨N, env, s, h⟩ := h
  unfold evI at h
  refine ⟨N, env, s, wpR_mono (wpR_bnd h) (fun ds env1 h H1 vs t1 p1 => ?_) fun _ _ h => h⟩
  have hl := p1.length
  split at h
  · rename_i xs e
    have s1 := p1.sr
    have h : ∀ J H1' M M', Stp All env1 σ H1 env1 σ H1' → (∀ b, N b → M b) → Lk g M env1 σ H1' M' (lockE env1 []) (fun e => unlockE env1 e []) → SR g N env1 σ H1' → WZ g M' (lockE env1 []) σ H1' J xs → Q J H1' := fun J H1' M M' t => h J H1' M M' (t1.trans t)
    have fl := p1.flat
    have int_ : ∀ (k : Nat) (i : Int), ds[k]? = some (.int i) → vs[k]? = some (.int i) := fun k i e => by
      obtain ⟨v, ev, r⟩ := fl k _ e
      have r : RV g.K g.H0 H1 (Pv _ env1 σ) (.int i) v := r
      cases r
      exact ev
    unfold rngL at e
    split at e
    · rename_i n
      split at e
      · rename_i hr
        cases e
        have hv := int_ 0 n rfl
        refine ⟨fun _ => ⟨n, ?_, ?_⟩, fun z => by simp at z, fun z => by simp at z⟩
        · cases vs with
          | nil => simp at hl
          | cons v vs =>
            cases vs with
            | cons _ _ => simp at hl
            | nil => simp at hv; rw [hv]
        · simp only [rgOk, Bool.and_eq_true, decide_eq_true_eq] at hr
          refine ⟨hr.1.2, hr.2, ?_⟩
          have hh := h
          unfold rgL at hh
          have e0 : (n - 0).toNat = n.toNat := by simp
          rw [e0] at hh
          exact rg_it (lk := []) (xs := []) s1 (f := fun i => 0 + (i : Nat)) walk_range hh
      · cases e
    · rename_i m n
      split at e
      · rename_i hr
        cases e
        have hv := int_ 0 m rfl
        have hv2 := int_ 1 n rfl
        refine ⟨fun z => by simp at z, fun _ => ⟨m, n, ?_, ?_⟩, fun z => by simp at z⟩
        · match vs, hl with
          | [v, v2], _ => simp at hv hv2; rw [hv, hv2]
        · simp only [rgOk, Bool.and_eq_true, decide_eq_true_eq] at hr
          exact ⟨⟨hr.1.1.1, hr.1.1.2, hr.1.2, hr.2⟩, rg_it (lk := []) (xs := []) s1 (f := fun i => m + (i : Nat)) walk_range h⟩
      · cases e
    · rename_i m n c
      split at e
      · rename_i hr
        cases e
        have hv := int_ 0 m rfl
        have hv2 := int_ 1 n rfl
        have hv3 := int_ 2 c rfl
        simp only [Bool.and_eq_true, decide_eq_true_eq] at hr
        obtain ⟨⟨⟨c0, c1⟩, c2⟩, c3⟩ := hr
        refine ⟨fun z => by simp at z, fun z => by simp at z, fun _ => ⟨m, n, c, _, ?_, ⟨c0, c1, c2, c3⟩, ?_⟩⟩
        · match vs, hl with
          | [v, v2, v3], _ => simp at hv hv2 hv3; rw [hv, hv2, hv3]
        · exact rg_it (lk := []) (xs := []) s1 (f := fun i => m + (i : Nat) * c) walk_rangeC h
      · cases e
    · cases e
  · exact h.elim
end
end RX
/-! RX part m: targets; comprehensions. -/
namespace RX
open PySem L2

mutual
/-- the slots of a target -/
def tgS : Tg → List Nat
  | .nm i => [i]
  | .tp ts => tgSs ts
def tgSs : List Tg → List Nat
  | [] => []
  | t :: ts => tgS t ++ tgSs ts
end
section
variable (g : Gh)
def tG (t : Tg) : TG := fun v σ H Q => ∃ env0 σ0 Hs N env d env', Stp All env0 σ0 Hs env σ H ∧ Posts g (Fr env0 σ0 Hs) env σ H N [d] [v] ∧ asgT t d env = some env' ∧
  ∀ σ', SR g N env' σ' H → Stp All env0 σ0 Hs env' σ' H → σ'.length = σ.length → (∀ j, j ∉ tgS t → σ'[j]? = σ[j]?) → Q σ' H
def tGs (ts : List Tg) : TGs := fun vs σ H Q => ∃ env0 σ0 Hs N env ds env', Stp All env0 σ0 Hs env σ H ∧ SR g N env σ H ∧ RVs g.K g.H0 H (Pv N env σ) ds vs ∧ asgTs ts ds env = some env' ∧
  ∀ σ', SR g N env' σ' H → Stp All env0 σ0 Hs env' σ' H → σ'.length = σ.length → (∀ j, j ∉ tgSs ts → σ'[j]? = σ[j]?) → Q σ' H
end
section
variable {g : Gh} {F N N2 N' M M' T : Addr → Prop} {env env' env0 env2 envL : En} {σ σ' σ0 σ2 : L2.St} {H H' Hs H2 : Hp} {Q : L2.St → Hp → Prop} {v : V} {vs : List V}
theorem tG_nm {i : Nat} (h : tG g (.nm i) v σ H Q) : gName i v σ H Q := by
  obtain ⟨env0, σ0, Hs, N, env, d, env', t, p, e, k⟩ := h
  have e : asgN i d env = some env' := e
  obtain ⟨s1, t1⟩ := asgN_ok t p e
  exact k _ s1 t1 (List.length_set ..) fun j hj => List.getElem?_set_ne (by simpa [tgS, eq_comm] using hj)
theorem asgTs_len : ∀ {ts : List Tg} {ds : List AV} {env env' : En}, asgTs ts ds env = some env' → ds.length = ts.length
  | [], [], _, _, _ => rfl
  | [], _ :: _, _, _, h => by cases h
  | _ :: _, [], _, _, h => by cases h
  | t :: ts, d :: ds, env, env', h => by
    unfold asgTs at h
    split at h
    · simp [asgTs_len h]
    · cases h
theorem tG_tp {ts : List Tg} {n : Nat} (hn : ts.length = n) (h : tG g (.tp ts) v σ H Q) : gTup g.K n (tGs g ts) v σ H Q ∨ gUnl g.K n (tGs g ts) v σ H Q := by
  obtain ⟨env0, σ0, Hs, N, env, d, env', t, p, e, k⟩ := h
  have lists : ∀ ds, asL env d = some ds → asgTs ts ds env = some env' → gUnl g.K n (tGs g ts) v σ H Q := fun ds e1 e2 => by
    obtain ⟨a, ws, rfl, h1, h2⟩ := p.list e1
    exact ⟨a, ws, rfl, h1, by rw [← h2.length, asgTs_len e2, hn], env0, σ0, Hs, N, env, ds, env', t, p.sr, h2, e2, fun σ' a b c d => k σ' a b c (by simpa [tgS] using d)⟩
  have key : (match asL env d with | some ds => asgTs ts ds env | none => none) = some env' → gTup g.K n (tGs g ts) v σ H Q ∨ gUnl g.K n (tGs g ts) v σ H Q := fun e => by
    cases q : asL env d with
    | none => rw [q] at e; cases e
    | some ds => rw [q] at e; exact .inr (lists ds q e)
  cases d with
  | tup ds =>
    have e : asgTs ts ds env = some env' := e
    obtain ⟨p1, p2⟩ := p
    have p2 : SR g N env σ H := by cases v <;> exact p2
    have r : RV g.K g.H0 H (Pv N env σ) (.tup ds) v := RV.mono (fun _ _ h _ => h) (fun b q _ => q.imp .inl id) p1
    cases r with
    | tup q r =>
      refine .inl ⟨_, _, rfl, q, ?_, env0, σ0, Hs, N, env, ds, env', t, p2, r, e, fun σ' a b c d => k σ' a b c ?_⟩
      · rw [← r.length, asgTs_len e, hn]
      · simpa [tgS] using d
  | non => cases e
  | bl _ => cases e
  | int _ => cases e
  | str _ => cases e
  | lst _ _ => exact key e
  | frs _ => exact key e
  | sl _ => exact key e
  | fn _ => cases e
  | jk _ _ => cases e
  | exo _ => cases e
  | dcx => cases e
  | ty _ => cases e
theorem tGs_nil (h : tGs g [] vs σ H Q) : gNil vs σ H Q := by
  obtain ⟨env0, σ0, Hs, N, env, ds, env', t, s, r, e, k⟩ := h
  cases ds with
  | nil =>
    cases e
    cases r
    exact ⟨rfl, k σ s t rfl fun _ _ => rfl⟩
  | cons _ _ => cases e
theorem tGs_cons {t : Tg} {ts : List Tg} (h : tGs g (t :: ts) vs σ H Q) : gCons (tG g t) (tGs g ts) vs σ H Q := by
  obtain ⟨env0, σ0, Hs, N, env, ds, env', tt, s, r, e, k⟩ := h
  cases r with
  | nil => cases e
  | cons a r =>
    unfold asgTs at e
    split at e
    · rename_i env1 e1
      refine ⟨_, _, rfl, env, σ, H, N, env, _, env1, Stp.refl, post_sto s a, e1, fun σ1 s1 t1 l1 k1 => ?_⟩
      refine ⟨env0, σ0, Hs, N, env1, _, env', tt.trans t1, s1, RVs.step s t1 r, e, fun σ2 s2 t2 l2 k2 => k σ2 s2 t2 (l2.trans l1) fun j hj => ?_⟩
      have hj : j ∉ tgS t ∧ j ∉ tgSs ts := by simpa [tgSs, not_or] using hj
      exact (k2 j hj.2).trans (k1 j hj.1)
    · cases e

/-! ### slots forgotten and set back -/
theorem wipeE_len : ∀ {own : List Nat}, (wipeE env own).length = env.length
  | [] => rfl
  | i :: is => by unfold wipeE; rw [List.length_set, wipeE_len]
theorem wipeE_in : ∀ {own : List Nat} {j : Nat} {s : Slot}, (wipeE env own)[j]? = some (some s) → j ∉ own ∧ env[j]? = some (some s)
  | [], _, _, h => ⟨by simp, h⟩
  | i :: is, j, s, h => by
    unfold wipeE at h
    by_cases hj : i = j
    · subst hj
      by_cases hl : i < (wipeE env is).length
      · rw [List.getElem?_set_self hl] at h; cases h
      · rw [List.getElem?_eq_none (by simpa using hl)] at h; cases h
    · rw [List.getElem?_set_ne hj] at h
      obtain ⟨h1, h2⟩ := wipeE_in h
      exact ⟨by simp only [List.mem_cons, not_or]; exact ⟨fun e => hj e.symm, h1⟩, h2⟩
theorem wipeE_out : ∀ {own : List Nat} {j : Nat}, j ∉ own → (wipeE env own)[j]? = env[j]?
  | [], _, _ => rfl
  | i :: is, j, h => by
    simp only [List.mem_cons, not_or] at h
    unfold wipeE
    rw [List.getElem?_set_ne (fun e => h.1 e.symm), wipeE_out h.2]
theorem wipe_out : ∀ {own : List Nat} {j : Nat}, j ∉ own → (wipe σ own)[j]? = σ[j]?
  | [], _, _ => rfl
  | i :: is, j, h => by
    simp only [List.mem_cons, not_or] at h
    unfold wipe
    rw [List.getElem?_set_ne (fun e => h.1 e.symm), wipe_out h.2]
theorem wipe_at : ∀ {own : List Nat} {j : Nat}, j ∈ own → j < σ.length → (wipe σ own)[j]? = some none
  | [], _, h, _ => by simp at h
  | i :: is, j, h, hl => by
    unfold wipe
    by_cases hj : i = j
    · subst hj
      rw [List.getElem?_set_self (by rw [wipe_length]; exact hl)]
    · rw [List.getElem?_set_ne hj]
      exact wipe_at ((List.mem_cons.mp h).resolve_left fun e => hj e.symm) hl
theorem wipe_cg {own : List Nat} (hl : σ'.length = σ.length) (h : ∀ j, j ∉ own → σ'[j]? = σ[j]?) : wipe σ' own = wipe σ own := by
  apply List.ext_getElem?
  intro j
  by_cases hj : j ∈ own
  · by_cases lt : j < σ.length
    · rw [wipe_at hj lt, wipe_at hj (by rw [hl]; exact lt)]
    · rw [List.getElem?_eq_none (by rw [wipe_length, hl]; omega), List.getElem?_eq_none (by rw [wipe_length]; omega)]
  · rw [wipe_out hj, wipe_out hj, h j hj]
theorem wipe_pm {own : List Nat} {b : Addr} (h : Pm (wipeE env own) (wipe σ own) b) : Pm env σ b := by
  obtain ⟨j, ⟨sl, k1, k2⟩, k3⟩ := h
  obtain ⟨hj, e⟩ := wipeE_in k1
  exact ⟨j, ⟨sl, e, k2⟩, (wipe_some k3).1⟩
theorem wipe_sr {own : List Nat} (s : SR g N env σ H) : SR g N (wipeE env own) (wipe σ own) H := by
  have st : Stab (Pv N env σ) H H := fun _ _ h _ => h
  have hP : ∀ b, Pv N (wipeE env own) (wipe σ own) b → H b ≠ none → Pv N env σ b := fun b h _ => h.imp id wipe_pm
  refine ⟨by rw [wipeE_len, wipe_length]; exact s.len, fun j d e => ?_, fun j nw xs e => ?_, fun j xs e => ?_, fun j t xs e => ?_, fun i j b hi hj ei ej => ?_, s.keep, s.dom, s.nst⟩
  · obtain ⟨hj, e⟩ := wipeE_in e
    obtain ⟨v, e1, r⟩ := s.val j d e
    exact ⟨v, by rw [wipe_out hj]; exact e1, r.mono st hP⟩
  · obtain ⟨hj, e⟩ := wipeE_in e
    obtain ⟨a, ws, e1, e2, r, e3⟩ := s.own j nw xs e
    exact ⟨a, ws, by rw [wipe_out hj]; exact e1, e2, r.mono st hP, e3⟩
  · obtain ⟨hj, e⟩ := wipeE_in e
    obtain ⟨a, ws, e1, e2, r, e3⟩ := s.io j xs e
    exact ⟨a, ws, by rw [wipe_out hj]; exact e1, e2, r.mono st hP, e3⟩
  · obtain ⟨hj, e⟩ := wipeE_in e
    obtain ⟨a, ws, e1, e2⟩ := s.brw j t xs e
    refine ⟨a, ws, by rw [wipe_out hj]; exact e1, ?_⟩
    rcases e2 with e2 | ⟨e2, e3, r, e4⟩
    · exact .inl e2
    · exact .inr ⟨e2, e3, r.mono st hP, e4⟩
  · have up : ∀ j, IsMut (wipeE env own) j → IsMut env j := fun j ⟨sl, k1, k2⟩ => ⟨sl, (wipeE_in k1).2, k2⟩
    exact s.inj i j b (up i hi) (up j hj) (wipe_some ei).1 (wipe_some ej).1
/-- slots that hold nothing or a plain value -/
def Plain (env : En) (own : List Nat) : Prop := ∀ j ∈ own, ∀ s, env[j]? = some (some s) → ∃ d, s = .val d
theorem wipe_stp {own : List Nat} (t : Stp All env0 σ0 Hs env σ H) (h : Plain env0 own) : Stp All env0 σ0 Hs (wipeE env own) (wipe σ own) H := by
  refine ⟨t.ext, fun b hb => t.grow b (wipe_pm hb), t.dom, fun j tt xs e => ?_, fun j xs e => ?_, fun j tt xs e => t.noB j tt xs (wipeE_in e).2⟩
  · obtain ⟨e1, e2⟩ := t.fixB j tt xs e
    have hj : j ∉ own := fun z => by obtain ⟨d, q⟩ := h j z _ e; cases q
    rw [wipeE_out hj, wipe_out hj]
    exact ⟨e1, e2⟩
  · obtain ⟨e1, e2⟩ := t.fixI j xs e
    have hj : j ∉ own := fun z => by obtain ⟨d, q⟩ := h j z _ e; cases q
    rw [wipeE_out hj, wipe_out hj]
    exact ⟨e1, e2⟩
theorem plain_wipe {own : List Nat} : Plain (wipeE env own) own := fun j hj s e => absurd hj (wipeE_in e).1
theorem lockE_get : ∀ {lks : List Nat} {env : En} {j : Nat}, j ∉ lks → (lockE env lks)[j]? = env[j]?
  | [], _, _, _ => rfl
  | i :: is, env, j, h => by
    simp only [List.mem_cons, not_or] at h
    unfold lockE
    rw [lockE_get h.2]
    unfold lock1
    split
    · rw [List.getElem?_set_ne (fun e => h.1 e.symm)]
    · rfl
theorem ownOk_plain : ∀ {own : List Nat}, ownOk env own = true → Plain env own
  | [], _, j, hj, _, _ => by simp at hj
  | i :: is, h, j, hj, s, e => by
    unfold ownOk at h
    simp only [Bool.and_eq_true] at h
    rcases List.mem_cons.mp hj with rfl | hj
    · have h1 := h.1
      rw [e] at h1
      cases s with
      | val d => exact ⟨d, rfl⟩
      | own nw xs => cases h1
      | io xs => cases h1
      | brw t xs => cases h1
    · exact ownOk_plain h.2 j hj s e
theorem backE_len : ∀ {own : List Nat}, (backE env0 env own).length = env.length
  | [] => rfl
  | i :: is => by
    unfold backE
    split
    · rw [List.length_set, backE_len]
    · exact backE_len
theorem backE_out : ∀ {own : List Nat} {j : Nat}, j ∉ own → (backE env0 env own)[j]? = env[j]?
  | [], _, _ => rfl
  | i :: is, j, h => by
    simp only [List.mem_cons, not_or] at h
    unfold backE
    split
    · rw [List.getElem?_set_ne (fun e => h.1 e.symm), backE_out h.2]
    · exact backE_out h.2
theorem backE_in : ∀ {own : List Nat} {j : Nat}, env.length = env0.length → j ∈ own → (backE env0 env own)[j]? = env0[j]?
  | [], _, _, h => by simp at h
  | i :: is, j, hl, h => by
    unfold backE
    by_cases hj : i = j
    · subst hj
      split
      · rename_i s e
        rw [List.getElem?_set_self (by rw [backE_len, hl]; exact lt_of_get e), e]
      · rename_i e
        have lt : env0.length ≤ i := by simpa using e
        rw [e, List.getElem?_eq_none (by rw [backE_len, hl]; exact lt)]
    · have hm := (List.mem_cons.mp h).resolve_left fun e => hj e.symm
      split
      · rw [List.getElem?_set_ne hj, backE_in hl hm]
      · exact backE_in hl hm
/-- behind a block: its own slots as they were -/
theorem back_ok {N0' : Addr → Prop} {own : List Nat} (s0 : SR g N0' env0 σ0 Hs) (hp : Plain env0 own) (hs : ∀ b, N0' b → N b) (hN : ∀ b, N b → ¬ N0' b → Hs b = none) (t : Stp All (wipeE env0 own) (wipe σ0 own) Hs env (wipe σ0 own) H) (s : SR g N env (wipe σ0 own) H) :
    SR g N (backE env0 env own) σ0 H ∧ Stp All env0 σ0 Hs (backE env0 env own) σ0 H ∧ ∀ b, Pm (backE env0 env own) σ0 b → Pm env (wipe σ0 own) b := by
  have hl : env.length = env0.length := by rw [s.len, wipe_length, s0.len]
  have st : Stab (Pv N env (wipe σ0 own)) H H := fun _ _ h _ => h
  have get : ∀ {j : Nat} {sl : Slot}, (backE env0 env own)[j]? = some (some sl) → (j ∈ own ∧ ∃ d, sl = .val d ∧ env0[j]? = some (some (.val d))) ∨ (j ∉ own ∧ env[j]? = some (some sl)) := fun {j sl} e => by
    by_cases hj : j ∈ own
    · rw [backE_in hl hj] at e
      obtain ⟨d, q⟩ := hp j hj sl e
      exact .inl ⟨hj, d, q, q ▸ e⟩
    · rw [backE_out hj] at e
      exact .inr ⟨hj, e⟩
  have mut_ : ∀ {j : Nat}, IsMut (backE env0 env own) j → j ∉ own ∧ IsMut env j := fun {j} ⟨sl, k1, k2⟩ => by
    rcases get k1 with ⟨_, d, q, _⟩ | ⟨hj, e⟩
    · subst q; cases k2
    · exact ⟨hj, sl, e, k2⟩
  have pm : ∀ b, Pm (backE env0 env own) σ0 b → Pm env (wipe σ0 own) b := fun b ⟨j, hm, e⟩ => by
    obtain ⟨hj, hm⟩ := mut_ hm
    exact ⟨j, hm, by rw [wipe_out hj]; exact e⟩
  have hP : ∀ b, Pv N (backE env0 env own) σ0 b → H b ≠ none → Pv N env (wipe σ0 own) b := fun b h _ => h.imp id (pm b)
  have tw : Stp All env0 σ0 Hs env (wipe σ0 own) H := by
    have t0 : Stp All env0 σ0 Hs (wipeE env0 own) (wipe σ0 own) Hs := wipe_stp Stp.refl hp
    exact t0.trans t
  refine ⟨⟨by rw [backE_len, hl, s0.len], fun j d e => ?_, fun j nw xs e => ?_, fun j xs e => ?_, fun j tt xs e => ?_, fun i j b hi hj ei ej => ?_, s.keep, s.dom, s.nst⟩, ⟨tw.ext, fun b hb => tw.grow b (pm b hb), tw.dom, fun j tt xs e => ?_, fun j xs e => ?_, fun j tt xs e => ?_⟩, pm⟩
  · rcases get e with ⟨hj, d', q, e0⟩ | ⟨hj, e⟩
    · cases q
      obtain ⟨v, e1, r⟩ := s0.val j d e0
      refine ⟨v, e1, ?_⟩
      refine r.mono (s0.stab tw) fun b h hn => ?_
      rcases h with h | h
      · by_cases h0 : N0' b
        · exact .inl h0
        · exact absurd (hN b h h0) hn
      · rcases tw.grow b (pm b h) with q | q
        · exact .inr q
        · exact absurd q hn
    · obtain ⟨v, e1, r⟩ := s.val j d e
      exact ⟨v, by rw [← wipe_out hj]; exact e1, r.mono st hP⟩
  · rcases get e with ⟨hj, d', q, e0⟩ | ⟨hj, e⟩
    · cases q
    · obtain ⟨a, ws, e1, e2, r, e3⟩ := s.own j nw xs e
      exact ⟨a, ws, by rw [← wipe_out hj]; exact e1, e2, r.mono st hP, e3⟩
  · rcases get e with ⟨hj, d', q, e0⟩ | ⟨hj, e⟩
    · cases q
    · obtain ⟨a, ws, e1, e2, r, e3⟩ := s.io j xs e
      exact ⟨a, ws, by rw [← wipe_out hj]; exact e1, e2, r.mono st hP, e3⟩
  · rcases get e with ⟨hj, d', q, e0⟩ | ⟨hj, e⟩
    · cases q
    · obtain ⟨a, ws, e1, e2⟩ := s.brw j tt xs e
      refine ⟨a, ws, by rw [← wipe_out hj]; exact e1, ?_⟩
      rcases e2 with e2 | ⟨e2, e3, r, e4⟩
      · exact .inl e2
      · exact .inr ⟨e2, e3, r.mono st hP, e4⟩
  · obtain ⟨hi1, hi2⟩ := mut_ hi
    obtain ⟨hj1, hj2⟩ := mut_ hj
    exact s.inj i j b hi2 hj2 (by rw [wipe_out hi1]; exact ei) (by rw [wipe_out hj1]; exact ej)
  · obtain ⟨e1, e2⟩ := tw.fixB j tt xs e
    have hj : j ∉ own := fun z => by obtain ⟨d, q⟩ := hp j z _ e; cases q
    rw [backE_out hj]
    exact ⟨e1, rfl⟩
  · obtain ⟨e1, e2⟩ := tw.fixI j xs e
    have hj : j ∉ own := fun z => by obtain ⟨d, q⟩ := hp j z _ e; cases q
    rw [backE_out hj]
    exact ⟨e1, rfl⟩
  · rcases get e with ⟨hj, d', q, e0⟩ | ⟨hj, e⟩
    · cases q
    · exact tw.noB j tt xs e
/-- a list that nothing holds, changed -/
theorem SR.updN {D : Addr} {acc acc' : List V} (s : SR g N env σ H) (hD : N D) (hv : H D = some (.lst acc)) (h0 : g.H0 D = none)
    (hb : ∀ (j : Nat) (t : Bool) (xs : List AV), env[j]? = some (some (.brw t xs)) → (∃ (a : Addr) (vs : List V), σ[j]? = some (some (V.ref a)) ∧ SqL g.K (fun _ => none) a vs ∧ t = false ∧ ∀ H P, RVs g.K g.H0 H P xs vs) ∨ σ[j]? ≠ some (some (V.ref D))) :
    SR g N env σ (upd H D (.lst acc')) ∧ Stab (Pv N env σ) H (upd H D (.lst acc')) := by
  have nP : ¬ Pm env σ D := fun z => (s.pmLst z).2.1 hD
  have st : Stab (Pv N env σ) H (upd H D (.lst acc')) := fun b o h k => by
    have : b ≠ D := fun z => by
      subst z
      rcases k with k | k
      · exact k (.inl hD)
      · rw [hv] at h
        cases h
        exact k acc rfl
    rw [upd_ne this]
    exact h
  have id : ∀ b, Pv N env σ b → H b ≠ none → Pv N env σ b := fun _ h _ => h
  have ne : ∀ {b : Addr} {o : HO}, b ≠ D → H b = some o → upd H D (.lst acc') b = some o := fun z h => by rw [upd_ne z]; exact h
  refine ⟨⟨s.len, fun j d e => ?_, fun j nw xs e => ?_, fun j xs e => ?_, fun j tt xs e => ?_, s.inj, fun b o h k => ?_, fun b h => ?_, fun b h => ?_⟩, st⟩
  · obtain ⟨v, e1, r⟩ := s.val j d e
    exact ⟨v, e1, r.mono st id⟩
  · obtain ⟨a, ws, e1, e2, r, e3, e4⟩ := s.own j nw xs e
    exact ⟨a, ws, e1, ne (fun z => e3 (z ▸ hD)) e2, r.mono st id, e3, e4⟩
  · obtain ⟨a, ws, e1, e2, r, e3, e4⟩ := s.io j xs e
    exact ⟨a, ws, e1, ne (fun z => e3 (z ▸ hD)) e2, r.mono st id, e3, e4⟩
  · rcases hb j tt xs e with ⟨a, vs, k1, k2⟩ | k
    · exact ⟨a, vs, k1, .inl k2⟩
    · obtain ⟨a, vs, k1, k2⟩ := s.brw j tt xs e
      have na : a ≠ D := fun z => by subst z; exact k k1
      refine ⟨a, vs, k1, ?_⟩
      rcases k2 with k2 | ⟨k2, k3, r, k4⟩
      · exact .inl k2
      · refine .inr ⟨?_, k3, r.mono st id, fun q => ne na (k4 q)⟩
        rcases k2 with k2 | ⟨u, k2⟩
        · exact .inl (ne na k2)
        · exact .inr ⟨u, ne na k2⟩
  · have : b ≠ D := fun z => by subst z; rw [h0] at h; cases h
    exact ne this (s.keep b o h k)
  · by_cases z : b = D
    · rw [z, upd_same]; simp
    · rw [upd_ne z]; exact s.dom b h
  · by_cases z : b = D
    · rw [z, upd_same]; simp
    · rw [upd_ne z]; exact s.nst b h
end
end RX
/-! RX part n: the comprehension's loop. -/
namespace RX
open PySem L2
abbrev F0 : WX := fun _ _ _ _ => False
theorem wpR_noX {α : Type} {x : Option (R α)} {K1 : α → En → Prop} {K2 K3 : Str → En → Prop} (h : wpR (noX x) K1 K2) : wpR x K1 K3 := by
  cases x with
  | none => exact h
  | some y =>
    cases y with
    | ok a e => exact h
    | exc c e => exact h.elim
section
variable {g : Gh} {W : WX} {cl : Str → Value} {G : Calls} {N N' M M' : Addr → Prop} {env env' envL : En} {σ σ' : L2.St} {H H' Hs : Hp} {Q : VK}
theorem drop_get {α : Type} {xs : List α} {i : Nat} {x : α} (h : xs[i]? = some x) : xs.drop i = x :: xs.drop (i + 1) := by
  obtain ⟨lt, e⟩ := List.getElem?_eq_some_iff.mp h
  rw [List.drop_eq_getElem_cons lt, e]
theorem tLc_ok {e : Ex} {own : List Nat} {t : Tg} {it : It} {c : Ex} (hsub : ∀ j ∈ tgS t, j ∈ own) (h : tE g W cl (ev G (.comp e own t it c)) σ H Q) :
    tLc (tI g W cl (evI G it)) (tG g t) (tT g F0 cl (evCk (isNul c) (ev G c))) (tE g F0 cl (ev G e)) own σ H Q := by
  obtain ⟨N, env, s, h⟩ := h
  unfold ev at h
  refine ⟨N, env, s, wpR_mono (wpR_bnd h) ?_ fun _ _ h => h⟩
  intro src env1 h J H1 M M' t1 hNM L s1 wz D hD
  split at h
  case isFalse => exact h.elim
  rename_i ok
  simp only [Bool.and_eq_true] at ok
  obtain ⟨⟨ok1, ok2⟩, ok3⟩ := ok
  have ok1 : src.xs.length ≤ sizeLine := by simpa [lenOk] using ok1
  obtain ⟨Gd, Y, hw, hz⟩ := wz
  have pl : Plain (lockE env1 src.lk) own := fun j hj sl e => by
    refine ownOk_plain ok2 j hj sl ?_
    rw [lockE_get] at e
    · exact e
    · have := List.all_eq_true.mp ok3 j hj
      simpa using this
  have hM2 : ∀ b, (fun b => b = D) b → H1 b = none := fun b h => by rw [h]; exact hD
  have sD : SR g (adN M' D) (lockE env1 src.lk) σ (upd H1 D (.lst [])) := L.sr.newN hD
  have tW : Stp All (lockE env1 src.lk) σ H1 (wipeE (lockE env1 src.lk) own) (wipe σ own) H1 := wipe_stp Stp.refl pl
  have gD : g.H0 D = none := by
    cases q : g.H0 D with
    | none => rfl
    | some o => exact absurd hD (s1.dom D (by rw [q]; simp))
  -- what stands ahead of each turn
  refine lc_it hw (fun i Hx => i ≤ src.xs.length ∧ ∃ env_i ds acc, SR g (adN M' D) env_i (wipe σ own) Hx ∧ Stp All (wipeE (lockE env1 src.lk) own) (wipe σ own) H1 env_i (wipe σ own) Hx ∧ Hx D = some (.lst acc) ∧ RVs g.K g.H0 Hx (Pv (adN M' D) env_i (wipe σ own)) ds acc ∧ acc.length ≤ i ∧
    Plain env_i own ∧ wpR (compL own t (evCk (isNul c) (ev G c)) (ev G e) (src.xs.drop i) env_i) (fun ds' e2 => ∀ H' v, Stp All env σ H (unlockE env1 (backE (lockE env1 src.lk) e2 own) src.lk) σ H' → Posts g (Fr env σ H) (unlockE env1 (backE (lockE env1 src.lk) e2 own) src.lk) σ H' N [.frs (ds ++ ds')] [v] → Q v H') fun _ _ => True)
    ⟨Nat.zero_le _, wipeE (lockE env1 src.lk) own, [], [], wipe_sr sD, ?_, upd_same, .nil, Nat.le_refl _, plain_wipe, ?_⟩ ?_ ?_ ?_
  · exact (L.sr.new (o := .lst []) hD).2.trans (wipe_stp Stp.refl pl) |> fun z => by
      refine ⟨fun b o h _ _ => ?_, fun b h => .inl h, fun b h => ?_, fun _ _ _ h => ⟨h, rfl⟩, fun _ xs h => ⟨⟨xs, h⟩, rfl⟩, fun _ _ _ h => h⟩
      · rw [upd_ne (ne_of_none h hD)]; exact h
      · have : b ≠ D := fun z => h (by rw [z]; exact hD)
        rw [upd_ne this]; exact h
  · refine wpR_mono (wpR_bnd h) (fun ds' e2 h => ?_) fun _ _ _ => trivial
    intro H' v tt p
    exact h H' v tt p
  · rintro i Hx hi ⟨_, env_i, ds, acc, sx, tx, _⟩
    exact (hz (fun b => b = D) env_i _ Hx hM2 (tW.trans tx) sx).1
  · -- a turn
    rintro i x Hx H3 hi ⟨_, env_i, ds, acc, sx, tx, hDx, rx, hl, px, hr⟩ y
    obtain ⟨d, hd, ty, py⟩ := (hz (fun b => b = D) env_i _ Hx hM2 (tW.trans tx) sx).2 i x H3 hi y
    rw [drop_get hd] at hr
    unfold compL at hr
    split at hr
    · exact hr.elim
    · rename_i env_a ea
      refine ⟨env_i, wipe σ own, Hx, adN M' D, env_i, d, env_a, ty, py, ea, fun σ' sa ta la ka => ⟨?_, ?_⟩⟩
      · rw [wipe_cg la (fun j hj => ka j fun z => hj (hsub j z))]
        exact wipe_cg (wipe_length ..) fun j hj => wipe_out hj
      -- from the turn's start
      have wcg : wipe σ' own = wipe σ own := by
        rw [wipe_cg la (fun j hj => ka j fun z => hj (hsub j z))]
        exact wipe_cg (wipe_length ..) fun j hj => wipe_out hj
      have hr := wpR_bnd hr
      refine ⟨adN M' D, env_a, sa, wpR_mono (wpR_noX (K3 := fun _ _ => False) hr) (fun b env_b hr H4 tb sb => ?_) fun _ _ h => h.elim⟩
      have brw_ : ∀ {env_z : En} {σz : L2.St} {Hz : Hp}, Stp All (wipeE (lockE env1 src.lk) own) (wipe σ own) H1 env_z σz Hz → ∀ (j : Nat) (tt : Bool) (xs : List AV), env_z[j]? = some (some (.brw tt xs)) →
          (∃ (a : Addr) (vs : List V), σz[j]? = some (some (V.ref a)) ∧ SqL g.K (fun _ => none) a vs ∧ tt = false ∧ ∀ H P, RVs g.K g.H0 H P xs vs) ∨ σz[j]? ≠ some (some (V.ref D)) := fun {env_z σz Hz} tz j tt xs e => by
        have e0 := tz.noB j tt xs e
        have e1 := (tz.fixB j tt xs e0).2
        obtain ⟨a, vs, k1, k2⟩ := (wipe_sr (own := own) L.sr).brw j tt xs e0
        rcases k2 with k2 | ⟨_, k3, _⟩
        · exact .inl ⟨a, vs, e1.trans k1, k2⟩
        · refine .inr fun z => ?_
          rw [e1, k1] at z
          cases z
          exact L.sr.nst _ k3 hD
      have Dstay : ∀ {env_z : En} {σz : L2.St} {Hz : Hp}, Stp All env_i (wipe σ own) Hx env_z σz Hz → Hz D = some (.lst acc) := fun tz => tz.ext D _ hDx trivial fun z => (sx.pmLst z).2.1 (.inr (by rfl))
      cases b with
      | false =>
        have hr : wpR (compL own t (evCk (isNul c) (ev G c)) (ev G e) (src.xs.drop (i + 1)) (wipeE env_b own)) _ _ := hr
        have tall := ta.trans tb
        refine ⟨hi, wipeE env_b own, ds, acc, ?_, ?_, Dstay tall, ?_, by omega, plain_wipe, wpR_mono hr (fun _ _ h => h) fun _ _ _ => trivial⟩
        · rw [← wcg]; exact wipe_sr sb
        · rw [← wcg]; exact wipe_stp (by rw [wcg]; exact tx.trans tall) plain_wipe
        · have q := RVs.step sx tall rx
          refine q.mono (fun _ _ h _ => h) fun b hb _ => ?_
          rw [← wcg] at hb
          exact hb.imp id wipe_pm
      | true =>
        have hr := wpR_bnd hr
        refine ⟨adN M' D, env_b, sb, wpR_mono (wpR_noX (K3 := fun _ _ => False) hr) (fun dd env_c hr H5 vv tc pc => ?_) fun _ _ h => h.elim⟩
        split at hr
        · exact hr.elim
        · rename_i d' hs
          have hr := wpR_bnd hr
          have tall := (ta.trans tb).trans tc
          have sc := pc.sr
          have rv : RV g.K g.H0 H5 (Pv (adN M' D) env_c σ') d' vv := HeadOk.sto pc.1 pc.2 hs
          have hD5 := Dstay tall
          have tfull := tx.trans tall
          obtain ⟨su, stu⟩ := sc.updN (acc' := acc ++ [vv]) (.inr (by rfl)) hD5 gD (brw_ tfull)
          have id : ∀ b, Pv (adN M' D) env_c σ' b → H5 b ≠ none → Pv (adN M' D) env_c σ' b := fun _ h _ => h
          refine ⟨acc, hD5, by omega, hi, wipeE env_c own, ds ++ [d'], acc ++ [vv], ?_, ?_, upd_same, ?_, by simp; omega, plain_wipe, wpR_mono hr (fun ds' e2 h => ?_) fun _ _ _ => trivial⟩
          · rw [← wcg]; exact wipe_sr su
          · have tw := wipe_stp (own := own) (env0 := wipeE (lockE env1 src.lk) own) (σ0 := wipe σ own) (Hs := H1) tfull plain_wipe
            rw [wcg] at tw
            refine ⟨fun b o h a n => ?_, tw.grow, fun b h => ?_, tw.fixB, tw.fixI, tw.noB⟩
            · rw [upd_ne (ne_of_none h hD)]
              exact tw.ext b o h a n
            · have : b ≠ D := fun z => h (by rw [z]; exact hD)
              rw [upd_ne this]
              exact tw.dom b h
          · have q := (RVs.step sx tall rx).mono stu id
            have q2 := rv.mono stu id
            refine (RVs.append q (.cons q2 .nil)).mono (fun _ _ h _ => h) fun b hb _ => ?_
            rw [← wcg] at hb
            exact hb.imp (fun z => z) wipe_pm
          · intro H' v tt p
            refine h H' v tt ?_
            simpa using p
  · -- the end
    rintro Hx ⟨_, env_n, ds, acc, sx, tx, hDx, rx, hl, px, hr⟩
    rw [List.drop_length] at hr
    have hr : ∀ H' v, Stp All env σ H (unlockE env1 (backE (lockE env1 src.lk) env_n own) src.lk) σ H' → Posts g (Fr env σ H) (unlockE env1 (backE (lockE env1 src.lk) env_n own) src.lk) σ H' N [.frs (ds ++ [])] [v] → Q v H' := hr
    obtain ⟨sb, tb, pb⟩ := back_ok L.sr pl (fun _ h => .inl h) (fun b h k => Or.elim h (fun z => absurd z k) fun z => hM2 b z) tx sx
    obtain ⟨su, tu, pu⟩ := L.bk (fun b => b = D) _ σ Hx (fun b h k => L.sr.nst b k (hM2 b h)) tb sb
    have nD : ¬ N D := fun z => s1.nst D z hD
    have s2 : SR g (adN N D) (unlockE env1 (backE (lockE env1 src.lk) env_n own) src.lk) σ Hx := SR.drop2 s1 tu su (fun _ => .inl) fun b h => h.imp (hNM b) id
    have s3 : SR g N (unlockE env1 (backE (lockE env1 src.lk) env_n own) src.lk) σ Hx := SR.drop s1 tu s2 fun _ => .inl
    refine hr Hx _ (t1.trans tu) ⟨⟨s3, D, acc, rfl, hDx, gD, nD, ?_, Fr.sub1 t1 D hD⟩, s2⟩
    rw [List.append_nil]
    refine rx.mono (fun _ _ h _ => h) fun b hb _ => ?_
    have hb : Pv (orN M fun b => b = D) (unlockE env1 (backE (lockE env1 src.lk) env_n own) src.lk) σ b := by
      rcases hb with ((hb | hb) | hb) | hb
      · exact .inl (.inl (hNM b hb))
      · exact .inl (.inr hb)
      · exact hb.elim
      · exact .inr hb
    exact (pu b hb).imp id (pb b)
end
end RX
/-! RX part nb: what a def promises where nothing of the kit's guards stands around the call. -/
namespace RG
open PySem L2 PySem.Spec PyProof.Rows
structure FnG (P : Program) (w : World) (K : PySem.W.Frag) (mg : Str → Option Value) (base : Heap) (C : CXT) (k : Nat) (f : Addr) (fd : FuncData) (ps : List Str) (sp : Sp) : Prop where
  ln : ∀ vs H Q E, sp vs H Q E → vs.length = ps.length
  go : ∀ (A : Around) (out : List Env) (s : Shared) (H : Hp) (ar : Args) (us : List Value) (vs : List V) (Q : VK) (E : XK), A.guards = some [] → Room k A → Env0 P w K mg base A out s H → BindsTo s fd ar (ps.zip us) →
    Vals vs us → sp vs H Q E → codeAny (model P w) A (.call (.ref f) ar) (CR C out P w H s Q E) s
section
variable {P : Program} {w : World} {K : PySem.W.Frag} {mg : Str → Option Value} {base : Heap} {C : CXT} {k : Nat} {f : Addr} {fd : FuncData} {ps : List Str} {sp sp' : Sp}
theorem FnG.imp (F : FnG P w K mg base C k f fd ps sp) (h : ∀ vs H Q E, sp' vs H Q E → sp vs H Q E) : FnG P w K mg base C k f fd ps sp' :=
  ⟨fun vs H Q E q => F.ln vs H Q E (h vs H Q E q), fun A out s H ar us vs Q E g r e b v q => F.go A out s H ar us vs Q E g r e b v (h vs H Q E q)⟩
/-- a def by its body -/
theorem fnG_of {qual : Str} {params : Arguments} {body : List Stmt} {scope : Scope} {nm : Str} {dV kV doc pm cdv ct oc : Value} {an od : Option Addr} {osl : Array (Option Value)} {N : List Str}
    (look : K.lookup f = some ⟨oc, od, .func (PySem.W.fnOf nm qual params body scope dV kV doc pm an cdv ct), osl⟩) (cod : PySem.W.codeIn K cdv qual = true) (S : FnScope N ps scope) (ln : ∀ vs H Q E, sp vs H Q E → vs.length = ps.length)
    (bd : ∀ (A : Around) (out : List Env) (s : Shared) (H : Hp) (vs : List V) (Q : VK) (E : XK), A.guards = some [] → Room k (A.deeper (envOfC qual scope s.heap.objs.size f cdv)) → sp vs H Q E →
      ∃ t, PSs (cxOf C P w K mg base N qual scope f cdv A out s H E) body t ∧ t { nx := fun _ H' => Q .non H', rt := Q } (start N vs) H) :
    FnG P w K mg base C (k + 1) f (PySem.W.fnOf nm qual params body scope dV kV doc pm an cdv ct) ps sp := by
  refine ⟨ln, fun A out s H ar us vs Q E gd rm ev bt rel hs => ?_⟩
  have kin : K.In s.heap := ev.mod.kin.keeps fun b o q => (ev.bs b o q).1
  have noLim : s.heap.NoLimit := ev.mod.nolimit.keeps fun b o q => (ev.bs b o q).1
  refine codeAny_call_function rm.depth (kin _ _ look) rfl S.co S.gen rfl (PySem.W.codeRec_of kin cod) (bt _ _ _ _ ?_)
  refine wpAny_newFunctionEnv_cells S.kind (fun y hy => ?_) fun env he s1 x => ?_
  · rcases S.par y.1 (List.of_mem_zip (a := y.1) (b := y.2) hy).1 with q | q
    · exact .inl q
    · exact .inr ⟨q, PySem.W.cellsFrom_some _ _ _ (.inl q)⟩
  subst he
  obtain ⟨t, ht, hq⟩ := bd A out s H vs Q E gd (rm.deeper _) hs
  have inv := inv_start (CX := C) (E := E) S rm.hd ev (ln _ _ _ _ hs) rel x
  refine ⟨noLim.keeps x.toInCall.keep, codeAny_func (wpAny_mono (ht.run [] s1 (start N vs) H _ inv hq) (fun fl s' z => ?_) fun _ _ z => z)⟩
  cases fl with
  | brk => exact z.elim fun _ ⟨_, _, q⟩ => q.elim
  | cont => exact z.elim fun _ ⟨_, _, q⟩ => q.elim
  | ret u =>
    obtain ⟨v, σ', H', J, rv, q⟩ := z
    exact ⟨v, H', J.os, J.bare, J.base, J.hok, rv, q⟩
  | next =>
    obtain ⟨σ', H', J, q⟩ := z
    exact ⟨.non, H', J.os, J.bare, J.base, J.hok, rfl, q⟩
theorem funG {x qual : Str} {st : Stmt} {N : List Str} (F : Fun K x qual st f fd) (S : FnScope N ps (defScope st)) (ln : ∀ vs H Q E, sp vs H Q E → vs.length = ps.length)
    (bd : ∀ (cdv : Value) (A : Around) (out : List Env) (s : Shared) (H : Hp) (vs : List V) (Q : VK) (E : XK), A.guards = some [] → Room k (A.deeper (envOfC qual (defScope st) s.heap.objs.size f cdv)) → sp vs H Q E →
      ∃ t, PSs (cxOf (L2.CX P w) P w K mg base N qual (defScope st) f cdv A out s H E) (defBody st) t ∧ t { nx := fun _ H' => Q .non H', rt := Q } (start N vs) H) : FnG P w K mg base (L2.CX P w) (k + 1) f fd ps sp := by
  obtain ⟨_, _, _, _, _, _, cdv, _, _, e, lk, cd⟩ := F.ex
  subst e
  exact fnG_of lk cd S ln (bd cdv)
end
section
variable {X : Cx} {C : CXT} {k : Nat} {f : Addr} {fd : FuncData} {ps : List Str} {sp : Sp} {E : L2.St → XK}
theorem runG {pins : List (Addr × Obj)} {σ : L2.St} {H : Hp} {s : Shared} {Q : VK} {us : List Value} {vs : List V} (gd : X.A.guards = some []) (F : FnG X.prog X.w X.K X.mg X.base C k f fd ps sp) (rm : Room k X.A) (bi : Binds X.K fd ps []) (pass : PassesAt C X σ (E σ))
    (J : L2.Inv X pins σ H s) (rel : Vals vs us) (hs : sp vs H Q (E σ)) : wpAny (model X.prog X.w) X.A (call (.ref f) us) (EP X pins σ Q) X.xe s := by
  have bt := bi s us J.kIn (by rw [List.append_nil, ← rel.length]; exact F.ln _ _ _ _ hs)
  refine wpAny_call (codeAny_mono (F.go X.A X.stack s H ⟨us, []⟩ us vs Q (E σ) gd rm J.env0 (by rw [List.append_nil] at bt; exact bt) rel hs) fun r s' z => ?_)
  match r, z with
  | .error e, z => exact pass pins H s e s' J z
  | .ok (.ret u), z => exact J.after z
  | .ok .next, z => exact z.elim
  | .ok .brk, z => exact z.elim
  | .ok .cont, z => exact z.elim
theorem pe_callG {x : Str} {p pos : Pos} {e : Expr} {es : List Expr} {t : TA} (gd : X.A.guards = some []) (F : FnG X.prog X.w X.K X.mg X.base C k f fd ps sp) (rm : Room k X.A) (gl : Gl X x) (hm : X.mg x = some (.ref f)) (kp : PySem.W.keepIn X.K (.ref f) = true) (bi : Binds X.K fd ps []) (pass : ∀ σ, PassesAt C X σ (E σ))
    (pa : PA X (e :: es) t) (nd : (x == ("__debug__" : Str)) = false) (st : starEach (e :: es) X.env = (false, eval e X.env) :: starEach es X.env) (pl : (backTo pos (starEach es X.env)).any (·.1) = false) :
    PE X (.Call (.Name x p) (e :: es) [] pos) (tCallS sp E t) :=
  ⟨fun pins s σ H Q J z => wpAny_Call_Name_kw (ld_glob J gl hm (PySem.W.callWith_K (h₀ := X.base) J.ok.mod.kin kp (thn (pa.run pos pins s σ H _ J z) fun _ _ ⟨_, _, J1, rel, q⟩ => ⟨J1.kIn, runG gd F rm bi (pass σ) J1 rel q⟩) st pl) nd)⟩
end
section
variable {P : Program} {w : World} {K : PySem.W.Frag} {mg mb : Str → Option Value} {C : CXT} {k : Nat} {fa a : Addr} {fd : FuncData} {x : Str} {sp : Sp} {s₁ : Shared} {vs : List Value} {ns : List Int}
/-- the law's call, the script hidden from the written part -/
theorem law_go {H : Hp} (kx : K.In s₁.heap) (nsg : s₁.heap.Ns mainGlobals mg) (nsb : s₁.heap.Ns builtinsNs mb) (mbb : ∀ x : Str, x ≠ "__name__" → mb x = bootBuiltins x) (nl : s₁.heap.NoLimit) (g0 : s₁.gens = #[])
    (ha : s₁.heap.get? a = some { cls := .type "list", data := .seq vs.toArray }) (rm : Room k callerA)
    (F : ∀ base : Heap, K.In base → base.Ns mainGlobals mg → FnG P w K mg base C k fa fd [x] sp) (bt : ∀ (s : Shared) (u : Value), BindsTo s fd ⟨[u], []⟩ [(x, u)])
    (nox : ∀ e s', C [] H s₁ (fun _ _ _ => False) e s' → False) (only : Only H) (hk : HOk P w H s₁.heap) (at_ : ∀ b, H b ≠ none → b = a) (out : H a ≠ none → K.lookup a = none)
    (hs : sp [.ref a] H (fun v _ => v = .bl true) fun _ _ _ => False) :
    codeAny (model P w) callerA (.call (.ref fa) ⟨[.ref a], []⟩) (fun r s' => r = .ok (.ret (.bool true)) ∧ OldK s₁.heap s'.heap ∧ s'.os = s₁.os ∧ AllBare s'.gens) s₁ := by
  have stay : ∀ {b : Addr} {o : Obj}, s₁.heap.get? b = some o → (H b ≠ none → False) → (hidT s₁.heap H).get? b = some o := fun {b o} e n => hidT_get e (by
    cases q : H b with
    | none => rfl
    | some u => exact (n (by rw [q]; exact nofun)).elim)
  have kb : K.In (hidT s₁.heap H) := fun b o e => stay (kx b o e) fun n => by
    have eb := at_ b n
    subst eb
    rw [out n] at e
    exact nomatch e
  have names : ∀ {b : Addr} {m : Str → Option Value}, s₁.heap.Ns b m → (hidT s₁.heap H).Ns b m := fun {b m} ⟨o, es, ep, e, d, r⟩ => by
    refine ⟨o, es, ep, stay e fun n => ?_, d, r⟩
    have eb := at_ b n
    subst eb
    rw [ha] at e
    cases e
    exact nomatch (show Data.seq vs.toArray _ = Data.dict es ep from d)
  obtain ⟨mc, l1, l2⟩ := nl
  have ev : Env0 P w K mg (hidT s₁.heap H) callerA [] s₁ H := ⟨rfl, ⟨kb, names nsg, ⟨mb, names nsb, mbb⟩, ⟨mc, names l1, l2⟩⟩, fun b o e => of_hidT e, Nat.le_of_eq (hidT_size _ _), trivial, fun b hb => (nomatch hb), hk, .of_eq g0⟩
  refine codeAny_mono ((F _ kb (names nsg)).go callerA [] s₁ H ⟨[.ref a], []⟩ [.ref a] [.ref a] _ _ rfl rm ev (bt s₁ _) (.cons rfl .nil) hs) fun r s' z => ?_
  match r, z with
  | .error e, z => exact (nox e s' z).elim
  | .ok .next, z => exact z.elim
  | .ok .brk, z => exact z.elim
  | .ok .cont, z => exact z.elim
  | .ok (.ret u), ⟨v, H', os, bare, un, hk', rv, q⟩ =>
    have q : v = .bl true := q
    subst q
    have rv : u = Value.bool true := rv
    subst rv
    refine ⟨rfl, OldK.of_keep fun b o e => ?_, os, bare⟩
    by_cases n : H b = none
    · exact un.keep b o e n (fun z => (nomatch z)) (fun z => (nomatch z))
    · rcases only b with z | ⟨ob, xs, z⟩
      · exact absurd z n
      · have k1 := (hk b _ z).1
        have k2 := (hk' b _ (un.frzs b ob _ z)).1
        rw [e] at k1
        cases k1
        exact k2
theorem law_callG (kx : K.In s₁.heap) (nsg : s₁.heap.Ns mainGlobals mg) (nsb : s₁.heap.Ns builtinsNs mb) (mbb : ∀ x : Str, x ≠ "__name__" → mb x = bootBuiltins x) (nl : s₁.heap.NoLimit) (g0 : s₁.gens = #[])
    (ha : s₁.heap.get? a = some { cls := .type "list", data := .seq vs.toArray }) (hi : IntsAre vs ns) (len : ns.length ≤ sizeLine) (rm : Room k callerA)
    (F : ∀ base : Heap, K.In base → base.Ns mainGlobals mg → FnG P w K mg base C k fa fd [x] sp) (bt : ∀ (s : Shared) (u : Value), BindsTo s fd ⟨[u], []⟩ [(x, u)])
    (hs : ∀ H : Hp, Only H → SqL K H a (ns.map V.int) → sp [.ref a] H (fun v _ => v = .bl true) fun _ _ _ => False) (nox : ∀ H e s', C [] H s₁ (fun _ _ _ => False) e s' → False) :
    codeAny (model P w) callerA (.call (.ref fa) ⟨[.ref a], []⟩) (fun r s' => r = .ok (.ret (.bool true)) ∧ OldK s₁.heap s'.heap ∧ s'.os = s₁.os ∧ AllBare s'.gens) s₁ := by
  have rv := vals_ints hi
  cases lk : K.lookup a with
  | some o =>
    have e := kx a o lk
    rw [ha] at e
    cases e
    have sq : SqL K (fun _ => none) a (ns.map V.int) := .inr ⟨_, vs.toArray, _, lk, rfl, rfl, rfl, by rw [List.size_toArray, hi.length]; exact len, by simpa using rv⟩
    exact law_go (H := fun _ => none) kx nsg nsb mbb nl g0 ha rm F bt (nox _) (fun _ => .inl rfl) (fun b u z => by cases (show (none : Option HO) = some u from z)) (fun _ z => absurd rfl z) (fun z => absurd rfl z) (hs _ (fun _ => .inl rfl) sq)
  | none =>
    let fr : HO := .frz { cls := .type "list", data := .seq vs.toArray } (.lst (ns.map V.int))
    have only : Only fun b => if b = a then some fr else none := fun b => by
      by_cases e : b = a
      · exact .inr ⟨_, _, if_pos e⟩
      · exact .inl (if_neg e)
    refine law_go (H := fun b => if b = a then some fr else none) kx nsg nsb mbb nl g0 ha rm F bt (nox _) only (fun b u z => ?_) (fun b z => Classical.byContradiction fun n => z (if_neg n)) (fun _ => lk) (hs _ only (.inl (.inr ⟨_, if_pos rfl⟩)))
    by_cases e : b = a
    · cases (if_pos e).symm.trans z
      subst e
      exact ⟨ha, by rw [List.length_map]; exact len, vs, _, rv, ha⟩
    · cases (if_neg e).symm.trans z
end
theorem walkG {l : PySem.W.OpenLaw} {n k : Nat} {q : Program} {loose : List Str} {XP : (Str → Option Value) → Heap → Prop} {YP : World → Heap → Prop} {d : DefRec} {K : Params → PySem.W.Frag} {C : World → CXT} {sp : World → Sp} {x : Str}
    (most : l.most = some n) (small : n ≤ sizeLine) (nodef : d.params.defaults = []) (rm : Room k callerA) (kin : ∀ (w : World) (h : Heap), YP w h → (K w.params).In h)
    (F : ∀ (w : World) (mg : Str → Option Value) (fa : Addr) (h : Heap), (K w.params).In h → h.Ns mainGlobals mg → mg d.name = some (.ref fa) → ∃ fd : FuncData, (∀ (s : Shared) (u : Value), BindsTo s fd ⟨[u], []⟩ [(x, u)]) ∧
        ∀ base : Heap, (K w.params).In base → base.Ns mainGlobals mg → FnG l.prog w (K w.params) mg base (C w) k fa fd [x] (sp w))
    (hs : ∀ (w : World) (H : Hp) (a : Addr) (ns : List Int), ns.length ≤ n → Only H → SqL (K w.params) H a (ns.map V.int) → sp w [.ref a] H (fun v _ => v = .bl true) fun _ _ _ => False)
    (nox : ∀ (w : World) (H : Hp) (s : Shared) (e : Value) (s' : Shared), C w [] H s (fun _ _ _ => False) e s' → False) :
    PySem.W.WalkO q loose XP YP l.row.toRowW d [] (fun f vs => PySem.call f vs) :=
  Att.attach_call most nodef fun w _ s₁ mg mb fa _ _ _ _ a vs ns G Y _ _ _ mgd obj ii len gens => by
    have kx := kin w _ Y
    obtain ⟨fd, bt, F2⟩ := F w mg fa _ kx G.T.g mgd
    exact law_callG kx G.T.g G.T.b G.T.builtins G.T.nolimit gens obj ii (Nat.le_trans len small) rm F2 bt (fun H o S => hs w H a ns len o S) fun H e s' => nox w H s₁ e s'
end RG
/-! RX part o: the check of a written expression against its small form; what follows from it. -/
namespace RX
open PySem L2

/-! ### the check -/
def visB (sc : Scope) (x : Str) : Bool := match sc.names.lookup x with
  | some .local => true
  | some .cell => true
  | some .free => true
  | _ => false
def glB (sc : Scope) (x : Str) : Bool := (match sc.names.lookup x with
  | some .globalImplicit => true
  | _ => false) && !(x == Str.ofString "__debug__") && !(x == Str.ofString "__name__")
def nmB (N : List Str) (sc : Scope) (i : Nat) (x : Str) : Bool := decide (N[i]? = some x) && visB sc x && !(x == Str.ofString "__debug__") && !(x == Str.ofString "__classdict__")
def locB (sc fs : Scope) (x : Str) : Bool := match sc.names.lookup x, fs.names.lookup x with
  | some .local, _ => true
  | some .cell, some .cell => true
  | _, _ => false
def starB : Expr → Bool
  | .Starred .. => true
  | _ => false
def setB : Expr → Bool
  | .Set .. => true
  | _ => false
def cmpB : Expr → Bool
  | .ListComp .. => true
  | .SetComp .. => true
  | .DictComp .. => true
  | _ => false
def sliceB : Expr → Bool
  | .Slice .. => true
  | _ => false
def ptB : Expr → Bool
  | .IfExp .. => false
  | .BoolOp .. => true
  | .Compare .. => true
  | .UnaryOp .. => true
  | .Name .. => true
  | .Call .. => true
  | .Constant .. => true
  | .Subscript .. => true
  | _ => false
def biN : Bi → Str
  | .len => "len" | .sum => "sum" | .max => "max" | .min => "min" | .isi => "isinstance" | .int => "int" | .str => "str" | .abs => "abs" | .list => "list" | .tuple => "tuple" | .all => "all" | .any => "any" | .sorted => "sorted" | .rpr => "repr"
def biV : Bi → Value
  | .len => .builtin "len" | .sum => .builtin "sum" | .max => .builtin "max" | .min => .builtin "min" | .isi => .builtin "isinstance" | .int => .type "int" | .str => .type "str" | .abs => .builtin "abs" | .list => .type "list" | .tuple => .type "tuple"
  | .all => .builtin "all" | .any => .builtin "any" | .sorted => .builtin "sorted" | .rpr => .builtin "repr"
def tyOk (x : Str) (n : String) : Bool := (x == Str.ofString "int" && n == "int") || (x == Str.ofString "bool" && n == "bool") || (x == Str.ofString "str" && n == "str") || (x == Str.ofString "list" && n == "list") || (x == Str.ofString "tuple" && n == "tuple")
def bopB : Bop → Operator → Bool
  | .add, .Add => true | .sub, .Sub => true | .mul, .Mult => true | .div, .FloorDiv => true | .mod, .Mod => true | .pow, .Pow => true | .shl, .LShift => true | .shr, .RShift => true | .band, .BitAnd => true
  | _, _ => false
/-- built-in names that a program must not have taken -/
def bltN : List Str := ["len", "sum", "max", "min", "isinstance", "int", "str", "abs", "list", "tuple", "all", "any", "sorted", "bool", "range", "enumerate", "zip", "reversed", "ValueError", "set", "repr"]
def mtN : Mt → Str
  | .app => "append" | .ext => "extend" | .ins => "insert" | .clr => "clear" | .rev => "reverse" | .pop => "pop" | .popAt => "pop"
def mtA : Mt → Nat
  | .app => 1 | .ext => 1 | .ins => 2 | .clr => 0 | .rev => 0 | .pop => 0 | .popAt => 1
def giB (T : Tb) (x : Str) : AV → Bool
  | .int i => decide (T.lookup x = some (.inr (.inl (.int i))))
  | .tup xs => match ints? xs with
    | some ns => decide (T.lookup x = some (.inr (.inl (.tup ns))))
    | none => false
  | .fn y => decide (x = y) && (match T.lookup x with | some (.inl _) => true | _ => false)
  | _ => false
/-- isinstance: what a class says of an instance of the class c -/
def ansB (T : Tb) (y c : Str) : Option Bool := match T.lookup y with
  | some (.inr (.inr zs)) => zs.lookup c
  | _ => none
def ansT (T : Tb) (sc : Scope) (c : Str) : List Expr → Option Bool
  | [] => some false
  | .Name y _ :: es => if glB sc y then match ansB T y c, ansT T sc c es with
    | some b, some b' => some (b || b')
    | _, _ => none else none
  | _ => none
def clsB (T : Tb) (c : Str) : Bool := match T.lookup c with
  | some (.inr (.inr _)) => true
  | _ => false
def clsE (T : Tb) (sc : Scope) : Expr → Bool
  | .Name y _ => glB sc y && clsB T y
  | _ => false
/-- the second part of isinstance: which answers it gives -/
def isxB (T : Tb) (sc : Scope) (ts : List (Str × Bool)) : Expr → Bool
  | .Name y _ => glB sc y && ((clsB T y && ts.all fun p => clsB T p.1 && decide (ansB T y p.1 = some p.2)) || (decide (y = Str.ofString "ValueError") && ts.all fun p => clsB T p.1 && p.2))
  | .Tuple es _ _ => es.all (clsE T sc) && decide (es.length ≤ 20) && ts.all fun p => clsB T p.1 && decide (ansT T sc p.1 es = some p.2)
  | _ => false
def exsLen : Exs → Nat
  | .nil => 0
  | .cons _ es => exsLen es + 1
def ownP (N : List Str) (own : List Nat) : List (Str × Nat) := own.map fun i => (N.getD i default, i)
mutual
def mT (N : List Str) (sc fs : Scope) : Tg → Expr → Bool
  | .nm i, .Name x _ => decide (N[i]? = some x) && locB sc fs x
  | .tp ts, .Tuple es _ _ => mTs N sc fs ts es
  | _, _ => false
def mTs (N : List Str) (sc fs : Scope) : List Tg → List Expr → Bool
  | [], [] => true
  | t :: ts, e :: es => !starB e && mT N sc fs t e && mTs N sc fs ts es
  | _, _ => false
end
def rvB : Expr → Option Expr
  | .Subscript x (.Slice none none (some (.UnaryOp .USub (.Constant (.int j) _ _) _)) _) _ => if j = 1 then some x else none
  | _ => none
theorem rvB_ok {x y : Expr} (h : rvB x = some y) : ∃ k p1 p2 p3 pos, x = .Subscript y (.Slice none none (some (.UnaryOp .USub (.Constant (.int 1) k p1) p2)) p3) pos := by
  unfold rvB at h
  split at h
  · split at h
    · rename_i hj
      subst hj
      cases h
      exact ⟨_, _, _, _, _, rfl⟩
    · cases h
  · cases h
/-- len(set(x)) -/
def lsB : Expr → Option Expr
  | .Call (.Name y _) [.Call (.Name z _) [x] [] _] [] _ => if y = Str.ofString "len" ∧ z = Str.ofString "set" then some x else none
  | _ => none
theorem lsB_ok {x y : Expr} (h : lsB x = some y) : ∃ p1 p2 p3 p4, x = .Call (.Name (Str.ofString "len") p1) [.Call (.Name (Str.ofString "set") p2) [y] [] p3] [] p4 := by
  unfold lsB at h
  split at h
  · split at h
    · rename_i hj
      obtain ⟨rfl, rfl⟩ := hj
      cases h
      exact ⟨_, _, _, _, rfl⟩
    · cases h
  · cases h
def isB : Expr → Option (Expr × Expr)
  | .Call (.Name y _) [x, z] [] _ => if y = Str.ofString "isinstance" then some (x, z) else none
  | _ => none
theorem isB_ok {x y z : Expr} (h : isB x = some (y, z)) : ∃ p pos, x = .Call (.Name (Str.ofString "isinstance") p) [y, z] [] pos := by
  unfold isB at h
  split at h
  · split at h
    · rename_i hj
      subst hj
      cases h
      exact ⟨_, _, rfl⟩
    · cases h
  · cases h
/-- a tuple of built-in types -/
def tysB (sc : Scope) : List String → List Expr → Bool
  | [], [] => true
  | n :: ns, .Name y _ :: es => tyOk y n && glB sc y && tysB sc ns es
  | _, _ => false
def istB : Expr → Option (Expr × List Expr)
  | .Call (.Name y _) [x, .Tuple es _ _] [] _ => if y = Str.ofString "isinstance" then some (x, es) else none
  | _ => none
theorem istB_ok {x y : Expr} {zs : List Expr} (h : istB x = some (y, zs)) : ∃ p k p2 pos, x = .Call (.Name (Str.ofString "isinstance") p) [y, .Tuple zs k p2] [] pos := by
  unfold istB at h
  split at h
  · split at h
    · rename_i hj
      subst hj
      cases h
      exact ⟨_, _, _, _, rfl⟩
    · cases h
  · cases h
/-- the methods that change nothing -/
def pmN : Pmt → Str
  | .ixL => "index" | .ixG => "index" | .spl => "split" | .joi => "join"
def pmA : Pmt → Nat
  | .ixL => 1 | .ixG => 1 | .spl => 1 | .joi => 1
def recB : Expr → Bool
  | .Name .. => true
  | .Constant .. => true
  | .Subscript .. => true
  | _ => false
def glxB : Ex → Bool
  | .gl _ _ => true
  | _ => false
def pmgB : Pmt → Ex → Bool
  | .ixG, a => glxB a
  | _, _ => true
def fcB : Expr → Option (Expr × List Expr)
  | .Call (.Subscript u k p2) (x1 :: xs) [] _ => some (.Subscript u k p2, x1 :: xs)
  | .Call (.Name u p2) (x1 :: xs) [] _ => some (.Name u p2, x1 :: xs)
  | _ => none
theorem fcB_ok {x y : Expr} {zs : List Expr} (h : fcB x = some (y, zs)) : ∃ x1 xs pos, zs = x1 :: xs ∧ x = .Call y (x1 :: xs) [] pos ∧ ((∃ u k p2, y = .Subscript u k p2) ∨ ∃ u p2, y = .Name u p2) := by
  unfold fcB at h
  split at h
  · cases h
    exact ⟨_, _, _, rfl, rfl, .inl ⟨_, _, _, rfl⟩⟩
  · cases h
    exact ⟨_, _, _, rfl, rfl, .inr ⟨_, _, rfl⟩⟩
  · cases h
def tupB : Expr → Bool
  | .Tuple .. => true
  | _ => false
mutual
def mE (N : List Str) (T : Tb) : Ex → Scope → Expr → Bool
  | .var i, sc, .Name x _ => nmB N sc i x
  | .mv i, sc, .Name x _ => nmB N sc i x
  | .fz i, sc, .Name x _ => nmB N sc i x
  | .int i, _, .Constant (.int j) _ _ => decide (i = j)
  | .bl b, _, .Constant (.bool c) _ _ => b == c
  | .str x, _, .Constant (.str y) _ _ => decide (x = y)
  | .non, _, .Constant .none _ _ => true
  | .ty x n, sc, .Name y _ => decide (x = y) && tyOk x n && glB sc x
  | .gl x d, sc, .Name y _ => decide (x = y) && glB sc y && giB T x d
  | .stv _ e, sc, x => !cmpB x && mE N T e sc x
  | .rvs a, sc, x => match rvB x with
    | some y => mE N T a sc y
    | none => false
  | .lse a, sc, x => match lsB x with
    | some y => glB sc (Str.ofString "len") && glB sc (Str.ofString "set") && !starB y && mE N T a sc y
    | none => false
  | .isx a ts, sc, x => match isB x with
    | some (y, z) => glB sc (Str.ofString "isinstance") && !starB y && !starB z && mE N T a sc y && isxB T sc ts z
    | none => false
  | .fcl fs a ms es, sc, x => match fcB x with
    | some (y, xs) => fs.all (fun f => decide (T.lookup f = some (.inl (exsLen es)))) && decide (ms.length = exsLen es) && mE N T a sc y && mEs N T es sc xs
    | none => false
  | .pm m a es, sc, .Call (.Attribute x nm apos) xs [] cpos => recB x && !starB x && pmgB m a && decide (pmN m = nm) && decide (apos.endLine = cpos.line) && decide (exsLen es = pmA m) && mE N T a sc x && mEs N T es sc xs
  | .emd, _, .Dict [] [] _ => true
  | .dc1 a b, sc, .Dict [some x] [y] _ => mE N T a sc x && mE N T b sc y
  | .ist a ns, sc, x => match istB x with
    | some (y, es) => glB sc (Str.ofString "isinstance") && !starB y && mE N T a sc y && tysB sc ns es && decide (es.length ≤ 20)
    | none => false
  | .bin o a b, sc, .BinOp x op y _ => bopB o op && mE N T a sc x && mE N T b sc y
  | .neg a, sc, .UnaryOp .USub x _ => mE N T a sc x
  | .cmp o a b, sc, .Compare x [p] [y] _ => decide (o = p) && !behindInMarks p y && mE N T a sc x && mE N T b sc y
  | .chain o p a b c, sc, .Compare x [o', p'] [y, z] _ => decide (o = o') && decide (p = p') && !lastMarks [o', p'] [y, z] && mE N T a sc x && mE N T b sc y && mE N T c sc z
  | .and es, sc, .BoolOp .And xs _ => mEs N T es sc xs && xs.all ptB
  | .or es, sc, .BoolOp .Or xs _ => mEs N T es sc xs && xs.all ptB
  | .not a, sc, .UnaryOp .Not x _ => mE N T a sc x && ptB x
  | .ite c a b, sc, .IfExp x y z _ => mE N T c sc x && ptB x && mE N T a sc y && mE N T b sc z
  | .tup es, sc, .Tuple xs _ _ => mEs N T es sc xs
  | .lst es, sc, .List xs _ => mEs N T es sc xs
  | .ix a i, sc, .Subscript x y _ => !sliceB y && mE N T a sc x && mE N T i sc y
  | .slc a lo hi, sc, .Subscript x (.Slice l h none _) _ => mE N T a sc x && ((isNul lo && l.isNone) || (match l with | some z => mE N T lo sc z | none => false)) && ((isNul hi && h.isNone) || (match h with | some z => mE N T hi sc z | none => false))
  | .call f ms es, sc, .Call (.Name y _) xs [] _ => decide (f = y) && decide (T.lookup f = some (.inl (exsLen es))) && decide (ms.length = exsLen es) && glB sc y && mEs N T es sc xs
  | .bi b es, sc, .Call (.Name y _) xs [] _ => decide (biN b = y) && glB sc y && !xs.isEmpty && mEs N T es sc xs
  | .mth m i es, sc, .Call (.Attribute (.Name x _) nm apos) xs [] cpos => nmB N sc i x && decide (mtN m = nm) && decide (apos.endLine = cpos.line) && decide (exsLen es = mtA m) && mEs N T es sc xs
  | .comp e own t it c, sc, .ListComp elt [⟨tg, iter, ifs, a⟩] scope _ => decide (a = 0) && blkC N sc scope (ownP N own) && !setB iter && mI N T it sc tg iter && mT N (relS scope sc) scope t tg && (tgS t).all (fun i => decide (i ∈ own)) &&
      mE N T e (relS scope sc) elt && ((isNul c && ifs.isEmpty) || (match ifs with | [z] => mE N T c (relS scope sc) z && ptB z | _ => false))
  | _, _, _ => false
def mEs (N : List Str) (T : Tb) : Exs → Scope → List Expr → Bool
  | .nil, _, [] => true
  | .cons e es, sc, x :: xs => !starB x && mE N T e sc x && mEs N T es sc xs
  | _, _, _ => false
def mI (N : List Str) (T : Tb) : It → Scope → Expr → Expr → Bool
  | .seq e, sc, _, x => mE N T e sc x
  | .rev e, sc, _, .Call (.Name y _) [x] [] _ => decide (y = Str.ofString "reversed") && glB sc y && !starB x && mE N T e sc x
  | .rg es, sc, _, .Call (.Name y _) xs [] _ => decide (y = Str.ofString "range") && glB sc y && decide (1 ≤ exsLen es ∧ exsLen es ≤ 3) && mEs N T es sc xs
  | .rrg e, sc, _, .Call (.Name y _) [.Call (.Name y2 _) [x] [] _] [] _ => decide (y = Str.ofString "reversed") && decide (y2 = Str.ofString "range") && glB sc y && glB sc y2 && !starB x && mE N T e sc x
  | .enum e, sc, tg, .Call (.Name y _) [x] [] _ => decide (y = Str.ofString "enumerate") && glB sc y && tupB tg && !starB x && mE N T e sc x
  | .zip e e2, sc, tg, .Call (.Name y _) [x, x2] [] _ => decide (y = Str.ofString "zip") && glB sc y && tupB tg && !starB x && !starB x2 && mE N T e sc x && mE N T e2 sc x2
  | _, _, _, _ => false
end

/-! ### the context -/
/-- what is asked of a class of exceptions: it is raised, and catches those of ys -/
structure ExK (K : PySem.W.Frag) (cl : Str → Value) (x : Str) (ys : List (Str × Bool)) (C : Addr) : Prop where
  cv : cl x = .ref C
  nm : PySem.W.nsIn K mainGlobals x = some (some (.ref C))
  xc : ExcC K C
  ve : PySem.W.kitOne K (.ref C) (.type "ValueError") = some true
  ki : ∀ y ∈ ys, PySem.W.kitOne K (cl y.1) (.ref C) = some y.2
  md : (x, true) ∈ ys → ∃ B newId initId bmB, PySem.ExcBaseFacts B newId initId bmB ∧ PySem.W.excIn K C bmB newId = true
  kp : PySem.W.keepIn K (.ref C) = true
  ex : PySem.W.subIn K (.ref C) (.type "BaseException") = some true
  ty : PySem.W.typeIn K (.ref C) = some (.type "type")
  ca : ∀ y ∈ ys, y.2 = true → PySem.W.exmOne K (cl y.1) (.ref C) = some true
/-- what the head says of a constant -/
def GcOk (K : PySem.W.Frag) (mg : Str → Option Value) (x : Str) : Gc → Prop
  | .int i => ∃ u, mg x = some u ∧ RelV (.int i) u
  | .tup ns => ∃ a o its n, mg x = some (.ref a) ∧ K.lookup a = some o ∧ o.cls = .type "tuple" ∧ o.dict = none ∧ o.data = .seq its n ∧ its.size ≤ sizeLine ∧ Vals (ns.map V.int) its.toList
structure XOk (N : List Str) (T : Tb) (g : Gh) (cl : Str → Value) (G : Calls) (sc fs : Scope) (W : WX) (X : Cx) : Prop where
  hK : X.K = g.K
  hN : X.N = N
  nd : N.Nodup
  hsc : X.env.scope = sc
  fn : ∀ x, fs.names.lookup x = some .cell → X.fn x = true
  calm : X.calm = true
  un : X.A.units + 66 < cLine
  gd : X.A.guards = some []
  tk : Takes X W
  blt : ∀ x ∈ bltN, X.mg x = none
  gis : ∀ x i, T.lookup x = some (.inr (.inl i)) → GcOk X.K X.mg x i
  ecs : ∀ x ys, T.lookup x = some (.inr (.inr ys)) → ∃ C, X.mg x = some (.ref C) ∧ ExK g.K cl x ys C
  fns : ∀ f n, T.lookup f = some (.inl n) → ∃ k a fd ps, Room k X.A ∧ (X.mg f = some (.ref a) ∧ PySem.W.nsIn X.K mainGlobals f = some (some (.ref a))) ∧ PySem.W.keepIn X.K (.ref a) = true ∧ Binds X.K fd ps [] ∧ RG.FnG X.prog X.w X.K X.mg X.base (CX X.prog X.w) k a fd ps (spD X.K cl G f n)
section
variable {N : List Str} {T : Tb} {g : Gh} {cl : Str → Value} {G : Calls} {sc fs : Scope} {W : WX} {X : Cx}
theorem XOk.blk (ok : XOk N T g cl G sc fs W X) (s : Shared) (H : Hp) (scope : Scope) (C : Addr) (cs : List (Str × Addr)) (fp : List Addr) : XOk N T g cl G (relS scope sc) scope F0 (X.blk s H scope (compEnvC scope cs C X.env) fp) where
  hK := ok.hK
  hN := ok.hN
  nd := ok.nd
  hsc := by rw [← ok.hsc]; rfl
  fn := fun x h => by
    show (scope.names.lookup x == some NameKind.cell) = true
    rw [h]; rfl
  calm := ok.calm
  un := ok.un
  gd := ok.gd
  tk := takes0
  blt := ok.blt
  gis := ok.gis
  ecs := ok.ecs
  fns := ok.fns
theorem XOk.gl (ok : XOk N T g cl G sc fs W X) {x : Str} (h : glB sc x = true) : Gl X x ∧ (x == Str.ofString "__debug__") = false ∧ x ≠ Str.ofString "__name__" := by
  unfold glB at h
  simp only [Bool.and_eq_true, Bool.not_eq_true'] at h
  obtain ⟨⟨h1, h2⟩, h3⟩ := h
  refine ⟨?_, h2, fun z => by rw [z] at h3; simp at h3⟩
  show X.env.scope.names.lookup x = some .globalImplicit
  rw [ok.hsc]
  split at h1
  · assumption
  · cases h1
theorem vis_of {x : Str} (h : visB sc x = true) : Vis sc x := by
  unfold visB at h
  split at h
  · exact .inl ‹_›
  · exact .inr (.inl ‹_›)
  · exact .inr (.inr ‹_›)
  · cases h
theorem XOk.nm (ok : XOk N T g cl G sc fs W X) {i : Nat} {x : Str} {p : Pos} (h : nmB N sc i x = true) : PE X (.Name x p) (tVar i) := by
  unfold nmB at h
  simp only [Bool.and_eq_true, Bool.not_eq_true', decide_eq_true_eq] at h
  obtain ⟨⟨⟨h1, h2⟩, h3⟩, h4⟩ := h
  exact pe_var (by rw [ok.hN]; exact h1) (by rw [ok.hsc]; exact vis_of h2) h3 h4
theorem star_cons {e : Expr} {es : List Expr} {env : Env} (h : starB e = false) : starEach (e :: es) env = (false, eval e env) :: starEach es env := by
  cases e <;> first | rfl | (cases h; done)
theorem backTo_cons {pos : Pos} {m : Sem Value} {l : List (Bool × Sem Value)} : (backTo pos ((false, m) :: l)).any (·.1) = (backTo pos l).any (·.1) := rfl
theorem mEs_star : ∀ {es : Exs} {xs : List Expr} {env : Env} {pos : Pos}, mEs N T es sc xs = true → (backTo pos (starEach xs env)).any (·.1) = false
  | .nil, [], _, _, _ => rfl
  | .nil, _ :: _, _, _, h => by unfold mEs at h; cases h
  | .cons _ _, [], _, _, h => by unfold mEs at h; cases h
  | .cons e es, x :: xs, env, pos, h => by
    unfold mEs at h
    simp only [Bool.and_eq_true, Bool.not_eq_true'] at h
    rw [star_cons h.1.1, backTo_cons]
    exact mEs_star h.2
theorem mEs_len : ∀ {es : Exs} {xs : List Expr}, mEs N T es sc xs = true → xs.length = exsLen es
  | .nil, [], _ => rfl
  | .nil, _ :: _, h => by unfold mEs at h; cases h
  | .cons _ _, [], h => by unfold mEs at h; cases h
  | .cons e es, x :: xs, h => by
    unfold mEs at h
    simp only [Bool.and_eq_true] at h
    simp only [List.length_cons, exsLen, mEs_len h.2]
theorem evs_len : ∀ {es : Exs} {env : En} {K1 : List AV → En → Prop} {K2 : Str → En → Prop}, wpR (evs G es env) K1 K2 → wpR (evs G es env) (fun ds e => K1 ds e ∧ ds.length = exsLen es) K2
  | .nil, env, K1, K2, h => by
    unfold evs at h ⊢
    exact ⟨h, rfl⟩
  | .cons e es, env, K1, K2, h => by
    unfold evs at h ⊢
    cases q : ev G e env with
    | none => rw [q] at h; exact h.elim
    | some r =>
      rw [q] at h
      cases r with
      | exc c e1 => exact h
      | ok d e1 =>
        simp only [bnd_ok] at h ⊢
        have h := evs_len (wpR_bnd h)
        cases q2 : evs G es e1 with
        | none => rw [q2] at h; exact h.elim
        | some r2 =>
          rw [q2] at h
          cases r2 with
          | exc c e2 => exact h
          | ok ds e2 => exact ⟨h.1, by simp [exsLen, h.2]⟩
theorem plainIx_of {b : Expr} (h : sliceB b = false) : PlainIx b := by
  intro o i
  cases b <;> first | rfl | (cases h; done)
theorem folded_of {it : Expr} {env : Env} (h : setB it = false) (x : Value) : foldedSetIterable it env x = pure x := by
  cases it <;> first | rfl | (cases h; done)
theorem ownP_map {own : List Nat} : (ownP N own).map (·.2) = own := by
  unfold ownP
  rw [List.map_map]
  exact (List.map_congr_left fun a _ => rfl).trans (List.map_id _)
/-- a test of a value -/
theorem tT_tB {r : En → Option (R AV)} {σ : L2.St} {H : Hp} {Q : Bool → Hp → Prop} (h : tT g W cl (fun env => bnd (r env) asB) σ H Q) : tE g W cl r σ H fun x H' => ∃ k, x = .bl k ∧ Q k H' := by
  obtain ⟨N, env, s, h⟩ := h
  refine ⟨N, env, s, wpR_mono (wpR_bnd h) (fun d env1 h H1 v t1 p1 => ?_) fun _ _ h => h⟩
  cases d with
  | bl b =>
    obtain ⟨p, s1⟩ := p1
    have p : RV g.K g.H0 H1 _ (.bl b) v := p
    cases p
    exact ⟨b, rfl, h H1 t1 s1⟩
  | _ => exact h.elim
theorem tE_bl {σ : L2.St} {H : Hp} {F N : Addr → Prop} {env : En} {b : Bool} (s : SR g N env σ H) : Posts g F env σ H N [.bl b] [.bl b] := ⟨.bl b, s⟩
/-- a name's value -/
theorem rv_slot {i : Nat} {d : AV} {N : Addr → Prop} {env : En} {σ : L2.St} {H : Hp} {F : Addr → Prop} (s : SR g N env σ H) (h : env[i]? = some (some (.val d))) : ∃ v, σ[i]? = some (some v) ∧ Posts g F env σ H N [d] [v] := by
  obtain ⟨v, e, r⟩ := s.val i d h
  exact ⟨v, e, post_sto s r⟩
theorem tE_var {i : Nat} {σ : L2.St} {H : Hp} {Q : VK} (h : tE g W cl (ev G (.var i)) σ H Q) : tVar i σ H Q := by
  obtain ⟨N, env, s, h⟩ := h
  unfold ev at h
  split at h
  · rename_i d e
    obtain ⟨v, ev, p⟩ := rv_slot (F := Fr env σ H) s e
    exact ⟨v, ev, h H v Stp.refl p⟩
  · rename_i sl n1 e
    have key : ∀ v, σ[i]? = some (some v) → Q v H := fun v ev => h H v Stp.refl ⟨ev, s⟩
    cases sl with
    | val d => exact (n1 d rfl).elim
    | own nw xs => obtain ⟨a, vs, e1, _⟩ := s.own i nw xs e; exact ⟨_, e1, key _ e1⟩
    | io xs => obtain ⟨a, vs, e1, _⟩ := s.io i xs e; exact ⟨_, e1, key _ e1⟩
    | brw t xs => obtain ⟨a, vs, e1, _⟩ := s.brw i t xs e; exact ⟨_, e1, key _ e1⟩
  · exact h.elim
theorem tE_mv {i : Nat} {σ : L2.St} {H : Hp} {Q : VK} (h : tE g W cl (ev G (.mv i)) σ H Q) : tVar i σ H Q := by
  obtain ⟨N, env, s, h⟩ := h
  unfold ev at h
  split at h
  · rename_i xs e
    obtain ⟨a, vs, e1, e2, r, e3, e4, e5⟩ := s.own i true xs e
    obtain ⟨s1, t1⟩ := unown_ok s e e1 e2 r e4 (ns := none) (.inl rfl)
    have pa : Pm env σ a := ⟨i, ⟨_, e, rfl⟩, e1⟩
    have st : Stab (Pv N env σ) H H := fun _ _ h _ => h
    have nP : ∀ b, Pm (env.set i none) σ b → Pm env σ b ∧ b ≠ a := fun b ⟨j, ⟨sl, k1, k2⟩, k3⟩ => by
      have hj : j ≠ i := fun z => by
        subst z
        rw [List.getElem?_set_self (lt_of_get e)] at k1
        cases k1
      rw [List.getElem?_set_ne (Ne.symm hj)] at k1
      exact ⟨⟨j, ⟨sl, k1, k2⟩, k3⟩, fun z => hj (s.inj j i a ⟨sl, k1, k2⟩ ⟨_, e, rfl⟩ (z ▸ k3) e1)⟩
    have s2 : SR g (adN N a) (env.set i none) σ H := by
      have hP : ∀ b, Pv (adN N a) (env.set i none) σ b → H b ≠ none → Pv N env σ b := fun b hb _ => by
        rcases hb with (hb | hb) | hb
        · exact .inl hb
        · rw [hb]; exact .inr pa
        · exact .inr (nP b hb).1
      have back : ∀ {j : Nat} {sl : Slot}, (env.set i none)[j]? = some (some sl) → j ≠ i ∧ env[j]? = some (some sl) := fun {j sl} k => by
        have hj : j ≠ i := fun z => by
          subst z
          rw [List.getElem?_set_self (lt_of_get e)] at k
          cases k
        rw [List.getElem?_set_ne (Ne.symm hj)] at k
        exact ⟨hj, k⟩
      have na : ∀ {j : Nat} {sl : Slot} {b : Addr}, env[j]? = some (some sl) → sl.mut = true → j ≠ i → σ[j]? = some (some (.ref b)) → ¬ N b → ¬ adN N a b := fun {j sl b} k1 k2 hj k3 n z => by
        rcases z with z | z
        · exact n z
        · exact hj (s.inj j i a ⟨sl, k1, k2⟩ ⟨_, e, rfl⟩ (z ▸ k3) e1)
      refine ⟨s1.len, fun j d k => ?_, fun j nw ys k => ?_, fun j ys k => ?_, fun j tt ys k => ?_, s1.inj, s.keep, s.dom, fun b hb => ?_⟩
      · obtain ⟨hj, k⟩ := back k
        obtain ⟨v, q1, q2⟩ := s.val j d k
        exact ⟨v, q1, q2.mono st hP⟩
      · obtain ⟨hj, k⟩ := back k
        obtain ⟨b, ws, q1, q2, q3, q4, q5⟩ := s.own j nw ys k
        exact ⟨b, ws, q1, q2, q3.mono st hP, na k rfl hj q1 q4, q5⟩
      · obtain ⟨hj, k⟩ := back k
        obtain ⟨b, ws, q1, q2, q3, q4, q5⟩ := s.io j ys k
        exact ⟨b, ws, q1, q2, q3.mono st hP, na k rfl hj q1 q4, q5⟩
      · obtain ⟨hj, k⟩ := back k
        obtain ⟨b, ws, q1, q2⟩ := s.brw j tt ys k
        refine ⟨b, ws, q1, ?_⟩
        rcases q2 with q2 | ⟨q2, q3, q4, q5⟩
        · exact .inl q2
        · exact .inr ⟨q2, .inl q3, q4.mono st hP, q5⟩
      · rcases hb with hb | hb
        · exact s.nst b hb
        · rw [hb, e2]; simp
    refine ⟨_, e1, h H _ t1 ⟨⟨s1, a, vs, rfl, e2, e4 rfl, e3, r.mono st fun b hb _ => ?_, .inr pa⟩, s2⟩⟩
    rcases hb with ((hb | hb) | hb) | hb
    · exact .inl hb
    · rw [hb]; exact .inr pa
    · exact hb.elim
    · exact .inr (nP b hb).1
  · exact h.elim
theorem tE_fz {i : Nat} {σ : L2.St} {H : Hp} {Q : VK} (h : tE g W cl (ev G (.fz i)) σ H Q) : tVar i σ H Q := by
  obtain ⟨N, env, s, h⟩ := h
  unfold ev at h
  split at h
  · rename_i nw xs e
    obtain ⟨a, vs, e1, e2, r, e3, e4, e5⟩ := s.own i nw xs e
    obtain ⟨s1, t1⟩ := unown_ok s e e1 e2 r e4 (ns := some (.val (.lst nw xs))) (.inr rfl)
    obtain ⟨v, ev, p⟩ := rv_slot (F := Fr env σ H) s1 (i := i) (d := .lst nw xs) (List.getElem?_set_self (lt_of_get e))
    exact ⟨v, ev, h H v t1 p⟩
  · rename_i d e
    obtain ⟨v, ev, p⟩ := rv_slot (F := Fr env σ H) s e
    exact ⟨v, ev, h H v Stp.refl p⟩
  · exact h.elim
end
end RX
/-! RX part p: written expressions do what the evaluator says. -/
namespace RX
open PySem L2
open PyProof.Rows
section
variable {N : List Str} {T : Tb} {g : Gh} {cl : Str → Value} {G : Calls} {sc fs : Scope} {W : WX} {X : Cx} {x : Expr}
theorem bop_ok (ok : XOk N T g cl G sc fs W X) {o : Bop} {op : Operator} (h : bopB o op = true) : BinOk X g op (binO o) := by
  cases o <;> cases op <;> first
    | (have h : false = true := h; cases h; done)
    | exact bo_add ok.hK
    | exact bo_sub
    | exact bo_mul ok.hK
    | exact bo_div
    | exact bo_mod
    | exact bo_pow
    | exact bo_shl
    | exact bo_shr
    | exact bo_band
theorem cmp_ok (ok : XOk N T g cl G sc fs W X) (o : CmpOp) : CmpOk X g o (cmpO o) := by
  have u := ok.un
  have u64 : X.A.units + 64 < cLine := by omega
  cases o
  · exact co_eq ok.hK u64
  · exact co_ne ok.hK u64
  · exact co_lt
  · exact co_le
  · exact co_gt
  · exact co_ge
  · exact co_is
  · exact co_isNot
  · exact co_in ok.hK (by omega)
  · exact co_notIn ok.hK (by omega)
def rRprD (K : PySem.W.Frag) : List V → Hp → VK → Prop := fun vs H Q => ∃ a d, vs = [.ref a] ∧ Dp K H (.ref a) d ∧ SeqAt.shaped d = true ∧ PyData.showable d = true ∧ d.shown.length ≤ sizeLine ∧ Q (.str d.shown) H
theorem call_rpr (gd : X.A.guards = some []) (un : X.A.units + 66 < cLine) : CallR X (.builtin "repr") (rRprD X.K) := by
  intro pins s σ H xs us Q I r h
  obtain ⟨a, d, rfl, h1, h2, h3, h4, q⟩ := h
  obtain rfl := Vals.ref1 r
  obtain ⟨as, rd⟩ := Dp.reads I d _ _ h1 rfl
  have lay := SeqAt.canLay_of_shaped h2
  have dep : d.depth ≤ 64 := by
    have h2 : (d.canLay0 && decide (d.depth ≤ 64)) = true := h2
    simp only [Bool.and_eq_true, decide_eq_true_eq] at h2
    exact h2.2
  exact repr_of_reads' rd h3 (PyData.noDict_hsm (PyData.hasDict_of_canLay d lay)) gd (by omega) (fun _ _ e => e) (fun h' u tk hk => ⟨.str d.shown, H, I.kept (t' := tk) fun b o e => hk b o e, ⟨u, rfl⟩, q⟩) h4
theorem bi_rpr (hK : X.K = g.K) (gd : X.A.guards = some []) (un : X.A.units + 66 < cLine) : BiOk X g (.builtin "repr") oRpr := by
  refine ⟨_, call_rpr gd un, ?_⟩
  intro F N env σ H ds vs d Q hF h e q
  unfold oRpr at e
  split at e
  · rename_i x
    obtain ⟨v, rfl⟩ := h.vs1
    split at e
    · rename_i y e1
      split at e
      · rename_i hc
        cases e
        unfold okE at hc
        simp only [Bool.and_eq_true, decide_eq_true_eq] at hc
        obtain ⟨⟨⟨c1, c2, c3⟩, c4⟩, c5⟩ := hc
        have dp := h.1.dp h.2.sr e1 c2
        rw [← hK] at dp
        have isr : ∃ a, v = .ref a := by
          cases y <;> first
            | cases c1; done
            | (cases dp <;> exact ⟨_, rfl⟩)
        obtain ⟨a, rfl⟩ := isr
        exact ⟨a, _, rfl, dp, c3, c4, c5, q H _ Stp.refl ⟨.str _, h.sr⟩⟩
      · cases e
    · cases e
  · cases e
theorem bi_ok (ok : XOk N T g cl G sc fs W X) (b : Bi) : BiOk X g (biV b) (biO b) := by
  cases b
  · exact bi_len ok.hK
  · exact bi_sum ok.hK ok.calm
  · exact bi_max ok.hK ok.calm
  · exact bi_min ok.hK ok.calm
  · exact bi_isi ok.hK
  · exact bi_int
  · exact bi_str
  · exact bi_abs
  · exact bi_list ok.hK
  · exact bi_tuple ok.hK
  · exact bi_all ok.hK ok.calm
  · exact bi_any ok.hK ok.calm
  · exact bi_sorted ok.hK
  · exact bi_rpr ok.hK ok.gd ok.un
theorem bi_boot (b : Bi) : bootBuiltins (biN b) = some (biV b) := by cases b <;> decide +kernel
theorem bi_name (b : Bi) : biN b ∈ bltN := by cases b <;> decide +kernel
theorem pe_bi {b : Bi} {r : List V → Hp → VK → Prop} {p pos : Pos} {e : Expr} {es : List Expr} {t : TA} (hr : CallR X (biV b) r) (hg : Gl X (biN b)) (hm : X.mg (biN b) = none) (hn : biN b ≠ Str.ofString "__name__") (hd : (biN b == Str.ofString "__debug__") = false)
    (ha : PA X (e :: es) t) (hs : starEach (e :: es) X.env = (false, eval e X.env) :: starEach es X.env) (hpl : (backTo pos (starEach es X.env)).any (·.1) = false) : PE X (.Call (.Name (biN b) p) (e :: es) [] pos) (tCB r t) := by
  have bb := bi_boot b
  cases b <;> first
    | exact pe_callB hr hg hm bb ha hn hd hs hpl
    | exact pe_callTy hr hg hm bb ha hn hd hs hpl
/-- what is shown of a written expression -/
def PB (g : Gh) (W : WX) (cl : Str → Value) (G : Calls) (X : Cx) (x : Expr) (e : Ex) : Prop := PE X x (tE g W cl (ev G e)) ∧ (ptB x = true → PT X x (tT g W cl fun env => bnd (ev G e env) asB))
def IHE (N : List Str) (T : Tb) (g : Gh) (cl : Str → Value) (G : Calls) (e : Ex) : Prop := ∀ {sc fs : Scope} {W : WX} {X : Cx} {x : Expr}, XOk N T g cl G sc fs W X → mE N T e sc x = true → PB g W cl G X x e
def IHEs (N : List Str) (T : Tb) (g : Gh) (cl : Str → Value) (G : Calls) (es : Exs) : Prop := ∀ {sc fs : Scope} {W : WX} {X : Cx} {xs : List Expr}, XOk N T g cl G sc fs W X → mEs N T es sc xs = true → PA X xs (tA g W cl (evs G es)) ∧
  (xs.all ptB = true → ∀ pos, (PE X (.BoolOp .And xs pos) (tE g W cl (evAnd G es)) ∧ PW X (.BoolOp .And xs pos) (tT g W cl fun env => bnd (evAnd G es env) asB)) ∧ PE X (.BoolOp .Or xs pos) (tE g W cl (evOr G es)) ∧ PW X (.BoolOp .Or xs pos) (tT g W cl fun env => bnd (evOr G es env) asB))
def IHI (N : List Str) (T : Tb) (g : Gh) (cl : Str → Value) (G : Calls) (it : It) : Prop := ∀ {sc fs : Scope} {W : WX} {X : Cx} {tg x : Expr}, XOk N T g cl G sc fs W X → mI N T it sc tg x = true → PI X tg x (tI g W cl (evI G it))
theorem no_ {p : Prop} (h : false = true) : p := by cases h
/-- a test that is a value's truth -/
theorem pb_val {e : Ex} (h : PE X x (tE g W cl (ev G e))) (hp : ptB x = true → ∀ whole, isTrue x X.env whole = (do let v ← whole; standAt x.pos; holding [v] (truthy v))) : PB g W cl G X x e :=
  ⟨h, fun z => RX.PT.weak (pt_val h (hp z)) fun σ H Q q => tT_tB q⟩
theorem c_name {e : Ex} {i : Nat} (ok : XOk N T g cl G sc fs W X) {y : Str} {p : Pos} (h : nmB N sc i y = true) (k : ∀ σ H Q, tE g W cl (ev G e) σ H Q → tVar i σ H Q) : PB g W cl G X (.Name y p) e :=
  pb_val (RX.PE.weak (ok.nm h) k) fun _ _ => rfl
theorem tE_C {e : Ex} {d : AV} {v : V} (he : ev G e = fun env => some (.ok d env)) (hr : ∀ K H0 H P, RV K H0 H P d v) (σ : L2.St) (H : Hp) (Q : VK) (h : tE g W cl (ev G e) σ H Q) : tC v σ H Q := by
  rw [he] at h
  obtain ⟨N, env, s, h⟩ := h
  exact h H v Stp.refl (post_sto s (hr _ _ _ _))
theorem tE_CK {e : Ex} {d : AV} {v : V} (he : ev G e = fun env => some (.ok d env)) (hr : ∀ H0 H P, RV g.K H0 H P d v) (σ : L2.St) (H : Hp) (Q : VK) (h : tE g W cl (ev G e) σ H Q) : tC v σ H Q := by
  rw [he] at h
  obtain ⟨N, env, s, h⟩ := h
  exact h H v Stp.refl (post_sto s (hr _ _ _))
theorem rv_old {g : Gh} {H : Hp} {P : Addr → Prop} {nw : Bool} {xs : List AV} {v : V} (h : RV g.K g.H0 H P (.lst nw xs) v) (b : Bool) : RV g.K g.H0 H P (.lst (b && nw) xs) v := by
  cases h with
  | lst h1 h2 h3 h4 => exact .lst h1 h2 (fun z => h3 (by cases b <;> simp_all)) h4
theorem post_stw {F N : Addr → Prop} {env : En} {σ : L2.St} {H : Hp} {d d' : AV} {v : V} {b : Bool} (p : Posts g F env σ H N [d] [v]) (h : stw b d = some d') : Posts g F env σ H N [d'] [v] := by
  unfold stw at h
  split at h
  · rename_i nw xs hs
    cases h
    exact post_sto p.sr (rv_old (HeadOk.sto p.1 p.2 hs) b)
  · exact post_sto p.sr (HeadOk.sto p.1 p.2 h)
theorem tE_stv {b : Bool} {e : Ex} {σ : L2.St} {H : Hp} {Q : VK} (h : tE g W cl (ev G (.stv b e)) σ H Q) : tE g W cl (ev G e) σ H Q := by
  obtain ⟨N, env, s, h⟩ := h
  have h : wpR (bnd (ev G e env) (stwK b)) _ _ := h
  refine ⟨N, env, s, wpR_mono (wpR_bnd h) (fun d env1 h H1 v t1 p1 => ?_) fun _ _ h => h⟩
  unfold stwK at h
  split at h
  · rename_i d' hd
    exact h H1 v t1 (post_stw p1 hd)
  · exact h.elim
theorem tT_stv {b : Bool} {e : Ex} {σ : L2.St} {H : Hp} {Q : Bool → Hp → Prop} (h : tT g W cl (fun env => bnd (ev G (.stv b e) env) asB) σ H Q) : tT g W cl (fun env => bnd (ev G e env) asB) σ H Q := by
  obtain ⟨N, env, s, h⟩ := h
  refine ⟨N, env, s, ?_⟩
  have h : wpR (bnd (bnd (ev G e env) (stwK b)) asB) _ _ := h
  show wpR (bnd (ev G e env) asB) _ _
  cases q : ev G e env with
  | none => rw [q] at h; exact h
  | some r =>
    rw [q] at h
    cases r with
    | exc c e1 => exact h
    | ok d e1 =>
      have h : wpR (bnd (stwK b d e1) asB) _ _ := h
      show wpR (asB d e1) _ _
      cases d <;> first
        | exact h
        | exact h.elim
theorem ihe_stv {b : Bool} {e : Ex} (ie : IHE N T g cl G e) : IHE N T g cl G (.stv b e) := by
  intro sc fs W X x ok h
  have h : (!cmpB x && mE N T e sc x) = true := by
    cases x <;> first
      | exact h
  simp only [Bool.and_eq_true] at h
  obtain ⟨p1, p2⟩ := ie ok h.2
  exact ⟨RX.PE.weak p1 fun σ H Q q => tE_stv q, fun z => RX.PT.weak (p2 z) fun σ H Q q => tT_stv q⟩
theorem ihe_var (i : Nat) : IHE N T g cl G (.var i) := by
  intro sc fs W X x ok h
  cases x <;> first
    | exact no_ h
    | exact c_name ok h fun _ _ _ q => tE_var q
theorem ihe_mv (i : Nat) : IHE N T g cl G (.mv i) := by
  intro sc fs W X x ok h
  cases x <;> first
    | exact no_ h
    | exact c_name ok h fun _ _ _ q => tE_mv q
theorem ihe_fz (i : Nat) : IHE N T g cl G (.fz i) := by
  intro sc fs W X x ok h
  cases x <;> first
    | exact no_ h
    | exact c_name ok h fun _ _ _ q => tE_fz q
theorem ihe_int (i : Int) : IHE N T g cl G (.int i) := by
  intro sc fs W X x ok h
  cases x <;> first
    | exact no_ h
    | skip
  rename_i c k pos
  cases c <;> first
    | exact no_ h
    | skip
  rename_i j
  have h : decide (i = j) = true := h
  have h := of_decide_eq_true h
  subst h
  exact pb_val (RX.PE.weak pe_int (tE_C rfl fun _ _ _ _ => .int i)) fun _ _ => rfl
theorem ihe_bl (b : Bool) : IHE N T g cl G (.bl b) := by
  intro sc fs W X x ok h
  cases x <;> first
    | exact no_ h
    | skip
  rename_i c k pos
  cases c <;> first
    | exact no_ h
    | skip
  rename_i j
  have h : (b == j) = true := h
  have h : b = j := by simpa using h
  subst h
  exact pb_val (RX.PE.weak pe_bl (tE_C rfl fun _ _ _ _ => .bl b)) fun _ _ => rfl
theorem ihe_str (y : Str) : IHE N T g cl G (.str y) := by
  intro sc fs W X x ok h
  cases x <;> first
    | exact no_ h
    | skip
  rename_i c k pos
  cases c <;> first
    | exact no_ h
    | skip
  rename_i j
  have h : decide (y = j) = true := h
  have h := of_decide_eq_true h
  subst h
  exact pb_val (RX.PE.weak pe_str (tE_C rfl fun _ _ _ _ => .str y)) fun _ _ => rfl
theorem ihe_non : IHE N T g cl G .non := by
  intro sc fs W X x ok h
  cases x <;> first
    | exact no_ h
    | skip
  rename_i c k pos
  cases c <;> first
    | exact no_ h
    | skip
  exact pb_val (RX.PE.weak pe_non (tE_C rfl fun _ _ _ _ => .non)) fun _ _ => rfl
theorem ty_boot {y : Str} {n : String} (h : tyOk y n = true) : bootBuiltins y = some (.type n) ∧ y ∈ bltN := by
  unfold tyOk at h
  simp only [Bool.or_eq_true, Bool.and_eq_true, beq_iff_eq] at h
  rcases h with (((⟨rfl, rfl⟩ | ⟨rfl, rfl⟩) | ⟨rfl, rfl⟩) | ⟨rfl, rfl⟩) | ⟨rfl, rfl⟩ <;> constructor <;> decide +kernel
theorem ty_name (ok : XOk N T g cl G sc fs W X) {y : Str} {n : String} {pos : Pos} (h2 : tyOk y n = true) (h3 : glB sc y = true) : PE X (.Name y pos) (tC (.ty n)) := by
  obtain ⟨q1, q2⟩ := ty_boot h2
  obtain ⟨g1, g2, g3⟩ := ok.gl h3
  exact pe_bltn g1 (ok.blt _ q2) q1 (v := .ty n) rfl g3 g2
theorem ihe_ty (y : Str) (n : String) : IHE N T g cl G (.ty y n) := by
  intro sc fs W X x ok h
  cases x <;> first
    | exact no_ h
    | skip
  rename_i z pos
  have h : (decide (y = z) && tyOk y n && glB sc y) = true := h
  simp only [Bool.and_eq_true, decide_eq_true_eq] at h
  obtain ⟨⟨rfl, h2⟩, h3⟩ := h
  obtain ⟨q1, q2⟩ := ty_boot h2
  obtain ⟨g1, g2, g3⟩ := ok.gl h3
  exact pb_val (RX.PE.weak (pe_bltn g1 (ok.blt _ q2) q1 (v := .ty n) rfl g3 g2) (tE_C rfl fun _ _ _ _ => .ty n)) fun _ _ => rfl
theorem gl_tup (ok : XOk N T g cl G sc fs W X) {y : Str} {xs : List AV} (h : giB T y (.tup xs) = true) : ∃ ns a, ints? xs = some ns ∧ X.mg y = some (.ref a) ∧ ∀ H, SqT X.K H a (ns.map V.int) ∧ tyV X.K "tuple" (.ref a) H := by
  have h : (match ints? xs with | some ns => decide (T.lookup y = some (.inr (.inl (.tup ns)))) | none => false) = true := h
  cases e : ints? xs with
  | none => rw [e] at h; cases h
  | some ns =>
    rw [e] at h
    obtain ⟨a, o, its, n, e1, e2, e3, e4, e5, e6, e7⟩ := ok.gis _ _ (of_decide_eq_true h)
    exact ⟨ns, a, rfl, e1, fun H => ⟨.inr ⟨o, its, n, e2, e3, e5, e6, e7⟩, .inr (.inl ⟨rfl, o, e2, e3, e4⟩)⟩⟩
theorem ihe_gl {y : Str} {d : AV} : IHE N T g cl G (.gl y d) := by
  intro sc fs W X x ok h
  cases x <;> first
    | exact no_ h
    | skip
  rename_i z pos
  have h : (decide (y = z) && glB sc z && giB T y d) = true := h
  simp only [Bool.and_eq_true, decide_eq_true_eq] at h
  obtain ⟨⟨rfl, h2⟩, h3⟩ := h
  obtain ⟨g1, g2, g3⟩ := ok.gl h2
  cases d <;> first
    | exact no_ h3
    | skip
  · rename_i i
    have h3 : decide (T.lookup y = some (.inr (.inl (.int i)))) = true := h3
    simp only [decide_eq_true_eq] at h3
    obtain ⟨u, e1, e2⟩ := ok.gis _ _ h3
    exact pb_val (RX.PE.weak (pe_glob g1 e1 e2 g2) (tE_C rfl fun _ _ _ _ => .int i)) fun _ _ => rfl
  · rename_i xs
    obtain ⟨ns, a, e0, e1, e2⟩ := gl_tup ok h3
    refine pb_val (RX.PE.weak (pe_glob (v := .ref a) g1 e1 rfl g2) fun σ H Q q => ?_) fun _ _ => rfl
    obtain ⟨N0, env, s, w⟩ := q
    exact w H _ Stp.refl (post_sto s (.tup (by rw [← ok.hK]; exact (e2 H).1) (by rw [ints?_map e0]; exact RVs.ofInts ns)))
  · rename_i z
    have h5 : (decide (y = z) && (match T.lookup y with | some (.inl _) => true | _ => false)) = true := h3
    simp only [Bool.and_eq_true, decide_eq_true_eq] at h5
    obtain ⟨rfl, h5⟩ := h5
    split at h5
    · rename_i n hl
      obtain ⟨k, a, fd, ps, _, ⟨e1, e2⟩, _⟩ := ok.fns _ _ hl
      rw [ok.hK] at e2
      exact pb_val (RX.PE.weak (pe_glob (v := .ref a) g1 e1 rfl g2) (tE_CK rfl fun _ _ _ => .fn e2)) fun _ _ => rfl
    · cases h5
theorem ihe_bin {o : Bop} {a b : Ex} (ia : IHE N T g cl G a) (ib : IHE N T g cl G b) : IHE N T g cl G (.bin o a b) := by
  intro sc fs W X x ok h
  cases x <;> first
    | exact no_ h
    | skip
  rename_i l op r pos
  have h : (bopB o op && mE N T a sc l && mE N T b sc r) = true := h
  simp only [Bool.and_eq_true] at h
  obtain ⟨r', h1, h2⟩ := bop_ok ok h.1.1
  exact ⟨RX.PE.weak (pe_op h1 (ia ok h.1.2).1 (ib ok h.2).1) fun σ H Q q => tE_op2 h2 q, fun z => no_ z⟩
theorem un_eq {e : Ex} {a : Ex} {op : En → List AV → Option AV} {r : V → Hp → VK → Prop} (he : ev G e = fun env => bnd (ev G a env) fun d e1 => lift op [d] e1) (ho : OpS g op fun vs H Q => match vs with | [x] => r x H Q | _ => False) (σ : L2.St) (H : Hp) (Q : VK) (h : tE g W cl (ev G e) σ H Q) : tUn r (tE g W cl (ev G a)) σ H Q := by
  rw [he] at h
  exact tE_op1 ho h
theorem oneg_ok : OpS g oNeg fun vs H Q => match vs with | [x] => rU (fun i => V.int (-i)) x H Q | _ => False := by
  intro F N env σ H ds vs d Q hF p e k
  unfold oNeg at e
  split at e
  · rename_i i
    cases e
    have hl := p.length
    match vs, hl with
    | [v], _ =>
      obtain ⟨p1, s⟩ := p
      have p1 : RV g.K g.H0 H _ (.int i) v := p1
      cases p1
      exact ⟨i, rfl, k H _ Stp.refl ⟨.int _, s⟩⟩
  · cases e
theorem ihe_neg {a : Ex} (ia : IHE N T g cl G a) : IHE N T g cl G (.neg a) := by
  intro sc fs W X x ok h
  cases x <;> first
    | exact no_ h
    | skip
  rename_i op y pos
  cases op <;> first
    | exact no_ h
    | skip
  have h : mE N T a sc y = true := h
  exact pb_val (RX.PE.weak (pe_un un_neg (ia ok h).1) (un_eq rfl oneg_ok)) fun _ _ => rfl
theorem ihe_cmp {o : CmpOp} {a b : Ex} (ia : IHE N T g cl G a) (ib : IHE N T g cl G b) : IHE N T g cl G (.cmp o a b) := by
  intro sc fs W X x ok h
  cases x <;> first
    | exact no_ h
    | skip
  rename_i l ops rs pos
  match ops, rs, h with
  | [p], [r], h =>
    have h : (decide (o = p) && !behindInMarks p r && mE N T a sc l && mE N T b sc r) = true := h
    simp only [Bool.and_eq_true, Bool.not_eq_true', decide_eq_true_eq] at h
    obtain ⟨⟨⟨rfl, h2⟩, h3⟩, h4⟩ := h
    obtain ⟨r', k1, k2⟩ := cmp_ok ok o
    exact ⟨RX.PE.weak (pe_cmpR k1 (ia ok h3).1 (ib ok h4).1 h2) fun σ H Q q => tE_op2 k2 q, fun _ => RX.PT.weak (pt_cmpR k1 (ia ok h3).1 (ib ok h4).1 h2) fun σ H Q q => tE_op2 k2 (tT_tB q)⟩
  | [], _, h => exact no_ h
  | [_], [], h => exact no_ h
  | [_], _ :: _ :: _, h => exact no_ h
  | _ :: _ :: _, [], h => exact no_ h
  | _ :: _ :: _, [_], h => exact no_ h
  | _ :: _ :: _, _ :: _ :: _, h => exact no_ h
theorem tE_chain {o p : CmpOp} {a b c : Ex} {r r' : R2} (h1 : OpS g (cmpO o) (r2L r)) (h2 : OpS g (cmpO p) (r2L r')) (σ : L2.St) (H : Hp) (Q : VK) (h : tE g W cl (ev G (.chain o p a b c)) σ H Q) :
    tChain r r' (tE g W cl (ev G a)) (tE g W cl (ev G b)) (tE g W cl (ev G c)) σ H Q := by
  obtain ⟨N, env, s, h⟩ := h
  unfold ev at h
  refine ⟨N, env, s, wpR_mono (wpR_bnd h) ?_ fun _ _ h => h⟩
  intro d env1 h H1 v t1 p1
  refine ⟨nxN N d v, env1, p1.2, wpR_mono (wpR_bnd h) ?_ ?_⟩
  · intro d2 env2 h H2 v2 t2 p2
    obtain ⟨y, e2, h⟩ := wpR_lift (wpR_bnd h)
    have p3 := p1.cons t2 p2 (Fr.sub t1)
    refine h1 _ N env2 σ H2 [d, d2] [v, v2] y _ (Fr.sub1 (t1.trans t2)) p3 e2 fun H3 u t3 p4 => ?_
    split at h
    · rename_i j _
      obtain ⟨q, s3⟩ := p4
      have q : RV g.K g.H0 H3 _ (.bl true) u := q
      cases q
      have q2 : RV g.K g.H0 H2 _ (.int j) v2 := p2.1
      cases q2
      refine ⟨true, rfl, N, env2, s3, wpR_mono (wpR_bnd h) ?_ ?_⟩
      · intro w env4 h H4 v4 t4 p4
        obtain ⟨y, e3, h⟩ := wpR_lift h
        have t24 := ((t1.trans t2).trans t3).trans t4
        have p5 : Posts g (Fr env2 σ H3) env4 σ H4 N [.int j, w] [.int j, v4] := ⟨.int j, p4⟩
        exact h2 _ N env4 σ H4 _ _ y Q (Fr.sub1 t4) p5 e3 fun H5 u t5 p6 => h H5 u (t24.trans t5) (p6.monoF (Fr.sub ((t1.trans t2).trans t3)))
      · intro c env4 h H4 dd t4 s4
        exact h H4 dd (((t1.trans t2).trans t3).trans t4) s4
    · obtain ⟨q, s3⟩ := p4
      have q : RV g.K g.H0 H3 _ (.bl false) u := q
      cases q
      exact ⟨false, rfl, h H3 _ ((t1.trans t2).trans t3) (tE_bl s3)⟩
    · exact h.elim
  · intro c env2 h H2 dd t2 s2
    exact h H2 dd (t1.trans t2) (SR.drop p1.sr t2 s2 fun _ => nxN_sub)
theorem ihe_chain {o p : CmpOp} {a b c : Ex} (ia : IHE N T g cl G a) (ib : IHE N T g cl G b) (ic : IHE N T g cl G c) : IHE N T g cl G (.chain o p a b c) := by
  intro sc fs W X x ok h
  cases x <;> first
    | exact no_ h
    | skip
  rename_i l ops rs pos
  match ops, rs, h with
  | [o', p'], [y, z], h =>
    have h : (decide (o = o') && decide (p = p') && !lastMarks [o', p'] [y, z] && mE N T a sc l && mE N T b sc y && mE N T c sc z) = true := h
    simp only [Bool.and_eq_true, Bool.not_eq_true', decide_eq_true_eq] at h
    obtain ⟨⟨⟨⟨⟨rfl, rfl⟩, h2⟩, h3⟩, h4⟩, h5⟩ := h
    obtain ⟨r, k1, k2⟩ := cmp_ok ok o
    obtain ⟨r', k1', k2'⟩ := cmp_ok ok p
    exact ⟨RX.PE.weak (pe_chain k1 k1' (ia ok h3).1 (ib ok h4).1 (ic ok h5).1 h2) (tE_chain k2 k2'), fun _ => RX.PT.weak (pt_chain k1 k1' (ia ok h3).1 (ib ok h4).1 (ic ok h5).1 h2) fun σ H Q q => tE_chain k2 k2' σ H _ (tT_tB q)⟩
  | [], _, h => exact no_ h
  | [_], [], h => exact no_ h
  | [_], [_], h => exact no_ h
  | [_], _ :: _ :: _, h => exact no_ h
  | [_, _], [], h => exact no_ h
  | [_, _], [_], h => exact no_ h
  | [_, _], _ :: _ :: _ :: _, h => exact no_ h
  | _ :: _ :: _ :: _, [], h => exact no_ h
  | _ :: _ :: _ :: _, [_], h => exact no_ h
  | _ :: _ :: _ :: _, [_, _], h => exact no_ h
  | _ :: _ :: _ :: _, _ :: _ :: _ :: _, h => exact no_ h
end
end RX
/-! RX part q: the rest of the expressions. -/
namespace RX
open PySem L2
section
variable {N : List Str} {T : Tb} {g : Gh} {cl : Str → Value} {G : Calls} {sc fs : Scope} {W : WX} {X : Cx} {x : Expr}
theorem asB_eq {d : AV} {e : En} {K1 : Bool → En → Prop} {K2 : Str → En → Prop} (h : wpR (asB d e) K1 K2) : ∃ b, d = .bl b ∧ K1 b e := by
  cases d with
  | bl b => exact ⟨b, rfl, h⟩
  | _ => exact h.elim
theorem post_bl {F N : Addr → Prop} {env : En} {σ : L2.St} {H : Hp} {b : Bool} {v : V} (p : Posts g F env σ H N [.bl b] [v]) : v = .bl b ∧ SR g N env σ H := by
  obtain ⟨p, s⟩ := p
  have p : RV g.K g.H0 H _ (.bl b) v := p
  cases p
  exact ⟨rfl, s⟩
theorem tE_not {a : Ex} (σ : L2.St) (H : Hp) (Q : VK) (h : tE g W cl (ev G (.not a)) σ H Q) : tNotV (tE g W cl (ev G a)) σ H Q := by
  obtain ⟨N, env, s, h⟩ := h
  unfold ev at h
  refine ⟨N, env, s, wpR_mono (wpR_bnd h) ?_ fun _ _ h => h⟩
  intro d env1 h H1 v t1 p1
  obtain ⟨b, rfl, h⟩ := asB_eq (wpR_bnd h)
  obtain ⟨rfl, s1⟩ := post_bl p1
  exact ⟨b, rfl, h H1 _ t1 (tE_bl s1)⟩
theorem tT_not {a : Ex} (σ : L2.St) (H : Hp) (Q : Bool → Hp → Prop) (h : tT g W cl (fun env => bnd (ev G (.not a) env) asB) σ H Q) : tNot (tT g W cl fun env => bnd (ev G a env) asB) σ H Q := by
  obtain ⟨N, env, s, h⟩ := h
  unfold ev at h
  refine ⟨N, env, s, ?_⟩
  show wpR (bnd (ev G a env) asB) _ _
  change wpR (bnd (bnd (ev G a env) _) asB) _ _ at h
  cases q : ev G a env with
  | none => rw [q] at h; exact h.elim
  | some r =>
    rw [q] at h
    cases r with
    | exc c e => exact h
    | ok d e =>
      cases d with
      | bl b => exact h
      | _ => exact h.elim
theorem ihe_not {a : Ex} (ia : IHE N T g cl G a) : IHE N T g cl G (.not a) := by
  intro sc fs W X x ok h
  cases x <;> first
    | exact no_ h
    | skip
  rename_i op y pos
  cases op <;> first
    | exact no_ h
    | skip
  have h : (mE N T a sc y && ptB y) = true := h
  simp only [Bool.and_eq_true] at h
  exact ⟨RX.PE.weak (pe_not (ia ok h.1).1) tE_not, fun _ => RX.PT.weak (pt_not ((ia ok h.1).2 h.2)) tT_not⟩
theorem tE_ite {c a b : Ex} (σ : L2.St) (H : Hp) (Q : VK) (h : tE g W cl (ev G (.ite c a b)) σ H Q) : tIf (tT g W cl fun env => bnd (ev G c env) asB) (tE g W cl (ev G a)) (tE g W cl (ev G b)) σ H Q := by
  obtain ⟨N, env, s, h⟩ := h
  unfold ev at h
  refine ⟨N, env, s, ?_⟩
  have key : ∀ (b' : Bool) (e : En), wpR (if b' = true then ev G a e else ev G b e) (fun d env' => ∀ H' v, Stp All env σ H env' σ H' → Posts g (Fr env σ H) env' σ H' N [d] [v] → Q v H') (fun c env' => ∀ H' (dd : Unit), Stp All env σ H env' σ H' → SR g N env' σ H' → W (cl c) none σ H') → 
      ∀ H1, Stp All env σ H e σ H1 → SR g N e σ H1 → if b' = true then tE g W cl (ev G a) σ H1 Q else tE g W cl (ev G b) σ H1 Q := by
    intro b' e h H1 t1 s1
    cases b' with
    | true => exact ⟨N, e, s1, wpR_mono h (fun d e2 h H2 v t2 p2 => h H2 v (t1.trans t2) (p2.monoF (Fr.sub t1))) fun c e2 h H2 dd t2 s2 => h H2 dd (t1.trans t2) s2⟩
    | false => exact ⟨N, e, s1, wpR_mono h (fun d e2 h H2 v t2 p2 => h H2 v (t1.trans t2) (p2.monoF (Fr.sub t1))) fun c e2 h H2 dd t2 s2 => h H2 dd (t1.trans t2) s2⟩
  show wpR (bnd (ev G c env) asB) _ _
  cases q : ev G c env with
  | none => rw [q] at h; exact h.elim
  | some r =>
    rw [q] at h
    cases r with
    | exc c e => exact h
    | ok d e =>
      cases d with
      | bl b' => exact key b' e h
      | _ => exact h.elim
theorem ihe_ite {c a b : Ex} (ic : IHE N T g cl G c) (ia : IHE N T g cl G a) (ib : IHE N T g cl G b) : IHE N T g cl G (.ite c a b) := by
  intro sc fs W X x ok h
  cases x <;> first
    | exact no_ h
    | skip
  rename_i y z w pos
  have h : (mE N T c sc y && ptB y && mE N T a sc z && mE N T b sc w) = true := h
  simp only [Bool.and_eq_true] at h
  exact ⟨RX.PE.weak (pe_ifExp ((ic ok h.1.1.1).2 h.1.1.2) (ia ok h.1.2).1 (ib ok h.2).1) tE_ite, fun z => no_ z⟩
theorem ihe_tup {es : Exs} (is : IHEs N T g cl G es) : IHE N T g cl G (.tup es) := by
  intro sc fs W X x ok h
  cases x <;> first
    | exact no_ h
    | skip
  rename_i xs k pos
  have h : mEs N T es sc xs = true := h
  exact ⟨RX.PE.weak (pe_tup (is ok h).1) fun σ H Q q => tE_opA (r1 := evs G es) otup_ok q, fun z => no_ z⟩
theorem ihe_lst {es : Exs} (is : IHEs N T g cl G es) : IHE N T g cl G (.lst es) := by
  intro sc fs W X x ok h
  cases x <;> first
    | exact no_ h
    | skip
  rename_i xs pos
  have h : mEs N T es sc xs = true := h
  exact ⟨RX.PE.weak (pe_lst (is ok h).1) fun σ H Q q => tE_opA (r1 := evs G es) olst_ok q, fun z => no_ z⟩
theorem ihe_ix {a i : Ex} (ia : IHE N T g cl G a) (ii : IHE N T g cl G i) : IHE N T g cl G (.ix a i) := by
  intro sc fs W X x ok h
  cases x <;> first
    | exact no_ h
    | skip
  rename_i y z pos
  have h : (!sliceB z && mE N T a sc y && mE N T i sc z) = true := h
  simp only [Bool.and_eq_true, Bool.not_eq_true'] at h
  obtain ⟨r, k1, k2⟩ := oix_ok (X := X) ok.hK
  exact pb_val (RX.PE.weak (pe_ix k1 (ia ok h.1.2).1 (ii ok h.2).1 (plainIx_of h.1.1)) fun σ H Q q => tE_op2 k2 q) fun _ _ => rfl
def partB (n : Bool) (f : Expr → Bool) (l : Option Expr) : Bool := (n && l.isNone) || (match l with | some z => f z | none => false)
/-- a slice's end -/
theorem part_ok {lo : Ex} {l : Option Expr} (il : IHE N T g cl G lo) (ok : XOk N T g cl G sc fs W X) (h : partB (isNul lo) (mE N T lo sc) l = true) :
    ∃ tl, PO X l tl ∧ ∀ (N1 : Addr → Prop) env1 σ H1 (K1 : Option Int → En → Prop) K2 Q', SR g N1 env1 σ H1 → wpR (evPk (isNul lo) (ev G lo) env1) K1 K2 → (∀ u env2 H2, K1 u env2 → Stp All env1 σ H1 env2 σ H2 → SR g N1 env2 σ H2 → Q' u H2) →
      (∀ c env2 H' (dd : Unit), K2 c env2 → Stp All env1 σ H1 env2 σ H' → SR g N1 env2 σ H' → W (cl c) none σ H') → tl σ H1 Q' := by
  cases l with
  | none =>
    have h : isNul lo = true := by simpa [partB] using h
    refine ⟨tNoPart, po_none, fun N1 env1 σ H1 K1 K2 Q' s w k _ => ?_⟩
    unfold evPk at w
    rw [h] at w
    exact k none env1 H1 w Stp.refl s
  | some z =>
    have h : mE N T lo sc z = true := by simpa [partB] using h
    have hn : isNul lo = false := by
      cases lo <;> first
        | rfl
        | exact no_ h
    refine ⟨_, po_some (il ok h).1, fun N1 env1 σ H1 K1 K2 Q' s w k kx => ?_⟩
    unfold evPk at w
    rw [hn] at w
    refine ⟨N1, env1, s, wpR_mono (wpR_bnd w) (fun d env2 w H2 v t2 p2 => ?_) fun c env2 w H2 dd t2 s2 => kx c env2 H2 dd w t2 s2⟩
    split at w
    · rename_i i
      obtain ⟨q, s2⟩ := p2
      have q : RV g.K g.H0 H2 _ (.int i) v := q
      cases q
      exact ⟨i, rfl, k _ env2 H2 w t2 s2⟩
    · exact w.elim
theorem Posts.moved {F N : Addr → Prop} {env env' : En} {σ : L2.St} {H H' : Hp} {d : AV} {v : V} (p : Posts g F env σ H N [d] [v]) (t : Stp All env σ H env' σ H') (s : SR g (nxN N d v) env' σ H') : Posts g F env' σ H' N [d] [v] := ⟨HeadOk.step p.1 p.2 t s, s⟩
theorem ihe_slc {a lo hi : Ex} (ia : IHE N T g cl G a) (il : IHE N T g cl G lo) (ih : IHE N T g cl G hi) : IHE N T g cl G (.slc a lo hi) := by
  intro sc fs W X x ok h
  cases x <;> first
    | exact no_ h
    | skip
  rename_i y z pos
  cases z <;> first
    | exact no_ h
    | skip
  rename_i l u st p2
  cases st <;> first
    | exact no_ h
    | skip
  have h : (mE N T a sc y && partB (isNul lo) (mE N T lo sc) l && partB (isNul hi) (mE N T hi sc) u) = true := h
  rw [Bool.and_eq_true, Bool.and_eq_true] at h
  obtain ⟨⟨h1, h2⟩, h3⟩ := h
  obtain ⟨tl, a1, a2⟩ := part_ok il ok h2
  obtain ⟨th, b1, b2⟩ := part_ok ih ok h3
  obtain ⟨r, k1, k2⟩ := osl_ok (X := X) ok.hK
  refine pb_val (RX.PE.weak (pe_slice k1 (ia ok h1).1 a1 b1) fun σ H Q q => ?_) fun _ _ => rfl
  obtain ⟨N0, env, s, h⟩ := q
  unfold ev at h
  refine ⟨N0, env, s, wpR_mono (wpR_bnd h) ?_ fun _ _ h => h⟩
  intro d env1 h H1 v t1 p1
  refine a2 _ env1 σ H1 _ _ _ p1.2 (wpR_bnd h) (fun l' env2 H2 h t2 s2 => ?_) fun c env2 H2 dd h t2 s2 => h H2 dd (t1.trans t2) (SR.drop p1.sr t2 s2 fun _ => nxN_sub)
  refine b2 _ env2 σ H2 _ _ _ s2 (wpR_bnd h) (fun u' env3 H3 h t3 s3 => ?_) fun c env3 H3 dd h t3 s3 => h H3 dd ((t1.trans t2).trans t3) (SR.drop p1.sr (t2.trans t3) s3 fun _ => nxN_sub)
  have t23 := t2.trans t3
  have p3 := p1.moved t23 s3
  split at h
  · rename_i w e
    exact k2 (Fr env σ H) N0 env3 σ H3 d v l' u' w Q (Fr.sub1 (t1.trans t23)) p3 e fun H4 v4 t4 p4 => h H4 v4 ((t1.trans t23).trans t4) p4
  · exact h.elim
theorem tE_call {f : Str} {ms : List Bool} {es : Exs} (hm : ms.length = exsLen es) (σ : L2.St) (H : Hp) (Q : VK) (h : tE g W cl (ev G (.call f ms es)) σ H Q) : tCallS (spD g.K cl G f (exsLen es)) (WE W) (tA g W cl (evs G es)) σ H Q := by
  obtain ⟨N0, env, s, h⟩ := h
  unfold ev at h
  refine ⟨N0, env, s, wpR_mono (evs_len (wpR_bnd h)) ?_ fun _ _ h => h⟩
  intro ds env1 h H1 vs t1 p1
  obtain ⟨h, hl⟩ := h
  rw [← hl]
  exact call_ok p1 t1 (hm.trans hl.symm) h
theorem ihe_call {f : Str} {ms : List Bool} {es : Exs} (is : IHEs N T g cl G es) : IHE N T g cl G (.call f ms es) := by
  intro sc fs W X x ok h
  cases x <;> first
    | exact no_ h
    | skip
  rename_i fn xs ks pos
  cases fn <;> first
    | exact no_ h
    | skip
  rename_i y p
  cases ks with
  | cons _ _ => exact no_ h
  | nil =>
    have h : (decide (f = y) && decide (T.lookup f = some (.inl (exsLen es))) && decide (ms.length = exsLen es) && glB sc y && mEs N T es sc xs) = true := h
    simp only [Bool.and_eq_true, decide_eq_true_eq] at h
    obtain ⟨⟨⟨⟨rfl, h2⟩, h3⟩, h4⟩, h5⟩ := h
    obtain ⟨g1, g2, g3⟩ := ok.gl h4
    obtain ⟨k, a, fd, ps, f1, ⟨f2, _⟩, f3, f4, f5⟩ := ok.fns f _ h2
    rw [ok.hK] at f5
    refine pb_val (RX.PE.weak ?_ (tE_call h3)) fun _ _ => rfl
    have f5 : RG.FnG X.prog X.w X.K X.mg X.base (CX X.prog X.w) k a fd ps (spD g.K cl G f (exsLen es)) := by rw [ok.hK]; exact f5
    cases xs with
    | cons e xs =>
      have hs : starB e = false := by
        cases es with
        | nil => exact no_ h5
        | cons e' es' =>
          have h5 : (!starB e && mE N T e' sc e && mEs N T es' sc xs) = true := h5
          simp only [Bool.and_eq_true, Bool.not_eq_true'] at h5
          exact h5.1.1
      have hb : (backTo pos (starEach xs X.env)).any (·.1) = false := by
        cases es with
        | nil => exact no_ h5
        | cons e' es' =>
          have h5 : (!starB e && mE N T e' sc e && mEs N T es' sc xs) = true := h5
          simp only [Bool.and_eq_true, Bool.not_eq_true'] at h5
          exact mEs_star h5.2
      exact RG.pe_callG ok.gd f5 f1 g1 f2 f3 f4 (passAt ok.tk) (is ok h5).1 g2 (star_cons hs) hb
    | nil =>
      have pn := (is ok h5).1
      refine ⟨fun pins s σ H Q I q => ?_⟩
      refine PySem.wpAny_Call_Name_kw (ld_glob I g1 f2 ?_ g2)
      have hl : exsLen es = 0 := (mEs_len h5).symm
      have q : tA g W cl (evs G es) σ H fun vs H1 => spD g.K cl G f (exsLen es) vs H1 Q (WE W σ) := q
      cases es with
      | cons _ _ => simp [exsLen] at hl
      | nil => exact PySem.W.callWith_K0 I.kIn f3 (RG.runG (us := []) ok.gd f5 f1 f4 (passAt ok.tk σ) I .nil (tA_nil q))
theorem ihe_bi {b : Bi} {es : Exs} (is : IHEs N T g cl G es) : IHE N T g cl G (.bi b es) := by
  intro sc fs W X x ok h
  cases x <;> first
    | exact no_ h
    | skip
  rename_i fn xs ks pos
  cases fn <;> first
    | exact no_ h
    | skip
  rename_i y p
  cases ks with
  | cons _ _ => exact no_ h
  | nil =>
    have h : (decide (biN b = y) && glB sc y && !xs.isEmpty && mEs N T es sc xs) = true := h
    simp only [Bool.and_eq_true, decide_eq_true_eq, Bool.not_eq_true'] at h
    obtain ⟨⟨⟨rfl, h2⟩, h3⟩, h5⟩ := h
    obtain ⟨g1, g2, g3⟩ := ok.gl h2
    obtain ⟨r, k1, k2⟩ := bi_ok ok b
    refine pb_val (RX.PE.weak ?_ fun σ H Q q => tE_opA (r1 := evs G es) k2 q) fun _ _ => rfl
    cases xs with
    | nil => cases h3
    | cons e xs =>
      cases es with
      | nil => exact no_ h5
      | cons e' es' =>
        have h6 : (!starB e && mE N T e' sc e && mEs N T es' sc xs) = true := h5
        simp only [Bool.and_eq_true, Bool.not_eq_true'] at h6
        exact pe_bi k1 g1 (ok.blt _ (bi_name b)) g3 g2 (is ok h5).1 (star_cons h6.1.1) (mEs_star h6.2)
end
end RX
/-! RX part r: argument lists, and/or, iterables, comprehensions; all expressions. -/
namespace RX
open PySem L2
section
variable {N : List Str} {T : Tb} {g : Gh} {cl : Str → Value} {G : Calls} {sc fs : Scope} {W : WX} {X : Cx} {x : Expr}
theorem tE_none {r : En → Option (R AV)} (hr : ∀ e, r e = none) {σ : L2.St} {H : Hp} {Q : VK} (h : tE g W cl r σ H Q) : False := by
  obtain ⟨N, env, s, h⟩ := h
  rw [hr] at h
  exact h
theorem tT_none {r : En → Option (R Bool)} (hr : ∀ e, r e = none) {σ : L2.St} {H : Hp} {Q : Bool → Hp → Prop} (h : tT g W cl r σ H Q) : False := by
  obtain ⟨N, env, s, h⟩ := h
  rw [hr] at h
  exact h
theorem ihes_nil : IHEs N T g cl G .nil := by
  intro sc fs W X xs ok h
  cases xs with
  | cons _ _ => exact no_ h
  | nil =>
    refine ⟨RX.PA.weak pa_nil fun σ H Q q => tA_nil q, fun _ pos => ⟨⟨⟨fun _ _ _ _ _ _ q => (tE_none (fun _ => rfl) q).elim⟩, ⟨fun _ _ _ _ _ _ _ q => (tT_none (fun _ => rfl) q).elim⟩⟩, ⟨fun _ _ _ _ _ _ q => (tE_none (fun _ => rfl) q).elim⟩, ⟨fun _ _ _ _ _ _ _ q => (tT_none (fun _ => rfl) q).elim⟩⟩⟩
theorem evAnd2 {e e' : Ex} {es : Exs} : evAnd G (.cons e (.cons e' es)) = fun env => bnd (ev G e env) fun x e1 => bnd (asB x e1) fun b e2 => if b then evAnd G (.cons e' es) e2 else some (.ok (.bl false) e2) := rfl
theorem evOr2 {e e' : Ex} {es : Exs} : evOr G (.cons e (.cons e' es)) = fun env => bnd (ev G e env) fun x e1 => bnd (asB x e1) fun b e2 => if b then some (.ok (.bl true) e2) else evOr G (.cons e' es) e2 := rfl
/-- and, or: a first part, the rest by its outcome -/
theorem tE_bool {r : En → Option (R AV)} {k : Bool → En → Option (R AV)} {σ : L2.St} {H : Hp} {Q : VK} (h : tE g W cl (fun env => bnd (r env) fun x e1 => bnd (asB x e1) k) σ H Q) :
    tE g W cl r σ H fun x H1 => ∃ c, x = .bl c ∧ tE g W cl (k c) σ H1 Q := by
  obtain ⟨N, env, s, h⟩ := h
  refine ⟨N, env, s, wpR_mono (wpR_bnd h) ?_ fun _ _ h => h⟩
  intro d env1 h H1 v t1 p1
  obtain ⟨b, rfl, h⟩ := asB_eq (wpR_bnd h)
  obtain ⟨rfl, s1⟩ := post_bl p1
  exact ⟨b, rfl, N, env1, s1, wpR_mono h (fun d e2 h H2 v t2 p2 => h H2 v (t1.trans t2) (p2.monoF (Fr.sub t1))) fun c e2 h H2 dd t2 s2 => h H2 dd (t1.trans t2) s2⟩
theorem bnd_assoc {α β γ : Type} {x : Option (R α)} {f : α → En → Option (R β)} {k : β → En → Option (R γ)} : bnd (bnd x f) k = bnd x fun a e => bnd (f a e) k := by
  cases x with
  | none => rfl
  | some y => cases y <;> rfl
theorem tT_bool {r : En → Option (R AV)} {k : Bool → En → Option (R AV)} {σ : L2.St} {H : Hp} {Q : Bool → Hp → Prop} (h : tT g W cl (fun env => bnd (bnd (r env) fun x e1 => bnd (asB x e1) k) asB) σ H Q) :
    tT g W cl (fun env => bnd (r env) asB) σ H fun c H1 => tT g W cl (fun env => bnd (k c env) asB) σ H1 Q := by
  obtain ⟨N, env, s, h⟩ := h
  change wpR (bnd (bnd (r env) _) asB) _ _ at h
  rw [bnd_assoc] at h
  refine ⟨N, env, s, ?_⟩
  show wpR (bnd (r env) asB) _ _
  cases q : r env with
  | none => rw [q] at h; exact h.elim
  | some y =>
    rw [q] at h
    cases y with
    | exc c e => exact h
    | ok d e =>
      cases d with
      | bl b =>
        have h : wpR (bnd (k b e) asB) _ _ := h
        intro H1 t1 s1
        exact ⟨N, e, s1, wpR_mono h (fun d e2 h H2 t2 s2 => h H2 (t1.trans t2) s2) fun c e2 h H2 dd t2 s2 => h H2 dd (t1.trans t2) s2⟩
      | _ => exact h.elim
theorem tE_lit {b : Bool} {σ : L2.St} {H : Hp} {Q : VK} (h : tE g W cl (fun e => some (.ok (.bl b) e)) σ H Q) : Q (.bl b) H := by
  obtain ⟨N, env, s, h⟩ := h
  exact h H _ Stp.refl (tE_bl s)
theorem tT_lit {b : Bool} {σ : L2.St} {H : Hp} {Q : Bool → Hp → Prop} (h : tT g W cl (fun e => bnd (some (.ok (.bl b) e)) asB) σ H Q) : Q b H := by
  obtain ⟨N, env, s, h⟩ := h
  exact h H Stp.refl s
theorem ihes_cons {e : Ex} {es : Exs} (ie : IHE N T g cl G e) (is : IHEs N T g cl G es) : IHEs N T g cl G (.cons e es) := by
  intro sc fs W X xs ok h
  cases xs with
  | nil => exact no_ h
  | cons x xs =>
    have h : (!starB x && mE N T e sc x && mEs N T es sc xs) = true := h
    simp only [Bool.and_eq_true, Bool.not_eq_true'] at h
    obtain ⟨⟨h1, h2⟩, h3⟩ := h
    refine ⟨RX.PA.weak (pa_cons (ie ok h2).1 (is ok h3).1 (star_cons h1)) fun σ H Q q => tA_cons q, fun hb pos => ?_⟩
    simp only [List.all_cons, Bool.and_eq_true] at hb
    have p1 := ie ok h2
    have p2 := (is ok h3).2 hb.2 pos
    cases es with
    | nil =>
      cases xs with
      | cons _ _ => exact no_ h3
      | nil => exact ⟨⟨pe_one p1.1, pw_and1 (p1.2 hb.1)⟩, pe_one p1.1, pw_or1 (p1.2 hb.1)⟩
    | cons e' es =>
      cases xs with
      | nil => exact no_ h3
      | cons x' xs =>
        refine ⟨⟨RX.PE.weak (pe_and p1.1 p2.1.1) fun σ H Q q => ?_, ?_⟩, RX.PE.weak (pe_or p1.1 p2.2.1) fun σ H Q q => ?_, ?_⟩
        · rw [evAnd2] at q
          obtain ⟨N0, env, s, w⟩ := tE_bool q
          refine ⟨N0, env, s, wpR_mono w (fun d env1 w H1 v t1 p1 => ?_) fun _ _ h => h⟩
          obtain ⟨c, rfl, w⟩ := w H1 v t1 p1
          refine ⟨c, rfl, ?_⟩
          cases c with
          | true => exact w
          | false => exact tE_lit w
        · refine ⟨fun whole pins s σ H Q I q => (pw_and (p1.2 hb.1) p2.1.2).run whole pins s σ H Q I ?_⟩
          rw [evAnd2] at q
          obtain ⟨N0, env, s, w⟩ := tT_bool q
          refine ⟨N0, env, s, wpR_mono w (fun c env1 w H1 t1 s1 => ?_) fun _ _ h => h⟩
          have w := w H1 t1 s1
          cases c with
          | true => exact w
          | false => exact tT_lit w
        · rw [evOr2] at q
          obtain ⟨N0, env, s, w⟩ := tE_bool q
          refine ⟨N0, env, s, wpR_mono w (fun d env1 w H1 v t1 p1 => ?_) fun _ _ h => h⟩
          obtain ⟨c, rfl, w⟩ := w H1 v t1 p1
          refine ⟨c, rfl, ?_⟩
          cases c with
          | false => exact w
          | true => exact tE_lit w
        · refine ⟨fun whole pins s σ H Q I q => (pw_or (p1.2 hb.1) p2.2.2).run whole pins s σ H Q I ?_⟩
          rw [evOr2] at q
          obtain ⟨N0, env, s, w⟩ := tT_bool q
          refine ⟨N0, env, s, wpR_mono w (fun c env1 w H1 t1 s1 => ?_) fun _ _ h => h⟩
          have w := w H1 t1 s1
          cases c with
          | false => exact w
          | true => exact tT_lit w
theorem ihe_and {es : Exs} (is : IHEs N T g cl G es) : IHE N T g cl G (.and es) := by
  intro sc fs W X x ok h
  cases x <;> first
    | exact no_ h
    | skip
  rename_i op xs pos
  cases op <;> first
    | exact no_ h
    | skip
  have h : (mEs N T es sc xs && xs.all ptB) = true := h
  simp only [Bool.and_eq_true] at h
  have q := ((is ok h.1).2 h.2 pos).1
  exact ⟨q.1, fun _ => q.2.pt⟩
theorem ihe_or {es : Exs} (is : IHEs N T g cl G es) : IHE N T g cl G (.or es) := by
  intro sc fs W X x ok h
  cases x <;> first
    | exact no_ h
    | skip
  rename_i op xs pos
  cases op <;> first
    | exact no_ h
    | skip
  have h : (mEs N T es sc xs && xs.all ptB) = true := h
  simp only [Bool.and_eq_true] at h
  have q := ((is ok h.1).2 h.2 pos).2
  exact ⟨q.1, fun _ => q.2.pt⟩

/-! ### iterables -/
theorem ihi_seq {e : Ex} (ie : IHE N T g cl G e) : IHI N T g cl G (.seq e) := by
  intro sc fs W X tg x ok h
  have h : mE N T e sc x = true := h
  refine RX.PI.weak (pi_seqX (ie ok h).1) fun σ H Q q => ?_
  rw [ok.hK]
  exact tI_seq q
theorem ihi_rev {e : Ex} (ie : IHE N T g cl G e) : IHI N T g cl G (.rev e) := by
  intro sc fs W X tg x ok h
  cases x <;> first
    | exact no_ h
    | skip
  rename_i fn xs ks pos
  cases fn <;> first
    | exact no_ h
    | skip
  rename_i y p
  match xs, ks, h with
  | [z], [], h =>
    have h : (decide (y = Str.ofString "reversed") && glB sc y && !starB z && mE N T e sc z) = true := h
    simp only [Bool.and_eq_true, decide_eq_true_eq, Bool.not_eq_true'] at h
    obtain ⟨⟨⟨rfl, h2⟩, h3⟩, h4⟩ := h
    obtain ⟨g1, g2, g3⟩ := ok.gl h2
    refine RX.PI.weak (RT.pi_revA g1 (ok.blt _ (by decide +kernel)) (ie ok h4).1 (star_cons h3)) fun σ H Q q => ?_
    rw [ok.hK]
    exact tI_rev q
  | [], _, h => exact no_ h
  | [_], _ :: _, h => exact no_ h
  | _ :: _ :: _, [], h => exact no_ h
  | _ :: _ :: _, _ :: _, h => exact no_ h
theorem ihi_rrg {e : Ex} (ie : IHE N T g cl G e) : IHI N T g cl G (.rrg e) := by
  intro sc fs W X tg x ok h
  cases x <;> first
    | exact no_ h
    | skip
  rename_i fn xs ks pos
  cases fn <;> first
    | exact no_ h
    | skip
  rename_i y p
  match xs, ks, h with
  | [z], [], h =>
    cases z <;> first
      | exact no_ h
      | skip
    rename_i fn2 xs2 ks2 pos2
    cases fn2 <;> first
      | exact no_ h
      | skip
    rename_i y2 p2
    match xs2, ks2, h with
    | [z2], [], h =>
      have h : (decide (y = Str.ofString "reversed") && decide (y2 = Str.ofString "range") && glB sc y && glB sc y2 && !starB z2 && mE N T e sc z2) = true := h
      simp only [Bool.and_eq_true, decide_eq_true_eq, Bool.not_eq_true'] at h
      obtain ⟨⟨⟨⟨⟨rfl, rfl⟩, h2⟩, h3⟩, h4⟩, h5⟩ := h
      obtain ⟨g1, _, _⟩ := ok.gl h2
      obtain ⟨g2, _, _⟩ := ok.gl h3
      exact RX.PI.weak (pi_revR g1 (ok.blt _ (by decide +kernel)) (prg_1 g2 (ok.blt _ (by decide +kernel)) (ie ok h5).1 (star_cons h4))) fun σ H Q q => tI_rrg q
    | [], _, h => exact no_ h
    | [_], _ :: _, h => exact no_ h
    | _ :: _ :: _, [], h => exact no_ h
    | _ :: _ :: _, _ :: _, h => exact no_ h
  | [], _, h => exact no_ h
  | [z], _ :: _, h => (cases z <;> first | exact no_ h | (rename_i f2 a2 k2 p2; cases f2 <;> first | exact no_ h | (cases a2 with | nil => exact no_ h | cons a as => cases as <;> cases k2 <;> exact no_ h)))
  | z :: _ :: _, [], h => (cases z <;> first | exact no_ h | (rename_i f2 a2 k2 p2; cases f2 <;> first | exact no_ h | (cases a2 with | nil => exact no_ h | cons a as => cases as <;> cases k2 <;> exact no_ h)))
  | z :: _ :: _, _ :: _, h => (cases z <;> first | exact no_ h | (rename_i f2 a2 k2 p2; cases f2 <;> first | exact no_ h | (cases a2 with | nil => exact no_ h | cons a as => cases as <;> cases k2 <;> exact no_ h)))
theorem ihi_enum {e : Ex} (ie : IHE N T g cl G e) : IHI N T g cl G (.enum e) := by
  intro sc fs W X tg x ok h
  cases x <;> first
    | exact no_ h
    | skip
  rename_i fn xs ks pos
  cases fn <;> first
    | exact no_ h
    | skip
  rename_i y p
  match xs, ks, h with
  | [z], [], h =>
    have h : (decide (y = Str.ofString "enumerate") && glB sc y && tupB tg && !starB z && mE N T e sc z) = true := h
    simp only [Bool.and_eq_true, decide_eq_true_eq, Bool.not_eq_true'] at h
    obtain ⟨⟨⟨⟨rfl, h2⟩, h5⟩, h3⟩, h4⟩ := h
    obtain ⟨g1, g2, g3⟩ := ok.gl h2
    cases tg <;> first
      | exact no_ h5
      | skip
    refine RX.PI.weak (pi_enumX g1 (ok.blt _ (by decide +kernel)) (pa_cons (ie ok h4).1 pa_nil (star_cons h3)) (star_cons h3)) fun σ H Q q => ?_
    rw [ok.hK]
    exact tI_enum q
  | [], _, h => exact no_ h
  | [_], _ :: _, h => exact no_ h
  | _ :: _ :: _, [], h => exact no_ h
  | _ :: _ :: _, _ :: _, h => exact no_ h
theorem ihi_zip {e e2 : Ex} (ie : IHE N T g cl G e) (ie2 : IHE N T g cl G e2) : IHI N T g cl G (.zip e e2) := by
  intro sc fs W X tg x ok h
  cases x <;> first
    | exact no_ h
    | skip
  rename_i fn xs ks pos
  cases fn <;> first
    | exact no_ h
    | skip
  rename_i y p
  match xs, ks, h with
  | [z, z2], [], h =>
    have h : (decide (y = Str.ofString "zip") && glB sc y && tupB tg && !starB z && !starB z2 && mE N T e sc z && mE N T e2 sc z2) = true := h
    simp only [Bool.and_eq_true, decide_eq_true_eq, Bool.not_eq_true'] at h
    obtain ⟨⟨⟨⟨⟨⟨rfl, h2⟩, h5⟩, h3⟩, h6⟩, h4⟩, h7⟩ := h
    obtain ⟨g1, g2, g3⟩ := ok.gl h2
    cases tg <;> first
      | exact no_ h5
      | skip
    refine RX.PI.weak (pi_zipX g1 (ok.blt _ (by decide +kernel)) (pa_cons (ie ok h4).1 (pa_cons (ie2 ok h7).1 pa_nil (star_cons h6)) (star_cons h3)) (star_cons h3) (by rw [star_cons h6, backTo_cons]; rfl)) fun σ H Q q => ?_
    rw [ok.hK]
    exact tI_zip q
  | [], _, h => exact no_ h
  | [_], [], h => exact no_ h
  | [_], _ :: _, h => exact no_ h
  | [_, _], _ :: _, h => exact no_ h
  | _ :: _ :: _ :: _, [], h => exact no_ h
  | _ :: _ :: _ :: _, _ :: _, h => exact no_ h
theorem rg_ta {es : Exs} {σ : L2.St} {H : Hp} {Q : L2.It → Hp → Prop} (h : tI g W cl (evI G (.rg es)) σ H Q) : tA g W cl (evs G es) σ H fun vs H1 =>
    (exsLen es = 1 → ∃ j : Int, vs = [.int j] ∧ -(2 ^ 62) ≤ j ∧ j < 2 ^ 62 ∧ Q (Itr 0 j.toNat) H1) ∧
    (exsLen es = 2 → ∃ i j : Int, vs = [.int i, .int j] ∧ (-(2 ^ 62) ≤ i ∧ i < 2 ^ 62 ∧ -(2 ^ 62) ≤ j ∧ j < 2 ^ 62) ∧ Q (Itr i (j - i).toNat) H1) ∧
    (exsLen es = 3 → ∃ (i j c : Int) (n : Nat), vs = [.int i, .int j, .int c] ∧ RgC i j c n ∧ Q (Itc i c n) H1) := by
  obtain ⟨N, env, s, h⟩ := tI_rg h
  refine ⟨N, env, s, wpR_mono (evs_len h) (fun ds e ⟨h, hl⟩ H1 vs t p => ?_) fun _ _ h => h⟩
  rw [← hl]
  exact h H1 vs t p
theorem ihi_rg {es : Exs} (is : IHEs N T g cl G es) : IHI N T g cl G (.rg es) := by
  intro sc fs W X tg x ok h
  cases x <;> first
    | exact no_ h
    | skip
  rename_i fn xs ks pos
  cases fn <;> first
    | exact no_ h
    | skip
  rename_i y p
  cases ks with
  | cons _ _ => exact no_ h
  | nil =>
    have h : (decide (y = Str.ofString "range") && glB sc y && decide (1 ≤ exsLen es ∧ exsLen es ≤ 3) && mEs N T es sc xs) = true := h
    simp only [Bool.and_eq_true, decide_eq_true_eq] at h
    obtain ⟨⟨⟨rfl, h2⟩, h3⟩, h4⟩ := h
    obtain ⟨g1, g2, g3⟩ := ok.gl h2
    have hm : X.mg (Str.ofString "range") = none := ok.blt _ (by decide +kernel)
    have hl := mEs_len h4
    have star : ∀ {z : Expr} {zs : List Expr} {es' : Exs}, mEs N T es' sc (z :: zs) = true → starB z = false ∧ ∃ e es2, es' = .cons e es2 ∧ mEs N T es2 sc zs = true := fun {z zs es'} h => by
      cases es' with
      | nil => exact no_ h
      | cons e es2 =>
        have h : (!starB z && mE N T e sc z && mEs N T es2 sc zs) = true := h
        simp only [Bool.and_eq_true, Bool.not_eq_true'] at h
        exact ⟨h.1.1, e, es2, rfl, h.2⟩
    have pa := (is ok h4).1
    match xs, hl, h4, pa with
    | [a], hl, h4, pa =>
      obtain ⟨s1, _⟩ := star h4
      refine RX.PI.weak (pi_range1 g1 hm pa (star_cons s1)) fun σ H Q q => ?_
      obtain ⟨N0, env, s, w⟩ := rg_ta q
      exact ⟨N0, env, s, wpR_mono w (fun ds e w H1 vs t p => (w H1 vs t p).1 (by simpa using hl.symm)) fun _ _ h => h⟩
    | [a, b], hl, h4, pa =>
      obtain ⟨s1, e, es2, rfl, h5⟩ := star h4
      obtain ⟨s2, _⟩ := star h5
      refine RX.PI.weak (pi_range2 g1 hm pa (by rw [star_cons s1, star_cons s2]; rfl) (star_cons s2)) fun σ H Q q => ?_
      obtain ⟨N0, env, s, w⟩ := rg_ta q
      exact ⟨N0, env, s, wpR_mono w (fun ds e w H1 vs t p => (w H1 vs t p).2.1 (by simpa using hl.symm)) fun _ _ h => h⟩
    | [a, b, c], hl, h4, pa =>
      obtain ⟨s1, e, es2, rfl, h5⟩ := star h4
      refine RX.PI.weak (pi_range3 g1 hm pa (star_cons s1) (mEs_star h5)) fun σ H Q q => ?_
      obtain ⟨N0, env, s, w⟩ := rg_ta q
      exact ⟨N0, env, s, wpR_mono w (fun ds e w H1 vs t p => (w H1 vs t p).2.2 (by simpa using hl.symm)) fun _ _ h => h⟩
    | [], hl, h4, pa => simp at hl; omega
    | _ :: _ :: _ :: _ :: _, hl, h4, pa => simp at hl; omega

/-! ### targets -/
theorem loc_of {y : Str} (ok : XOk N T g cl G sc fs W X) (h : locB sc fs y = true) : L2.Loc X.env.scope y ∧ (X.fn y = true ∨ X.env.scope.names.lookup y = some .local) := by
  unfold locB at h
  rw [ok.hsc]
  split at h
  · rename_i e
    exact ⟨.inl e, .inr e⟩
  · rename_i e e2
    exact ⟨.inr e, .inl (ok.fn y e2)⟩
  · cases h
theorem assign_cons {e : Expr} {es : List Expr} {env : Env} (h : starB e = false) : assignEach (e :: es) env = (false, assign e env) :: assignEach es env := by
  cases e <;> first | rfl | (cases h; done)
mutual
theorem mT_ok (ok : XOk N T g cl G sc fs W X) : ∀ {t : Tg} {x : Expr}, mT N sc fs t x = true → PG X x (tG g t)
  | .nm i, x, h => by
    cases x <;> first
      | exact no_ h
      | skip
    rename_i y pos
    have h : (decide (N[i]? = some y) && locB sc fs y) = true := h
    simp only [Bool.and_eq_true, decide_eq_true_eq] at h
    obtain ⟨l1, l2⟩ := loc_of ok h.2
    have q := pg_name (X := X) (pos := pos) (by rw [ok.hN]; exact ok.nd) (by rw [ok.hN]; exact h.1) l1 l2
    exact ⟨fun pins s σ H v u Q I r k => q.run pins s σ H v u Q I r (tG_nm k)⟩
  | .tp ts, x, h => by
    cases x <;> first
      | exact no_ h
      | skip
    rename_i es k pos
    have h : mTs N sc fs ts es = true := h
    obtain ⟨p1, p2, p3⟩ := mTs_ok ok h
    have q := pg_tup (X := X) (pos := pos) (k := k) ok.calm p1 p2 p3
    have q2 := pg_unl (X := X) (pos := pos) (k := k) ok.calm p1 p2 p3
    refine ⟨fun pins s σ H v u Q I r k => ?_⟩
    rcases tG_tp rfl k with k | k
    · rw [← ok.hK] at k
      exact q.run pins s σ H v u Q I r k
    · rw [← ok.hK] at k
      exact q2.run pins s σ H v u Q I r k
theorem mTs_ok (ok : XOk N T g cl G sc fs W X) : ∀ {ts : List Tg} {es : List Expr}, mTs N sc fs ts es = true → PGs X es (tGs g ts) ∧ (assignEach es X.env).length = ts.length ∧ List.findIdx? (fun x => x.fst) (assignEach es X.env) = none
  | [], [], h => ⟨⟨fun pins s σ H vs us Q I r k => pgs_nil.run pins s σ H vs us Q I r (tGs_nil k)⟩, rfl, rfl⟩
  | [], _ :: _, h => no_ h
  | _ :: _, [], h => no_ h
  | t :: ts, e :: es, h => by
    have h : (!starB e && mT N sc fs t e && mTs N sc fs ts es) = true := h
    simp only [Bool.and_eq_true, Bool.not_eq_true'] at h
    obtain ⟨⟨h1, h2⟩, h3⟩ := h
    have p1 := mT_ok ok h2
    obtain ⟨p2, p3, p4⟩ := mTs_ok ok h3
    have ac := assign_cons (es := es) (env := X.env) h1
    have q := pgs_cons p1 p2 (by rw [ac]; rfl)
    refine ⟨⟨fun pins s σ H vs us Q I r k => q.run pins s σ H vs us Q I r (tGs_cons k)⟩, by rw [ac]; simp [p3], ?_⟩
    rw [ac, List.findIdx?_cons, p4]
    rfl
end
/-! ### comprehensions -/
theorem pts_weak {ifs : List Expr} {t t' : TT} (h : PTs X ifs t) (k : ∀ σ H Q, t' σ H Q → t σ H Q) : PTs X ifs t' := ⟨fun pins s σ H Q I q => h.run pins s σ H Q I (k _ _ _ q)⟩
def testB (n : Bool) (f : Expr → Bool) (ifs : List Expr) : Bool := (n && ifs.isEmpty) || (match ifs with | [z] => f z && ptB z | _ => false)
theorem comp_parts {e : Ex} {own : List Nat} {t : Tg} {it : It} {c : Ex} (ie : IHE N T g cl G e) (ii : IHI N T g cl G it) (ic : IHE N T g cl G c) (ok : XOk N T g cl G sc fs W X) {elt tg iter : Expr} {ifs : List Expr} {a : Int} {scope : Scope} {pos : Pos}
    (h : mE N T (.comp e own t it c) sc (.ListComp elt [⟨tg, iter, ifs, a⟩] scope pos) = true) : a = 0 ∧ (∀ j ∈ tgS t, j ∈ own) ∧ PI X tg iter (tI g W cl (evI G it)) ∧ BlkOk X.N X.env.scope scope (ownP N own) ∧
      (∀ (s : Shared) (H : Hp) (C : Addr) (cs : List (Str × Addr)) (fp : List Addr), PG (X.blk s H scope (compEnvC scope cs C X.env) fp) tg (tG g t)) ∧
      (∀ (s : Shared) (H : Hp) (C : Addr) (cs : List (Str × Addr)) (fp : List Addr), PTs (X.blk s H scope (compEnvC scope cs C X.env) fp) ifs (tT g F0 cl (evCk (isNul c) (ev G c)))) ∧
      (∀ (s : Shared) (H : Hp) (C : Addr) (cs : List (Str × Addr)) (fp : List Addr), PE (X.blk s H scope (compEnvC scope cs C X.env) fp) elt (tE g F0 cl (ev G e))) ∧ ∀ v, foldedSetIterable iter X.env v = pure v := by
  have h : (decide (a = 0) && blkC N sc scope (ownP N own) && !setB iter && mI N T it sc tg iter && mT N (relS scope sc) scope t tg && (tgS t).all (fun i => decide (i ∈ own)) && mE N T e (relS scope sc) elt && testB (isNul c) (mE N T c (relS scope sc)) ifs) = true := h
  simp only [Bool.and_eq_true, decide_eq_true_eq, Bool.not_eq_true'] at h
  obtain ⟨⟨⟨⟨⟨⟨⟨rfl, h2⟩, h3⟩, h4⟩, h5⟩, h6⟩, h7⟩, h8⟩ := h
  have hsub : ∀ j ∈ tgS t, j ∈ own := fun j hj => by
    have := List.all_eq_true.mp h6 j hj
    simpa using this
  refine ⟨rfl, hsub, ii ok h4, by rw [ok.hN, ok.hsc]; exact blkOk_by h2, fun s H C cs fp => mT_ok (ok.blk s H scope C cs fp) h5, fun s H C cs fp => ?_, fun s H C cs fp => (ie (ok.blk s H scope C cs fp) h7).1, fun v => folded_of h3 v⟩
  unfold testB at h8
  cases ifs with
  | nil =>
    have hn : isNul c = true := by simpa using h8
    refine pts_weak pts_nil fun σ H Q q => ?_
    obtain ⟨N0, env, s, w⟩ := q
    unfold evCk at w
    rw [hn] at w
    exact w H Stp.refl s
  | cons z zs =>
    cases zs with
    | cons _ _ => simp at h8
    | nil =>
      have h8 : (mE N T c (relS scope sc) z && ptB z) = true := by simpa using h8
      simp only [Bool.and_eq_true] at h8
      have hn : isNul c = false := by
        cases c <;> first
          | rfl
          | exact no_ h8.1
      refine pts_weak (pts_one ((ic (ok.blk s H scope C cs fp) h8.1).2 h8.2)) fun σ H Q q => ?_
      obtain ⟨N0, env, s, w⟩ := q
      unfold evCk at w
      rw [hn] at w
      exact ⟨N0, env, s, w⟩
theorem ihe_comp {e : Ex} {own : List Nat} {t : Tg} {it : It} {c : Ex} (ie : IHE N T g cl G e) (ii : IHI N T g cl G it) (ic : IHE N T g cl G c) : IHE N T g cl G (.comp e own t it c) := by
  intro sc fs W X x ok h
  cases x <;> first
    | exact no_ h
    | skip
  rename_i elt gens scope pos
  match gens, h with
  | [⟨tg, iter, ifs, a⟩], h =>
    obtain ⟨rfl, hsub, q1, q2, q3, q4, q5, q6⟩ := comp_parts ie ii ic ok h
    refine pb_val ?_ fun z => no_ z
    have q := pe_lc (pos := pos) ok.calm (by rw [ok.hN]; exact ok.nd) q1 (own := ownP N own) q2 q3 q4 q5 q6
    rw [ownP_map] at q
    exact RX.PE.weak q fun σ H Q w => tLc_ok hsub w
  | [], h => exact no_ h
  | ⟨_, _, _, _⟩ :: _ :: _, h => exact no_ h
theorem ihe_nul : IHE N T g cl G .nul := by
  intro sc fs W X x ok h
  cases x <;> exact no_ h
/-! ### methods of lists -/
theorem own_upd {env : En} {σ : L2.St} {H : Hp} {F N0 : Addr → Prop} {i : Nat} {sl sl' : Slot} (s : SR g N0 env σ H) (h : env[i]? = some (some sl)) {xs ys : List AV} (hs : (∃ nw, sl = .own nw xs ∧ sl' = .own nw ys) ∨ (sl = .io xs ∧ sl' = .io ys))
    {a : Addr} {vs ws : List V} (ha : σ[i]? = some (some (.ref a))) (hv : H a = some (.lst vs)) (hr : RVs g.K g.H0 H (Pv N0 env σ) ys ws) : SR g N0 (env.set i (some sl')) σ (upd H a (.lst ws)) ∧ Stp All env σ H (env.set i (some sl')) σ (upd H a (.lst ws)) ∧ Stab (Pv N0 env σ) H (upd H a (.lst ws)) ∧ ∀ b, Pm (env.set i (some sl')) σ b ↔ Pm env σ b := by
  have lt := lt_of_get h
  have hm : IsMut env i := by
    rcases hs with ⟨nw, rfl, _⟩ | ⟨rfl, _⟩ <;> exact ⟨_, h, rfl⟩
  have m' : sl'.mut = true := by rcases hs with ⟨nw, _, rfl⟩ | ⟨_, rfl⟩ <;> rfl
  have pa : Pm env σ a := ⟨i, hm, ha⟩
  have nN := (s.pmLst pa).2.1
  have st : Stab (Pv N0 env σ) H (upd H a (.lst ws)) := fun b o e k => by
    have : b ≠ a := fun z => by
      subst z
      rcases k with k | k
      · exact k (.inr pa)
      · rw [hv] at e
        cases e
        exact k vs rfl
    rw [upd_ne this]
    exact e
  have ne : ∀ {b : Addr} {o : HO}, b ≠ a → H b = some o → upd H a (.lst ws) b = some o := fun z e => by rw [upd_ne z]; exact e
  have dm : ∀ b, H b ≠ none → upd H a (.lst ws) b ≠ none := fun b e => by
    by_cases z : b = a
    · rw [z, upd_same]; simp
    · rw [upd_ne z]; exact e
  have self : (env.set i (some sl'))[i]? = some (some sl') := List.getElem?_set_self lt
  have oth : ∀ j, j ≠ i → (env.set i (some sl'))[j]? = env[j]? := fun j h => List.getElem?_set_ne (Ne.symm h)
  have mu : ∀ j, IsMut (env.set i (some sl')) j ↔ IsMut env j := fun j => by
    by_cases hj : j = i
    · subst hj
      exact ⟨fun _ => hm, fun _ => ⟨sl', self, m'⟩⟩
    · exact ⟨fun ⟨x, a, b⟩ => ⟨x, by rw [← oth j hj]; exact a, b⟩, fun ⟨x, a, b⟩ => ⟨x, by rw [oth j hj]; exact a, b⟩⟩
  have pm : ∀ b, Pm (env.set i (some sl')) σ b ↔ Pm env σ b := fun b => ⟨fun ⟨j, a, c⟩ => ⟨j, (mu j).mp a, c⟩, fun ⟨j, a, c⟩ => ⟨j, (mu j).mpr a, c⟩⟩
  have hP : ∀ b, Pv N0 (env.set i (some sl')) σ b → H b ≠ none → Pv N0 env σ b := fun b q _ => q.imp id (pm b).mp
  have diff : ∀ {j : Nat} {b : Addr}, j ≠ i → IsMut env j → σ[j]? = some (some (.ref b)) → b ≠ a := fun {j b} hj hmj e z => hj (s.inj j i a hmj hm (z ▸ e) ha)
  refine ⟨⟨by rw [List.length_set]; exact s.len, fun j d e => ?_, fun j nw zs e => ?_, fun j zs e => ?_, fun j tt zs e => ?_, fun j k b hj hk ej ek => s.inj j k b ((mu j).mp hj) ((mu k).mp hk) ej ek, fun b o e n => ?_, fun b e => dm b (s.dom b e), fun b e => dm b (s.nst b e)⟩, ⟨fun b o e _ n => ?_, fun b e => .inl ((pm b).mp e), dm, fun j tt zs e => ?_, fun j zs e => ?_, fun j tt zs e => ?_⟩, st, pm⟩
  · have hj : j ≠ i := fun z => by
      subst z
      rw [self] at e
      cases e
      cases m'
    rw [oth j hj] at e
    obtain ⟨v, e1, r⟩ := s.val j d e
    exact ⟨v, e1, r.mono st hP⟩
  · by_cases hj : j = i
    · subst hj
      rw [self] at e
      cases e
      rcases hs with ⟨nw', rfl, z⟩ | ⟨_, z⟩
      · cases z
        obtain ⟨b, us, e1, _, _, e3, e4⟩ := s.own j _ _ h
        rw [ha] at e1
        cases e1
        exact ⟨a, ws, ha, upd_same, hr.mono st hP, e3, e4⟩
      · cases z
    · rw [oth j hj] at e
      obtain ⟨b, us, e1, e2, r, e3⟩ := s.own j nw zs e
      exact ⟨b, us, e1, ne (diff hj ⟨_, e, rfl⟩ e1) e2, r.mono st hP, e3⟩
  · by_cases hj : j = i
    · subst hj
      rw [self] at e
      cases e
      rcases hs with ⟨nw', _, z⟩ | ⟨rfl, z⟩
      · cases z
      · cases z
        obtain ⟨b, us, e1, _, _, e3, e4⟩ := s.io j _ h
        rw [ha] at e1
        cases e1
        exact ⟨a, ws, ha, upd_same, hr.mono st hP, e3, e4⟩
    · rw [oth j hj] at e
      obtain ⟨b, us, e1, e2, r, e3⟩ := s.io j zs e
      exact ⟨b, us, e1, ne (diff hj ⟨_, e, rfl⟩ e1) e2, r.mono st hP, e3⟩
  · have hj : j ≠ i := fun z => by
      subst z
      rw [self] at e
      cases e
      cases m'
    rw [oth j hj] at e
    obtain ⟨b, us, e1, e2⟩ := s.brw j tt zs e
    refine ⟨b, us, e1, ?_⟩
    rcases e2 with e2 | ⟨e2, e3, r, e4⟩
    · exact .inl e2
    · have na : b ≠ a := fun z => nN (z ▸ e3)
      refine .inr ⟨?_, e3, r.mono st hP, fun q => ne na (e4 q)⟩
      rcases e2 with e2 | ⟨u, e2⟩
      · exact .inl (ne na e2)
      · exact .inr ⟨u, ne na e2⟩
  · have : b ≠ a := fun z => by
      subst z
      rcases (s.pmLst pa).2.2 with q | q
      · exact n q
      · rw [q] at e; cases e
    exact ne this (s.keep b o e n)
  · exact ne (fun z => n (z ▸ pa)) e
  · have hj : j ≠ i := fun z => by
      subst z
      rw [h] at e
      cases e
      rcases hs with ⟨nw, z, _⟩ | ⟨z, _⟩ <;> cases z
    rw [oth j hj]
    exact ⟨e, rfl⟩
  · by_cases hj : j = i
    · subst hj
      rw [h] at e
      cases e
      rcases hs with ⟨nw, z, _⟩ | ⟨z, rfl⟩
      · cases z
      · exact ⟨⟨ys, self⟩, rfl⟩
    · rw [oth j hj]
      exact ⟨⟨zs, e⟩, rfl⟩
  · have hj : j ≠ i := fun z => by
      subst z
      rw [self] at e
      cases e
      cases m'
    rw [oth j hj] at e
    exact e
theorem mut_get {env : En} {i : Nat} (h : mutB env i = true) : ∃ sl xs, env[i]? = some (some sl) ∧ slL env i = some xs ∧ ((∃ nw, sl = .own nw xs) ∨ sl = .io xs) := by
  unfold mutB at h
  split at h
  · rename_i nw xs e
    exact ⟨_, xs, e, by unfold slL; rw [e], .inl ⟨nw, rfl⟩⟩
  · rename_i xs e
    exact ⟨_, xs, e, by unfold slL; rw [e], .inr rfl⟩
  · cases h
/-- a slot's list written anew -/
theorem upd_ok {env : En} {σ : L2.St} {H : Hp} {N0 : Addr → Prop} {i : Nat} (s : SR g N0 env σ H) (h : mutB env i = true) : ∃ a xs vs, slL env i = some xs ∧ σ[i]? = some (some (.ref a)) ∧ H a = some (.lst vs) ∧ RVs g.K g.H0 H (Pv N0 env σ) xs vs ∧
    ∀ ys ws, RVs g.K g.H0 H (Pv N0 env σ) ys ws → SR g N0 (updS env i ys) σ (upd H a (.lst ws)) ∧ Stp All env σ H (updS env i ys) σ (upd H a (.lst ws)) ∧ Stab (Pv N0 env σ) H (upd H a (.lst ws)) ∧ ∀ b, Pm (updS env i ys) σ b ↔ Pm env σ b := by
  obtain ⟨sl, xs, e, e2, k⟩ := mut_get h
  rcases k with ⟨nw, rfl⟩ | rfl
  · obtain ⟨a, vs, e1, hv, r, _⟩ := s.own i _ _ e
    refine ⟨a, xs, vs, e2, e1, hv, r, fun ys ws q => ?_⟩
    have eu : updS env i ys = env.set i (some (.own nw ys)) := by unfold updS; rw [e]
    rw [eu]
    exact own_upd (F := fun _ => True) s e (.inl ⟨nw, rfl, rfl⟩) e1 hv q
  · obtain ⟨a, vs, e1, hv, r, _⟩ := s.io i _ e
    refine ⟨a, xs, vs, e2, e1, hv, r, fun ys ws q => ?_⟩
    have eu : updS env i ys = env.set i (some (.io ys)) := by unfold updS; rw [e]
    rw [eu]
    exact own_upd (F := fun _ => True) s e (.inr ⟨rfl, rfl⟩) e1 hv q
def mtV : Mt → String
  | .app => "list.append" | .ext => "list.extend" | .ins => "list.insert" | .clr => "list.clear" | .rev => "list.reverse" | .pop => "list.pop" | .popAt => "list.pop"
/-- what is wanted of a method -/
def mtRd (g : Gh) (m : Mt) (r : V → List V → Hp → VK → Prop) : Prop := ∀ (a : Addr) (vs us : List V) (H : Hp) (Q : VK) (xs ds : List AV) (F N0 : Addr → Prop) (env : En) (σ : L2.St) (ys : List AV) (d : AV), H a = some (.lst vs) → Posts g F env σ H N0 ds us → RVs g.K g.H0 H (Pv N0 env σ) xs vs → mthL m xs ds env = some (ys, d) →
  (∀ ws v, RVs g.K g.H0 H (Pv N0 env σ) ys ws → RV g.K g.H0 H (Pv N0 env σ) d v → Q v (upd H a (.lst ws))) → r (.ref a) us H Q
theorem RVs.rev {K : PySem.W.Frag} {H0 H : Hp} {P : Addr → Prop} : ∀ {xs : List AV} {vs : List V}, RVs K H0 H P xs vs → RVs K H0 H P xs.reverse vs.reverse
  | _, _, .nil => .nil
  | _, _, .cons a r => by rw [List.reverse_cons, List.reverse_cons]; exact RVs.append (RVs.rev r) (.cons a .nil)
theorem RVs.dropLast {K : PySem.W.Frag} {H0 H : Hp} {P : Addr → Prop} {xs : List AV} {vs : List V} (r : RVs K H0 H P xs vs) : RVs K H0 H P xs.dropLast vs.dropLast := by
  rw [List.dropLast_eq_take, List.dropLast_eq_take, r.length]
  exact r.take _
theorem RVs.erase {K : PySem.W.Frag} {H0 H : Hp} {P : Addr → Prop} {xs : List AV} {vs : List V} (k : Nat) (r : RVs K H0 H P xs vs) : RVs K H0 H P (xs.eraseIdx k) (vs.eraseIdx k) := by
  rw [List.eraseIdx_eq_take_drop_succ, List.eraseIdx_eq_take_drop_succ]
  exact (r.take _).append (r.drop _)
theorem mt_ok (X : Cx) (m : Mt) : ∃ r, MtR X (mtV m) r ∧ mtRd g m r := by
  cases m
  · refine ⟨rAppend, mt_append, fun a vs us H Q xs ds F N0 env σ ys d hv p r e k => ?_⟩
    unfold mthL at e
    split at e <;> first
      | cases e; done
      | skip
    all_goals (rename_i h1; cases h1)
    split at e
    · rename_i d' hs
      split at e
      · rename_i hl
        cases e
        match us, p with
        | [u], p => exact ⟨a, vs, u, rfl, rfl, hv, by rw [← r.length]; exact hl, k _ _ (r.append (.cons (HeadOk.sto p.1 p.2 hs) .nil)) .non⟩
      · cases e
    · cases e
  · refine ⟨rExtend, mt_extend, fun a vs us H Q xs ds F N0 env σ ys d hv p r e k => ?_⟩
    unfold mthL at e
    split at e <;> first
      | cases e; done
      | skip
    all_goals (rename_i h1; cases h1)
    split at e
    · rename_i zs hs
      split at e
      · rename_i hl
        cases e
        match us, p with
        | [u], p =>
          obtain ⟨b, ws, rfl, hb, rz⟩ := p.listM hs
          exact ⟨a, b, vs, ws, rfl, rfl, hv, hb, by rw [← r.length, ← rz.length]; exact hl, k _ _ (r.append rz) .non⟩
      · cases e
    · cases e
  · refine ⟨_, mt_insert, fun a vs us H Q xs ds F N0 env σ ys d hv p r e k => ?_⟩
    unfold mthL at e
    split at e <;> first
      | cases e; done
      | skip
    all_goals (rename_i h1; cases h1)
    split at e
    · rename_i d' hs
      split at e
      · rename_i hl
        cases e
        simp only [Bool.and_eq_true, decide_eq_true_eq] at hl
        match us, p with
        | [u1, u], p =>
          obtain ⟨p1, p2⟩ := p
          have p1 : RV g.K g.H0 H _ (.int _) u1 := p1
          cases p1
          exact ⟨a, vs, _, u, rfl, rfl, hv, by rw [← r.length]; exact hl.1.1, hl.1.2, hl.2, k _ _ (((r.take _).append (.cons (HeadOk.sto p2.1 p2.2 hs) .nil)).append (r.drop _)) .non⟩
      · cases e
    · cases e
  · refine ⟨rClear, mt_clear, fun a vs us H Q xs ds F N0 env σ ys d hv p r e k => ?_⟩
    unfold mthL at e
    split at e <;> first
      | cases e; done
      | skip
    all_goals (rename_i h1; cases h1)
    cases e
    match us, p with
    | [], p => exact ⟨a, vs, rfl, rfl, hv, k _ _ .nil .non⟩
  · refine ⟨rReverse, mt_reverse, fun a vs us H Q xs ds F N0 env σ ys d hv p r e k => ?_⟩
    unfold mthL at e
    split at e <;> first
      | cases e; done
      | skip
    all_goals (rename_i h1; cases h1)
    cases e
    match us, p with
    | [], p => exact ⟨a, vs, rfl, rfl, hv, k _ _ r.rev .non⟩
  · refine ⟨rPop, mt_pop, fun a vs us H Q xs ds F N0 env σ ys d hv p r e k => ?_⟩
    unfold mthL at e
    split at e <;> first
      | cases e; done
      | skip
    all_goals (rename_i h1; cases h1)
    split at e
    · rename_i y hy
      cases e
      match us, p with
      | [], p =>
        obtain ⟨v, hv2, rv⟩ := r.get hy
        rw [r.length] at hv2
        exact ⟨a, vs, v, rfl, rfl, hv, hv2, k _ _ r.dropLast rv⟩
    · cases e
  · refine ⟨rPopAt, mt_popAt, fun a vs us H Q xs ds F N0 env σ ys d hv p r e k => ?_⟩
    unfold mthL at e
    split at e <;> first
      | cases e; done
      | skip
    all_goals (rename_i h1; cases h1)
    split at e
    · rename_i hl
      simp only [Bool.and_eq_true, decide_eq_true_eq] at hl
      split at e
      · rename_i k' hk
        split at e
        · rename_i y hy
          cases e
          match us, p with
          | [u1], p =>
            have p1 : RV g.K g.H0 H _ (.int _) u1 := p.1
            cases p1
            obtain ⟨v, hv2, rv⟩ := r.get hy
            exact ⟨a, vs, _, k', v, rfl, rfl, hv, hl.1, hl.2, by rw [← r.length]; exact hk, hv2, k _ _ (r.erase k') rv⟩
        · cases e
      · cases e
    · cases e
theorem mt_slot (m : Mt) : PySem.Slot "list" (mtN m) (mtV m) ∧ typeOf (.builtin (mtV m)) = pure (.type "method_descriptor") := by
  cases m
  · exact ⟨PySem.F.slot_list_append, PySem.F.type_list_append⟩
  · exact ⟨PySem.F.slot_list_extend, PySem.F.type_list_extend⟩
  · exact ⟨PySem.F.slot_list_insert, PySem.F.type_list_insert⟩
  · exact ⟨PySem.F.slot_list_clear, PySem.F.type_list_clear⟩
  · exact ⟨PySem.F.slot_list_reverse, PySem.F.type_list_reverse⟩
  · exact ⟨PySem.F.slot_list_pop, PySem.F.type_list_pop⟩
  · exact ⟨PySem.F.slot_list_pop, PySem.F.type_list_pop⟩
theorem mEs_all : ∀ {es : Exs} {xs : List Expr} {env : Env} {pos : Pos}, mEs N T es sc xs = true → (backTo pos (starEach xs env)).all (fun x => !x.1) = true
  | .nil, [], _, _, _ => rfl
  | .nil, _ :: _, _, _, h => no_ h
  | .cons _ _, [], _, _, h => no_ h
  | .cons e es, x :: xs, env, pos, h => by
    have h : (!starB x && mE N T e sc x && mEs N T es sc xs) = true := h
    simp only [Bool.and_eq_true, Bool.not_eq_true'] at h
    rw [star_cons h.1.1]
    exact mEs_all h.2
theorem ihe_mth {m : Mt} {i : Nat} {es : Exs} (is : IHEs N T g cl G es) : IHE N T g cl G (.mth m i es) := by
  intro sc fs W X x ok h
  cases x <;> first
    | exact no_ h
    | skip
  rename_i fn xs ks pos
  cases fn <;> first
    | exact no_ h
    | skip
  rename_i ob nm apos
  cases ob <;> first
    | exact no_ h
    | skip
  rename_i y p
  cases ks with
  | cons _ _ => exact no_ h
  | nil =>
    have h : (nmB N sc i y && decide (mtN m = nm) && decide (apos.endLine = pos.line) && decide (exsLen es = mtA m) && mEs N T es sc xs) = true := h
    simp only [Bool.and_eq_true, decide_eq_true_eq] at h
    obtain ⟨⟨⟨⟨h1, rfl⟩, h3⟩, h4⟩, h5⟩ := h
    obtain ⟨r, k1, k2⟩ := mt_ok (g := g) X m
    obtain ⟨sl, ty⟩ := mt_slot m
    have hln : (apos.endLine == pos.line) = true := by rw [h3]; exact beq_self_eq_true _
    have hlen := mEs_len h5
    -- the reading
    have key : ∀ σ H Q, tE g W cl (ev G (.mth m i es)) σ H Q → ∃ v, σ[i]? = some (some v) ∧ tyV X.K "list" v H ∧ tA g W cl (evs G es) σ H fun vs H1 => r v vs H1 Q := by
      intro σ H Q q
      obtain ⟨N0, env, s, w⟩ := q
      unfold ev at w
      split at w
      · rename_i hm
        obtain ⟨a, zs, vs, e1, e2, e3, _⟩ := upd_ok s hm
        refine ⟨_, e2, .inl ⟨rfl, vs, .inl (.inl e3)⟩, N0, env, s, wpR_mono (wpR_bnd w) (fun ds env1 w H1 us t1 p1 => ?_) fun _ _ h => h⟩
        unfold mthE at w
        split at w
        · rename_i hm1
          obtain ⟨a', zs', vs', q1, q2, q3, q4, q5⟩ := upd_ok p1.sr hm1
          rw [e2] at q2
          cases q2
          rw [q1] at w
          simp only at w
          split at w
          · rename_i ys d e
            refine k2 a vs' us H1 Q zs' ds _ N0 env1 σ ys d q3 p1 q4 e fun ws v rw_ rv => ?_
            obtain ⟨s2, t2, st, pm⟩ := q5 ys ws rw_
            exact w _ v (t1.trans t2) (post_sto s2 (rv.mono st fun b h _ => h.imp id (pm b).mp))
          · exact w.elim
        · exact w.elim
      · exact w.elim
    refine pb_val ?_ fun _ _ => rfl
    cases xs with
    | nil =>
      refine RX.PE.weak (pe_bm0 PySem.F.plainAttrs_list sl ty k1 (ok.nm h1 (p := p)) rfl hln) fun σ H Q q => ?_
      obtain ⟨v, e1, e2, e3⟩ := key σ H Q q
      cases es with
      | cons _ _ => exact no_ h5
      | nil => exact ⟨v, e1, e2, tA_nil e3⟩
    | cons e xs =>
      have hs : starB e = false ∧ (backTo pos (starEach xs X.env)).any (·.1) = false := by
        cases es with
        | nil => exact no_ h5
        | cons e' es' =>
          have h5 : (!starB e && mE N T e' sc e && mEs N T es' sc xs) = true := h5
          simp only [Bool.and_eq_true, Bool.not_eq_true'] at h5
          exact ⟨h5.1.1, mEs_star h5.2⟩
      have few : (e :: xs).length < 30 := by
        rw [hlen, h4]
        cases m <;> decide
      refine RX.PE.weak (pe_bm PySem.F.plainAttrs_list sl ty k1 (ok.nm h1 (p := p)) (is ok h5).1 rfl ?_ hln (star_cons hs.1) hs.2) fun σ H Q q => ?_
      · rw [mEs_all h5]
        simp only [Bool.true_and]
        have : (backToKw pos (keywordEach [] X.env)).all (fun x => x.1.isSome) = true := rfl
        rw [this]
        simpa using few
      · obtain ⟨v, e1, e2, e3⟩ := key σ H Q q
        exact ⟨v, e1, e2, e3⟩

/-! ### a list turned about; isinstance of exceptions; a def's value called -/
/-- from a later state -/
theorem tE_from {r : En → Option (R AV)} {N N0 : Addr → Prop} {env env1 : En} {σ : L2.St} {H H1 : Hp} {Q : VK} (t : Stp All env σ H env1 σ H1) (s : SR g N0 env1 σ H1)
    (h : wpR (r env1) (fun d env2 => ∀ H2 v, Stp All env σ H env2 σ H2 → Posts g (Fr env σ H) env2 σ H2 N0 [d] [v] → Q v H2) fun c env2 => ∀ H2 (dd : Unit), Stp All env σ H env2 σ H2 → SR g N0 env2 σ H2 → W (cl c) none σ H2) : tE g W cl r σ H1 Q :=
  ⟨N0, env1, s, wpR_mono h (fun d env2 h H2 v t2 p2 => h H2 v (t.trans t2) (p2.monoF (Fr.sub t))) fun c env2 h H2 dd t2 s2 => h H2 dd (t.trans t2) s2⟩
theorem ihe_rvs {a : Ex} (ia : IHE N T g cl G a) : IHE N T g cl G (.rvs a) := by
  intro sc fs W X x ok h
  unfold mE at h
  split at h
  case h_2 => exact no_ h
  rename_i y hy
  obtain ⟨k, p1, p2, p3, pos, rfl⟩ := rvB_ok hy
  refine pb_val (RX.PE.weak (pe_revL (ia ok h).1) fun σ H Q q => ?_) fun _ _ => rfl
  obtain ⟨N0, env, s, w⟩ := q
  unfold ev at w
  refine ⟨N0, env, s, wpR_mono (wpR_bnd w) (fun d env1 w H1 v t1 p1 => ?_) fun _ _ w => w⟩
  unfold lift oRvs at w
  simp only at w
  cases e : asL env1 d with
  | none => rw [e] at w; exact w.elim
  | some xs =>
    rw [e] at w
    obtain ⟨b, ws, rfl, h1, h2⟩ := p1.list e
    rw [← ok.hK] at h1
    exact ⟨b, ws, rfl, h1, fun p hp => w _ _ (t1.trans (stp_upd p1.sr hp)) (post_new (Fr.sub1 t1) p1.sr h2.rev hp)⟩
section
open PySem.Spec PyProof.Rows
theorem vals_ii : ∀ {zs : List Int} {ws : List Value}, Vals (zs.map V.int) ws → PyProof.Rows.IntsAre ws zs
  | [], _, .nil => .nil
  | _ :: _, _, .cons a b => by
    obtain ⟨tk, e⟩ := a
    subst e
    exact PyProof.Rows.IntsAre.cons _ tk (vals_ii b)
theorem pe_lset {Y : Cx} {x : Expr} {tx : TE} {q1 q2 q3 q4 : Pos} (gl : Gl Y "len") (ml : Y.mg "len" = none) (gs : Gl Y "set") (ms : Y.mg "set" = none) (px : PE Y x tx) (hcalm : Y.calm = true) (hst : ∀ es env, starEach (x :: es) env = (false, eval x env) :: starEach es env) :
    PE Y (.Call (.Name "len" q1) [.Call (.Name "set" q2) [x] [] q3] [] q4) (fun σ H Q => tx σ H fun y H2 => ∃ (p : Addr) (zs : List Int), y = .ref p ∧ SqL Y.K H2 p (zs.map V.int) ∧ zs.length ≤ 4000 ∧ Q (.int (ddN zs)) H2) := by
  constructor
  intro pins s0 σ H Q J hq
  refine Call_ (ld_blt J gl ml boot_len (PyProof.Rows.callWith_builtin1 (PyProof.Rows.args_cons (Call_ (ld_blt J gs ms boot_set ?inner)) rfl) rfl rfl))
  refine PyProof.Rows.callWith_type1 (PyProof.Rows.args_cons (thn (px.run pins s0 σ H _ J hq) fun v s2 got => PyProof.Rows.args_nil ?_) (hst _ _)) (hst _ _) rfl
  obtain ⟨y, H2, J2, rv, p, zs, rfl, sq, small, fin⟩ := got
  obtain rfl : v = .ref p := rv
  obtain ⟨ws, vws, at_, bnd_⟩ := J2.list sq
  have sz : ws.toArray.size = zs.length := by
    have := vws.length
    rw [List.length_map] at this
    rw [List.size_toArray]; exact this.symm
  refine call_set_list (J2.ok.hd hcalm) at_.isList (show PyProof.Rows.IntsAre ws.toArray.toList zs from vals_ii vws) (by rw [sz]; exact Nat.lt_of_le_of_lt (Nat.succ_le_succ small) (by decide)) fun hp tks isSet keep => PyProof.Rows.args_nil ?_
  rw [sz] at isSet
  obtain ⟨ob, en, ep, tb, got, exact_, dat, _, _, _, fit, num⟩ := isSet
  have J3 : Inv Y pins σ H2 { s2 with heap := hp, toks := tks } := J2.kept fun b u e => keep b u (Heap.lt_size e) e
  have lim : ddN zs ≤ zs.length := PyProof.Rows.firstMet_length_le _ _
  have num : en.size = ddN zs := num
  exact call_len_set got exact_ dat fit (by rw [num] <;> omega) ⟨.int (ddN zs), H2, J3.tok _, ⟨_, by rw [num]⟩, fin⟩
end
theorem ihe_lse {a : Ex} (ia : IHE N T g cl G a) : IHE N T g cl G (.lse a) := by
  intro sc fs W X x ok h
  unfold mE at h
  split at h
  case h_2 => exact no_ h
  rename_i y hy
  obtain ⟨p1, p2, p3, p4, rfl⟩ := lsB_ok hy
  simp only [Bool.and_eq_true, Bool.not_eq_true'] at h
  obtain ⟨⟨⟨h1, h2⟩, h3⟩, h4⟩ := h
  obtain ⟨g1, _, _⟩ := ok.gl h1
  obtain ⟨g2, _, _⟩ := ok.gl h2
  refine pb_val (RX.PE.weak (pe_lset g1 (ok.blt _ (by decide +kernel)) g2 (ok.blt _ (by decide +kernel)) (ia ok h4).1 ok.calm (fun _ _ => star_cons h3)) fun σ H Q q => ?_) fun _ _ => rfl
  obtain ⟨N0, env, s, w⟩ := q
  unfold ev at w
  refine ⟨N0, env, s, wpR_mono (wpR_bnd w) (fun d env1 w H1 v t1 p1 => ?_) fun _ _ w => w⟩
  unfold lift oLse at w
  simp only at w
  cases e : asL env1 d with
  | none => rw [e] at w; exact w.elim
  | some xs =>
    rw [e] at w
    simp only at w
    cases e2 : ints? xs with
    | none => rw [e2] at w; exact w.elim
    | some ns =>
      rw [e2] at w
      simp only at w
      by_cases hl : ns.length ≤ 4000
      · rw [if_pos hl] at w
        obtain ⟨b, rfl, h1⟩ := ints_at p1 e e2
        rw [← ok.hK] at h1
        exact ⟨b, ns, rfl, h1, hl, w _ _ t1 ⟨.int _, p1.sr⟩⟩
      · rw [if_neg hl] at w
        exact w.elim
/-- isinstance(e, c) -/
def rIsX (K : PySem.W.Frag) : List V → Hp → VK → Prop := fun xs H Q => ∃ a D c cv b, xs = [.ref a, c] ∧ H a = some (exn a D) ∧ ExcC K D ∧ ClsV c cv ∧ PySem.W.kitOne K (.ref D) cv = some b ∧ Q (.bl b) H
def rIsXT (K : PySem.W.Frag) : List V → Hp → VK → Prop := fun xs H Q => ∃ a D tp cs us b, xs = [.ref a, .ref tp] ∧ H a = some (exn a D) ∧ ExcC K D ∧ H tp = some (.tup cs) ∧ Paired ClsV cs us ∧ PySem.W.kitAny K (.ref D) us = some b ∧ Q (.bl b) H
theorem call_isX : CallR X (.builtin "isinstance") (rIsX X.K) := by
  intro pins s σ H xs us Q I r h
  obtain ⟨a, D, c, cv, b, rfl, ha, C, k, e, q⟩ := h
  obtain ⟨u1, u2, rfl, r1, r2⟩ := vals2 r
  cases (show u1 = Value.ref a from r1)
  have e2 := k.eq r2
  subst e2
  obtain ⟨⟨oe, J⟩, _⟩ := (show ObjOk X.prog X.w H s.heap a (exn a D) from I.hok a _ ha)
  exact PySem.W.kia_one (PySem.W.handS_kitx_exc C.hg C.hk C.hs C.hd C.ha C.hn C.ht C.hm) I.kIn J e (fun z => nomatch z) fun tk => ⟨.bl b, H, I.tok tk, rfl, q⟩
theorem call_isXT : CallR X (.builtin "isinstance") (rIsXT X.K) := by
  intro pins s σ H xs us Q I r h
  obtain ⟨a, D, tp, cs, ws, b, rfl, ha, C, hT, k, e, q⟩ := h
  obtain ⟨u1, u2, rfl, r1, r2⟩ := vals2 r
  cases (show u1 = Value.ref a from r1)
  cases (show u2 = Value.ref tp from r2)
  obtain ⟨⟨oe, J⟩, _⟩ := (show ObjOk X.prog X.w H s.heap a (exn a D) from I.hok a _ ha)
  obtain ⟨_, its, rv, o, h1, h2, n, h3⟩ := (show ObjOk X.prog X.w H s.heap tp (.tup cs) from I.hok tp _ hT)
  have e3 := ClsV.all k rv
  subst e3
  obtain ⟨oc, od, dt, sl⟩ := o
  simp only at h2 h3
  subst h2 h3
  exact PySem.W.kia_tup (PySem.W.handS_kitx_exc C.hg C.hk C.hs C.hd C.ha C.hn C.ht C.hm) I.kIn J h1 e (fun z => nomatch z) fun tk => ⟨.bl b, H, I.tok tk, rfl, q⟩
def tCs : List V → TA
  | [] => tNil
  | v :: vs => tCons (tC v) (tCs vs)
theorem tCs_ok : ∀ {vs : List V} {σ : L2.St} {H : Hp} {Q : List V → Hp → Prop}, Q vs H → tCs vs σ H Q
  | [], _, _, _, h => h
  | _ :: vs, σ, H, Q, h => tCs_ok (vs := vs) (σ := σ) (H := H) (Q := fun r H1 => Q (_ :: r) H1) h
theorem mem_lookup {α β : Type} [BEq α] [LawfulBEq α] : ∀ {l : List (α × β)} {a : α} {b : β}, l.lookup a = some b → (a, b) ∈ l
  | [], _, _, h => by cases h
  | (x, y) :: l, a, b, h => by
    rw [List.lookup_cons] at h
    split at h
    · rename_i e
      have e := eq_of_beq e
      cases h
      subst e
      exact List.mem_cons_self
    · exact List.mem_cons_of_mem _ (mem_lookup h)
theorem cls_ek (ok : XOk N T g cl G sc fs W X) {c : Str} (h : clsB T c = true) : ∃ C zs, T.lookup c = some (.inr (.inr zs)) ∧ X.mg c = some (.ref C) ∧ ExK g.K cl c zs C := by
  unfold clsB at h
  split at h
  · rename_i zs hl
    obtain ⟨C, h1, h2⟩ := ok.ecs _ _ hl
    exact ⟨C, zs, hl, h1, h2⟩
  · cases h
theorem ans_kit (ok : XOk N T g cl G sc fs W X) {y c : Str} {b : Bool} {C : Addr} {zs : List (Str × Bool)} (hl : T.lookup y = some (.inr (.inr zs))) (ek : ExK g.K cl y zs C) (h : ansB T y c = some b) : PySem.W.kitOne g.K (cl c) (.ref C) = some b := by
  unfold ansB at h
  rw [hl] at h
  exact ek.ki _ (mem_lookup h)
theorem cls_names (ok : XOk N T g cl G sc fs W X) : ∀ {es : List Expr}, es.all (clsE T sc) = true → ∃ cs us, PA X es (tCs cs) ∧ Paired ClsV cs us ∧ (∀ c b, ansT T sc c es = some b → PySem.W.kitAny g.K (cl c) us = some b) ∧ cs.length = es.length
  | [], _ => ⟨[], [], pa_nil, .nil, fun c b h => by cases h; rfl, rfl⟩
  | e :: es, h => by
    simp only [List.all_cons, Bool.and_eq_true] at h
    obtain ⟨cs, us, h1, h2, h3, h4⟩ := cls_names ok h.2
    have he := h.1
    cases e <;> first
      | exact no_ he
      | skip
    rename_i y p
    have he : (glB sc y && clsB T y) = true := he
    simp only [Bool.and_eq_true] at he
    obtain ⟨g1, g2, g3⟩ := ok.gl he.1
    obtain ⟨C, zs, hl, hm, ek⟩ := cls_ek ok he.2
    refine ⟨.ref C :: cs, .ref C :: us, pa_cons (pe_glob (v := .ref C) g1 hm rfl g2) h1 rfl, .cons (.own C) h2, fun c b hb => ?_, by simp [h4]⟩
    have hb : (if glB sc y = true then (match ansB T y c, ansT T sc c es with | some b, some b' => some (b || b') | _, _ => none) else none) = some b := hb
    rw [if_pos he.1] at hb
    split at hb
    · rename_i b1 b2 e1 e2
      cases hb
      refine kitAny_cons (ans_kit ok hl ek e1) (fun z => ?_) fun z => ?_
      · rw [h3 c b2 e2, z]; rfl
      · rw [z]; rfl
    · cases hb
theorem tE_imp {r : En → Option (R AV)} {σ : L2.St} {H : Hp} {Q Q' : VK} (h : tE g W cl r σ H Q) (k : ∀ v H, Q v H → Q' v H) : tE g W cl r σ H Q' := by
  obtain ⟨N0, env, s, w⟩ := h
  exact ⟨N0, env, s, wpR_mono w (fun d env1 w H1 v t1 p1 => k _ _ (w H1 v t1 p1)) fun _ _ w => w⟩
theorem boot_ve : bootBuiltins (Str.ofString "ValueError") = some (.type "ValueError") := by decide +kernel
theorem ihe_isx {a : Ex} {ts : List (Str × Bool)} (ia : IHE N T g cl G a) : IHE N T g cl G (.isx a ts) := by
  intro sc fs W X x ok h
  unfold mE at h
  split at h
  case h_2 => exact no_ h
  rename_i y z hy
  obtain ⟨p, pos, rfl⟩ := isB_ok hy
  simp only [Bool.and_eq_true, Bool.not_eq_true'] at h
  obtain ⟨⟨⟨⟨h1, h2⟩, h3⟩, h4⟩, h5⟩ := h
  obtain ⟨g1, g2, g3⟩ := ok.gl h1
  have hm : X.mg (Str.ofString "isinstance") = none := ok.blt _ (by decide +kernel)
  have hts : ∀ q ∈ ts, clsB T q.1 = true := by
    intro q hq
    unfold isxB at h5
    split at h5
    · simp only [Bool.and_eq_true, Bool.or_eq_true, List.all_eq_true] at h5
      rcases h5.2 with h5 | h5
      · exact (h5.2 q hq).1
      · exact (h5.2 q hq).1
    · simp only [Bool.and_eq_true, List.all_eq_true] at h5
      exact (h5.2 q hq).1
    · exact no_ h5
  -- the value, its class
  have val : ∀ {σ : L2.St} {H : Hp} {Q : VK}, tE g W cl (ev G (.isx a ts)) σ H Q → tE g W cl (ev G a) σ H fun v H1 => ∃ b D c r, v = .ref b ∧ H1 b = some (exn b D) ∧ ExcC g.K D ∧ PySem.W.kitOne g.K (.ref D) (.type "ValueError") = some true ∧ cl c = .ref D ∧ (c, r) ∈ ts ∧ Q (.bl r) H1 ∧ ∀ p o, H1 p = none → Q (.bl r) (upd H1 p o) := by
    intro σ H Q q
    obtain ⟨N0, env, s, w⟩ := q
    unfold ev at w
    refine ⟨N0, env, s, wpR_mono (wpR_bnd w) (fun d env1 w H1 v t1 p1 => ?_) fun _ _ w => w⟩
    cases d <;> first
      | exact w.elim
      | skip
    rename_i c
    unfold lift oIsx at w
    simp only at w
    cases e : ts.lookup c with
    | none => rw [e] at w; exact w.elim
    | some r =>
      rw [e] at w
      have hc := mem_lookup e
      obtain ⟨C, zs, hl, hm, ek⟩ := cls_ek ok (hts _ hc)
      have rv : RV g.K g.H0 H1 (Pv (orN N0 (tmp [] [])) env1 σ) (.exo c) v := p1.1
      cases rv with
      | exo k1 k2 =>
        rw [ek.nm] at k2
        cases k2
        exact ⟨_, _, c, r, rfl, k1, ek.xc, ek.ve, ek.cv, hc, w H1 _ t1 ⟨.bl r, p1.sr⟩, fun p o hp => w _ _ (t1.trans (stp_upd p1.sr hp)) ⟨.bl r, (p1.sr.new hp).1⟩⟩
  have hns : starB y = false ∧ (backTo pos (starEach [z] X.env)).any (·.1) = false := ⟨h2, by rw [star_cons h3]; rfl⟩
  unfold isxB at h5
  split at h5
  · rename_i x2 p2
    simp only [Bool.and_eq_true, Bool.or_eq_true, List.all_eq_true] at h5
    obtain ⟨q1, h5⟩ := h5
    obtain ⟨n1, n2, n3⟩ := ok.gl q1
    rcases h5 with h5 | h5
    · obtain ⟨C, zs, hl, hmg, ek⟩ := cls_ek ok h5.1
      refine pb_val (RX.PE.weak (pe_callB call_isX g1 hm (bi_boot .isi) (pa_cons (ia ok h4).1 (pa_cons (pe_glob (v := .ref C) n1 hmg rfl n2) pa_nil (star_cons h3)) (star_cons h2)) g3 g2 (star_cons h2) hns.2) fun σ H Q q => ?_) fun _ _ => rfl
      refine tE_imp (val q) ?_
      rintro v H1 ⟨b, D, c, r, rfl, k1, k2, k3, k4, k5, k6, k7⟩
      have e := (h5.2 _ k5)
      simp only [decide_eq_true_eq] at e
      have e2 := ans_kit ok hl ek e.2
      rw [k4] at e2
      rw [← ok.hK] at k2 e2
      exact ⟨b, D, .ref C, .ref C, r, rfl, k1, k2, .own C, e2, k6⟩
    · have e0 : x2 = Str.ofString "ValueError" := of_decide_eq_true h5.1
      have h6 := h5.2
      subst e0
      refine pb_val (RX.PE.weak (pe_callB call_isX g1 hm (bi_boot .isi) (pa_cons (ia ok h4).1 (pa_cons (pe_bltn n1 (ok.blt _ (by decide +kernel)) boot_ve (v := .ty "ValueError") rfl n3 n2) pa_nil (star_cons h3)) (star_cons h2)) g3 g2 (star_cons h2) hns.2) fun σ H Q q => ?_) fun _ _ => rfl
      refine tE_imp (val q) ?_
      rintro v H1 ⟨b, D, c, r, rfl, k1, k2, k3, k4, k5, k6, k7⟩
      have e := (h6 _ k5).2
      simp only at e
      subst e
      rw [← ok.hK] at k2 k3
      exact ⟨b, D, .ty "ValueError", .type "ValueError", true, rfl, k1, k2, .ty _, k3, k6⟩
  · rename_i es kk p2
    simp only [Bool.and_eq_true, List.all_eq_true] at h5
    obtain ⟨cs, us, ha, hp, hk, hcl⟩ := cls_names ok (List.all_eq_true.mpr h5.1.1)
    refine pb_val (RX.PE.weak (pe_callB call_isXT g1 hm (bi_boot .isi) (pa_cons (ia ok h4).1 (pa_cons (pe_tup ha) pa_nil (star_cons h3)) (star_cons h2)) g3 g2 (star_cons h2) hns.2) fun σ H Q q => ?_) fun _ _ => rfl
    refine tE_imp (val q) ?_
    rintro v H1 ⟨b, D, c, r, rfl, k1, k2, k3, k4, k5, k6, k7⟩
    have e := (h5.2 _ k5).2
    simp only [decide_eq_true_eq] at e
    have e2 := hk _ _ e
    rw [k4] at e2
    rw [← ok.hK] at k2 e2
    refine tCs_ok (vs := cs) ⟨by rw [hcl]; exact Nat.le_trans (of_decide_eq_true h5.1.2) (by decide : 20 ≤ sizeLine), fun p hp' => ?_⟩
    exact ⟨b, D, p, cs, us, r, rfl, by rw [upd_ne (ne_of_none k1 hp')]; exact k1, k2, upd_same, hp, e2, k7 p _ hp'⟩
  · exact no_ h5
theorem ihe_fcl {fs : List Str} {a : Ex} {ms : List Bool} {es : Exs} (ia : IHE N T g cl G a) (is : IHEs N T g cl G es) : IHE N T g cl G (.fcl fs a ms es) := by
  intro sc fsc W X x ok h
  unfold mE at h
  split at h
  case h_2 => exact no_ h
  rename_i y zs hy
  obtain ⟨x1, xs, pos, rfl, rfl, hyy⟩ := fcB_ok hy
  simp only [Bool.and_eq_true, decide_eq_true_eq, List.all_eq_true] at h
  obtain ⟨⟨⟨h1, h2⟩, h3⟩, h5⟩ := h
  have hs : starB x1 = false ∧ (backTo pos (starEach xs X.env)).any (·.1) = false := by
    cases es with
    | nil => exact no_ h5
    | cons e' es' =>
      have h5 : (!starB x1 && mE N T e' sc x1 && mEs N T es' sc xs) = true := h5
      simp only [Bool.and_eq_true, Bool.not_eq_true'] at h5
      exact ⟨h5.1.1, mEs_star h5.2⟩
  refine pb_val ⟨fun pins s σ H Q I q => ?_⟩ fun _ _ => rfl
  obtain ⟨N0, env, s0, w⟩ := q
  unfold ev at w
  have ta : tE g W cl (ev G a) σ H fun v H1 => ∃ f b, f ∈ fs ∧ v = .ref b ∧ PySem.W.nsIn g.K mainGlobals f = some (some (.ref b)) ∧ tA g W cl (evs G es) σ H1 fun vs H2 => spD g.K cl G f (exsLen es) vs H2 Q (WE W σ) := by
    refine ⟨N0, env, s0, wpR_mono (wpR_bnd w) (fun d env1 w H1 v t1 p1 => ?_) fun _ _ w => w⟩
    unfold fnN at w
    cases d <;> first
      | exact w.elim
      | skip
    rename_i f
    simp only at w
    split at w
    · rename_i f' hf
      split at hf
      · rename_i hm
        cases hf
        have rv : RV g.K g.H0 H1 (Pv (orN N0 (tmp [] [])) env1 σ) (.fn f) v := p1.1
        cases rv with
        | fn k1 =>
          refine ⟨f, _, hm, rfl, k1, N0, env1, p1.sr, wpR_mono (evs_len (wpR_bnd w)) (fun ds env2 w H2 vs t2 p2 => ?_) fun c env2 w H2 dd t2 s2 => w H2 dd (t1.trans t2) s2⟩
          obtain ⟨w, hl⟩ := w
          rw [← hl]
          exact call_ok (p2.monoF (Fr.sub t1)) (t1.trans t2) (h2.trans hl.symm) w
      · cases hf
    · exact w.elim
  have he : eval (.Call y (x1 :: xs) [] pos) X.env = (do let f ← eval y X.env; callWith pos f [] (backTo pos (starEach (x1 :: xs) X.env)) (backToKw pos (keywordEach [] X.env))) := by
    rcases hyy with ⟨_, _, _, rfl⟩ | ⟨_, _, rfl⟩ <;> rfl
  refine PyProof.Rows.Call_ (he := he) (thn ((ia ok h3).1.run pins s σ H _ I ta) fun uv s1 ⟨v, H1, I1, rv, f, b, hf, ev, hb, hq⟩ => ?_)
  subst ev
  obtain rfl : uv = Value.ref b := rv
  obtain ⟨kk, b', fd, ps, f1, ⟨f2, f2'⟩, f3, f4, f5⟩ := ok.fns f _ (h1 f hf)
  rw [ok.hK, hb] at f2'
  cases f2'
  refine PySem.W.callWith_K (h₀ := X.base) I1.ok.mod.kin f3 (thn ((is ok h5).1.run pos pins s1 σ H1 _ I1 hq) fun us s2 ⟨vs, H2, I2, r, q⟩ => ⟨I2.kIn, ?_⟩) (star_cons hs.1) hs.2
  rw [ok.hK] at f5
  have f5 : RG.FnG X.prog X.w X.K X.mg X.base (CX X.prog X.w) kk b fd ps (spD g.K cl G f (exsLen es)) := by rw [ok.hK]; exact f5
  exact RG.runG ok.gd f5 f1 f4 (passAt ok.tk σ) I2 r q
/-! a dict changed that no plain value tells of -/
theorem sqT_dk {K : PySem.W.Frag} {H : Hp} {p a : Addr} {k1 k2 : List (L2.Key × V)} {vs : List V} (hp : H p = some (.dK k1)) (h : SqT K H a vs) : SqT K (upd H p (.dK k2)) a vs := by
  rcases h with (h | ⟨o, h⟩) | h
  · exact .inl (.inl (by rw [upd_ne fun z => by rw [z, hp] at h; cases h]; exact h))
  · exact .inl (.inr ⟨o, by rw [upd_ne fun z => by rw [z, hp] at h; cases h]; exact h⟩)
  · exact .inr h
mutual
theorem RV.dk {K : PySem.W.Frag} {H0 H : Hp} {P : Addr → Prop} {p : Addr} {k1 k2 : List (L2.Key × V)} (hp : H p = some (.dK k1)) : ∀ {d : AV} {v : V}, RV K H0 H P d v → RV K H0 (upd H p (.dK k2)) P d v
  | _, _, .non => .non
  | _, _, .bl b => .bl b
  | _, _, .int i => .int i
  | _, _, .str x => .str x
  | _, _, .ty n => .ty n
  | _, _, .tup h r => .tup (sqT_dk hp h) (RVs.dk hp r)
  | _, _, .lst h n k r => .lst (by rw [upd_ne fun z => by rw [z, hp] at h; cases h]; exact h) n k (RVs.dk hp r)
  | _, _, .fn h => .fn h
  | _, _, .exo h k => .exo (by rw [upd_ne fun z => by rw [z, hp] at h; cases h]; exact h) k
  | _, _, .jk h q k l => .jk (by rw [upd_ne fun z => by rw [z, hp] at h; cases h]; exact h) q k l
  | _, _, .dcx (a := a) (kvs := kvs) h => by
    by_cases e : a = p
    · exact .dcx (kvs := k2) (by rw [e]; exact upd_same)
    · exact .dcx (by rw [upd_ne e]; exact h)
theorem RVs.dk {K : PySem.W.Frag} {H0 H : Hp} {P : Addr → Prop} {p : Addr} {k1 k2 : List (L2.Key × V)} (hp : H p = some (.dK k1)) : ∀ {d : List AV} {v : List V}, RVs K H0 H P d v → RVs K H0 (upd H p (.dK k2)) P d v
  | _, _, .nil => .nil
  | _, _, .cons a r => .cons (RV.dk hp a) (RVs.dk hp r)
end
theorem SR.dk {N : Addr → Prop} {env : En} {σ : L2.St} {H : Hp} {p : Addr} {k1 k2 : List (L2.Key × V)} (s : SR g N env σ H) (hp : H p = some (.dK k1)) (h0 : g.H0 p = none) : SR g N env σ (upd H p (.dK k2)) := by
  have ne : ∀ {b : Addr} {o : HO}, H b = some o → (∀ k, o ≠ .dK k) → upd H p (.dK k2) b = some o := fun {b o} e n => by
    rw [upd_ne fun z => by rw [z, hp] at e; exact n _ (Option.some.inj e).symm]; exact e
  refine ⟨s.len, fun i d e => ?_, fun i nw xs e => ?_, fun i xs e => ?_, fun i t xs e => ?_, s.inj, fun b o e n => ?_, fun b n => ?_, fun b n => ?_⟩
  · obtain ⟨v, e1, r⟩ := s.val i d e
    exact ⟨v, e1, r.dk hp⟩
  · obtain ⟨a, vs, e1, e2, r, q⟩ := s.own i nw xs e
    exact ⟨a, vs, e1, ne e2 (fun _ z => by cases z), r.dk hp, q⟩
  · obtain ⟨a, vs, e1, e2, r, q⟩ := s.io i xs e
    exact ⟨a, vs, e1, ne e2 (fun _ z => by cases z), r.dk hp, q⟩
  · obtain ⟨a, vs, e1, e2⟩ := s.brw i t xs e
    refine ⟨a, vs, e1, e2.imp id fun ⟨q1, q2, q3, q4⟩ => ⟨?_, q2, q3.dk hp, fun z => ne (q4 z) fun _ z => by cases z⟩⟩
    rcases q1 with q1 | ⟨o, q1⟩
    · exact .inl (ne q1 fun _ z => by cases z)
    · exact .inr ⟨o, ne q1 fun _ z => by cases z⟩
  · rw [upd_ne fun z => by rw [z, h0] at e; cases e]
    exact s.keep b o e n
  · by_cases z : b = p
    · rw [z, upd_same]; simp
    · rw [upd_ne z]; exact s.dom b n
  · by_cases z : b = p
    · rw [z, upd_same]; simp
    · rw [upd_ne z]; exact s.nst b n
/-! methods that change nothing -/
theorem RVs.strs {K : PySem.W.Frag} {H0 H : Hp} {P : Addr → Prop} : ∀ {ns : List Str} {vs : List V}, RVs K H0 H P (ns.map .str) vs → vs = ns.map .str
  | [], _, h => by cases h; rfl
  | n :: ns, _, h => by
    cases h with
    | cons a r =>
      cases a
      rw [RVs.strs r]
      rfl
theorem RVs.ofStrs {K : PySem.W.Frag} {H0 H : Hp} {P : Addr → Prop} : ∀ (ns : List Str), RVs K H0 H P (ns.map .str) (ns.map .str)
  | [] => .nil
  | n :: ns => .cons (.str n) (RVs.ofStrs ns)
theorem strs?_map : ∀ {xs : List AV} {ns : List Str}, strs? xs = some ns → xs = ns.map .str
  | [], ns, h => by cases h; rfl
  | x :: r, ns, h => by
    cases x <;> first
      | cases h; done
      | skip
    rename_i y
    unfold strs? at h
    cases e : strs? r with
    | none => rw [e] at h; cases h
    | some ms =>
      rw [e] at h
      cases h
      rw [strs?_map e]
      rfl
def pmT : Pmt → String
  | .ixL => "list" | .ixG => "tuple" | .spl => "str" | .joi => "str"
def pmV : Pmt → String
  | .ixL => "list.index" | .ixG => "tuple.index" | .spl => "str.split" | .joi => "str.join"
def hdR (r : V → List V → Hp → VK → Prop) : List V → Hp → VK → Prop := fun vs H Q => match vs with
  | v :: us => r v us H Q
  | [] => False
def rIxT (K : PySem.W.Frag) : V → List V → Hp → VK → Prop := fun x xs H Q => ∃ (a : Addr) (ns : List Int) (k : Int), x = .ref a ∧ xs = [.int k] ∧ SqT K H a (ns.map V.int) ∧ k ∈ ns ∧ Q (.int (ns.idxOf k : Nat)) H
theorem mt_ixT : MtR X "tuple.index" (rIxT X.K) := by
  intro pins s σ H x xs v us Q I rx rs h
  obtain ⟨a, ns, k, rfl, rfl, hq, hk, q⟩ := h
  cases rx
  obtain ⟨u, rfl, t, rfl⟩ := vals1 rs
  obtain ⟨its, r, pl, hz⟩ := I.tuple hq
  exact PySem.SeqAt.tuple_index_ints pl (vals_ii r) hk ⟨.int (ns.idxOf k : Nat), H, I.tok _, ⟨_, rfl⟩, q⟩
def rIxLL (K : PySem.W.Frag) : V → List V → Hp → VK → Prop := fun x xs H Q => ∃ (a : Addr) (ns : List Int) (k : Int), x = .ref a ∧ xs = [.int k] ∧ SqL K H a (ns.map V.int) ∧ ns.length ≤ sizeLine ∧ k ∈ ns ∧ Q (.int (ns.idxOf k : Nat)) H
theorem mt_ixLL : MtR X "list.index" (rIxLL X.K) := by
  intro pins s σ H x xs v us Q I rx rs h
  obtain ⟨a, ns, k, rfl, rfl, hq, hl, hk, q⟩ := h
  cases rx
  obtain ⟨u, rfl, t, rfl⟩ := vals1 rs
  obtain ⟨its, r, pl, hz⟩ := I.list hq
  exact PySem.SeqAt.list_index_ints pl.isList (vals_ii r) hl hk ⟨.int (ns.idxOf k : Nat), H, I.tok _, ⟨_, rfl⟩, q⟩
theorem pm_ok (hK : X.K = g.K) (m : Pmt) : ∃ r, MtR X (pmV m) r ∧ OpS g (pmO m) (hdR r) := by
  cases m
  · refine ⟨_, mt_ixLL, fun F N0 env σ H ds vs d Q hF h e q => ?_⟩
    unfold pmO at e
    split at e <;> first
      | cases e; done
      | skip
    all_goals first
      | (rename_i z; cases z; done)
      | skip
    rename_i x k _
    split at e
    · rename_i xs e1
      split at e
      · rename_i ns e2
        split at e
        · rename_i hc
          cases e
          obtain ⟨v, w, rfl⟩ := h.vs2
          obtain ⟨a, ws, rfl, h1, h2⟩ := HeadOk.list h.1 h.2.sr e1
          rw [ints?_map e2] at h2
          rw [h2.ints] at h1
          rw [← hK] at h1
          simp only [Bool.and_eq_true, decide_eq_true_eq] at hc
          rw [hd_int h.2.1]
          exact ⟨a, ns, k, rfl, rfl, h1, lenOk_le hc.2, hc.1, q H _ Stp.refl ⟨.int _, h.sr⟩⟩
        · cases e
      · cases e
    · cases e
  · refine ⟨_, mt_ixT, fun F N0 env σ H ds vs d Q hF h e q => ?_⟩
    unfold pmO at e
    split at e <;> first
      | cases e; done
      | skip
    all_goals first
      | (rename_i z; cases z; done)
      | skip
    rename_i xs k _
    split at e
    · rename_i ns e2
      split at e
      · rename_i hc
        cases e
        obtain ⟨v, w, rfl⟩ := h.vs2
        obtain ⟨a, ws, rfl, h1, h2⟩ := hd_tup h.1
        rw [ints?_map e2] at h2
        rw [h2.ints] at h1
        rw [← hK] at h1
        rw [hd_int h.2.1]
        exact ⟨a, ns, k, rfl, rfl, h1, of_decide_eq_true hc, q H _ Stp.refl ⟨.int _, h.sr⟩⟩
      · cases e
    · cases e
  · refine ⟨_, mt_split, fun F N0 env σ H ds vs d Q hF h e q => ?_⟩
    unfold pmO at e
    split at e <;> first
      | cases e; done
      | skip
    all_goals first
      | (rename_i z; cases z; done)
      | skip
    rename_i a b _
    split at e
    · rename_i hc
      cases e
      obtain ⟨v, w, rfl⟩ := h.vs2
      simp only [Bool.and_eq_true, Bool.not_eq_true', decide_eq_true_eq] at hc
      rw [hd_str h.1, hd_str h.2.1]
      exact ⟨a, b, rfl, rfl, hc.1, hc.2, fun p hp => q _ _ (stp_upd h.sr hp) (post_new hF h.sr (RVs.ofStrs _) hp)⟩
    · cases e
  · refine ⟨_, mt_join, fun F N0 env σ H ds vs d Q hF h e q => ?_⟩
    unfold pmO at e
    split at e <;> first
      | cases e; done
      | skip
    all_goals first
      | (rename_i z; cases z; done)
      | skip
    rename_i a y _
    split at e
    · rename_i ys e1
      split at e
      · rename_i zs e2
        split at e
        · rename_i hc
          cases e
          obtain ⟨v, w, rfl⟩ := h.vs2
          obtain ⟨p, ws, rfl, h1, h2⟩ := HeadOk.seq h.2.1 h.2.2 e1
          rw [strs?_map e2] at h2
          rw [h2.strs] at h1
          rw [← hK] at h1
          rw [hd_str h.1]
          exact ⟨a, p, zs, rfl, rfl, h1, of_decide_eq_true hc, q H _ Stp.refl ⟨.str _, h.sr⟩⟩
        · cases e
      · cases e
    · cases e
theorem ihe_pm {m : Pmt} {a : Ex} {es : Exs} (ia : IHE N T g cl G a) (is : IHEs N T g cl G es) : IHE N T g cl G (.pm m a es) := by
  intro sc fs W X x ok h
  cases x <;> first
    | exact no_ h
    | skip
  rename_i fn xs ks pos
  cases fn <;> first
    | exact no_ h
    | skip
  rename_i ob nm apos
  cases ks with
  | cons _ _ => exact no_ h
  | nil =>
    have h : (recB ob && !starB ob && pmgB m a && decide (pmN m = nm) && decide (apos.endLine = pos.line) && decide (exsLen es = pmA m) && mE N T a sc ob && mEs N T es sc xs) = true := h
    simp only [Bool.and_eq_true, decide_eq_true_eq, Bool.not_eq_true'] at h
    obtain ⟨⟨⟨⟨⟨⟨⟨h0, h7⟩, h8⟩, rfl⟩, h3⟩, h4⟩, h5⟩, h6⟩ := h
    obtain ⟨r, k1, k2⟩ := pm_ok (X := X) ok.hK m
    have hln : (apos.endLine == pos.line) = true := by rw [h3]; exact beq_self_eq_true _
    have hlen := mEs_len h6
    have rest : ∀ {N0 : Addr → Prop} {env env1 : En} {σ : L2.St} {H H1 : Hp} {Q : VK} {d : AV} {v : V}, Stp All env σ H env1 σ H1 → Posts g (Fr env σ H) env1 σ H1 N0 [d] [v] →
        wpR (if pmK m env1 d then bnd (evs G es env1) fun ds e2 => lift (pmO m) (d :: ds) e2 else none) (fun d e => ∀ H' v, Stp All env σ H e σ H' → Posts g (Fr env σ H) e σ H' N0 [d] [v] → Q v H') (fun c e => ∀ H' (dd : Unit), Stp All env σ H e σ H' → SR g N0 e σ H' → W (cl c) none σ H') →
        pmK m env1 d = true ∧ tA g W cl (evs G es) σ H1 fun us H2 => r v us H2 Q := by
      intro N0 env env1 σ H H1 Q d v t1 p1 w
      split at w
      · rename_i hk
        refine ⟨hk, nxN N0 d v, env1, p1.2, wpR_mono (wpR_bnd w) (fun ds env2 w H2 us t2 p2 => ?_) fun c e w H' dd t s' => w H' dd (t1.trans t) (SR.drop p1.sr t s' fun _ => nxN_sub)⟩
        obtain ⟨y, e, w⟩ := wpR_lift w
        exact k2 _ N0 env2 σ H2 (d :: ds) (v :: us) y Q (Fr.sub1 (t1.trans t2)) (p1.cons t2 p2 (Fr.sub t1)) e fun H3 u t3 p3 => w H3 u ((t1.trans t2).trans t3) p3
      · exact w.elim
    have obj : ∃ to, PE X ob to ∧ ∀ σ H Q, tE g W cl (ev G (.pm m a es)) σ H Q → to σ H fun v H1 => tyV X.K (pmT m) v H1 ∧ tA g W cl (evs G es) σ H1 fun us H2 => r v us H2 Q := by
      by_cases hm : m = .ixG
      · subst hm
        cases a <;> first
          | cases h8; done
          | skip
        rename_i y d
        cases ob <;> first
          | exact no_ h5
          | skip
        rename_i z p
        by_cases hd : ∃ xs, d = .tup xs
        case neg =>
          refine ⟨_, (ia ok h5).1, fun σ H Q q => ?_⟩
          obtain ⟨N0, env, s, w⟩ := q
          refine ⟨N0, env, s, fun H1 v t1 p1 => ?_⟩
          have hk := (rest t1 p1 w).1
          cases d <;> first
            | cases hk; done
            | exact absurd ⟨_, rfl⟩ hd
        obtain ⟨xs, rfl⟩ := hd
        have h5 : (decide (y = z) && glB sc z && giB T y (.tup xs)) = true := h5
        simp only [Bool.and_eq_true, decide_eq_true_eq] at h5
        obtain ⟨⟨rfl, h9⟩, h10⟩ := h5
        obtain ⟨g1, g2, g3⟩ := ok.gl h9
        obtain ⟨ns, b, e0, e1, e2⟩ := gl_tup ok h10
        refine ⟨_, pe_glob (v := .ref b) g1 e1 rfl g2, fun σ H Q q => ?_⟩
        obtain ⟨N0, env, s, w⟩ := q
        have w : wpR (if pmK .ixG env (.tup xs) then bnd (evs G es env) fun ds e2 => lift (pmO .ixG) (.tup xs :: ds) e2 else none) _ _ := w
        have rv : RV g.K g.H0 H (Pv N0 env σ) (.tup xs) (.ref b) := .tup (by rw [← ok.hK]; exact (e2 H).1) (by rw [ints?_map e0]; exact RVs.ofInts ns)
        exact ⟨(e2 H).2, (rest Stp.refl (post_sto s rv) w).2⟩
      · refine ⟨_, (ia ok h5).1, fun σ H Q q => ?_⟩
        obtain ⟨N0, env, s, w⟩ := q
        unfold ev at w
        refine ⟨N0, env, s, wpR_mono (wpR_bnd w) (fun d env1 w H1 v t1 p1 => ?_) fun _ _ w => w⟩
        obtain ⟨hk, q⟩ := rest t1 p1 w
        refine ⟨?_, q⟩
        cases m with
        | ixL =>
          have hk : (asL env1 d).isSome = true := hk
          obtain ⟨xs, e⟩ := Option.isSome_iff_exists.mp hk
          obtain ⟨b, ws, rfl, h1, _⟩ := p1.list e
          rw [← ok.hK] at h1
          exact .inl ⟨rfl, ws, h1⟩
        | spl =>
          cases d <;> first
            | cases hk; done
            | (rw [hd_str p1.1]; rfl)
        | joi =>
          cases d <;> first
            | cases hk; done
            | (rw [hd_str p1.1]; rfl)
        | ixG => exact absurd rfl hm
    obtain ⟨to, pt, kk⟩ := obj
    have base : attributeBase ob (pmN m) X.env (eval ob X.env) = eval ob X.env := by
      cases ob <;> first
        | rfl
        | cases h0
    refine pb_val ?_ fun _ _ => rfl
    cases xs with
    | nil =>
      have h6 := mEs_len h6
      rw [h4] at h6
      cases m <;> simp [pmA] at h6
    | cons e xs =>
      have hs : starB e = false ∧ (backTo pos (starEach xs X.env)).any (·.1) = false := by
        cases es with
        | nil => exact no_ h6
        | cons e' es' =>
          have h6 : (!starB e && mE N T e' sc e && mEs N T es' sc xs) = true := h6
          simp only [Bool.and_eq_true, Bool.not_eq_true'] at h6
          exact ⟨h6.1.1, mEs_star h6.2⟩
      have few : (e :: xs).length < 30 := by
        rw [hlen, h4]
        cases m <;> decide
      have few2 : ((backTo pos (starEach (e :: xs) X.env)).all (fun x => !x.1) && (backToKw pos (keywordEach [] X.env)).all (fun x => x.1.isSome) && decide ((e :: xs).length + ([] : List Keyword).length + (if ([] : List Keyword).isEmpty then 0 else 1) < 30)) = true := by
        rw [mEs_all h6]
        simp only [Bool.true_and]
        have : (backToKw pos (keywordEach [] X.env)).all (fun x => x.1.isSome) = true := rfl
        rw [this]
        simpa using few
      cases m with
      | ixL => exact RX.PE.weak (pe_bm PySem.F.plainAttrs_list PySem.F.slot_list_index PySem.F.type_list_index k1 pt (is ok h6).1 base few2 hln (star_cons hs.1) hs.2) fun σ H Q q => kk σ H Q q
      | ixG => exact RX.PE.weak (pe_bm PySem.F.plainAttrs_tuple PySem.F.slot_tuple_index PySem.F.type_tuple_index k1 pt (is ok h6).1 base few2 hln (star_cons hs.1) hs.2) fun σ H Q q => kk σ H Q q
      | spl => exact RX.PE.weak (pe_bm PySem.F.plainAttrs_str PySem.F.slot_str_split PySem.F.type_str_split k1 pt (is ok h6).1 base few2 hln (star_cons hs.1) hs.2) fun σ H Q q => kk σ H Q q
      | joi => exact RX.PE.weak (pe_bm PySem.F.plainAttrs_str PySem.F.slot_str_join PySem.F.type_str_join k1 pt (is ok h6).1 base few2 hln (star_cons hs.1) hs.2) fun σ H Q q => kk σ H Q q
/-! isinstance, a tuple of built-in types -/
theorem tys_names (ok : XOk N T g cl G sc fs W X) : ∀ {ns : List String} {es : List Expr}, tysB sc ns es = true → PA X es (tCs (ns.map V.ty)) ∧ Paired ClsV (ns.map V.ty) (ns.map Value.type) ∧ es.length = ns.length
  | [], [], _ => ⟨pa_nil, .nil, rfl⟩
  | [], _ :: _, h => no_ h
  | _ :: _, [], h => no_ h
  | n :: ns, e :: es, h => by
    cases e <;> first
      | exact no_ h
      | skip
    rename_i y p
    have h : (tyOk y n && glB sc y && tysB sc ns es) = true := h
    simp only [Bool.and_eq_true] at h
    obtain ⟨h1, h2, h3⟩ := tys_names ok h.2
    exact ⟨pa_cons (ty_name ok h.1.1 h.1.2) h1 rfl, .cons (.ty n) h2, by simp [h3]⟩
theorem kit_any {K : PySem.W.Frag} {t : String} (ht : t ∈ tyNames) : ∀ {ns : List String}, ns.all tyAsk.contains = true → PySem.W.kitAny K (.type t) (ns.map Value.type) = some (ns.any fun n => isiB t n)
  | [], _ => rfl
  | n :: ns, h => by
    simp only [List.all_cons, Bool.and_eq_true] at h
    have ih := kit_any (K := K) ht h.2
    refine kitAny_cons (isi_kit ht (by simpa using h.1)) (fun z => ?_) fun z => ?_
    · rw [ih, List.any_cons, z]; rfl
    · rw [List.any_cons, z]; rfl
theorem ihe_ist {a : Ex} {ns : List String} (ia : IHE N T g cl G a) : IHE N T g cl G (.ist a ns) := by
  intro sc fs W X x ok h
  unfold mE at h
  split at h
  case h_2 => exact no_ h
  rename_i y es hy
  obtain ⟨p, kk, p2, pos, rfl⟩ := istB_ok hy
  simp only [Bool.and_eq_true, Bool.not_eq_true', decide_eq_true_eq] at h
  obtain ⟨⟨⟨⟨h1, h2⟩, h3⟩, h4⟩, h5⟩ := h
  obtain ⟨g1, g2, g3⟩ := ok.gl h1
  have hm : X.mg (Str.ofString "isinstance") = none := ok.blt _ (by decide +kernel)
  obtain ⟨pa, pr, ln⟩ := tys_names ok h4
  refine pb_val (RX.PE.weak (pe_callB call_isiT g1 hm (bi_boot .isi) (pa_cons (ia ok h3).1 (pa_cons (pe_tup pa) pa_nil rfl) (star_cons h2)) g3 g2 (star_cons h2) rfl) fun σ H Q q => ?_) fun _ _ => rfl
  obtain ⟨N0, env, s, w⟩ := q
  unfold ev at w
  refine ⟨N0, env, s, wpR_mono (wpR_bnd w) (fun d env1 w H1 v t1 p1 => ?_) fun _ _ w => w⟩
  refine tCs_ok ⟨by rw [List.length_map, ← ln]; exact Nat.le_trans h5 (by decide : 20 ≤ sizeLine), fun p' hp => ?_⟩
  obtain ⟨s2, t2⟩ := p1.2.new (o := .tup (ns.map V.ty)) hp
  have p2 := p1.moved t2 s2
  obtain ⟨dd, e, w⟩ := wpR_lift w
  unfold oIst at e
  simp only at e
  split at e
  · rename_i t et
    split at e
    · rename_i hn
      cases e
      obtain ⟨ty, mem⟩ := p2.1.tyX p2.2 et
      rw [← ok.hK] at ty
      exact ⟨v, p', _, _, _, _, rfl, upd_same, pr, ty, kit_any mem hn, w _ _ (t1.trans t2) ⟨.bl _, p2.sr⟩⟩
    · cases e
  · cases e
theorem ihe_emd : IHE N T g cl G .emd := by
  intro sc fs W X x ok h
  cases x <;> first
    | exact no_ h
    | skip
  rename_i ks vs pos
  match ks, vs, h with
  | [], [], h =>
    refine pb_val (RX.PE.weak pe_dnewK fun σ H Q q => ?_) fun _ _ => rfl
    obtain ⟨N0, env, s, w⟩ := q
    have w : ∀ H' v, Stp All env σ H env σ H' → Posts g (Fr env σ H) env σ H' N0 [.dcx] [v] → Q v H' := w
    exact fun p hp => w _ _ (stp_upd s hp) (post_plain (s.new hp).1 (.dcx upd_same))
  | [], _ :: _, h => exact no_ h
  | _ :: _, [], h => (rename_i k ks; cases k <;> cases ks <;> exact no_ h)
  | _ :: _, _ :: _, h => (rename_i k ks v vs; cases k <;> cases ks <;> cases vs <;> exact no_ h)
theorem key_kV {K : PySem.W.Frag} {H0 H : Hp} {P : Addr → Prop} {d : AV} {v : V} (r : RV K H0 H P d v) (h : keyA d = true) : ∃ k : L2.Key, v = kV k := by
  cases r <;> first
    | cases h; done
    | exact ⟨.inl _, rfl⟩
    | exact ⟨.inr _, rfl⟩
theorem ihe_dc1 {k v : Ex} (ik : IHE N T g cl G k) (iv : IHE N T g cl G v) : IHE N T g cl G (.dc1 k v) := by
  intro sc fs W X x ok h
  cases x <;> first
    | exact no_ h
    | skip
  rename_i ks vs pos
  match ks, vs, h with
  | [some kx], [vx], h =>
    have h : (mE N T k sc kx && mE N T v sc vx) = true := h
    simp only [Bool.and_eq_true] at h
    refine pb_val (RX.PE.weak (pe_disp (pps_cons (ik ok h.1).1 (iv ok h.2).1 pps_nil) rfl rfl (fun z => by cases z) (by show 1 ≤ 15; decide)) fun σ H Q q => ?_) fun _ _ => rfl
    obtain ⟨N0, env, s, w⟩ := q
    unfold ev at w
    intro p hp
    obtain ⟨s1, t1⟩ := s.new (o := .dK []) hp
    refine ⟨N0, env, s1, wpR_mono (wpR_bnd w) (fun d env1 w H1 u t2 p2 => ?_) fun c e w H' dd t s' => w H' dd (t1.trans t) s'⟩
    split at w
    · rename_i hk
      have rv : ∃ kk : L2.Key, u = kV kk := by
        cases d <;> first
          | cases hk; done
          | exact key_kV p2.1 hk
      obtain ⟨kk, rfl⟩ := rv
      have s2 := p2.sr
      have t12 := t1.trans t2
      refine ⟨N0, env1, s2, wpR_mono (wpR_bnd w) (fun d2 env2 w H2 u2 t3 p3 => ?_) fun c e w H' dd t s' => w H' dd (t12.trans t) s'⟩
      split at w
      · have t13 := t12.trans t3
        have at_ : H2 p = some (.dK []) := by
          have e1 : H1 p = some (.dK []) := t2.ext p _ upd_same trivial fun z => by
            obtain ⟨⟨vs, q⟩, _⟩ := s1.pmLst z
            rw [upd_same] at q
            cases q
          refine t3.ext p _ e1 trivial fun z => ?_
          obtain ⟨⟨vs, q⟩, _⟩ := s2.pmLst z
          rw [e1] at q
          cases q
        have h0 : g.H0 p = none := by
          cases z : g.H0 p with
          | none => rfl
          | some o => exact absurd hp (s.dom p (by rw [z]; simp))
        have s4 := SR.dk p3.sr at_ h0 (k2 := mergeK [] [(kk, u2)])
        refine ⟨at_, [(kk, u2)], rfl, by show 1 ≤ 15; decide, w _ _ ⟨fun b o e a n => ?_, t13.grow, fun b n => ?_, t13.fixB, t13.fixI, t13.noB⟩ (post_plain s4 (.dcx upd_same))⟩
        · rw [upd_ne (ne_of_none e hp)]
          exact t13.ext b o e a n
        · by_cases z : b = p
          · rw [z, upd_same]; simp
          · rw [upd_ne z]; exact t13.dom b n
      · exact w.elim
    · exact w.elim
  | [], _, h => exact no_ h
  | [none], _, h => exact no_ h
  | [some _], [], h => exact no_ h
  | [some _], _ :: _ :: _, h => exact no_ h
  | none :: _ :: _, _, h => exact no_ h
  | some _ :: _ :: _, _, h => exact no_ h
/-! ### all -/
mutual
theorem ev_ok : ∀ (e : Ex), IHE N T g cl G e
  | .var i => ihe_var i
  | .mv i => ihe_mv i
  | .fz i => ihe_fz i
  | .int i => ihe_int i
  | .bl b => ihe_bl b
  | .str x => ihe_str x
  | .non => ihe_non
  | .nul => ihe_nul
  | .ty x n => ihe_ty x n
  | .gl x d => ihe_gl
  | .bin o a b => ihe_bin (ev_ok a) (ev_ok b)
  | .neg a => ihe_neg (ev_ok a)
  | .cmp o a b => ihe_cmp (ev_ok a) (ev_ok b)
  | .chain o p a b c => ihe_chain (ev_ok a) (ev_ok b) (ev_ok c)
  | .and es => ihe_and (evs_ok es)
  | .or es => ihe_or (evs_ok es)
  | .not a => ihe_not (ev_ok a)
  | .ite c a b => ihe_ite (ev_ok c) (ev_ok a) (ev_ok b)
  | .tup es => ihe_tup (evs_ok es)
  | .lst es => ihe_lst (evs_ok es)
  | .ix a i => ihe_ix (ev_ok a) (ev_ok i)
  | .slc a lo hi => ihe_slc (ev_ok a) (ev_ok lo) (ev_ok hi)
  | .call f ms es => ihe_call (evs_ok es)
  | .bi b es => ihe_bi (evs_ok es)
  | .comp e own t it c => ihe_comp (ev_ok e) (evI_ok it) (ev_ok c)
  | .mth m i es => ihe_mth (evs_ok es)
  | .stv b e => ihe_stv (ev_ok e)
  | .rvs a => ihe_rvs (ev_ok a)
  | .lse a => ihe_lse (ev_ok a)
  | .isx a ts => ihe_isx (ev_ok a)
  | .fcl fs a ms es => ihe_fcl (ev_ok a) (evs_ok es)
  | .pm m a es => ihe_pm (ev_ok a) (evs_ok es)
  | .emd => ihe_emd
  | .dc1 k v => ihe_dc1 (ev_ok k) (ev_ok v)
  | .ist a ns => ihe_ist (ev_ok a)
theorem evs_ok : ∀ (es : Exs), IHEs N T g cl G es
  | .nil => ihes_nil
  | .cons e es => ihes_cons (ev_ok e) (evs_ok es)
theorem evI_ok : ∀ (it : It), IHI N T g cl G it
  | .seq e => ihi_seq (ev_ok e)
  | .rg es => ihi_rg (evs_ok es)
  | .rrg e => ihi_rrg (ev_ok e)
  | .zip a b => ihi_zip (ev_ok a) (ev_ok b)
  | .enum a => ihi_enum (ev_ok a)
  | .rev a => ihi_rev (ev_ok a)
end
end
end RX
/-! RX part sx: try .. except C as e: caught = e: the exception lies in the heap behind it. -/
namespace RX
open PySem PySem.Spec PyProof.Rows L2
/-- what the clause wishes: slot j is the clause's name, slot i keeps the exception -/
def wCat (K : PySem.W.Frag) (c : Value) (i j : Nat) (Wout : WX) (D : Ends) : WX := fun cls d σ H => ∃ b, PySem.W.exmOne K cls c = some b ∧
  (b = true → d = none ∧ ∃ C, cls = .ref C ∧ ∀ a, j < σ.length → H a = none → D.nx (((σ.set j (some (.ref a))).set i (some (.ref a))).set j none) (upd H a (exn a C))) ∧ (b = false → Wout cls d σ H)
section
variable {X : Cx} {pins : List (Addr × Obj)} {σ : L2.St} {H : Hp} {s : Shared}
/-- a pinned exception is laid into the abstract heap -/
theorem lay_exn {a C : Addr} {oe : Obj} {fv : Array Value} (J : Inv X ((a, oe) :: pins) σ H s) (hz : Zc (.ref C) none oe) (hd : oe.data = .fields fv) (new : ∀ o, X.s_0.heap.get? a = some o → a ∈ X.ex) (np : ∀ p ∈ X.pn ++ pins, p.1 ≠ a) :
    Inv X pins σ (upd H a (exn a C)) s := by
  have me : (a, oe) ∈ X.pn ++ (a, oe) :: pins := List.mem_append_right _ List.mem_cons_self
  obtain ⟨g1, g2, g3, g4, g5⟩ := J.pin _ me
  have other : ∀ {b : Addr} {o : HO}, H b = some o → upd H a (exn a C) b = some o := fun q => by rw [upd_ne (ne_of_none q g2)]; exact q
  have stays : ∀ {b : Addr}, b ≠ a → upd H a (exn a C) b = H b := fun q => upd_ne q
  have inst : PySem.W.InstAt s.heap a oe C none := by
    obtain ⟨oc, od, odat, osl⟩ := oe
    obtain ⟨z1, z2⟩ := hz
    dsimp only at z1 z2 hd
    subst z1 z2 hd
    exact ⟨g1, rfl, rfl, trivial⟩
  refine { ok := J.ok, os := J.os, bare := J.bare, loc := J.loc, cell := J.cell, len := J.len, base := ?_, free := ?_, freeC := ?_, pin := ?_, hok := ?_ }
  · obtain ⟨b1, b2, b3, b4, b5, b6, b7⟩ := J.base
    refine ⟨b1, b2, fun b o e n hx => ?_, b4, fun b xs q => ?_, fun b o u q => ?_, fun b ps q => ?_⟩
    · rw [stays fun z => hx (by rw [z]; exact new o (z ▸ e))]
      exact b3 b o e n hx
    · exact other (b5 b xs q)
    · exact other (b6 b o u q)
    · obtain ⟨m, e⟩ := b7 b ps q
      exact ⟨m, other e⟩
  · rw [stays (Ne.symm g3)]; exact J.free
  · intro z c e
    have : c ≠ a := fun q => by
      obtain ⟨v, o, ho, hv⟩ := J.cell z c e
      rw [q, g1] at ho
      cases ho
      exact g5 v hv
    rw [stays this]; exact J.freeC z c e
  · intro p hp
    have hp2 : p ∈ X.pn ++ (a, oe) :: pins := by
      rcases List.mem_append.mp hp with q | q
      · exact List.mem_append_left _ q
      · exact List.mem_append_right _ (List.mem_cons_of_mem _ q)
    obtain ⟨k1, k2, k3⟩ := J.pin p hp2
    exact ⟨k1, by rw [stays (np p hp)]; exact k2, k3⟩
  · intro b o q
    by_cases hb : b = a
    · subst hb
      rw [upd_same] at q
      cases q
      exact ⟨⟨oe, inst⟩, ⟨oe, g1⟩, fun h1 h2 ⟨o1, i1⟩ k => ⟨o1, k _ i1.1, i1.2, i1.3, by
        have q := i1.4
        cases e : o1.dict with
        | none => trivial
        | some dx => rw [e] at q; exact q.elim⟩⟩
    · rw [stays hb] at q
      exact (J.hok b o q).stay (fun _ _ _ r => r) (fun _ r => other r) fun _ _ r => other r
end
section
variable {X : Cx} {x n y : Str} {c : Value} {i j : Nat} {body : List Stmt} {np pos p' q1 q2 q3 : Pos} {tb : WX → TS} {Wout : WX}
theorem ps_try_cat (hst : X.stack = X.env :: X.outer) (hfr : X.env.frame = some X.env.locals) (nd : X.N.Nodup) (hj : X.N[j]? = some n) (kn : X.env.kindOf n = some .local) (hi : X.N[i]? = some y) (ky : X.env.kindOf y = some .local)
    (hd1 : (n == Str.ofString "__debug__") = false) (hd2 : (n == Str.ofString "__classdict__") = false) (hc : Names X x c) (tk : Takes X Wout)
    (hb : ∀ (W : WX) (pn : List (Addr × Obj)) (xe : Value → Shared → Prop), Takes (X.tr pn xe) W → PassesOwn (model X.prog X.w) X.A X.env xe → PSs (X.tr pn xe) body (tb W)) :
    PS X (.Try body [.ExceptHandler (some (.Name x np)) (some n) [.Assign [.Name y q1] (.Name n q2) q3] p'] [] [] pos) (fun D σ H => tb (wCat X.K c i j Wout D) D σ H) := by
  refine ⟨fun pins s σ H D I h => ?_⟩
  have ok := I.ok
  have frs_eq : X.A.frames = some (X.env :: X.outer) := ok.frames.trans (congrArg some hst)
  -- what the clause does with an exception
  obtain ⟨after, hafter⟩ : ∃ F : Value → Shared → Prop, F = fun u s1 => wpAny (model X.prog X.w) X.A (noteFrame u X.env)
      (fun _ s2 => wpAny (model X.prog X.w) X.A (setFlight u none) (fun _ s3 => wpAny (model X.prog X.w) X.A (handleBy u X.env [.ExceptHandler (some (.Name x np)) (some n) [.Assign [.Name y q1] (.Name n q2) q3] p']) (SP X pins D) X.xe s3) X.xe s2) X.xe s1 := ⟨_, rfl⟩
  have clause : ∀ (u : Value) (s1 : Shared), XE (X.tr (X.pn ++ pins) after) (wCat X.K c i j Wout D) u s1 → after u s1 := by
    rintro u s1 ⟨a, B, sR, ps, σ1, H1, cls, dd, rfl, JR, nb, up, sky, na, hos, hag, b, hm, yes, no⟩
    have J1 : Inv X pins σ1 H1 sR := JR.ofTry ok
    rw [hafter]
    have sky1 : Sky B (X.env :: X.outer) a (Zc cls dd) X.env.locals s1.heap := hst ▸ sky
    refine Sky.land Zc.steady frs_eq hfr sky1 fun hA flA upA => ?_
    obtain ⟨oA, vA, gA, zA, dA⟩ := flA.there
    have off : a ∉ frs (X.env :: X.outer) := fun hmem => by
      obtain ⟨_, o', e', nf⟩ := flA.2.2.1.mem hmem
      rw [gA] at e'
      cases e'
      exact nf _ dA
    have aL : a ≠ X.env.locals := fun z => off (List.mem_filterMap.mpr ⟨X.env, List.mem_cons_self, by rw [hfr, z]⟩)
    have aF : a ∉ X.fs := fun hmem => by
      obtain ⟨e, he, q⟩ := List.mem_filterMap.mp hmem
      exact off (List.mem_filterMap.mpr ⟨e, List.mem_cons_of_mem _ he, q⟩)
    have aN : ∀ o, sR.heap.get? a = some o → False := fun o e => by
      have k := nb a o e (by rw [hst]; exact off)
      rw [flA.2.1] at k
      cases k
    have KA : Inv X pins σ1 H1 { s1 with heap := hA } := J1.landed nb flA.1 (up.trans upA) hos hag
    have SA := KA.suite gA dA na aL aF
    have ask : PySem.W.Looks (model X.prog X.w) hA (excMatches (.ref a) c) b := PySem.W.exm_one KA.kIn (fun A Q E s k q => wpAny_typeOf_ref (k _ _ gA) (by rw [zA.1]; exact q)) hm
    refine wpAny_handleBy_cons (codeAny_handlers_test ?_) (by intro q; cases q)
    have named : ∀ {Q : Value → Shared → Prop} {E : Value → Shared → Prop}, Q c { s1 with heap := hA } → wpAny (model X.prog X.w) (X.A.mark (some (.ref a))) (eval (.Name x np) X.env) Q E { s1 with heap := hA } := fun {Q E} q => by
      rcases hc with ⟨k1, k2, k3 | ⟨k3, k4, k5⟩⟩
      · exact ld_glob (X := X.suite a ((a, oA) :: (X.pn ++ pins))) SA k1 k3 q k2
      · exact ld_blt (X := X.suite a ((a, oA) :: (X.pn ++ pins))) SA k1 k3 k4 q k5 k2
    refine named (ask.here ?_)
    cases b with
    | true =>
      obtain ⟨rfl, C, rfl, fin⟩ := yes rfl
      refine codeAny_handlers_suite_as (HandSPX.lands_againZ flA fun hB flB upB => ?_)
      obtain ⟨oB, vB, gB, zB, dB⟩ := flB.there
      have KB : Inv X pins σ1 H1 { s1 with heap := hB } := J1.landed nb flB.1 ((up.trans upA).trans upB) hos hag
      have SB := KB.suite gB dB na aL aF
      have jl : j < σ1.length := by rw [J1.len]; exact lt_of_get hj
      refine store_ok (X := X.suite a ((a, oB) :: (X.pn ++ pins))) (v := .ref a) SB nd hj (.inl kn) rfl (fun s5 S5 => ?_) (.inr kn)
      have asg : PSs (X.suite a ((a, oB) :: (X.pn ++ pins))) [.Assign [.Name y q1] (.Name n q2) q3] _ := pss_cons (ps_set (X := X.suite a ((a, oB) :: (X.pn ++ pins))) nd hi (.inl ky) (pe_var (i := j) hj (.inl kn) hd1 hd2) rfl (.inr ky)) pss_nil
      refine wpAny_mono (asg.run [] s5 _ H1 ⟨fun σ6 H6 => σ6 = (σ1.set j (some (.ref a))).set i (some (.ref a)) ∧ H6 = H1, fun _ _ => False, fun _ _ => False, fun _ _ => False⟩ S5 ⟨.ref a, by rw [List.getElem?_set_self jl], rfl, rfl⟩) (fun f s6 r6 => ?_) fun _ _ z => z.elim
      cases f with
      | brk => exact r6.elim fun _ q => q.elim fun _ q => q.2.elim
      | cont => exact r6.elim fun _ q => q.elim fun _ q => q.2.elim
      | ret v => exact r6.elim fun _ q => q.elim fun _ q => q.elim fun _ q => q.2.2.elim
      | next =>
        obtain ⟨σ6, H6, S6, rfl, rfl⟩ := r6
        have P6 : Inv X ((a, oB) :: pins) ((σ1.set j (some (.ref a))).set i (some (.ref a))) H6 s6 := ⟨ok, S6.os, S6.bare, S6.base, S6.loc, S6.cell, S6.free, S6.freeC, fun p hp => S6.pin p (by
          rw [List.append_nil]
          rcases List.mem_append.mp hp with q | q
          · exact List.mem_cons_of_mem _ (List.mem_append_left _ q)
          · rcases List.mem_cons.mp q with q | q
            · rw [q]; exact List.mem_cons_self
            · exact List.mem_cons_of_mem _ (List.mem_append_right _ q)), S6.hok, S6.len⟩
        refine gone_ok P6 nd hj kn fun s7 P7 => ⟨_, _, lay_exn P7 zB dB (fun o e => ?_) fun p hp z => ?_, fin a jl na⟩
        · refine Classical.byContradiction fun hx => ?_
          obtain ⟨o', e'⟩ := J1.base.there a o e hx
          exact aN o' e'
        · obtain ⟨e, _⟩ := J1.pin p hp
          rw [z] at e
          exact aN _ e
    | false =>
      refine wpAny_handleBy_nil ?_
      obtain ⟨k1, k2, k3, oe, vs, T, oT, tl, he, hz, hd, e1, er⟩ := id flA
      unfold PySem.passOn
      refine wpAny_bind (wpAny_field he hd e1 ?_)
      rw [if_neg (show ¬ ((Value.ref T == Value.none) = true) from by simp)]
      have onward : wpAny (model X.prog X.w) X.A (setFlight (.ref a) X.env.frame) (fun _ s4 => wpAny (model X.prog X.w) X.A (throw (.ref a) : Sem Flow) (SP X pins D) X.xe s4) X.xe { s1 with heap := hA } := by
        rw [hfr]
        exact HandSPX.setFlight_upZ flA fun hB heldB upB => wpAny_throw (tk _ _ ⟨a, B, sR, pins, σ1, H1, cls, dd, rfl, J1, nb, (up.trans upA).trans upB, .inr (.inr (hst ▸ heldB)), na, hos, hag, no rfl⟩)
      first
        | exact wpAny_bind (wpAny_pure (wpAny_bind onward))
        | exact wpAny_bind onward
  refine wpAny_Try_except (wpAny_mono ((hb _ (X.pn ++ pins) after clause (by rw [hafter]; exact PassesOwn.looking)).run [] s σ H D (I.toTry _) h) (fun f s1 r => ?_) fun _ _ z => by rw [hafter] at z; exact z)
  cases f with
  | next => exact r.elim fun σ1 q => q.elim fun H1 q => wpAny_execs_nil ⟨σ1, H1, q.1.ofTry ok, q.2⟩
  | brk => exact r.elim fun σ1 q => q.elim fun H1 q => ⟨σ1, H1, q.1.ofTry ok, q.2⟩
  | cont => exact r.elim fun σ1 q => q.elim fun H1 q => ⟨σ1, H1, q.1.ofTry ok, q.2⟩
  | ret w => exact r.elim fun v q => q.elim fun σ1 q => q.elim fun H1 q => ⟨v, σ1, H1, q.1.ofTry ok, q.2⟩
end
end RX
/-! RX part s: statements. -/
namespace RX
open PySem L2
/-- how a statement ends -/
inductive Fl where
  | nx | rt (d : AV) | bk | ct
def forL (t : Tg) (b : En → Option (R Fl)) : List AV → En → Option (R Fl)
  | [], env => some (.ok .nx env)
  | x :: xs, env => match asgT t x env with
    | none => none
    | some e1 => bnd (b e1) fun f e2 => match f with
      | .nx => forL t b xs e2
      | .ct => forL t b xs e2
      | .bk => some (.ok .nx e2)
      | .rt d => some (.ok (.rt d) e2)
def whlL (c : En → Option (R Bool)) (b : En → Option (R Fl)) : Nat → En → Option (R Fl)
  | 0, _ => none
  | n + 1, env => bnd (c env) fun t e1 => if t then bnd (b e1) fun f e2 => match f with
      | .nx => whlL c b n e2
      | .ct => whlL c b n e2
      | .bk => some (.ok .nx e2)
      | .rt d => some (.ok (.rt d) e2)
    else some (.ok .nx e1)
def mapE {α : Type} (f : En → En) (x : Option (R α)) : Option (R α) := match x with
  | none => none
  | some (.ok a e) => some (.ok a (f e))
  | some (.exc c e) => some (.exc c (f e))
def plB : AV → Bool
  | .frs _ => false
  | .sl _ => false
  | _ => true
/-- a handler: the exceptions that it takes -/
def trcK (ys : List Str) (f : En → Option (R Fl)) (x : Option (R Fl)) : Option (R Fl) := match x with
  | some (.exc d e) => if ys.contains d then f e else none
  | x => x
def stxE (i : Nat) (d kk : AV) (e2 : En) : Option (R Fl) := if mutB e2 i then match sto d, kk, slL e2 i with
  | some d', .int z, some xs => match ixN xs.length z with
    | some j => some (.ok .nx (updS e2 i (xs.set j d')))
    | none => none
  | _, _, _ => none else none
/-- two ints -/
def swI (x y : AV) (f : AV → AV → Option (R Fl)) : Option (R Fl) := match x, y with
  | .int u, .int v => f (.int u) (.int v)
  | _, _ => none
/-- a handler that keeps the exception in slot i (its own name is slot j) -/
def trAK (ys : List Str) (i j : Nat) (x : Option (R Fl)) : Option (R Fl) := match x with
  | some (.exc d e) => if ys.contains d && wipB e j && decide (i ≠ j) then match asgN i (.exo d) (wipeE e [j]) with
    | some e1 => some (.ok .nx e1)
    | none => none else none
  | x => x
mutual
def evS (G : Calls) : St → En → Option (R Fl)
  | .set i e, env => bnd (ev G e env) fun d e1 => match asgN i d e1 with
    | some e2 => some (.ok .nx e2)
    | none => none
  | .unp t e, env => bnd (ev G e env) fun d e1 => match asgT t d e1 with
    | some e2 => some (.ok .nx e2)
    | none => none
  | .par i j a b, env => bnd (ev G a env) fun x e1 => bnd (ev G b e1) fun y e2 => if plB x && plB y then match asgN i x e2 with
    | some e3 => match asgN j y e3 with
      | some e4 => some (.ok .nx e4)
      | none => none
    | none => none else none
  | .stx i k e, env => bnd (ev G e env) fun d e1 => if mutB e1 i then bnd (ev G k e1) fun kk e2 => stxE i d kk e2 else none
  | .exp e, env => bnd (ev G e env) fun _ e1 => some (.ok .nx e1)
  | .ret e, env => bnd (ev G e env) fun d e1 => some (.ok (.rt d) e1)
  | .retN, env => some (.ok (.rt .non) env)
  | .pass, env => some (.ok .nx env)
  | .brk, env => some (.ok .bk env)
  | .cont, env => some (.ok .ct env)
  | .rse c, env => some (.exc c env)
  | .trc b _ ys s, env => trcK ys (fun e => evS G s e) (evSs G b env)
  | .swp i k l a b, env => bnd (ev G a env) fun x e1 => bnd (ev G b e1) fun y e2 => swI x y fun u v =>
      if mutB e2 i then bnd (ev G k e2) fun kk e3 => bnd (stxE i u kk e3) fun _ e4 => if mutB e4 i then bnd (ev G l e4) fun ll e5 => stxE i v ll e5 else none else none
  | .trA b _ ys i j, env => trAK ys i j (evSs G b env)
  | .ifs c a b, env => bnd (bnd (ev G c env) asB) fun t e1 => if t then evSs G a e1 else evSs G b e1
  | .whl n c b, env => whlL (fun e => bnd (ev G c e) asB) (evSs G b) n env
  | .for_ t it b, env => bnd (evI G it env) fun s e1 => mapE (fun e2 => unlockE e1 e2 s.lk) (forL t (evSs G b) s.xs (lockE e1 s.lk))
def evSs (G : Calls) : Sts → En → Option (R Fl)
  | .nil, env => some (.ok .nx env)
  | .cons s ss, env => bnd (evS G s env) fun f e1 => match f with
    | .nx => evSs G ss e1
    | f => some (.ok f e1)
  | .wip is ss, env => if is.all (wipB env) then evSs G ss (wipeE env is) else none
end
/-! ### the reading -/
/-- what is wanted of an end -/
def FlD (g : Gh) (N : Addr → Prop) (env : En) (σ : L2.St) (H : Hp) (D : Ends) (f : Fl) (env' : En) : Prop := match f with
  | .nx => ∀ σ' H', Stp All env σ H env' σ' H' → SR g N env' σ' H' → D.nx σ' H'
  | .rt d => ∀ σ' H' v, Stp All env σ H env' σ' H' → Posts g (Fr env σ H) env' σ' H' N [d] [v] → D.rt v H'
  | .bk => ∀ σ' H', Stp All env σ H env' σ' H' → SR g N env' σ' H' → D.bk σ' H'
  | .ct => ∀ σ' H', Stp All env σ H env' σ' H' → SR g N env' σ' H' → D.ct σ' H'
def FlX (g : Gh) (W : WX) (cl : Str → Value) (N : Addr → Prop) (env : En) (σ : L2.St) (H : Hp) (c : Str) (env' : En) : Prop := ∀ σ' H' (dd : Unit), Stp All env σ H env' σ' H' → SR g N env' σ' H' → W (cl c) none σ' H'
def tS (g : Gh) (W : WX) (cl : Str → Value) (r : En → Option (R Fl)) : TS := fun D σ H => ∃ N env, SR g N env σ H ∧ wpR (r env) (FlD g N env σ H D) (FlX g W cl N env σ H)
section
variable {g : Gh} {W : WX} {cl : Str → Value} {G : Calls} {N N' : Addr → Prop} {env env1 env2 : En} {σ σ1 σ2 : L2.St} {H H1 H2 : Hp} {D : Ends} {f : Fl}
theorem FlD.trans (t : Stp All env σ H env1 σ1 H1) (h : FlD g N env σ H D f env2) : FlD g N env1 σ1 H1 D f env2 := by
  cases f with
  | nx => exact fun σ' H' t' s => h σ' H' (t.trans t') s
  | bk => exact fun σ' H' t' s => h σ' H' (t.trans t') s
  | ct => exact fun σ' H' t' s => h σ' H' (t.trans t') s
  | rt d => exact fun σ' H' v t' p => h σ' H' v (t.trans t') (p.monoF (Fr.sub t))
theorem FlX.trans {c : Str} (t : Stp All env σ H env1 σ1 H1) (h : FlX g W cl N env σ H c env2) : FlX g W cl N env1 σ1 H1 c env2 := fun σ' H' dd t' s => h σ' H' dd (t.trans t') s
/-- from a later state -/
theorem tS_from {r : En → Option (R Fl)} (t : Stp All env σ H env1 σ1 H1) (s : SR g N env1 σ1 H1) (h : wpR (r env1) (FlD g N env σ H D) (FlX g W cl N env σ H)) : tS g W cl r D σ1 H1 :=
  ⟨N, env1, s, wpR_mono h (fun _ _ h => h.trans t) fun _ _ h => FlX.trans t h⟩
theorem tS_nil {D : Ends} (h : tS g W cl (evSs G .nil) D σ H) : tNext D σ H := by
  obtain ⟨N, env, s, h⟩ := h
  have h : FlD g N env σ H D .nx env := h
  exact h σ H Stp.refl s
theorem tS_cons {s : St} {ss : Sts} {D : Ends} (h : tS g W cl (evSs G (.cons s ss)) D σ H) : tSeq (tS g W cl (evS G s)) (tS g W cl (evSs G ss)) D σ H := by
  obtain ⟨N, env, s0, h⟩ := h
  unfold evSs at h
  refine ⟨N, env, s0, wpR_mono (wpR_bnd h) (fun f env1 h => ?_) fun _ _ h => h⟩
  cases f with
  | nx =>
    have h : wpR (evSs G ss env1) (FlD g N env σ H D) (FlX g W cl N env σ H) := h
    exact fun σ1 H1 t1 s1 => tS_from t1 s1 h
  | rt d => exact h
  | bk => exact h
  | ct => exact h
/-- slots forgotten -/
theorem forget {is : List Nat} (s : SR g N env σ H) (hw : is.all (wipB env) = true) : SR g N (wipeE env is) σ H ∧ Stp All env σ H (wipeE env is) σ H := by
  rw [List.all_eq_true] at hw
  have st : Stab (Pv N env σ) H H := fun _ _ h _ => h
  have pm : ∀ {b : Addr}, Pm (wipeE env is) σ b → Pm env σ b := fun {b} ⟨j, ⟨sl, k1, k2⟩, k3⟩ => ⟨j, ⟨sl, (wipeE_in k1).2, k2⟩, k3⟩
  have hP : ∀ b, Pv N (wipeE env is) σ b → H b ≠ none → Pv N env σ b := fun b h _ => h.imp id pm
  refine ⟨⟨by rw [wipeE_len]; exact s.len, fun j d e => ?_, fun j nw xs e => ?_, fun j xs e => ?_, fun j t xs e => ?_, fun i j b hi hj ei ej => ?_, s.keep, s.dom, s.nst⟩, ⟨fun _ _ h _ _ => h, fun b h => .inl (pm h), fun _ h => h, fun j t xs e => ?_, fun j xs e => ?_, fun j t xs e => (wipeE_in e).2⟩⟩
  · obtain ⟨v, e1, r⟩ := s.val j d (wipeE_in e).2
    exact ⟨v, e1, r.mono st hP⟩
  · obtain ⟨a, vs, e1, e2, r, e3⟩ := s.own j nw xs (wipeE_in e).2
    exact ⟨a, vs, e1, e2, r.mono st hP, e3⟩
  · obtain ⟨a, vs, e1, e2, r, e3⟩ := s.io j xs (wipeE_in e).2
    exact ⟨a, vs, e1, e2, r.mono st hP, e3⟩
  · obtain ⟨a, vs, e1, e2⟩ := s.brw j t xs (wipeE_in e).2
    refine ⟨a, vs, e1, ?_⟩
    rcases e2 with e2 | ⟨e2, e3, r, e4⟩
    · exact .inl e2
    · exact .inr ⟨e2, e3, r.mono st hP, e4⟩
  · have up : ∀ {j : Nat}, IsMut (wipeE env is) j → IsMut env j := fun {j} ⟨sl, k1, k2⟩ => ⟨sl, (wipeE_in k1).2, k2⟩
    exact s.inj i j b (up hi) (up hj) ei ej
  · have hj : j ∉ is := fun z => by
      have := hw j z
      unfold wipB at this
      rw [e] at this
      cases this
    exact ⟨(wipeE_out hj).trans e, rfl⟩
  · have hj : j ∉ is := fun z => by
      have := hw j z
      unfold wipB at this
      rw [e] at this
      cases this
    exact ⟨⟨xs, (wipeE_out hj).trans e⟩, rfl⟩
theorem tS_wip {is : List Nat} {ss : Sts} {D : Ends} (h : tS g W cl (evSs G (.wip is ss)) D σ H) : tS g W cl (evSs G ss) D σ H := by
  obtain ⟨N, env, s0, h⟩ := h
  unfold evSs at h
  split at h
  · rename_i hw
    obtain ⟨s1, t1⟩ := forget s0 hw
    exact tS_from t1 s1 h
  · exact h.elim
theorem tS_ret {e : Ex} (h : tS g W cl (evS G (.ret e)) D σ H) : tRet (tE g W cl (ev G e)) D σ H := by
  obtain ⟨N, env, s0, h⟩ := h
  unfold evS at h
  refine ⟨N, env, s0, wpR_mono (wpR_bnd h) (fun d env1 h H1 v t1 p1 => ?_) fun c e h H' dd t s => h σ H' dd t s⟩
  have h : FlD g N env σ H D (.rt d) env1 := h
  exact h σ H1 v t1 p1
theorem tS_retN (h : tS g W cl (evS G .retN) D σ H) : tRetN D σ H := by
  obtain ⟨N, env, s0, h⟩ := h
  have h : FlD g N env σ H D (.rt .non) env := h
  exact h σ H _ Stp.refl ⟨.non, s0⟩
theorem tS_pass (h : tS g W cl (evS G .pass) D σ H) : tNext D σ H := by
  obtain ⟨N, env, s, h⟩ := h
  have h : FlD g N env σ H D .nx env := h
  exact h σ H Stp.refl s
theorem tS_brk (h : tS g W cl (evS G .brk) D σ H) : tBreak D σ H := by
  obtain ⟨N, env, s, h⟩ := h
  have h : FlD g N env σ H D .bk env := h
  exact h σ H Stp.refl s
theorem tS_cont (h : tS g W cl (evS G .cont) D σ H) : tCont D σ H := by
  obtain ⟨N, env, s, h⟩ := h
  have h : FlD g N env σ H D .ct env := h
  exact h σ H Stp.refl s
theorem tS_exp {e : Ex} (h : tS g W cl (evS G (.exp e)) D σ H) : tDrop (tE g W cl (ev G e)) D σ H := by
  obtain ⟨N, env, s0, h⟩ := h
  unfold evS at h
  refine ⟨N, env, s0, wpR_mono (wpR_bnd h) (fun d env1 h H1 v t1 p1 => ?_) fun c e h H' dd t s => h σ H' dd t s⟩
  have h : FlD g N env σ H D .nx env1 := h
  exact h σ H1 t1 p1.sr
theorem tS_set {i : Nat} {e : Ex} (h : tS g W cl (evS G (.set i e)) D σ H) : tAsg (tE g W cl (ev G e)) (gName i) D σ H := by
  obtain ⟨N, env, s0, h⟩ := h
  unfold evS at h
  refine ⟨N, env, s0, wpR_mono (wpR_bnd h) (fun d env1 h H1 v t1 p1 => ?_) fun c e h H' dd t s => h σ H' dd t s⟩
  split at h
  · rename_i env2 e2
    have h : FlD g N env σ H D .nx env2 := h
    obtain ⟨s2, t2⟩ := asgN_ok t1 p1 e2
    exact h _ H1 t2 s2
  · exact h.elim
theorem tS_unp {t : Tg} {e : Ex} (h : tS g W cl (evS G (.unp t e)) D σ H) : tAsg (tE g W cl (ev G e)) (tG g t) D σ H := by
  obtain ⟨N, env, s0, h⟩ := h
  unfold evS at h
  refine ⟨N, env, s0, wpR_mono (wpR_bnd h) (fun d env1 h H1 v t1 p1 => ?_) fun c e h H' dd t s => h σ H' dd t s⟩
  split at h
  · rename_i env2 e2
    have h : FlD g N env σ H D .nx env2 := h
    exact ⟨env, σ, H, N, env1, d, env2, t1, p1, e2, fun σ' s2 t2 _ _ => h σ' H1 t2 s2⟩
  · exact h.elim
theorem plain_rv {F : Addr → Prop} {d : AV} {v : V} (hp : plB d = true) (p : Posts g F env σ H N [d] [v]) : RV g.K g.H0 H (Pv N env σ) d v ∧ SR g N env σ H := by
  refine ⟨HeadOk.sto p.1 p.2 ?_, p.sr⟩
  cases d <;> first | rfl | (cases hp; done)
theorem tS_par {i j : Nat} {a b : Ex} (h : tS g W cl (evS G (.par i j a b)) D σ H) : tPar i j (tCons (tE g W cl (ev G a)) (tCons (tE g W cl (ev G b)) tNil)) D σ H := by
  obtain ⟨N, env, s0, h⟩ := h
  unfold evS at h
  refine ⟨N, env, s0, wpR_mono (wpR_bnd h) ?_ fun c e h H' dd t s => h σ H' dd t s⟩
  intro x env1 h H1 v t1 p1
  refine ⟨nxN N x v, env1, p1.2, wpR_mono (wpR_bnd h) ?_ ?_⟩
  · intro y env2 h H2 w t2 p2
    split at h
    · rename_i hp
      simp only [Bool.and_eq_true] at hp
      split at h
      · rename_i env3 e3
        split at h
        · rename_i env4 e4
          have h : FlD g N env σ H D .nx env4 := h
          have t12 := t1.trans t2
          obtain ⟨q1, q2⟩ := (p1.cons t2 p2 (Fr.sub t1)).two
          obtain ⟨rx, s2⟩ := plain_rv hp.1 q1
          have ry : RV g.K g.H0 H2 (Pv N env2 σ) y w := (plain_rv hp.2 q2).1.mono (fun _ _ h _ => h) fun b q _ => pv_sub b q
          obtain ⟨s3, t3⟩ := asgN_ok (Stp.refl (A := All) (env := env2) (σ := σ) (H := H2)) (post_sto s2 rx) e3
          obtain ⟨s4, t4⟩ := asgN_ok (t12.trans t3) (post_sto s3 (RV.step s2 t3 ry)) e4
          exact ⟨v, w, rfl, h _ H2 t4 s4⟩
        · exact h.elim
      · exact h.elim
    · exact h.elim
  · intro c env2 h H2 dd t2 s2
    exact h σ H2 dd (t1.trans t2) (SR.drop p1.sr t2 s2 fun _ => nxN_sub)
theorem tS_ifs {c : Ex} {a b : Sts} (h : tS g W cl (evS G (.ifs c a b)) D σ H) : tIfS (tT g W cl fun env => bnd (ev G c env) asB) (tS g W cl (evSs G a)) (tS g W cl (evSs G b)) D σ H := by
  obtain ⟨N, env, s0, h⟩ := h
  unfold evS at h
  refine ⟨N, env, s0, wpR_mono (wpR_bnd h) (fun t env1 h H1 t1 s1 => ?_) fun c e h H' dd t s => h σ H' dd t s⟩
  cases t with
  | true => exact tS_from t1 s1 h
  | false => exact tS_from t1 s1 h
theorem tS_stx {i : Nat} {k e : Ex} (h : tS g W cl (evS G (.stx i k e)) D σ H) : tAsg (tE g W cl (ev G e)) (gSub (tVar i) (tE g W cl (ev G k)) rSetL) D σ H := by
  obtain ⟨N, env, s0, h⟩ := h
  unfold evS at h
  refine ⟨N, env, s0, wpR_mono (wpR_bnd h) (fun d env1 h H1 v t1 p1 => ?_) fun c e h H' dd t s => h σ H' dd t s⟩
  split at h
  · rename_i hm
    obtain ⟨a, xs0, vs0, _, ha, _⟩ := upd_ok p1.sr hm
    refine ⟨_, ha, nxN N d v, env1, p1.2, wpR_mono (wpR_bnd h) (fun kk env2 h H2 kv t2 p2 => ?_) fun c env2 h H2 dd t2 s2 => h σ H2 dd (t1.trans t2) (SR.drop p1.sr t2 s2 fun _ => nxN_sub)⟩
    unfold stxE at h
    split at h
    · rename_i hm2
      have p3 := p1.moved t2 p2.sr
      obtain ⟨a', xs, vs, q1, q2, q3, q4, q5⟩ := upd_ok p3.sr hm2
      rw [ha] at q2
      cases q2
      split at h
      · rename_i d' z xs' hd hxs
        rw [q1] at hxs
        cases hxs
        split at h
        · rename_i j hj
          have h : FlD g N env σ H D .nx (updS env2 i (xs.set j d')) := h
          have p2 : RV g.K g.H0 H2 _ (.int z) kv := p2.1
          cases p2
          obtain ⟨s4, t4, _⟩ := q5 (xs.set j d') (vs.set j v) (q4.set (HeadOk.sto p3.1 p3.2 hd) j)
          exact ⟨a, vs, z, j, rfl, rfl, q3, by rw [← q4.length]; exact hj, h σ _ ((t1.trans t2).trans t4) s4⟩
        · exact h.elim
      · exact h.elim
    · exact h.elim
  · exact h.elim
/-- an int stored into a slot's list -/
theorem gSub_int {i : Nat} {k : Ex} {z : Int} {fin : Fl → En → Option (R Fl)} {Q : L2.St → Hp → Prop} (T : Stp All env σ H env1 σ H1) (s : SR g N env1 σ H1) (hm : mutB env1 i = true)
    (h : wpR (bnd (ev G k env1) fun kk e3 => bnd (stxE i (.int z) kk e3) fin) (FlD g N env σ H D) (FlX g W cl N env σ H))
    (c : ∀ e4 H4, Stp All env σ H e4 σ H4 → SR g N e4 σ H4 → wpR (fin .nx e4) (FlD g N env σ H D) (FlX g W cl N env σ H) → Q σ H4) : gSub (tVar i) (tE g W cl (ev G k)) rSetL (.int z) σ H1 Q := by
  obtain ⟨a, xs0, vs0, _, ha, _⟩ := upd_ok s hm
  refine ⟨_, ha, N, env1, s, wpR_mono (wpR_bnd h) (fun kk env2 h H2 kv t2 p2 => ?_) fun c env2 h H2 dd t2 s2 => h σ H2 dd (T.trans t2) s2⟩
  replace h : wpR (stxE i (.int z) kk env2) (fun f e => wpR (fin f e) (FlD g N env σ H D) (FlX g W cl N env σ H)) (FlX g W cl N env σ H) := wpR_bnd h
  unfold stxE at h
  split at h
  · rename_i hm2
    have s2 : SR g N env2 σ H2 := p2.sr
    obtain ⟨a', xs, vs, q1, q2, q3, q4, q5⟩ := upd_ok s2 hm2
    rw [ha] at q2
    cases q2
    split at h
    · rename_i d' w xs' hd hxs
      rw [q1] at hxs
      cases hxs
      cases hd
      split at h
      · rename_i j hj
        have p2 : RV g.K g.H0 H2 _ (.int w) kv := p2.1
        cases p2
        obtain ⟨s4, t4, _⟩ := q5 (xs.set j (.int z)) (vs.set j (.int z)) (q4.set (.int z) j)
        exact ⟨a, vs, w, j, rfl, rfl, q3, by rw [← q4.length]; exact hj, c _ _ ((T.trans t2).trans t4) s4 h⟩
      · exact h.elim
    · exact h.elim
  · exact h.elim
theorem tS_swp {K : PySem.W.Frag} (hK : K = g.K) {i : Nat} {k l a b : Ex} (h : tS g W cl (evS G (.swp i k l a b)) D σ H) :
    tAsg (tTup (tCons (tE g W cl (ev G a)) (tCons (tE g W cl (ev G b)) tNil))) (gTup K 2 (gCons (gSub (tVar i) (tE g W cl (ev G k)) rSetL) (gCons (gSub (tVar i) (tE g W cl (ev G l)) rSetL) gNil))) D σ H := by
  obtain ⟨N, env, s0, h⟩ := h
  unfold evS at h
  refine ⟨N, env, s0, wpR_mono (wpR_bnd h) ?_ fun c e h H' dd t s => h σ H' dd t s⟩
  intro x env1 h0 H1 v t1 p1
  refine ⟨nxN N x v, env1, p1.2, wpR_mono (wpR_bnd h0) ?_ ?_⟩
  · clear h0
    intro y env2 h H2 w t2 p2
    unfold swI at h
    cases x <;> first
      | exact h.elim
      | skip
    rename_i zu
    cases y <;> first
      | exact h.elim
      | skip
    rename_i zv
    · simp only at h
      have t12 := t1.trans t2
      obtain ⟨q1, q2⟩ := (p1.cons t2 p2 (Fr.sub t1)).two
      obtain ⟨ru, s2⟩ := plain_rv (d := .int zu) rfl q1
      have rw_ := (plain_rv (d := .int zv) rfl q2).1
      cases ru
      cases rw_
      refine ⟨by show 2 ≤ sizeLine; decide, fun p hp => ?_⟩
      obtain ⟨s3, t3⟩ := s2.new (o := .tup [.int zu, .int zv]) hp
      refine ⟨p, [.int zu, .int zv], rfl, .inl (.inl upd_same), rfl, .int zu, [.int zv], rfl, ?_⟩
      split at h
      · rename_i hm
        refine gSub_int (t12.trans t3) s3 hm h fun e4 H4 t4 s4 h => ⟨.int zv, [], rfl, ?_⟩
        split at h
        · rename_i hm4
          have h' : wpR (bnd (ev G l e4) fun ll e5 => bnd (stxE i (.int zv) ll e5) fun f e6 => some (.ok f e6)) (FlD g N env σ H D) (FlX g W cl N env σ H) := by
            have e : (fun ll e5 => bnd (stxE i (.int zv) ll e5) fun f e6 => some (R.ok f e6)) = fun ll e5 => stxE i (.int zv) ll e5 := by
              funext ll e5
              cases stxE i (.int zv) ll e5 with
              | none => rfl
              | some r => cases r <;> rfl
            rw [e]
            exact h
          exact gSub_int t4 s4 hm4 h' fun e6 H6 t6 s6 h => ⟨rfl, h σ H6 t6 s6⟩
        · exact h.elim
      · exact h.elim
  · intro c env2 h H2 dd t2 s2
    exact h σ H2 dd (t1.trans t2) (SR.drop p1.sr t2 s2 fun _ => nxN_sub)
/-- a slot of which nothing is known -/
theorem SR.sig {j : Nat} {u : Option V} (s : SR g N env σ H) (h : env[j]? = some none) : SR g N env (σ.set j u) H ∧ Stp All env σ H env (σ.set j u) H := by
  have get : ∀ {k : Nat} {sl : Slot}, env[k]? = some (some sl) → (σ.set j u)[k]? = σ[k]? := fun {k sl} e => by
    have : k ≠ j := fun z => by rw [z, h] at e; cases e
    exact List.getElem?_set_ne (Ne.symm this)
  have pm : ∀ {b : Addr}, Pm env (σ.set j u) b → Pm env σ b := fun {b} ⟨k, ⟨sl, k1, k2⟩, k3⟩ => ⟨k, ⟨sl, k1, k2⟩, by rw [get k1] at k3; exact k3⟩
  have st : Stab (Pv N env σ) H H := fun _ _ h _ => h
  have hP : ∀ b, Pv N env (σ.set j u) b → H b ≠ none → Pv N env σ b := fun b h _ => h.imp id pm
  refine ⟨⟨by rw [List.length_set]; exact s.len, fun k d e => ?_, fun k nw xs e => ?_, fun k xs e => ?_, fun k t xs e => ?_, fun k l b hk hl ek el => ?_, s.keep, s.dom, s.nst⟩, ⟨fun _ _ h _ _ => h, fun b h => .inl (pm h), fun _ h => h, fun k t xs e => ⟨e, get e⟩, fun k xs e => ⟨⟨xs, e⟩, get e⟩, fun k t xs e => e⟩⟩
  · obtain ⟨v, e1, r⟩ := s.val k d e
    exact ⟨v, (get e).trans e1, r.mono st hP⟩
  · obtain ⟨a, vs, e1, e2, r, e3⟩ := s.own k nw xs e
    exact ⟨a, vs, (get e).trans e1, e2, r.mono st hP, e3⟩
  · obtain ⟨a, vs, e1, e2, r, e3⟩ := s.io k xs e
    exact ⟨a, vs, (get e).trans e1, e2, r.mono st hP, e3⟩
  · obtain ⟨a, vs, e1, e2⟩ := s.brw k t xs e
    refine ⟨a, vs, (get e).trans e1, ?_⟩
    rcases e2 with e2 | ⟨e2, e3, r, e4⟩
    · exact .inl e2
    · exact .inr ⟨e2, e3, r.mono st hP, e4⟩
  · obtain ⟨sk, k1, k2⟩ := hk
    obtain ⟨sl, l1, l2⟩ := hl
    rw [get k1] at ek
    rw [get l1] at el
    exact s.inj k l b ⟨sk, k1, k2⟩ ⟨sl, l1, l2⟩ ek el
theorem tS_trA {b : Sts} {c : Str} {cv : Value} {ys : List Str} {i j : Nat} (hc : ∀ y ∈ ys, PySem.W.exmOne g.K (cl y) cv = some true ∧ ∃ C, cl y = .ref C ∧ PySem.W.nsIn g.K mainGlobals y = some (some (.ref C)))
    (h : tS g W cl (evS G (.trA b c ys i j)) D σ H) : tS g (wCat g.K cv i j W D) cl (evSs G b) D σ H := by
  obtain ⟨N, env, s0, h⟩ := h
  have h : wpR (trAK ys i j (evSs G b env)) (FlD g N env σ H D) (FlX g W cl N env σ H) := h
  refine ⟨N, env, s0, ?_⟩
  cases q : evSs G b env with
  | none => rw [q] at h; exact h.elim
  | some r =>
    rw [q] at h
    cases r with
    | ok f e => exact h
    | exc d e =>
      unfold trAK at h
      simp only at h
      split at h
      · rename_i hd
        simp only [Bool.and_eq_true, decide_eq_true_eq] at hd
        obtain ⟨⟨hd, hw⟩, hij⟩ := hd
        have hm : d ∈ ys := by simpa using hd
        obtain ⟨m1, C, m2, m3⟩ := hc d hm
        split at h
        · rename_i e1 ea
          have h : FlD g N env σ H D .nx e1 := h
          intro σ' H' dd t s'
          refine ⟨true, m1, fun _ => ⟨rfl, C, m2, fun a jl na => ?_⟩, fun z => by cases z⟩
          obtain ⟨s2, t2⟩ := forget (is := [j]) s' (by simpa using hw)
          have ej : (wipeE e [j])[j]? = some none := by
            show (e.set j none)[j]? = some none
            rw [List.getElem?_set_self (by rw [s'.len]; exact jl)]
          obtain ⟨s3, t3⟩ := s2.sig (u := some (.ref a)) ej
          obtain ⟨s4, t4⟩ := s3.new (o := exn a C) na
          obtain ⟨s5, t5⟩ := asgN_ok (Stp.refl (A := All) (env := wipeE e [j]) (σ := σ'.set j (some (.ref a))) (H := upd H' a (exn a C))) (post_sto s4 (e := .exo d) (v := .ref a) (.exo upd_same m3)) ea
          have ej1 : e1[j]? = some none := by
            have : e1 = (wipeE e [j]).set i (some (.val (.exo d))) := by
              unfold asgN at ea
              split at ea
              · cases ea
              · cases ea
              · exact (Option.some.inj ea).symm
              · cases ea
            rw [this, List.getElem?_set_ne hij]
            exact ej
          obtain ⟨s6, t6⟩ := s5.sig (u := none) ej1
          exact h _ _ (((((t.trans t2).trans t3).trans t4).trans t5).trans t6) s6
        · exact h.elim
      · exact h.elim
theorem tS_whl {n : Nat} {c : Ex} {b : Sts} (h : tS g W cl (evS G (.whl n c b)) D σ H) : tWhile (tT g W cl fun env => bnd (ev G c env) asB) (tS g W cl (evSs G b)) D σ H := by
  obtain ⟨N, env, s0, h⟩ := h
  have h : wpR (whlL (fun e => bnd (ev G c e) asB) (evSs G b) n env) (FlD g N env σ H D) (FlX g W cl N env σ H) := h
  refine ⟨fun m σ1 H1 => ∃ env1, Stp All env σ H env1 σ1 H1 ∧ SR g N env1 σ1 H1 ∧ wpR (whlL (fun e => bnd (ev G c e) asB) (evSs G b) m env1) (FlD g N env σ H D) (FlX g W cl N env σ H), ⟨n, env, Stp.refl, s0, h⟩, ?_⟩
  rintro m σ1 H1 ⟨env1, t1, s1, h⟩
  cases m with
  | zero => exact h.elim
  | succ m =>
    unfold whlL at h
    refine ⟨N, env1, s1, wpR_mono (wpR_bnd h) (fun t env2 h H2 t2 s2 => ?_) fun c e h H' dd t s => h σ1 H' dd (t1.trans t) s⟩
    have t12 := t1.trans t2
    cases t with
    | false =>
      have h : FlD g N env σ H D .nx env2 := h
      exact h σ1 H2 t12 s2
    | true =>
      refine ⟨fun σ' H' => ∃ env1, Stp All env σ H env1 σ' H' ∧ SR g N env1 σ' H' ∧ wpR (whlL (fun e => bnd (ev G c e) asB) (evSs G b) m env1) (FlD g N env σ H D) (FlX g W cl N env σ H), fun σ' H' q => ⟨m, Nat.lt_succ_self m, q⟩, ?_⟩
      have h : wpR (bnd (evSs G b env2) _) _ _ := h
      refine ⟨N, env2, s2, wpR_mono (wpR_bnd h) (fun f env3 h => ?_) fun _ _ h => FlX.trans t12 h⟩
      cases f with
      | nx => exact fun σ' H' t3 s3 => ⟨env3, t12.trans t3, s3, h⟩
      | ct => exact fun σ' H' t3 s3 => ⟨env3, t12.trans t3, s3, h⟩
      | bk =>
        have h : FlD g N env σ H D .nx env3 := h
        exact fun σ' H' t3 s3 => h σ' H' (t12.trans t3) s3
      | rt d =>
        have h : FlD g N env σ H D (.rt d) env3 := h
        exact FlD.trans (D := D) (f := .rt d) t12 h
/-- a value at hand when slots are unlocked -/
theorem post_unl {M M' : Addr → Prop} {envL : En} {un : En → En} {Hs : Hp} {σs : L2.St} {d : AV} {v : V} (L : Lk g M env1 σs Hs M' envL un) (hNM : ∀ b, N b → M b) (s1 : SR g N env1 σs Hs) (t0 : Stp All env σ H env1 σs Hs) (t : Stp All envL σs Hs env2 σ2 H2) (p : Posts g (Fr envL σs Hs) env2 σ2 H2 M' [d] [v]) :
    Posts g (Fr env σ H) (un env2) σ2 H2 N [d] [v] ∧ Stp All env1 σs Hs (un env2) σ2 H2 ∧ SR g N (un env2) σ2 H2 := by
  have cgF : ∀ {P : Addr → Prop} b, P b ↔ orN P (fun _ => False) b := fun b => ⟨.inl, fun h => h.elim id False.elim⟩
  obtain ⟨s3, t3, p3⟩ := L.bk (fun _ => False) env2 σ2 H2 (fun _ h => h.elim) t (p.sr.cg cgF)
  have s4 : SR g M (un env2) σ2 H2 := s3.cg fun b => (cgF b).symm
  have s5 : SR g N (un env2) σ2 H2 := SR.drop s1 t3 s4 hNM
  have pm : ∀ b, Pv M (un env2) σ2 b → Pv M' env2 σ2 b := fun b h => (p3 b (h.imp .inl id)).imp (fun z => z.elim id False.elim) id
  refine ⟨?_, t3, s5⟩
  have pl : ∀ {e : AV}, RV g.K g.H0 H2 (Pv (orN M' (tmp [] [])) env2 σ2) e v → RV g.K g.H0 H2 (Pv N (un env2) σ2) e v := fun r => r.mono (fun _ _ h _ => h) fun b h _ => (pm b (h.imp (hNM b) id)).imp .inl id
  cases d with
  | frs xs =>
    obtain ⟨q, sq⟩ := p
    obtain ⟨_, a, ws, rfl, h2, h3, h4, h5, h6⟩ := q
    have sq : SR g (adN M' a) env2 σ2 H2 := sq
    obtain ⟨s6, t6, p6⟩ := L.bk (fun b => b = a) env2 σ2 H2 (fun b h k => h4 (h ▸ k)) t sq
    have s7 : SR g (adN N a) (un env2) σ2 H2 := SR.drop2 s1 t6 s6 (fun _ => .inl) fun b h => h.imp (hNM b) id
    refine ⟨⟨s5, a, ws, rfl, h2, h3, fun z => h4 (L.sub a (hNM a z)), h5.mono (fun _ _ h _ => h) fun b h _ => ?_, ?_⟩, s7⟩
    · rcases h with ((h | h) | h) | h
      · exact .inl (.inl (.inl (L.sub b (hNM b h))))
      · exact .inl (.inl (.inr h))
      · exact h.elim
      · rcases p6 b (.inr h) with (q | q) | q
        · exact .inl (.inl (.inl q))
        · exact .inl (.inl (.inr q))
        · exact .inr q
    · refine Fr.sub t0 a ?_
      rcases h6 with q | q
      · exact .inl q
      · rcases L.pv a (.inr q) with z | z
        · exact absurd (L.sub a z) h4
        · exact .inr z
  | sl i => exact ⟨p.1, s5⟩
  | tup xs => exact post_plain s5 (pl p.1)
  | lst nw xs => exact post_plain s5 (pl p.1)
  | non => exact post_plain s5 (pl p.1)
  | bl b => exact post_plain s5 (pl p.1)
  | int i => exact post_plain s5 (pl p.1)
  | str x => exact post_plain s5 (pl p.1)
  | fn x => exact post_plain s5 (pl p.1)
  | jk q1 q2 => exact post_plain s5 (pl p.1)
  | exo q1 => exact post_plain s5 (pl p.1)
  | dcx => exact post_plain s5 (pl p.1)
  | ty x => exact post_plain s5 (pl p.1)
theorem wpR_mapE {α : Type} {f : En → En} {x : Option (R α)} {K1 : α → En → Prop} {K2 : Str → En → Prop} (h : wpR (mapE f x) K1 K2) : wpR x (fun a e => K1 a (f e)) fun c e => K2 c (f e) := by
  cases x with
  | none => exact h
  | some y => cases y <;> exact h
theorem tS_for {t : Tg} {it : It} {b : Sts} (h : tS g W cl (evS G (.for_ t it b)) D σ H) : tFor (tI g W cl (evI G it)) (tG g t) (tS g W cl (evSs G b)) D σ H := by
  obtain ⟨N, env, s0, h⟩ := h
  unfold evS at h
  refine ⟨N, env, s0, wpR_mono (wpR_bnd h) ?_ fun c e h H' dd t s => h σ H' dd t s⟩
  intro src env1 h J H1 M M' t1 hNM L s1 wz
  have h := wpR_mapE h
  obtain ⟨Gd, Y, hw, hz⟩ := wz
  have cgF : ∀ {P : Addr → Prop} b, P b ↔ orN P (fun _ => False) b := fun b => ⟨.inl, fun h => h.elim id False.elim⟩
  have un_nx : ∀ {env2 : En} {σ2 : L2.St} {H2 : Hp}, Stp All (lockE env1 src.lk) σ H1 env2 σ2 H2 → SR g M' env2 σ2 H2 → Stp All env σ H (unlockE env1 env2 src.lk) σ2 H2 ∧ SR g N (unlockE env1 env2 src.lk) σ2 H2 := fun {env2 σ2 H2} t2 s2 => by
    obtain ⟨_, t3, s3⟩ := post_unl (d := .non) (v := .non) L hNM s1 t1 t2 ⟨.non, s2⟩
    exact ⟨t1.trans t3, s3⟩
  refine for_it hw (fun i σi Hi => i ≤ src.xs.length ∧ ∃ env_i, Stp All (lockE env1 src.lk) σ H1 env_i σi Hi ∧ SR g M' env_i σi Hi ∧ wpR (forL t (evSs G b) (src.xs.drop i) env_i) (fun f e2 => FlD g N env σ H D f (unlockE env1 e2 src.lk)) fun c e2 => FlX g W cl N env σ H c (unlockE env1 e2 src.lk))
    ⟨Nat.zero_le _, lockE env1 src.lk, Stp.refl, L.sr, h⟩ ?_ ?_ ?_
  · rintro i σi Hi hi ⟨_, env_i, ti, si, _⟩
    exact (hz (fun _ => False) env_i σi Hi (fun _ h => h.elim) ti (si.cg cgF)).1
  · rintro i x σi Hi H3 hi ⟨_, env_i, ti, si, hr⟩ y
    obtain ⟨d, hd, ty, py⟩ := (hz (fun _ => False) env_i σi Hi (fun _ h => h.elim) ti (si.cg cgF)).2 i x H3 hi y
    rw [drop_get hd] at hr
    unfold forL at hr
    split at hr
    · exact hr.elim
    · rename_i env_a ea
      refine ⟨env_i, σi, Hi, _, env_i, d, env_a, ty, py, ea, fun σ' sa ta _ _ => ?_⟩
      have sa : SR g M' env_a σ' H3 := sa.cg fun b => (cgF b).symm
      have tia := ti.trans ta
      refine ⟨M', env_a, sa, wpR_mono (wpR_bnd hr) (fun f env_b hr => ?_) fun c env_b hr σ2 H4 dd tb sb => ?_⟩
      · cases f with
        | nx => exact fun σ2 H4 tb sb => ⟨hi, env_b, tia.trans tb, sb, hr⟩
        | ct => exact fun σ2 H4 tb sb => ⟨hi, env_b, tia.trans tb, sb, hr⟩
        | bk =>
          have hr : FlD g N env σ H D .nx (unlockE env1 env_b src.lk) := hr
          intro σ2 H4 tb sb
          obtain ⟨t3, s3⟩ := un_nx (tia.trans tb) sb
          exact hr σ2 H4 t3 s3
        | rt d =>
          have hr : FlD g N env σ H D (.rt d) (unlockE env1 env_b src.lk) := hr
          intro σ2 H4 v tb pb
          have tall := tia.trans tb
          obtain ⟨p3, t3, s3⟩ := post_unl L hNM s1 t1 tall (pb.monoF (Fr.sub tia))
          exact hr σ2 H4 v (t1.trans t3) p3
      · obtain ⟨t3, s3⟩ := un_nx (tia.trans tb) sb
        exact hr σ2 H4 dd t3 s3
  · rintro σn Hn ⟨_, env_n, tn, sn, hr⟩
    rw [List.drop_length] at hr
    have hr : FlD g N env σ H D .nx (unlockE env1 env_n src.lk) := hr
    obtain ⟨t3, s3⟩ := un_nx tn sn
    exact hr σn Hn t3 s3
theorem tS_rse {c : Str} (h : tS g W cl (evS G (.rse c)) D σ H) : W (cl c) none σ H := by
  obtain ⟨N, env, s0, h⟩ := h
  have h : FlX g W cl N env σ H c env := h
  exact h σ H () Stp.refl s0
theorem tS_trc {b : Sts} {c : Str} {cv : Value} {K : PySem.W.Frag} {ys : List Str} {s : St} {ts : Addr → Value → Option Addr → TS} (hc : ∀ y ∈ ys, PySem.W.exmOne K (cl y) cv = some true)
    (hs : ∀ (a : Addr) (cls : Value) (d : Option Addr) (D : Ends) (σ : L2.St) (H : Hp), tS g W cl (evS G s) D σ H → ts a cls d D σ H)
    (h : tS g W cl (evS G (.trc b c ys s)) D σ H) : tS g (wOnly K cv ts W D) cl (evSs G b) D σ H := by
  obtain ⟨N, env, s0, h⟩ := h
  have h : wpR (trcK ys (fun e => evS G s e) (evSs G b env)) (FlD g N env σ H D) (FlX g W cl N env σ H) := h
  refine ⟨N, env, s0, ?_⟩
  cases q : evSs G b env with
  | none => rw [q] at h; exact h.elim
  | some r =>
    rw [q] at h
    cases r with
    | ok f e => exact h
    | exc d e =>
      have h : wpR (if ys.contains d then evS G s e else none) (FlD g N env σ H D) (FlX g W cl N env σ H) := h
      by_cases hd : ys.contains d = true
      · rw [if_pos hd] at h
        have hm : d ∈ ys := by simpa using hd
        intro σ' H' dd t s'
        exact ⟨true, hc d hm, fun _ a _ => hs a _ _ _ _ _ (tS_from t s' h), fun z => by cases z⟩
      · rw [if_neg hd] at h
        exact h.elim
end
end RX
/-! RX part t: written statements do what the evaluator says. -/
namespace RX
open PySem L2
def compB : Expr → Bool
  | .ListComp .. => true
  | .SetComp .. => true
  | .DictComp .. => true
  | _ => false
/-- name = value: which rule -/
def swOk (sc : Scope) (x : Str) (py : Pos) : Expr → Bool
  | .ListComp _ _ scope cpos => match sc.names.lookup x with
    | some .local => (py.line == cpos.line) && !(scope.names.any fun (n, k) => n == x && (k == .local || k == .cell))
    | some .cell => true
    | _ => false
  | .SetComp .. => false
  | .DictComp .. => false
  | _ => true
def isLoc (sc : Scope) (x : Str) : Bool := match sc.names.lookup x with
  | some .local => true
  | _ => false
/-- a handler's suite: a constant kept or given back -/
def cnB : Ex → Expr → Bool
  | .int i, .Constant (.int j) _ _ => decide (i = j)
  | .bl b, .Constant (.bool c) _ _ => b == c
  | .str x, .Constant (.str y) _ _ => decide (x = y)
  | .non, .Constant .none _ _ => true
  | _, _ => false
/-- a tuple of one text -/
def tpB : Ex → Expr → Bool
  | .tup (.cons (.str x) .nil), .Tuple [.Constant (.str y) _ _] _ _ => decide (x = y)
  | _, _ => false
def cnC (e : Ex) (v : Expr) : Bool := cnB e v || tpB e v
def suB (N : List Str) (sc : Scope) : St → Stmt → Bool
  | .set i e, .Assign [.Name x _] v _ => decide (N[i]? = some x) && locB sc sc x && cnC e v
  | .ret e, .Return (some v) _ => cnC e v
  | _, _ => false
def rsB : Stmt → Option Str
  | .Raise (some (.Call (.Name x _) [.Constant (.str _) _ _] [] _)) none _ => some x
  | _ => none
theorem rsB_ok {x : Stmt} {y : Str} (h : rsB x = some y) : ∃ p m j p2 cpos pos, x = .Raise (some (.Call (.Name y p) [.Constant (.str m) j p2] [] cpos)) none pos := by
  unfold rsB at h
  split at h
  · cases h
    exact ⟨_, _, _, _, _, _, rfl⟩
  · cases h
def trB : Stmt → Option (List Stmt × Str × Stmt)
  | .Try bx [.ExceptHandler (some (.Name x _)) none [y] _] [] [] _ => some (bx, x, y)
  | _ => none
theorem trB_ok {x : Stmt} {bx : List Stmt} {n : Str} {y : Stmt} (h : trB x = some (bx, n, y)) : ∃ p p2 pos, x = .Try bx [.ExceptHandler (some (.Name n p)) none [y] p2] [] [] pos := by
  unfold trB at h
  split at h
  · cases h
    exact ⟨_, _, _, rfl⟩
  · cases h
/-- xs[k], xs[l] = a, b -/
def swB : Stmt → Option (Str × Expr × Str × Expr × Expr × Expr)
  | .Assign [.Tuple [.Subscript (.Name y1 _) k1 _, .Subscript (.Name y2 _) k2 _] _ _] (.Tuple [va, vb] _ _) _ => some (y1, k1, y2, k2, va, vb)
  | _ => none
theorem swB_ok {x : Stmt} {y1 y2 : Str} {k1 k2 va vb : Expr} (h : swB x = some (y1, k1, y2, k2, va, vb)) : ∃ p1 p2 p3 p4 c1 p5 c2 p6 pos, x = .Assign [.Tuple [.Subscript (.Name y1 p1) k1 p2, .Subscript (.Name y2 p3) k2 p4] c1 p5] (.Tuple [va, vb] c2 p6) pos := by
  unfold swB at h
  split at h
  · cases h
    exact ⟨_, _, _, _, _, _, _, _, _, rfl⟩
  · cases h
/-- try: .. except n as m: y = m -/
def taB : Stmt → Option (List Stmt × Str × Str × Str)
  | .Try bx [.ExceptHandler (some (.Name n _)) (some m) [.Assign [.Name y _] (.Name m2 _) _] _] [] [] _ => if m = m2 then some (bx, n, m, y) else none
  | _ => none
theorem taB_ok {x : Stmt} {bx : List Stmt} {n m y : Str} (h : taB x = some (bx, n, m, y)) : ∃ p1 p2 p3 p4 p5 pos, x = .Try bx [.ExceptHandler (some (.Name n p1)) (some m) [.Assign [.Name y p2] (.Name m p3) p4] p5] [] [] pos := by
  unfold taB at h
  split at h
  · split at h
    · rename_i hm
      subst hm
      cases h
      exact ⟨_, _, _, _, _, _, rfl⟩
    · cases h
  · cases h
mutual
def mS (N : List Str) (T : Tb) (sc : Scope) : St → Stmt → Bool
  | .set i e, .Assign [.Name x p] v _ => decide (N[i]? = some x) && locB sc sc x && swOk sc x p v && mE N T e sc v
  | .unp t e, .Assign [tg] v _ => tupB tg && !tupB v && mT N sc sc t tg && mE N T e sc v
  | .par i j a b, .Assign [.Tuple [.Name x px, .Name y py] _ _] (.Tuple [va, vb] _ _) _ => decide (N[i]? = some x) && decide (N[j]? = some y) && decide (i ≠ j) && isLoc sc x && isLoc sc y && decide (px.line = py.line) && decide (x ≠ y) &&
      !starB va && !starB vb && !([va, vb].all (foldedForSure 8)) && !([va, vb].all (constantsAlone 8)) && mE N T a sc va && mE N T b sc vb
  | .stx i k e, .Assign [.Subscript (.Name x _) kx _] v _ => nmB N sc i x && !sliceB kx && mE N T k sc kx && mE N T e sc v
  | .exp e, .Expr v _ => !compB v && mE N T e sc v
  | .ret e, .Return (some v) _ => mE N T e sc v
  | .retN, .Return none _ => true
  | .pass, .Pass _ => true
  | .brk, .Break _ => true
  | .cont, .Continue _ => true
  | .rse c, x => decide (rsB x = some c) && glB sc c && (match T.lookup c with | some (.inr (.inr ys)) => decide ((c, true) ∈ ys) | _ => false)
  | .trc b c ys s, x => match trB x with
    | some (bx, n, y) => decide (n = c) && glB sc c && (match T.lookup c with | some (.inr (.inr zs)) => ys.all fun y => decide ((y, true) ∈ zs) | _ => false) && mSs N T sc b bx && suB N sc s y
    | none => false
  | .swp i k l a b, x => match swB x with
    | some (y1, k1, y2, k2, va, vb) => nmB N sc i y1 && nmB N sc i y2 && !sliceB k1 && !sliceB k2 && !starB va && !starB vb && mE N T k sc k1 && mE N T l sc k2 && mE N T a sc va && mE N T b sc vb
    | none => false
  | .trA b c ys i j, x => match taB x with
    | some (bx, n, m, y) => decide (n = c) && glB sc c && (match T.lookup c with | some (.inr (.inr zs)) => ys.all fun y => decide ((y, true) ∈ zs) && clsB T y | _ => false) && mSs N T sc b bx && decide (N[i]? = some y) && decide (N[j]? = some m) && isLoc sc y && isLoc sc m && !(m == Str.ofString "__debug__") && !(m == Str.ofString "__classdict__")
    | none => false
  | .ifs c a b, .If cx ax bx _ => mE N T c sc cx && ptB cx && mSs N T sc a ax && mSs N T sc b bx
  | .whl _ c b, .While cx bx [] _ => mE N T c sc cx && ptB cx && mSs N T sc b bx
  | .for_ t it b, .For tg iter bx [] _ => !setB iter && mI N T it sc tg iter && mT N sc sc t tg && mSs N T sc b bx
  | _, _ => false
def mSs (N : List Str) (T : Tb) (sc : Scope) : Sts → List Stmt → Bool
  | .nil, [] => true
  | .cons s ss, x :: xs => mS N T sc s x && mSs N T sc ss xs
  | .wip _ ss, xs => mSs N T sc ss xs
  | _, _ => false
end
section
variable {N : List Str} {T : Tb} {g : Gh} {cl : Str → Value} {G : Calls} {sc : Scope} {W : WX} {X : Cx}
/-- a def's own frame -/
structure TopX (X : Cx) : Prop where
  po : PassesOwn (model X.prog X.w) X.A X.env X.xe
  stk : X.stack = X.env :: X.outer
  frm : X.env.frame = some X.env.locals
def IHS (N : List Str) (T : Tb) (g : Gh) (cl : Str → Value) (G : Calls) (s : St) : Prop := ∀ {sc : Scope} {W : WX} {X : Cx} {x : Stmt}, XOk N T g cl G sc sc W X → sc.kind = .function → TopX X → mS N T sc s x = true → PS X x (tS g W cl (evS G s))
def IHSs (N : List Str) (T : Tb) (g : Gh) (cl : Str → Value) (G : Calls) (ss : Sts) : Prop := ∀ {sc : Scope} {W : WX} {X : Cx} {xs : List Stmt}, XOk N T g cl G sc sc W X → sc.kind = .function → TopX X → mSs N T sc ss xs = true → PSs X xs (tS g W cl (evSs G ss))
theorem sw_no {v : Expr} (h : compB v = false) (t : Option Expr) (l : Nat) (env : Env) : swapsWith v t l env = pure false := by
  cases v <;> first | rfl | (cases h; done)
theorem swSole {v tg : Expr} (h : tupB tg = true) (l : Nat) (env : Env) : swapsWithSole [tg] v l env = pure false := by
  cases tg <;> first
    | (cases h; done)
    | (cases v <;> rfl)
theorem swSub {v : Expr} {o k : Expr} {p : Pos} (l : Nat) (env : Env) : swapsWithSole [.Subscript o k p] v l env = pure false := by cases v <;> rfl
theorem stores_no {v tg : Expr} (h : tupB v = false) (env : Env) : swappedStores [tg] v env = pure none := by
  cases v <;> first
    | (cases h; done)
    | (cases tg <;> rfl)
theorem stores_sub {v : Expr} {o k : Expr} {p : Pos} (env : Env) : swappedStores [.Subscript o k p] v env = pure none := by cases v <;> rfl
theorem ihs_set {i : Nat} {e : Ex} : IHS N T g cl G (.set i e) := by
  intro sc W X x ok hk po h
  cases x <;> first
    | exact no_ h
    | skip
  rename_i tgs v pos
  match tgs, h with
  | [], h => exact no_ h
  | [tg], h =>
    cases tg <;> first
      | exact no_ h
      | skip
    rename_i y p
    have h : (decide (N[i]? = some y) && locB sc sc y && swOk sc y p v && mE N T e sc v) = true := h
    simp only [Bool.and_eq_true, decide_eq_true_eq] at h
    obtain ⟨⟨⟨h1, h2⟩, h3⟩, h4⟩ := h
    obtain ⟨l1, l2⟩ := loc_of ok h2
    have pe := (ev_ok e ok h4).1
    by_cases hc : compB v = false
    · have q := ps_set (X := X) (pos := pos) (pos' := p) (by rw [ok.hN]; exact ok.nd) (by rw [ok.hN]; exact h1) l1 pe (sw_no hc _ _ _) l2
      exact RX.PS.weak q fun D σ H w => tS_set w
    · cases v <;> first
        | exact absurd rfl hc
        | exact no_ h3
        | skip
      rename_i elt gens scope cpos _
      cases hl : sc.names.lookup y with
      | none =>
        have h3 : (match sc.names.lookup y with
          | some .local => (p.line == cpos.line) && !(scope.names.any fun (n, k) => n == y && (k == .local || k == .cell))
          | some .cell => true
          | _ => false) = true := h3
        rw [hl] at h3
        cases h3
      | some kd =>
        have h3 : (match sc.names.lookup y with
          | some .local => (p.line == cpos.line) && !(scope.names.any fun (n, k) => n == y && (k == .local || k == .cell))
          | some .cell => true
          | _ => false) = true := h3
        rw [hl] at h3
        have hl' : X.env.scope.names.lookup y = some kd := by rw [ok.hsc]; exact hl
        cases kd <;> first
          | (cases h3; done)
          | skip
        · -- a local: stored by the comprehension
          simp only [Bool.and_eq_true, Bool.not_eq_true'] at h3
          obtain ⟨w1, w2⟩ := h3
          cases e <;> first
            | exact no_ h4
            | skip
          rename_i e own t it c _
          match gens, h4 with
          | [⟨tg, iter, ifs, a⟩], h4 =>
            obtain ⟨q0, hsub, q1, q2, q3, q4, q5, q6⟩ := comp_parts (ev_ok e) (evI_ok it) (ev_ok c) ok h4
            subst q0
            have hsw := sw_true (elt := elt) (gs := [⟨tg, iter, ifs, 0⟩]) (scope := scope) (pos := cpos) (py := p) (y := y) (l := pos.line) (env := X.env) (by rw [ok.hsc]; exact hk) hl' w1 w2
            have q := ps_setLc (X := X) (spos := pos) (i := i) (y := y) (py := p) ok.calm (by rw [ok.hN]; exact ok.nd) (by rw [ok.hN]; exact h1) hl' hsw q1 (own := ownP N own) q2 q3 q4 q5 q6
            rw [ownP_map] at q
            refine RX.PS.weak q fun D σ H w => ?_
            obtain ⟨N0, env, s, w⟩ := tS_set w
            exact tLc_ok hsub ⟨N0, env, s, w⟩
          | [], h4 => exact no_ h4
          | ⟨_, _, _, _⟩ :: _ :: _, h4 => exact no_ h4
        · have hsw : swapsWith (.ListComp elt gens scope cpos) (some (.Name y p)) pos.line X.env = pure false := by
            have ky : X.env.kindOf y = some .cell := hl'
            unfold swapsWith
            simp only [ky]
            have : (some NameKind.cell == some NameKind.local) = false := by decide
            simp only [this, Bool.and_false, Bool.false_and]
          have q := ps_set (X := X) (pos := pos) (pos' := p) (by rw [ok.hN]; exact ok.nd) (by rw [ok.hN]; exact h1) l1 pe hsw l2
          exact RX.PS.weak q fun D σ H w => tS_set w
  | hd :: _ :: _, h => cases hd <;> exact no_ h
theorem ihs_unp {t : Tg} {e : Ex} : IHS N T g cl G (.unp t e) := by
  intro sc W X x ok hk po h
  cases x <;> first
    | exact no_ h
    | skip
  rename_i tgs v pos
  match tgs, h with
  | [], h => exact no_ h
  | [tg], h =>
    have h : (tupB tg && !tupB v && mT N sc sc t tg && mE N T e sc v) = true := by
      cases tg <;> first
        | exact h
        | exact no_ h
    simp only [Bool.and_eq_true, Bool.not_eq_true'] at h
    obtain ⟨⟨⟨h1, h2⟩, h3⟩, h4⟩ := h
    have hs : starB tg = false := by cases tg <;> first | rfl | (cases h1; done)
    have q := ps_asg (X := X) (pos := pos) (ev_ok e ok h4).1 (mT_ok ok h3) (swSole h1 _ _) (stores_no h2 _) (by rw [assign_cons hs]; rfl)
    exact RX.PS.weak q fun D σ H w => tS_unp w
  | _ :: _ :: _, h => exact no_ h
theorem ihs_stx {i : Nat} {k e : Ex} : IHS N T g cl G (.stx i k e) := by
  intro sc W X x ok hk po h
  cases x <;> first
    | exact no_ h
    | skip
  rename_i tgs v pos
  match tgs, h with
  | [], h => exact no_ h
  | [tg], h =>
    cases tg <;> first
      | exact no_ h
      | skip
    rename_i o kx p
    cases o <;> first
      | exact no_ h
      | skip
    rename_i y p2
    have h : (nmB N sc i y && !sliceB kx && mE N T k sc kx && mE N T e sc v) = true := h
    simp only [Bool.and_eq_true, Bool.not_eq_true'] at h
    obtain ⟨⟨⟨h1, h2⟩, h3⟩, h4⟩ := h
    have pg := pg_sub (X := X) (pos := p) (ok.nm h1 (p := p2)) (ev_ok k ok h3).1 set_list (fun v => by cases kx <;> first | rfl | (cases h2; done))
    have q := ps_asg (X := X) (pos := pos) (ev_ok e ok h4).1 pg (swSub _ _) (stores_sub _) rfl
    exact RX.PS.weak q fun D σ H w => tS_stx w
  | hd :: _ :: _, h =>
    cases hd <;> first
      | exact no_ h
      | (rename_i o _ _; cases o <;> exact no_ h)
theorem ihs_exp {e : Ex} : IHS N T g cl G (.exp e) := by
  intro sc W X x ok hk po h
  cases x <;> first
    | exact no_ h
    | skip
  rename_i v pos
  have h : (!compB v && mE N T e sc v) = true := h
  simp only [Bool.and_eq_true, Bool.not_eq_true'] at h
  exact RX.PS.weak (ps_expr (ev_ok e ok h.2).1 (sw_no h.1 _ _ _)) fun D σ H w => tS_exp w
theorem ihs_ret {e : Ex} : IHS N T g cl G (.ret e) := by
  intro sc W X x ok hk po h
  cases x <;> first
    | exact no_ h
    | skip
  rename_i v pos
  cases v with
  | none => exact no_ h
  | some v =>
    have h : mE N T e sc v = true := h
    exact RX.PS.weak (ps_ret (ev_ok e ok h).1) fun D σ H w => tS_ret w
theorem ihs_retN : IHS N T g cl G .retN := by
  intro sc W X x ok hk po h
  cases x <;> first
    | exact no_ h
    | skip
  rename_i v pos
  cases v with
  | none => exact RX.PS.weak ps_retN fun D σ H w => tS_retN w
  | some v => exact no_ h
theorem ihs_pass : IHS N T g cl G .pass := by
  intro sc W X x ok hk po h
  cases x <;> first
    | exact no_ h
    | exact RX.PS.weak ps_pass fun D σ H w => tS_pass w
theorem ihs_brk : IHS N T g cl G .brk := by
  intro sc W X x ok hk po h
  cases x <;> first
    | exact no_ h
    | exact RX.PS.weak ps_break fun D σ H w => tS_brk w
theorem ihs_cont : IHS N T g cl G .cont := by
  intro sc W X x ok hk po h
  cases x <;> first
    | exact no_ h
    | exact RX.PS.weak ps_continue fun D σ H w => tS_cont w
theorem ihs_ifs {c : Ex} {a b : Sts} (ia : IHSs N T g cl G a) (ib : IHSs N T g cl G b) : IHS N T g cl G (.ifs c a b) := by
  intro sc W X x ok hk po h
  cases x <;> first
    | exact no_ h
    | skip
  rename_i cx ax bx pos
  have h : (mE N T c sc cx && ptB cx && mSs N T sc a ax && mSs N T sc b bx) = true := h
  simp only [Bool.and_eq_true] at h
  obtain ⟨⟨⟨h1, h2⟩, h3⟩, h4⟩ := h
  exact RX.PS.weak (ps_if ((ev_ok c ok h1).2 h2) (ia ok hk po h3) (ib ok hk po h4)) fun D σ H w => tS_ifs w
theorem ihs_whl {n : Nat} {c : Ex} {b : Sts} (ib : IHSs N T g cl G b) : IHS N T g cl G (.whl n c b) := by
  intro sc W X x ok hk po h
  cases x <;> first
    | exact no_ h
    | skip
  rename_i cx bx ox pos
  cases ox with
  | cons _ _ => exact no_ h
  | nil =>
    have h : (mE N T c sc cx && ptB cx && mSs N T sc b bx) = true := h
    simp only [Bool.and_eq_true] at h
    obtain ⟨⟨h1, h2⟩, h3⟩ := h
    exact RX.PS.weak (ps_while po.po ((ev_ok c ok h1).2 h2) (ib ok hk po h3)) fun D σ H w => tS_whl w
theorem ihs_for {t : Tg} {it : It} {b : Sts} (ib : IHSs N T g cl G b) : IHS N T g cl G (.for_ t it b) := by
  intro sc W X x ok hk po h
  cases x <;> first
    | exact no_ h
    | skip
  rename_i tg iter bx ox pos
  cases ox with
  | cons _ _ => exact no_ h
  | nil =>
    have h : (!setB iter && mI N T it sc tg iter && mT N sc sc t tg && mSs N T sc b bx) = true := h
    simp only [Bool.and_eq_true, Bool.not_eq_true'] at h
    obtain ⟨⟨⟨h1, h2⟩, h3⟩, h4⟩ := h
    exact RX.PS.weak (ps_for po.po ok.calm (evI_ok it ok h2) (mT_ok ok h3) (ib ok hk po h4) (fun v => folded_of h1 v)) fun D σ H w => tS_for w
theorem ihs_par {i j : Nat} {a b : Ex} : IHS N T g cl G (.par i j a b) := by
  intro sc W X x ok hk po h
  cases x <;> first
    | exact no_ h
    | skip
  rename_i tgs v pos
  unfold mS at h
  split at h
  all_goals try contradiction
  · rename_i i j a b x px y py kt pt va vb k2 pt2 _ q1 q2
    cases q1
    cases q2
    simp only [Bool.and_eq_true, Bool.not_eq_true', decide_eq_true_eq] at h
    obtain ⟨⟨⟨⟨⟨⟨⟨⟨⟨⟨⟨⟨h1, h2⟩, h3⟩, h4⟩, h5⟩, h6⟩, h7⟩, h8⟩, h9⟩, h10⟩, h11⟩, h12⟩, h13⟩ := h
    have lx : X.env.scope.names.lookup x = some .local := by
      rw [ok.hsc]
      unfold isLoc at h4
      split at h4
      · assumption
      · cases h4
    have ly : X.env.scope.names.lookup y = some .local := by
      rw [ok.hsc]
      unfold isLoc at h5
      split at h5
      · assumption
      · cases h5
    have hsw : swappedStores [.Tuple [.Name x px, .Name y py] kt pt] (.Tuple [va, vb] k2 pt2) X.env = pure (some [x, y]) := by
      have kx : X.env.kindOf x = some .local := lx
      have ky : X.env.kindOf y = some .local := ly
      have bk : X.env.blockKind = .function := by unfold Env.blockKind; rw [ok.hsc, hk]; rfl
      simp only [List.all_cons, List.all_nil, Bool.and_true] at h10 h11
      unfold swappedStores
      have hpl : (py.line == px.line) = true := by rw [h6]; exact beq_self_eq_true _
      have hdup : [x, y].eraseDups = [x, y] := by
        have : (y == x) = false := by simpa using fun z => h7 z.symm
        simp [List.eraseDups_cons, this]
      have hpp : (Expr.Name x px).pos = px := rfl
      have hnm : (List.filterMap (fun e => match e with
          | Expr.Name id pos => if X.env.kindOf id = some NameKind.local ∧ pos.line = (Expr.Name x px).pos.line then some id else none
          | e => none) [Expr.Name x px, Expr.Name y py]) = [x, y] := by
        simp [kx, ky, hpp, h6]
      simp [bk, kx, ky, hpl, hdup]
      refine (if_neg fun z => ?_).trans ?_
      · rcases z with z | z
        · cases va <;> first
            | (cases z; done)
            | (cases h8; done)
        · cases vb <;> first
            | (cases z; done)
            | (cases h9; done)
      · refine (if_neg fun z => ?_).trans ((if_neg fun z => ?_).trans ((if_neg fun z => ?_).trans ?_))
        · rcases z with z | z
          · exact z (congrArg List.length hnm)
          · exact z ((congrArg (fun l => (List.eraseDups l).length) hnm).trans ((congrArg List.length hdup).trans (congrArg List.length hnm).symm))
        · rw [z.1, z.2] at h10
          cases h10
        · rw [z.1, z.2] at h11
          cases h11
        · exact congrArg (fun l => (pure (some l) : Sem (Option (List Str)))) hnm
    have q := ps_par (X := X) (pos := pos) ok.calm (by rw [ok.hN]; exact ok.nd) (by rw [ok.hN]; exact h1) (by rw [ok.hN]; exact h2) h3 lx ly
      (pa_cons (ev_ok a ok h12).1 (pa_cons (ev_ok b ok h13).1 pa_nil (star_cons h9)) (star_cons h8)) hsw rfl
    exact RX.PS.weak q fun D σ H w => tS_par w
theorem XOk.tr (ok : XOk N T g cl G sc sc W X) {W' : WX} {pn : List (Addr × Obj)} {xe : Value → Shared → Prop} (tk : Takes (X.tr pn xe) W') : XOk N T g cl G sc sc W' (X.tr pn xe) where
  hK := ok.hK
  hN := ok.hN
  nd := ok.nd
  hsc := ok.hsc
  fn := ok.fn
  calm := ok.calm
  un := ok.un
  gd := ok.gd
  tk := tk
  blt := ok.blt
  gis := ok.gis
  ecs := ok.ecs
  fns := ok.fns
theorem cn_ok {e : Ex} {v : Expr} {X : Cx} (h : cnB e v = true) : PE X v (tE g W cl (ev G e)) ∧ compB v = false := by
  cases e <;> cases v <;> first
    | exact no_ h
    | skip
  all_goals (rename_i k _ _; cases k)
  all_goals first
    | exact no_ h
    | skip
  · have h : decide (_ = _) = true := h
    simp only [decide_eq_true_eq] at h
    subst h
    exact ⟨RX.PE.weak pe_int (tE_C rfl fun _ _ _ _ => .int _), rfl⟩
  · have h : (_ == _) = true := h
    simp only [beq_iff_eq] at h
    subst h
    exact ⟨RX.PE.weak pe_bl (tE_C rfl fun _ _ _ _ => .bl _), rfl⟩
  · have h : decide (_ = _) = true := h
    simp only [decide_eq_true_eq] at h
    subst h
    exact ⟨RX.PE.weak pe_str (tE_C rfl fun _ _ _ _ => .str _), rfl⟩
  · exact ⟨RX.PE.weak pe_non (tE_C rfl fun _ _ _ _ => .non), rfl⟩
theorem tp_ok {e : Ex} {v : Expr} {X : Cx} (h : tpB e v = true) : PE X v (tE g W cl (ev G e)) ∧ compB v = false := by
  unfold tpB at h
  split at h
  · rename_i x y m p k pos
    have h := of_decide_eq_true h
    subst h
    refine ⟨RX.PE.weak (pe_tup (RX.PA.weak (pa_cons (RX.PE.weak pe_str (tE_C (g := g) (W := W) (cl := cl) (G := G) (e := .str x) rfl fun _ _ _ _ => .str _)) (RX.PA.weak pa_nil fun σ H Q q => tA_nil q) (star_cons rfl)) fun σ H Q q => tA_cons q)) fun σ H Q q => tE_opA (r1 := evs G (.cons (.str x) .nil)) otup_ok q, rfl⟩
  · cases h
theorem cnC_ok {e : Ex} {v : Expr} {X : Cx} (h : cnC e v = true) : PE X v (tE g W cl (ev G e)) ∧ compB v = false := by
  unfold cnC at h
  rw [Bool.or_eq_true] at h
  rcases h with h | h
  · exact cn_ok h
  · exact tp_ok h
theorem su_ok {s : St} {x : Stmt} {X : Cx} (hN : X.N = N) (nd : N.Nodup) (hsc : X.env.scope = sc) (hfn : ∀ x, sc.names.lookup x = some .cell → X.fn x = true) (h : suB N sc s x = true) : PS X x (tS g W cl (evS G s)) := by
  have lc : ∀ {y : Str}, locB sc sc y = true → L2.Loc X.env.scope y ∧ (X.fn y = true ∨ X.env.scope.names.lookup y = some .local) := fun {y} h => by
    unfold locB at h
    rw [hsc]
    split at h
    · rename_i e
      exact ⟨.inl e, .inr e⟩
    · rename_i e e2
      exact ⟨.inr e, .inl (hfn y e2)⟩
    · cases h
  cases s <;> first
    | exact no_ h
    | skip
  · rename_i i e
    cases x <;> first
      | exact no_ h
      | skip
    rename_i tgs v pos
    match tgs, h with
    | [], h => exact no_ h
    | [tg], h =>
      cases tg <;> first
        | exact no_ h
        | skip
      rename_i y p
      have h : (decide (N[i]? = some y) && locB sc sc y && cnC e v) = true := h
      simp only [Bool.and_eq_true, decide_eq_true_eq] at h
      obtain ⟨⟨h1, h2⟩, h3⟩ := h
      obtain ⟨l1, l2⟩ := lc h2
      obtain ⟨pe, hc⟩ := cnC_ok (g := g) (W := W) (cl := cl) (G := G) (X := X) h3
      exact RX.PS.weak (ps_set (X := X) (pos := pos) (pos' := p) (by rw [hN]; exact nd) (by rw [hN]; exact h1) l1 pe (sw_no hc _ _ _) l2) fun D σ H w => tS_set w
    | hd :: _ :: _, h => cases hd <;> exact no_ h
  · rename_i e
    cases x <;> first
      | exact no_ h
      | skip
    rename_i v pos
    cases v with
    | none => exact no_ h
    | some v =>
      have h : cnC e v = true := h
      exact RX.PS.weak (ps_ret (cnC_ok h).1) fun D σ H w => tS_ret w
theorem ihs_rse {c : Str} : IHS N T g cl G (.rse c) := by
  intro sc W X x ok hk po h
  have h : (decide (rsB x = some c) && glB sc c && (match T.lookup c with | some (.inr (.inr ys)) => decide ((c, true) ∈ ys) | _ => false)) = true := by
    unfold mS at h
    exact h
  simp only [Bool.and_eq_true, decide_eq_true_eq] at h
  obtain ⟨⟨h1, h2⟩, h3⟩ := h
  obtain ⟨p, m, j, p2, cpos, pos, rfl⟩ := rsB_ok h1
  obtain ⟨g1, g2, g3⟩ := ok.gl h2
  split at h3
  · rename_i ys hl
    obtain ⟨C, hm, ek⟩ := ok.ecs _ _ hl
    obtain ⟨B, ni, ii, bmB, F, q⟩ := ek.md (of_decide_eq_true h3)
    have hK := ok.hK
    have pm := pmk_own (X := X) (x := c) (m := m) (j := j) (p := p) (p2 := p2) (pos := cpos) F (by rw [hK]; exact q) hm (by rw [hK]; exact ek.kp) (raises_own (by rw [hK]; exact ek.ex) (by rw [hK]; exact ek.ty)) g1 g2
    refine RX.PS.weak (ps_raise (pos := pos) ok.calm ok.tk pm) fun D σ H w => ?_
    have := tS_rse w
    rw [ek.cv] at this
    exact this
  · cases h3
theorem ihs_trc {b : Sts} {c : Str} {ys : List Str} {s : St} (ib : IHSs N T g cl G b) : IHS N T g cl G (.trc b c ys s) := by
  intro sc W X x ok hk po h
  unfold mS at h
  split at h
  case h_2 => cases h
  rename_i bx n y hx
  obtain ⟨p, p2, pos, rfl⟩ := trB_ok hx
  simp only [Bool.and_eq_true, decide_eq_true_eq] at h
  obtain ⟨⟨⟨⟨rfl, h2⟩, h3⟩, h4⟩, h5⟩ := h
  obtain ⟨g1, g2, g3⟩ := ok.gl h2
  split at h3
  · rename_i zs hl
    obtain ⟨C, hm, ek⟩ := ok.ecs _ _ hl
    have hK := ok.hK
    simp only [List.all_eq_true, decide_eq_true_eq] at h3
    refine RX.PS.weak (ps_try_only (X := X) (c := .ref C) (tb := fun W' => tS g W' cl (evSs G b)) (ts := fun _ _ _ => tS g W cl (evSs G (.cons s .nil))) (Wout := W) po.stk po.frm ⟨g1, g2, .inl hm⟩ ok.tk
      (fun W' pn xe tk po' => ib (ok.tr tk) hk ⟨po', po.stk, po.frm⟩ h4) fun a oe cls d pn hz hf => ?_) fun D σ H w => ?_
    · refine RX.PSs.weak (pss_cons (su_ok (g := g) (W := W) (cl := cl) (G := G) (X := X.suite a ((a, oe) :: pn)) ok.hN ok.nd ok.hsc ok.fn h5) pss_nil) fun D σ H w => ?_
      obtain ⟨N0, env, s0, w⟩ := tS_cons w
      exact ⟨N0, env, s0, wpR_mono w (fun f e k => by
        cases f with
        | nx => exact fun σ' H' t' s' => tS_nil (k σ' H' t' s')
        | rt d => exact k
        | bk => exact k
        | ct => exact k) fun _ _ k => k⟩
    · rw [hK]
      refine tS_trc (c := n) (ys := ys) (s := s) (fun y hy => ek.ca (y, true) (h3 y hy) rfl) (fun a cls d D σ H w => ?_) w
      obtain ⟨N0, env, s0, w⟩ := w
      refine ⟨N0, env, s0, ?_⟩
      show wpR (bnd (evS G s env) _) _ _
      cases q : evS G s env with
      | none => rw [q] at w; exact w.elim
      | some r =>
        rw [q] at w
        cases r with
        | exc _ _ => exact w
        | ok f e => cases f <;> exact w
  · cases h3
theorem stores_two {o1 o2 k1 k2 v : Expr} {p2 p4 p5 : Pos} {c1 : _} (env : Env) : swappedStores [.Tuple [.Subscript o1 k1 p2, .Subscript o2 k2 p4] c1 p5] v env = pure none := by
  unfold swappedStores
  cases v <;> first
    | rfl
    | skip
  rename_i vs _ _
  simp
theorem ihs_swp {i : Nat} {k l a b : Ex} : IHS N T g cl G (.swp i k l a b) := by
  intro sc W X x ok hk po h
  unfold mS at h
  split at h
  case h_2 => cases h
  rename_i y1 k1 y2 k2 va vb hx
  obtain ⟨p1, p2, p3, p4, c1, p5, c2, p6, pos, rfl⟩ := swB_ok hx
  simp only [Bool.and_eq_true, Bool.not_eq_true'] at h
  obtain ⟨⟨⟨⟨⟨⟨⟨⟨⟨h1, h2⟩, h3⟩, h4⟩, h5⟩, h6⟩, h7⟩, h8⟩, h9⟩, h10⟩ := h
  have pg1 := pg_sub (X := X) (pos := p2) (ok.nm h1 (p := p1)) (ev_ok k ok h7).1 set_list (fun v => by cases k1 <;> first | rfl | (cases h3; done))
  have pg2 := pg_sub (X := X) (pos := p4) (ok.nm h2 (p := p3)) (ev_ok l ok h8).1 set_list (fun v => by cases k2 <;> first | rfl | (cases h4; done))
  have q := ps_asg (X := X) (pos := pos) (pe_tup (pos := p6) (x1 := c2) (pa_cons (ev_ok a ok h9).1 (pa_cons (ev_ok b ok h10).1 pa_nil (star_cons h6)) (star_cons h5)))
    (pg_tup (pos := p5) (k := c1) ok.calm (pgs_cons pg1 (pgs_cons pg2 pgs_nil))) (swSole rfl _ _) (stores_two _) rfl
  exact RX.PS.weak q fun D σ H w => tS_swp ok.hK w
theorem ihs_trA {b : Sts} {c : Str} {ys : List Str} {i j : Nat} (ib : IHSs N T g cl G b) : IHS N T g cl G (.trA b c ys i j) := by
  intro sc W X x ok hk po h
  unfold mS at h
  split at h
  case h_2 => cases h
  rename_i bx n m y hx
  obtain ⟨p1, p2, p3, p4, p5, pos, rfl⟩ := taB_ok hx
  simp only [Bool.and_eq_true, decide_eq_true_eq, Bool.not_eq_true'] at h
  obtain ⟨⟨⟨⟨⟨⟨⟨⟨⟨rfl, h2⟩, h3⟩, h4⟩, h5⟩, h6⟩, h7⟩, h8⟩, h9⟩, h10⟩ := h
  obtain ⟨g1, g2, g3⟩ := ok.gl h2
  have loc : ∀ {z : Str}, isLoc sc z = true → X.env.kindOf z = some .local := fun {z} h => by
    show X.env.scope.names.lookup z = some .local
    rw [ok.hsc]
    unfold isLoc at h
    split at h
    · assumption
    · cases h
  split at h3
  · rename_i zs hl
    obtain ⟨C, hm, ek⟩ := ok.ecs _ _ hl
    simp only [List.all_eq_true, Bool.and_eq_true, decide_eq_true_eq] at h3
    have q := ps_try_cat (X := X) (x := n) (c := .ref C) (i := i) (j := j) (np := p1) (p' := p5) (pos := pos) (q1 := p2) (q2 := p3) (q3 := p4) (tb := fun W' => tS g W' cl (evSs G b)) (Wout := W) po.stk po.frm (by rw [ok.hN]; exact ok.nd)
      (by rw [ok.hN]; exact h6) (loc h8) (by rw [ok.hN]; exact h5) (loc h7) h9 h10 ⟨g1, g2, .inl hm⟩ ok.tk (fun W' pn xe tk po' => ib (ok.tr tk) hk ⟨po', po.stk, po.frm⟩ h4)
    refine RX.PS.weak q fun D σ H w => ?_
    rw [ok.hK]
    refine tS_trA (c := n) (ys := ys) (fun y hy => ?_) w
    obtain ⟨q1, q2⟩ := h3 y hy
    obtain ⟨Cy, zy, _, _, ey⟩ := cls_ek ok q2
    exact ⟨ek.ca (y, true) q1 rfl, Cy, ey.cv, ey.nm⟩
  · cases h3
theorem ihss_nil : IHSs N T g cl G .nil := by
  intro sc W X xs ok hk po h
  cases xs with
  | nil => exact RX.PSs.weak pss_nil fun D σ H w => tS_nil w
  | cons _ _ => exact no_ h
theorem ihss_cons {s : St} {ss : Sts} (i1 : IHS N T g cl G s) (i2 : IHSs N T g cl G ss) : IHSs N T g cl G (.cons s ss) := by
  intro sc W X xs ok hk po h
  cases xs with
  | nil => exact no_ h
  | cons x xs =>
    have h : (mS N T sc s x && mSs N T sc ss xs) = true := h
    simp only [Bool.and_eq_true] at h
    exact RX.PSs.weak (pss_cons (i1 ok hk po h.1) (i2 ok hk po h.2)) fun D σ H w => tS_cons w
theorem ihss_wip {is : List Nat} {ss : Sts} (i : IHSs N T g cl G ss) : IHSs N T g cl G (.wip is ss) := by
  intro sc W X xs ok hk po h
  have h : mSs N T sc ss xs = true := by
    unfold mSs at h
    exact h
  exact RX.PSs.weak (i ok hk po h) fun D σ H w => tS_wip w
mutual
theorem evS_ok : ∀ (s : St), IHS N T g cl G s
  | .set i e => ihs_set
  | .unp t e => ihs_unp
  | .par i j a b => ihs_par
  | .stx i k e => ihs_stx
  | .exp e => ihs_exp
  | .ret e => ihs_ret
  | .retN => ihs_retN
  | .pass => ihs_pass
  | .brk => ihs_brk
  | .cont => ihs_cont
  | .rse c => ihs_rse
  | .trc b c ys s => ihs_trc (evSs_ok b)
  | .swp i k l a b => ihs_swp
  | .trA b c ys i j => ihs_trA (evSs_ok b)
  | .ifs c a b => ihs_ifs (evSs_ok a) (evSs_ok b)
  | .whl n c b => ihs_whl (evSs_ok b)
  | .for_ t it b => ihs_for (evSs_ok b)
theorem evSs_ok : ∀ (ss : Sts), IHSs N T g cl G ss
  | .nil => ihss_nil
  | .cons s ss => ihss_cons (evS_ok s) (evSs_ok ss)
  | .wip is ss => ihss_wip (evSs_ok ss)
end
end
end RX
/-! RX part tw: statements at a def's top by which kept lists are changed, of which little is known from there on. -/
namespace RX
open PySem L2
mutual
/-- no kept list within -/
def nlA : AV → Bool
  | .lst _ _ => false
  | .frs _ => false
  | .tup xs => nlAs xs
  | _ => true
def nlAs : List AV → Bool
  | [] => true
  | x :: xs => nlA x && nlAs xs
end
mutual
/-- no changed list within -/
def njA : AV → Bool
  | .lst _ _ => false
  | .frs _ => false
  | .jk _ _ => false
  | .tup xs => njAs xs
  | _ => true
def njAs : List AV → Bool
  | [] => true
  | x :: xs => njA x && njAs xs
end
mutual
/-- a changed list may be longer by one -/
def bumA : AV → AV
  | .tup xs => .tup (bumAs xs)
  | .jk w n => .jk w (n + 1)
  | d => d
def bumAs : List AV → List AV
  | [] => []
  | x :: xs => bumA x :: bumAs xs
end
mutual
/-- new lists within: of which only the length is known -/
def jnkA : AV → AV
  | .tup xs => .tup (jnkAs xs)
  | .lst true xs => .jk true xs.length
  | d => d
def jnkAs : List AV → List AV
  | [] => []
  | x :: xs => jnkA x :: jnkAs xs
end
def nlS : Option Slot → Bool
  | some (.val d) => nlA d
  | some (.own _ xs) => nlAs xs
  | some (.io xs) => nlAs xs
  | some (.brw _ xs) => nlAs xs
  | none => true
def njS : Option Slot → Bool
  | some (.val d) => njA d
  | some (.own _ xs) => njAs xs
  | some (.io xs) => njAs xs
  | some (.brw _ xs) => njAs xs
  | none => true
/-- a slot that may be bumped -/
def vwS : Option Slot → Bool
  | some (.val _) => true
  | some (.own _ _) => true
  | _ => false
def bumS : Option Slot → Option Slot
  | some (.val d) => some (.val (bumA d))
  | some (.own w xs) => some (.own w (bumAs xs))
  | s => s
def jnkS : Option Slot → Option Slot
  | some (.val d) => some (.val (jnkA d))
  | some (.own w xs) => some (.own w (jnkAs xs))
  | s => s
/-- all slots but j are free of changed lists, all of kept ones -/
def okJ : Nat → En → Bool
  | _, [] => true
  | 0, s :: r => nlS s && r.all fun s => njS s && nlS s
  | j + 1, s :: r => njS s && nlS s && okJ j r
def updJ : Nat → (Option Slot → Option Slot) → En → En
  | _, _, [] => []
  | 0, f, s :: r => f s :: r
  | j + 1, f, s :: r => s :: updJ j f r
mutual
inductive Wt where
  | st (s : St) | ifs (c : Ex) (a b : Wts) | forR (t : Tg) (e : Ex) (b : Wts) | jm (m : Mt) (j : Nat) (a : Ex) (es : Exs) | clrs (i j : Nat)
inductive Wts where
  | all (ss : Sts) | nil | cons (s : Wt) (ss : Wts) | wip (is : List Nat) (ss : Wts) | jnk (j : Nat) (ss : Wts)
end
def isJk : AV → Bool
  | .jk true _ => true
  | _ => false
def jmE (m : Mt) (n : Nat) (j : Nat) (ds : List AV) (env : En) : Option (R Fl) := if okJ j env then match m, ds with
  | .clr, [] => some (.ok .nx env)
  | .rev, [] => some (.ok .nx env)
  | .app, [_] => if decide (n < sizeLine) && vwS (env.getD j none) then some (.ok .nx (updJ j bumS env)) else none
  | _, _ => none else none
def jkN : AV → Option Nat
  | .jk true n => some n
  | _ => none
mutual
def evW (G : Calls) : Wt → En → Option (R Fl)
  | .st s, env => evS G s env
  | .ifs c a b, env => bnd (bnd (ev G c env) asB) fun t e1 => if t then evWs G a e1 else evWs G b e1
  | .forR t e b, env => bnd (ev G e env) fun d e1 => match d with
    | .int n => if rgOk 0 n then forL t (evWs G b) (rgL 0 n) e1 else none
    | _ => none
  | .jm m j a es, env => bnd (ev G a env) fun d e1 => match jkN d with
    | some n => bnd (evs G es e1) fun ds e2 => jmE m n j ds e2
    | none => none
  | .clrs i j, env => match env[i]? with
    | some (some (.own _ xs)) => if xs.all isJk && okJ i (env.set j none) && wipB env j && decide (i ≠ j) && decide (j < env.length) then some (.ok .nx (env.set j none)) else none
    | _ => none
def evWs (G : Calls) : Wts → En → Option (R Fl)
  | .all ss, env => evSs G ss env
  | .nil, env => some (.ok .nx env)
  | .cons s ss, env => bnd (evW G s env) fun f e1 => match f with
    | .nx => evWs G ss e1
    | f => some (.ok f e1)
  | .wip is ss, env => if is.all (wipB env) then evWs G ss (wipeE env is) else none
  | .jnk j ss, env => if vwS (env.getD j none) then evWs G ss (updJ j jnkS env) else none
end
/-! ### values through such a change -/
section
variable {K : PySem.W.Frag} {H0 H : Hp} {P : Addr → Prop} {a : Addr} {vs ws : List V}
theorem sqT_upd {b : Addr} {us : List V} (ha : H a = some (.lst vs)) (h : SqT K H b us) : SqT K (upd H a (.lst ws)) b us := by
  have ne : ∀ {o : HO}, H b = some o → (∀ z, o ≠ .lst z) → b ≠ a := fun e n z => by rw [z, ha] at e; exact n vs (Option.some.inj e).symm
  rcases h with (h | ⟨o, h⟩) | h
  · exact .inl (.inl (by rw [upd_ne (ne h fun z q => by cases q)]; exact h))
  · exact .inl (.inr ⟨o, by rw [upd_ne (ne h fun z q => by cases q)]; exact h⟩)
  · exact .inr h
mutual
theorem RV.jm (ha : H a = some (.lst vs)) (hl : ws.length ≤ vs.length + 1) : ∀ {d : AV} {v : V}, RV K H0 H P d v → nlA d = true → RV K H0 (upd H a (.lst ws)) P (bumA d) v
  | _, _, .non, _ => .non
  | _, _, .bl b, _ => .bl b
  | _, _, .int i, _ => .int i
  | _, _, .str x, _ => .str x
  | _, _, .ty n, _ => .ty n
  | _, _, .tup h r, n => .tup (sqT_upd ha h) (RVs.jm ha hl r n)
  | _, _, .lst _ _ _ _, n => by cases n
  | _, _, .fn h, _ => .fn h
  | _, _, .exo h k, _ => .exo (by rw [upd_ne fun z => by rw [z, ha] at h; exact exn_ne _ (Option.some.inj h).symm]; exact h) k
  | _, _, .dcx h, _ => .dcx (by rw [upd_ne fun z => by rw [z, ha] at h; cases h]; exact h)
  | _, _, .jk (a := b) (n := n) h q k l, _ => by
    by_cases e : b = a
    · subst e
      rw [ha] at h
      cases h
      exact .jk upd_same q k (Nat.le_trans hl (Nat.add_le_add_right l 1))
    · exact .jk (by rw [upd_ne e]; exact h) q k (Nat.le_succ_of_le l)
theorem RVs.jm (ha : H a = some (.lst vs)) (hl : ws.length ≤ vs.length + 1) : ∀ {d : List AV} {v : List V}, RVs K H0 H P d v → nlAs d = true → RVs K H0 (upd H a (.lst ws)) P (bumAs d) v
  | _, _, .nil, _ => .nil
  | _, _, .cons r q, n => by
    unfold nlAs at n
    simp only [Bool.and_eq_true] at n
    exact .cons (RV.jm ha hl r n.1) (RVs.jm ha hl q n.2)
end
mutual
theorem RV.js (ha : H a = some (.lst vs)) (hl : ws.length ≤ vs.length) : ∀ {d : AV} {v : V}, RV K H0 H P d v → nlA d = true → RV K H0 (upd H a (.lst ws)) P d v
  | _, _, .non, _ => .non
  | _, _, .bl b, _ => .bl b
  | _, _, .int i, _ => .int i
  | _, _, .str x, _ => .str x
  | _, _, .ty n, _ => .ty n
  | _, _, .tup h r, n => .tup (sqT_upd ha h) (RVs.js ha hl r n)
  | _, _, .lst _ _ _ _, n => by cases n
  | _, _, .fn h, _ => .fn h
  | _, _, .exo h k, _ => .exo (by rw [upd_ne fun z => by rw [z, ha] at h; exact exn_ne _ (Option.some.inj h).symm]; exact h) k
  | _, _, .dcx h, _ => .dcx (by rw [upd_ne fun z => by rw [z, ha] at h; cases h]; exact h)
  | _, _, .jk (a := b) (n := n) h q k l, _ => by
    by_cases e : b = a
    · subst e
      rw [ha] at h
      cases h
      exact .jk upd_same q k (Nat.le_trans hl l)
    · exact .jk (by rw [upd_ne e]; exact h) q k l
theorem RVs.js (ha : H a = some (.lst vs)) (hl : ws.length ≤ vs.length) : ∀ {d : List AV} {v : List V}, RVs K H0 H P d v → nlAs d = true → RVs K H0 (upd H a (.lst ws)) P d v
  | _, _, .nil, _ => .nil
  | _, _, .cons r q, n => by
    unfold nlAs at n
    simp only [Bool.and_eq_true] at n
    exact .cons (RV.js ha hl r n.1) (RVs.js ha hl q n.2)
end
mutual
theorem bum_nj : ∀ {d : AV}, njA d = true → bumA d = d
  | .non, _ => rfl
  | .bl _, _ => rfl
  | .int _, _ => rfl
  | .str _, _ => rfl
  | .tup xs, h => by
    show AV.tup (bumAs xs) = _
    rw [bums_nj (show njAs xs = true from h)]
  | .lst _ _, h => by cases h
  | .frs _, h => by cases h
  | .sl _, _ => rfl
  | .fn _, _ => rfl
  | .ty _, _ => rfl
  | .jk _ _, h => by cases h
  | .exo _, _ => rfl
  | .dcx, _ => rfl
theorem bums_nj : ∀ {d : List AV}, njAs d = true → bumAs d = d
  | [], _ => rfl
  | x :: xs, h => by
    have h : (njA x && njAs xs) = true := h
    simp only [Bool.and_eq_true] at h
    show bumA x :: bumAs xs = _
    rw [bum_nj h.1, bums_nj h.2]
end
mutual
theorem RV.jnk : ∀ {d : AV} {v : V}, RV K H0 H P d v → RV K H0 H P (jnkA d) v
  | _, _, .non => .non
  | _, _, .bl b => .bl b
  | _, _, .int i => .int i
  | _, _, .str x => .str x
  | _, _, .ty n => .ty n
  | _, _, .tup h r => .tup h (RVs.jnk r)
  | _, _, .lst (nw := true) h n k r => .jk h n k (by rw [r.length]; exact Nat.le_refl _)
  | _, _, .lst (nw := false) h n k r => .lst h n k r
  | _, _, .fn h => .fn h
  | _, _, .exo h k => .exo h k
  | _, _, .dcx h => .dcx h
  | _, _, .jk h q k l => .jk h q k l
theorem RVs.jnk : ∀ {d : List AV} {v : List V}, RVs K H0 H P d v → RVs K H0 H P (jnkAs d) v
  | _, _, .nil => .nil
  | _, _, .cons r q => .cons (RV.jnk r) (RVs.jnk q)
end
end
theorem okJ_get : ∀ {j : Nat} {env : En}, okJ j env = true → ∀ (k : Nat) (s : Option Slot), env[k]? = some s → nlS s = true ∧ (k ≠ j → njS s = true)
  | _, [], _, _, _, h => by simp at h
  | 0, s :: r, h, k, t, e => by
    have h : (nlS s && r.all fun s => njS s && nlS s) = true := h
    simp only [Bool.and_eq_true, List.all_eq_true] at h
    cases k with
    | zero => simp at e; subst e; exact ⟨h.1, fun z => absurd rfl z⟩
    | succ k =>
      simp at e
      have := h.2 t (List.mem_of_getElem? e)
      exact ⟨this.2, fun _ => this.1⟩
  | j + 1, s :: r, h, k, t, e => by
    have h : (njS s && nlS s && okJ j r) = true := h
    simp only [Bool.and_eq_true] at h
    cases k with
    | zero => simp at e; subst e; exact ⟨h.1.2, fun _ => h.1.1⟩
    | succ k =>
      simp at e
      obtain ⟨q1, q2⟩ := okJ_get h.2 k t e
      exact ⟨q1, fun z => q2 fun w => z (by rw [w])⟩
theorem updJ_len : ∀ {j : Nat} {f : Option Slot → Option Slot} {env : En}, (updJ j f env).length = env.length
  | _, _, [] => by cases ‹Nat› <;> rfl
  | 0, _, _ :: _ => rfl
  | j + 1, f, s :: r => by
    show (s :: updJ j f r).length = _
    rw [List.length_cons, updJ_len, List.length_cons]
theorem updJ_get : ∀ {j : Nat} {f : Option Slot → Option Slot} {env : En} {k : Nat} {t : Option Slot}, (updJ j f env)[k]? = some t → ∃ s, env[k]? = some s ∧ t = if k = j then f s else s
  | _, _, [], _, _, h => by cases ‹Nat› <;> simp [updJ] at h
  | 0, f, s :: r, k, t, h => by
    cases k with
    | zero =>
      simp [updJ] at h
      exact ⟨s, rfl, by simp [h]⟩
    | succ k =>
      simp [updJ] at h
      exact ⟨t, by simpa using h, by simp⟩
  | j + 1, f, s :: r, k, t, h => by
    cases k with
    | zero =>
      simp [updJ] at h
      exact ⟨s, rfl, by simp [h]⟩
    | succ k =>
      simp [updJ] at h
      obtain ⟨s', q1, q2⟩ := updJ_get h
      exact ⟨s', by simpa using q1, by simpa using q2⟩
theorem updJ_get2 : ∀ {j : Nat} {f : Option Slot → Option Slot} {env : En} {k : Nat} {s : Option Slot}, env[k]? = some s → (updJ j f env)[k]? = some (if k = j then f s else s)
  | _, _, [], _, _, h => by simp at h
  | 0, f, s :: r, k, t, h => by
    cases k with
    | zero => simp at h; simp [updJ, h]
    | succ k => simp at h; simp [updJ, h]
  | j + 1, f, s :: r, k, t, h => by
    cases k with
    | zero => simp at h; simp [updJ, h]
    | succ k =>
      simp at h
      have := updJ_get2 (j := j) (f := f) h
      simpa [updJ] using this
section
variable {g : Gh} {N : Addr → Prop} {env : En} {σ : L2.St} {H : Hp}
/-- what such a change keeps -/
abbrev Aw (g : Gh) (N : Addr → Prop) : Addr → Prop := fun b => g.H0 b ≠ none ∨ N b
theorem okJ_rv {j : Nat} (h : okJ j env = true) : (∀ k d, env[k]? = some (some (.val d)) → nlA d = true ∧ (k ≠ j → njA d = true)) ∧ (∀ k w xs, env[k]? = some (some (.own w xs)) → nlAs xs = true ∧ (k ≠ j → njAs xs = true)) ∧
    (∀ k xs, env[k]? = some (some (.io xs)) → nlAs xs = true ∧ (k ≠ j → njAs xs = true)) ∧ ∀ k w xs, env[k]? = some (some (.brw w xs)) → nlAs xs = true ∧ (k ≠ j → njAs xs = true) :=
  ⟨fun k _ e => okJ_get h k _ e, fun k _ _ e => okJ_get h k _ e, fun k _ e => okJ_get h k _ e, fun k _ _ e => okJ_get h k _ e⟩
theorem vw_at {j : Nat} (h : vwS (env.getD j none) = true) : (∀ xs, env[j]? ≠ some (some (.io xs))) ∧ ∀ t xs, env[j]? ≠ some (some (.brw t xs)) := by
  constructor
  · intro xs e
    rw [List.getD_eq_getElem?_getD, e] at h
    cases h
  · intro t xs e
    rw [List.getD_eq_getElem?_getD, e] at h
    cases h
/-- a slot's view changed, its kind kept -/
structure Vw (f : Option Slot → Option Slot) : Prop where
  non : f none = none
  val : ∀ d, ∃ d', f (some (.val d)) = some (.val d')
  own : ∀ w xs, ∃ xs', f (some (.own w xs)) = some (.own w xs')
  io : ∀ xs, f (some (.io xs)) = some (.io xs)
  brw : ∀ w xs, f (some (.brw w xs)) = some (.brw w xs)
theorem vw_bum : Vw bumS := ⟨rfl, fun d => ⟨_, rfl⟩, fun _ _ => ⟨_, rfl⟩, fun _ => rfl, fun _ _ => rfl⟩
theorem vw_jnk : Vw jnkS := ⟨rfl, fun d => ⟨_, rfl⟩, fun _ _ => ⟨_, rfl⟩, fun _ => rfl, fun _ _ => rfl⟩
theorem Vw.mut {f : Option Slot → Option Slot} (v : Vw f) {j k : Nat} : IsMut (updJ j f env) k ↔ IsMut env k := by
  constructor
  · rintro ⟨sl, h1, h2⟩
    obtain ⟨s, e1, e2⟩ := updJ_get h1
    split at e2
    · cases s with
      | none => rw [v.non] at e2; cases e2
      | some s =>
        cases s with
        | val d => obtain ⟨d', q⟩ := v.val d; rw [q] at e2; cases e2; cases h2
        | own w xs => exact ⟨_, e1, rfl⟩
        | io xs => exact ⟨_, e1, rfl⟩
        | brw w xs => rw [v.brw] at e2; cases e2; cases h2
    · subst e2; exact ⟨sl, e1, h2⟩
  · rintro ⟨sl, h1, h2⟩
    have e := updJ_get2 (j := j) (f := f) h1
    split at e
    · cases sl with
      | val d => cases h2
      | own w xs => obtain ⟨d', q⟩ := v.own w xs; rw [q] at e; exact ⟨_, e, rfl⟩
      | io xs => rw [v.io] at e; exact ⟨_, e, rfl⟩
      | brw w xs => cases h2
    · exact ⟨sl, e, h2⟩
theorem Vw.pm {f : Option Slot → Option Slot} (v : Vw f) {j : Nat} {b : Addr} : Pm (updJ j f env) σ b ↔ Pm env σ b :=
  ⟨fun ⟨k, h, e⟩ => ⟨k, v.mut.mp h, e⟩, fun ⟨k, h, e⟩ => ⟨k, v.mut.mpr h, e⟩⟩
theorem Vw.stp {f : Option Slot → Option Slot} (v : Vw f) {A : Addr → Prop} {j : Nat} {H' : Hp} (ext : ∀ b o, H b = some o → A b → ¬ Pm env σ b → H' b = some o) (dom : ∀ b, H b ≠ none → H' b ≠ none) : Stp A env σ H (updJ j f env) σ H' := by
  refine ⟨ext, fun b h => .inl (v.pm.mp h), dom, fun k t xs e => ⟨?_, rfl⟩, fun k xs e => ⟨⟨xs, ?_⟩, rfl⟩, fun k t xs e => ?_⟩
  · have q := updJ_get2 (j := j) (f := f) e
    rw [v.brw, ite_self] at q
    exact q
  · have q := updJ_get2 (j := j) (f := f) e
    rw [v.io, ite_self] at q
    exact q
  · obtain ⟨s, e1, e2⟩ := updJ_get e
    split at e2
    · cases s with
      | none => rw [v.non] at e2; cases e2
      | some s =>
        cases s with
        | val d => obtain ⟨d', q⟩ := v.val d; rw [q] at e2; cases e2
        | own w xs => obtain ⟨d', q⟩ := v.own w xs; rw [q] at e2; cases e2
        | io xs => rw [v.io] at e2; cases e2
        | brw w xs => rw [v.brw] at e2; cases e2; exact e1
    · subst e2; exact e1
/-- a state whose slots are seen otherwise: from what holds of the values -/
theorem Vw.sr {f : Option Slot → Option Slot} (v : Vw f) {j : Nat} {H' : Hp} (s : SR g N env σ H)
    (keep : ∀ b o, g.H0 b = some o → ¬ g.IO b → H' b = some o) (dom : ∀ b, H b ≠ none → H' b ≠ none) (lst : ∀ b vs, H b = some (.lst vs) → (Pv N env σ b) → H' b = some (.lst vs)) (frz : ∀ b o vs, H b = some (.frz o (.lst vs)) → H' b = some (.frz o (.lst vs)))
    (val : ∀ (k : Nat) (d d' : AV) (x : V), env[k]? = some (some (.val d)) → (updJ j f env)[k]? = some (some (.val d')) → RV g.K g.H0 H (Pv N env σ) d x → RV g.K g.H0 H' (Pv N env σ) d' x)
    (own : ∀ (k : Nat) (w : Bool) (xs xs' : List AV) (us : List V), env[k]? = some (some (.own w xs)) → (updJ j f env)[k]? = some (some (.own w xs')) → RVs g.K g.H0 H (Pv N env σ) xs us → RVs g.K g.H0 H' (Pv N env σ) xs' us)
    (io : ∀ (k : Nat) (xs : List AV) (us : List V), env[k]? = some (some (.io xs)) → RVs g.K g.H0 H (Pv N env σ) xs us → RVs g.K g.H0 H' (Pv N env σ) xs us)
    (brw : ∀ (k : Nat) (w : Bool) (xs : List AV) (us : List V), env[k]? = some (some (.brw w xs)) → RVs g.K g.H0 H (Pv N env σ) xs us → RVs g.K g.H0 H' (Pv N env σ) xs us) : SR g N (updJ j f env) σ H' := by
  have st : Stab (Pv N env σ) H' H' := fun _ _ h _ => h
  have hP : ∀ b, Pv N (updJ j f env) σ b → H' b ≠ none → Pv N env σ b := fun b h _ => h.imp id v.pm.mp
  have back : ∀ {k : Nat} {sl : Slot}, (updJ j f env)[k]? = some (some sl) → (∃ d d', sl = .val d' ∧ env[k]? = some (some (.val d))) ∨ (∃ w xs xs', sl = .own w xs' ∧ env[k]? = some (some (.own w xs))) ∨ ((∃ xs, sl = .io xs) ∨ ∃ w xs, sl = .brw w xs) ∧ env[k]? = some (some sl) := fun {k sl} e => by
    obtain ⟨s0, e1, e2⟩ := updJ_get e
    split at e2
    · cases s0 with
      | none => rw [v.non] at e2; cases e2
      | some s0 =>
        cases s0 with
        | val d => obtain ⟨d', q⟩ := v.val d; rw [q] at e2; cases e2; exact .inl ⟨d, d', rfl, e1⟩
        | own w xs => obtain ⟨d', q⟩ := v.own w xs; rw [q] at e2; cases e2; exact .inr (.inl ⟨w, xs, d', rfl, e1⟩)
        | io xs => rw [v.io] at e2; cases e2; exact .inr (.inr ⟨.inl ⟨_, rfl⟩, e1⟩)
        | brw w xs => rw [v.brw] at e2; cases e2; exact .inr (.inr ⟨.inr ⟨_, _, rfl⟩, e1⟩)
    · subst e2
      cases sl with
      | val d => exact .inl ⟨d, d, rfl, e1⟩
      | own w xs => exact .inr (.inl ⟨w, xs, xs, rfl, e1⟩)
      | io xs => exact .inr (.inr ⟨.inl ⟨_, rfl⟩, e1⟩)
      | brw w xs => exact .inr (.inr ⟨.inr ⟨_, _, rfl⟩, e1⟩)
  refine ⟨by rw [updJ_len]; exact s.len, fun k d' e => ?_, fun k w xs' e => ?_, fun k xs e => ?_, fun k w xs e => ?_, fun k l b hk hl ek el => s.inj k l b (v.mut.mp hk) (v.mut.mp hl) ek el, keep, fun b h => dom b (s.dom b h), fun b h => dom b (s.nst b h)⟩
  · rcases back e with ⟨d, d2, z, e1⟩ | ⟨w, xs, xs', z, _⟩ | ⟨⟨_, z⟩ | ⟨_, _, z⟩, _⟩ <;> cases z
    obtain ⟨x, q1, q2⟩ := s.val k d e1
    exact ⟨x, q1, (val k d d' x e1 e q2).mono st hP⟩
  · rcases back e with ⟨d, d2, z, e1⟩ | ⟨w2, xs, xs2, z, e1⟩ | ⟨⟨_, z⟩ | ⟨_, _, z⟩, _⟩ <;> cases z
    obtain ⟨a, us, q1, q2, q3, q4⟩ := s.own k w xs e1
    exact ⟨a, us, q1, lst a us q2 (.inr ⟨k, ⟨_, e1, rfl⟩, q1⟩), (own k w xs xs' us e1 e q3).mono st hP, q4⟩
  · rcases back e with ⟨d, d2, z, e1⟩ | ⟨w2, xs, xs2, z, e1⟩ | ⟨_, e1⟩
    · cases z
    · cases z
    · obtain ⟨a, us, q1, q2, q3, q4⟩ := s.io k xs e1
      exact ⟨a, us, q1, lst a us q2 (.inr ⟨k, ⟨_, e1, rfl⟩, q1⟩), (io k xs us e1 q3).mono st hP, q4⟩
  · rcases back e with ⟨d, d2, z, e1⟩ | ⟨w2, xs, xs2, z, e1⟩ | ⟨_, e1⟩
    · cases z
    · cases z
    · obtain ⟨a, us, q1, q2⟩ := s.brw k w xs e1
      refine ⟨a, us, q1, ?_⟩
      rcases q2 with q2 | ⟨q2 | ⟨o, q2⟩, q3, q4, q5⟩
      · exact .inl q2
      · exact .inr ⟨.inl (lst a us q2 (.inl q3)), q3, (brw k w xs us e1 q4).mono st hP, fun z => lst a us (q5 z) (.inl q3)⟩
      · exact .inr ⟨.inr ⟨o, frz a o us q2⟩, q3, (brw k w xs us e1 q4).mono st hP, fun z => lst a us (q5 z) (.inl q3)⟩
theorem sr_jnk {j : Nat} (s : SR g N env σ H) (h : vwS (env.getD j none) = true) : SR g N (updJ j jnkS env) σ H ∧ Stp All env σ H (updJ j jnkS env) σ H := by
  refine ⟨vw_jnk.sr s s.keep (fun _ h => h) (fun _ _ h _ => h) (fun _ _ _ h => h) (fun k d d' x e e' r => ?_) (fun k w xs xs' us e e' r => ?_) (fun _ _ _ _ r => r) fun _ _ _ _ _ r => r, vw_jnk.stp (fun _ _ h _ _ => h) fun _ h => h⟩
  · rw [updJ_get2 e] at e'
    split at e'
    · cases e'; exact RV.jnk r
    · cases e'; exact r
  · rw [updJ_get2 e] at e'
    split at e'
    · cases e'; exact RVs.jnk r
    · cases e'; exact r
section
variable {a : Addr} {vs ws : List V} {j : Nat}
theorem jm_parts (s : SR g N env σ H) (ha : H a = some (.lst vs)) (hp : ¬ Pv N env σ a) (h0 : g.H0 a = none) :
    (∀ b o, g.H0 b = some o → ¬ g.IO b → upd H a (.lst ws) b = some o) ∧ (∀ b, H b ≠ none → upd H a (.lst ws) b ≠ none) ∧ (∀ b vs, H b = some (.lst vs) → Pv N env σ b → upd H a (.lst ws) b = some (.lst vs)) ∧ (∀ b o vs, H b = some (.frz o (.lst vs)) → upd H a (.lst ws) b = some (.frz o (.lst vs))) ∧
    ∀ b o, H b = some o → Aw g N b → ¬ Pm env σ b → upd H a (.lst ws) b = some o := by
  refine ⟨fun b o e n => ?_, fun b h => ?_, fun b vs e q => ?_, fun b o vs e => ?_, fun b o e q n => ?_⟩
  · rw [upd_ne fun z => by rw [z, h0] at e; cases e]
    exact s.keep b o e n
  · by_cases z : b = a
    · rw [z, upd_same]; simp
    · rw [upd_ne z]; exact h
  · rw [upd_ne fun z => by rw [z] at q; exact hp q]; exact e
  · rw [upd_ne fun z => by rw [z, ha] at e; cases e]; exact e
  · rw [upd_ne fun z => by
      subst z
      rcases q with q | q
      · exact q h0
      · exact hp (.inl q)]
    exact e
theorem sr_jm (s : SR g N env σ H) (ha : H a = some (.lst vs)) (hp : ¬ Pv N env σ a) (h0 : g.H0 a = none) (hj : okJ j env = true) (hv : vwS (env.getD j none) = true) (hl : ws.length ≤ vs.length + 1) :
    SR g N (updJ j bumS env) σ (upd H a (.lst ws)) ∧ Stp (Aw g N) env σ H (updJ j bumS env) σ (upd H a (.lst ws)) := by
  obtain ⟨p1, p2, p3, p4, p5⟩ := jm_parts (ws := ws) s ha hp h0
  obtain ⟨k1, k2, k3, k4⟩ := okJ_rv hj
  obtain ⟨v1, v2⟩ := vw_at hv
  refine ⟨vw_bum.sr s p1 p2 p3 p4 (fun k d d' x e e' r => ?_) (fun k w xs xs' us e e' r => ?_) (fun k xs us e r => ?_) fun k w xs us e r => ?_, vw_bum.stp p5 p2⟩
  · have q := RV.jm (ws := ws) ha hl r (k1 k d e).1
    rw [updJ_get2 e] at e'
    split at e'
    · cases e'; exact q
    · rename_i hk
      cases e'
      rw [bum_nj ((k1 k d e).2 hk)] at q
      exact q
  · have q := RVs.jm (ws := ws) ha hl r (k2 k w xs e).1
    rw [updJ_get2 e] at e'
    split at e'
    · cases e'; exact q
    · rename_i hk
      cases e'
      rw [bums_nj ((k2 k w xs e).2 hk)] at q
      exact q
  · have q := RVs.jm (ws := ws) ha hl r (k3 k xs e).1
    rw [bums_nj ((k3 k xs e).2 fun z => v1 xs (z ▸ e))] at q
    exact q
  · have q := RVs.jm (ws := ws) ha hl r (k4 k w xs e).1
    rw [bums_nj ((k4 k w xs e).2 fun z => v2 w xs (z ▸ e))] at q
    exact q
theorem updJ_id : ∀ {j : Nat} {env : En}, updJ j (fun s => s) env = env
  | 0, [] => rfl
  | _ + 1, [] => rfl
  | 0, _ :: _ => rfl
  | j + 1, s :: r => by show s :: updJ j (fun s => s) r = _; rw [updJ_id]
theorem vw_id : Vw fun s => s := ⟨rfl, fun d => ⟨_, rfl⟩, fun _ _ => ⟨_, rfl⟩, fun _ => rfl, fun _ _ => rfl⟩
theorem sr_js (s : SR g N env σ H) (ha : H a = some (.lst vs)) (hp : ¬ Pv N env σ a) (h0 : g.H0 a = none) (hn : ∀ (k : Nat) (t : Option Slot), env[k]? = some t → nlS t = true) (hl : ws.length ≤ vs.length) :
    SR g N env σ (upd H a (.lst ws)) ∧ Stp (Aw g N) env σ H env σ (upd H a (.lst ws)) := by
  obtain ⟨p1, p2, p3, p4, p5⟩ := jm_parts (ws := ws) s ha hp h0
  have q1 := vw_id.sr (j := 0) s p1 p2 p3 p4 (fun k d d' x e e' r => by
      rw [updJ_id, e] at e'
      cases e'
      exact RV.js ha hl r (hn k _ e)) (fun k w xs xs' us e e' r => by
      rw [updJ_id, e] at e'
      cases e'
      exact RVs.js ha hl r (hn k _ e)) (fun k xs us e r => RVs.js ha hl r (hn k _ e)) fun k w xs us e r => RVs.js ha hl r (hn k _ e)
  have q2 := vw_id.stp (j := 0) (A := Aw g N) p5 p2
  rw [updJ_id] at q1 q2
  exact ⟨q1, q2⟩
end
end
end RX
/-! RX part tx: those statements do what the evaluator says. -/
namespace RX
open PySem L2
def FlW (g : Gh) (N : Addr → Prop) (env : En) (σ : L2.St) (H : Hp) (D : Ends) (f : Fl) (env' : En) : Prop := match f with
  | .nx => ∀ σ' H', Stp (Aw g N) env σ H env' σ' H' → SR g N env' σ' H' → D.nx σ' H'
  | .rt d => ∀ σ' H' v, Stp (Aw g N) env σ H env' σ' H' → Posts g (Fr env σ H) env' σ' H' N [d] [v] → D.rt v H'
  | .bk => ∀ σ' H', Stp (Aw g N) env σ H env' σ' H' → SR g N env' σ' H' → D.bk σ' H'
  | .ct => ∀ σ' H', Stp (Aw g N) env σ H env' σ' H' → SR g N env' σ' H' → D.ct σ' H'
def FlWX (g : Gh) (W : WX) (cl : Str → Value) (N : Addr → Prop) (env : En) (σ : L2.St) (H : Hp) (c : Str) (env' : En) : Prop := ∀ σ' H' (dd : Unit), Stp (Aw g N) env σ H env' σ' H' → SR g N env' σ' H' → W (cl c) none σ' H'
def tW (g : Gh) (W : WX) (cl : Str → Value) (r : En → Option (R Fl)) : TS := fun D σ H => ∃ N env, SR g N env σ H ∧ wpR (r env) (FlW g N env σ H D) (FlWX g W cl N env σ H)
section
variable {g : Gh} {W : WX} {cl : Str → Value} {G : Calls} {N N' : Addr → Prop} {env env1 env2 : En} {σ σ1 σ2 : L2.St} {H H1 H2 : Hp} {D : Ends} {f : Fl}
theorem FlW.fl (h : FlW g N env σ H D f env2) : FlD g N env σ H D f env2 := by
  cases f with
  | nx => exact fun σ' H' t s => h σ' H' (t.weak fun _ _ => trivial) s
  | bk => exact fun σ' H' t s => h σ' H' (t.weak fun _ _ => trivial) s
  | ct => exact fun σ' H' t s => h σ' H' (t.weak fun _ _ => trivial) s
  | rt d => exact fun σ' H' v t p => h σ' H' v (t.weak fun _ _ => trivial) p
theorem FlW.trans (t : Stp (Aw g N) env σ H env1 σ1 H1) (h : FlW g N env σ H D f env2) : FlW g N env1 σ1 H1 D f env2 := by
  cases f with
  | nx => exact fun σ' H' t' s => h σ' H' (t.trans t') s
  | bk => exact fun σ' H' t' s => h σ' H' (t.trans t') s
  | ct => exact fun σ' H' t' s => h σ' H' (t.trans t') s
  | rt d => exact fun σ' H' v t' p => h σ' H' v (t.trans t') (p.monoF (Fr.sub t))
theorem FlWX.trans {c : Str} (t : Stp (Aw g N) env σ H env1 σ1 H1) (h : FlWX g W cl N env σ H c env2) : FlWX g W cl N env1 σ1 H1 c env2 := fun σ' H' dd t' s => h σ' H' dd (t.trans t') s
theorem Stp.w {A : Addr → Prop} (t : Stp All env σ H env1 σ1 H1) : Stp A env σ H env1 σ1 H1 := t.weak fun _ _ => trivial
theorem tW_from {r : En → Option (R Fl)} (t : Stp (Aw g N) env σ H env1 σ1 H1) (s : SR g N env1 σ1 H1) (h : wpR (r env1) (FlW g N env σ H D) (FlWX g W cl N env σ H)) : tW g W cl r D σ1 H1 :=
  ⟨N, env1, s, wpR_mono h (fun _ _ h => h.trans t) fun _ _ h => FlWX.trans t h⟩
theorem tW_s {r : En → Option (R Fl)} (h : tW g W cl r D σ H) : tS g W cl r D σ H := by
  obtain ⟨N, env, s, h⟩ := h
  exact ⟨N, env, s, wpR_mono h (fun _ _ h => h.fl) fun _ _ h σ' H' dd t s => h σ' H' dd t.w s⟩
theorem tW_nil (h : tW g W cl (evWs G .nil) D σ H) : tNext D σ H := by
  obtain ⟨N, env, s, h⟩ := h
  have h : FlW g N env σ H D .nx env := h
  exact h σ H Stp.refl s
theorem tW_cons {s : Wt} {ss : Wts} (h : tW g W cl (evWs G (.cons s ss)) D σ H) : tSeq (tW g W cl (evW G s)) (tW g W cl (evWs G ss)) D σ H := by
  obtain ⟨N, env, s0, h⟩ := h
  unfold evWs at h
  refine ⟨N, env, s0, wpR_mono (wpR_bnd h) (fun f env1 h => ?_) fun _ _ h => h⟩
  cases f with
  | nx =>
    have h : wpR (evWs G ss env1) (FlW g N env σ H D) (FlWX g W cl N env σ H) := h
    exact fun σ1 H1 t1 s1 => tW_from t1 s1 h
  | rt d => exact h
  | bk => exact h
  | ct => exact h
theorem tW_wip {is : List Nat} {ss : Wts} (h : tW g W cl (evWs G (.wip is ss)) D σ H) : tW g W cl (evWs G ss) D σ H := by
  obtain ⟨N, env, s0, h⟩ := h
  unfold evWs at h
  split at h
  · rename_i hw
    obtain ⟨s1, t1⟩ := forget s0 hw
    exact tW_from t1.w s1 h
  · exact h.elim
theorem tW_jnk {j : Nat} {ss : Wts} (h : tW g W cl (evWs G (.jnk j ss)) D σ H) : tW g W cl (evWs G ss) D σ H := by
  obtain ⟨N, env, s0, h⟩ := h
  unfold evWs at h
  split at h
  · rename_i hw
    obtain ⟨s1, t1⟩ := sr_jnk s0 hw
    exact tW_from t1.w s1 h
  · exact h.elim
theorem tW_ifs {c : Ex} {a b : Wts} (h : tW g W cl (evW G (.ifs c a b)) D σ H) : tIfS (tT g W cl fun env => bnd (ev G c env) asB) (tW g W cl (evWs G a)) (tW g W cl (evWs G b)) D σ H := by
  obtain ⟨N, env, s0, h⟩ := h
  unfold evW at h
  refine ⟨N, env, s0, wpR_mono (wpR_bnd h) (fun t env1 h H1 t1 s1 => ?_) fun c e h H' dd t s => h σ H' dd t.w s⟩
  cases t with
  | true => exact tW_from t1.w s1 h
  | false => exact tW_from t1.w s1 h
theorem tW_forR {t : Tg} {e : Ex} {b : Wts} (h : tW g W cl (evW G (.forR t e b)) D σ H) : tFor (iRng1 (tCons (tE g W cl (ev G e)) tNil)) (tG g t) (tW g W cl (evWs G b)) D σ H := by
  obtain ⟨N, env, s0, h⟩ := h
  unfold evW at h
  refine ⟨N, env, s0, wpR_mono (wpR_bnd h) ?_ fun c e h H' dd t s => h σ H' dd t.w s⟩
  intro d env1 h H1 v t1 p1
  split at h
  case h_2 => exact h.elim
  rename_i n
  split at h
  case isFalse => exact h.elim
  rename_i hr
  cases hd_int p1.1
  have s1 := p1.sr
  simp only [rgOk, Bool.and_eq_true, decide_eq_true_eq] at hr
  refine ⟨n, rfl, hr.1.2, hr.2, ?_⟩
  have el : (rgL 0 n).length = n.toNat := by unfold rgL; simp
  have eg : ∀ i, i < n.toNat → (rgL 0 n)[i]? = some (.int (0 + (i : Nat))) := fun i hi => by
    unfold rgL
    rw [List.getElem?_map, List.getElem?_range (by simpa using hi)]
    rfl
  refine for_it walk_range (fun i σi Hi => i ≤ n.toNat ∧ ∃ env_i, Stp (Aw g N) env σ H env_i σi Hi ∧ SR g N env_i σi Hi ∧ wpR (forL t (evWs G b) ((rgL 0 n).drop i) env_i) (FlW g N env σ H D) (FlWX g W cl N env σ H))
    ⟨Nat.zero_le _, env1, t1.w, s1, h⟩ (fun _ _ _ _ _ => trivial) ?_ ?_
  · rintro i x σi Hi H3 hi ⟨_, env_i, ti, si, hr⟩ ⟨rfl, rfl⟩
    rw [drop_get (eg i hi)] at hr
    unfold forL at hr
    split at hr
    · exact hr.elim
    · rename_i env_a ea
      refine ⟨env_i, σi, H3, N, env_i, .int (0 + (i : Nat)), env_a, Stp.refl, post_sto si (.int _), ea, fun σ' sa ta _ _ => ?_⟩
      have tia := ti.trans (ta.w (A := Aw g N))
      refine ⟨N, env_a, sa, wpR_mono (wpR_bnd hr) (fun f env_b hr => ?_) fun c env_b hr σ2 H4 dd tb sb => hr σ2 H4 dd (tia.trans tb) sb⟩
      cases f with
      | nx => exact fun σ2 H4 tb sb => ⟨hi, env_b, tia.trans tb, sb, hr⟩
      | ct => exact fun σ2 H4 tb sb => ⟨hi, env_b, tia.trans tb, sb, hr⟩
      | bk =>
        have hr : FlW g N env σ H D .nx env_b := hr
        exact fun σ2 H4 tb sb => hr σ2 H4 (tia.trans tb) sb
      | rt d =>
        have hr : FlW g N env σ H D (.rt d) env_b := hr
        exact fun σ2 H4 v tb pb => hr σ2 H4 v (tia.trans tb) (pb.monoF (Fr.sub tia))
  · rintro σn Hn ⟨_, env_n, tn, sn, hr⟩
    rw [List.drop_of_length_le (by rw [el]; exact Nat.le_refl _)] at hr
    have hr : FlW g N env σ H D .nx env_n := hr
    exact hr σn Hn tn sn
/-- what the three methods do to a list -/
def jmL : Mt → List V → List V → Option (List V)
  | .clr, _, [] => some []
  | .rev, vs, [] => some vs.reverse
  | .app, vs, [v] => some (vs ++ [v])
  | _, _, _ => none
def jmR (m : Mt) (r : V → List V → Hp → VK → Prop) : Prop := ∀ (a : Addr) (vs us ws : List V) (H : Hp) (Q : VK), H a = some (.lst vs) → jmL m vs us = some ws → (m = .app → vs.length < sizeLine) → Q .non (upd H a (.lst ws)) → r (.ref a) us H Q
theorem jm_mt (g0 : Gh) (X : Cx) (m : Mt) : ∃ r, MtR X (mtV m) r ∧ jmR m r := by
  obtain ⟨r0, k0, _⟩ := mt_ok (g := g0) X m
  cases m
  · refine ⟨rAppend, mt_append, fun a vs us ws H Q h e l q => ?_⟩
    match us, e with
    | [u], e =>
      cases e
      exact ⟨a, vs, u, rfl, rfl, h, l rfl, q⟩
  · exact ⟨r0, k0, fun a vs us ws H Q h e l q => by cases e⟩
  · exact ⟨r0, k0, fun a vs us ws H Q h e l q => by cases e⟩
  · refine ⟨rClear, mt_clear, fun a vs us ws H Q h e l q => ?_⟩
    match us, e with
    | [], e =>
      cases e
      exact ⟨a, vs, rfl, rfl, h, q⟩
  · refine ⟨rReverse, mt_reverse, fun a vs us ws H Q h e l q => ?_⟩
    match us, e with
    | [], e =>
      cases e
      exact ⟨a, vs, rfl, rfl, h, q⟩
  · exact ⟨r0, k0, fun a vs us ws H Q h e l q => by cases e⟩
  · exact ⟨r0, k0, fun a vs us ws H Q h e l q => by cases e⟩
theorem tW_jm {K : PySem.W.Frag} {m : Mt} {j : Nat} {a : Ex} {es : Exs} {r : V → List V → Hp → VK → Prop} (hr : jmR m r) (h : tW g W cl (evW G (.jm m j a es)) D σ H) :
    tE g W cl (ev G a) σ H fun v H1 => tyV K "list" v H1 ∧ tA g W cl (evs G es) σ H1 fun us H2 => r v us H2 fun _ H3 => D.nx σ H3 := by
  obtain ⟨N, env, s0, h⟩ := h
  unfold evW at h
  refine ⟨N, env, s0, wpR_mono (wpR_bnd h) (fun d env1 h H1 v t1 p1 => ?_) fun c e h H' dd t s => h σ H' dd t.w s⟩
  unfold jkN at h
  split at h
  case h_2 => exact h.elim
  rename_i n hd
  split at hd
  case h_2 => cases hd
  rename_i n'
  cases hd
  have s1 := p1.sr
  have rv : RV g.K g.H0 H1 (Pv (orN N (tmp [] [])) env1 σ) (.jk true n) v := p1.1
  cases rv with
  | jk ha hp h0 hl =>
    rename_i b vs
    have hp : ¬ Pv N env1 σ b := fun z => hp (z.imp .inl id)
    refine ⟨.inl ⟨rfl, vs, .inl (.inl ha)⟩, N, env1, s1, wpR_mono (wpR_bnd h) (fun ds env2 h H2 us t2 p2 => ?_) fun c e h H' dd t s => h σ H' dd (t1.trans t).w s⟩
    have s2 := p2.sr
    have ha2 : H2 b = some (.lst vs) := t2.ext b _ ha trivial fun z => hp (.inr z)
    have hp2 : ¬ Pv N env2 σ b := fun z => z.elim (fun q => hp (.inl q)) fun q => (t2.grow b q).elim (fun q => hp (.inr q)) fun q => by rw [ha] at q; cases q
    have t12 : Stp (Aw g N) env σ H env2 σ H2 := (t1.trans t2).w
    have hlen := p2.length
    unfold jmE at h
    split at h
    case isFalse => exact h.elim
    rename_i hj
    have hn := fun k t e => (okJ_get hj k t e).1
    split at h
    · have h : FlW g N env σ H D .nx env2 := h
      match us, hlen with
      | [], _ =>
        obtain ⟨s3, t3⟩ := sr_js (ws := []) s2 ha2 hp2 (h0 rfl) hn (Nat.zero_le _)
        exact hr b vs [] [] H2 _ ha2 rfl (fun z => by cases z) (h σ _ (t12.trans t3) s3)
    · have h : FlW g N env σ H D .nx env2 := h
      match us, hlen with
      | [], _ =>
        obtain ⟨s3, t3⟩ := sr_js (ws := vs.reverse) s2 ha2 hp2 (h0 rfl) hn (by simp)
        exact hr b vs [] _ H2 _ ha2 rfl (fun z => by cases z) (h σ _ (t12.trans t3) s3)
    · split at h
      case isFalse => exact h.elim
      rename_i hq
      simp only [Bool.and_eq_true, decide_eq_true_eq] at hq
      have h : FlW g N env σ H D .nx (updJ j bumS env2) := h
      match us, hlen with
      | [u], _ =>
        obtain ⟨s3, t3⟩ := sr_jm (ws := vs ++ [u]) s2 ha2 hp2 (h0 rfl) hj hq.2 (by simp)
        exact hr b vs [u] _ H2 _ ha2 rfl (fun _ => Nat.lt_of_le_of_lt hl hq.1) (h σ _ (t12.trans t3) s3)
    · exact h.elim
/-! ### the check -/
def jmB : Stmt → Option (Expr × Str × List Expr)
  | .Expr (.Call (.Attribute (.Subscript u k p2) nm apos) xs [] cpos) _ => if apos.endLine = cpos.line then some (.Subscript u k p2, nm, xs) else none
  | _ => none
theorem jmB_ok {x : Stmt} {o : Expr} {nm : Str} {xs : List Expr} (h : jmB x = some (o, nm, xs)) : ∃ u k p2 apos cpos pos, o = .Subscript u k p2 ∧ apos.endLine = cpos.line ∧ x = .Expr (.Call (.Attribute (.Subscript u k p2) nm apos) xs [] cpos) pos := by
  unfold jmB at h
  split at h
  · split at h
    · rename_i hl
      cases h
      exact ⟨_, _, _, _, _, _, rfl, hl, rfl⟩
    · cases h
  · cases h
def frB : Stmt → Option (Expr × Expr × List Stmt)
  | .For tg (.Call (.Name y _) [x] [] _) bx [] _ => if y = Str.ofString "range" then some (tg, x, bx) else none
  | _ => none
theorem frB_ok {s : Stmt} {tg x : Expr} {bx : List Stmt} (h : frB s = some (tg, x, bx)) : ∃ p cpos pos, s = .For tg (.Call (.Name (Str.ofString "range") p) [x] [] cpos) bx [] pos := by
  unfold frB at h
  split at h
  · split at h
    · rename_i hl
      subst hl
      cases h
      exact ⟨_, _, _, rfl⟩
    · cases h
  · cases h
def clB : Stmt → Option (Str × Str)
  | .For (.Name y _) (.Name x _) [.Expr (.Call (.Attribute (.Name y2 _) nm apos) [] [] cpos) _] [] _ => if y = y2 ∧ nm = Str.ofString "clear" ∧ apos.endLine = cpos.line then some (x, y) else none
  | _ => none
theorem clB_ok {s : Stmt} {x y : Str} (h : clB s = some (x, y)) : ∃ p1 p2 p3 apos cpos p4 pos, s = .For (.Name y p1) (.Name x p2) [.Expr (.Call (.Attribute (.Name y p3) (Str.ofString "clear") apos) [] [] cpos) p4] [] pos ∧ apos.endLine = cpos.line := by
  unfold clB at h
  split at h
  · split at h
    · rename_i hl
      obtain ⟨rfl, rfl, h3⟩ := hl
      cases h
      exact ⟨_, _, _, _, _, _, _, rfl, h3⟩
    · cases h
  · cases h
mutual
def mW (N : List Str) (T : Tb) (sc : Scope) : Wt → Stmt → Bool
  | .st s, x => mS N T sc s x
  | .ifs c a b, .If cx ax bx _ => mE N T c sc cx && ptB cx && mWs N T sc a ax && mWs N T sc b bx
  | .forR t e b, x => match frB x with
    | some (tg, z, bx) => glB sc (Str.ofString "range") && !starB z && mE N T e sc z && mT N sc sc t tg && mWs N T sc b bx
    | none => false
  | .jm m _ a es, x => match jmB x with
    | some (o, nm, xs) => decide (mtN m = nm) && decide (exsLen es = mtA m) && mE N T a sc o && mEs N T es sc xs
    | none => false
  | .clrs i j, x => match clB x with
    | some (y, z) => nmB N sc i y && nmB N sc j z && locB sc sc z
    | none => false
  | _, _ => false
def mWs (N : List Str) (T : Tb) (sc : Scope) : Wts → List Stmt → Bool
  | .all ss, xs => mSs N T sc ss xs
  | .nil, [] => true
  | .cons s ss, x :: xs => mW N T sc s x && mWs N T sc ss xs
  | .wip _ ss, xs => mWs N T sc ss xs
  | .jnk _ ss, xs => mWs N T sc ss xs
  | _, _ => false
end
end
section
variable {N : List Str} {T : Tb} {g : Gh} {cl : Str → Value} {G : Calls} {sc : Scope} {W : WX} {X : Cx}
def IHW (N : List Str) (T : Tb) (g : Gh) (cl : Str → Value) (G : Calls) (s : Wt) : Prop := ∀ {sc : Scope} {W : WX} {X : Cx} {x : Stmt}, XOk N T g cl G sc sc W X → sc.kind = .function → TopX X → mW N T sc s x = true → PS X x (tW g W cl (evW G s))
def IHWs (N : List Str) (T : Tb) (g : Gh) (cl : Str → Value) (G : Calls) (ss : Wts) : Prop := ∀ {sc : Scope} {W : WX} {X : Cx} {xs : List Stmt}, XOk N T g cl G sc sc W X → sc.kind = .function → TopX X → mWs N T sc ss xs = true → PSs X xs (tW g W cl (evWs G ss))
theorem ihw_forR {t : Tg} {e : Ex} {b : Wts} (ib : IHWs N T g cl G b) : IHW N T g cl G (.forR t e b) := by
  intro sc W X x ok hk po h
  unfold mW at h
  split at h
  case h_2 => cases h
  rename_i tg z bx hx
  obtain ⟨p, cpos, pos, rfl⟩ := frB_ok hx
  simp only [Bool.and_eq_true, Bool.not_eq_true'] at h
  obtain ⟨⟨⟨⟨h1, h2⟩, h3⟩, h4⟩, h5⟩ := h
  obtain ⟨g1, g2, g3⟩ := ok.gl h1
  have hm : X.mg (Str.ofString "range") = none := ok.blt _ (by decide +kernel)
  exact RX.PS.weak (ps_for po.po ok.calm (pi_range1 g1 hm (pa_cons (ev_ok e ok h3).1 pa_nil (star_cons h2)) (star_cons h2)) (mT_ok ok h4) (ib ok hk po h5) (fun v => rfl)) fun D σ H w => tW_forR w
theorem ihw_jm {m : Mt} {j : Nat} {a : Ex} {es : Exs} : IHW N T g cl G (.jm m j a es) := by
  intro sc W X x ok hk po h
  unfold mW at h
  split at h
  case h_2 => cases h
  rename_i o nm xs hx
  obtain ⟨u, k, p2, apos, cpos, pos, rfl, hl, rfl⟩ := jmB_ok hx
  simp only [Bool.and_eq_true, decide_eq_true_eq] at h
  obtain ⟨⟨⟨rfl, h2⟩, h3⟩, h5⟩ := h
  obtain ⟨r, k1, k2⟩ := jm_mt g X m
  obtain ⟨sl, ty⟩ := mt_slot m
  have hln : (apos.endLine == cpos.line) = true := by rw [hl]; exact beq_self_eq_true _
  have hlen := mEs_len h5
  cases xs with
  | nil =>
    cases es with
    | cons _ _ => exact no_ h5
    | nil =>
      refine RX.PS.weak (ps_expr (pe_bm0 PySem.F.plainAttrs_list sl ty k1 (ev_ok a ok h3).1 rfl hln) rfl) fun D σ H w => ?_
      refine tE_imp (tW_jm (K := X.K) k2 w) fun v H1 q => ?_
      exact ⟨q.1, tA_nil q.2⟩
  | cons e xs =>
    have hs : starB e = false ∧ (backTo cpos (starEach xs X.env)).any (·.1) = false := by
      cases es with
      | nil => exact no_ h5
      | cons e' es' =>
        have h5 : (!starB e && mE N T e' sc e && mEs N T es' sc xs) = true := h5
        simp only [Bool.and_eq_true, Bool.not_eq_true'] at h5
        exact ⟨h5.1.1, mEs_star h5.2⟩
    have few : (e :: xs).length < 30 := by
      rw [hlen, h2]
      cases m <;> decide
    refine RX.PS.weak (ps_expr (pe_bm PySem.F.plainAttrs_list sl ty k1 (ev_ok a ok h3).1 (evs_ok es ok h5).1 rfl ?_ hln (star_cons hs.1) hs.2) rfl) fun D σ H w => ?_
    · rw [mEs_all h5]
      simp only [Bool.true_and]
      have : (backToKw cpos (keywordEach [] X.env)).all (fun x => x.1.isSome) = true := rfl
      rw [this]
      simpa using few
    · exact tW_jm (K := X.K) k2 w
theorem tW_clrs {i j : Nat} {D : Ends} {σ : L2.St} {H : Hp} {r : V → List V → Hp → VK → Prop} (hr : jmR .clr r) (h : tW g W cl (evW G (.clrs i j)) D σ H) :
    tFor (iSeqX g.K (tVar i)) (gName j) (fun D σ H => tVar j σ H fun x H1 => tyV g.K "list" x H1 ∧ r x [] H1 fun _ H2 => D.nx σ H2) D σ H := by
  obtain ⟨N, env, s0, h⟩ := h
  unfold evW at h
  split at h
  case h_2 => exact h.elim
  rename_i nw xs e
  split at h
  case isFalse => exact h.elim
  rename_i hq
  simp only [Bool.and_eq_true, decide_eq_true_eq, List.all_eq_true] at hq
  obtain ⟨⟨⟨⟨hx, hj⟩, hw⟩, hij⟩, hjl⟩ := hq
  have h : FlW g N env σ H D .nx (env.set j none) := h
  obtain ⟨s1, t1⟩ := forget (is := [j]) s0 (by simpa using hw)
  have s1 : SR g N (env.set j none) σ H := s1
  have t1 : Stp All env σ H (env.set j none) σ H := t1
  have ej : (env.set j none)[j]? = some none := by rw [List.getElem?_set_self hjl]
  have ei : (env.set j none)[i]? = some (some (.own nw xs)) := by rw [List.getElem?_set_ne (Ne.symm hij)]; exact e
  obtain ⟨a, us, k1, k2, k3, _⟩ := s1.own i nw xs ei
  have hn := fun k t e => (okJ_get hj k t e).1
  refine ⟨.ref a, k1, false, a, us, rfl, SqL.of k2, fun J hw => ?_⟩
  refine for_it (g := gName j) (tb := fun D σ H => tVar j σ H fun x H1 => tyV g.K "list" x H1 ∧ r x [] H1 fun _ H2 => D.nx σ H2) hw (fun k σk Hk => k ≤ us.length ∧ Hk a = some (.lst us) ∧ σk[i]? = some (some (.ref a)) ∧ j < σk.length ∧ SR g N (env.set j none) σk Hk ∧ Stp (Aw g N) env σ H (env.set j none) σk Hk)
    ⟨Nat.zero_le _, k2, k1, by rw [← s0.len]; exact hjl, s1, t1.w⟩ (fun k σk Hk _ q => SqL.of q.2.1) ?_ fun σk Hk q => h σk Hk q.2.2.2.2.2 q.2.2.2.2.1
  rintro k x σk Hk H3 hk ⟨_, q1, q2, ql, q3, q4⟩ ⟨rfl, hx3⟩
  obtain ⟨s2, t2⟩ := q3.sig (u := some x) ej
  have hi2 : (σk.set j (some x))[i]? = some (some (.ref a)) := by rw [List.getElem?_set_ne (Ne.symm hij)]; exact q2
  obtain ⟨a', us', z1, z2, z3, _⟩ := s2.own i nw xs ei
  rw [hi2] at z1
  cases z1
  rw [q1] at z2
  cases z2
  obtain ⟨d, hd⟩ : ∃ d, xs[k]? = some d := ⟨xs[k]'(by rw [z3.length]; exact hk), by simp⟩
  obtain ⟨y, hy, ry⟩ := z3.get hd
  rw [hx3] at hy
  cases hy
  have hjk := hx d (List.mem_of_getElem? hd)
  unfold isJk at hjk
  split at hjk
  case h_2 => cases hjk
  rename_i n
  cases ry with
  | jk ha hp h0 hl =>
    rename_i b vs
    refine ⟨.ref b, by rw [List.getElem?_set_self ql], .inl ⟨rfl, vs, .inl (.inl ha)⟩, hr b vs [] [] _ _ ha rfl (fun z => by cases z) ?_⟩
    obtain ⟨s3, t3⟩ := sr_js (ws := []) s2 ha hp (h0 rfl) hn (Nat.zero_le _)
    refine ⟨hk, ?_, hi2, by rw [List.length_set]; exact ql, s3, (q4.trans t2.w).trans t3⟩
    have hab : a ≠ b := fun z => by
      subst z
      exact hp (.inr ⟨i, ⟨_, ei, rfl⟩, hi2⟩)
    rw [upd_ne hab]
    exact q1
theorem ihw_clrs {i j : Nat} : IHW N T g cl G (.clrs i j) := by
  intro sc W X x ok hk po h
  unfold mW at h
  split at h
  case h_2 => cases h
  rename_i y z hx
  obtain ⟨p1, p2, p3, apos, cpos, p4, pos, rfl, hl⟩ := clB_ok hx
  simp only [Bool.and_eq_true] at h
  obtain ⟨⟨h1, h2⟩, h3⟩ := h
  obtain ⟨r, k1, k2⟩ := jm_mt g X .clr
  obtain ⟨sl, ty⟩ := mt_slot .clr
  obtain ⟨l1, l2⟩ := loc_of ok h3
  have hln : (apos.endLine == cpos.line) = true := by rw [hl]; exact beq_self_eq_true _
  have hzn : X.N[j]? = some z := by
    rw [ok.hN]
    unfold nmB at h2
    simp only [Bool.and_eq_true, decide_eq_true_eq] at h2
    exact h2.1.1.1
  refine RX.PS.weak (ps_for po.po ok.calm (pi_seqX (ok.nm h1 (p := p2))) (pg_name (by rw [ok.hN]; exact ok.nd) hzn l1 l2) (pss_cons (ps_expr (pe_bm0 PySem.F.plainAttrs_list sl ty k1 (ok.nm h2 (p := p3)) rfl hln) rfl) pss_nil) (fun v => rfl)) fun D σ H w => ?_
  rw [ok.hK]
  exact tW_clrs k2 w
theorem ihws_all {ss : Sts} : IHWs N T g cl G (.all ss) := by
  intro sc W X xs ok hk po h
  have h : mSs N T sc ss xs = true := by
    unfold mWs at h
    exact h
  exact RX.PSs.weak (evSs_ok ss ok hk po h) fun D σ H w => tW_s w
theorem ihws_nil : IHWs N T g cl G .nil := by
  intro sc W X xs ok hk po h
  cases xs with
  | nil => exact RX.PSs.weak pss_nil fun D σ H w => tW_nil w
  | cons _ _ => exact no_ h
theorem ihws_cons {s : Wt} {ss : Wts} (i1 : IHW N T g cl G s) (i2 : IHWs N T g cl G ss) : IHWs N T g cl G (.cons s ss) := by
  intro sc W X xs ok hk po h
  cases xs with
  | nil => exact no_ h
  | cons x xs =>
    have h : (mW N T sc s x && mWs N T sc ss xs) = true := h
    simp only [Bool.and_eq_true] at h
    exact RX.PSs.weak (pss_cons (i1 ok hk po h.1) (i2 ok hk po h.2)) fun D σ H w => tW_cons w
theorem ihws_wip {is : List Nat} {ss : Wts} (i : IHWs N T g cl G ss) : IHWs N T g cl G (.wip is ss) := by
  intro sc W X xs ok hk po h
  have h : mWs N T sc ss xs = true := by
    unfold mWs at h
    exact h
  exact RX.PSs.weak (i ok hk po h) fun D σ H w => tW_wip w
theorem ihws_jnk {j : Nat} {ss : Wts} (i : IHWs N T g cl G ss) : IHWs N T g cl G (.jnk j ss) := by
  intro sc W X xs ok hk po h
  have h : mWs N T sc ss xs = true := by
    unfold mWs at h
    exact h
  exact RX.PSs.weak (i ok hk po h) fun D σ H w => tW_jnk w
theorem ihw_st {s : St} : IHW N T g cl G (.st s) := by
  intro sc W X x ok hk po h
  have h : mS N T sc s x = true := by
    unfold mW at h
    exact h
  exact RX.PS.weak (evS_ok s ok hk po h) fun D σ H w => tW_s w
theorem ihw_ifs {c : Ex} {a b : Wts} (ia : IHWs N T g cl G a) (ib : IHWs N T g cl G b) : IHW N T g cl G (.ifs c a b) := by
  intro sc W X x ok hk po h
  cases x <;> first
    | exact no_ h
    | skip
  rename_i cx ax bx pos
  have h : (mE N T c sc cx && ptB cx && mWs N T sc a ax && mWs N T sc b bx) = true := h
  simp only [Bool.and_eq_true] at h
  obtain ⟨⟨⟨h1, h2⟩, h3⟩, h4⟩ := h
  exact RX.PS.weak (ps_if ((ev_ok c ok h1).2 h2) (ia ok hk po h3) (ib ok hk po h4)) fun D σ H w => tW_ifs w
mutual
theorem evW_ok : ∀ (s : Wt), IHW N T g cl G s
  | .st s => ihw_st
  | .ifs c a b => ihw_ifs (evWs_ok a) (evWs_ok b)
  | .forR t e b => ihw_forR (evWs_ok b)
  | .jm m j a es => ihw_jm
  | .clrs i j => ihw_clrs
theorem evWs_ok : ∀ (ss : Wts), IHWs N T g cl G ss
  | .all ss => ihws_all
  | .nil => ihws_nil
  | .cons s ss => ihws_cons (evW_ok s) (evWs_ok ss)
  | .wip is ss => ihws_wip (evWs_ok ss)
  | .jnk j ss => ihws_jnk (evWs_ok ss)
end
end
end RX
/-! RX part u: defs. -/
namespace RX
open PySem L2
/-- a def: its name, its parameters, all names of its slots (the parameters first), its body, its text -/
structure Df where
  nm : Str
  ps : List Str
  N : List Str
  body : Wts
  st : Stmt
def iosOf : List Slot → En → List (Option (List AV))
  | .io _ :: ss, some (.io ys) :: e => some ys :: iosOf ss e
  | _ :: ss, _ :: e => none :: iosOf ss e
  | _, _ => []
mutual
/-- no list within -/
def flL : AV → Bool
  | .non => true
  | .bl _ => true
  | .int _ => true
  | .str _ => true
  | .tup xs => flLs xs
  | _ => false
def flLs : List AV → Bool
  | [] => true
  | x :: xs => flL x && flLs xs
end
def flO : Option (List AV) → Bool
  | some ys => flLs ys
  | none => true
def finD (d : AV) (ss : List Slot) (e : En) : Option CR := match d with
  | .lst true xs => if flLs xs && (iosOf ss e).all flO then some (.ok (.frs xs) (iosOf ss e)) else some (.ok (.lst true xs) (iosOf ss e))
  | .sl i => match e[i]? with
    | some (some (.own _ xs)) => some (.ok (.frs xs) (iosOf ss e))
    | _ => none
  | d => some (.ok d (iosOf ss e))
def runR (ss : List Slot) (x : Option (R Fl)) : Option CR := match x with
  | none => none
  | some (.exc c e) => some (.exc c (iosOf ss e))
  | some (.ok .nx e) => finD .non ss e
  | some (.ok (.rt d) e) => finD d ss e
  | some (.ok _ _) => none
def runDef (G : Calls) (d : Df) (ss : List Slot) : Option CR := runR ss (evWs G d.body (ss.map some ++ List.replicate (d.N.length - ss.length) none))
def callD (D : List Df) : Nat → Calls
  | 0 => fun _ _ => none
  | n + 1 => fun f ss => match D.find? (fun d => decide (d.nm = f)) with
    | none => none
    | some d => if ss.length = d.ps.length then runDef (callD D n) d ss else none
def tabI (I : List (Str × Gc)) (Es : List (Str × List (Str × Bool))) : Tb := (I.map fun x => (x.1, .inr (.inl x.2))) ++ Es.map fun x => (x.1, .inr (.inr x.2))
def tab (D : List Df) (I : List (Str × Gc) := []) (Es : List (Str × List (Str × Bool)) := []) : Tb := (D.map fun d => (d.nm, .inl d.ps.length)) ++ tabI I Es
/-- a look at a def's scope -/
def scB (M Q : List Str) (s : Scope) : Bool := (match s.kind with | .function => true | _ => false) && !s.isCoroutine && !s.isGenerator && decide M.Nodup && decide (M.take Q.length = Q) &&
  Q.all (fun x => match s.names.lookup x with | some .local => true | some .cell => true | _ => false) && s.names.all fun y => match y.2 with | .free => false | _ => true
theorem scB_ok {M Q : List Str} {s : Scope} (h : scB M Q s = true) : FnScope M Q s := by
  unfold scB at h
  simp only [Bool.and_eq_true, Bool.not_eq_true', decide_eq_true_eq, List.all_eq_true] at h
  obtain ⟨⟨⟨⟨⟨⟨h1, h2⟩, h3⟩, h4⟩, h5⟩, h6⟩, h7⟩ := h
  refine ⟨?_, h2, h3, h4, h5, fun x hx => ?_, fun y hy e => ?_⟩
  · split at h1
    · assumption
    · cases h1
  · have q := h6 x hx
    split at q
    · exact .inl ‹_›
    · exact .inr ‹_›
    · cases q
  · have q := h7 y hy
    rw [e] at q
    cases q
/-- a look at a def -/
def dfC (T : Tb) (d : Df) : Bool := scB d.N d.ps (defScope d.st) && mWs d.N T (defScope d.st) d.body (defBody d.st)

section
variable {g : Gh} {N N1 : Addr → Prop} {env env' : En} {σ σ' : L2.St} {H H' : Hp} {ss : List Slot} {vs : List V}
theorem get_pad {α : Type} {l : List (Option α)} {m i : Nat} {x : α} (h : (l ++ List.replicate m none)[i]? = some (some x)) : l[i]? = some (some x) := by
  by_cases hi : i < l.length
  · rwa [List.getElem?_append_left hi] at h
  · rw [List.getElem?_append_right (by omega), List.getElem?_replicate] at h
    split at h <;> cases h
theorem get_pad' {α : Type} {l : List (Option α)} {m i : Nat} {x : α} (h : l[i]? = some (some x)) : (l ++ List.replicate m none)[i]? = some (some x) := by
  rw [List.getElem?_append_left (lt_of_get h)]; exact h
theorem pm_pad {m : Nat} {b : Addr} (h : Pm (env ++ List.replicate m none) (σ ++ List.replicate m none) b) : Pm env σ b := by
  obtain ⟨i, ⟨sl, k1, k2⟩, k3⟩ := h
  exact ⟨i, ⟨sl, get_pad k1, k2⟩, get_pad k3⟩
theorem SR.pad (s : SR g N env σ H) (m : Nat) : SR g N (env ++ List.replicate m none) (σ ++ List.replicate m none) H := by
  have st : Stab (Pv N env σ) H H := fun _ _ h _ => h
  have hP : ∀ b, Pv N (env ++ List.replicate m none) (σ ++ List.replicate m none) b → H b ≠ none → Pv N env σ b := fun b h _ => h.imp id pm_pad
  refine ⟨by simp [s.len], fun i d e => ?_, fun i nw xs e => ?_, fun i xs e => ?_, fun i t xs e => ?_, fun i j b hi hj ei ej => ?_, s.keep, s.dom, s.nst⟩
  · obtain ⟨v, e1, r⟩ := s.val i d (get_pad e)
    exact ⟨v, get_pad' e1, r.mono st hP⟩
  · obtain ⟨a, vs, e1, e2, r, e3⟩ := s.own i nw xs (get_pad e)
    exact ⟨a, vs, get_pad' e1, e2, r.mono st hP, e3⟩
  · obtain ⟨a, vs, e1, e2, r, e3⟩ := s.io i xs (get_pad e)
    exact ⟨a, vs, get_pad' e1, e2, r.mono st hP, e3⟩
  · obtain ⟨a, vs, e1, e2⟩ := s.brw i t xs (get_pad e)
    refine ⟨a, vs, get_pad' e1, ?_⟩
    rcases e2 with e2 | ⟨e2, e3, r, e4⟩
    · exact .inl e2
    · exact .inr ⟨e2, e3, r.mono st hP, e4⟩
  · have up : ∀ {j : Nat}, IsMut (env ++ List.replicate m none) j → IsMut env j := fun {j} ⟨sl, k1, k2⟩ => ⟨sl, get_pad k1, k2⟩
    exact s.inj i j b (up hi) (up hj) (get_pad ei) (get_pad ej)
theorem ios_get : ∀ {ss : List Slot} {e : En} {k : Nat} {ys : List AV}, (iosOf ss e)[k]? = some (some ys) → ∃ xs, ss[k]? = some (.io xs) ∧ e[k]? = some (some (.io ys))
  | [], _, _, _, h => by simp [iosOf] at h
  | s :: ss, [], _, _, h => by cases s <;> simp [iosOf] at h
  | s :: ss, x :: e, k, ys, h => by
    cases k with
    | zero =>
      unfold iosOf at h
      split at h
      · rename_i q1 q2
        cases q1
        cases q2
        simp at h
        subst h
        exact ⟨_, rfl, rfl⟩
      · simp at h
      · simp at h
    | succ k =>
      have h : (iosOf ss e)[k]? = some (some ys) := by
        unfold iosOf at h
        split at h
        · rename_i q1 q2
          cases q1
          cases q2
          simpa using h
        · rename_i q1 q2
          cases q1
          cases q2
          simpa using h
        · simp at h
      obtain ⟨xs, h1, h2⟩ := ios_get h
      exact ⟨xs, by simpa using h1, by simpa using h2⟩
theorem ios_io : ∀ {ss : List Slot} {e : En} {k : Nat} {xs ys : List AV}, ss[k]? = some (.io xs) → e[k]? = some (some (.io ys)) → (iosOf ss e)[k]? = some (some ys)
  | [], _, _, _, _, h, _ => by simp at h
  | _ :: _, [], _, _, _, _, h => by simp at h
  | s :: ss, x :: e, 0, xs, ys, h, h2 => by
    simp at h h2
    subst h h2
    rfl
  | s :: ss, x :: e, k + 1, xs, ys, h, h2 => by
    simp at h h2
    have := ios_io h h2
    unfold iosOf
    split
    · rename_i q1 q2
      cases q1
      cases q2
      simpa using this
    · rename_i q1 q2
      cases q1
      cases q2
      simpa using this
    · rename_i n1 n2
      exact absurd rfl (n2 _ _ _ _ rfl)
/-- what stands behind a def's body -/
theorem back_of {K : PySem.W.Frag} {IO : Addr → Prop} {m : Nat} {A : Addr → Prop} (t : Stp A (ss.map some ++ List.replicate m none) (vs.map some ++ List.replicate m none) H env' σ' H') (s : SR ⟨K, H, IO⟩ N1 env' σ' H') (hN : ∀ b, N b → N1 b) (hl : ss.length = vs.length) :
    Back K H N IO ss vs (iosOf ss env') H' (Pv N1 env' σ') ∧ ∀ (k : Nat) (xs : List AV) (b : Addr), ss[k]? = some (.io xs) → vs[k]? = some (.ref b) → IsMut env' k ∧ σ'[k]? = some (some (.ref b)) := by
  have io : ∀ (k : Nat) (xs : List AV), ss[k]? = some (.io xs) → ∃ ys v, env'[k]? = some (some (.io ys)) ∧ vs[k]? = some v ∧ σ'[k]? = some (some v) := fun k xs h => by
    have h1 : (ss.map some ++ List.replicate m none)[k]? = some (some (.io xs)) := get_pad' (by rw [List.getElem?_map, h]; rfl)
    obtain ⟨⟨ys, e1⟩, e2⟩ := t.fixI k xs h1
    obtain ⟨v, hv⟩ : ∃ v, vs[k]? = some v := ⟨vs[k]'(by rw [← hl]; exact lt_of_get h), by simp⟩
    refine ⟨ys, v, e1, hv, e2.trans (get_pad' (by rw [List.getElem?_map, hv]; rfl))⟩
  have key : ∀ (k : Nat) (xs : List AV) (b : Addr), ss[k]? = some (.io xs) → vs[k]? = some (.ref b) → IsMut env' k ∧ σ'[k]? = some (some (.ref b)) := fun k xs b h hv => by
    obtain ⟨ys, v, e1, e2, e3⟩ := io k xs h
    rw [hv] at e2
    cases e2
    exact ⟨⟨_, e1, rfl⟩, e3⟩
  refine ⟨⟨fun b o h n => s.keep b o h n, fun b h => s.dom b h, fun b h => .inl (hN b h), fun k xs b h hv => .inr ⟨k, (key k xs b h hv).1, (key k xs b h hv).2⟩, fun k ys h => ?_, fun k xs h => ?_⟩, key⟩
  · obtain ⟨xs, h1, h2⟩ := ios_get h
    obtain ⟨ys', v, e1, e2, e3⟩ := io k xs h1
    rw [h2] at e1
    cases e1
    obtain ⟨a, ws, q1, q2, r, _⟩ := s.io k ys h2
    rw [e3] at q1
    cases q1
    exact ⟨a, ws, xs, e2, h1, q2, r⟩
  · obtain ⟨ys, v, e1, _⟩ := io k xs h
    exact ⟨ys, ios_io h e1⟩
mutual
theorem RV.flat {K : PySem.W.Frag} {H0 H : Hp} {P P' : Addr → Prop} : ∀ {d : AV} {v : V}, RV K H0 H P d v → flL d = true → RV K H0 H P' d v
  | _, _, .non, _ => .non
  | _, _, .bl b, _ => .bl b
  | _, _, .int i, _ => .int i
  | _, _, .str x, _ => .str x
  | _, _, .ty n, h => by cases h
  | _, _, .tup a r, h => .tup a (RVs.flat r h)
  | _, _, .lst a _ _ r, h => by cases h
theorem RVs.flat {K : PySem.W.Frag} {H0 H : Hp} {P P' : Addr → Prop} : ∀ {d : List AV} {v : List V}, RVs K H0 H P d v → flLs d = true → RVs K H0 H P' d v
  | _, _, .nil, _ => .nil
  | _, _, .cons a r, h => by
    have h : (flL _ && flLs _) = true := h
    simp only [Bool.and_eq_true] at h
    exact .cons (RV.flat a h.1) (RVs.flat r h.2)
end
/-- what is given back -/
theorem ret_of {K : PySem.W.Frag} {IO F : Addr → Prop} {m : Nat} {d : AV} {v : V} {Q : VK} {E : XK} {cl : Str → Value} (hl : ss.length = vs.length) {A : Addr → Prop} (t : Stp A (ss.map some ++ List.replicate m none) (vs.map some ++ List.replicate m none) H env' σ' H') (p : Posts ⟨K, H, IO⟩ F env' σ' H' N [d] [v])
    (h : match finD d ss env' with
      | none => False
      | some (.ok d ios) => ∀ H' v P, Back K H N IO ss vs ios H' P → RetV K H N IO ss vs H' P d v → Q v H'
      | some (.exc c ios) => ∀ H' (dd : Unit) P, Back K H N IO ss vs ios H' P → E (cl c) none H') : Q v H' := by
  have s := p.sr
  have plain : (∀ xs, d ≠ .frs xs) → (∀ i, d ≠ .sl i) → finD d ss env' = some (.ok d (iosOf ss env')) → Q v H' := fun n1 n2 e => by
    rw [e] at h
    have r : RV K H H' (Pv N env' σ') d v := HeadOk.sto (g := ⟨K, H, IO⟩) p.1 p.2 (by
      cases d with
      | frs xs => exact absurd rfl (n1 xs)
      | sl i => exact absurd rfl (n2 i)
      | _ => rfl)
    refine h H' v _ (back_of t s (fun _ h => h) hl).1 ?_
    cases d with
    | frs xs => exact absurd rfl (n1 xs)
    | sl i => exact absurd rfl (n2 i)
    | _ => exact r
  cases d with
  | frs xs =>
    obtain ⟨⟨_, a, ws, rfl, h2, h3, h4, h5, h6⟩, s2⟩ := p
    have s2 : SR ⟨K, H, IO⟩ (adN N a) env' σ' H' := s2
    obtain ⟨B, key⟩ := back_of t s2 (fun _ h => .inl h) hl
    refine h H' _ _ B ⟨a, ws, rfl, h2, .inl h3, h4, .inl (.inr rfl), fun k ys hk hv => ?_, h5.mono (fun _ _ h _ => h) fun b q _ => ?_⟩
    · obtain ⟨k1, k2⟩ := key k ys a hk hv
      exact (s2.pmLst ⟨k, k1, k2⟩).2.1 (.inr rfl)
    · exact q.imp .inl id
  | sl i =>
    have ev : σ'[i]? = some (some v) := p.1
    unfold finD at h
    split at h
    · exact h.elim
    · rename_i d' ios e
      simp only at e
      split at e
      · rename_i nw xs e2
        cases e
        obtain ⟨a, ws, e1, h2, r, n1, _, n3⟩ := s.own i nw xs e2
        rw [ev] at e1
        cases e1
        obtain ⟨B, key⟩ := back_of t s (fun _ h => h) hl
        refine h H' _ _ B ⟨a, ws, rfl, h2, n3.symm, n1, .inr ⟨i, ⟨_, e2, rfl⟩, ev⟩, fun k ys hk hv => ?_, r⟩
        obtain ⟨⟨sl, k1, k1'⟩, k2⟩ := key k ys a hk hv
        have : i = k := s.inj i k a ⟨_, e2, rfl⟩ ⟨sl, k1, k1'⟩ ev k2
        subst this
        rw [e2] at k1
        cases k1
        -- an own slot is no in-and-out one
        have h1 : (ss.map some ++ List.replicate m none)[i]? = some (some (.io ys)) := get_pad' (by rw [List.getElem?_map, hk]; rfl)
        obtain ⟨⟨zs, q⟩, _⟩ := t.fixI i ys h1
        rw [e2] at q
        cases q
      · cases e
    · rename_i c ios e
      simp only at e
      split at e <;> cases e
  | tup xs => exact plain (fun _ z => by cases z) (fun _ z => by cases z) rfl
  | lst nw xs =>
    cases nw with
    | false => exact plain (fun _ z => by cases z) (fun _ z => by cases z) rfl
    | true =>
      by_cases hf : (flLs xs && (iosOf ss env').all flO) = true
      · have e : finD (.lst true xs) ss env' = some (.ok (.frs xs) (iosOf ss env')) := by
          show (if (flLs xs && (iosOf ss env').all flO) = true then _ else _) = _
          rw [if_pos hf]
        rw [e] at h
        simp only [Bool.and_eq_true] at hf
        obtain ⟨B, key⟩ := back_of t s (fun _ h => h) hl
        have r : RV K H H' (Pv N env' σ') (.lst true xs) v := HeadOk.sto (g := ⟨K, H, IO⟩) p.1 p.2 rfl
        cases r with
        | lst h1 h2 h3 h4 =>
          rename_i a ws
          have h := h H' (.ref a) (fun b => Pv N env' σ' b ∨ b = a) ⟨B.keep, B.dom, fun b q => .inl (B.pN b q), fun k ys b q1 q2 => .inl (B.pI k ys b q1 q2), fun k ys q => ?_, B.io2⟩
          · refine h ⟨a, ws, rfl, h1, .inl (h3 rfl), fun z => h2 (.inl z), .inr rfl, fun k ys hk hv => ?_, RVs.flat h4 hf.1⟩
            obtain ⟨k1, k2⟩ := key k ys a hk hv
            exact h2 (.inr ⟨k, k1, k2⟩)
          · obtain ⟨a', ws', xs', q1, q2, q3, q4⟩ := B.io1 k ys q
            have : flO (some ys) = true := List.all_eq_true.mp hf.2 _ (List.mem_of_getElem? q)
            exact ⟨a', ws', xs', q1, q2, q3, RVs.flat q4 this⟩
      · refine plain (fun _ z => by cases z) (fun _ z => by cases z) ?_
        show (if (flLs xs && (iosOf ss env').all flO) = true then _ else _) = _
        rw [if_neg hf]
  | non => exact plain (fun _ z => by cases z) (fun _ z => by cases z) rfl
  | bl b => exact plain (fun _ z => by cases z) (fun _ z => by cases z) rfl
  | int i => exact plain (fun _ z => by cases z) (fun _ z => by cases z) rfl
  | str x => exact plain (fun _ z => by cases z) (fun _ z => by cases z) rfl
  | fn x => exact plain (fun _ z => by cases z) (fun _ z => by cases z) rfl
  | jk q1 q2 => exact plain (fun _ z => by cases z) (fun _ z => by cases z) rfl
  | exo q1 => exact plain (fun _ z => by cases z) (fun _ z => by cases z) rfl
  | dcx => exact plain (fun _ z => by cases z) (fun _ z => by cases z) rfl
  | ty x => exact plain (fun _ z => by cases z) (fun _ z => by cases z) rfl
end
section
variable {P : Program} {w : World} {K : PySem.W.Frag} {mg : Str → Option Value} {base : Heap} {D : List Df} {cl : Str → Value}
/-- what the head says of the defs -/
structure DefsOk (K : PySem.W.Frag) (mg : Str → Option Value) (D : List Df) (I : List (Str × Gc) := []) (cl : Str → Value := fun _ => .none) (Es : List (Str × List (Str × Bool)) := []) : Prop where
  all : ∀ d ∈ D, ∃ f fd, (mg d.nm = some (.ref f) ∧ PySem.W.nsIn K mainGlobals d.nm = some (some (.ref f))) ∧ Fun K d.nm d.nm d.st f fd ∧ Binds K fd d.ps []
  blt : ∀ x ∈ bltN, mg x = none
  gis : ∀ x ∈ I, GcOk K mg x.1 x.2 := by intro x hx; cases hx
  ecs : ∀ x ∈ Es, ∃ C, mg x.1 = some (.ref C) ∧ ExK K cl x.1 x.2 C := by intro x hx; cases hx
theorem look_map {α β : Type} {p : α → Str × β} {f : Str} {y : β} : ∀ {l : List α}, (l.map p).lookup f = some y → ∃ x ∈ l, p x = (f, y)
  | [], h => by cases h
  | x :: l, h => by
    rw [List.map_cons, List.lookup_cons] at h
    by_cases e : (f == (p x).1) = true
    · simp only [e] at h
      cases h
      have : f = (p x).1 := by simpa using e
      exact ⟨x, List.mem_cons_self, by rw [this]⟩
    · have e2 : (f == (p x).1) = false := by simpa using e
      simp only [e2] at h
      obtain ⟨z, h1, h2⟩ := look_map h
      exact ⟨z, List.mem_cons_of_mem _ h1, h2⟩
theorem look_app {β : Type} {f : Str} {y : β} : ∀ {l m : List (Str × β)}, (l ++ m).lookup f = some y → l.lookup f = some y ∨ m.lookup f = some y
  | [], _, h => .inr h
  | (k, z) :: l, m, h => by
    rw [List.cons_append, List.lookup_cons] at h
    rw [List.lookup_cons]
    by_cases e : (f == k) = true
    · simp only [e] at h ⊢
      exact .inl h
    · have e2 : (f == k) = false := by simpa using e
      simp only [e2] at h ⊢
      exact look_app h
theorem tab_cases {I : List (Str × Gc)} {Es : List (Str × List (Str × Bool))} {f : Str} {y : Nat ⊕ (Gc ⊕ List (Str × Bool))} (h : (tab D I Es).lookup f = some y) :
    (D.map fun d => (d.nm, (.inl d.ps.length : Nat ⊕ (Gc ⊕ List (Str × Bool))))).lookup f = some y ∨ (∃ x ∈ I, (x.1, (.inr (.inl x.2) : Nat ⊕ (Gc ⊕ List (Str × Bool)))) = (f, y)) ∨ ∃ x ∈ Es, (x.1, (.inr (.inr x.2) : Nat ⊕ (Gc ⊕ List (Str × Bool)))) = (f, y) := by
  unfold tab tabI at h
  rcases look_app h with h | h
  · exact .inl h
  · rcases look_app h with h | h
    · exact .inr (.inl (look_map h))
    · exact .inr (.inr (look_map h))
theorem tab_gi {I : List (Str × Gc)} {Es : List (Str × List (Str × Bool))} {f : Str} {n : Gc} (h : (tab D I Es).lookup f = some (.inr (.inl n))) : (f, n) ∈ I := by
  rcases tab_cases h with h | ⟨x, h1, h2⟩ | ⟨x, h1, h2⟩
  · obtain ⟨d, _, h2⟩ := look_map h
    cases h2
  · cases h2
    exact h1
  · cases h2
theorem tab_ec {I : List (Str × Gc)} {Es : List (Str × List (Str × Bool))} {f : Str} {n : List (Str × Bool)} (h : (tab D I Es).lookup f = some (.inr (.inr n))) : (f, n) ∈ Es := by
  rcases tab_cases h with h | ⟨x, h1, h2⟩ | ⟨x, h1, h2⟩
  · obtain ⟨d, _, h2⟩ := look_map h
    cases h2
  · cases h2
  · cases h2
    exact h1
theorem map_find {f : Str} {n : Nat} : ∀ {D : List Df}, (D.map fun d => (d.nm, (.inl d.ps.length : Nat ⊕ (Gc ⊕ List (Str × Bool))))).lookup f = some (.inl n) → ∃ d, D.find? (fun d => decide (d.nm = f)) = some d ∧ d.ps.length = n ∧ d ∈ D
  | [], h => by cases h
  | d :: D, h => by
    rw [List.map_cons, List.lookup_cons] at h
    by_cases e : f = d.nm
    · subst e
      simp at h
      exact ⟨d, by simp, h, List.mem_cons_self⟩
    · have e2 : (f == d.nm) = false := by simpa using e
      simp only [e2] at h
      obtain ⟨d', h1, h2, h3⟩ := map_find h
      refine ⟨d', ?_, h2, List.mem_cons_of_mem _ h3⟩
      rw [List.find?_cons]
      have : decide (d.nm = f) = false := by simpa using fun z => e z.symm
      rw [this]
      exact h1
theorem tab_find {I : List (Str × Gc)} {Es : List (Str × List (Str × Bool))} {f : Str} {n : Nat} (h : (tab D I Es).lookup f = some (.inl n)) : ∃ d, D.find? (fun d => decide (d.nm = f)) = some d ∧ d.ps.length = n ∧ d ∈ D := by
  rcases tab_cases h with h | ⟨x, h1, h2⟩ | ⟨x, h1, h2⟩
  · exact map_find h
  · cases h2
  · cases h2
theorem find_nm {f : Str} {d : Df} (h : D.find? (fun d => decide (d.nm = f)) = some d) : d.nm = f := by
  have := List.find?_some h
  simpa using this
theorem defs_ok {I : List (Str × Gc)} {Es : List (Str × List (Str × Bool))} (ok : DefsOk K mg D I cl Es) (chk : ∀ d ∈ D, dfC (tab D I Es) d = true) : ∀ (n : Nat) (f : Str) (d : Df), D.find? (fun d => decide (d.nm = f)) = some d → ∀ (a : Addr) (fd : FuncData), Fun K d.nm d.nm d.st a fd → RG.FnG P w K mg base (L2.CX P w) n a fd d.ps (spD K cl (callD D n) f d.ps.length)
  | 0, f, d, hd, a, fd, F => by
    refine ⟨fun vs H Q E h => ?_, fun A outer s H args us vs Q E gd hr e0 hb hv h => ?_⟩
    · obtain ⟨ss, N, IO, h1, _⟩ := h
      exact h1
    · obtain ⟨ss, N, IO, h1, h2, h3, h4, h5⟩ := h
      exact h5.elim
  | n + 1, f, d, hd, a, fd, F => by
    have hm : d ∈ D := List.mem_of_find?_eq_some hd
    have hc := chk d hm
    unfold dfC at hc
    simp only [Bool.and_eq_true] at hc
    have S := scB_ok hc.1
    refine RG.funG F S (fun vs H Q E h => ?_) fun cdv A outer s H vs Q E gd hr h => ?_
    · obtain ⟨ss, N, IO, h1, _⟩ := h
      exact h1
    · obtain ⟨ss, N, IO, h1, h2, s0, hio, h⟩ := h
      have un := hr.un
      have xok : XOk d.N (tab D I Es) ⟨K, H, IO⟩ cl (callD D n) (defScope d.st) (defScope d.st) (fun cls dd _ H' => E cls dd H') (cxOf (L2.CX P w) P w K mg base d.N d.nm (defScope d.st) a cdv A outer s H E) := {
        hK := rfl
        hN := rfl
        nd := S.nd
        hsc := rfl
        fn := fun _ _ => rfl
        calm := rfl
        un := by
          exact Nat.lt_of_le_of_lt (Nat.add_le_add_left (show 66 ≤ 16 * n + 200 by omega) _) (by rw [← Nat.add_assoc]; exact un)
        gd := gd
        tk := takes_of rfl rfl rfl rfl
        blt := ok.blt
        gis := fun x i h => ok.gis _ (tab_gi h)
        ecs := fun x ys h => ok.ecs _ (tab_ec h)
        fns := fun f' n' h' => by
          obtain ⟨d', q1, q2, q3⟩ := tab_find h'
          obtain ⟨fa, fd', p1, p2, p3⟩ := ok.all d' q3
          rw [find_nm q1] at p1
          rw [← q2]
          exact ⟨n, fa, fd', d'.ps, hr, p1, p2.kp, p3, defs_ok ok chk n f' d' q1 fa fd' p2⟩ }
      refine ⟨_, evWs_ok d.body xok S.kind ⟨passes_of rfl, rfl, rfl⟩ hc.2, N, _, s0.pad (d.N.length - vs.length), ?_⟩
      have hl : ss.length = vs.length := h2.trans h1.symm
      have eG : callD D (n + 1) f ss = runR ss (evWs (callD D n) d.body (ss.map some ++ List.replicate (d.N.length - vs.length) none)) := by
        show (match D.find? (fun d => decide (d.nm = f)) with | none => none | some d => if ss.length = d.ps.length then runDef (callD D n) d ss else none) = _
        rw [hd]
        simp only [h2, if_true]
        show runDef (callD D n) d ss = _
        unfold runDef
        rw [hl]
      rw [eG] at h
      cases q : evWs (callD D n) d.body (ss.map some ++ List.replicate (d.N.length - vs.length) none) with
      | none => rw [q] at h; exact h.elim
      | some r =>
        rw [q] at h
        cases r with
        | exc c e =>
          intro σ' H' dd t s'
          exact h H' dd _ (back_of t s' (fun _ h => h) hl).1
        | ok fl e =>
          cases fl with
          | nx =>
            intro σ' H' t s'
            exact ret_of (E := E) (cl := cl) (d := .non) (F := fun _ => True) hl t ⟨.non, s'⟩ h
          | rt dv =>
            intro σ' H' v t p
            exact ret_of (E := E) (cl := cl) hl t p h
          | bk => exact h.elim
          | ct => exact h.elim
end
end RX
/-! RX part v: the law's own call. -/
namespace RX
open PySem L2
theorem rvs_ints {K : PySem.W.Frag} {H0 H : Hp} {P : Addr → Prop} : ∀ ns : List Int, RVs K H0 H P (ns.map AV.int) (ns.map V.int)
  | [] => .nil
  | n :: ns => .cons (.int n) (rvs_ints ns)
theorem law_sp {K : PySem.W.Frag} {H : Hp} {a : Addr} {ns : List Int} {D : List Df} {n : Nat} {f : Str} {cl : Str → Value} {ios : List (Option (List AV))} (hS : SqL K H a (ns.map V.int)) (h : callD D n f [.brw false (ns.map AV.int)] = some (.ok (.bl true) ios)) :
    spD K cl (callD D n) f 1 [.ref a] H (fun v _ => v = .bl true) fun _ _ _ => False := by
  refine ⟨[.brw false (ns.map AV.int)], fun b => H b ≠ none, fun _ => False, rfl, rfl, ?_, fun b hb => hb.elim, ?_⟩
  · refine ⟨rfl, fun i d e => ?_, fun i nw xs e => ?_, fun i xs e => ?_, fun i t xs e => ?_, fun i j b hi hj ei ej => ?_, fun b o e _ => e, fun b h => h, fun b h => h⟩
    · match i, e with
      | 0, e => simp at e
      | i + 1, e => simp at e
    · match i, e with
      | 0, e => simp at e
      | i + 1, e => simp at e
    · match i, e with
      | 0, e => simp at e
      | i + 1, e => simp at e
    · match i, e with
      | 0, e =>
        simp at e
        obtain ⟨rfl, rfl⟩ := e
        refine ⟨a, ns.map V.int, rfl, ?_⟩
        rcases hS with hS | hS
        · refine .inr ⟨hS, ?_, rvs_ints ns, fun z => by cases z⟩
          rcases hS with q | ⟨u, q⟩ <;> rw [q] <;> simp
        · exact .inl ⟨.inr hS, rfl, fun _ _ => rvs_ints ns⟩
      | i + 1, e => simp at e
    · obtain ⟨sl, k1, k2⟩ := hi
      match i, k1 with
      | 0, k1 =>
        simp at k1
        subst k1
        cases k2
      | i + 1, k1 => simp at k1
  · rw [h]
    intro H' v P _ r
    have r : RV K H H' P (.bl true) v := r
    cases r
    rfl
theorem cx_no {P : Program} {w : World} {H : Hp} {s : Shared} {e : Value} {s' : Shared} (h : L2.CX P w [] H s (fun _ _ _ => False) e s') : False := by
  obtain ⟨_, _, _, _, _, _, _, _, _, _, _, _, z⟩ := h
  exact z
end RX
/-! RX part w: the evaluator's equations, for simp. -/
namespace RX
open PySem L2
section
variable {G : Calls} {env : En} {a b c : Ex} {i j : Nat} {es : Exs} {m n k : Int} {xs ys : List AV} {d : AV}
@[simp] theorem q_int : ev G (.int m) env = some (.ok (.int m) env) := id rfl
@[simp] theorem q_bl {t : Bool} : ev G (.bl t) env = some (.ok (.bl t) env) := id rfl
@[simp] theorem q_str {t : Str} : ev G (.str t) env = some (.ok (.str t) env) := id rfl
@[simp] theorem q_non : ev G .non env = some (.ok .non env) := id rfl
@[simp] theorem q_ty {t : Str} {s : String} : ev G (.ty t s) env = some (.ok (.ty s) env) := id rfl
def vGet (x : Option (Option Slot)) (i : Nat) (env : En) : Option (R AV) := match x with
  | some (some (.val d)) => some (.ok d env)
  | some (some _) => some (.ok (.sl i) env)
  | _ => none
@[simp] theorem q_var : ev G (.var i) env = vGet env[i]? i env := id rfl
@[simp] theorem vGet_val : vGet (some (some (.val d))) i env = some (.ok d env) := id rfl
@[simp] theorem vGet_own {nw : Bool} : vGet (some (some (.own nw xs))) i env = some (.ok (.sl i) env) := id rfl
@[simp] theorem vGet_io : vGet (some (some (.io xs))) i env = some (.ok (.sl i) env) := id rfl
@[simp] theorem vGet_brw {t : Bool} : vGet (some (some (.brw t xs))) i env = some (.ok (.sl i) env) := id rfl
def vMv (x : Option (Option Slot)) (i : Nat) (env : En) : Option (R AV) := match x with
  | some (some (.own true xs)) => some (.ok (.frs xs) (env.set i none))
  | _ => none
@[simp] theorem q_mv : ev G (.mv i) env = vMv env[i]? i env := id rfl
@[simp] theorem vMv_own : vMv (some (some (.own true xs))) i env = some (.ok (.frs xs) (env.set i none)) := id rfl
def vFz (x : Option (Option Slot)) (i : Nat) (env : En) : Option (R AV) := match x with
  | some (some (.own nw xs)) => some (.ok (.lst nw xs) (env.set i (some (.val (.lst nw xs)))))
  | some (some (.val d)) => some (.ok d env)
  | _ => none
@[simp] theorem q_fz : ev G (.fz i) env = vFz env[i]? i env := id rfl
@[simp] theorem vFz_own {nw : Bool} : vFz (some (some (.own nw xs))) i env = some (.ok (.lst nw xs) (env.set i (some (.val (.lst nw xs))))) := id rfl
@[simp] theorem vFz_val : vFz (some (some (.val d))) i env = some (.ok d env) := id rfl
@[simp] theorem q_bin {o : Bop} : ev G (.bin o a b) env = bnd (ev G a env) fun x e1 => bnd (ev G b e1) fun y e2 => lift (binO o) [x, y] e2 := id rfl
@[simp] theorem q_neg : ev G (.neg a) env = bnd (ev G a env) fun x e1 => lift oNeg [x] e1 := id rfl
@[simp] theorem q_cmp {o : CmpOp} : ev G (.cmp o a b) env = bnd (ev G a env) fun x e1 => bnd (ev G b e1) fun y e2 => lift (cmpO o) [x, y] e2 := id rfl
def chK (G : Calls) (p : CmpOp) (c : Ex) (y z : AV) (e3 : En) : Option (R AV) := match z, y with
    | .bl true, .int j => bnd (ev G c e3) fun w e4 => lift (cmpO p) [.int j, w] e4
    | .bl false, _ => some (.ok (.bl false) e3)
    | _, _ => none
@[simp] theorem q_chain {o p : CmpOp} : ev G (.chain o p a b c) env = bnd (ev G a env) fun x e1 => bnd (ev G b e1) fun y e2 => bnd (lift (cmpO o) [x, y] e2) fun z e3 => chK G p c y z e3 := id rfl
@[simp] theorem chK_true {p : CmpOp} : chK G p c (.int m) (.bl true) env = bnd (ev G c env) fun w e4 => lift (cmpO p) [.int m, w] e4 := id rfl
@[simp] theorem chK_false {p : CmpOp} : chK G p c d (.bl false) env = some (.ok (.bl false) env) := by cases d <;> rfl
@[simp] theorem q_and : ev G (.and es) env = evAnd G es env := id rfl
@[simp] theorem q_or : ev G (.or es) env = evOr G es env := id rfl
@[simp] theorem q_and1 : evAnd G (.cons a .nil) env = ev G a env := id rfl
@[simp] theorem q_and2 : evAnd G (.cons a (.cons b es)) env = bnd (ev G a env) fun x e1 => bnd (asB x e1) fun t e2 => if t then evAnd G (.cons b es) e2 else some (.ok (.bl false) e2) := id rfl
@[simp] theorem q_or1 : evOr G (.cons a .nil) env = ev G a env := id rfl
@[simp] theorem q_or2 : evOr G (.cons a (.cons b es)) env = bnd (ev G a env) fun x e1 => bnd (asB x e1) fun t e2 => if t then some (.ok (.bl true) e2) else evOr G (.cons b es) e2 := id rfl
@[simp] theorem q_asB {t : Bool} : asB (.bl t) env = some (.ok t env) := id rfl
@[simp] theorem q_not : ev G (.not a) env = bnd (ev G a env) fun x e1 => bnd (asB x e1) fun t e2 => some (.ok (.bl (!t)) e2) := id rfl
@[simp] theorem q_ite : ev G (.ite c a b) env = bnd (ev G c env) fun x e1 => bnd (asB x e1) fun t e2 => if t then ev G a e2 else ev G b e2 := id rfl
@[simp] theorem q_tup : ev G (.tup es) env = bnd (evs G es env) fun ds e1 => lift oTup ds e1 := id rfl
@[simp] theorem q_lst : ev G (.lst es) env = bnd (evs G es env) fun ds e1 => lift oLst ds e1 := id rfl
@[simp] theorem q_ix : ev G (.ix a b) env = bnd (ev G a env) fun x e1 => bnd (ev G b e1) fun y e2 => lift oIx [x, y] e2 := id rfl
def slK (l u : Option Int) (x : AV) (e3 : En) : Option (R AV) := match oSl l u e3 x with
    | some d => some (.ok d e3)
    | none => none
@[simp] theorem q_slc : ev G (.slc a b c) env = bnd (ev G a env) fun x e1 => bnd (evPk (isNul b) (ev G b) e1) fun l e2 => bnd (evPk (isNul c) (ev G c) e2) fun u e3 => slK l u x e3 := id rfl
@[simp] theorem q_call {f : Str} {ms : List Bool} : ev G (.call f ms es) env = bnd (evs G es env) fun ds e1 => callE G f ms ds e1 := id rfl
@[simp] theorem q_bi {o : Bi} : ev G (.bi o es) env = bnd (evs G es env) fun ds e1 => lift (biO o) ds e1 := id rfl
@[simp] theorem q_mth {o : Mt} : ev G (.mth o i es) env = if mutB env i then bnd (evs G es env) fun ds e1 => mthE o i ds e1 else none := id rfl
@[simp] theorem q_stv {t : Bool} : ev G (.stv t a) env = bnd (ev G a env) (stwK t) := id rfl
@[simp] theorem q_evs0 : evs G .nil env = some (.ok [] env) := id rfl
@[simp] theorem q_evs1 : evs G (.cons a es) env = bnd (ev G a env) fun d e1 => bnd (evs G es e1) fun ds e2 => some (.ok (d :: ds) e2) := id rfl
theorem q_comp {own : List Nat} {t : Tg} {it : It} : ev G (.comp a own t it c) env = bnd (evI G it env) fun s e1 =>
      if lenOk s.xs.length && ownOk e1 own && (own.all fun i => !s.lk.contains i) then
        bnd (compL own t (evCk (isNul c) (ev G c)) (ev G a) s.xs (wipeE (lockE e1 s.lk) own)) fun ds e2 => some (.ok (.frs ds) (unlockE e1 (backE (lockE e1 s.lk) e2 own) s.lk))
      else none := rfl
@[simp] theorem q_evPk0 {r : En → Option (R AV)} : evPk true r env = some (.ok none env) := id rfl
@[simp] theorem q_evPk1 {r : En → Option (R AV)} : evPk false r env = bnd (r env) fun d e1 => match d with
  | .int i => some (.ok (some i) e1)
  | _ => none := rfl
@[simp] theorem q_evCk0 {r : En → Option (R AV)} : evCk true r env = some (.ok true env) := id rfl
@[simp] theorem q_evCk1 {r : En → Option (R AV)} : evCk false r env = bnd (r env) asB := id rfl
/-! operations -/
@[simp] theorem o_add : lift (binO .add) [.int m, .int n] env = some (.ok (.int (m + n)) env) := id rfl
@[simp] theorem o_sub : lift (binO .sub) [.int m, .int n] env = some (.ok (.int (m - n)) env) := id rfl
@[simp] theorem o_mul (h : cMul m n = true) : lift (binO .mul) [.int m, .int n] env = some (.ok (.int (m * n)) env) := by
  unfold lift binO oMul
  simp [h]
@[simp] theorem o_div (h : cDiv m n = true) : lift (binO .div) [.int m, .int n] env = some (.ok (.int (m / n)) env) := by
  unfold lift binO oDiv iI
  simp [h]
@[simp] theorem o_mod (h : cPos m n = true) : lift (binO .mod) [.int m, .int n] env = some (.ok (.int (m % n)) env) := by
  unfold lift binO oMod iI
  simp [h]
@[simp] theorem o_pow (h : cPow m n = true) : lift (binO .pow) [.int m, .int n] env = some (.ok (.int (m ^ n.toNat)) env) := by
  unfold lift binO oPow iI
  simp [h]
@[simp] theorem o_neg : lift oNeg [.int m] env = some (.ok (.int (-m)) env) := id rfl
@[simp] theorem o_lt : lift (cmpO .Lt) [.int m, .int n] env = some (.ok (.bl (decide (m < n))) env) := id rfl
@[simp] theorem o_le : lift (cmpO .LtE) [.int m, .int n] env = some (.ok (.bl (decide (m ≤ n))) env) := id rfl
@[simp] theorem o_gt : lift (cmpO .Gt) [.int m, .int n] env = some (.ok (.bl (decide (n < m))) env) := id rfl
@[simp] theorem o_ge : lift (cmpO .GtE) [.int m, .int n] env = some (.ok (.bl (decide (n ≤ m))) env) := id rfl
/-! ### statements -/
variable {s : St} {ss ss2 : Sts} {e : Ex} {f : Fl}
def seqK (G : Calls) (ss : Sts) (f : Fl) (e1 : En) : Option (R Fl) := match f with
  | .nx => evSs G ss e1
  | f => some (.ok f e1)
@[simp] theorem q_ss0 : evSs G .nil env = some (.ok .nx env) := id rfl
@[simp] theorem q_ss1 : evSs G (.cons s ss) env = bnd (evS G s env) (seqK G ss) := id rfl
@[simp] theorem seqK_nx : seqK G ss .nx env = evSs G ss env := id rfl
@[simp] theorem seqK_rt : seqK G ss (.rt d) env = some (.ok (.rt d) env) := id rfl
@[simp] theorem seqK_bk : seqK G ss .bk env = some (.ok .bk env) := id rfl
@[simp] theorem seqK_ct : seqK G ss .ct env = some (.ok .ct env) := id rfl
def setK (i : Nat) (d : AV) (e1 : En) : Option (R Fl) := match asgN i d e1 with
    | some e2 => some (.ok .nx e2)
    | none => none
@[simp] theorem q_set : evS G (.set i e) env = bnd (ev G e env) (setK i) := id rfl
def slFree (x : Option (Option Slot)) : Bool := match x with
  | some (some (.io _)) => false
  | some (some (.brw _ _)) => false
  | some _ => true
  | none => false
@[simp] theorem slFree_none : slFree (some none) = true := id rfl
@[simp] theorem slFree_val : slFree (some (some (.val d))) = true := id rfl
@[simp] theorem slFree_own {nw : Bool} : slFree (some (some (.own nw xs))) = true := id rfl
theorem asgN_val (h : slFree env[i]? = true) (h1 : plB d = true) : asgN i d env = some (env.set i (some (.val d))) := by
  unfold asgN
  unfold slFree at h
  cases q : env[i]? with
  | none => rw [q] at h; cases h
  | some x =>
    rw [q] at h
    cases x with
    | none => cases d <;> first | rfl | (cases h1; done)
    | some sl => cases sl <;> first | (cases h; done) | (cases d <;> first | rfl | (cases h1; done))
theorem asgN_frs (h : slFree env[i]? = true) : asgN i (.frs xs) env = some (env.set i (some (.own true xs))) := by
  unfold asgN
  unfold slFree at h
  cases q : env[i]? with
  | none => rw [q] at h; cases h
  | some x =>
    rw [q] at h
    cases x with
    | none => rfl
    | some sl => cases sl <;> first | (cases h; done) | rfl
@[simp] theorem plB_int : plB (.int m) = true := id rfl
@[simp] theorem plB_bl {t : Bool} : plB (.bl t) = true := id rfl
@[simp] theorem plB_tup : plB (.tup xs) = true := id rfl
@[simp] theorem plB_lst {nw : Bool} : plB (.lst nw xs) = true := id rfl
@[simp] theorem plB_str {t : Str} : plB (.str t) = true := id rfl
@[simp] theorem plB_non : plB .non = true := id rfl
@[simp] theorem setK_int (h : slFree env[i]? = true) : setK i (.int m) env = some (.ok .nx (env.set i (some (.val (.int m))))) := by unfold setK; rw [asgN_val h rfl]
@[simp] theorem setK_bl {t : Bool} (h : slFree env[i]? = true) : setK i (.bl t) env = some (.ok .nx (env.set i (some (.val (.bl t))))) := by unfold setK; rw [asgN_val h rfl]
@[simp] theorem setK_tup (h : slFree env[i]? = true) : setK i (.tup xs) env = some (.ok .nx (env.set i (some (.val (.tup xs))))) := by unfold setK; rw [asgN_val h rfl]
@[simp] theorem setK_lst {nw : Bool} (h : slFree env[i]? = true) : setK i (.lst nw xs) env = some (.ok .nx (env.set i (some (.val (.lst nw xs))))) := by unfold setK; rw [asgN_val h rfl]
@[simp] theorem setK_str {t : Str} (h : slFree env[i]? = true) : setK i (.str t) env = some (.ok .nx (env.set i (some (.val (.str t))))) := by unfold setK; rw [asgN_val h rfl]
@[simp] theorem setK_non (h : slFree env[i]? = true) : setK i .non env = some (.ok .nx (env.set i (some (.val .non)))) := by unfold setK; rw [asgN_val h rfl]
@[simp] theorem setK_frs (h : slFree env[i]? = true) : setK i (.frs xs) env = some (.ok .nx (env.set i (some (.own true xs)))) := by unfold setK; rw [asgN_frs h]
def unpK (t : Tg) (d : AV) (e1 : En) : Option (R Fl) := match asgT t d e1 with
    | some e2 => some (.ok .nx e2)
    | none => none
@[simp] theorem q_unp {t : Tg} : evS G (.unp t e) env = bnd (ev G e env) (unpK t) := id rfl
@[simp] theorem q_stx : evS G (.stx i a e) env = bnd (ev G e env) fun d e1 => if mutB e1 i then bnd (ev G a e1) fun kk e2 => stxE i d kk e2 else none := id rfl
@[simp] theorem q_exp : evS G (.exp e) env = bnd (ev G e env) fun _ e1 => some (.ok .nx e1) := id rfl
@[simp] theorem q_ret : evS G (.ret e) env = bnd (ev G e env) fun d e1 => some (.ok (.rt d) e1) := id rfl
@[simp] theorem q_retN : evS G .retN env = some (.ok (.rt .non) env) := id rfl
@[simp] theorem q_pass : evS G .pass env = some (.ok .nx env) := id rfl
@[simp] theorem q_brk : evS G .brk env = some (.ok .bk env) := id rfl
@[simp] theorem q_cont : evS G .cont env = some (.ok .ct env) := id rfl
@[simp] theorem q_ifs : evS G (.ifs e ss ss2) env = bnd (bnd (ev G e env) asB) fun t e1 => if t then evSs G ss e1 else evSs G ss2 e1 := id rfl
theorem q_whl {n : Nat} : evS G (.whl n e ss) env = whlL (fun e' => bnd (ev G e e') asB) (evSs G ss) n env := id rfl
theorem q_for {t : Tg} {it : It} : evS G (.for_ t it ss) env = bnd (evI G it env) fun s e1 => mapE (fun e2 => unlockE e1 e2 s.lk) (forL t (evSs G ss) s.xs (lockE e1 s.lk)) := id rfl
@[simp] theorem mapE_ok {α : Type} {x : α} {f : En → En} : mapE f (some (.ok x env)) = some (.ok x (f env)) := id rfl
@[simp] theorem runR_rt {l : List Slot} : runR l (some (.ok (.rt d) env)) = finD d l env := id rfl
@[simp] theorem runR_nx {l : List Slot} : runR l (some (.ok .nx env)) = finD .non l env := id rfl
@[simp] theorem finD_int {l : List Slot} : finD (.int m) l env = some (.ok (.int m) (iosOf l env)) := id rfl
@[simp] theorem finD_bl {t : Bool} {l : List Slot} : finD (.bl t) l env = some (.ok (.bl t) (iosOf l env)) := id rfl
@[simp] theorem finD_tup {l : List Slot} : finD (.tup xs) l env = some (.ok (.tup xs) (iosOf l env)) := id rfl
@[simp] theorem finD_frs {l : List Slot} : finD (.frs xs) l env = some (.ok (.frs xs) (iosOf l env)) := id rfl
@[simp] theorem finD_lst {l : List Slot} : finD (.lst false xs) l env = some (.ok (.lst false xs) (iosOf l env)) := id rfl
@[simp] theorem finD_non {l : List Slot} : finD .non l env = some (.ok .non (iosOf l env)) := id rfl
def finS (x : Option (Option Slot)) (l : List Slot) (env : En) : Option CR := match x with
    | some (some (.own _ xs)) => some (.ok (.frs xs) (iosOf l env))
    | _ => none
@[simp] theorem finD_sl {l : List Slot} : finD (.sl i) l env = finS env[i]? l env := id rfl
@[simp] theorem finS_own {nw : Bool} {l : List Slot} : finS (some (some (.own nw xs))) l env = some (.ok (.frs xs) (iosOf l env)) := id rfl
@[simp] theorem ios0 {env : En} : iosOf [] env = [] := by cases env <;> rfl
@[simp] theorem ios1 {l : List Slot} {x : Option Slot} : iosOf (.val d :: l) (x :: env) = none :: iosOf l env := id rfl
@[simp] theorem ios2 {l : List Slot} {nw : Bool} {x : Option Slot} : iosOf (.own nw xs :: l) (x :: env) = none :: iosOf l env := id rfl
@[simp] theorem ios3 {l : List Slot} {t : Bool} {x : Option Slot} : iosOf (.brw t xs :: l) (x :: env) = none :: iosOf l env := id rfl
@[simp] theorem ios4 {l : List Slot} : iosOf (.io xs :: l) (some (.io ys) :: env) = some ys :: iosOf l env := id rfl
/-! ### subscripts -/
def ixK (x : Option (List AV)) (k : Int) (env : En) : Option (R AV) := match x with
  | some xs => match atI xs k with
    | some d => some (.ok d env)
    | none => none
  | none => none
theorem o_ixG {x : AV} (h : ∀ z, x ≠ .str z) : lift oIx [x, .int k] env = ixK (asS env x) k env := by
  unfold lift oIx ixK
  cases x with
  | str z => exact absurd rfl (h z)
  | _ =>
    simp only
    cases asS env _ with
    | none => rfl
    | some xs =>
      simp only
      cases atI xs k <;> rfl
@[simp] theorem o_ix_sl : lift oIx [.sl i, .int k] env = ixK (slL env i) k env := o_ixG (by intro z h; cases h)
@[simp] theorem o_ix_tup : lift oIx [.tup xs, .int k] env = ixK (some xs) k env := o_ixG (by intro z h; cases h)
@[simp] theorem o_ix_lst {nw : Bool} : lift oIx [.lst nw xs, .int k] env = ixK (some xs) k env := o_ixG (by intro z h; cases h)
@[simp] theorem o_ix_frs : lift oIx [.frs xs, .int k] env = ixK (some xs) k env := o_ixG (by intro z h; cases h)
def slX (x : Option (Option Slot)) : Option (List AV) := match x with
  | some (some (.own _ xs)) => some xs
  | some (some (.io xs)) => some xs
  | some (some (.brw _ xs)) => some xs
  | _ => none
@[simp] theorem slL_eq : slL env i = slX env[i]? := id rfl
@[simp] theorem slX_own {nw : Bool} : slX (some (some (.own nw xs))) = some xs := id rfl
@[simp] theorem slX_io : slX (some (some (.io xs))) = some xs := id rfl
@[simp] theorem slX_brw {t : Bool} : slX (some (some (.brw t xs))) = some xs := id rfl
def mutX (x : Option (Option Slot)) : Bool := match x with
  | some (some (.own _ _)) => true
  | some (some (.io _)) => true
  | _ => false
@[simp] theorem mutB_eq : mutB env i = mutX env[i]? := id rfl
@[simp] theorem mutX_own {nw : Bool} : mutX (some (some (.own nw xs))) = true := id rfl
@[simp] theorem mutX_io : mutX (some (some (.io xs))) = true := id rfl
theorem ixK_some (h : atI xs k = some d) : ixK (some xs) k env = some (.ok d env) := by unfold ixK; simp [h]
@[simp] theorem ixK_0 : ixK (some (d :: xs)) 0 env = some (.ok d env) := ixK_some (atI_nat (j := 0) rfl)
@[simp] theorem ixK_1 {d0 : AV} : ixK (some (d0 :: d :: xs)) 1 env = some (.ok d env) := ixK_some (atI_nat (j := 1) rfl)
@[simp] theorem ixK_2 {d0 d1 : AV} : ixK (some (d0 :: d1 :: d :: xs)) 2 env = some (.ok d env) := ixK_some (atI_nat (j := 2) rfl)
/-! ### an item set -/
def stxK (x : Option (List AV)) (i : Nat) (d : Option AV) (k : AV) (env : En) : Option (R Fl) := match d, k, x with
  | some d', .int z, some xs => match ixN xs.length z with
    | some j => some (.ok .nx (updS env i (xs.set j d')))
    | none => none
  | _, _, _ => none
@[simp] theorem q_stxE {kk : AV} : stxE i d kk env = if mutX env[i]? then stxK (slX env[i]?) i (sto d) kk env else none := id rfl
theorem stxK_some {z : Int} {n : Nat} (h : ixN xs.length z = some n) : stxK (some xs) i (some d) (.int z) env = some (.ok .nx (updS env i (xs.set n d))) := by
  unfold stxK
  simp [h]
@[simp] theorem stxK_30 {d0 d1 d2 : AV} : stxK (some [d0, d1, d2]) i (some d) (.int 0) env = some (.ok .nx (updS env i [d, d1, d2])) := stxK_some (n := 0) rfl
@[simp] theorem stxK_31 {d0 d1 d2 : AV} : stxK (some [d0, d1, d2]) i (some d) (.int 1) env = some (.ok .nx (updS env i [d0, d, d2])) := stxK_some (n := 1) rfl
@[simp] theorem stxK_32 {d0 d1 d2 : AV} : stxK (some [d0, d1, d2]) i (some d) (.int 2) env = some (.ok .nx (updS env i [d0, d1, d])) := stxK_some (n := 2) rfl
@[simp] theorem sto_int : sto (.int m) = some (.int m) := id rfl
@[simp] theorem sto_tup : sto (.tup xs) = some (.tup xs) := id rfl
@[simp] theorem sto_bl {t : Bool} : sto (.bl t) = some (.bl t) := id rfl
@[simp] theorem sto_str {t : Str} : sto (.str t) = some (.str t) := id rfl
@[simp] theorem sto_non : sto .non = some .non := id rfl
@[simp] theorem sto_lst {nw : Bool} : sto (.lst nw xs) = some (.lst nw xs) := id rfl
@[simp] theorem sto_frs : sto (.frs xs) = some (.lst true xs) := id rfl
def updX (x : Option (Option Slot)) (env : En) (i : Nat) (ys : List AV) : En := match x with
  | some (some (.own nw _)) => env.set i (some (.own nw ys))
  | some (some (.io _)) => env.set i (some (.io ys))
  | _ => env
@[simp] theorem updS_eq : updS env i ys = updX env[i]? env i ys := id rfl
@[simp] theorem updX_own {nw : Bool} : updX (some (some (.own nw xs))) env i ys = env.set i (some (.own nw ys)) := id rfl
@[simp] theorem updX_io : updX (some (some (.io xs))) env i ys = env.set i (some (.io ys)) := id rfl
/-! ### conditions on numbers -/
@[simp] theorem cPos_eq : cPos m n = decide (0 < n) := id rfl
theorem cDiv_eq : cDiv m n = (decide (0 < n) && decide (n < 2 ^ 256)) := rfl
@[simp] theorem cMul_r (h : n.natAbs < 18446744073709551616) : cMul m n = true := by unfold cMul; simp [h]
@[simp] theorem cMul_l (h : m.natAbs < 18446744073709551616) : cMul m n = true := by unfold cMul; simp [h]
@[simp] theorem cMul_modl {b : Int} (h : 0 < b) (h2 : b < 18446744073709551616) : cMul (m % b) n = true := cMul_l (by
  have h3 := Int.emod_nonneg m (Int.ne_of_gt h)
  have h4 := Int.emod_lt_of_pos m h
  omega)
@[simp] theorem cMul_modr {b : Int} (h : 0 < b) (h2 : b < 18446744073709551616) : cMul n (m % b) = true := cMul_r (by
  have h3 := Int.emod_nonneg m (Int.ne_of_gt h)
  have h4 := Int.emod_lt_of_pos m h
  omega)
end
end RX
/-! RX part x: equations of comprehensions, loops, calls. -/
namespace RX
open PySem L2
section
variable {G : Calls} {env env1 env2 : En} {a b c e : Ex} {i j : Nat} {es : Exs} {m n k : Int} {xs ys : List AV} {d : AV} {own : List Nat} {t : Tg} {it : It}
theorem lock1_len : (lock1 env i).length = env.length := by
  unfold lock1
  split
  · rw [List.length_set]
  · rfl
theorem lockE_len : ∀ {lk : List Nat} {env : En}, (lockE env lk).length = env.length
  | [], _ => rfl
  | i :: is, env => by unfold lockE; rw [lockE_len, lock1_len]
theorem unl_lock1 : unl1 env i (lock1 env i) = env := by
  unfold unl1 lock1
  split
  · rename_i nw xs e
    rw [List.set_set, set_self e]
  · rename_i n1
    split
    · rename_i nw xs e
      exact absurd e (n1 nw xs)
    · rfl
@[simp] theorem unlock_lock : ∀ {lk : List Nat} {env : En}, unlockE env (lockE env lk) lk = env
  | [], _ => rfl
  | i :: is, env => by unfold unlockE lockE; rw [unlock_lock, unl_lock1]
theorem back_wipe : backE env (wipeE env own) own = env := by
  apply List.ext_getElem?
  intro j
  by_cases h : j ∈ own
  · rw [backE_in wipeE_len h]
  · rw [backE_out h, wipeE_out h]
/-- a comprehension whose turns leave the slots as they were -/
theorem compL_eq {cc : En → Option (R Bool)} {ee : En → Option (R AV)} (p : AV → Bool) (v : AV → AV) : ∀ {xs : List AV}, (∀ x ∈ xs, ∃ env1 env2, asgT t x env = some env1 ∧ cc env1 = some (.ok (p x) env2) ∧ (p x = true → ∃ d env3, ee env2 = some (.ok d env3) ∧ sto d = some (v x) ∧ wipeE env3 own = env) ∧ (p x = false → wipeE env2 own = env)) →
    compL own t cc ee xs env = some (.ok ((xs.filter p).map v) env)
  | [], _ => rfl
  | x :: xs, h => by
    obtain ⟨env1, env2, h1, h2, h3, h4⟩ := h x List.mem_cons_self
    have ih := compL_eq p v (xs := xs) fun y hy => h y (List.mem_cons_of_mem _ hy)
    unfold compL
    rw [h1]
    simp only
    rw [h2]
    show (if p x = true then bnd (noX (ee env2)) _ else compL own t cc ee xs (wipeE env2 own)) = _
    cases q : p x with
    | true =>
      obtain ⟨d, env3, k1, k2, k3⟩ := h3 q
      rw [if_pos rfl, k1]
      show (match sto d with | none => none | some d' => bnd (compL own t cc ee xs (wipeE env3 own)) fun ds env4 => some (.ok (d' :: ds) env4)) = _
      rw [k2, k3, ih]
      simp [List.filter_cons, q]
    | false =>
      rw [if_neg Bool.false_ne_true, h4 q, ih]
      simp [List.filter_cons, q]
theorem ev_comp {s : Src} {e1 : En} (p : AV → Bool) (v : AV → AV) (hI : evI G it env = some (.ok s e1)) (hl : s.xs.length ≤ sizeLine) (ho : ownOk e1 own = true) (hd : (own.all fun i => !s.lk.contains i) = true)
    (h : ∀ x ∈ s.xs, ∃ env1 env2, asgT t x (wipeE (lockE e1 s.lk) own) = some env1 ∧ evCk (isNul c) (ev G c) env1 = some (.ok (p x) env2) ∧ (p x = true → ∃ d env3, ev G e env2 = some (.ok d env3) ∧ sto d = some (v x) ∧ wipeE env3 own = wipeE (lockE e1 s.lk) own) ∧ (p x = false → wipeE env2 own = wipeE (lockE e1 s.lk) own)) :
    ev G (.comp e own t it c) env = some (.ok (.frs ((s.xs.filter p).map v)) e1) := by
  rw [q_comp, hI, bnd_ok]
  have hl' : lenOk s.xs.length = true := by unfold lenOk; simp [hl]
  rw [hl', ho, hd]
  simp only [Bool.true_and, if_true]
  rw [compL_eq p v h, bnd_ok, back_wipe, unlock_lock]
/-- no test -/
theorem ev_map {s : Src} {e1 : En} (v : AV → AV) (hI : evI G it env = some (.ok s e1)) (hl : s.xs.length ≤ sizeLine) (ho : ownOk e1 own = true) (hd : (own.all fun i => !s.lk.contains i) = true)
    (h : ∀ x ∈ s.xs, ∃ env1 d env3, asgT t x (wipeE (lockE e1 s.lk) own) = some env1 ∧ ev G e env1 = some (.ok d env3) ∧ sto d = some (v x) ∧ wipeE env3 own = wipeE (lockE e1 s.lk) own) :
    ev G (.comp e own t it .nul) env = some (.ok (.frs (s.xs.map v)) e1) := by
  have := ev_comp (c := .nul) (e := e) (t := t) (p := fun _ => true) v hI hl ho hd fun x hx => by
    obtain ⟨env1, d, env3, h1, h2, h3, h4⟩ := h x hx
    exact ⟨env1, env1, h1, rfl, fun _ => ⟨d, env3, h2, h3, h4⟩, fun z => by cases z⟩
  have hf : s.xs.filter (fun _ => true) = s.xs := List.filter_eq_self.mpr fun _ _ => rfl
  rw [hf] at this
  exact this
/-! ### what is walked -/
def rgK (ds : List AV) (e1 : En) : Option (R Src) := match rngL ds with
  | some xs => some (.ok ⟨xs, []⟩ e1)
  | none => none
@[simp] theorem i_rg : evI G (.rg es) env = bnd (evs G es env) rgK := id rfl
def iL (l : List Int) : List AV := l.map AV.int
@[simp] theorem iL_len {l : List Int} : (iL l).length = l.length := by simp [iL]
/-- a, a + 1, .. (below b) -/
def upto (a b : Int) : List Int := (List.range (b - a).toNat).map fun i => a + (i : Nat)
theorem upto_len {a b : Int} : (upto a b).length = (b - a).toNat := by simp [upto]
theorem mem_upto {a b x : Int} : x ∈ upto a b ↔ a ≤ x ∧ x < b := by
  unfold upto
  simp only [List.mem_map, List.mem_range]
  constructor
  · rintro ⟨i, h, rfl⟩; omega
  · rintro ⟨h1, h2⟩; exact ⟨(x - a).toNat, by omega, by omega⟩
theorem upto_nil {a b : Int} (h : b ≤ a) : upto a b = [] := by
  have : (b - a).toNat = 0 := by omega
  simp [upto, this]
theorem upto_cons {a b : Int} (h : a < b) : upto a b = a :: upto (a + 1) b := by
  have : (b - a).toNat = (b - (a + 1)).toNat + 1 := by omega
  unfold upto
  rw [this, List.range_succ_eq_map, List.map_cons, List.map_map]
  simp only [Int.natCast_zero, Int.add_zero, List.cons.injEq, true_and]
  apply List.map_congr_left
  intro i _
  simp only [Function.comp]
  omega
theorem rgL_eq : rgL m n = iL (upto m n) := by unfold rgL iL upto; rw [List.map_map]; rfl
theorem rgOk_of (h0 : -(2 ^ 62) ≤ m) (h1 : m < 2 ^ 62) (h2 : -(2 ^ 62) ≤ n) (h3 : n < 2 ^ 62) : rgOk m n = true := by unfold rgOk; simp only [Bool.and_eq_true, decide_eq_true_eq]; exact ⟨⟨⟨h0, h1⟩, h2⟩, h3⟩
theorem rgK_1 (h0 : -(2 ^ 62) ≤ n) (h : n < 2 ^ 62) : rgK [.int n] env = some (.ok ⟨iL (upto 0 n), []⟩ env) := by
  unfold rgK rngL
  simp [rgOk_of (m := 0) (by omega) (by omega) h0 h, rgL_eq]
theorem rgK_2 (h2 : -(2 ^ 62) ≤ m) (h3 : m < 2 ^ 62) (h0 : -(2 ^ 62) ≤ n) (h : n < 2 ^ 62) : rgK [.int m, .int n] env = some (.ok ⟨iL (upto m n), []⟩ env) := by
  unfold rgK rngL
  simp [rgOk_of h2 h3 h0 h, rgL_eq]
theorem rgK_1s (h0 : -10000 ≤ n) (h : n < 10000) : rgK [.int n] env = some (.ok ⟨iL (upto 0 n), []⟩ env) := rgK_1 (by omega) (by omega)
theorem rgK_2s (h2 : -10000 ≤ m) (h3 : m < 10000) (h0 : -10000 ≤ n) (h : n < 10000) : rgK [.int m, .int n] env = some (.ok ⟨iL (upto m n), []⟩ env) := rgK_2 (by omega) (by omega) (by omega) (by omega)
def sqK (d : AV) (e1 : En) : Option (R Src) := match seqOf (lockE e1 (lkL [d])) d with
    | some (_, xs) => some (.ok ⟨xs, lkL [d]⟩ e1)
    | none => none
@[simp] theorem i_seq : evI G (.seq e) env = bnd (ev G e env) sqK := id rfl
@[simp] theorem sqK_tup : sqK (.tup xs) env = some (.ok ⟨xs, []⟩ env) := id rfl
@[simp] theorem sqK_lst {nw : Bool} : sqK (.lst nw xs) env = some (.ok ⟨xs, []⟩ env) := id rfl
@[simp] theorem sqK_frs : sqK (.frs xs) env = some (.ok ⟨xs, []⟩ env) := id rfl
theorem sqK_own {nw : Bool} (h : env[i]? = some (some (.own nw xs))) : sqK (.sl i) env = some (.ok ⟨xs, [i]⟩ env) := by
  have e : (lockE env [i])[i]? = some (some (.brw true xs)) := by
    show (lock1 env i)[i]? = _
    unfold lock1
    rw [h]
    exact List.getElem?_set_self (lt_of_get h)
  unfold sqK seqOf
  simp only [lkL]
  rw [e]
theorem sqK_brw {tt : Bool} (h : env[i]? = some (some (.brw tt xs))) : sqK (.sl i) env = some (.ok ⟨xs, [i]⟩ env) := by
  have e : (lockE env [i])[i]? = some (some (.brw tt xs)) := by
    show (lock1 env i)[i]? = _
    unfold lock1
    rw [h]
    exact h
  unfold sqK seqOf
  simp only [lkL]
  rw [e]
/-! ### items -/
theorem atI_iL {l : List Int} (h0 : 0 ≤ k) (h1 : k < l.length) : ∃ z, l[k.toNat]? = some z ∧ atI (iL l) k = some (.int z) := by
  have lt : k.toNat < l.length := by omega
  refine ⟨l[k.toNat], by simp [lt], ?_⟩
  unfold atI ixN
  simp only [iL_len, h0, if_true, h1, Option.bind_some]
  simp [iL, lt]
theorem ixK_iL {l : List Int} (h0 : 0 ≤ k) (h1 : k < l.length) : ∃ z, l[k.toNat]? = some z ∧ ixK (some (iL l)) k env = some (.ok (.int z) env) := by
  obtain ⟨z, e1, e2⟩ := atI_iL h0 h1
  exact ⟨z, e1, ixK_some e2⟩
/-! ### built-in calls -/
@[simp] theorem o_len_sl : lift (biO .len) [.sl i] env = match slX env[i]? with | some xs => some (.ok (.int xs.length) env) | none => none := by
  unfold lift biO oLen
  simp [asS, asL]
  cases slX env[i]? <;> rfl
@[simp] theorem o_len_tup : lift (biO .len) [.tup xs] env = some (.ok (.int xs.length) env) := id rfl
@[simp] theorem o_len_lst {nw : Bool} : lift (biO .len) [.lst nw xs] env = some (.ok (.int xs.length) env) := id rfl
@[simp] theorem o_len_frs : lift (biO .len) [.frs xs] env = some (.ok (.int xs.length) env) := id rfl
theorem o_sum {x : AV} {l : List Int} (h : asL env x = some (iL l)) : lift (biO .sum) [x] env = some (.ok (.int l.sum) env) := by
  unfold lift biO oSum
  simp only [h]
  rw [show ints? (iL l) = some l from ints?_ints l]
  rfl
theorem o_list {x : AV} (h : asS env x = some xs) : lift (biO .list) [x] env = some (.ok (.frs xs) env) := by
  unfold lift biO oList
  simp only [h, Option.map_some]
theorem o_isi {x : AV} {t n : String} (h : tyA env x = some t) (hn : tyAsk.contains n = true) : lift (biO .isi) [x, .ty n] env = some (.ok (.bl (isiB t n)) env) := by
  unfold lift biO oIsi
  simp only [h, hn, if_true]
@[simp] theorem o_lst0 : lift oLst [] env = some (.ok (.frs []) env) := id rfl
/-! ### equality -/
theorem toPs_iL : ∀ {l : List Int}, toPs (iL l) = l.map PyData.int
  | [] => rfl
  | x :: l => by
    show toP (.int x) :: toPs (iL l) = _
    rw [toPs_iL]; rfl
theorem plAs_iL : ∀ {l : List Int}, plAs (iL l) = true
  | [] => rfl
  | x :: l => by
    show (plA (.int x) && plAs (iL l)) = true
    rw [plAs_iL]; rfl
theorem can_ints : ∀ {l : List Int}, PyData.canLayAll0 (l.map PyData.int) = true
  | [] => rfl
  | x :: l => by
    show (PyData.canLay0 (.int x) && PyData.canLayAll0 (l.map PyData.int)) = true
    rw [can_ints]; rfl
theorem depth_ints : ∀ {l : List Int}, PyData.depthAll (l.map PyData.int) = 0
  | [] => rfl
  | x :: l => by
    show max (PyData.depth (.int x)) (PyData.depthAll (l.map PyData.int)) = 0
    rw [depth_ints]; rfl
theorem eqv_ints : ∀ {l l' : List Int}, PyData.eqvAll (l.map PyData.int) (l'.map PyData.int) = decide (l = l')
  | [], [] => by simp [PyData.eqvAll]
  | [], _ :: _ => by simp [PyData.eqvAll]
  | _ :: _, [] => by simp [PyData.eqvAll]
  | x :: l, y :: l' => by
    show (PyData.eqv (.int x) (.int y) && PyData.eqvAll (l.map PyData.int) (l'.map PyData.int)) = _
    rw [eqv_ints]
    show ((x == y) && decide (l = l')) = _
    by_cases h : x = y <;> by_cases h2 : l = l' <;> simp [h, h2]
theorem ok_iL {b : Bool} {l : List Int} : okE (.lst b (iL l)) = true := by
  unfold okE
  rw [show plA (.lst b (iL l)) = plAs (iL l) from rfl, plAs_iL]
  show SeqAt.shaped (.list (toPs (iL l))) = true
  rw [toPs_iL]
  unfold SeqAt.shaped
  rw [show PyData.canLay0 (.list (l.map PyData.int)) = PyData.canLayAll0 (l.map PyData.int) from rfl, can_ints]
  rw [show PyData.depth (.list (l.map PyData.int)) = PyData.depthAll (l.map PyData.int) + 1 from rfl, depth_ints]
  rfl
theorem eqA_iL {b b' : Bool} {l l' : List Int} : eqA (.lst b (iL l)) (.lst b' (iL l')) = decide (l = l') := by
  unfold eqA
  show PyData.eqvAll (toPs (iL l)) (toPs (iL l')) = _
  rw [toPs_iL, toPs_iL, eqv_ints]
theorem rsv_L {x : AV} (h : asL env x = some xs) : rsv env x = some (.lst false xs) := by unfold rsv; rw [h]
theorem o_eqL {x y : AV} {l l' : List Int} (h1 : asL env x = some (iL l)) (h2 : asL env y = some (iL l')) : lift (cmpO .Eq) [x, y] env = some (.ok (.bl (decide (l = l'))) env) := by
  unfold lift cmpO oEq oEqN
  simp only [rsv_L h1, rsv_L h2, ok_iL, Bool.and_self, if_true, eqA_iL, Bool.false_eq_true, if_false]
theorem o_neL {x y : AV} {l l' : List Int} (h1 : asL env x = some (iL l)) (h2 : asL env y = some (iL l')) : lift (cmpO .NotEq) [x, y] env = some (.ok (.bl (!decide (l = l'))) env) := by
  unfold lift cmpO oNe oEqN
  simp only [rsv_L h1, rsv_L h2, ok_iL, Bool.and_self, if_true, eqA_iL]
@[simp] theorem o_eqI : lift (cmpO .Eq) [.int m, .int n] env = some (.ok (.bl (decide (m = n))) env) := id rfl
@[simp] theorem o_neI : lift (cmpO .NotEq) [.int m, .int n] env = some (.ok (.bl (!decide (m = n))) env) := id rfl
@[simp] theorem o_eqB {s t : Bool} : lift (cmpO .Eq) [.bl s, .bl t] env = some (.ok (.bl (s == t)) env) := id rfl
@[simp] theorem o_neB {s t : Bool} : lift (cmpO .NotEq) [.bl s, .bl t] env = some (.ok (.bl (!(s == t))) env) := id rfl
@[simp] theorem o_neIt {s t : Bool} : lift (cmpO .IsNot) [.bl s, .bl t] env = some (.ok (.bl (!(s == t))) env) := by cases s <;> cases t <;> rfl
end
end RX
/-! RX part y: calls of the program's defs, for simp; the pen that the laws draw by. -/
namespace RX
open PySem L2
section
variable {G : Calls} {env : En} {f : Str} {ms : List Bool} {ds : List AV} {i : Nat} {xs ys : List AV} {m : Int} {d : AV} {b : Bool} {ss : List Slot} {s : Slot}
def callK (r : Option CR) (ds : List AV) (env : En) : Option (R AV) := match r with
  | none => none
  | some (.ok d ios) => some (.ok d (putIos env ds ios))
  | some (.exc c ios) => some (.exc c (putIos env ds ios))
@[simp] theorem callK_ok {ios : List (Option (List AV))} : callK (some (.ok d ios)) ds env = some (.ok d (putIos env ds ios)) := id rfl
def callS (G : Calls) (f : Str) (x : Option (List Slot)) (ds : List AV) (env : En) : Option (R AV) := match x with
  | none => none
  | some ss => callK (G f ss) ds env
@[simp] theorem callS_some : callS G f (some ss) ds env = callK (G f ss) ds env := id rfl
@[simp] theorem q_callE (h : argsOk ms ds = true) : callE G f ms ds env = callS G f (argSlots env ms ds) ds env := by
  unfold callE
  rw [if_pos h]
  first
    | done
    | rfl
    | (unfold callS callK
       cases argSlots env ms ds with
       | none => rfl
       | some ss =>
         simp only
         cases G f ss with
         | none => rfl
         | some r => cases r <;> rfl)
@[simp] theorem argsOk_eq : argsOk ms ds = (decide (ioIx ms ds).Nodup && (brIx ms ds).all fun i => !(ioIx ms ds).contains i) := id rfl
@[simp] theorem ioIx0 : ioIx [] [] = [] := id rfl
@[simp] theorem ioIxS : ioIx (true :: ms) (.sl i :: ds) = i :: ioIx ms ds := id rfl
@[simp] theorem ioIxF : ioIx (false :: ms) (d :: ds) = ioIx ms ds := by cases d <;> rfl
@[simp] theorem brIx0 : brIx [] [] = [] := id rfl
@[simp] theorem brIxS : brIx (false :: ms) (.sl i :: ds) = i :: brIx ms ds := id rfl
@[simp] theorem brIxT : brIx (true :: ms) (d :: ds) = brIx ms ds := by cases d <;> rfl
@[simp] theorem brIx_int : brIx (false :: ms) (.int m :: ds) = brIx ms ds := id rfl
@[simp] theorem brIx_bl : brIx (false :: ms) (.bl b :: ds) = brIx ms ds := id rfl
@[simp] theorem brIx_tup : brIx (false :: ms) (.tup xs :: ds) = brIx ms ds := id rfl
@[simp] theorem brIx_lst : brIx (false :: ms) (.lst b xs :: ds) = brIx ms ds := id rfl
@[simp] theorem brIx_frs : brIx (false :: ms) (.frs xs :: ds) = brIx ms ds := id rfl
@[simp] theorem brIx_str {z : Str} : brIx (false :: ms) (.str z :: ds) = brIx ms ds := id rfl
@[simp] theorem brIx_non : brIx (false :: ms) (.non :: ds) = brIx ms ds := id rfl
def consO (x : Option Slot) (y : Option (List Slot)) : Option (List Slot) := match x, y with
  | some s, some ss => some (s :: ss)
  | _, _ => none
@[simp] theorem consO_some : consO (some s) (some ss) = some (s :: ss) := id rfl
@[simp] theorem argSlots0 : argSlots env [] [] = some [] := id rfl
@[simp] theorem argSlots1 : argSlots env (b :: ms) (d :: ds) = consO (argSlot env b d) (argSlots env ms ds) := id rfl
def argI (x : Option (Option Slot)) : Option Slot := match x with
    | some (some (.own _ xs)) => some (.io (ages xs))
    | some (some (.io xs)) => some (.io (ages xs))
    | _ => none
def argB (x : Option (Option Slot)) : Option Slot := match x with
    | some (some (.own _ xs)) => some (.brw true (ages xs))
    | some (some (.io xs)) => some (.brw true (ages xs))
    | some (some (.brw t xs)) => some (.brw t (ages xs))
    | _ => none
@[simp] theorem argSlotI : argSlot env true (.sl i) = argI env[i]? := id rfl
@[simp] theorem argSlotB : argSlot env false (.sl i) = argB env[i]? := id rfl
@[simp] theorem argI_own : argI (some (some (.own b xs))) = some (.io (ages xs)) := id rfl
@[simp] theorem argI_io : argI (some (some (.io xs))) = some (.io (ages xs)) := id rfl
@[simp] theorem argB_own : argB (some (some (.own b xs))) = some (.brw true (ages xs)) := id rfl
@[simp] theorem argB_io : argB (some (some (.io xs))) = some (.brw true (ages xs)) := id rfl
@[simp] theorem argB_brw : argB (some (some (.brw b xs))) = some (.brw b (ages xs)) := id rfl
@[simp] theorem argSlot_frs : argSlot env false (.frs xs) = some (.own false (ages xs)) := id rfl
@[simp] theorem argSlot_int : argSlot env false (.int m) = some (.val (.int m)) := id rfl
@[simp] theorem argSlot_bl : argSlot env false (.bl b) = some (.val (.bl b)) := id rfl
@[simp] theorem argSlot_str {z : Str} : argSlot env false (.str z) = some (.val (.str z)) := id rfl
@[simp] theorem argSlot_non : argSlot env false .non = some (.val .non) := id rfl
@[simp] theorem argSlot_tup : argSlot env false (.tup xs) = some (.val (.tup (ages xs))) := id rfl
@[simp] theorem argSlot_lst : argSlot env false (.lst b xs) = some (.val (.lst false (ages xs))) := id rfl
@[simp] theorem ages_iL : ∀ {l : List Int}, ages (iL l) = iL l
  | [] => rfl
  | x :: l => by
    show age (.int x) :: ages (iL l) = _
    rw [ages_iL]; rfl
@[simp] theorem putIos0 {ios : List (Option (List AV))} : putIos env [] ios = env := by cases ios <;> rfl
@[simp] theorem putIosS {ios : List (Option (List AV))} : putIos env (.sl i :: ds) (some ys :: ios) = putIos (updS env i ys) ds ios := id rfl
@[simp] theorem putIosN {ios : List (Option (List AV))} : putIos env (d :: ds) (none :: ios) = putIos env ds ios := by cases d <;> rfl
end
theorem callD_at {D : List Df} {n : Nat} {f : Str} {ss : List Slot} {d : Df} (hf : D.find? (fun d => decide (d.nm = f)) = some d) (hl : ss.length = d.ps.length) : callD D (n + 1) f ss = runR ss (evWs (callD D n) d.body (ss.map some ++ List.replicate (d.N.length - ss.length) none)) := by
  show (match D.find? (fun d => decide (d.nm = f)) with | none => none | some d => if ss.length = d.ps.length then runDef (callD D n) d ss else none) = _
  rw [hf]
  simp only [hl, if_true]
  show runDef (callD D n) d ss = _
  unfold runDef
  rw [hl]
/-! ### the pen -/
abbrev Pen := Int × Int × Int
def penL (p : Pen) : List AV := [.int p.1, .int p.2.1, .int p.2.2]
@[simp] theorem ages_pen {p : Pen} : ages (penL p) = penL p := id rfl
def n1 (p : Pen) : Int := (p.2.2 + 7 * (p.2.1 + 1)) * 48271 % 2147483629
def n2 (p : Pen) : Int := (n1 p * n1 p + 69621 * (p.2.1 + 1)) % 2147483587
def n3 (p : Pen) : Int := n2 p * (n2 p % 65521 + (p.2.1 + 1)) % 2147483563
/-- what is drawn; the pen behind it -/
def tkV (p : Pen) (s : Int) : Int := if 0 < p.1 then p.1 % s else n3 p / 11 % s
def tkP (p : Pen) (s : Int) : Pen := if 0 < p.1 then (p.1 / s, p.2.1, p.2.2) else (p.1, p.2.1 + 1, p.2.2)
theorem tkV_0 (p : Pen) {s : Int} (h : 0 < s) : 0 ≤ tkV p s := by
  unfold tkV
  split <;> exact Int.emod_nonneg _ (by omega)
theorem tkV_lt (p : Pen) {s : Int} (h : 0 < s) : tkV p s < s := by
  unfold tkV
  split <;> exact Int.emod_lt_of_pos _ h
def b_take : Sts := (.cons (.ifs (.cmp .Gt (.ix (.var 0) (.int 0)) (.int 0)) (.cons (.set 3 (.bin .mod (.ix (.var 0) (.int 0)) (.var 1))) (.cons (.stx 0 (.int 0) (.bin .div (.ix (.var 0) (.int 0)) (.var 1))) (.cons (.ret (.var 3)) .nil))) .nil) (.cons (.stx 0 (.int 1) (.bin .add (.ix (.var 0) (.int 1)) (.int 1))) (.cons (.set 2 (.bin .mod (.bin .mul (.bin .add (.ix (.var 0) (.int 2)) (.bin .mul (.int 7) (.ix (.var 0) (.int 1)))) (.int 48271)) (.int 2147483629))) (.cons (.set 2 (.bin .mod (.bin .add (.bin .mul (.var 2) (.var 2)) (.bin .mul (.int 69621) (.ix (.var 0) (.int 1)))) (.int 2147483587))) (.cons (.set 2 (.bin .mod (.bin .mul (.var 2) (.bin .add (.bin .mod (.var 2) (.int 65521)) (.ix (.var 0) (.int 1)))) (.int 2147483563))) (.cons (.ret (.bin .mod (.bin .div (.var 2) (.int 11)) (.var 1))) .nil))))))
theorem take_run (G : Calls) (p : Pen) (s : Int) (hs : 0 < s) (hs2 : s < 2 ^ 256) : runR [.io (penL p), .val (.int s)] (evSs G b_take [some (.io (penL p)), some (.val (.int s)), none, none]) = some (.ok (.int (tkV p s)) [some (penL (tkP p s)), none]) := by
  obtain ⟨p0, p1, p2⟩ := p
  have hd : cDiv p0 s = true := by unfold cDiv; simp only [hs, hs2, decide_true, Bool.and_self]
  by_cases h : 0 < p0
  · simp [b_take, penL, tkV, tkP, h, hs, hd]
  · simp [b_take, penL, tkV, tkP, h, hs, cDiv, n1, n2, n3]
/-- what a drawing gives -/
def TakeS (G : Calls) : Prop := ∀ (p : Pen) (s : Int), 0 < s → s < 2 ^ 256 → G "_law_take" [.io (penL p), .val (.int s)] = some (.ok (.int (tkV p s)) [some (penL (tkP p s)), none])
def b_pen : Sts := (.cons (.set 2 (.bin .add (.bin .mul (.int 40009) (.var 1)) (.int 11))) (.cons (.ifs (.cmp .Gt (.bi .len (.cons (.var 0) .nil)) (.int 0)) (.cons (.set 2 (.ix (.var 0) (.bin .mod (.var 1) (.bi .len (.cons (.var 0) .nil))))) (.cons (.ifs (.cmp .GtE (.var 1) (.bi .len (.cons (.var 0) .nil))) (.cons (.set 2 (.bin .add (.bin .mod (.var 2) (.int 2147483629)) (.bin .mul (.int 104729) (.var 1)))) .nil) .nil) .nil)) .nil) (.cons (.ifs (.cmp .GtE (.var 2) (.bin .pow (.int 10) (.int 18))) (.cons (.ret (.lst (.cons (.bin .sub (.var 2) (.bin .pow (.int 10) (.int 18))) (.cons (.int 0) (.cons (.bin .add (.bin .mod (.var 2) (.int 2147483587)) (.var 1)) .nil))))) .nil) .nil) (.cons (.ret (.lst (.cons (.int 0) (.cons (.int 0) (.cons (.bin .add (.bin .mod (.var 2) (.int 2147483587)) (.bin .mul (.int 31) (.var 1))) .nil))))) .nil))))
theorem pen_end (G : Calls) (l : List Int) (k c : Int) (b : Bool) : ∃ p : Pen, runR [.brw b (iL l), .val (.int k)] (evSs G (.cons (.ifs (.cmp .GtE (.var 2) (.bin .pow (.int 10) (.int 18))) (.cons (.ret (.lst (.cons (.bin .sub (.var 2) (.bin .pow (.int 10) (.int 18))) (.cons (.int 0) (.cons (.bin .add (.bin .mod (.var 2) (.int 2147483587)) (.var 1)) .nil))))) .nil) .nil) (.cons (.ret (.lst (.cons (.int 0) (.cons (.int 0) (.cons (.bin .add (.bin .mod (.var 2) (.int 2147483587)) (.bin .mul (.int 31) (.var 1))) .nil))))) .nil)) [some (.brw b (iL l)), some (.val (.int k)), some (.val (.int c))]) = some (.ok (.frs (penL p)) [none, none]) := by
  have e3 : ∀ (env : En) (x y z : Int), lift oLst [.int x, .int y, .int z] env = some (.ok (.frs (penL (x, y, z))) env) := fun _ _ _ _ => rfl
  by_cases h : 10 ^ 18 ≤ c
  · refine ⟨(c - 10 ^ 18, 0, c % 2147483587 + k), ?_⟩
    have h : 1000000000000000000 ≤ c := by simpa using h
    simp [cPow, e3, h]
  · refine ⟨(0, 0, c % 2147483587 + 31 * k), ?_⟩
    have h : ¬ 1000000000000000000 ≤ c := by simpa using h
    simp [cPow, e3, h]
theorem pen_run (G : Calls) (l : List Int) (k : Int) (hk : 0 ≤ k) (b : Bool) : ∃ p : Pen, runR [.brw b (iL l), .val (.int k)] (evSs G b_pen [some (.brw b (iL l)), some (.val (.int k)), none]) = some (.ok (.frs (penL p)) [none, none]) := by
  by_cases h0 : 0 < (l.length : Int)
  · have h0n : 0 < l.length := by omega
    have hm0 := Int.emod_nonneg k (b := (l.length : Int)) (by omega)
    have hm1 := Int.emod_lt_of_pos k h0
    obtain ⟨z, _, hz⟩ := ixK_iL (l := l) (env := [some (.brw b (iL l)), some (.val (.int k)), some (.val (.int (40009 * k + 11)))]) hm0 hm1
    by_cases h1 : (l.length : Int) ≤ k
    · obtain ⟨p, hp⟩ := pen_end G l k (z % 2147483629 + 104729 * k) b
      refine ⟨p, ?_⟩
      rw [← hp]
      simp [b_pen, h0n, h1, hz]
    · obtain ⟨p, hp⟩ := pen_end G l k z b
      refine ⟨p, ?_⟩
      rw [← hp]
      simp [b_pen, h0n, h1, hz]
  · obtain ⟨p, hp⟩ := pen_end G l k (40009 * k + 11) b
    refine ⟨p, ?_⟩
    rw [← hp]
    have h0n : ¬ 0 < l.length := by omega
    simp [b_pen, h0n]
end RX
/-! RX part z: loops that seek; lists of ints. -/
namespace RX
open PySem L2
section
variable {G : Calls} {env : En} {i j : Nat} {m n k : Int} {xs ys : List AV} {d : AV} {l : List Int}
/-- the k-th -/
def gI (l : List Int) (k : Int) : Int := l.getD k.toNat 0
theorem ixK_g (h0 : 0 ≤ k) (h1 : k < l.length) : ixK (some (iL l)) k env = some (.ok (.int (gI l k)) env) := by
  obtain ⟨z, e1, e2⟩ := ixK_iL (env := env) h0 h1
  rw [e2]
  unfold gI
  rw [List.getD_eq_getElem?_getD, e1]
  rfl
theorem ixK_neg (h : 0 < l.length) : ixK (some (iL l)) (-1) env = some (.ok (.int (gI l (l.length - 1))) env) := by
  have e : atI (iL l) (-1) = some (.int (gI l (l.length - 1))) := by
    unfold atI ixN
    have h1 : ¬ (0 : Int) ≤ -1 := by omega
    have h2 : -((iL l).length : Int) ≤ -1 := by rw [iL_len]; omega
    rw [if_neg h1, if_pos h2]
    simp only [Option.bind_some, iL_len]
    have h3 : ((-1 : Int) + (l.length : Int)).toNat = l.length - 1 := by omega
    have h4 : ((l.length : Int) - 1).toNat = l.length - 1 := by omega
    rw [h3]
    unfold gI iL
    rw [h4, List.getD_eq_getElem?_getD, List.getElem?_map]
    have lt : l.length - 1 < l.length := by omega
    simp [lt]
  exact ixK_some e
theorem o_ixL {x : AV} (h : asL env x = some xs) : lift oIx [x, .int k] env = ixK (some xs) k env := by
  have ha : asS env x = some xs := by
    cases x <;> first | exact h | (cases h; done)
  rw [o_ixG (x := x) (by intro z e; subst e; cases h), ha]
theorem o_lenL {x : AV} (h : asL env x = some xs) : lift (biO .len) [x] env = some (.ok (.int xs.length) env) := by
  have ha : asS env x = some xs := by
    cases x <;> first | exact h | (cases h; done)
  unfold lift biO oLen
  cases x <;> first
    | (cases h; done)
    | (simp only [ha])
theorem cut_from (h0 : 0 ≤ k) (h1 : k ≤ l.length) : cutA (iL l) (some k) none = iL (l.drop k.toNat) := by
  unfold cutA
  rw [show HT.sIx (iL l).length (iL l).length none = (iL l).length from rfl]
  have : HT.sIx (iL l).length 0 (some k) = k.toNat := by
    show (if k < 0 then (k + ((iL l).length : Int)).toNat else min k.toNat (iL l).length) = _
    rw [if_neg (by omega), iL_len]
    omega
  rw [this]
  unfold iL
  rw [← List.map_drop, List.take_of_length_le]
  simp
/-- a loop that may be left by return R; its state but for slot i is the same throughout -/
theorem for_find {body : En → Option (R Fl)} {E : Option Int → En} (P : Int → Bool) (Rv : AV) (hE : ∀ (z : Int) x, asgN i (.int z) (E x) = some (E (some z))) :
    ∀ {l : List Int}, (∀ z ∈ l, body (E (some z)) = some (.ok (if P z then .rt Rv else .nx) (E (some z)))) → ∀ x, ∃ y, forL (.nm i) body (iL l) (E x) = some (.ok (if l.any P then .rt Rv else .nx) (E y))
  | [], _, x => ⟨x, rfl⟩
  | z :: l, hb, x => by
    have h1 := hb z List.mem_cons_self
    obtain ⟨y, hy⟩ := for_find P Rv hE (l := l) (fun w hw => hb w (List.mem_cons_of_mem _ hw)) (some z)
    have step : forL (.nm i) body (iL (z :: l)) (E x) = bnd (body (E (some z))) fun f e2 => match f with
        | .nx => forL (.nm i) body (iL l) e2
        | .ct => forL (.nm i) body (iL l) e2
        | .bk => some (.ok .nx e2)
        | .rt d => some (.ok (.rt d) e2) := by
      show (match asgN i (.int z) (E x) with | none => none | some e1 => _) = _
      rw [hE]
      rfl
    rw [step, h1, bnd_ok]
    cases q : P z with
    | true => exact ⟨some z, by simp [q]⟩
    | false => exact ⟨y, by simpa [q] using hy⟩
end
end RX
/-! RX part za: comprehensions over ints. -/
namespace RX
open PySem L2
section
variable {G : Calls} {env e1 : En} {a c e : Ex} {i : Nat} {l : List Int} {lk own : List Nat} {t : Tg} {it : It}
def onI {α : Type} (d : α) (f : Int → α) : AV → α
  | .int z => f z
  | _ => d
theorem filter_onI {p : Int → Bool} : ∀ {l : List Int}, (iL l).filter (onI false p) = iL (l.filter p)
  | [] => rfl
  | z :: l => by
    show List.filter (onI false p) (.int z :: iL l) = _
    rw [List.filter_cons, filter_onI]
    show (if p z = true then _ else _) = _
    rw [List.filter_cons]
    by_cases h : p z = true <;> simp [h, iL]
theorem map_onI {v : Int → AV} {l : List Int} : (iL l).map (onI .non v) = l.map v := by
  unfold iL
  rw [List.map_map]
  rfl
theorem ev_compI (p : Int → Bool) (v : Int → AV) (hI : evI G it env = some (.ok ⟨iL l, lk⟩ e1)) (hl : l.length ≤ sizeLine) (ho : ownOk e1 own = true) (hd : (own.all fun i => !lk.contains i) = true)
    (h : ∀ z ∈ l, ∃ env1 env2, asgT t (.int z) (wipeE (lockE e1 lk) own) = some env1 ∧ evCk (isNul c) (ev G c) env1 = some (.ok (p z) env2) ∧ (p z = true → ∃ d env3, ev G e env2 = some (.ok d env3) ∧ sto d = some (v z) ∧ wipeE env3 own = wipeE (lockE e1 lk) own) ∧ (p z = false → wipeE env2 own = wipeE (lockE e1 lk) own)) :
    ev G (.comp e own t it c) env = some (.ok (.frs ((l.filter p).map v)) e1) := by
  have := ev_comp (e := e) (c := c) (t := t) (own := own) (onI false p) (onI .non v) hI (by simpa using hl) ho hd fun x hx => by
    obtain ⟨z, hz, rfl⟩ := List.mem_map.mp hx
    exact h z hz
  rw [filter_onI, map_onI] at this
  exact this
theorem ev_mapI (v : Int → AV) (hI : evI G it env = some (.ok ⟨iL l, lk⟩ e1)) (hl : l.length ≤ sizeLine) (ho : ownOk e1 own = true) (hd : (own.all fun i => !lk.contains i) = true)
    (h : ∀ z ∈ l, ∃ env1 d env3, asgT t (.int z) (wipeE (lockE e1 lk) own) = some env1 ∧ ev G e env1 = some (.ok d env3) ∧ sto d = some (v z) ∧ wipeE env3 own = wipeE (lockE e1 lk) own) :
    ev G (.comp e own t it .nul) env = some (.ok (.frs (l.map v)) e1) := by
  have := ev_map (e := e) (t := t) (own := own) (onI .non v) hI (by simpa using hl) ho hd fun x hx => by
    obtain ⟨z, hz, rfl⟩ := List.mem_map.mp hx
    exact h z hz
  rw [map_onI] at this
  exact this
theorem small {n : Nat} (h : n < 10000) : n ≤ sizeLine := Nat.le_of_lt (Nat.lt_of_lt_of_le h (by decide))
end
end RX
/-! RX part zb: append, items set, displays. -/
namespace RX
open PySem L2
section
variable {G : Calls} {env : En} {i j : Nat} {m n k : Int} {xs ys : List AV} {d d1 d2 d3 d4 : AV} {l : List Int}
def appX (x : Option (Option Slot)) (i : Nat) (d : Option AV) (env : En) : Option (R AV) := match x, d with
  | some (some (.own nw xs)), some d' => if xs.length < sizeLine then some (.ok .non (env.set i (some (.own nw (xs ++ [d']))))) else none
  | some (some (.io xs)), some d' => if xs.length < sizeLine then some (.ok .non (env.set i (some (.io (xs ++ [d']))))) else none
  | _, _ => none
@[simp] theorem mthE_app : mthE .app i [d] env = appX env[i]? i (sto d) env := by
  unfold mthE appX
  simp only [mutB_eq, slL_eq]
  cases e : env[i]? with
  | none => rfl
  | some x =>
    cases x with
    | none => rfl
    | some sl =>
      cases sl with
      | val d => rfl
      | brw t xs => rfl
      | own nw xs =>
        simp only [mutX_own, slX_own, if_true, mthL]
        cases sto d with
        | none => rfl
        | some d' =>
          simp only
          by_cases h : xs.length < sizeLine
          · rw [if_pos h, if_pos h]
            simp only [updS_eq, e, updX_own]
          · rw [if_neg h, if_neg h]
      | io xs =>
        simp only [mutX_io, slX_io, if_true, mthL]
        cases sto d with
        | none => rfl
        | some d' =>
          simp only
          by_cases h : xs.length < sizeLine
          · rw [if_pos h, if_pos h]
            simp only [updS_eq, e, updX_io]
          · rw [if_neg h, if_neg h]
@[simp] theorem appX_own {nw : Bool} (h : xs.length < sizeLine) : appX (some (some (.own nw xs))) i (some d) env = some (.ok .non (env.set i (some (.own nw (xs ++ [d]))))) := by
  unfold appX
  simp only [h, if_true]
theorem iL_app : iL l ++ [AV.int m] = iL (l ++ [m]) := by simp [iL]
theorem stxK_iL (h0 : 0 ≤ k) (h1 : k < l.length) : stxK (some (iL l)) i (some (.int m)) (.int k) env = some (.ok .nx (updS env i (iL (l.set k.toNat m)))) := by
  have e : ixN (iL l).length k = some k.toNat := by
    unfold ixN
    rw [if_pos h0, iL_len, if_pos h1]
  rw [stxK_some e]
  unfold iL
  rw [List.map_set]
@[simp] theorem ixK_3 : ixK (some (d1 :: d2 :: d3 :: d :: xs)) 3 env = some (.ok d env) := ixK_some (atI_nat (j := 3) rfl)
@[simp] theorem o_lst1 : lift oLst [d1] env = match sto d1 with | some a => some (.ok (.frs [a]) env) | none => none := by
  unfold lift oLst stos
  cases sto d1 <;> rfl
theorem o_lst3 {a b c : AV} (h1 : sto d1 = some a) (h2 : sto d2 = some b) (h3 : sto d3 = some c) : lift oLst [d1, d2, d3] env = some (.ok (.frs [a, b, c]) env) := by
  unfold lift oLst
  simp only [stos, h1, h2, h3]
  rfl
theorem o_lst4 {a b c e : AV} (h1 : sto d1 = some a) (h2 : sto d2 = some b) (h3 : sto d3 = some c) (h4 : sto d4 = some e) : lift oLst [d1, d2, d3, d4] env = some (.ok (.frs [a, b, c, e]) env) := by
  unfold lift oLst
  simp only [stos, h1, h2, h3, h4]
  rfl
end
end RX
/-! RY: from the evaluator to plain typed functions. Part a: the judgement, expressions, statements. -/
namespace RX
open PySem L2
/-- X ends as m says -/
def Le {β γ : Type} (X : Option γ) (m : Option β) (F : β → Option γ) : Prop := ∀ b, m = some b → X = F b
def bx {α γ : Type} (x : Option (R α)) (K : α → En → Option γ) (X : Str → En → Option γ) : Option γ := match x with
  | none => none
  | some (.ok a e) => K a e
  | some (.exc c e) => X c e
theorem bx_bnd {α β γ : Type} {x : Option (R α)} {f : α → En → Option (R β)} {K : β → En → Option γ} {X : Str → En → Option γ} : bx (bnd x f) K X = bx x (fun a e => bx (f a e) K X) X := by
  cases x with
  | none => rfl
  | some r => cases r <;> rfl
def okK {α : Type} : α → En → Option (R α) := fun a e => some (.ok a e)
def exK {α : Type} : Str → En → Option (R α) := fun c e => some (.exc c e)
theorem bx_id {α : Type} {x : Option (R α)} : bx x okK exK = x := by
  cases x with
  | none => rfl
  | some r => cases r <;> rfl
section
variable {β γ δ α : Type} {m m1 m2 : Option β} {F : β → Option γ} {Y Z : Option γ}
theorem y_end {b : β} (h : F b = Y) : Le Y (some b) F := fun _ e => by cases e; exact h.symm
theorem y_none : Le Y (none : Option β) F := fun _ e => by cases e
theorem y_in {x : Option (R α)} {F : β → Option (R α)} (h : Le (bx x okK exK) m F) : Le x m F := by rw [bx_id] at h; exact h
/-- what is worked out by a total step -/
theorem y_let {a : α} {f : α → Option β} (h : ∀ v, v = a → Le Y (f v) F) : Le Y (Option.bind (some a) f) F := h a rfl
theorem y_some {α : Type} {a : α} {f : α → Option β} (h : Le Y (f a) F) : Le Y (Option.bind (some a) f) F := h
theorem y_if {t : Bool} (h1 : t = true → Le Y m1 F) (h2 : t = false → Le Z m2 F) : Le (if t then Y else Z) (if t then m1 else m2) F := by
  cases t
  · exact h2 rfl
  · exact h1 rfl
/-- both ways come together -/
theorem y_join {t : Bool} {x1 x2 : Option (R α)} {K : α → En → Option γ} {X : Str → En → Option γ} {p1 p2 : Option δ} {m' : δ → Option β} {J : δ → Option (R α)} (h1 : t = true → Le x1 p1 J) (h2 : t = false → Le x2 p2 J) (k : ∀ s, Le (bx (J s) K X) (m' s) F) :
    Le (if t then bx x1 K X else bx x2 K X) (Option.bind (if t then p1 else p2) m') F := by
  cases t
  · intro b hb
    have hb : Option.bind p2 m' = some b := hb
    cases q : p2 with
    | none => rw [q] at hb; cases hb
    | some s =>
      rw [q] at hb
      show bx x2 K X = _
      rw [h2 rfl s q]
      exact k s b hb
  · intro b hb
    have hb : Option.bind p1 m' = some b := hb
    cases q : p1 with
    | none => rw [q] at hb; cases hb
    | some s =>
      rw [q] at hb
      show bx x1 K X = _
      rw [h1 rfl s q]
      exact k s b hb
theorem y_ok {a : α} {env : En} {K : α → En → Option γ} {X : Str → En → Option γ} (k : Le (K a env) m F) : Le (bx (some (.ok a env)) K X) m F := k
theorem y_exc {c : Str} {env : En} {K : α → En → Option γ} {X : Str → En → Option γ} (k : Le (X c env) m F) : Le (bx (some (.exc c env)) K X) m F := k
end
section
variable {β γ δ α : Type} {m m1 m2 : Option β} {F : β → Option γ} {G : Calls} {env env' : En} {a b c e : Ex} {es : Exs} {i : Nat} {nw t : Bool} {xs ys : List AV} {d : AV} {K : AV → En → Option γ} {X : Str → En → Option γ}
theorem y_val (h : env[i]? = some (some (.val d))) (k : Le (K d env) m F) : Le (bx (ev G (.var i) env) K X) m F := by rw [q_var, h]; exact k
theorem y_own (h : env[i]? = some (some (.own nw xs))) (k : Le (K (.sl i) env) m F) : Le (bx (ev G (.var i) env) K X) m F := by rw [q_var, h]; exact k
theorem y_io (h : env[i]? = some (some (.io xs))) (k : Le (K (.sl i) env) m F) : Le (bx (ev G (.var i) env) K X) m F := by rw [q_var, h]; exact k
theorem y_brw (h : env[i]? = some (some (.brw t xs))) (k : Le (K (.sl i) env) m F) : Le (bx (ev G (.var i) env) K X) m F := by rw [q_var, h]; exact k
theorem y_rfl (d : AV) (h : ev G e env = some (.ok d env)) (k : Le (K d env) m F) : Le (bx (ev G e env) K X) m F := by rw [h]; exact k
theorem y_mv (h : env[i]? = some (some (.own true xs))) (he : env.set i none = env') (k : Le (K (.frs xs) env') m F) : Le (bx (ev G (.mv i) env) K X) m F := by rw [q_mv, h, vMv_own, he]; exact k
theorem y_fzo (h : env[i]? = some (some (.own nw xs))) (he : env.set i (some (.val (.lst nw xs))) = env') (k : Le (K (.lst nw xs) env') m F) : Le (bx (ev G (.fz i) env) K X) m F := by rw [q_fz, h, vFz_own, he]; exact k
theorem y_fz (h : env[i]? = some (some (.val d))) (k : Le (K d env) m F) : Le (bx (ev G (.fz i) env) K X) m F := by rw [q_fz, h, vFz_val]; exact k
theorem y_stv {t : Bool} (k : Le (bx (ev G e env) (fun d e1 => bx (stwK t d e1) K X) X) m F) : Le (bx (ev G (.stv t e) env) K X) m F := by
  rw [q_stv, bx_bnd]; exact k
theorem y_stw {t : Bool} {d' : AV} (h : stw t d = some d') (k : Le (K d' env) m F) : Le (bx (stwK t d env) K X) m F := by
  unfold stwK; rw [h]; exact k
theorem y_bin {o : Bop} (k : Le (bx (ev G a env) (fun x e1 => bx (ev G b e1) (fun y e2 => bx (lift (binO o) [x, y] e2) K X) X) X) m F) : Le (bx (ev G (.bin o a b) env) K X) m F := by
  rw [q_bin, bx_bnd]; simp only [bx_bnd]; exact k
theorem y_cmp {o : CmpOp} (k : Le (bx (ev G a env) (fun x e1 => bx (ev G b e1) (fun y e2 => bx (lift (cmpO o) [x, y] e2) K X) X) X) m F) : Le (bx (ev G (.cmp o a b) env) K X) m F := by
  rw [q_cmp, bx_bnd]; simp only [bx_bnd]; exact k
theorem y_ix (k : Le (bx (ev G a env) (fun x e1 => bx (ev G b e1) (fun y e2 => bx (lift oIx [x, y] e2) K X) X) X) m F) : Le (bx (ev G (.ix a b) env) K X) m F := by
  rw [q_ix, bx_bnd]; simp only [bx_bnd]; exact k
theorem y_neg (k : Le (bx (ev G a env) (fun x e1 => bx (lift oNeg [x] e1) K X) X) m F) : Le (bx (ev G (.neg a) env) K X) m F := by
  rw [q_neg, bx_bnd]; exact k
theorem y_not (k : Le (bx (ev G a env) (fun x e1 => bx (asB x e1) (fun t e2 => K (.bl (!t)) e2) X) X) m F) : Le (bx (ev G (.not a) env) K X) m F := by
  rw [q_not, bx_bnd]; simp only [bx_bnd]; exact k
theorem y_asB {t : Bool} {K : Bool → En → Option γ} (k : Le (K t env) m F) : Le (bx (asB (.bl t) env) K X) m F := k
theorem y_tup (k : Le (bx (evs G es env) (fun ds e1 => bx (lift oTup ds e1) K X) X) m F) : Le (bx (ev G (.tup es) env) K X) m F := by
  rw [q_tup, bx_bnd]; exact k
theorem y_lst (k : Le (bx (evs G es env) (fun ds e1 => bx (lift oLst ds e1) K X) X) m F) : Le (bx (ev G (.lst es) env) K X) m F := by
  rw [q_lst, bx_bnd]; exact k
theorem y_bi {o : Bi} (k : Le (bx (evs G es env) (fun ds e1 => bx (lift (biO o) ds e1) K X) X) m F) : Le (bx (ev G (.bi o es) env) K X) m F := by
  rw [q_bi, bx_bnd]; exact k
theorem y_call {f : Str} {ms : List Bool} (k : Le (bx (evs G es env) (fun ds e1 => bx (callE G f ms ds e1) K X) X) m F) : Le (bx (ev G (.call f ms es) env) K X) m F := by
  rw [q_call, bx_bnd]; exact k
theorem y_evs0 {K : List AV → En → Option γ} (k : Le (K [] env) m F) : Le (bx (evs G .nil env) K X) m F := k
theorem y_evs1 {K : List AV → En → Option γ} (k : Le (bx (ev G e env) (fun d e1 => bx (evs G es e1) (fun ds e2 => K (d :: ds) e2) X) X) m F) : Le (bx (evs G (.cons e es) env) K X) m F := by
  rw [q_evs1, bx_bnd]; simp only [bx_bnd]; exact k
theorem y_and1 (k : Le (bx (ev G a env) K X) m F) : Le (bx (evAnd G (.cons a .nil) env) K X) m F := k
theorem y_or1 (k : Le (bx (ev G a env) K X) m F) : Le (bx (evOr G (.cons a .nil) env) K X) m F := k
theorem bx_if {α : Type} {t : Bool} {x y : Option (R α)} {K : α → En → Option γ} : bx (if t then x else y) K X = if t then bx x K X else bx y K X := by cases t <;> rfl
theorem y_and2 (k : Le (bx (ev G a env) (fun x e1 => bx (asB x e1) (fun t e2 => if t then bx (evAnd G (.cons b es) e2) K X else K (.bl false) e2) X) X) m F) : Le (bx (evAnd G (.cons a (.cons b es)) env) K X) m F := by
  rw [q_and2, bx_bnd]; simp only [bx_bnd, bx_if]; exact k
theorem y_or2 (k : Le (bx (ev G a env) (fun x e1 => bx (asB x e1) (fun t e2 => if t then K (.bl true) e2 else bx (evOr G (.cons b es) e2) K X) X) X) m F) : Le (bx (evOr G (.cons a (.cons b es)) env) K X) m F := by
  rw [q_or2, bx_bnd]; simp only [bx_bnd, bx_if]; exact k
theorem y_and (k : Le (bx (evAnd G es env) K X) m F) : Le (bx (ev G (.and es) env) K X) m F := k
theorem y_or (k : Le (bx (evOr G es env) K X) m F) : Le (bx (ev G (.or es) env) K X) m F := k
def andO (t : Bool) (p : Option Bool) : Option Bool := if t then p else some false
def orO' (t : Bool) (p : Option Bool) : Option Bool := if t then some true else p
theorem y_andJ0 {t : Bool} {x : Option (R AV)} {p : Option Bool} {m' : Bool → Option β} (h : t = true → Le (bx x okK exK) p (fun b => some (.ok (.bl b) env))) (k : ∀ b, Le (K (.bl b) env) (m' b) F) : Le (if t then bx x K X else K (.bl false) env) (Option.bind (andO t p) m') F := by
  cases t
  · exact k false
  · intro b hb
    have hb : Option.bind p m' = some b := hb
    cases q : p with
    | none => rw [q] at hb; cases hb
    | some s =>
      rw [q] at hb
      have h := h rfl s q
      rw [bx_id] at h
      show bx x K X = _
      rw [h]
      exact k s b hb
theorem y_orJ0 {t : Bool} {x : Option (R AV)} {p : Option Bool} {m' : Bool → Option β} (h : t = false → Le (bx x okK exK) p (fun b => some (.ok (.bl b) env))) (k : ∀ b, Le (K (.bl b) env) (m' b) F) : Le (if t then K (.bl true) env else bx x K X) (Option.bind (orO' t p) m') F := by
  cases t
  · intro b hb
    have hb : Option.bind p m' = some b := hb
    cases q : p with
    | none => rw [q] at hb; cases hb
    | some s =>
      rw [q] at hb
      have h := h rfl s q
      rw [bx_id] at h
      show bx x K X = _
      rw [h]
      exact k s b hb
  · exact k true
/-- the second part total -/
theorem y_andT0 {t b : Bool} {x : Option (R AV)} (h : Le (bx x okK exK) (some b) (fun b => some (.ok (.bl b) env))) (k : Le (K (.bl (t && b)) env) m F) : Le (if t then bx x K X else K (.bl false) env) m F := by
  have h := h b rfl
  rw [bx_id] at h
  cases t
  · exact k
  · show Le (bx x K X) m F
    rw [h]
    exact k
theorem y_orT0 {t b : Bool} {x : Option (R AV)} (h : Le (bx x okK exK) (some b) (fun b => some (.ok (.bl b) env))) (k : Le (K (.bl (t || b)) env) m F) : Le (if t then K (.bl true) env else bx x K X) m F := by
  have h := h b rfl
  rw [bx_id] at h
  cases t
  · show Le (bx x K X) m F
    rw [h]
    exact k
  · exact k
theorem y_andJ {t : Bool} {x : Option (R AV)} {p : Option Bool} {m' : Bool → Option β} {Y : Option γ} (hY : Y = K (.bl false) env) (h : t = true → Le (bx x okK exK) p (fun b => some (.ok (.bl b) env))) (k : ∀ b, Le (K (.bl b) env) (m' b) F) : Le (if t then bx x K X else Y) (Option.bind (andO t p) m') F := by
  subst hY; exact y_andJ0 h k
theorem y_orJ {t : Bool} {x : Option (R AV)} {p : Option Bool} {m' : Bool → Option β} {Y : Option γ} (hY : Y = K (.bl true) env) (h : t = false → Le (bx x okK exK) p (fun b => some (.ok (.bl b) env))) (k : ∀ b, Le (K (.bl b) env) (m' b) F) : Le (if t then Y else bx x K X) (Option.bind (orO' t p) m') F := by
  subst hY; exact y_orJ0 h k
theorem y_andT {t b : Bool} {x : Option (R AV)} {Y : Option γ} (hY : Y = K (.bl false) env) (h : Le (bx x okK exK) (some b) (fun b => some (.ok (.bl b) env))) (k : Le (K (.bl (t && b)) env) m F) : Le (if t then bx x K X else Y) m F := by
  subst hY; exact y_andT0 h k
theorem y_orT {t b : Bool} {x : Option (R AV)} {Y : Option γ} (hY : Y = K (.bl true) env) (h : Le (bx x okK exK) (some b) (fun b => some (.ok (.bl b) env))) (k : Le (K (.bl (t || b)) env) m F) : Le (if t then Y else bx x K X) m F := by
  subst hY; exact y_orT0 h k
theorem y_ite (k : Le (bx (ev G c env) (fun x e1 => bx (asB x e1) (fun t e2 => if t then bx (ev G a e2) K X else bx (ev G b e2) K X) X) X) m F) : Le (bx (ev G (.ite c a b) env) K X) m F := by
  rw [q_ite, bx_bnd]; simp only [bx_bnd, bx_if]; exact k
theorem y_chain {o p : CmpOp} (k : Le (bx (ev G a env) (fun x e1 => bx (ev G b e1) (fun y e2 => bx (lift (cmpO o) [x, y] e2) (fun z e3 => bx (chK G p c y z e3) K X) X) X) X) m F) : Le (bx (ev G (.chain o p a b c) env) K X) m F := by
  rw [q_chain, bx_bnd]; simp only [bx_bnd]; exact k
/-- a chain of comparisons of ints, the third one total -/
theorem y_chK {p : CmpOp} {j w : Int} {t b : Bool} (hc : ev G c env = some (.ok (.int w) env)) (ho : cmpO p env [.int j, .int w] = some (.bl b)) (k : Le (K (.bl (t && b)) env) m F) : Le (bx (chK G p c (.int j) (.bl t) env) K X) m F := by
  cases t
  · exact k
  · rw [chK_true, hc, bnd_ok]
    unfold lift
    rw [ho]
    exact k
theorem y_chKp {p : CmpOp} {j : Int} {t : Bool} {q : Option Bool} {m' : Bool → Option β} (h : t = true → Le (bx (ev G c env) (fun w e4 => bx (lift (cmpO p) [.int j, w] e4) okK exK) exK) q (fun b => some (.ok (.bl b) env))) (k : ∀ b, Le (K (.bl b) env) (m' b) F) : Le (bx (chK G p c (.int j) (.bl t) env) K X) (Option.bind (andO t q) m') F := by
  cases t
  · exact k false
  · intro b hb
    have hb : Option.bind q m' = some b := hb
    cases e : q with
    | none => rw [e] at hb; cases hb
    | some s =>
      rw [e] at hb
      have h := h rfl s e
      rw [chK_true]
      have : bnd (ev G c env) (fun w e4 => lift (cmpO p) [.int j, w] e4) = some (.ok (.bl s) env) := by
        rw [← bx_id (x := bnd (ev G c env) (fun w e4 => lift (cmpO p) [.int j, w] e4)), bx_bnd]
        exact h
      rw [this]
      exact k s b hb
/-- an operation that has an answer -/
theorem y_tot {op : En → List AV → Option AV} {ds : List AV} (d : AV) (h : op env ds = some d) (k : Le (K d env) m F) : Le (bx (lift op ds env) K X) m F := by
  unfold lift; rw [h]; exact k
/-- an operation that may have none -/
theorem y_part {op : En → List AV → Option AV} {ds : List AV} {p : Option α} {en : α → AV} {m' : α → Option β} (h : ∀ v, p = some v → op env ds = some (en v)) (k : ∀ v, Le (K (en v) env) (m' v) F) : Le (bx (lift op ds env) K X) (Option.bind p m') F := by
  intro b hb
  cases q : p with
  | none => rw [q] at hb; cases hb
  | some v =>
    rw [q] at hb
    unfold lift
    rw [h v q]
    exact k v b hb
theorem y_slc (k : Le (bx (ev G a env) (fun x e1 => bx (evPk (isNul b) (ev G b) e1) (fun l e2 => bx (evPk (isNul c) (ev G c) e2) (fun u e3 => bx (slK l u x e3) K X) X) X) X) m F) : Le (bx (ev G (.slc a b c) env) K X) m F := by
  rw [q_slc, bx_bnd]; simp only [bx_bnd]; exact k
theorem y_pk0 {K : Option Int → En → Option γ} {r : En → Option (R AV)} (k : Le (K none env) m F) : Le (bx (evPk true r env) K X) m F := k
theorem y_pk1 {K : Option Int → En → Option γ} {r : En → Option (R AV)} (k : Le (bx (r env) (fun d e1 => bx (match d with | .int i => some (.ok (some i) e1) | _ => none) K X) X) m F) : Le (bx (evPk false r env) K X) m F := by
  rw [q_evPk1, bx_bnd]; exact k
theorem y_slK {l u : Option Int} {x d : AV} (h : oSl l u env x = some d) (k : Le (K d env) m F) : Le (bx (slK l u x env) K X) m F := by
  unfold slK; rw [h]; exact k
theorem y_mth {o : Mt} (hm : mutB env i = true) (k : Le (bx (evs G es env) (fun ds e1 => bx (mthE o i ds e1) K X) X) m F) : Le (bx (ev G (.mth o i es) env) K X) m F := by
  rw [q_mth, hm, if_pos rfl, bx_bnd]; exact k
end
/-! ### calls -/
section
variable {β γ ρ : Type} {F : β → Option γ} {G : Calls} {env env' : En} {K : AV → En → Option γ} {X : Str → En → Option γ} {ms : List Bool} {ds : List AV} {ss : List Slot} {f : Str} {p : Option ρ} {m' : ρ → Option β} {J : ρ → Option CR} {dv : ρ → AV} {ios : ρ → List (Option (List AV))} {E' : ρ → En} {d d' : AV} {s : Slot} {i : Nat} {nw t : Bool} {xs xs' : List AV}
theorem y_callE (ha : argsOk ms ds = true) (hs : argSlots env ms ds = some ss) (hc : Le (G f ss) p J) (hJ : ∀ r, J r = some (.ok (dv r) (ios r))) (he : ∀ r, putIos env ds (ios r) = E' r) (k : ∀ r, Le (K (dv r) (E' r)) (m' r) F) : Le (bx (callE G f ms ds env) K X) (Option.bind p m') F := by
  intro b hb
  cases q : p with
  | none => rw [q] at hb; cases hb
  | some r =>
    rw [q] at hb
    rw [q_callE ha, hs, callS_some, hc r q, hJ r, callK_ok, he r]
    exact k r b hb
theorem as0 : argSlots env [] [] = some [] := rfl
theorem as1 (h : argSlot env t d = some s) (h2 : argSlots env ms ds = some ss) : argSlots env (t :: ms) (d :: ds) = some (s :: ss) := by
  rw [argSlots1, h, h2]; rfl
theorem as_val (h : argSlot env false d = some (.val (age d))) (h2 : age d = d') : argSlot env false d = some (.val d') := by rw [h, h2]
theorem as_bo (h : env[i]? = some (some (.own nw xs))) (h2 : ages xs = xs') : argSlot env false (.sl i) = some (.brw true xs') := by rw [argSlotB, h, argB_own, h2]
theorem as_bi (h : env[i]? = some (some (.io xs))) (h2 : ages xs = xs') : argSlot env false (.sl i) = some (.brw true xs') := by rw [argSlotB, h, argB_io, h2]
theorem as_bb (h : env[i]? = some (some (.brw nw xs))) (h2 : ages xs = xs') : argSlot env false (.sl i) = some (.brw nw xs') := by rw [argSlotB, h, argB_brw, h2]
theorem as_io (h : env[i]? = some (some (.own nw xs))) (h2 : ages xs = xs') : argSlot env true (.sl i) = some (.io xs') := by rw [argSlotI, h, argI_own, h2]
theorem as_ii (h : env[i]? = some (some (.io xs))) (h2 : ages xs = xs') : argSlot env true (.sl i) = some (.io xs') := by rw [argSlotI, h, argI_io, h2]
theorem as_fr (h2 : ages xs = xs') : argSlot env false (.frs xs) = some (.own false xs') := by rw [argSlot_frs, h2]
end
/-! ### statements -/
/-- what follows a statement -/
def sqC {γ : Type} (G : Calls) (ss : Sts) (C : Fl → En → Option γ) (X : Str → En → Option γ) (f : Fl) (e : En) : Option γ := match f with
  | .nx => bx (evSs G ss e) C X
  | f => C f e
section
variable {β γ δ α : Type} {m m1 m2 : Option β} {F : β → Option γ} {G : Calls} {env env' : En} {e c k : Ex} {s : St} {ss sa sb : Sts} {i : Nat} {is : List Nat} {d : AV} {C : Fl → En → Option γ} {X : Str → En → Option γ}
theorem bx_ss1 : bx (evSs G (.cons s ss) env) C X = bx (evS G s env) (sqC G ss C X) X := by
  rw [q_ss1, bx_bnd]
  congr 1
  funext f e1
  cases f <;> rfl
theorem y_nil (k : Le (C .nx env) m F) : Le (bx (evSs G .nil env) C X) m F := k
theorem y_nx (k : Le (bx (evSs G ss env) C X) m F) : Le (sqC G ss C X .nx env) m F := k
theorem y_wip (hw : is.all (wipB env) = true) (he : wipeE env is = env') (k : Le (bx (evSs G ss env') C X) m F) : Le (bx (evSs G (.wip is ss) env) C X) m F := by
  show Le (bx (if is.all (wipB env) then evSs G ss (wipeE env is) else none) C X) m F
  rw [hw, if_pos rfl, he]; exact k
theorem y_set (k : Le (bx (ev G e env) (fun d e1 => bx (setK i d e1) (sqC G ss C X) X) X) m F) : Le (bx (evSs G (.cons (.set i e) ss) env) C X) m F := by
  rw [bx_ss1, q_set, bx_bnd]; exact k
theorem y_setK {K : Fl → En → Option γ} (h : asgN i d env = some env') (k : Le (K .nx env') m F) : Le (bx (setK i d env) K X) m F := by
  unfold setK; rw [h]; exact k
theorem y_unp {t : Tg} (k : Le (bx (ev G e env) (fun d e1 => bx (unpK t d e1) (sqC G ss C X) X) X) m F) : Le (bx (evSs G (.cons (.unp t e) ss) env) C X) m F := by
  rw [bx_ss1, q_unp, bx_bnd]; exact k
theorem y_unpK {t : Tg} {K : Fl → En → Option γ} (h : asgT t d env = some env') (k : Le (K .nx env') m F) : Le (bx (unpK t d env) K X) m F := by
  unfold unpK; rw [h]; exact k
theorem y_exp (k : Le (bx (ev G e env) (fun _ e1 => bx (evSs G ss e1) C X) X) m F) : Le (bx (evSs G (.cons (.exp e) ss) env) C X) m F := by
  rw [bx_ss1, q_exp, bx_bnd]; exact k
theorem y_ret (k : Le (bx (ev G e env) (fun d e1 => C (.rt d) e1) X) m F) : Le (bx (evSs G (.cons (.ret e) ss) env) C X) m F := by
  rw [bx_ss1, q_ret, bx_bnd]; exact k
theorem y_retN (k : Le (C (.rt .non) env) m F) : Le (bx (evSs G (.cons .retN ss) env) C X) m F := by
  rw [bx_ss1]; exact k
theorem y_pass (k : Le (bx (evSs G ss env) C X) m F) : Le (bx (evSs G (.cons .pass ss) env) C X) m F := by
  rw [bx_ss1]; exact k
theorem y_brk (k : Le (C .bk env) m F) : Le (bx (evSs G (.cons .brk ss) env) C X) m F := by
  rw [bx_ss1]; exact k
theorem y_cont (k : Le (C .ct env) m F) : Le (bx (evSs G (.cons .cont ss) env) C X) m F := by
  rw [bx_ss1]; exact k
theorem y_ifs (k : Le (bx (ev G c env) (fun d e1 => bx (asB d e1) (fun t e2 => if t then bx (evSs G sa e2) (sqC G ss C X) X else bx (evSs G sb e2) (sqC G ss C X) X) X) X) m F) : Le (bx (evSs G (.cons (.ifs c sa sb) ss) env) C X) m F := by
  rw [bx_ss1, q_ifs, bx_bnd, bx_bnd]; simp only [bx_if]; exact k
theorem y_stx (k' : Le (bx (ev G e env) (fun d e1 => bx (if mutB e1 i then bnd (ev G k e1) fun kk e2 => stxE i d kk e2 else none) (sqC G ss C X) X) X) m F) : Le (bx (evSs G (.cons (.stx i k e) ss) env) C X) m F := by
  rw [bx_ss1, q_stx, bx_bnd]; exact k'
theorem y_mut {K : Fl → En → Option γ} (hm : mutB env i = true) (k' : Le (bx (ev G k env) (fun kk e2 => bx (stxE i d kk e2) K X) X) m F) : Le (bx (if mutB env i then bnd (ev G k env) fun kk e2 => stxE i d kk e2 else none) K X) m F := by
  rw [hm, if_pos rfl, bx_bnd]; exact k'
def plK (i j : Nat) (x y : AV) (e2 : En) : Option (R Fl) := if plB x && plB y then match asgN i x e2 with
    | some e3 => match asgN j y e3 with
      | some e4 => some (.ok .nx e4)
      | none => none
    | none => none else none
theorem y_par {j : Nat} {a b : Ex} (k : Le (bx (ev G a env) (fun x e1 => bx (ev G b e1) (fun y e2 => bx (plK i j x y e2) (sqC G ss C X) X) X) X) m F) : Le (bx (evSs G (.cons (.par i j a b) ss) env) C X) m F := by
  rw [bx_ss1]
  unfold evS
  rw [bx_bnd]; simp only [bx_bnd]; exact k
/-! loops -/
inductive Ob (γ : Type) where
  | go (e : En) | bk (e : En) | rt (r : γ)
def turn (bf : En → Option (R Fl)) (t : Tg) (d : AV) (env : En) : Option (R Fl) := match asgT t d env with
  | none => none
  | some e1 => bf e1
theorem y_turn {α : Type} {F : β → Option α} {t : Tg} {bf : En → Option (R Fl)} {C : Fl → En → Option α} {X : Str → En → Option α} (h : asgT t d env = some env') (k : Le (bx (bf env') C X) m F) : Le (bx (turn bf t d env) C X) m F := by
  unfold turn; rw [h]; exact k
/-- what a turn's end means -/
def obs (K : Fl → En → Option γ) (un : En → En) : Fl → En → Option (Ob γ)
  | .nx, e => some (.go e)
  | .ct, e => some (.go e)
  | .bk, e => some (.bk e)
  | .rt d, e => (K (.rt d) (un e)).map .rt
def obsX (X : Str → En → Option γ) (un : En → En) : Str → En → Option (Ob γ) := fun c e => (X c (un e)).map .rt
theorem y_for {t : Tg} {it : It} {b : Sts} (k : Le (bx (evI G it env) (fun s e1 => bx (mapE (fun e2 => unlockE e1 e2 s.lk) (forL t (evSs G b) s.xs (lockE e1 s.lk))) (sqC G ss C X) X) X) m F) : Le (bx (evSs G (.cons (.for_ t it b) ss) env) C X) m F := by
  rw [bx_ss1, q_for, bx_bnd]; exact k
def foldO {σ α : Type} (f : σ → α → Option σ) : List α → σ → Option σ
  | [], s => some s
  | x :: xs, s => (f s x).bind fun s' => foldO f xs s'
inductive Fw (σ ρ : Type) where
  | nx (s : σ) | bk (s : σ) | rt (r : ρ)
def fwB {σ ρ : Type} (k : σ → Option (Sum σ ρ)) : Fw σ ρ → Option (Sum σ ρ)
  | .nx s => k s
  | .bk s => some (.inl s)
  | .rt r => some (.inr r)
def foldR {σ α ρ : Type} (f : σ → α → Option (Fw σ ρ)) : List α → σ → Option (Sum σ ρ)
  | [], s => some (.inl s)
  | x :: xs, s => (f s x).bind (fwB (foldR f xs))
theorem forL_cons {t : Tg} {bf : En → Option (R Fl)} {xs : List AV} : forL t bf (d :: xs) env = bnd (turn bf t d env) fun f e2 => match f with
      | .nx => forL t bf xs e2
      | .ct => forL t bf xs e2
      | .bk => some (.ok .nx e2)
      | .rt d => some (.ok (.rt d) e2) := by
  unfold turn
  show (match asgT t d env with | none => none | some e1 => _) = _
  cases asgT t d env <;> rfl
theorem y_loop {σ : Type} {t : Tg} {bf : En → Option (R Fl)} {E : σ → En} {en : α → AV} {f : σ → α → Option σ} {l : List α} {s0 : σ} {un : En → En} {K : Fl → En → Option γ} {m' : σ → Option β} {envL : En} (h0 : envL = E s0)
    (hb : ∀ s x, Le (bx (turn bf t (en x) (E s)) (obs K un) (obsX X un)) (f s x) (fun s' => some (.go (E s')))) (k : ∀ s, Le (K .nx (un (E s))) (m' s) F) :
    Le (bx (mapE un (forL t bf (l.map en) envL)) K X) (Option.bind (foldO f l s0) m') F := by
  subst h0
  induction l generalizing s0 with
  | nil => exact k s0
  | cons x l ih =>
    intro b' hb'
    rw [List.map_cons, forL_cons]
    have hb' : Option.bind (Option.bind (f s0 x) fun s' => foldO f l s') m' = some b' := hb'
    cases q : f s0 x with
    | none => rw [q] at hb'; cases hb'
    | some s1 =>
      rw [q] at hb'
      have h1 := hb s0 x s1 q
      cases e : turn bf t (en x) (E s0) with
      | none => rw [e] at h1; cases h1
      | some r =>
        rw [e] at h1
        cases r with
        | exc c e2 =>
          have h1 : (X c (un e2)).map Ob.rt = some (.go (E s1)) := h1
          cases q2 : X c (un e2) <;> rw [q2] at h1 <;> cases h1
        | ok fl e2 =>
          cases fl with
          | nx => cases h1; exact ih b' hb'
          | ct => cases h1; exact ih b' hb'
          | bk => cases h1
          | rt d =>
            have h1 : (K (.rt d) (un e2)).map Ob.rt = some (.go (E s1)) := h1
            cases q2 : K (.rt d) (un e2) <;> rw [q2] at h1 <;> cases h1
def FwF {σ : Type} (E : σ → En) (F : β → Option γ) : Fw σ β → Option (Ob γ)
  | .nx s => some (.go (E s))
  | .bk s => some (.bk (E s))
  | .rt r => (F r).map .rt
def sumB {σ : Type} (m' : σ → Option β) : Sum σ β → Option β
  | .inl s => m' s
  | .inr r => some r
theorem y_loopR {σ : Type} {t : Tg} {bf : En → Option (R Fl)} {E : σ → En} {en : α → AV} {f : σ → α → Option (Fw σ β)} {l : List α} {s0 : σ} {un : En → En} {K : Fl → En → Option γ} {m' : σ → Option β} {envL : En} (h0 : envL = E s0)
    (hF : ∀ r, (F r).isSome = true) (hb : ∀ s x, Le (bx (turn bf t (en x) (E s)) (obs K un) (obsX X un)) (f s x) (FwF E F)) (k : ∀ s, Le (K .nx (un (E s))) (m' s) F) :
    Le (bx (mapE un (forL t bf (l.map en) envL)) K X) (Option.bind (foldR f l s0) (sumB m')) F := by
  subst h0
  induction l generalizing s0 with
  | nil => exact k s0
  | cons x l ih =>
    intro b' hb'
    rw [List.map_cons, forL_cons]
    have hb' : Option.bind (Option.bind (f s0 x) (fwB (foldR f l))) (sumB m') = some b' := hb'
    cases q : f s0 x with
    | none => rw [q] at hb'; cases hb'
    | some w =>
      rw [q] at hb'
      have h1 := hb s0 x w q
      cases e : turn bf t (en x) (E s0) with
      | none =>
        rw [e] at h1
        cases w with
        | nx s => cases h1
        | bk s => cases h1
        | rt r =>
          have h1 : none = (F r).map Ob.rt := h1
          have := hF r
          cases q2 : F r <;> rw [q2] at h1 this <;> first | (cases this; done) | (cases h1; done)
      | some rr =>
        rw [e] at h1
        cases rr with
        | exc c e2 =>
          have h1 : (X c (un e2)).map Ob.rt = FwF E F w := h1
          cases w with
          | nx s => cases q2 : X c (un e2) <;> rw [q2] at h1 <;> cases h1
          | bk s => cases q2 : X c (un e2) <;> rw [q2] at h1 <;> cases h1
          | rt r =>
            have hr : r = b' := Option.some.inj hb'
            subst hr
            have h1 : (X c (un e2)).map Ob.rt = (F r).map Ob.rt := h1
            show X c (un e2) = F r
            have hF := hF r
            cases q2 : X c (un e2) <;> cases q3 : F r <;> rw [q2, q3] at h1 <;> rw [q3] at hF <;> first | (cases hF; done) | (cases h1; rfl) | (cases h1; done)
        | ok fl e2 =>
          cases fl with
          | nx =>
            have h1 : some (Ob.go e2) = FwF E F w := h1
            cases w with
            | nx s => cases h1; exact ih b' hb'
            | bk s => cases h1
            | rt r =>
              have h1 : some (Ob.go e2) = (F r).map Ob.rt := h1
              cases q3 : F r <;> rw [q3] at h1 <;> cases h1
          | ct =>
            have h1 : some (Ob.go e2) = FwF E F w := h1
            cases w with
            | nx s => cases h1; exact ih b' hb'
            | bk s => cases h1
            | rt r =>
              have h1 : some (Ob.go e2) = (F r).map Ob.rt := h1
              cases q3 : F r <;> rw [q3] at h1 <;> cases h1
          | bk =>
            have h1 : some (Ob.bk e2) = FwF E F w := h1
            cases w with
            | nx s => cases h1
            | bk s => cases h1; exact k s b' hb'
            | rt r =>
              have h1 : some (Ob.bk e2) = (F r).map Ob.rt := h1
              cases q3 : F r <;> rw [q3] at h1 <;> cases h1
          | rt d =>
            have h1 : (K (.rt d) (un e2)).map Ob.rt = FwF E F w := h1
            cases w with
            | nx s => cases q2 : K (.rt d) (un e2) <;> rw [q2] at h1 <;> cases h1
            | bk s => cases q2 : K (.rt d) (un e2) <;> rw [q2] at h1 <;> cases h1
            | rt r =>
              have hr : r = b' := Option.some.inj hb'
              subst hr
              have h1 : (K (.rt d) (un e2)).map Ob.rt = (F r).map Ob.rt := h1
              show K (.rt d) (un e2) = F r
              have hF := hF r
              cases q2 : K (.rt d) (un e2) <;> cases q3 : F r <;> rw [q2, q3] at h1 <;> rw [q3] at hF <;> first | (cases hF; done) | (cases h1; rfl) | (cases h1; done)
end
end RX
/-! RY part b: typed data; operations. -/
namespace RX
open PySem L2
section
variable {α β γ δ : Type}
abbrev eT2 (f : α → AV) (g : β → AV) : α × β → AV := fun p => .tup [f p.1, g p.2]
abbrev eT3 (f : α → AV) (g : β → AV) (h : γ → AV) : α × β × γ → AV := fun p => .tup [f p.1, g p.2.1, h p.2.2]
abbrev eT4 (f : α → AV) (g : β → AV) (h : γ → AV) (i : δ → AV) : α × β × γ × δ → AV := fun p => .tup [f p.1, g p.2.1, h p.2.2.1, i p.2.2.2]
abbrev eV (f : α → AV) : List α → AV := fun l => .tup (l.map f)
abbrev eL (b : Bool) (f : α → AV) : List α → AV := fun l => .lst b (l.map f)
abbrev eN : Unit → AV := fun _ => .non
def eO (f : α → AV) : Option α → AV := fun o => match o with
  | none => .non
  | some a => f a
@[simp] theorem eO_none {f : α → AV} : eO f none = .non := rfl
@[simp] theorem eO_some {f : α → AV} {a : α} : eO f (some a) = f a := rfl
theorem ages_map {e e' : α → AV} (h : ∀ x, age (e x) = e' x) : ∀ l : List α, ages (l.map e) = l.map e'
  | [] => rfl
  | x :: l => by
    show age (e x) :: ages (l.map e) = _
    rw [h, ages_map h]; rfl
theorem age_I : ∀ x : Int, age (.int x) = .int x := fun _ => rfl
theorem age_B : ∀ x : Bool, age (.bl x) = .bl x := fun _ => rfl
theorem age_S : ∀ x : Str, age (.str x) = .str x := fun _ => rfl
theorem age_N : ∀ x : Unit, age .non = .non := fun _ => rfl
theorem age_T2 {f f' : α → AV} {g g' : β → AV} (h1 : ∀ x, age (f x) = f' x) (h2 : ∀ x, age (g x) = g' x) : ∀ p, age (eT2 f g p) = eT2 f' g' p := fun p => by
  show AV.tup [age (f p.1), age (g p.2)] = _
  rw [h1, h2]
theorem age_T3 {f f' : α → AV} {g g' : β → AV} {h h' : γ → AV} (h1 : ∀ x, age (f x) = f' x) (h2 : ∀ x, age (g x) = g' x) (h3 : ∀ x, age (h x) = h' x) : ∀ p, age (eT3 f g h p) = eT3 f' g' h' p := fun p => by
  show AV.tup [age (f p.1), age (g p.2.1), age (h p.2.2)] = _
  rw [h1, h2, h3]
theorem age_T4 {f f' : α → AV} {g g' : β → AV} {h h' : γ → AV} {i i' : δ → AV} (h1 : ∀ x, age (f x) = f' x) (h2 : ∀ x, age (g x) = g' x) (h3 : ∀ x, age (h x) = h' x) (h4 : ∀ x, age (i x) = i' x) : ∀ p, age (eT4 f g h i p) = eT4 f' g' h' i' p := fun p => by
  show AV.tup [age (f p.1), age (g p.2.1), age (h p.2.2.1), age (i p.2.2.2)] = _
  rw [h1, h2, h3, h4]
theorem age_V {f f' : α → AV} (h : ∀ x, age (f x) = f' x) : ∀ l, age (eV f l) = eV f' l := fun l => by
  show AV.tup (ages (l.map f)) = _
  rw [ages_map h]
theorem age_L {b : Bool} {f f' : α → AV} (h : ∀ x, age (f x) = f' x) : ∀ l, age (eL b f l) = eL false f' l := fun l => by
  show AV.lst false (ages (l.map f)) = _
  rw [ages_map h]
theorem age_O {f f' : α → AV} (h : ∀ x, age (f x) = f' x) : ∀ l, age (eO f l) = eO f' l := fun l => by
  cases l
  · rfl
  · exact h _
/-! ints -/
def mulI (a b : Int) : Option Int := if cMul a b then some (a * b) else none
def divI (a b : Int) : Option Int := if cDiv a b then some (a / b) else none
def modI (a b : Int) : Option Int := if cPos a b then some (a % b) else none
def powI (a b : Int) : Option Int := if cPow a b then some (a ^ b.toNat) else none
def shlI (a b : Int) : Option Int := if cPow a b then some (a * 2 ^ b.toNat) else none
def shrI (a b : Int) : Option Int := if cNN a b then some (a / 2 ^ b.toNat) else none
variable {env : En} {a b k : Int} {x y : AV} {e e2 : α → AV} {l l2 : List α} {i : Nat} {xs ys : List AV}
theorem iI_p {C : Int → Int → Bool} {f : Int → Int → Int} {v : Int} (h : (if C a b then some (f a b) else none) = some v) : iI C f env [.int a, .int b] = some (.int v) := by
  unfold iI
  by_cases hc : C a b = true
  · simp only [hc, if_true] at h ⊢
    rw [Option.some.inj h]
  · simp only [hc] at h
    cases h
theorem op_mul (v : Int) (h : mulI a b = some v) : binO .mul env [.int a, .int b] = some (.int v) := by
  unfold mulI at h
  show (if cMul a b then some (AV.int (a * b)) else none) = _
  by_cases hc : cMul a b = true
  · simp only [hc, if_true] at h ⊢
    rw [Option.some.inj h]
  · simp only [hc] at h
    cases h
theorem op_div (v : Int) (h : divI a b = some v) : binO .div env [.int a, .int b] = some (.int v) := iI_p (env := env) (C := cDiv) (f := fun i j => i / j) h
theorem op_mod (v : Int) (h : modI a b = some v) : binO .mod env [.int a, .int b] = some (.int v) := iI_p (env := env) (C := cPos) (f := fun i j => i % j) h
theorem op_pow (v : Int) (h : powI a b = some v) : binO .pow env [.int a, .int b] = some (.int v) := iI_p (env := env) (C := cPow) (f := fun i j => i ^ j.toNat) h
theorem op_shl (v : Int) (h : shlI a b = some v) : binO .shl env [.int a, .int b] = some (.int v) := iI_p (env := env) (C := cPow) (f := fun i j => i * 2 ^ j.toNat) h
theorem op_shr (v : Int) (h : shrI a b = some v) : binO .shr env [.int a, .int b] = some (.int v) := iI_p (env := env) (C := cNN) (f := fun i j => i / 2 ^ j.toNat) h
theorem op_mulT (h : cMul a b = true) : binO .mul env [.int a, .int b] = some (.int (a * b)) := by
  show (if cMul a b then some (AV.int (a * b)) else none) = _
  rw [h]; rfl
theorem op_divT (h : cDiv a b = true) : binO .div env [.int a, .int b] = some (.int (a / b)) := by
  show (if cDiv a b then some (AV.int (a / b)) else none) = _
  rw [h]; rfl
theorem op_modT (h : cPos a b = true) : binO .mod env [.int a, .int b] = some (.int (a % b)) := by
  show (if cPos a b then some (AV.int (a % b)) else none) = _
  rw [h]; rfl
theorem op_powT {n : Nat} (h : cPow a n = true) : binO .pow env [.int a, .int n] = some (.int (a ^ n)) := by
  show (if cPow a n then some (AV.int (a ^ n)) else none) = _
  rw [h]; rfl
theorem op_shlT {n : Nat} (h : cPow a n = true) : binO .shl env [.int a, .int n] = some (.int (a * 2 ^ n)) := by
  show (if cPow a n then some (AV.int (a * 2 ^ n)) else none) = _
  rw [h]; rfl
theorem op_shrT {n : Nat} : binO .shr env [.int a, .int n] = some (.int (a / 2 ^ n)) := by
  show (if cNN a n then some (AV.int (a / 2 ^ n)) else none) = _
  have : cNN a n = true := by unfold cNN; simp
  rw [this]; rfl
/-! lists -/
def addL (l l2 : List α) : Option (List α) := if lenOk (l.length + l2.length) then some (l ++ l2) else none
theorem op_addL (h1 : asM env x = some (l.map e)) (h2 : asM env y = some (l2.map e)) (v : List α) (h : addL l l2 = some v) : binO .add env [x, y] = some (.frs (v.map e)) := by
  unfold addL at h
  split at h
  · rename_i hc
    cases h
    have key : (match asM env x, asM env y with
      | some xs, some ys => if lenOk (xs.length + ys.length) then some (AV.frs (xs ++ ys)) else none
      | _, _ => none) = some (.frs ((l ++ l2).map e)) := by
      rw [h1, h2]
      simp only [List.length_map, hc, if_true, List.map_append]
    cases x <;> first
      | (cases h1; done)
      | exact key
  · cases h
theorem op_addV (v : List α) (h : addL l l2 = some v) : binO .add env [.tup (l.map e), .tup (l2.map e)] = some (.tup (v.map e)) := by
  unfold addL at h
  split at h
  · rename_i hc
    cases h
    show (if lenOk ((l.map e).length + (l2.map e).length) then some (AV.tup (l.map e ++ l2.map e)) else none) = _
    simp only [List.length_map, hc, if_true, List.map_append]
  · cases h
def mulL (l : List α) (k : Int) : Option (List α) := if decide (-(2 ^ 63) ≤ k) && decide (k < 2 ^ 63) && lenOk (l.length * k.toNat) then some (List.replicate k.toNat l).flatten else none
theorem map_flat (e : α → AV) (l : List α) : ∀ n, (List.replicate n (l.map e)).flatten = ((List.replicate n l).flatten).map e
  | 0 => rfl
  | n + 1 => by
    rw [List.replicate_succ, List.replicate_succ, List.flatten_cons, List.flatten_cons, List.map_append, map_flat e l n]
theorem op_mulL (h1 : asM env x = some (l.map e)) (v : List α) (h : mulL l k = some v) : binO .mul env [x, .int k] = some (.frs (v.map e)) := by
  unfold mulL at h
  split at h
  · rename_i hc
    cases h
    have key : (match asM env x with
      | some xs => if decide (-(2 ^ 63) ≤ k) && decide (k < 2 ^ 63) && lenOk (xs.length * k.toNat) then some (AV.frs (List.replicate k.toNat xs).flatten) else none
      | _ => none) = some (.frs ((List.replicate k.toNat l).flatten.map e)) := by
      rw [h1]
      show (if decide (-(2 ^ 63) ≤ k) && decide (k < 2 ^ 63) && lenOk ((l.map e).length * k.toNat) then some (AV.frs (List.replicate k.toNat (l.map e)).flatten) else none) = _
      rw [List.length_map, if_pos hc, map_flat]
    cases x <;> first
      | (cases h1; done)
      | exact key
  · cases h
theorem atI_map (k : Int) : atI (l.map e) k = (atI l k).map e := by
  unfold atI
  rw [List.length_map]
  cases ixN l.length k with
  | none => rfl
  | some j => simp
theorem op_ix (hx : ∀ z, x ≠ .str z) (h : asS env x = some (l.map e)) (v : α) (hv : atI l k = some v) : oIx env [x, .int k] = some (e v) := by
  have key : (match asS env x with
    | some xs => atI xs k
    | none => none) = some (e v) := by
    rw [h]
    simp only [atI_map, hv, Option.map_some]
  cases x <;> first
    | exact absurd rfl (hx _)
    | exact key
theorem op_len (hx : ∀ z, x ≠ .str z) (h : asS env x = some (l.map e)) : biO .len env [x] = some (.int l.length) := by
  have key : (match asS env x with
    | some xs => some (AV.int xs.length)
    | none => none) = some (.int l.length) := by
    rw [h]
    simp only [List.length_map]
  cases x <;> first
    | exact absurd rfl (hx _)
    | exact key
theorem ints?_m (ns : List Int) : ints? (ns.map AV.int) = some ns := ints?_ints ns
theorem op_sum {l : List Int} (h : asL env x = some (l.map AV.int)) : biO .sum env [x] = some (.int l.sum) := by
  show (match asL env x with
    | some xs => (ints? xs).map fun (ns : List Int) => AV.int ns.sum
    | none => none) = _
  rw [h]
  simp
def maxO (l : List Int) : Option Int := if l.length = 0 then none else some (maxL l)
def minO (l : List Int) : Option Int := if l.length = 0 then none else some (minL l)
theorem op_max {l : List Int} (h : asL env x = some (l.map AV.int)) (v : Int) (hv : maxO l = some v) : biO .max env [x] = some (.int v) := by
  unfold maxO at hv
  split at hv
  · cases hv
  · rename_i hl
    cases hv
    have key : (match asL env x with
      | some xs => match ints? xs with
        | some ns => if ns.length = 0 then none else some (AV.int (maxL ns))
        | none => none
      | none => none) = some (.int (maxL l)) := by
      rw [h]
      simp only [ints?_ints, if_neg hl]
    cases x <;> first
      | (cases h; done)
      | exact key
theorem op_min {l : List Int} (h : asL env x = some (l.map AV.int)) (v : Int) (hv : minO l = some v) : biO .min env [x] = some (.int v) := by
  unfold minO at hv
  split at hv
  · cases hv
  · rename_i hl
    cases hv
    have key : (match asL env x with
      | some xs => match ints? xs with
        | some ns => if ns.length = 0 then none else some (AV.int (minL ns))
        | none => none
      | none => none) = some (.int (minL l)) := by
      rw [h]
      simp only [ints?_ints, if_neg hl]
    cases x <;> first
      | (cases h; done)
      | exact key
theorem op_all {l : List Bool} (h : asL env x = some (l.map AV.bl)) : biO .all env [x] = some (.bl (l.all id)) := by
  show (match asL env x with
    | some xs => (bls? xs).map fun (bs : List Bool) => AV.bl (bs.all id)
    | none => none) = _
  rw [h]
  simp
theorem op_any {l : List Bool} (h : asL env x = some (l.map AV.bl)) : biO .any env [x] = some (.bl (l.any id)) := by
  show (match asL env x with
    | some xs => (bls? xs).map fun (bs : List Bool) => AV.bl (bs.any id)
    | none => none) = _
  rw [h]
  simp
theorem op_sorted {l : List Int} (h : asL env x = some (l.map AV.int)) : biO .sorted env [x] = some (.frs ((srt l).map AV.int)) := by
  show (match asL env x with
    | some xs => (ints? xs).map fun (ns : List Int) => AV.frs ((srt ns).map .int)
    | none => none) = _
  rw [h]
  simp
theorem op_list (h : asS env x = some (l.map e)) : biO .list env [x] = some (.frs (l.map e)) := by
  show (asS env x).map AV.frs = _
  rw [h]; rfl
theorem op_tuple (h : asS env x = some (l.map e)) : biO .tuple env [x] = some (.tup (l.map e)) := by
  show (asS env x).map AV.tup = _
  rw [h]; rfl
theorem op_isi {t n : String} {b : Bool} (h : tyA env x = some t) (hn : tyAsk.contains n = true) (hb : isiB t n = b) : biO .isi env [x, .ty n] = some (.bl b) := by
  show (match tyA env x with
    | some t => if tyAsk.contains n then some (AV.bl (isiB t n)) else none
    | none => none) = _
  rw [h]
  simp only [hn, if_true, hb]
/-! slices -/
def cutL (l : List α) (lo hi : Option Int) : List α := (l.drop (HT.sIx l.length 0 lo)).take (HT.sIx l.length l.length hi - HT.sIx l.length 0 lo)
theorem cut_map {lo hi : Option Int} : cutA (l.map e) lo hi = (cutL l lo hi).map e := by
  unfold cutA cutL
  rw [List.length_map, ← List.map_drop, ← List.map_take]
theorem op_slL {lo hi : Option Int} (h : asL env x = some (l.map e)) : oSl lo hi env x = some (.frs ((cutL l lo hi).map e)) := by
  have key : (asL env x).map (fun xs => AV.frs (cutA xs lo hi)) = some (.frs ((cutL l lo hi).map e)) := by
    rw [h, Option.map_some, cut_map]
  cases x <;> first
    | (cases h; done)
    | exact key
theorem op_slV {lo hi : Option Int} : oSl lo hi env (.tup (l.map e)) = some (.tup ((cutL l lo hi).map e)) := by
  show some (AV.tup (cutA (l.map e) lo hi)) = _
  rw [cut_map]
/-! data compared -/
structure Dat [DecidableEq α] (e : α → AV) (p : α → PyData) (n : Nat) : Prop where
  toP : ∀ x, RX.toP (e x) = p x
  pl : ∀ x, plA (e x) = true
  lay : ∀ x, (p x).canLay0 = true
  dep : ∀ x, (p x).depth ≤ n
  eqv : ∀ x y, PyData.eqv (p x) (p y) = decide (x = y)
theorem dat_I : Dat AV.int PyData.int 0 := ⟨fun _ => rfl, fun _ => rfl, fun _ => rfl, fun _ => Nat.le_refl _, fun x y => by
  show (x == y) = _
  by_cases h : x = y <;> simp [h]⟩
theorem dat_B : Dat AV.bl PyData.bool 0 := ⟨fun _ => rfl, fun _ => rfl, fun _ => rfl, fun _ => Nat.le_refl _, fun x y => by
  show (x == y) = _
  by_cases h : x = y <;> simp [h]⟩
def pT2 (p : α → PyData) (q : β → PyData) : α × β → PyData := fun x => .tuple [p x.1, q x.2]
def pT3 (p : α → PyData) (q : β → PyData) (r : γ → PyData) : α × β × γ → PyData := fun x => .tuple [p x.1, q x.2.1, r x.2.2]
def pV (p : α → PyData) : List α → PyData := fun l => .tuple (l.map p)
def pL (p : α → PyData) : List α → PyData := fun l => .list (l.map p)
section
variable [DecidableEq α] [DecidableEq β] [DecidableEq γ] {p : α → PyData} {q : β → PyData} {r : γ → PyData} {n : Nat} {f : β → AV} {g : γ → AV}
theorem dat_T2 (D1 : Dat e p n) (D2 : Dat f q n) : Dat (eT2 e f) (pT2 p q) (n + 1) where
  toP := fun x => by show PyData.tuple [RX.toP _, RX.toP _] = _; rw [D1.toP, D2.toP]; rfl
  pl := fun x => by show (plA _ && (plA _ && true)) = _; rw [D1.pl, D2.pl]; rfl
  lay := fun x => by show ((p x.1).canLay0 && ((q x.2).canLay0 && true)) = _; rw [D1.lay, D2.lay]; rfl
  dep := fun x => by
    show max (p x.1).depth (max (q x.2).depth 0) + 1 ≤ _
    have := D1.dep x.1
    have := D2.dep x.2
    omega
  eqv := fun x y => by
    show (PyData.eqv _ _ && (PyData.eqv _ _ && true)) = _
    rw [D1.eqv, D2.eqv]
    obtain ⟨x1, x2⟩ := x
    obtain ⟨y1, y2⟩ := y
    by_cases h1 : x1 = y1 <;> by_cases h2 : x2 = y2 <;> simp [h1, h2]
theorem dat_T3 (D1 : Dat e p n) (D2 : Dat f q n) (D3 : Dat g r n) : Dat (eT3 e f g) (pT3 p q r) (n + 1) where
  toP := fun x => by show PyData.tuple [RX.toP _, RX.toP _, RX.toP _] = _; rw [D1.toP, D2.toP, D3.toP]; rfl
  pl := fun x => by show (plA _ && (plA _ && (plA _ && true))) = _; rw [D1.pl, D2.pl, D3.pl]; rfl
  lay := fun x => by show ((p x.1).canLay0 && ((q x.2.1).canLay0 && ((r x.2.2).canLay0 && true))) = _; rw [D1.lay, D2.lay, D3.lay]; rfl
  dep := fun x => by
    show max (p x.1).depth (max (q x.2.1).depth (max (r x.2.2).depth 0)) + 1 ≤ _
    have := D1.dep x.1
    have := D2.dep x.2.1
    have := D3.dep x.2.2
    omega
  eqv := fun x y => by
    show (PyData.eqv _ _ && (PyData.eqv _ _ && (PyData.eqv _ _ && true))) = _
    rw [D1.eqv, D2.eqv, D3.eqv]
    obtain ⟨x1, x2, x3⟩ := x
    obtain ⟨y1, y2, y3⟩ := y
    by_cases h1 : x1 = y1 <;> by_cases h2 : x2 = y2 <;> by_cases h3 : x3 = y3 <;> simp [h1, h2, h3]
theorem dat_up {m : Nat} (D : Dat e p n) (h : n ≤ m := by decide) : Dat e p m := ⟨D.toP, D.pl, D.lay, fun x => Nat.le_trans (D.dep x) h, D.eqv⟩
theorem dat_toPs (D : Dat e p n) : ∀ l : List α, toPs (l.map e) = l.map p
  | [] => rfl
  | x :: l => by show RX.toP _ :: toPs (l.map e) = _; rw [D.toP, dat_toPs D l]; rfl
theorem dat_pls (D : Dat e p n) : ∀ l : List α, plAs (l.map e) = true
  | [] => rfl
  | x :: l => by show (plA _ && plAs (l.map e)) = _; rw [D.pl, dat_pls D l]; rfl
theorem dat_lays (D : Dat e p n) : ∀ l : List α, PyData.canLayAll0 (l.map p) = true
  | [] => rfl
  | x :: l => by show (PyData.canLay0 _ && PyData.canLayAll0 (l.map p)) = _; rw [D.lay, dat_lays D l]; rfl
theorem dat_deps (D : Dat e p n) : ∀ l : List α, PyData.depthAll (l.map p) ≤ n
  | [] => Nat.zero_le _
  | x :: l => by
    show max (p x).depth (PyData.depthAll (l.map p)) ≤ n
    have := D.dep x
    have := dat_deps D l
    omega
theorem dat_eqvs (D : Dat e p n) : ∀ l l' : List α, PyData.eqvAll (l.map p) (l'.map p) = decide (l = l')
  | [], [] => by simp [PyData.eqvAll]
  | [], _ :: _ => by simp [PyData.eqvAll]
  | _ :: _, [] => by simp [PyData.eqvAll]
  | x :: l, y :: l' => by
    show (PyData.eqv (p x) (p y) && PyData.eqvAll (l.map p) (l'.map p)) = _
    rw [D.eqv, dat_eqvs D l l']
    by_cases h1 : x = y <;> by_cases h2 : l = l' <;> simp [h1, h2]
theorem dat_V (D : Dat e p n) : Dat (eV e) (pV p) (n + 1) where
  toP := fun l => by show PyData.tuple (toPs (l.map e)) = _; rw [dat_toPs D]; rfl
  pl := fun l => dat_pls D l
  lay := fun l => dat_lays D l
  dep := fun l => Nat.succ_le_succ (dat_deps D l)
  eqv := fun l l' => dat_eqvs D l l'
theorem dat_L {b : Bool} (D : Dat e p n) : Dat (eL b e) (pL p) (n + 1) where
  toP := fun l => by show PyData.list (toPs (l.map e)) = _; rw [dat_toPs D]; rfl
  pl := fun l => dat_pls D l
  lay := fun l => dat_lays D l
  dep := fun l => Nat.succ_le_succ (dat_deps D l)
  eqv := fun l l' => dat_eqvs D l l'
theorem dat_ok (D : Dat e p n) (hn : n ≤ 64) (x : α) : okE (e x) = true := by
  unfold okE SeqAt.shaped
  rw [D.pl, D.toP, D.lay]
  have := D.dep x
  simp; omega
theorem op_eq {u v : α} (D : Dat e p n) (D2 : Dat e2 p n) (hn : n ≤ 64) (h1 : rsv env x = some (e u)) (h2 : rsv env y = some (e2 v)) : cmpO .Eq env [x, y] = some (.bl (decide (u = v))) := by
  show oEqN false env [x, y] = _
  unfold oEqN
  simp only [h1, h2, dat_ok D hn, dat_ok D2 hn, Bool.and_self, if_true, Bool.false_eq_true, if_false]
  unfold eqA
  rw [D.toP, D2.toP, D.eqv]
theorem op_ne {u v : α} (D : Dat e p n) (D2 : Dat e2 p n) (hn : n ≤ 64) (h1 : rsv env x = some (e u)) (h2 : rsv env y = some (e2 v)) : cmpO .NotEq env [x, y] = some (.bl (!decide (u = v))) := by
  show oEqN true env [x, y] = _
  unfold oEqN
  simp only [h1, h2, dat_ok D hn, dat_ok D2 hn, Bool.and_self, if_true]
  unfold eqA
  rw [D.toP, D2.toP, D.eqv]
end
theorem flAs_I : ∀ l : List Int, flAs (l.map AV.int) = some (l.map V.int)
  | [] => rfl
  | x :: l => by
    show (match flA (.int x), flAs (l.map AV.int) with
      | some v, some vs => some (v :: vs)
      | _, _ => none) = _
    rw [flAs_I l]; rfl
theorem inV_I (a : Int) : ∀ l : List Int, inV (.int a) (l.map V.int) = decide (a ∈ l)
  | [] => by simp [inV]
  | x :: l => by
    show (eqV (.int x) (.int a) || inV (.int a) (l.map V.int)) = _
    rw [inV_I a l]
    show ((x == a) || _) = _
    by_cases h : x = a
    · subst h; simp
    · have h' : ¬ a = x := fun z => h z.symm
      simp [h, h']
theorem op_in {l : List Int} (h : asS env y = some (l.map AV.int)) : cmpO .In env [.int a, y] = some (.bl (decide (a ∈ l))) := by
  show orO (oInF false) _ env [.int a, y] = _
  have : oInF false env [.int a, y] = some (.bl (decide (a ∈ l))) := by
    show (match flA (.int a), asS env y with
      | some v, some xs => match flAs xs with
        | some vs => some (AV.bl (if false then !inV v vs else inV v vs))
        | none => none
      | _, _ => none) = _
    rw [h]
    simp only [flA, flAs_I, inV_I]
    rfl
  unfold orO
  rw [this]
theorem op_notIn {l : List Int} (h : asS env y = some (l.map AV.int)) : cmpO .NotIn env [.int a, y] = some (.bl (!decide (a ∈ l))) := by
  show orO (oInF true) _ env [.int a, y] = _
  have : oInF true env [.int a, y] = some (.bl (!decide (a ∈ l))) := by
    show (match flA (.int a), asS env y with
      | some v, some xs => match flAs xs with
        | some vs => some (AV.bl (if true then !inV v vs else inV v vs))
        | none => none
      | _, _ => none) = _
    rw [h]
    simp only [flA, flAs_I, inV_I]
    rfl
  unfold orO
  rw [this]
theorem inD_any [DecidableEq α] {p : α → PyData} {n : Nat} (D : Dat e p n) (D2 : Dat e2 p n) (u : α) : ∀ l : List α, ((l.map e2).any fun z => eqA z (e u)) = decide (u ∈ l)
  | [] => by simp
  | z :: l => by
    rw [List.map_cons, List.any_cons, inD_any D D2 u l]
    unfold eqA
    rw [D.toP, D2.toP, D.eqv]
    by_cases h : z = u
    · subst h; simp
    · have h' : ¬ u = z := fun q => h q.symm
      simp [h, h']
theorem op_inD {p : α → PyData} {n : Nat} [DecidableEq α] {u : α} (D : Dat e p n) (D2 : Dat e2 p n) (hn : n + 1 ≤ 64) (h0 : flA x = none) (h1 : rsv env x = some (e u)) (h2 : asL env y = some (l.map e2)) : cmpO .In env [x, y] = some (.bl (decide (u ∈ l))) := by
  show orO (oInF false) _ env [x, y] = _
  have i1 : oInF false env [x, y] = none := by
    show (match flA x, asS env y with
      | some v, some xs => match flAs xs with
        | some vs => some (AV.bl (if false then !inV v vs else inV v vs))
        | none => none
      | _, _ => none) = _
    rw [h0]
  unfold orO
  rw [i1]
  have i2 : oInD false env [x, y] = some (.bl (decide (u ∈ l))) := by
    show (match rsv env x, asL env y with
      | some x', some ys => if okE x' && okE (.lst false ys) then some (AV.bl (if false then !(ys.any fun z => eqA z x') else ys.any fun z => eqA z x')) else none
      | _, _ => none) = _
    rw [h1, h2]
    have := dat_ok (dat_L (b := false) D2) hn l
    simp only [dat_ok D (by omega), this, Bool.and_self, if_true, inD_any D D2]
    rfl
  simp only
  rw [i2]
theorem op_notInD {p : α → PyData} {n : Nat} [DecidableEq α] {u : α} (D : Dat e p n) (D2 : Dat e2 p n) (hn : n + 1 ≤ 64) (h0 : flA x = none) (h1 : rsv env x = some (e u)) (h2 : asL env y = some (l.map e2)) : cmpO .NotIn env [x, y] = some (.bl (!decide (u ∈ l))) := by
  show orO (oInF true) _ env [x, y] = _
  have i1 : oInF true env [x, y] = none := by
    show (match flA x, asS env y with
      | some v, some xs => match flAs xs with
        | some vs => some (AV.bl (if true then !inV v vs else inV v vs))
        | none => none
      | _, _ => none) = _
    rw [h0]
  unfold orO
  rw [i1]
  have i2 : oInD true env [x, y] = some (.bl (!decide (u ∈ l))) := by
    show (match rsv env x, asL env y with
      | some x', some ys => if okE x' && okE (.lst false ys) then some (AV.bl (if true then !(ys.any fun z => eqA z x') else ys.any fun z => eqA z x')) else none
      | _, _ => none) = _
    rw [h1, h2]
    have := dat_ok (dat_L (b := false) D2) hn l
    simp only [dat_ok D (by omega), this, Bool.and_self, if_true, inD_any D D2]
  simp only
  rw [i2]
end
end RX
/-! RY part c: what is walked, comprehensions, methods, items set, while. -/
namespace RX
open PySem L2
section
variable {α α' β γ δ σ : Type} {m : Option β} {F : β → Option γ} {G : Calls} {env env' : En} {a b c e : Ex} {es : Exs} {i : Nat} {nw t : Bool} {xs ys : List AV} {d d2 : AV} {X : Str → En → Option γ} {l l2 : List α} {l' : List α'} {en : α → AV} {en' : α' → AV} {lk : List Nat}
/-! what is walked -/
section
variable {K : Src → En → Option γ}
theorem y_iSeq (k : Le (bx (ev G e env) (fun d e1 => bx (sqK d e1) K X) X) m F) : Le (bx (evI G (.seq e) env) K X) m F := by rw [i_seq, bx_bnd]; exact k
theorem y_sq (h : seqOf (lockE env (lkL [d])) d = some (t, l.map en)) (hl : lkL [d] = lk) (k : Le (K ⟨l.map en, lk⟩ env) m F) : Le (bx (sqK d env) K X) m F := by
  unfold sqK; rw [h]; rw [hl]; exact k
def enK (d : AV) (e1 : En) : Option (R Src) := match seqOf (lockE e1 (lkL [d])) d with
    | some (_, xs) => some (.ok ⟨enumL 0 xs, lkL [d]⟩ e1)
    | none => none
def rvK (d : AV) (e1 : En) : Option (R Src) := match seqOf (lockE e1 (lkL [d])) d with
    | some (_, xs) => some (.ok ⟨xs.reverse, lkL [d]⟩ e1)
    | none => none
def zpK (d d2 : AV) (e2 : En) : Option (R Src) := match seqOf (lockE e2 (lkL [d, d2])) d, seqOf (lockE e2 (lkL [d, d2])) d2 with
    | some (_, xs), some (_, ys) => some (.ok ⟨zipL xs ys, lkL [d, d2]⟩ e2)
    | _, _ => none
theorem y_iEnum (k : Le (bx (ev G e env) (fun d e1 => bx (enK d e1) K X) X) m F) : Le (bx (evI G (.enum e) env) K X) m F := by
  show Le (bx (bnd (ev G e env) enK) K X) m F
  rw [bx_bnd]; exact k
theorem y_iRev (k : Le (bx (ev G e env) (fun d e1 => bx (rvK d e1) K X) X) m F) : Le (bx (evI G (.rev e) env) K X) m F := by
  show Le (bx (bnd (ev G e env) rvK) K X) m F
  rw [bx_bnd]; exact k
theorem y_iZip (k : Le (bx (ev G a env) (fun d e1 => bx (ev G b e1) (fun d2 e2 => bx (zpK d d2 e2) K X) X) X) m F) : Le (bx (evI G (.zip a b) env) K X) m F := by
  show Le (bx (bnd (ev G a env) fun d e1 => bnd (ev G b e1) fun d2 e2 => zpK d d2 e2) K X) m F
  rw [bx_bnd]; simp only [bx_bnd]; exact k
def enumS : Nat → List α → List (Int × α)
  | _, [] => []
  | n, x :: xs => ((n : Int), x) :: enumS (n + 1) xs
theorem enumL_map : ∀ (n : Nat) (l : List α), enumL n (l.map en) = (enumS n l).map (eT2 AV.int en)
  | _, [] => rfl
  | n, x :: l => by
    show AV.tup [.int n, en x] :: enumL (n + 1) (l.map en) = _
    rw [enumL_map (n + 1) l]; rfl
theorem zipL_map : ∀ (l : List α) (l' : List α'), zipL (l.map en) (l'.map en') = (l.zip l').map (eT2 en en')
  | [], l' => by cases l' <;> rfl
  | x :: l, [] => rfl
  | x :: l, y :: l' => by
    show AV.tup [en x, en' y] :: zipL (l.map en) (l'.map en') = _
    rw [zipL_map l l']; rfl
theorem y_en (h : seqOf (lockE env (lkL [d])) d = some (t, l.map en)) (hl : lkL [d] = lk) (k : Le (K ⟨(enumS 0 l).map (eT2 AV.int en), lk⟩ env) m F) : Le (bx (enK d env) K X) m F := by
  unfold enK; rw [h]; rw [hl]; simp only [enumL_map]; exact k
theorem y_rv (h : seqOf (lockE env (lkL [d])) d = some (t, l.map en)) (hl : lkL [d] = lk) (k : Le (K ⟨l.reverse.map en, lk⟩ env) m F) : Le (bx (rvK d env) K X) m F := by
  unfold rvK; rw [h]; rw [hl]; simp only [← List.map_reverse]; exact k
theorem y_zp {t' : Bool} (h : seqOf (lockE env (lkL [d, d2])) d = some (t, l.map en)) (h' : seqOf (lockE env (lkL [d, d2])) d2 = some (t', l'.map en')) (hl : lkL [d, d2] = lk) (k : Le (K ⟨(l.zip l').map (eT2 en en'), lk⟩ env) m F) : Le (bx (zpK d d2 env) K X) m F := by
  unfold zpK; rw [h, h']; simp only [hl, zipL_map]; exact k
theorem y_iRg (k : Le (bx (evs G es env) (fun ds e1 => bx (rgK ds e1) K X) X) m F) : Le (bx (evI G (.rg es) env) K X) m F := by rw [i_rg, bx_bnd]; exact k
def rgO (a b : Int) : Option (List Int) := if rgOk a b then some (upto a b) else none
theorem y_rg1 {n : Int} {m' : List Int → Option β} (k : ∀ l, Le (K ⟨l.map AV.int, []⟩ env) (m' l) F) : Le (bx (rgK [.int n] env) K X) (Option.bind (rgO 0 n) m') F := by
  unfold rgO
  by_cases h : rgOk 0 n = true
  · rw [if_pos h]
    have : rgK [.int n] env = some (.ok ⟨(upto 0 n).map AV.int, []⟩ env) := by
      unfold rgK
      show (match (if rgOk 0 n then some (rgL 0 n) else none) with | some xs => _ | none => _) = _
      rw [if_pos h, rgL_eq]; rfl
    rw [this]
    exact k _
  · rw [if_neg h]; exact y_none
theorem y_rg2 {n' n : Int} {m' : List Int → Option β} (k : ∀ l, Le (K ⟨l.map AV.int, []⟩ env) (m' l) F) : Le (bx (rgK [.int n', .int n] env) K X) (Option.bind (rgO n' n) m') F := by
  unfold rgO
  by_cases h : rgOk n' n = true
  · rw [if_pos h]
    have : rgK [.int n', .int n] env = some (.ok ⟨(upto n' n).map AV.int, []⟩ env) := by
      unfold rgK
      show (match (if rgOk n' n then some (rgL n' n) else none) with | some xs => _ | none => _) = _
      rw [if_pos h, rgL_eq]; rfl
    rw [this]
    exact k _
  · rw [if_neg h]; exact y_none
def rg3Ok (m n c : Int) : Bool := decide (c ≠ 0) && decide (c.natAbs < 1073741824) && Builtin.Range.small m n c && decide (Builtin.Range.rangeSize m n c = ((Builtin.Range.rangeSize m n c).toNat : Int))
def rg3L (m n c : Int) : List Int := (List.range (Builtin.Range.rangeSize m n c).toNat).map fun i => m + (i : Nat) * c
def rg3O (m n c : Int) : Option (List Int) := if rg3Ok m n c then some (rg3L m n c) else none
theorem y_rg3 {n' n c' : Int} {m' : List Int → Option β} (k : ∀ l, Le (K ⟨l.map AV.int, []⟩ env) (m' l) F) : Le (bx (rgK [.int n', .int n, .int c'] env) K X) (Option.bind (rg3O n' n c') m') F := by
  unfold rg3O
  by_cases h : rg3Ok n' n c' = true
  · rw [if_pos h]
    have : rgK [.int n', .int n, .int c'] env = some (.ok ⟨(rg3L n' n c').map AV.int, []⟩ env) := by
      unfold rgK
      show (match (if rg3Ok n' n c' then some ((List.range (Builtin.Range.rangeSize n' n c').toNat).map fun i => AV.int (n' + (i : Nat) * c')) else none) with | some xs => _ | none => _) = _
      rw [if_pos h]
      unfold rg3L
      rw [List.map_map]; rfl
    rw [this]
    exact k _
  · rw [if_neg h]; exact y_none
end
/-! comprehensions -/
section
variable {K : AV → En → Option γ} {own : List Nat} {tg : Tg} {it : It} {E0 : En} {dn : δ → AV}
def compT (G : Calls) (own : List Nat) (tg : Tg) (c e : Ex) (s : Src) (e1 : En) : Option (R AV) :=
  if lenOk s.xs.length && ownOk e1 own && (own.all fun i => !s.lk.contains i) then
        bnd (compL own tg (evCk (isNul c) (ev G c)) (ev G e) s.xs (wipeE (lockE e1 s.lk) own)) fun ds e2 => some (.ok (.frs ds) (unlockE e1 (backE (lockE e1 s.lk) e2 own) s.lk))
      else none
theorem y_comp (k : Le (bx (evI G it env) (fun s e1 => bx (compT G own tg c e s e1) K X) X) m F) : Le (bx (ev G (.comp e own tg it c) env) K X) m F := by
  have : ev G (.comp e own tg it c) env = bnd (evI G it env) (compT G own tg c e) := q_comp
  rw [this, bx_bnd]; exact k
def asgE (tg : Tg) (d : AV) (env : En) : Option (R Unit) := match asgT tg d env with
  | none => none
  | some e1 => some (.ok () e1)
theorem y_asgE {K : Unit → En → Option γ} (h : asgT tg d env = some env') (k : Le (K () env') m F) : Le (bx (asgE tg d env) K X) m F := by
  unfold asgE; rw [h]; exact k
/-- an item of a comprehension: what is put in, the slots behind it -/
def stoK (own : List Nat) : AV → En → Option (Option AV × En) := fun d e => (sto d).map fun d' => (some d', wipeE e own)
def noK : Str → En → Option (Option AV × En) := fun _ _ => none
def skK (own : List Nat) (e : En) : Option (Option AV × En) := some (none, wipeE e own)
def itT (G : Calls) (own : List Nat) (tg : Tg) (e : Ex) (x : AV) (E : En) : Option (Option AV × En) :=
  bx (asgE tg x E) (fun _ e1 => bx (ev G e e1) (stoK own) noK) noK
def itC (G : Calls) (own : List Nat) (tg : Tg) (c e : Ex) (x : AV) (E : En) : Option (Option AV × En) :=
  bx (asgE tg x E) (fun _ e1 => bx (ev G c e1) (fun d e2 => bx (asB d e2) (fun b e3 => if b then bx (ev G e e3) (stoK own) noK else skK own e3) noK) noK) noK
theorem y_itT {F : β → Option (Option AV × En)} (k : Le (bx (asgE tg d env) (fun _ e1 => bx (ev G e e1) (stoK own) noK) noK) m F) : Le (itT G own tg e d env) m F := k
theorem y_itC {F : β → Option (Option AV × En)} (k : Le (bx (asgE tg d env) (fun _ e1 => bx (ev G c e1) (fun d e2 => bx (asB d e2) (fun b e3 => if b then bx (ev G e e3) (stoK own) noK else skK own e3) noK) noK) noK) m F) : Le (itC G own tg c e d env) m F := k
def mapO' (g : α → Option δ) : List α → Option (List δ)
  | [] => some []
  | x :: xs => (g x).bind fun y => (mapO' g xs).bind fun ys => some (y :: ys)
def mapO (g : α → Option δ) (l : List α) : Option (List δ) := if lenOk l.length then mapO' g l else none
def optL : Option δ → List δ → List δ
  | some y, ys => y :: ys
  | none, ys => ys
def filO' (g : α → Option (Option δ)) : List α → Option (List δ)
  | [] => some []
  | x :: xs => (g x).bind fun y => (filO' g xs).bind fun ys => some (optL y ys)
def filO (g : α → Option (Option δ)) (l : List α) : Option (List δ) := if lenOk l.length then filO' g l else none
/-- with a state -/
def filS' (g : σ → α → Option (σ × Option δ)) : List α → σ → Option (σ × List δ)
  | [], s => some (s, [])
  | x :: xs, s => (g s x).bind fun y => (filS' g xs y.1).bind fun ys => some (ys.1, optL y.2 ys.2)
def filS (g : σ → α → Option (σ × Option δ)) (l : List α) (s : σ) : Option (σ × List δ) := if lenOk l.length then filS' g l s else none
theorem compL_T {E : σ → En} {g : σ → α → Option (σ × Option δ)} (hb : ∀ s x, Le (itT G own tg e (en x) (E s)) (g s x) (fun v => some (v.2.map dn, E v.1))) : ∀ (l : List α) (s : σ) (v : σ × List δ), filS' g l s = some v → compL own tg (evCk true (ev G c)) (ev G e) (l.map en) (E s) = some (.ok (v.2.map dn) (E v.1))
  | [], s, v, h => by cases h; rfl
  | x :: l, s, v, h => by
    unfold filS' at h
    cases q : g s x with
    | none => rw [q] at h; cases h
    | some y =>
      rw [q] at h
      have h : Option.bind (filS' g l y.1) (fun ys => some (ys.1, optL y.2 ys.2)) = some v := h
      cases q2 : filS' g l y.1 with
      | none => rw [q2] at h; cases h
      | some ys =>
        rw [q2] at h
        have h : some (ys.1, optL y.2 ys.2) = some v := h
        have ih := compL_T hb l y.1 ys q2
        have h1 := hb s x y q
        unfold itT asgE at h1
        show compL _ _ _ _ (en x :: l.map en) _ = _
        unfold compL
        cases q3 : asgT tg (en x) (E s) with
        | none => rw [q3] at h1; cases h1
        | some e1 =>
          rw [q3] at h1
          have h1 : bx (ev G e e1) (stoK own) noK = some (y.2.map dn, E y.1) := h1
          simp only
          rw [q_evCk0]
          show bnd (noX (some (R.ok true e1))) _ = _
          show bnd (noX (ev G e e1)) _ = _
          cases q4 : ev G e e1 with
          | none => rw [q4] at h1; cases h1
          | some r =>
            rw [q4] at h1
            cases r with
            | exc c e2 => cases h1
            | ok d e2 =>
              have h1 : stoK own d e2 = some (y.2.map dn, E y.1) := h1
              unfold stoK at h1
              show (match sto d with | none => none | some d' => _) = _
              cases q5 : sto d with
              | none => rw [q5] at h1; cases h1
              | some d' =>
                rw [q5] at h1
                simp only [Option.map_some, Option.some.injEq, Prod.mk.injEq] at h1
                obtain ⟨h1, h2⟩ := h1
                simp only
                rw [h2, ih, bnd_ok]
                obtain ⟨y1, y2⟩ := y
                cases y2 with
                | none => cases h1
                | some w =>
                  cases h1
                  rw [← Option.some.inj h]; rfl
theorem compL_C {E : σ → En} {g : σ → α → Option (σ × Option δ)} (hb : ∀ s x, Le (itC G own tg c e (en x) (E s)) (g s x) (fun v => some (v.2.map dn, E v.1))) : ∀ (l : List α) (s : σ) (v : σ × List δ), filS' g l s = some v → compL own tg (evCk false (ev G c)) (ev G e) (l.map en) (E s) = some (.ok (v.2.map dn) (E v.1))
  | [], s, v, h => by cases h; rfl
  | x :: l, s, v, h => by
    unfold filS' at h
    cases q : g s x with
    | none => rw [q] at h; cases h
    | some y =>
      rw [q] at h
      have h : Option.bind (filS' g l y.1) (fun ys => some (ys.1, optL y.2 ys.2)) = some v := h
      cases q2 : filS' g l y.1 with
      | none => rw [q2] at h; cases h
      | some ys =>
        rw [q2] at h
        have h : some (ys.1, optL y.2 ys.2) = some v := h
        have ih := compL_C hb l y.1 ys q2
        have h1 := hb s x y q
        unfold itC asgE at h1
        show compL _ _ _ _ (en x :: l.map en) _ = _
        unfold compL
        cases q3 : asgT tg (en x) (E s) with
        | none => rw [q3] at h1; cases h1
        | some e1 =>
          rw [q3] at h1
          have h1 : bx (ev G c e1) (fun d e2 => bx (asB d e2) (fun b e3 => if b then bx (ev G e e3) (stoK own) noK else skK own e3) noK) noK = some (y.2.map dn, E y.1) := h1
          simp only
          rw [q_evCk1]
          cases q6 : ev G c e1 with
          | none => rw [q6] at h1; cases h1
          | some r =>
            rw [q6] at h1
            cases r with
            | exc c e2 => cases h1
            | ok dc e2 =>
              have h1' : bx (asB dc e2) (fun b e3 => if b then bx (ev G e e3) (stoK own) noK else skK own e3) noK = some (y.2.map dn, E y.1) := h1
              clear h1
              have h1 := h1'
              clear h1'
              rw [bnd_ok]
              obtain ⟨tb, rfl⟩ : ∃ tb, dc = .bl tb := by
                cases dc <;> first
                  | exact ⟨_, rfl⟩
                  | (cases h1; done)
              have h1 : (if tb then bx (ev G e e2) (stoK own) noK else skK own e2) = some (y.2.map dn, E y.1) := h1
              show (if tb then _ else _) = _
              cases tb with
              | false =>
                have h1 : some (none, wipeE e2 own) = some (y.2.map dn, E y.1) := h1
                simp only [Option.some.injEq, Prod.mk.injEq] at h1
                obtain ⟨h1, h2⟩ := h1
                show compL own tg _ _ (l.map en) (wipeE e2 own) = _
                rw [h2, ih]
                obtain ⟨y1, y2⟩ := y
                cases y2 with
                | some w => cases h1
                | none => rw [← Option.some.inj h]; rfl
              | true =>
                have h1 : bx (ev G e e2) (stoK own) noK = some (y.2.map dn, E y.1) := h1
                show bnd (noX (ev G e e2)) _ = _
                cases q4 : ev G e e2 with
                | none => rw [q4] at h1; cases h1
                | some r =>
                  rw [q4] at h1
                  cases r with
                  | exc c e2 => cases h1
                  | ok d e2 =>
                    have h1 : stoK own d e2 = some (y.2.map dn, E y.1) := h1
                    unfold stoK at h1
                    show (match sto d with | none => none | some d' => _) = _
                    cases q5 : sto d with
                    | none => rw [q5] at h1; cases h1
                    | some d' =>
                      rw [q5] at h1
                      simp only [Option.map_some, Option.some.injEq, Prod.mk.injEq] at h1
                      obtain ⟨h1, h2⟩ := h1
                      simp only
                      rw [h2, ih, bnd_ok]
                      obtain ⟨y1, y2⟩ := y
                      cases y2 with
                      | none => cases h1
                      | some w =>
                        cases h1
                        rw [← Option.some.inj h]; rfl
theorem fil_S (g : α → Option (Option δ)) : ∀ l, filS' (fun (_ : Unit) x => (g x).map fun v => ((), v)) l () = (filO' g l).map fun v => ((), v)
  | [] => rfl
  | x :: l => by
    unfold filS' filO'
    cases g x with
    | none => rfl
    | some y =>
      show Option.bind (filS' _ l ()) _ = _
      rw [fil_S g l]
      cases filO' g l <;> rfl
theorem map_fil (g : α → Option δ) : ∀ l, filO' (fun x => (g x).map some) l = mapO' g l
  | [] => rfl
  | x :: l => by
    unfold filO' mapO'
    cases g x with
    | none => rfl
    | some y =>
      show Option.bind (filO' _ l) _ = _
      rw [map_fil g l]
      cases mapO' g l <;> rfl
/-- a comprehension with a state, no test -/
theorem y_compTS {E : σ → En} {E' : σ → En} {g : σ → α → Option (σ × δ)} {s0 : σ} {m' : σ × List δ → Option β} (ho : ownOk env own = true) (hd : (own.all fun i => !lk.contains i) = true) (h0 : wipeE (lockE env lk) own = E s0)
    (hb : ∀ s x, Le (itT G own tg e (en x) (E s)) (g s x) (fun v => some (some (dn v.2), E v.1))) (hE : ∀ s, unlockE env (backE (lockE env lk) (E s) own) lk = E' s) (k : ∀ v, Le (K (.frs (v.2.map dn)) (E' v.1)) (m' v) F) :
    Le (bx (compT G own tg .nul e ⟨l.map en, lk⟩ env) K X) (Option.bind (filS (fun s x => (g s x).map fun v => (v.1, some v.2)) l s0) m') F := by
  unfold filS
  by_cases hl : lenOk l.length = true
  · rw [if_pos hl]
    intro r hr
    cases q : filS' (fun s x => (g s x).map fun v => (v.1, some v.2)) l s0 with
    | none => rw [q] at hr; cases hr
    | some v =>
      rw [q] at hr
      have := compL_T (G := G) (c := .nul) (own := own) (tg := tg) (e := e) (en := en) (dn := dn) (E := E) (g := fun s x => (g s x).map fun v => (v.1, some v.2)) (fun s x w hw => by
        cases q2 : g s x with
        | none => rw [q2] at hw; cases hw
        | some u =>
          rw [q2] at hw
          cases hw
          exact hb s x u q2) l s0 v q
      unfold compT
      simp only [List.length_map, hl, ho, hd, Bool.and_self, if_true, h0]
      rw [show isNul .nul = true from rfl, this, bnd_ok]
      rw [hE]
      exact k v r hr
  · rw [if_neg hl]; exact y_none
theorem unb (h0 : wipeE (lockE env lk) own = E0) : unlockE env (backE (lockE env lk) E0 own) lk = env := by
  rw [← h0, back_wipe, unlock_lock]
theorem y_compM {g : α → Option δ} {m' : List δ → Option β} (ho : ownOk env own = true) (hd : (own.all fun i => !lk.contains i) = true) (h0 : wipeE (lockE env lk) own = E0)
    (hb : ∀ x, Le (itT G own tg e (en x) E0) (g x) (fun v => some (some (dn v), E0))) (k : ∀ ys, Le (K (.frs (ys.map dn)) env) (m' ys) F) :
    Le (bx (compT G own tg .nul e ⟨l.map en, lk⟩ env) K X) (Option.bind (mapO g l) m') F := by
  unfold mapO
  by_cases hl : lenOk l.length = true
  · rw [if_pos hl]
    intro r hr
    cases q : mapO' g l with
    | none => rw [q] at hr; cases hr
    | some v =>
      rw [q] at hr
      have := compL_T (G := G) (c := .nul) (own := own) (tg := tg) (e := e) (en := en) (dn := dn) (E := fun (_ : Unit) => E0) (g := fun _ x => ((g x).map some).map fun v => ((), v)) (fun s x w hw => by
        cases q2 : g x with
        | none => rw [q2] at hw; cases hw
        | some u =>
          rw [q2] at hw
          cases hw
          exact hb x u q2) l () ((), v) (by rw [fil_S, map_fil, q]; rfl)
      unfold compT
      simp only [List.length_map, hl, ho, hd, Bool.and_self, if_true, h0]
      rw [show isNul .nul = true from rfl, this, bnd_ok]
      rw [unb h0]
      exact k v r hr
  · rw [if_neg hl]; exact y_none
theorem y_compC {g : α → Option (Option δ)} {m' : List δ → Option β} (hn : isNul c = false) (ho : ownOk env own = true) (hd : (own.all fun i => !lk.contains i) = true) (h0 : wipeE (lockE env lk) own = E0)
    (hb : ∀ x, Le (itC G own tg c e (en x) E0) (g x) (fun v => some (v.map dn, E0))) (k : ∀ ys, Le (K (.frs (ys.map dn)) env) (m' ys) F) :
    Le (bx (compT G own tg c e ⟨l.map en, lk⟩ env) K X) (Option.bind (filO g l) m') F := by
  unfold filO
  by_cases hl : lenOk l.length = true
  · rw [if_pos hl]
    intro r hr
    cases q : filO' g l with
    | none => rw [q] at hr; cases hr
    | some v =>
      rw [q] at hr
      have := compL_C (G := G) (c := c) (own := own) (tg := tg) (e := e) (en := en) (dn := dn) (E := fun (_ : Unit) => E0) (g := fun _ x => (g x).map fun v => ((), v)) (fun s x w hw => by
        cases q2 : g x with
        | none => rw [q2] at hw; cases hw
        | some u =>
          rw [q2] at hw
          cases hw
          exact hb x u q2) l () ((), v) (by rw [fil_S, q]; rfl)
      unfold compT
      simp only [List.length_map, hl, ho, hd, Bool.and_self, if_true, h0, hn]
      rw [this, bnd_ok]
      rw [unb h0]
      exact k v r hr
  · rw [if_neg hl]; exact y_none
end
/-! methods -/
section
variable {K : AV → En → Option γ} {E' : List α → En} {m' : List α → Option β} {v : α}
theorem mthE_of {o : Mt} {ds : List AV} {r : AV} (hm : mutB env i = true) (hs : slL env i = some xs) (hL : mthL o xs ds env = some (ys, r)) : mthE o i ds env = some (.ok r (updS env i ys)) := by
  unfold mthE
  rw [if_pos hm, hs]
  simp only [hL]
def appO (l : List α) (v : α) : Option (List α) := if l.length < sizeLine then some (l ++ [v]) else none
theorem y_app (hm : mutB env i = true) (hs : slL env i = some (l.map en)) (hd : sto d = some (en v)) (he : ∀ l', updS env i (l'.map en) = E' l') (k : ∀ l', Le (K .non (E' l')) (m' l') F) : Le (bx (mthE .app i [d] env) K X) (Option.bind (appO l v) m') F := by
  unfold appO
  by_cases h : l.length < sizeLine
  · rw [if_pos h]
    have : mthL .app (l.map en) [d] env = some ((l ++ [v]).map en, .non) := by
      unfold mthL
      simp only [hd, List.length_map, h, if_true, List.map_append, List.map_cons, List.map_nil]
    rw [mthE_of hm hs this, he]
    exact k _
  · rw [if_neg h]; exact y_none
def extO (l l2 : List α) : Option (List α) := if l.length + l2.length ≤ sizeLine then some (l ++ l2) else none
theorem y_ext (hm : mutB env i = true) (hs : slL env i = some (l.map en)) (hd : asM env d = some (l2.map en)) (he : ∀ l', updS env i (l'.map en) = E' l') (k : ∀ l', Le (K .non (E' l')) (m' l') F) : Le (bx (mthE .ext i [d] env) K X) (Option.bind (extO l l2) m') F := by
  unfold extO
  by_cases h : l.length + l2.length ≤ sizeLine
  · rw [if_pos h]
    have : mthL .ext (l.map en) [d] env = some ((l ++ l2).map en, .non) := by
      unfold mthL
      simp only [hd, List.length_map, h, if_true, List.map_append]
    rw [mthE_of hm hs this, he]
    exact k _
  · rw [if_neg h]; exact y_none
def insO (l : List α) (z : Int) (v : α) : Option (List α) := if decide (l.length < sizeLine) && decide (0 ≤ z) && decide (z < 2 ^ 63) then some (l.take z.toNat ++ [v] ++ l.drop z.toNat) else none
theorem y_ins {z : Int} (hm : mutB env i = true) (hs : slL env i = some (l.map en)) (hd : sto d = some (en v)) (he : ∀ l', updS env i (l'.map en) = E' l') (k : ∀ l', Le (K .non (E' l')) (m' l') F) : Le (bx (mthE .ins i [.int z, d] env) K X) (Option.bind (insO l z v) m') F := by
  unfold insO
  by_cases h : (decide (l.length < sizeLine) && decide (0 ≤ z) && decide (z < 2 ^ 63)) = true
  · rw [if_pos h]
    have : mthL .ins (l.map en) [.int z, d] env = some ((l.take z.toNat ++ [v] ++ l.drop z.toNat).map en, .non) := by
      unfold mthL
      simp only [hd, List.length_map]
      rw [if_pos h]
      simp only [List.map_append, List.map_cons, List.map_nil, List.map_take, List.map_drop]
    rw [mthE_of hm hs this, he]
    exact k _
  · rw [if_neg h]; exact y_none
theorem y_clr {m : Option β} (hm : mutB env i = true) (hs : slL env i = some (l.map en)) (he : updS env i (([] : List α).map en) = env') (k : Le (K .non env') m F) : Le (bx (mthE .clr i [] env) K X) m F := by
  have : mthL .clr (l.map en) [] env = some (([] : List α).map en, .non) := rfl
  rw [mthE_of hm hs this, he]
  exact k
theorem y_rev {m : Option β} (hm : mutB env i = true) (hs : slL env i = some (l.map en)) (he : updS env i (l.reverse.map en) = env') (k : Le (K .non env') m F) : Le (bx (mthE .rev i [] env) K X) m F := by
  have : mthL .rev (l.map en) [] env = some (l.reverse.map en, .non) := by
    unfold mthL
    rw [List.map_reverse]
  rw [mthE_of hm hs this, he]
  exact k
def popO (l : List α) : Option (α × List α) := match l[l.length - 1]? with
  | some y => some (y, l.dropLast)
  | none => none
theorem y_pop {m' : α × List α → Option β} (hm : mutB env i = true) (hs : slL env i = some (l.map en)) (he : ∀ l', updS env i (l'.map en) = E' l') (k : ∀ v, Le (K (en v.1) (E' v.2)) (m' v) F) : Le (bx (mthE .pop i [] env) K X) (Option.bind (popO l) m') F := by
  unfold popO
  cases q : l[l.length - 1]? with
  | none => exact y_none
  | some y =>
    have : mthL .pop (l.map en) [] env = some (l.dropLast.map en, en y) := by
      unfold mthL
      simp [q, List.map_dropLast]
    rw [mthE_of hm hs this, he]
    exact k (y, l.dropLast)
def popAtO (l : List α) (z : Int) : Option (α × List α) := if decide (-(2 ^ 63) ≤ z) && decide (z < 2 ^ 63) then match seqIndex? z l.length with
    | some k => match l[k]? with
      | some y => some (y, l.eraseIdx k)
      | none => none
    | none => none else none
theorem map_erase {f : α → AV} : ∀ (l : List α) (j : Nat), (l.map f).eraseIdx j = (l.eraseIdx j).map f
  | [], _ => rfl
  | _ :: _, 0 => rfl
  | x :: l, j + 1 => by
    show f x :: (l.map f).eraseIdx j = _
    rw [map_erase l j]; rfl
theorem y_popAt {z : Int} {m' : α × List α → Option β} (hm : mutB env i = true) (hs : slL env i = some (l.map en)) (he : ∀ l', updS env i (l'.map en) = E' l') (k : ∀ v, Le (K (en v.1) (E' v.2)) (m' v) F) : Le (bx (mthE .popAt i [.int z] env) K X) (Option.bind (popAtO l z) m') F := by
  unfold popAtO
  by_cases h : (decide (-(2 ^ 63) ≤ z) && decide (z < 2 ^ 63)) = true
  · rw [if_pos h]
    cases q1 : seqIndex? z l.length with
    | none => exact y_none
    | some j =>
      simp only
      cases q : l[j]? with
      | none => exact y_none
      | some y =>
        have : mthL .popAt (l.map en) [.int z] env = some ((l.eraseIdx j).map en, en y) := by
          unfold mthL
          simp only [List.length_map]
          rw [if_pos h, q1]
          simp only [List.getElem?_map, q, Option.map_some, map_erase]
        rw [mthE_of hm hs this, he]
        exact k (y, l.eraseIdx j)
  · rw [if_neg h]; exact y_none
def setO (l : List α) (z : Int) (v : α) : Option (List α) := match ixN l.length z with
  | some j => some (l.set j v)
  | none => none
theorem y_stxE {z : Int} {K : Fl → En → Option γ} (hm : mutB env i = true) (hs : slL env i = some (l.map en)) (hd : sto d = some (en v)) (he : ∀ l', updS env i (l'.map en) = E' l') (k : ∀ l', Le (K .nx (E' l')) (m' l') F) : Le (bx (stxE i d (.int z) env) K X) (Option.bind (setO l z v) m') F := by
  unfold setO
  cases q : ixN l.length z with
  | none => exact y_none
  | some j =>
    have : stxE i d (.int z) env = some (.ok .nx (updS env i ((l.set j v).map en))) := by
      unfold stxE
      rw [if_pos hm, hd, hs]
      simp only [List.length_map, q, List.map_set]
    rw [this, he]
    exact k _
end
/-! while -/
def whlO (c : σ → Option Bool) (f : σ → Option σ) : Nat → σ → Option σ
  | 0, _ => none
  | n + 1, s => (c s).bind fun t => if t then (f s).bind (whlO c f n) else some s
section
variable {ss b : Sts} {C K : Fl → En → Option γ}
theorem y_whl {n : Nat} (k : Le (bx (whlL (fun e => bnd (ev G c e) asB) (evSs G b) n env) (sqC G ss C X) X) m F) : Le (bx (evSs G (.cons (.whl n c b) ss) env) C X) m F := by
  rw [bx_ss1]; exact k
theorem y_whlO {n : Nat} {E : σ → En} {cs : σ → Option Bool} {f : σ → Option σ} {s0 : σ} {m' : σ → Option β} (h0 : env = E s0)
    (hc : ∀ s, Le (bx (ev G c (E s)) (fun d e => bx (asB d e) okK exK) exK) (cs s) (fun t => some (.ok t (E s))))
    (hb : ∀ s, Le (bx (evSs G b (E s)) (obs K id) (obsX X id)) (f s) (fun s' => some (.go (E s')))) (k : ∀ s, Le (K .nx (E s)) (m' s) F) :
    Le (bx (whlL (fun e => bnd (ev G c e) asB) (evSs G b) n env) K X) (Option.bind (whlO cs f n s0) m') F := by
  subst h0
  induction n generalizing s0 with
  | zero => exact y_none
  | succ n ih =>
    intro r hr
    unfold whlO at hr
    cases q : cs s0 with
    | none => rw [q] at hr; cases hr
    | some t =>
      rw [q] at hr
      have h1 := hc s0 t q
      have h1 : bnd (ev G c (E s0)) asB = some (.ok t (E s0)) := by
        rw [← bx_id (x := bnd (ev G c (E s0)) asB), bx_bnd]
        exact h1
      unfold whlL
      rw [h1, bnd_ok]
      cases t with
      | false => exact k s0 r hr
      | true =>
        have hr : Option.bind ((f s0).bind (whlO cs f n)) m' = some r := hr
        show bx (bnd (evSs G b (E s0)) _) K X = _
        cases q2 : f s0 with
        | none => rw [q2] at hr; cases hr
        | some s1 =>
          rw [q2] at hr
          have h2 := hb s0 s1 q2
          cases q3 : evSs G b (E s0) with
          | none => rw [q3] at h2; cases h2
          | some w =>
            rw [q3] at h2
            cases w with
            | exc c e2 =>
              have h2 : (X c (id e2)).map Ob.rt = some (.go (E s1)) := h2
              cases q4 : X c (id e2) <;> rw [q4] at h2 <;> cases h2
            | ok fl e2 =>
              cases fl with
              | nx => cases h2; exact ih r hr
              | ct => cases h2; exact ih r hr
              | bk => cases h2
              | rt d =>
                have h2 : (K (.rt d) (id e2)).map Ob.rt = some (.go (E s1)) := h2
                cases q4 : K (.rt d) (id e2) <;> rw [q4] at h2 <;> cases h2
end
/-! a def -/
def finC (ss : List Slot) : Fl → En → Option CR
  | .nx, e => finD .non ss e
  | .rt d, e => finD d ss e
  | _, _ => none
def finX (ss : List Slot) : Str → En → Option CR := fun c e => some (.exc c (iosOf ss e))
theorem runR_bx {ss : List Slot} {x : Option (R Fl)} : runR ss x = bx x (finC ss) (finX ss) := by
  cases x with
  | none => rfl
  | some r =>
    cases r with
    | exc c e => rfl
    | ok f e => cases f <;> rfl
theorem y_def {D : List Df} {n : Nat} {f : Str} {ss : List Slot} {d : Df} {E : En} {F : β → Option CR} (hf : D.find? (fun d => decide (d.nm = f)) = some d) (hl : ss.length = d.ps.length) (hE : ss.map some ++ List.replicate (d.N.length - ss.length) none = E)
    (k : Le (bx (evWs (callD D n) d.body E) (finC ss) (finX ss)) m F) : Le (callD D (n + 1) f ss) m F := by
  rw [callD_at hf hl, runR_bx, hE]; exact k
end
end RX
namespace RX
open PySem L2
section
variable {α β γ δ σ : Type} {F : β → Option γ} {G : Calls} {env env' : En} {i : Nat} {X : Str → En → Option γ} {K : Fl → En → Option γ}
theorem y_gen {en : α → AV} {a : α} {f : α → Option β} (k : ∀ v, Le (bx (setK i (en v) env) K X) (f v) F) : Le (bx (setK i (en a) env) K X) (Option.bind (some a) f) F := k a
theorem y_loopU {t : Tg} {bf : En → Option (R Fl)} {E E2 : σ → En} {en : α → AV} {f : σ → α → Option σ} {l : List α} {s0 : σ} {un : En → En} {m' : σ → Option β} {envL : En} (h0 : envL = E s0) (hU : ∀ s, un (E s) = E2 s)
    (hb : ∀ s x, Le (bx (turn bf t (en x) (E s)) (obs K un) (obsX X un)) (f s x) (fun s' => some (.go (E s')))) (k : ∀ s, Le (K .nx (E2 s)) (m' s) F) :
    Le (bx (mapE un (forL t bf (l.map en) envL)) K X) (Option.bind (foldO f l s0) m') F :=
  y_loop h0 hb fun s => by rw [hU]; exact k s
theorem y_loopRU {t : Tg} {bf : En → Option (R Fl)} {E E2 : σ → En} {en : α → AV} {f : σ → α → Option (Fw σ β)} {l : List α} {s0 : σ} {un : En → En} {m' : σ → Option β} {envL : En} (h0 : envL = E s0) (hU : ∀ s, un (E s) = E2 s)
    (hF : ∀ r, (F r).isSome = true) (hb : ∀ s x, Le (bx (turn bf t (en x) (E s)) (obs K un) (obsX X un)) (f s x) (FwF E F)) (k : ∀ s, Le (K .nx (E2 s)) (m' s) F) :
    Le (bx (mapE un (forL t bf (l.map en) envL)) K X) (Option.bind (foldR f l s0) (sumB m')) F :=
  y_loopR h0 hF hb fun s => by rw [hU]; exact k s
theorem y_plb {x y : AV} {env2 env3 : En} {j : Nat} {m : Option β} (hx : plB x = true) (hy : plB y = true) (h1 : asgN i x env = some env2) (h2 : asgN j y env2 = some env3) (k : Le (K .nx env3) m F) : Le (bx (plK i j x y env) K X) m F := by
  unfold plK
  rw [hx, hy, h1]
  simp only [Bool.and_self, if_true, h2]
  exact k
end
end RX
/-! RY part d: small helps; a value or None. -/
namespace RX
open PySem L2
theorem cmul_l {a b : Int} (h : decide (a.natAbs < 18446744073709551616) = true) : cMul a b = true := by
  unfold cMul; rw [h]; rfl
theorem cmul_r {a b : Int} (h : decide (b.natAbs < 18446744073709551616) = true) : cMul a b = true := by
  unfold cMul; rw [h]; simp
section
variable {α β γ : Type} {m : Option β} {F : β → Option γ} {G : Calls} {env env' : En} {e : Ex} {X : Str → En → Option γ} {K : Src → En → Option γ}
def rrgO (n : Int) : Option (List Int) := if rgOk 0 n then some ((List.range n.toNat).map fun i => (n.toNat : Int) - 1 + (i : Nat) * (-1)) else none
theorem y_iRrg (k : Le (bx (ev G e env) (fun d e1 => bx (rrgK d e1) K X) X) m F) : Le (bx (evI G (.rrg e) env) K X) m F := by
  show Le (bx (bnd (ev G e env) rrgK) K X) m F
  rw [bx_bnd]; exact k
theorem y_rrg {n : Int} {m' : List Int → Option β} (k : ∀ l, Le (K ⟨l.map AV.int, []⟩ env) (m' l) F) : Le (bx (rrgK (.int n) env) K X) (Option.bind (rrgO n) m') F := by
  unfold rrgO
  by_cases h : rgOk 0 n = true
  · rw [if_pos h]
    have : rrgK (.int n) env = some (.ok ⟨((List.range n.toNat).map fun i => (n.toNat : Int) - 1 + (i : Nat) * (-1)).map AV.int, []⟩ env) := by
      unfold rrgK
      simp only [h, if_true, List.map_map]
      rfl
    rw [this]
    exact k _
  · rw [if_neg h]; exact y_none
end
/-! a list taken out of a tuple, given back -/
theorem flLs_map {α : Type} {e : α → AV} (h : ∀ x, flL (e x) = true) : ∀ l : List α, flLs (l.map e) = true
  | [] => rfl
  | x :: l => by show (flL (e x) && flLs (l.map e)) = true; rw [h, flLs_map h l]; rfl
theorem y_finL {α β : Type} {F : β → Option CR} {ss : List Slot} {env : En} {b : β} {l : List α} {e : α → AV} (h : ∀ x, flL (e x) = true) (hio : (iosOf ss env).all flO = true) (hF : F b = some (.ok (.frs (l.map e)) (iosOf ss env))) :
    Le (finC ss (.rt (.lst true (l.map e))) env) (some b) F := by
  refine y_end ?_
  rw [hF]
  show _ = (if (flLs (l.map e) && (iosOf ss env).all flO) = true then _ else _)
  rw [flLs_map h, hio]
  rfl
/-! a value or None -/
section
variable {α β γ : Type} {m : Option β} {F : β → Option γ} {env env' : En} {i : Nat} {f f' : α → AV} {x : Option α} {X : Str → En → Option γ} {K : Fl → En → Option γ}
theorem plB_O (h : ∀ a, plB (f a) = true) (x : Option α) : plB (eO f x) = true := by
  cases x
  · rfl
  · exact h _
theorem y_setKO {d : AV} (h : slFree env[i]? = true) (h1 : plB d = true) (he : env.set i (some (.val d)) = env') (k : Le (K .nx env') m F) : Le (bx (setK i d env) K X) m F := by
  unfold setK; rw [asgN_val h h1, he]; exact k
theorem as_O (h : ∀ a, argSlot env false (f a) = some (.val (f' a))) : argSlot env false (eO f x) = some (.val (eO f' x)) := by
  cases x
  · rfl
  · exact h _
theorem op_isO (h : ∀ a, cmpO .Is env [f a, .non] = some (.bl false)) : cmpO .Is env [eO f x, .non] = some (.bl x.isNone) := by
  cases x with
  | none => rfl
  | some a => exact h a
theorem op_isNotO (h : ∀ a, cmpO .IsNot env [f a, .non] = some (.bl true)) : cmpO .IsNot env [eO f x, .non] = some (.bl x.isSome) := by
  cases x with
  | none => rfl
  | some a => exact h a
theorem rsv_O (h : ∀ a, rsv env (f a) = some (f' a)) : rsv env (eO f x) = some (eO f' x) := by
  cases x
  · rfl
  · exact h _
@[simp] theorem brIx_O2 {α β : Type} {f : α → AV} {g : β → AV} {x : Option (α × β)} {ms : List Bool} {ds : List AV} : brIx (false :: ms) (eO (eT2 f g) x :: ds) = brIx ms ds := by cases x <;> rfl
@[simp] theorem brIx_O3 {α β γ : Type} {f : α → AV} {g : β → AV} {h : γ → AV} {x : Option (α × β × γ)} {ms : List Bool} {ds : List AV} : brIx (false :: ms) (eO (eT3 f g h) x :: ds) = brIx ms ds := by cases x <;> rfl
@[simp] theorem brIx_OI {x : Option Int} {ms : List Bool} {ds : List AV} : brIx (false :: ms) (eO AV.int x :: ds) = brIx ms ds := by cases x <;> rfl
@[simp] theorem brIx_OL {α : Type} {f : α → AV} {b : Bool} {x : Option (List α)} {ms : List Bool} {ds : List AV} : brIx (false :: ms) (eO (eL b f) x :: ds) = brIx ms ds := by cases x <;> rfl
@[simp] theorem brIx_OV {α : Type} {f : α → AV} {x : Option (List α)} {ms : List Bool} {ds : List AV} : brIx (false :: ms) (eO (eV f) x :: ds) = brIx ms ds := by cases x <;> rfl
def pO (p : α → PyData) : Option α → PyData := fun x => match x with
  | none => .none
  | some a => p a
theorem dat_O [DecidableEq α] {p : α → PyData} {n : Nat} (D : Dat f p n) (h1 : ∀ a, PyData.eqv .none (p a) = false) (h2 : ∀ a, PyData.eqv (p a) .none = false) : Dat (eO f) (pO p) n where
  toP := fun x => by
    cases x
    · rfl
    · exact D.toP _
  pl := fun x => by
    cases x
    · rfl
    · exact D.pl _
  lay := fun x => by
    cases x
    · rfl
    · exact D.lay _
  dep := fun x => by
    cases x
    · exact Nat.zero_le _
    · exact D.dep _
  eqv := fun x y => by
    cases x with
    | none =>
      cases y with
      | none => simp [pO, PyData.eqv]
      | some b => show PyData.eqv .none (p b) = _; rw [h1]; simp
    | some a =>
      cases y with
      | none => show PyData.eqv (p a) .none = _; rw [h2]; simp
      | some b => show PyData.eqv (p a) (p b) = _; rw [D.eqv]; simp
end
end RX
namespace RX
theorem FwF_some {β γ σ : Type} {E : σ → En} {F : β → Option γ} (h : ∀ r, (F r).isSome = true) : ∀ r, (FwF E F r).isSome = true
  | .nx _ => rfl
  | .bk _ => rfl
  | .rt r => by
    show ((F r).map Ob.rt).isSome = true
    have := h r
    cases q : F r with
    | none => rw [q] at this; cases this
    | some x => rfl
end RX
/-! RY part e: exceptions; values of two kinds. -/
namespace RX
open PySem L2
/-- what a def gives that may raise -/
inductive Rz (β : Type) where
  | ok (b : β) | exc (c : Str)
/-- .. where an exception goes on -/
def rzB {ρ β : Type} (k : ρ → Option (Rz β)) : Rz ρ → Option (Rz β)
  | .ok a => k a
  | .exc c => some (.exc c)
/-- .. where none is awaited -/
def rzN {ρ β : Type} (k : ρ → Option β) : Rz ρ → Option β
  | .ok a => k a
  | .exc _ => none
/-- a handler -/
def tryB {σ : Type} (ys : List Str) (h : Option σ) : Rz σ → Option σ
  | .ok a => some a
  | .exc c => if ys.contains c then h else none
def RzF {β γ : Type} (F : β → Option γ) (X : Str → Option γ) : Rz β → Option γ
  | .ok b => F b
  | .exc c => X c
theorem callK_exc {c : Str} {ios : List (Option (List AV))} {ds : List AV} {env : En} : callK (some (.exc c ios)) ds env = some (.exc c (putIos env ds ios)) := rfl
section
variable {β γ ρ σ : Type} {G : Calls} {env env' : En} {K : AV → En → Option γ} {X : Str → En → Option γ} {ms : List Bool} {ds : List AV} {ss : List Slot} {f : Str} {p : Option (Rz ρ)} {J : Rz ρ → Option CR} {dv : ρ → AV} {ios : ρ → List (Option (List AV))} {ios0 : List (Option (List AV))} {E' : ρ → En}
theorem y_callX {F : Rz β → Option γ} {m' : ρ → Option (Rz β)} (ha : argsOk ms ds = true) (hs : argSlots env ms ds = some ss) (hc : Le (G f ss) p J) (hJ : ∀ r, J (.ok r) = some (.ok (dv r) (ios r))) (hE : ∀ c, J (.exc c) = some (.exc c ios0)) (hX : ∀ c, X c (putIos env ds ios0) = F (.exc c)) (he : ∀ r, putIos env ds (ios r) = E' r) (k : ∀ r, Le (K (dv r) (E' r)) (m' r) F) : Le (bx (callE G f ms ds env) K X) (Option.bind p (rzB m')) F := by
  intro b hb
  cases q : p with
  | none => rw [q] at hb; cases hb
  | some r =>
    rw [q] at hb
    cases r with
    | ok r =>
      rw [q_callE ha, hs, callS_some, hc _ q, hJ r, callK_ok, he r]
      exact k r b hb
    | exc c =>
      cases hb
      rw [q_callE ha, hs, callS_some, hc _ q, hE c, callK_exc]
      exact hX c
theorem y_callN {F : β → Option γ} {m' : ρ → Option β} (ha : argsOk ms ds = true) (hs : argSlots env ms ds = some ss) (hc : Le (G f ss) p J) (hJ : ∀ r, J (.ok r) = some (.ok (dv r) (ios r))) (he : ∀ r, putIos env ds (ios r) = E' r) (k : ∀ r, Le (K (dv r) (E' r)) (m' r) F) : Le (bx (callE G f ms ds env) K X) (Option.bind p (rzN m')) F := by
  intro b hb
  cases q : p with
  | none => rw [q] at hb; cases hb
  | some r =>
    rw [q] at hb
    cases r with
    | ok r =>
      rw [q_callE ha, hs, callS_some, hc _ q, hJ r, callK_ok, he r]
      exact k r b hb
    | exc c => cases hb
end
section
variable {β γ σ : Type} {m' : σ → Option β} {F : β → Option γ} {G : Calls} {env E0 : En} {b : Sts} {c : Str} {ys : List Str} {s : St} {K : Fl → En → Option γ} {X : Str → En → Option γ} {m : Option (Rz σ)} {h : Option σ} {J : σ → Option (R Fl)}
theorem y_rse {m : Option β} {ss : Sts} (k : Le (X c env) m F) : Le (bx (evSs G (.cons (.rse c) ss) env) K X) m F := by rw [bx_ss1]; exact k
theorem y_tryS {m : Option β} {ss : Sts} {s : St} (k : Le (bx (evS G s env) (sqC G ss K X) X) m F) : Le (bx (evSs G (.cons s ss) env) K X) m F := by rw [bx_ss1]; exact k
/-- try .. except: the body's end (J), or the handler's, which is alike -/
theorem y_trc (hJ : ∀ r, ∃ f e, J r = some (.ok f e)) (hb : Le (evSs G b env) m (RzF J fun c => some (.exc c E0))) (hh0 : Le (evSs G (.cons s .nil) E0) h J) (k : ∀ r, Le (bx (J r) K X) (m' r) F) :
    Le (bx (evS G (.trc b c ys s) env) K X) (Option.bind (Option.bind m (tryB ys h)) m') F := by
  have hh : Le (evS G s E0) h J := fun a ha => by
    have := hh0 a ha
    rw [← this]
    show _ = bnd (evS G s E0) _
    cases evS G s E0 with
    | none => rfl
    | some r =>
      cases r with
      | exc _ _ => rfl
      | ok f e => cases f <;> rfl
  intro v hv
  show bx (trcK ys (fun e => evS G s e) (evSs G b env)) K X = _
  cases q : m with
  | none => rw [q] at hv; cases hv
  | some r =>
    rw [q] at hv
    rw [hb r q]
    cases r with
    | ok a =>
      obtain ⟨f, e, ej⟩ := hJ a
      have k := k a v hv
      rw [ej] at k
      show bx (trcK ys _ (J a)) K X = _
      rw [ej]
      exact k
    | exc d =>
      have hv : Option.bind (if ys.contains d then h else none) m' = some v := hv
      show bx (if ys.contains d then evS G s E0 else none) K X = _
      by_cases hd : ys.contains d = true
      · rw [if_pos hd] at hv ⊢
        cases q2 : h with
        | none => rw [q2] at hv; cases hv
        | some a =>
          rw [q2] at hv
          rw [hh a q2]
          exact k a v hv
      · rw [if_neg hd] at hv
        cases hv
end
/-! a value of one of two kinds -/
def eU {α β : Type} (f : α → AV) (g : β → AV) : α ⊕ β → AV
  | .inl a => f a
  | .inr b => g b
@[simp] theorem eU_l {α β : Type} {f : α → AV} {g : β → AV} {a : α} : eU f g (.inl a) = f a := rfl
@[simp] theorem eU_r {α β : Type} {f : α → AV} {g : β → AV} {a : β} : eU f g (.inr a) = g a := rfl
def eT1 {α : Type} (f : α → AV) : α → AV := fun a => .tup [f a]
section
variable {α β γ : Type} {f f' : α → AV} {g g' : β → AV} {x : α ⊕ β} {env env' : En}
theorem age_U (h1 : ∀ x, age (f x) = f' x) (h2 : ∀ x, age (g x) = g' x) : ∀ x, age (eU f g x) = eU f' g' x
  | .inl a => h1 a
  | .inr b => h2 b
theorem age_T1 (h1 : ∀ x, age (f x) = f' x) : ∀ x, age (eT1 f x) = eT1 f' x := fun x => by
  show AV.tup [age (f x)] = _
  rw [h1]; rfl
theorem plB_U (h1 : ∀ a, plB (f a) = true) (h2 : ∀ a, plB (g a) = true) : ∀ x, plB (eU f g x) = true
  | .inl a => h1 a
  | .inr b => h2 b
theorem as_U (h1 : ∀ a, argSlot env false (f a) = some (.val (f' a))) (h2 : ∀ a, argSlot env false (g a) = some (.val (g' a))) : argSlot env false (eU f g x) = some (.val (eU f' g' x)) := by
  cases x
  · exact h1 _
  · exact h2 _
theorem rsv_U (h1 : ∀ a, rsv env (f a) = some (f' a)) (h2 : ∀ a, rsv env (g a) = some (g' a)) : rsv env (eU f g x) = some (eU f' g' x) := by
  cases x
  · exact h1 _
  · exact h2 _
end
/-! == of data with texts within: partial -/
structure DatE {α : Type} [DecidableEq α] (e : α → AV) (p : α → PyData) : Prop where
  toP : ∀ x, RX.toP (e x) = p x
  eqv : ∀ x y, PyData.eqv (p x) (p y) = decide (x = y)
def pT1 {α : Type} (p : α → PyData) : α → PyData := fun x => .tuple [p x]
def pU {α β : Type} (p : α → PyData) (q : β → PyData) : α ⊕ β → PyData
  | .inl a => p a
  | .inr b => q b
section
variable {α β γ δ : Type} [DecidableEq α] [DecidableEq β] [DecidableEq γ] [DecidableEq δ] {e e2 f : α → AV} {g : β → AV} {k : γ → AV} {l : δ → AV} {p : α → PyData} {q : β → PyData} {r : γ → PyData} {n : Nat} {env : En} {x y : AV}
theorem datE (D : Dat e p n) : DatE e p := ⟨D.toP, D.eqv⟩
theorem de_S : DatE AV.str PyData.str := ⟨fun _ => rfl, fun x y => by
  show (x == y) = _
  by_cases h : x = y <;> simp [h]⟩
theorem de_T1 (D : DatE f p) : DatE (eT1 f) (pT1 p) where
  toP := fun x => by show PyData.tuple [RX.toP _] = _; rw [D.toP]; rfl
  eqv := fun x y => by
    show (PyData.eqv (p x) (p y) && true) = _
    rw [D.eqv]; simp
theorem de_T2 (D1 : DatE f p) (D2 : DatE g q) : DatE (eT2 f g) (pT2 p q) where
  toP := fun x => by show PyData.tuple [RX.toP _, RX.toP _] = _; rw [D1.toP, D2.toP]; rfl
  eqv := fun x y => by
    show (PyData.eqv (p x.1) (p y.1) && (PyData.eqv (q x.2) (q y.2) && true)) = _
    rw [D1.eqv, D2.eqv]
    obtain ⟨a, b⟩ := x
    obtain ⟨c, d⟩ := y
    simp
theorem de_T3 (D1 : DatE f p) (D2 : DatE g q) (D3 : DatE k r) : DatE (eT3 f g k) (pT3 p q r) where
  toP := fun x => by show PyData.tuple [RX.toP _, RX.toP _, RX.toP _] = _; rw [D1.toP, D2.toP, D3.toP]; rfl
  eqv := fun x y => by
    show (PyData.eqv (p x.1) (p y.1) && (PyData.eqv (q x.2.1) (q y.2.1) && (PyData.eqv (r x.2.2) (r y.2.2) && true))) = _
    rw [D1.eqv, D2.eqv, D3.eqv]
    obtain ⟨a, b, c⟩ := x
    obtain ⟨a', b', c'⟩ := y
    simp
theorem de_toPs (D : DatE e p) : ∀ l : List α, toPs (l.map e) = l.map p
  | [] => rfl
  | x :: l => by show RX.toP _ :: toPs (l.map e) = _; rw [D.toP, de_toPs D l]; rfl
theorem de_eqvs (D : DatE e p) : ∀ l l' : List α, PyData.eqvAll (l.map p) (l'.map p) = decide (l = l')
  | [], [] => by simp [PyData.eqvAll]
  | [], _ :: _ => by simp [PyData.eqvAll]
  | _ :: _, [] => by simp [PyData.eqvAll]
  | x :: l, y :: l' => by
    show (PyData.eqv (p x) (p y) && PyData.eqvAll (l.map p) (l'.map p)) = _
    rw [D.eqv, de_eqvs D l l']
    simp
theorem de_V (D : DatE e p) : DatE (eV e) (pV p) where
  toP := fun l => by show PyData.tuple (toPs (l.map e)) = _; rw [de_toPs D]; rfl
  eqv := fun l l' => de_eqvs D l l'
theorem de_L {b : Bool} (D : DatE e p) : DatE (eL b e) (pL p) where
  toP := fun l => by show PyData.list (toPs (l.map e)) = _; rw [de_toPs D]; rfl
  eqv := fun l l' => de_eqvs D l l'
theorem de_U (D1 : DatE f p) (D2 : DatE g q) (h1 : ∀ a b, PyData.eqv (p a) (q b) = false) (h2 : ∀ a b, PyData.eqv (q b) (p a) = false) : DatE (eU f g) (pU p q) where
  toP := fun x => by
    cases x
    · exact D1.toP _
    · exact D2.toP _
  eqv := fun x y => by
    cases x with
    | inl a =>
      cases y with
      | inl b => show PyData.eqv (p a) (p b) = _; rw [D1.eqv]; simp
      | inr b => show PyData.eqv (p a) (q b) = _; rw [h1]; simp
    | inr a =>
      cases y with
      | inl b => show PyData.eqv (q a) (p b) = _; rw [h2]; simp
      | inr b => show PyData.eqv (q a) (q b) = _; rw [D2.eqv]; simp
/-- u == v, where both are fit to be compared -/
def eqP (e e2 : α → AV) (u v : α) : Option Bool := if okE (e u) && okE (e2 v) then some (decide (u = v)) else none
theorem op_eqP {u v : α} (D : DatE e p) (D2 : DatE e2 p) (h1 : rsv env x = some (e u)) (h2 : rsv env y = some (e2 v)) : ∀ b, eqP e e2 u v = some b → cmpO .Eq env [x, y] = some (.bl b) := by
  intro b hb
  unfold eqP at hb
  show oEqN false env [x, y] = _
  unfold oEqN
  simp only [h1, h2, Bool.false_eq_true, if_false]
  split at hb
  · rename_i hk
    cases hb
    rw [if_pos hk]
    unfold eqA
    rw [D.toP, D2.toP, D.eqv]
  · cases hb
theorem op_neP {u v : α} (D : DatE e p) (D2 : DatE e2 p) (h1 : rsv env x = some (e u)) (h2 : rsv env y = some (e2 v)) : ∀ b, eqP e e2 u v = some b → cmpO .NotEq env [x, y] = some (.bl (!b)) := by
  intro b hb
  unfold eqP at hb
  show oEqN true env [x, y] = _
  unfold oEqN
  simp only [h1, h2, if_true]
  split at hb
  · rename_i hk
    cases hb
    rw [if_pos hk]
    unfold eqA
    rw [D.toP, D2.toP, D.eqv]
  · cases hb
end
end RX
/-! RY part f: values of two kinds, tests that change something. -/
namespace RX
open PySem L2
theorem op_U {α β γ : Type} {f : α → AV} {g : β → AV} {v : α ⊕ β} {op : En → List AV → Option AV} {env : En} {k : AV} {en : γ → AV} {p : α → γ} {q : β → γ} (h1 : ∀ a, op env [f a, k] = some (en (p a))) (h2 : ∀ b, op env [g b, k] = some (en (q b))) : op env [eU f g v, k] = some (en (Sum.elim p q v)) := by
  cases v
  · exact h1 _
  · exact h2 _
@[simp] theorem brIx_U21 {α β γ : Type} {f : α → AV} {g : β → AV} {k : γ → AV} {x : α × β ⊕ γ} {ms : List Bool} {ds : List AV} : brIx (false :: ms) (eU (eT2 f g) (eT1 k) x :: ds) = brIx ms ds := by cases x <;> rfl
end RX
namespace RX
open PySem L2
section
variable {β γ σ : Type} {t : Bool} {x : Option (R AV)} {p : Option σ} {m' : σ → Option β} {F : β → Option γ} {env : En} {K : AV → En → Option γ} {X : Str → En → Option γ} {J : σ → Option (R AV)}
/-- 'or', 'and' whose second part changes something -/
theorem y_orS (s0 : σ) (h0 : some (.ok (.bl true) env) = J s0) (h : t = false → Le x p J) (k : ∀ s, Le (bx (J s) K X) (m' s) F) : Le (if t then K (.bl true) env else bx x K X) (Option.bind (if t then some s0 else p) m') F := by
  cases t
  · intro b hb
    have hb : Option.bind p m' = some b := hb
    cases q : p with
    | none => rw [q] at hb; cases hb
    | some s =>
      rw [q] at hb
      show bx x K X = _
      rw [h rfl s q]
      exact k s b hb
  · have := k s0
    rw [← h0] at this
    exact this
theorem y_andS (s0 : σ) (h0 : some (.ok (.bl false) env) = J s0) (h : t = true → Le x p J) (k : ∀ s, Le (bx (J s) K X) (m' s) F) : Le (if t then bx x K X else K (.bl false) env) (Option.bind (if t then p else some s0) m') F := by
  cases t
  · have := k s0
    rw [← h0] at this
    exact this
  · intro b hb
    have hb : Option.bind p m' = some b := hb
    cases q : p with
    | none => rw [q] at hb; cases hb
    | some s =>
      rw [q] at hb
      show bx x K X = _
      rw [h rfl s q]
      exact k s b hb
end
end RX
namespace RX
open PySem L2
/-- an error of the class t, where S is named -/
theorem exm_of {K : PySem.W.Frag} {t : Value} {S : Addr} {b : Bool} (h1 : PySem.W.subIn K (.ref S) (.type "BaseException") = some true) (h2 : PySem.W.isClsIn K S = true) (h3 : PySem.W.typeIn K (.ref S) = some (.type "type")) (h4 : PySem.W.subIn K t (.ref S) = some b) :
    PySem.W.exmOne K t (.ref S) = some b := by
  have h2' : (PySem.W.clsIn K S).isSome = true := h2
  unfold PySem.W.exmOne PySem.W.kitCls
  simp only [h1, h2', h3]
  exact h4
end RX
/-! RY part g: rules for what came with the third layer. -/
namespace RX
open PySem L2
section
variable {β γ α : Type} {m : Option β} {F : β → Option γ} {G : Calls} {env env' : En} {a e k l b : Ex} {es : Exs} {i j : Nat} {d : AV} {K : AV → En → Option γ} {X : Str → En → Option γ} {C : Fl → En → Option γ} {ss : Sts} {ws : Wts}
theorem y_rvs (h : Le (bx (ev G a env) (fun x e1 => bx (lift oRvs [x] e1) K X) X) m F) : Le (bx (ev G (.rvs a) env) K X) m F := by
  show Le (bx (bnd (ev G a env) fun x e1 => lift oRvs [x] e1) K X) m F
  rw [bx_bnd]; exact h
theorem op_rvs {en : α → AV} {l : List α} (h : asL env d = some (l.map en)) : oRvs env [d] = some (.frs (l.reverse.map en)) := by
  unfold oRvs
  simp only [h, List.map_reverse]
theorem y_isx {ts : List (Str × Bool)} (h : Le (bx (ev G a env) (fun x e1 => bx (lift (oIsx ts) [x] e1) K X) X) m F) : Le (bx (ev G (.isx a ts) env) K X) m F := by
  show Le (bx (bnd (ev G a env) fun x e1 => lift (oIsx ts) [x] e1) K X) m F
  rw [bx_bnd]; exact h
def isxO (ts : List (Str × Bool)) (c : Str) : Option Bool := ts.lookup c
theorem op_isx {ts : List (Str × Bool)} {c : Str} : ∀ v, isxO ts c = some v → oIsx ts env [.exo c] = some (.bl v) := fun v h => by
  unfold oIsx
  have h : ts.lookup c = some v := h
  simp only [h]
/-- a def's value called -/
theorem y_fcl {fs : List Str} {ms : List Bool} (h : Le (bx (ev G a env) (fun x e1 => bx (match fnN fs x with | some f => bnd (evs G es e1) fun ds e2 => callE G f ms ds e2 | none => none) K X) X) m F) : Le (bx (ev G (.fcl fs a ms es) env) K X) m F := by
  show Le (bx (bnd (ev G a env) fun x e1 => match fnN fs x with | some f => bnd (evs G es e1) fun ds e2 => callE G f ms ds e2 | none => none) K X) m F
  rw [bx_bnd]; exact h
theorem y_bindJ {δ : Type} {x : Option (R AV)} {p : Option δ} {m' : δ → Option β} {J : δ → Option (R AV)} (h : Le x p J) (k : ∀ r, Le (bx (J r) K X) (m' r) F) : Le (bx x K X) (Option.bind p m') F := by
  intro b hb
  cases q : p with
  | none => rw [q] at hb; cases hb
  | some r =>
    rw [q] at hb
    rw [h r q]
    exact k r b hb
theorem y_fc1 {δ : Type} {fs : List Str} {ms : List Bool} {q f : Str} {p1 p2 : Option δ} {J : δ → Option (R AV)} (hf : f ∈ fs) (h1 : Le (bnd (evs G es env) fun ds e2 => callE G f ms ds e2) p1 J)
    (h2 : Le (match fnN fs (.fn q) with | some f => bnd (evs G es env) fun ds e2 => callE G f ms ds e2 | none => none) p2 J) :
    Le (match fnN fs (.fn q) with | some f => bnd (evs G es env) fun ds e2 => callE G f ms ds e2 | none => none) (if q = f then p1 else p2) J := by
  by_cases e : q = f
  · subst e
    rw [if_pos rfl]
    have : fnN fs (.fn q) = some q := by unfold fnN; simp only; rw [if_pos hf]
    rw [this]
    exact h1
  · rw [if_neg e]; exact h2
theorem y_fcA {ms : List Bool} {f : Str} {p : Option α} {J : α → Option (R AV)} (h : Le (bx (evs G es env) (fun ds e1 => bx (callE G f ms ds e1) okK exK) exK) p J) : Le (bnd (evs G es env) fun ds e2 => callE G f ms ds e2) p J := by
  refine y_in ?_
  rw [bx_bnd]
  exact h
theorem y_fcK {fs : List Str} {ms : List Bool} {q f : Str} (hf : fnN fs (.fn q) = some f) (h : Le (bx (evs G es env) (fun ds e1 => bx (callE G f ms ds e1) K X) X) m F) :
    Le (bx (match fnN fs (.fn q) with | some f => bnd (evs G es env) fun ds e2 => callE G f ms ds e2 | none => none) K X) m F := by
  rw [hf]
  show Le (bx (bnd (evs G es env) fun ds e2 => callE G f ms ds e2) K X) m F
  rw [bx_bnd]; exact h
/-! two places at once -/
def swK (G : Calls) (i : Nat) (k l : Ex) (x y : AV) (e2 : En) : Option (R Fl) := swI x y fun u v =>
      if mutB e2 i then bnd (ev G k e2) fun kk e3 => bnd (stxE i u kk e3) fun _ e4 => if mutB e4 i then bnd (ev G l e4) fun ll e5 => stxE i v ll e5 else none else none
theorem y_swp (h : Le (bx (ev G a env) (fun x e1 => bx (ev G b e1) (fun y e2 => bx (swK G i k l x y e2) (sqC G ss C X) X) X) X) m F) : Le (bx (evSs G (.cons (.swp i k l a b) ss) env) C X) m F := by
  rw [bx_ss1]
  show Le (bx (bnd (ev G a env) fun x e1 => bnd (ev G b e1) fun y e2 => swK G i k l x y e2) (sqC G ss C X) X) m F
  rw [bx_bnd]
  simp only [bx_bnd]
  exact h
theorem y_swI {u v : Int} {K : Fl → En → Option γ} (hm : mutB env i = true) (h : Le (bx (ev G k env) (fun kk e3 => bx (stxE i (.int u) kk e3) (fun _ e4 => bx (if mutB e4 i then bnd (ev G l e4) fun ll e5 => stxE i (.int v) ll e5 else none) K X) X) X) m F) : Le (bx (swK G i k l (.int u) (.int v) env) K X) m F := by
  unfold swK swI
  simp only
  rw [if_pos hm, bx_bnd]
  simp only [bx_bnd]
  exact h
/-! try .. except as -/
/-- how it goes on: all went well; or the class of what was caught -/
def rzC {σ β : Type} (ys : List Str) (k1 : σ → Option β) (k2 : Str → Option β) : Rz σ → Option β
  | .ok a => k1 a
  | .exc c => if ys.contains c then k2 c else none
theorem y_trA {σ : Type} {cn : Str} {ys : List Str} {bd : Sts} {mm : Option (Rz σ)} {E : σ → En} {E0 : En} {E2 : Str → En} {f1 : σ → Option β} {f2 : Str → Option β} (hb : Le (evSs G bd env) mm (RzF (fun x => some (.ok .nx (E x))) fun c => some (.exc c E0))) (hw : wipB E0 j = true) (hij : i ≠ j)
    (ha : ∀ c, asgN i (.exo c) (wipeE E0 [j]) = some (E2 c)) (k1 : ∀ x, Le (bx (evSs G ss (E x)) C X) (f1 x) F) (k2 : ∀ c, Le (bx (evSs G ss (E2 c)) C X) (f2 c) F) : Le (bx (evSs G (.cons (.trA bd cn ys i j) ss) env) C X) (Option.bind mm (rzC ys f1 f2)) F := by
  rw [bx_ss1]
  show Le (bx (trAK ys i j (evSs G bd env)) (sqC G ss C X) X) _ _
  intro r hr
  cases q : mm with
  | none => rw [q] at hr; cases hr
  | some w =>
    rw [q] at hr
    rw [hb w q]
    cases w with
    | ok x => exact k1 x r hr
    | exc c =>
      have hr : (if ys.contains c then f2 c else none) = some r := hr
      split at hr
      · rename_i hc
        show bx (trAK ys i j (some (.exc c E0))) _ _ = _
        unfold trAK
        simp only [hc, hw, decide_eq_true hij, Bool.and_self, if_true, ha]
        exact k2 c r hr
      · cases hr
theorem y_ifT {Y Z : Option γ} (h : Le Y m F) : Le (if true = true then Y else Z) m F := by rw [if_pos rfl]; exact h
theorem y_ifF {Y Z : Option γ} (h : Le Z m F) : Le (if false = true then Y else Z) m F := by rw [if_neg Bool.false_ne_true]; exact h
theorem y_inl {α' β' : Type} {Y : Option γ} {a : α'} {f : α' → Option β} {h : β' → Option β} (k : Le Y (f a) F) : Le Y (Sum.elim f h (.inl a)) F := k
theorem y_inr {α' β' : Type} {Y : Option γ} {a : β'} {f : α' → Option β} {h : β' → Option β} (k : Le Y (h a) F) : Le Y (Sum.elim f h (.inr a)) F := k
def sgO (z : Str) (i : Int) : Option Str := if lenOk z.length then (atI z.cps.toList i).map fun c => ⟨#[c]⟩ else none
theorem op_sg {z : Str} {i : Int} : ∀ v, sgO z i = some v → oIx env [.str z, .int i] = some (.str v) := fun v h => by
  unfold sgO at h
  unfold oIx
  simp only
  split at h
  · rename_i hl
    rw [if_pos hl]
    cases e : atI z.cps.toList i with
    | none => rw [e] at h; cases h
    | some c => rw [e] at h; cases h; rfl
  · cases h
/-! statements at the top -/
def sqW (G : Calls) (ws : Wts) (C : Fl → En → Option γ) (X : Str → En → Option γ) : Fl → En → Option γ := fun f e => match f with
  | .nx => bx (evWs G ws e) C X
  | f => C f e
theorem bx_ws1 {s : Wt} : bx (evWs G (.cons s ws) env) C X = bx (evW G s env) (sqW G ws C X) X := by
  show bx (bnd (evW G s env) _) C X = _
  rw [bx_bnd]
  congr 1
  funext f e
  cases f <;> rfl
theorem y_wst {s : St} (h : Le (bx (evSs G (.cons s .nil) env) (sqW G ws C X) X) m F) : Le (bx (evWs G (.cons (.st s) ws) env) C X) m F := by
  rw [bx_ws1]
  show Le (bx (evS G s env) _ X) m F
  have : bx (evSs G (.cons s .nil) env) (sqW G ws C X) X = bx (evS G s env) (sqW G ws C X) X := by
    rw [bx_ss1]
    congr 1
    funext f e
    cases f <;> rfl
  rw [← this]
  exact h
theorem y_wnx (h : Le (bx (evWs G ws env) C X) m F) : Le (sqW G ws C X .nx env) m F := h
theorem y_wall (h : Le (bx (evSs G ss env) C X) m F) : Le (bx (evWs G (.all ss) env) C X) m F := h
theorem y_wnil (h : Le (C .nx env) m F) : Le (bx (evWs G .nil env) C X) m F := h
theorem y_wwip {is : List Nat} (hw : is.all (wipB env) = true) (he : wipeE env is = env') (k : Le (bx (evWs G ws env') C X) m F) : Le (bx (evWs G (.wip is ws) env) C X) m F := by
  show Le (bx (if is.all (wipB env) then evWs G ws (wipeE env is) else none) C X) m F
  rw [hw, if_pos rfl, he]; exact k
theorem y_jnk (hv : vwS (env.getD j none) = true) (he : updJ j jnkS env = env') (k : Le (bx (evWs G ws env') C X) m F) : Le (bx (evWs G (.jnk j ws) env) C X) m F := by
  show Le (bx (if vwS (env.getD j none) then evWs G ws (updJ j jnkS env) else none) C X) m F
  rw [hv, if_pos rfl, he]; exact k
theorem y_wifs {c : Ex} {wa wb : Wts} (k : Le (bx (ev G c env) (fun d e1 => bx (asB d e1) (fun t e2 => if t then bx (evWs G wa e2) (sqW G ws C X) X else bx (evWs G wb e2) (sqW G ws C X) X) X) X) m F) : Le (bx (evWs G (.cons (.ifs c wa wb) ws) env) C X) m F := by
  rw [bx_ws1]
  show Le (bx (bnd (bnd (ev G c env) asB) fun t e1 => if t then evWs G wa e1 else evWs G wb e1) _ X) m F
  rw [bx_bnd, bx_bnd]; simp only [bx_if]; exact k
def wforK (G : Calls) (t : Tg) (wb : Wts) (d : AV) (e1 : En) : Option (R Fl) := match d with
    | .int n => if rgOk 0 n then forL t (evWs G wb) (rgL 0 n) e1 else none
    | _ => none
theorem y_wfor {t : Tg} {wb : Wts} (k : Le (bx (ev G e env) (fun d e1 => bx (wforK G t wb d e1) (sqW G ws C X) X) X) m F) : Le (bx (evWs G (.cons (.forR t e wb) ws) env) C X) m F := by
  rw [bx_ws1]
  show Le (bx (bnd (ev G e env) fun d e1 => wforK G t wb d e1) _ X) m F
  rw [bx_bnd]; exact k
theorem y_wrg {t : Tg} {wb : Wts} {n : Int} {K : Fl → En → Option γ} {m' : List Int → Option β} (k : ∀ l, Le (bx (mapE (fun e => e) (forL t (evWs G wb) (l.map AV.int) env)) K X) (m' l) F) : Le (bx (wforK G t wb (.int n) env) K X) (Option.bind (rgO 0 n) m') F := by
  unfold rgO wforK
  simp only
  by_cases h : rgOk 0 n = true
  · rw [if_pos h, if_pos h, rgL_eq]
    have e : ∀ x : Option (R Fl), mapE (fun e => e) x = x := fun x => by
      cases x with
      | none => rfl
      | some r => cases r <;> rfl
    have := k (upto 0 n)
    rw [e] at this
    exact this
  · rw [if_neg h, if_neg h]; exact y_none
def jmK (G : Calls) (mt : Mt) (j : Nat) (es : Exs) (d : AV) (e1 : En) : Option (R Fl) := match jkN d with
    | some n => bnd (evs G es e1) fun ds e2 => jmE mt n j ds e2
    | none => none
theorem y_jm {mt : Mt} (k : Le (bx (ev G a env) (fun d e1 => bx (jmK G mt j es d e1) (sqW G ws C X) X) X) m F) : Le (bx (evWs G (.cons (.jm mt j a es) ws) env) C X) m F := by
  rw [bx_ws1]
  show Le (bx (bnd (ev G a env) fun d e1 => jmK G mt j es d e1) _ X) m F
  rw [bx_bnd]; exact k
theorem y_jm1 {mt : Mt} {n : Nat} {K : Fl → En → Option γ} (k : Le (bx (evs G es env) (fun ds e2 => bx (jmE mt n j ds e2) K X) X) m F) : Le (bx (jmK G mt j es (.jk true n) env) K X) m F := by
  show Le (bx (bnd (evs G es env) fun ds e2 => jmE mt n j ds e2) K X) m F
  rw [bx_bnd]; exact k
theorem y_jmC {n : Nat} {K : Fl → En → Option γ} (hj : okJ j env = true) (k : Le (K .nx env) m F) : Le (bx (jmE .clr n j [] env) K X) m F := by
  unfold jmE; rw [if_pos hj]; exact k
theorem y_jmR {n : Nat} {K : Fl → En → Option γ} (hj : okJ j env = true) (k : Le (K .nx env) m F) : Le (bx (jmE .rev n j [] env) K X) m F := by
  unfold jmE; rw [if_pos hj]; exact k
def szO (n : Nat) : Option Unit := if n < sizeLine then some () else none
theorem y_jmA {n : Nat} {K : Fl → En → Option γ} {m' : Unit → Option β} (hj : okJ j env = true) (hv : vwS (env.getD j none) = true) (he : updJ j bumS env = env') (k : ∀ u, Le (K .nx env') (m' u) F) : Le (bx (jmE .app n j [d] env) K X) (Option.bind (szO n) m') F := by
  unfold szO jmE
  by_cases h : n < sizeLine
  · rw [if_pos h, if_pos hj, decide_eq_true h, hv, he]; exact k ()
  · rw [if_neg h]; exact y_none
theorem y_clrs {w : Bool} {ns : List Nat} (he : env[i]? = some (some (.own w (ns.map (AV.jk true))))) (hj : okJ i (env.set j none) = true) (hw : wipB env j = true) (hij : i ≠ j) (hl : j < env.length) (hE : env.set j none = env') (k : Le (bx (evWs G ws env') C X) m F) : Le (bx (evWs G (.cons (.clrs i j) ws) env) C X) m F := by
  rw [bx_ws1]
  show Le (bx (match env[i]? with | some (some (.own _ xs)) => if xs.all isJk && okJ i (env.set j none) && wipB env j && decide (i ≠ j) && decide (j < env.length) then some (R.ok Fl.nx (env.set j none)) else none | _ => none) _ X) m F
  rw [he]
  have hx : (ns.map (AV.jk true)).all isJk = true := by
    induction ns with
    | nil => rfl
    | cons n ns ih => simpa [isJk] using ih
  simp only [hx, hj, hw, decide_eq_true hij, decide_eq_true hl, Bool.and_self, if_true]
  rw [hE]
  exact k
/-- a thing is put behind a list of which nothing is wanted any more -/
theorem y_apw {xs : List AV} {w : Bool} {d' : AV} {m' : Unit → Option β} (he : env[i]? = some (some (.own w xs))) (hd : sto d = some d') (hE : env.set i none = env') (k : ∀ u, Le (bx (evSs G ss env') C X) (m' u) F) :
    Le (bx (mthE .app i [d] env) (fun _ e1 => bx (evSs G (.wip [i] ss) e1) C X) X) (Option.bind (szO xs.length) m') F := by
  unfold szO
  by_cases h : xs.length < sizeLine
  · rw [if_pos h]
    have h1 : mutB env i = true := by unfold mutB; rw [he]
    have h2 : slL env i = some xs := by unfold slL; rw [he]
    have h3 : updS env i (xs ++ [d']) = env.set i (some (.own w (xs ++ [d']))) := by unfold updS; rw [he]
    have h4 : mthE .app i [d] env = some (.ok .non (env.set i (some (.own w (xs ++ [d']))))) := by
      unfold mthE
      rw [if_pos h1, h2]
      simp only [mthL, hd, if_pos h, h3]
    rw [h4]
    show Le (bx (evSs G (.wip [i] ss) _) C X) _ F
    have hl : i < env.length := (List.getElem?_eq_some_iff.mp he).1
    refine y_wip (env' := env') ?_ ?_ (k ())
    · simp only [List.all_cons, List.all_nil, Bool.and_true]
      unfold wipB
      rw [List.getElem?_set_self hl]
    · show (env.set i (some (.own w (xs ++ [d'])))).set i none = env'
      rw [List.set_set]
      exact hE
  · rw [if_neg h]; exact y_none
end
/-! how many unlike ones -/
def lseO (l : List Int) : Option Int := if l.length ≤ 4000 then some (ddN l : Nat) else none
theorem y_lse {β γ : Type} {m : Option β} {F : β → Option γ} {G : Calls} {env : En} {a : Ex} {K : AV → En → Option γ} {X : Str → En → Option γ} (h : Le (bx (ev G a env) (fun x e1 => bx (lift oLse [x] e1) K X) X) m F) : Le (bx (ev G (.lse a) env) K X) m F := by
  show Le (bx (bnd (ev G a env) fun x e1 => lift oLse [x] e1) K X) m F
  rw [bx_bnd]; exact h
theorem op_lse {env : En} {d : AV} {l : List Int} (h : asL env d = some (l.map AV.int)) : ∀ v, lseO l = some v → oLse env [d] = some (.int v) := fun v hv => by
  unfold lseO at hv
  unfold oLse
  simp only [h, ints?_ints]
  split at hv
  · rename_i hl
    cases hv
    rw [if_pos hl]
  · cases hv
/-! what is free of lists -/
@[simp] theorem nlA_int {i : Int} : nlA (.int i) = true := rfl
@[simp] theorem nlA_bl {i : Bool} : nlA (.bl i) = true := rfl
@[simp] theorem nlA_str {i : Str} : nlA (.str i) = true := rfl
@[simp] theorem nlA_non : nlA .non = true := rfl
@[simp] theorem nlA_jk {w : Bool} {i : Nat} : nlA (.jk w i) = true := rfl
@[simp] theorem nlA_exo {i : Str} : nlA (.exo i) = true := rfl
@[simp] theorem nlA_tup {xs : List AV} : nlA (.tup xs) = nlAs xs := rfl
@[simp] theorem njA_int {i : Int} : njA (.int i) = true := rfl
@[simp] theorem njA_bl {i : Bool} : njA (.bl i) = true := rfl
@[simp] theorem njA_str {i : Str} : njA (.str i) = true := rfl
@[simp] theorem njA_non : njA .non = true := rfl
@[simp] theorem njA_exo {i : Str} : njA (.exo i) = true := rfl
@[simp] theorem njA_tup {xs : List AV} : njA (.tup xs) = njAs xs := rfl
@[simp] theorem nlAs_map {α : Type} {e : α → AV} {l : List α} (h : ∀ a, nlA (e a) = true) : nlAs (l.map e) = true := by
  induction l with
  | nil => rfl
  | cons x l ih =>
    show (nlA (e x) && nlAs (l.map e)) = true
    rw [h, ih]; rfl
@[simp] theorem njAs_map {α : Type} {e : α → AV} {l : List α} (h : ∀ a, njA (e a) = true) : njAs (l.map e) = true := by
  induction l with
  | nil => rfl
  | cons x l ih =>
    show (njA (e x) && njAs (l.map e)) = true
    rw [h, ih]; rfl
theorem nlA_O {α : Type} {e : α → AV} {x : Option α} (h : ∀ a, nlA (e a) = true) : nlA (eO e x) = true := by
  cases x
  · rfl
  · exact h _
theorem njA_O {α : Type} {e : α → AV} {x : Option α} (h : ∀ a, njA (e a) = true) : njA (eO e x) = true := by
  cases x
  · rfl
  · exact h _
theorem nlA_U {α β : Type} {e : α → AV} {f : β → AV} {x : α ⊕ β} (h : ∀ a, nlA (e a) = true) (k : ∀ a, nlA (f a) = true) : nlA (eU e f x) = true := by
  cases x
  · exact h _
  · exact k _
theorem njA_U {α β : Type} {e : α → AV} {f : β → AV} {x : α ⊕ β} (h : ∀ a, njA (e a) = true) (k : ∀ a, njA (f a) = true) : njA (eU e f x) = true := by
  cases x
  · exact h _
  · exact k _
theorem nlA_OI {x : Option Int} : nlA (eO AV.int x) = true := nlA_O fun _ => rfl
theorem njA_OI {x : Option Int} : njA (eO AV.int x) = true := njA_O fun _ => rfl
@[simp] theorem nlAs_ints {l : List Int} : nlAs (l.map AV.int) = true := nlAs_map fun _ => rfl
@[simp] theorem njAs_ints {l : List Int} : njAs (l.map AV.int) = true := njAs_map fun _ => rfl
@[simp] theorem nlAs_bls {l : List Bool} : nlAs (l.map AV.bl) = true := nlAs_map fun _ => rfl
@[simp] theorem njAs_bls {l : List Bool} : njAs (l.map AV.bl) = true := njAs_map fun _ => rfl
@[simp] theorem nlAs_strs {l : List Str} : nlAs (l.map AV.str) = true := nlAs_map fun _ => rfl
@[simp] theorem njAs_strs {l : List Str} : njAs (l.map AV.str) = true := njAs_map fun _ => rfl
@[simp] theorem nlAs_jks {l : List Nat} : nlAs (l.map (AV.jk true)) = true := nlAs_map fun _ => rfl
@[simp] theorem nlAs_jkl {α : Type} {l : List (List α)} : nlAs (l.map (AV.jk true ∘ List.length)) = true := nlAs_map fun _ => rfl
theorem jnkAs_map {α : Type} {e : α → AV} {l : List (List α)} : jnkAs (l.map (eL true e)) = (l.map List.length).map (AV.jk true) := by
  induction l with
  | nil => rfl
  | cons x l ih =>
    show AV.jk true (x.map e).length :: jnkAs (l.map (eL true e)) = _
    rw [ih, List.length_map]; rfl
theorem bumAs_map {l : List Nat} : bumAs (l.map (AV.jk true)) = (l.map (· + 1)).map (AV.jk true) := by
  induction l with
  | nil => rfl
  | cons x l ih =>
    show AV.jk true (x + 1) :: bumAs (l.map (AV.jk true)) = _
    rw [ih]; rfl
end RX
namespace RX
open PySem L2
theorem kitO_of {K : PySem.W.Frag} {D S : Addr} {b : Bool} (h2 : PySem.W.isClsIn K S = true) (h3 : PySem.W.typeIn K (.ref S) = some (.type "type")) (h4 : PySem.W.subIn K (.ref D) (.ref S) = some b) (hr : PySem.W.subIn K (.ref S) (.ref S) = some true) :
    PySem.W.kitOne K (.ref D) (.ref S) = some b := by
  have h2' : (PySem.W.clsIn K S).isSome = true := h2
  unfold PySem.W.kitOne PySem.W.kitCls
  simp only [h2', h3]
  split
  · rename_i e
    have e := eq_of_beq e
    rw [e, hr] at h4
    exact h4
  · exact h4
theorem kitV_of {K : PySem.W.Frag} {S : Addr} (h : PySem.W.subIn K (.ref S) (.type "ValueError") = some true) : PySem.W.kitOne K (.ref S) (.type "ValueError") = some true := by
  have hm : PySem.W.kitMeta "ValueError" = true := by decide +kernel
  unfold PySem.W.kitOne PySem.W.kitCls
  simp only [hm, if_true]
  split
  · rfl
  · exact h
end RX
namespace RX
open PySem L2
section
variable {α β γ δ : Type} [DecidableEq α] [DecidableEq β] [DecidableEq γ] [DecidableEq δ] {f : α → AV} {g : β → AV} {k : γ → AV} {l : δ → AV} {p : α → PyData} {q : β → PyData} {r : γ → PyData} {t : δ → PyData}
def pT4 (p : α → PyData) (q : β → PyData) (r : γ → PyData) (t : δ → PyData) : α × β × γ × δ → PyData := fun x => .tuple [p x.1, q x.2.1, r x.2.2.1, t x.2.2.2]
theorem de_T4 (D1 : DatE f p) (D2 : DatE g q) (D3 : DatE k r) (D4 : DatE l t) : DatE (eT4 f g k l) (pT4 p q r t) where
  toP := fun x => by show PyData.tuple [RX.toP _, RX.toP _, RX.toP _, RX.toP _] = _; rw [D1.toP, D2.toP, D3.toP, D4.toP]; rfl
  eqv := fun x y => by
    show (PyData.eqv (p x.1) (p y.1) && (PyData.eqv (q x.2.1) (q y.2.1) && (PyData.eqv (r x.2.2.1) (r y.2.2.1) && (PyData.eqv (t x.2.2.2) (t y.2.2.2) && true)))) = _
    rw [D1.eqv, D2.eqv, D3.eqv, D4.eqv]
    obtain ⟨a, b, c, d⟩ := x
    obtain ⟨a', b', c', d'⟩ := y
    simp
end
/-- a tuple so many times -/
def mulV_ {α : Type} (l : List α) (k : Int) : Option (List α) := if decide (l ≠ [] ∧ 2 ≤ k ∧ k ≤ 1000 ∧ l.length ≤ 1000) then some (List.replicate k.toNat l).flatten else none
theorem op_mulV_ {α : Type} {env : En} {e : α → AV} {l : List α} {k : Int} : ∀ v, mulV_ l k = some v → binO .mul env [eV e l, .int k] = some (eV e v) := fun v h => by
  unfold mulV_ at h
  split at h
  · rename_i hc
    cases h
    simp only [decide_eq_true_eq] at hc
    obtain ⟨h1, h2, h3, h4⟩ := hc
    show (if decide (l.map e ≠ []) && decide (2 ≤ k) && decide (k ≤ 1000) && decide ((l.map e).length ≤ 1000) then some (AV.tup (List.replicate k.toNat (l.map e)).flatten) else none) = _
    have h0 : l.map e ≠ [] := fun z => h1 (List.map_eq_nil_iff.mp z)
    rw [decide_eq_true h0, decide_eq_true h2, decide_eq_true h3, List.length_map, decide_eq_true h4]
    show some (AV.tup _) = some (AV.tup _)
    rw [map_flat]
  · cases h
end RX
/-! a truth or a text in a list -/
namespace RX
open PySem L2
section
variable {α : Type} [DecidableEq α] {e : α → AV} {g : α → V} {y : AV} {env : En}
theorem flAs_F (hf : ∀ a, flA (e a) = some (g a)) : ∀ l : List α, flAs (l.map e) = some (l.map g)
  | [] => rfl
  | x :: l => by
    rw [List.map_cons, List.map_cons]
    unfold flAs
    rw [hf, flAs_F hf l]
theorem inV_F (he : ∀ a b, eqV (g a) (g b) = decide (a = b)) (u : α) : ∀ l : List α, inV (g u) (l.map g) = decide (u ∈ l)
  | [] => by simp [inV]
  | x :: l => by
    show (eqV (g x) (g u) || inV (g u) (l.map g)) = _
    rw [inV_F he u l, he]
    by_cases h : u = x
    · subst h; simp
    · have h' : ¬ x = u := fun z => h z.symm
      simp [h, h']
theorem oInF_F (b : Bool) (hf : ∀ a, flA (e a) = some (g a)) (he : ∀ a b, eqV (g a) (g b) = decide (a = b)) {u : α} {l : List α} (h : asS env y = some (l.map e)) : oInF b env [e u, y] = some (.bl (if b then !decide (u ∈ l) else decide (u ∈ l))) := by
  unfold oInF
  simp only [hf, h, flAs_F hf, inV_F he]
theorem op_inFx (hf : ∀ a, flA (e a) = some (g a)) (he : ∀ a b, eqV (g a) (g b) = decide (a = b)) {u : α} {l : List α} (h : asS env y = some (l.map e)) : cmpO .In env [e u, y] = some (.bl (decide (u ∈ l))) := by
  show orO (oInF false) _ env [e u, y] = _
  unfold orO
  rw [oInF_F false hf he h]
  rfl
theorem op_notInFx (hf : ∀ a, flA (e a) = some (g a)) (he : ∀ a b, eqV (g a) (g b) = decide (a = b)) {u : α} {l : List α} (h : asS env y = some (l.map e)) : cmpO .NotIn env [e u, y] = some (.bl (!decide (u ∈ l))) := by
  show orO (oInF true) _ env [e u, y] = _
  unfold orO
  rw [oInF_F true hf he h]
  rfl
end
section
variable {y : AV} {env : En}
theorem op_inFB {u : Bool} {l : List Bool} (h : asS env y = some (l.map AV.bl)) : cmpO .In env [.bl u, y] = some (.bl (decide (u ∈ l))) :=
  op_inFx (e := AV.bl) (g := V.bl) (fun _ => rfl) (fun a b => by cases a <;> cases b <;> rfl) h
theorem op_notInFB {u : Bool} {l : List Bool} (h : asS env y = some (l.map AV.bl)) : cmpO .NotIn env [.bl u, y] = some (.bl (!decide (u ∈ l))) :=
  op_notInFx (e := AV.bl) (g := V.bl) (fun _ => rfl) (fun a b => by cases a <;> cases b <;> rfl) h
theorem eqV_S (a b : Str) : eqV (.str a) (.str b) = decide (a = b) := by
  show (a == b) = _
  by_cases h : a = b <;> simp [h]
theorem op_inFS {u : Str} {l : List Str} (h : asS env y = some (l.map AV.str)) : cmpO .In env [.str u, y] = some (.bl (decide (u ∈ l))) :=
  op_inFx (e := AV.str) (g := V.str) (fun _ => rfl) eqV_S h
theorem op_notInFS {u : Str} {l : List Str} (h : asS env y = some (l.map AV.str)) : cmpO .NotIn env [.str u, y] = some (.bl (!decide (u ∈ l))) :=
  op_notInFx (e := AV.str) (g := V.str) (fun _ => rfl) eqV_S h
end
end RX
/-! RY part h: repr, methods that change nothing, lists taken apart, isinstance of several types. -/
namespace RX
open PySem L2
section
variable {α β γ : Type} {F : β → Option γ} {G : Calls} {env : En} {a : Ex} {es : Exs} {K : AV → En → Option γ} {X : Str → En → Option γ} {m : Option β} {x : AV}
/-! ### repr -/
def rprO (e : α → AV) (u : α) : Option Str := if dsp (e u) && okE (e u) && PyData.showable (toP (e u)) && decide ((toP (e u)).shown.length ≤ sizeLine) then some (toP (e u)).shown else none
theorem op_rpr {e : α → AV} {u : α} (h : rsv env x = some (e u)) : ∀ v, rprO e u = some v → biO .rpr env [x] = some (.str v) := fun v hv => by
  show oRpr env [x] = _
  unfold oRpr
  simp only [h]
  unfold rprO at hv
  split at hv
  · rename_i hc
    cases hv
    rw [if_pos hc]
  · cases hv
/-! ### methods -/
theorem y_pm {p : Pmt} (k : Le (bx (ev G a env) (fun x e1 => bx (if pmK p e1 x then bnd (evs G es e1) fun ds e2 => lift (pmO p) (x :: ds) e2 else none) K X) X) m F) : Le (bx (ev G (.pm p a es) env) K X) m F := by
  show Le (bx (bnd (ev G a env) fun x e1 => if pmK p e1 x then bnd (evs G es e1) fun ds e2 => lift (pmO p) (x :: ds) e2 else none) K X) m F
  rw [bx_bnd]; exact k
theorem y_pmK {p : Pmt} (h : pmK p env x = true) (k : Le (bx (evs G es env) (fun ds e2 => bx (lift (pmO p) (x :: ds) e2) K X) X) m F) : Le (bx (if pmK p env x then bnd (evs G es env) fun ds e2 => lift (pmO p) (x :: ds) e2 else none) K X) m F := by
  rw [if_pos h, bx_bnd]; exact k
def idxO (l : List Int) (k : Int) : Option Int := if decide (k ∈ l) && lenOk l.length then some (l.idxOf k : Nat) else none
theorem op_ixL {l : List Int} {k : Int} (h : asL env x = some (l.map AV.int)) : ∀ v, idxO l k = some v → pmO .ixL env [x, .int k] = some (.int v) := fun v hv => by
  unfold idxO at hv
  unfold pmO
  simp only [h, ints?_ints]
  split at hv
  · rename_i hc
    cases hv
    rw [if_pos hc]
  · cases hv
def idxG (l : List Int) (k : Int) : Option Int := if decide (k ∈ l) then some (l.idxOf k : Nat) else none
theorem op_ixG {l : List Int} {k : Int} : ∀ v, idxG l k = some v → pmO .ixG env [.tup (l.map AV.int), .int k] = some (.int v) := fun v hv => by
  unfold idxG at hv
  unfold pmO
  simp only [ints?_ints]
  split at hv
  · rename_i hc
    cases hv
    rw [if_pos hc]
  · cases hv
@[simp] theorem strs?_strs (ns : List Str) : strs? (ns.map .str) = some ns := by
  induction ns with
  | nil => rfl
  | cons n ns ih => simp [strs?, ih]
def splO (z b : Str) : Option (List Str) := if !(b.length == 0) && decide (z.length + 2 ≤ sizeLine) then some (Txt.split z b) else none
theorem op_spl {z b : Str} : ∀ v, splO z b = some v → pmO .spl env [.str z, .str b] = some (.frs (v.map AV.str)) := fun v hv => by
  unfold splO at hv
  unfold pmO
  simp only
  split at hv
  · rename_i hc
    cases hv
    rw [if_pos hc]
  · cases hv
def joiO (z : Str) (l : List Str) : Option Str := if decide ((l.map (·.length)).sum + l.length * z.length ≤ 16777216) then some (Txt.join z l) else none
theorem op_joi {z : Str} {l : List Str} (h : asS env x = some (l.map AV.str)) : ∀ v, joiO z l = some v → pmO .joi env [.str z, x] = some (.str v) := fun v hv => by
  unfold joiO at hv
  unfold pmO
  simp only [h, strs?_strs]
  split at hv
  · rename_i hc
    cases hv
    rw [if_pos hc]
  · cases hv
/-! ### isinstance, several types -/
theorem y_ist {ns : List String} (k : Le (bx (ev G a env) (fun x e1 => bx (lift (oIst ns) [x] e1) K X) X) m F) : Le (bx (ev G (.ist a ns) env) K X) m F := by
  show Le (bx (bnd (ev G a env) fun x e1 => lift (oIst ns) [x] e1) K X) m F
  rw [bx_bnd]; exact k
theorem op_ist {ns : List String} {t : String} (h : tyA env x = some t) (hn : ns.all tyAsk.contains = true) : oIst ns env [x] = some (.bl (ns.any fun n => isiB t n)) := by
  unfold oIst
  simp only [h, hn, if_true]
theorem age_F : ∀ x : Str, age (.fn x) = .fn x := fun _ => rfl
theorem putN {env : En} {d : AV} {ds : List AV} {os : List (Option (List AV))} : putIos env (d :: ds) (none :: os) = putIos env ds os := by cases d <;> rfl
def eD : Unit → AV := fun _ => .dcx
theorem age_D : ∀ x : Unit, age .dcx = .dcx := fun _ => rfl
def pN : Unit → PyData := fun _ => .none
theorem de_N : DatE eN pN := ⟨fun _ => rfl, fun x y => by cases x; cases y; rfl⟩
/-! ### lists taken apart -/
def un2 : List α → Option (α × α)
  | [a, b] => some (a, b)
  | _ => none
def un3 : List α → Option (α × α × α)
  | [a, b, c] => some (a, b, c)
  | _ => none
theorem y_un2 {Y : Option γ} {l : List α} {m' : α × α → Option β} (k : ∀ w : α × α, l = [w.1, w.2] → Le Y (m' w) F) : Le Y (Option.bind (un2 l) m') F := by
  match l, k with
  | [], _ => exact y_none
  | [_], _ => exact y_none
  | [a, b], k => exact k (a, b) rfl
  | _ :: _ :: _ :: _, _ => exact y_none
theorem y_un3 {Y : Option γ} {l : List α} {m' : α × α × α → Option β} (k : ∀ w : α × α × α, l = [w.1, w.2.1, w.2.2] → Le Y (m' w) F) : Le Y (Option.bind (un3 l) m') F := by
  match l, k with
  | [], _ => exact y_none
  | [_], _ => exact y_none
  | [_, _], _ => exact y_none
  | [a, b, c], k => exact k (a, b, c) rfl
  | _ :: _ :: _ :: _ :: _, _ => exact y_none
/-! ### slices of values of two kinds -/
theorem op_slU {δ ε : Type} {f : α → AV} {g : δ → AV} {en : ε → AV} {p : α → ε} {q : δ → ε} {lo hi : Option Int} {u : α ⊕ δ} (h1 : ∀ a, oSl lo hi env (f a) = some (en (p a))) (h2 : ∀ a, oSl lo hi env (g a) = some (en (q a))) : oSl lo hi env (eU f g u) = some (en (Sum.elim p q u)) := by
  cases u
  · exact h1 _
  · exact h2 _
end
end RX
set_option synthInstance.maxHeartbeats 400000
set_option synthInstance.maxSize 2000
namespace SH
open PySem L2 RX
def l_pen (script : List Int) (k : Int) : Option (List Int) :=
  Option.bind (some (((40009 : Int) * k) + (11 : Int))) fun cell =>
  Option.bind (if (decide ((0 : Int) < (script.length : Int))) then Option.bind (modI k (script.length : Int)) fun q =>
    Option.bind (atI script q) fun q2 =>
    Option.bind (if (decide ((script.length : Int) ≤ k)) then Option.bind (some ((q2 % (2147483629 : Int)) + ((104729 : Int) * k))) fun cell2 =>
      some cell2 else some q2) fun cell3 =>
    some cell3 else some cell) fun cell4 =>
  if (decide (((10 : Int) ^ 18) ≤ cell4)) then some ([(cell4 - ((10 : Int) ^ 18)), (0 : Int), ((cell4 % (2147483587 : Int)) + k)])
  else some ([(0 : Int), (0 : Int), ((cell4 % (2147483587 : Int)) + ((31 : Int) * k))])

def l_take (pen : List Int) (size : Int) : Option (Int × (List Int)) :=
  Option.bind (atI pen (0 : Int)) fun q =>
  if (decide ((0 : Int) < q)) then Option.bind (atI pen (0 : Int)) fun q2 =>
    Option.bind (modI q2 size) fun q3 =>
    Option.bind (atI pen (0 : Int)) fun q4 =>
    Option.bind (divI q4 size) fun q5 =>
    Option.bind (setO pen (0 : Int) q5) fun pen2 =>
    some (q3, pen2)
  else Option.bind (atI pen (1 : Int)) fun q6 =>
    Option.bind (setO pen (1 : Int) (q6 + (1 : Int))) fun pen3 =>
    Option.bind (atI pen3 (2 : Int)) fun q7 =>
    Option.bind (atI pen3 (1 : Int)) fun q8 =>
    Option.bind (some (((q7 + ((7 : Int) * q8)) * (48271 : Int)) % (2147483629 : Int))) fun number =>
    Option.bind (mulI number number) fun q9 =>
    Option.bind (atI pen3 (1 : Int)) fun q10 =>
    Option.bind (some ((q9 + ((69621 : Int) * q10)) % (2147483587 : Int))) fun number2 =>
    Option.bind (atI pen3 (1 : Int)) fun q11 =>
    Option.bind (mulI number2 ((number2 % (65521 : Int)) + q11)) fun q12 =>
    Option.bind (some (q12 % (2147483563 : Int))) fun number3 =>
    Option.bind (modI (number3 / (11 : Int)) size) fun q13 =>
    some (q13, pen3)

def l_wickets_L1 (wide : Int) (st : (List Int) × (List (Int × Int))) (k : Int) : Option ((List Int) × (List (Int × Int))) :=
  Option.bind (l_take st.1 wide) fun w =>
  Option.bind (some w.1) fun first =>
  Option.bind (l_take w.2 (wide - (1 : Int))) fun w2 =>
  Option.bind (modI ((first + (1 : Int)) + w2.1) wide) fun q2 =>
  Option.bind (appO st.2 (first, q2)) fun found2 =>
  some (w2.2, found2)

def l_wickets (pen : List Int) (wide : Int) (many : Int) : Option ((List (Int × Int)) × (List Int)) :=
  Option.bind (some ([])) fun found =>
  Option.bind (mulI many (if (decide ((1 : Int) < wide)) then (1 : Int) else 0)) fun q =>
  Option.bind (rgO 0 q) fun ks =>
  Option.bind (foldO (fun zs zx => l_wickets_L1 wide zs zx) ks (pen, found)) fun st2 =>
  some (st2.2, st2.1)

def l_lifted (wickets : List (Int × Int)) (by_ : Int) : Option (List (Int × Int)) :=
  Option.bind (mapO (fun (x : Int × Int) => some ((x.1 + by_), (x.2 + by_))) wickets) fun ys =>
  some ys

def l_folded_L1c  (st : (List (Int × Int)) × Int) : Option Bool :=
  some (decide ((0 : Int) < st.2))

def l_folded_L1 (wide : Int) (st : (List (Int × Int)) × Int) : Option ((List (Int × Int)) × Int) :=
  Option.bind (rgO 0 wide) fun ks2 =>
  Option.bind (filO (fun (k2 : Int) => Option.bind (divI k2 st.2) fun q5 =>
    if (decide ((q5 % (2 : Int)) = (0 : Int))) then some (some (k2, (k2 + st.2))) else some none) ks2) fun ys2 =>
  Option.bind (addL st.1 ys2) fun q6 =>
  Option.bind (some (st.2 / (2 : Int))) fun gap2 =>
  some (q6, gap2)

def l_folded : Nat → Int → Option (List (Int × Int))
  | 0, _ => none
  | n + 1, wide =>
    if (decide (wide = (1 : Int))) then some ([])
    else Option.bind (some (wide / (2 : Int))) fun half =>
      Option.bind (l_folded n half) fun q =>
      Option.bind (l_lifted q half) fun q2 =>
      Option.bind (addL q q2) fun q3 =>
      Option.bind (rgO 0 half) fun ks =>
      Option.bind (mapO (fun (k : Int) => some (k, ((wide - (1 : Int)) - k))) ks) fun ys =>
      Option.bind (addL q3 ys) fun q4 =>
      Option.bind (some (half / (2 : Int))) fun gap =>
      Option.bind (whlO (fun zs => l_folded_L1c zs) (fun zs => l_folded_L1 wide zs) 200 (q4, gap)) fun st2 =>
      some st2.1

def l_block : Nat → Int → Option (List (Int × Int))
  | 0, _ => none
  | n + 1, wide =>
    if (decide (wide = (1 : Int))) then some ([])
    else Option.bind (some (wide / (2 : Int))) fun half =>
      Option.bind (l_block n half) fun q =>
      Option.bind (rgO 0 half) fun ks =>
      Option.bind (mapO (fun (k : Int) => some (k, ((wide - (1 : Int)) - k))) ks) fun ys =>
      Option.bind (addL ys q) fun q2 =>
      Option.bind (l_lifted q half) fun q3 =>
      Option.bind (addL q2 q3) fun q4 =>
      some q4

def l_rounds (wide : Int) : Option (List (Int × Int)) :=
  Option.bind (l_block 6 wide) fun q =>
  Option.bind (atI ([(0 : Int), (0 : Int), (1 : Int), (0 : Int), (2 : Int), (0 : Int), (0 : Int), (0 : Int), (3 : Int)]) wide) fun q2 =>
  Option.bind (mulL q q2) fun q3 =>
  some q3

def l_brick_L1 (wide : Int) (found2 : (List (Int × Int))) (row : Int) : Option (List (Int × Int)) :=
  Option.bind (rgO 0 (wide - (1 : Int))) fun ks2 =>
  Option.bind (filO (fun (k : Int) => if (decide ((k % (2 : Int)) = (row % (2 : Int)))) then some (some (k, (k + (1 : Int)))) else some none) ks2) fun ys =>
  Option.bind (addL found2 ys) fun q =>
  some q

def l_brick (wide : Int) : Option (List (Int × Int)) :=
  Option.bind (some ([])) fun found =>
  Option.bind (rgO 0 wide) fun ks =>
  Option.bind (foldO (fun zs zx => l_brick_L1 wide zs zx) ks found) fun found3 =>
  some found3

def l_bent (pen : List Int) (wide : Int) (wickets : List (Int × Int)) : Option ((List (Int × Int)) × (List Int)) :=
  if (decide (wickets = [])) then some (wickets, pen)
  else Option.bind (l_take pen (wickets.length : Int)) fun w =>
    Option.bind (some w.1) fun at_ =>
    Option.bind (atI wickets at_) fun q =>
    Option.bind (l_take w.2 (4 : Int)) fun w2 =>
    Option.bind (some w2.1) fun way =>
    Option.bind (mulL ([(q.1, q.2)]) (2 : Int)) fun q2 =>
    Option.bind (l_wickets w2.2 wide (1 : Int)) fun w3 =>
    Option.bind (addL w3.1 ([(q.1, q.2)])) fun q3 =>
    Option.bind (atI ([[], [(q.2, q.1)], q2, q3]) way) fun q4 =>
    Option.bind (addL (cutL wickets none (some at_)) q4) fun q5 =>
    Option.bind (addL q5 (cutL wickets (some (at_ + (1 : Int))) none)) fun q6 =>
    some (q6, w3.2)

def l_net (pen : List Int) : Option ((Int × (List (Int × Int))) × (List Int)) :=
  Option.bind (l_take pen (8 : Int)) fun w =>
  Option.bind (some w.1) fun way =>
  if (decide (way < (3 : Int))) then Option.bind (l_take w.2 (8 : Int)) fun w2 =>
    Option.bind (some ((1 : Int) + w2.1)) fun wide =>
    Option.bind (atI ([(4 : Int), (12 : Int), (41 : Int)]) way) fun q =>
    Option.bind (l_take w2.2 q) fun w3 =>
    Option.bind (l_wickets w3.2 wide w3.1) fun w4 =>
    some ((wide, w4.1), w4.2)
  else Option.bind (l_take w.2 (5 : Int)) fun w5 =>
    Option.bind (atI ([(2 : Int), (4 : Int), (4 : Int), (8 : Int), (1 : Int)]) w5.1) fun q2 =>
    Option.bind (l_folded 6 q2) fun q3 =>
    Option.bind (l_rounds q2) fun q4 =>
    Option.bind (l_take w5.2 (2 : Int)) fun w6 =>
    Option.bind (atI ([q3, q4]) w6.1) fun q5 =>
    Option.bind (if (decide (way = (3 : Int))) then Option.bind (l_take w6.2 (8 : Int)) fun w7 =>
      Option.bind (some ((1 : Int) + w7.1)) fun wide2 =>
      Option.bind (l_brick wide2) fun q6 =>
      some (w7.2, wide2, q6) else some (w6.2, q2, q5)) fun w8 =>
    Option.bind (if (decide (way = (4 : Int))) then Option.bind (l_bent w8.1 w8.2.1 w8.2.2) fun w9 =>
      Option.bind (some w9.1) fun found =>
      some (w9.2, found) else some (w8.1, w8.2.2)) fun w10 =>
    Option.bind (if (decide (way = (5 : Int))) then Option.bind (l_take w10.1 (4 : Int)) fun w11 =>
      Option.bind (l_wickets w11.2 w8.2.1 w11.1) fun w12 =>
      Option.bind (addL w12.1 w10.2) fun q7 =>
      some (w12.2, q7) else some (w10.1, w10.2)) fun w13 =>
    Option.bind (if (decide (way = (6 : Int))) then Option.bind (l_take w13.1 (3 : Int)) fun w14 =>
      Option.bind (l_wickets w14.2 w8.2.1 w14.1) fun w15 =>
      Option.bind (addL w13.2 w15.1) fun q8 =>
      some (w15.2, q8) else some (w13.1, w13.2)) fun w16 =>
    some ((w8.2.1, (cutL w16.2 none (some (40 : Int)))), w16.1)

def l_meet (one : Int × Int) (other : Int × Int) : Option Bool :=
  some ((decide (one.1 ∈ ([other.1, other.2]))) || (decide (one.2 ∈ ([other.1, other.2]))))

def l_due_L1 (wickets : List (Int × Int)) (found2 : (List Int)) (k : Int) : Option (List Int) :=
  Option.bind (rgO 0 k) fun ks2 =>
  Option.bind (filO (fun (j : Int) => Option.bind (atI wickets j) fun q =>
    Option.bind (atI wickets k) fun q2 =>
    Option.bind (l_meet q q2) fun q3 =>
    if q3 then Option.bind (atI found2 j) fun q4 =>
      some (some q4) else some none) ks2) fun ys =>
  Option.bind (addL ([(0 : Int)]) ys) fun q5 =>
  Option.bind (maxO q5) fun q6 =>
  Option.bind (appO found2 ((1 : Int) + q6)) fun found3 =>
  some found3

def l_due (wickets : List (Int × Int)) : Option (List Int) :=
  Option.bind (some ([])) fun found =>
  Option.bind (rgO 0 (wickets.length : Int)) fun ks =>
  Option.bind (foldO (fun zs zx => l_due_L1 wickets zs zx) ks found) fun found4 =>
  some found4

def layers_L1  (st : (List Int) × (List Int)) (x : Int × Int) : Option ((List Int) × (List Int)) :=
  Option.bind (atI st.1 x.1) fun q =>
  Option.bind (atI st.1 x.2) fun q2 =>
  Option.bind (some ((1 : Int) + (max q q2))) fun layer =>
  Option.bind (setO st.1 x.1 layer) fun reached =>
  Option.bind (setO reached x.2 layer) fun reached2 =>
  Option.bind (appO st.2 layer) fun found2 =>
  some (reached2, found2)

def layers (net : Int × (List (Int × Int))) : Option (List Int) :=
  Option.bind (rgO 0 net.1) fun ks =>
  Option.bind (mapO (fun (lane : Int) => some (0 : Int)) ks) fun ys =>
  Option.bind (some ([])) fun found =>
  Option.bind (foldO (fun zs zx => layers_L1 zs zx) net.2 (ys, found)) fun st2 =>
  some st2.2

def l_is_whole (thing : Int) : Option Bool :=
  some (true && (!false))

def depth (net : Int × (List (Int × Int))) : Option Int :=
  Option.bind (layers net) fun q =>
  Option.bind (addL ([(0 : Int)]) q) fun q2 =>
  Option.bind (maxO q2) fun q3 =>
  some q3

def law_L1 (script : List Int) (st : Unit) (k : Int) : Option (Fw Unit Bool) :=
  Option.bind (l_pen script k) fun q =>
  Option.bind (l_net q) fun w =>
  Option.bind (some w.1) fun net =>
  Option.bind (l_due net.2) fun q2 =>
  Option.bind (layers net) fun q3 =>
  Option.bind (orO' (!true) (Option.bind (orO' (!decide (q3 = q2)) (Option.bind (mapO (fun (layer : Int) => Option.bind (l_is_whole layer) fun q4 =>
        some q4) q3) fun ys =>
      some (!(List.all ys id)))) fun q5 =>
    some q5)) fun q6 =>
  if q6 then some (.rt false)
  else Option.bind (depth net) fun q7 =>
    Option.bind (l_is_whole q7) fun q8 =>
    Option.bind (orO' (!q8) (Option.bind (addL q2 ([(0 : Int)])) fun q9 =>
      Option.bind (maxO q9) fun q10 =>
      some (!decide (q7 = q10)))) fun q11 =>
    if q11 then some (.rt false)
    else Option.bind (appO q3 (0 : Int)) fun found =>
      Option.bind (layers net) fun q12 =>
      if (!decide (q12 = q2)) then some (.rt false)
      else some (.nx ())

def law (script : List Int) : Option Bool :=
  Option.bind (rgO 0 (3 : Int)) fun ks =>
  Option.bind (foldR (fun zs zx => law_L1 script zs zx) ks ()) (sumB fun st2 =>
  Option.bind (depth ((1 : Int), [])) fun q13 =>
  Option.bind (andO (decide (q13 = (0 : Int))) (Option.bind (layers ((8 : Int), [])) fun q14 =>
    some (decide (q14 = [])))) fun q15 =>
  some q15)

def is_whole (thing : Int) : Option Bool :=
  some (true && (!false))

def brick_L1 (wide : Int) (found2 : (List (Int × Int))) (row : Int) : Option (List (Int × Int)) :=
  Option.bind (rg3O (row % (2 : Int)) (wide - (1 : Int)) (2 : Int)) fun ks2 =>
  Option.bind (mapO (fun (lane : Int) => some (lane, (lane + (1 : Int)))) ks2) fun ys =>
  Option.bind (extO found2 ys) fun found3 =>
  some found3

def brick (wide : Int) : Option (Int × (List (Int × Int))) :=
  Option.bind (is_whole wide) fun q =>
  if ((!q) || (!((decide ((1 : Int) ≤ wide)) && (decide (wide ≤ (8 : Int)))))) then none
  else Option.bind (some ([])) fun found =>
    Option.bind (rgO 0 wide) fun ks =>
    Option.bind (foldO (fun zs zx => brick_L1 wide zs zx) ks found) fun found4 =>
    some (wide, found4)

def checked_halved (wide : Int) : Option (Rz Unit) :=
  Option.bind (is_whole wide) fun q =>
  if ((!q) || (!decide (wide ∈ ([1, 2, 4, 8] : List Int)))) then some (.exc "NoNet")
  else some (.ok ())

def fold (wide : Int) : Option (List (Int × Int)) :=
  Option.bind (rgO 0 (wide / (2 : Int))) fun ks =>
  Option.bind (mapO (fun (lane : Int) => some (lane, ((wide - (1 : Int)) - lane))) ks) fun ys =>
  some ys

def lifted (wickets : List (Int × Int)) (by_ : Int) : Option (List (Int × Int)) :=
  Option.bind (mapO (fun (x : Int × Int) => some ((x.1 + by_), (x.2 + by_))) wickets) fun ys =>
  some ys

def block : Nat → Int → Option (List (Int × Int))
  | 0, _ => none
  | n + 1, wide =>
    if (decide (wide = (1 : Int))) then some ([])
    else Option.bind (some (wide / (2 : Int))) fun half =>
      Option.bind (block n half) fun q =>
      Option.bind (fold wide) fun q2 =>
      Option.bind (addL q2 q) fun q3 =>
      Option.bind (lifted q half) fun q4 =>
      Option.bind (addL q3 q4) fun q5 =>
      some q5

def rounds (wide : Int) : Option (Rz (Int × (List (Int × Int)))) :=
  Option.bind (checked_halved wide) (rzB fun q =>
  Option.bind (block 6 wide) fun q2 =>
  Option.bind (idxG ([1, 2, 4, 8] : List Int) wide) fun q3 =>
  Option.bind (mulL q2 q3) fun q4 =>
  some (.ok (wide, q4)))

def is_lane (thing : Int) (wide : Int) : Option Bool :=
  Option.bind (is_whole thing) fun q =>
  some (q && ((decide ((0 : Int) ≤ thing)) && (decide (thing < wide))))

def is_wicket (thing : Int × Int) (wide : Int) : Option Bool :=
  if ((!true) || (!decide ((([thing.1, thing.2]).length : Int) = (2 : Int)))) then some false
  else Option.bind (is_lane thing.1 wide) fun q =>
    Option.bind (andO q (Option.bind (is_lane thing.2 wide) fun q2 =>
      some (q2 && (!decide (thing.1 = thing.2))))) fun q3 =>
    some q3

def makes_net (wide : Int) (wickets : List (Int × Int)) : Option Bool :=
  Option.bind (is_whole wide) fun q =>
  if ((!q) || (!((decide ((1 : Int) ≤ wide)) && (decide (wide ≤ (8 : Int)))))) then some false
  else if ((!true) || (decide ((40 : Int) < (wickets.length : Int)))) then some false
    else Option.bind (mapO (fun (wicket : Int × Int) => Option.bind (is_wicket wicket wide) fun q2 =>
        some q2) wickets) fun ys =>
      some (List.all ys id)

def is_net (thing : Int × (List (Int × Int))) : Option Bool :=
  if ((!true) || ((!decide ((2 : Int) = (2 : Int))) || (!true))) then some false
  else Option.bind (makes_net thing.1 thing.2) fun q =>
    some q

def l_right_14 (found : Int × (List (Int × Int))) (due : Int × (List (Int × Int))) : Option Bool :=
  if ((!true) || ((!decide (found = due)) || ((!true) || false))) then some false
  else Option.bind (is_net found) fun q =>
    some (decide (q = true))

def brick_2_L1 (wide : Int) (found2 : (List (Int × Int))) (row : Int) : Option (List (Int × Int)) :=
  Option.bind (rg3O (row % (2 : Int)) (wide - (1 : Int)) (2 : Int)) fun ks2 =>
  Option.bind (mapO (fun (lane : Int) => some (lane, (lane + (1 : Int)))) ks2) fun ys =>
  Option.bind (extO found2 ys) fun found3 =>
  some found3

def brick_2 (wide : Int) : Option (Rz (Int × (List (Int × Int)))) :=
  Option.bind (is_whole wide) fun q =>
  if ((!q) || (!((decide ((1 : Int) ≤ wide)) && (decide (wide ≤ (8 : Int)))))) then some (.exc "NoNet")
  else Option.bind (some ([])) fun found =>
    Option.bind (rgO 0 wide) fun ks =>
    Option.bind (foldO (fun zs zx => brick_2_L1 wide zs zx) ks found) fun found4 =>
    some (.ok (wide, found4))

def is_whole_2 (thing : Bool) : Option Bool :=
  some (true && (!true))

def checked_halved_2 (wide : Bool) : Option (Rz Unit) :=
  Option.bind (is_whole_2 wide) fun q =>
  Option.bind (orO' (!q) (none)) fun q2 =>
  if q2 then some (.exc "NoNet")
  else some (.ok ())

def is_whole_3 (thing : Unit) : Option Bool :=
  some (false && (!false))

def checked_halved_3 (wide : Unit) : Option (Rz Unit) :=
  Option.bind (is_whole_3 wide) fun q =>
  Option.bind (orO' (!q) (none)) fun q2 =>
  if q2 then some (.exc "NoNet")
  else some (.ok ())

def is_whole_4 (thing : Str) : Option Bool :=
  some (false && (!false))

def checked_halved_4 (wide : Str) : Option (Rz Unit) :=
  Option.bind (is_whole_4 wide) fun q =>
  Option.bind (orO' (!q) (none)) fun q2 =>
  if q2 then some (.exc "NoNet")
  else some (.ok ())

def is_whole_5 (thing : List Int) : Option Bool :=
  some (false && (!false))

def checked_halved_5 (wide : List Int) : Option (Rz Unit) :=
  Option.bind (is_whole_5 wide) fun q =>
  Option.bind (orO' (!q) (none)) fun q2 =>
  if q2 then some (.exc "NoNet")
  else some (.ok ())

def is_whole_6 (thing : List Int) : Option Bool :=
  some (false && (!false))

def checked_halved_6 (wide : List Int) : Option (Rz Unit) :=
  Option.bind (is_whole_6 wide) fun q =>
  Option.bind (orO' (!q) (none)) fun q2 =>
  if q2 then some (.exc "NoNet")
  else some (.ok ())

def is_whole_7 (thing : Unit) : Option Bool :=
  some (false && (!false))

def checked_halved_7 (wide : Unit) : Option (Rz Unit) :=
  Option.bind (is_whole_7 wide) fun q =>
  Option.bind (orO' (!q) (none)) fun q2 =>
  if q2 then some (.exc "NoNet")
  else some (.ok ())

def rounds_2 (wide : (((((Int ⊕ Bool) ⊕ Unit) ⊕ Str) ⊕ (List Int)) ⊕ (List Int)) ⊕ Unit) : Option (Rz (Int × (List (Int × Int)))) :=
  Sum.elim (fun wide2 => Sum.elim (fun wide3 => Sum.elim (fun wide4 => Sum.elim (fun wide5 => Sum.elim (fun wide6 => Sum.elim (fun wide7 => Option.bind (checked_halved wide7) (rzB fun q =>
              Option.bind (block 6 wide7) fun q2 =>
              Option.bind (idxG ([1, 2, 4, 8] : List Int) wide7) fun q3 =>
              Option.bind (mulL q2 q3) fun q4 =>
              some (.ok (wide7, q4)))) (fun wide8 => Option.bind (checked_halved_2 wide8) (rzB fun q5 =>
              none)) wide6) (fun wide9 => Option.bind (checked_halved_3 wide9) (rzB fun q6 =>
            none)) wide5) (fun wide10 => Option.bind (checked_halved_4 wide10) (rzB fun q7 =>
          none)) wide4) (fun wide11 => Option.bind (checked_halved_5 wide11) (rzB fun q8 =>
        none)) wide3) (fun wide12 => Option.bind (checked_halved_6 wide12) (rzB fun q9 =>
      none)) wide2) (fun wide13 => Option.bind (checked_halved_7 wide13) (rzB fun q10 =>
    none)) wide

def brick_3_L1 (wide7 : Int) (found2 : (List (Int × Int))) (row : Int) : Option (List (Int × Int)) :=
  Option.bind (rg3O (row % (2 : Int)) (wide7 - (1 : Int)) (2 : Int)) fun ks2 =>
  Option.bind (mapO (fun (lane : Int) => some (lane, (lane + (1 : Int)))) ks2) fun ys =>
  Option.bind (extO found2 ys) fun found3 =>
  some found3

def brick_3 (wide : (((((Int ⊕ Bool) ⊕ Unit) ⊕ Str) ⊕ (List Int)) ⊕ (List Int)) ⊕ Unit) : Option (Rz (Int × (List (Int × Int)))) :=
  Sum.elim (fun wide2 => Sum.elim (fun wide3 => Sum.elim (fun wide4 => Sum.elim (fun wide5 => Sum.elim (fun wide6 => Sum.elim (fun wide7 => Option.bind (is_whole wide7) fun q =>
              if ((!q) || (!((decide ((1 : Int) ≤ wide7)) && (decide (wide7 ≤ (8 : Int)))))) then some (.exc "NoNet")
              else Option.bind (some ([] : List (Int × Int))) fun found =>
                Option.bind (rgO 0 wide7) fun ks =>
                Option.bind (foldO (fun zs zx => brick_3_L1 wide7 zs zx) ks found) fun found4 =>
                some (.ok (wide7, found4))) (fun wide8 => Option.bind (is_whole_2 wide8) fun q2 =>
              Option.bind (orO' (!q2) (none)) fun q3 =>
              if q3 then some (.exc "NoNet")
              else Option.bind (some ([] : List (Int × Int))) fun found5 =>
                none) wide6) (fun wide9 => Option.bind (is_whole_3 wide9) fun q4 =>
            Option.bind (orO' (!q4) (none)) fun q5 =>
            if q5 then some (.exc "NoNet")
            else Option.bind (some ([] : List (Int × Int))) fun found6 =>
              none) wide5) (fun wide10 => Option.bind (is_whole_4 wide10) fun q6 =>
          Option.bind (orO' (!q6) (none)) fun q7 =>
          if q7 then some (.exc "NoNet")
          else Option.bind (some ([] : List (Int × Int))) fun found7 =>
            none) wide4) (fun wide11 => Option.bind (is_whole_5 wide11) fun q8 =>
        Option.bind (orO' (!q8) (none)) fun q9 =>
        if q9 then some (.exc "NoNet")
        else Option.bind (some ([] : List (Int × Int))) fun found8 =>
          none) wide3) (fun wide12 => Option.bind (is_whole_6 wide12) fun q10 =>
      Option.bind (orO' (!q10) (none)) fun q11 =>
      if q11 then some (.exc "NoNet")
      else Option.bind (some ([] : List (Int × Int))) fun found9 =>
        none) wide2) (fun wide13 => Option.bind (is_whole_7 wide13) fun q12 =>
    Option.bind (orO' (!q12) (none)) fun q13 =>
    if q13 then some (.exc "NoNet")
    else Option.bind (some ([] : List (Int × Int))) fun found10 =>
      none) wide

def l_refused (way : Int) (thing : (((((Int ⊕ Bool) ⊕ Unit) ⊕ Str) ⊕ (List Int)) ⊕ (List Int)) ⊕ Unit) : Option Bool :=
  Option.bind (some ()) fun caught =>
  Option.bind (if (decide (way = (0 : Int))) then Option.bind (rounds_2 thing) (rzB fun q =>
      some (.ok ()))
    else Option.bind (brick_3 thing) (rzB fun q2 =>
      some (.ok ()))) (rzC ["NoNet"] (fun st => none) (fun c => Option.bind (isxO [("NoNet", false)] c) fun q3 =>
    if q3 then some false
    else Option.bind (isxO [("NoNet", true)] c) fun q4 =>
      Option.bind (andO q4 (Option.bind (isxO [("NoNet", true)] c) fun q5 =>
        some q5)) fun q6 =>
      some q6))

def law_23_L1 (script : List Int) (st : Unit) (k : Int) : Option (Fw Unit Bool) :=
  Option.bind (l_pen script k) fun q =>
  Option.bind (l_take q (4 : Int)) fun w =>
  Option.bind (atI ([(1 : Int), (2 : Int), (4 : Int), (8 : Int)]) w.1) fun q2 =>
  Option.bind (rounds q2) (rzN fun q3 =>
  Option.bind (l_rounds q2) fun q4 =>
  Option.bind (l_right_14 q3 (q2, q4)) fun q5 =>
  if (!q5) then some (.rt false)
  else Option.bind (l_take w.2 (8 : Int)) fun w2 =>
    Option.bind (some ((1 : Int) + w2.1)) fun wide =>
    Option.bind (brick_2 wide) (rzN fun q6 =>
    Option.bind (l_brick wide) fun q7 =>
    Option.bind (l_right_14 q6 (wide, q7)) fun q8 =>
    if (!q8) then some (.rt false)
    else Option.bind (l_take w2.2 ((10 : Int) ^ 59)) fun w3 =>
      Option.bind (some ((9 : Int) + w3.1)) fun far =>
      Option.bind (some ([((.inl (.inl (.inl (.inl (.inl (.inl (0 : Int))))))) : (((((Int ⊕ Bool) ⊕ Unit) ⊕ Str) ⊕ (List Int)) ⊕ (List Int)) ⊕ Unit), ((.inl (.inl (.inl (.inl (.inl (.inl (9 : Int))))))) : (((((Int ⊕ Bool) ⊕ Unit) ⊕ Str) ⊕ (List Int)) ⊕ (List Int)) ⊕ Unit), ((.inl (.inl (.inl (.inl (.inl (.inl far)))))) : (((((Int ⊕ Bool) ⊕ Unit) ⊕ Str) ⊕ (List Int)) ⊕ (List Int)) ⊕ Unit), ((.inl (.inl (.inl (.inl (.inl (.inl ((0 : Int) - far))))))) : (((((Int ⊕ Bool) ⊕ Unit) ⊕ Str) ⊕ (List Int)) ⊕ (List Int)) ⊕ Unit), ((.inl (.inl (.inl (.inl (.inl (.inl (-(1 : Int)))))))) : (((((Int ⊕ Bool) ⊕ Unit) ⊕ Str) ⊕ (List Int)) ⊕ (List Int)) ⊕ Unit), ((.inl (.inl (.inl (.inl (.inl (.inr true)))))) : (((((Int ⊕ Bool) ⊕ Unit) ⊕ Str) ⊕ (List Int)) ⊕ (List Int)) ⊕ Unit), ((.inl (.inl (.inl (.inl (.inl (.inr false)))))) : (((((Int ⊕ Bool) ⊕ Unit) ⊕ Str) ⊕ (List Int)) ⊕ (List Int)) ⊕ Unit), ((.inl (.inl (.inl (.inl (.inr ()))))) : (((((Int ⊕ Bool) ⊕ Unit) ⊕ Str) ⊕ (List Int)) ⊕ (List Int)) ⊕ Unit), ((.inl (.inl (.inl (.inr (PySem.Str.ofString "4"))))) : (((((Int ⊕ Bool) ⊕ Unit) ⊕ Str) ⊕ (List Int)) ⊕ (List Int)) ⊕ Unit), ((.inl (.inl (.inr ([(4 : Int)])))) : (((((Int ⊕ Bool) ⊕ Unit) ⊕ Str) ⊕ (List Int)) ⊕ (List Int)) ⊕ Unit), ((.inl (.inr ([(4 : Int)]))) : (((((Int ⊕ Bool) ⊕ Unit) ⊕ Str) ⊕ (List Int)) ⊕ (List Int)) ⊕ Unit), ((.inr ()) : (((((Int ⊕ Bool) ⊕ Unit) ⊕ Str) ⊕ (List Int)) ⊕ (List Int)) ⊕ Unit), ((.inl (.inl (.inl (.inr (PySem.Str.ofString ""))))) : (((((Int ⊕ Bool) ⊕ Unit) ⊕ Str) ⊕ (List Int)) ⊕ (List Int)) ⊕ Unit), ((.inl (.inl (.inr ([] : List Int)))) : (((((Int ⊕ Bool) ⊕ Unit) ⊕ Str) ⊕ (List Int)) ⊕ (List Int)) ⊕ Unit), ((.inl (.inl (.inl (.inl (.inl (.inl (16 : Int))))))) : (((((Int ⊕ Bool) ⊕ Unit) ⊕ Str) ⊕ (List Int)) ⊕ (List Int)) ⊕ Unit)])) fun some_ =>
      Option.bind (l_take w3.2 (15 : Int)) fun w4 =>
      Option.bind (atI some_ w4.1) fun q9 =>
      Option.bind (l_refused (1 : Int) q9) fun q10 =>
      if (!q10) then some (.rt false)
      else Option.bind (addL some_ ([((.inl (.inl (.inl (.inl (.inl (.inl (3 : Int))))))) : (((((Int ⊕ Bool) ⊕ Unit) ⊕ Str) ⊕ (List Int)) ⊕ (List Int)) ⊕ Unit), ((.inl (.inl (.inl (.inl (.inl (.inl (5 : Int))))))) : (((((Int ⊕ Bool) ⊕ Unit) ⊕ Str) ⊕ (List Int)) ⊕ (List Int)) ⊕ Unit), ((.inl (.inl (.inl (.inl (.inl (.inl (6 : Int))))))) : (((((Int ⊕ Bool) ⊕ Unit) ⊕ Str) ⊕ (List Int)) ⊕ (List Int)) ⊕ Unit), ((.inl (.inl (.inl (.inl (.inl (.inl (7 : Int))))))) : (((((Int ⊕ Bool) ⊕ Unit) ⊕ Str) ⊕ (List Int)) ⊕ (List Int)) ⊕ Unit)])) fun q11 =>
        Option.bind (l_take w4.2 (19 : Int)) fun w5 =>
        Option.bind (atI q11 w5.1) fun q12 =>
        Option.bind (l_refused (0 : Int) q12) fun q13 =>
        if (!q13) then some (.rt false)
        else some (.nx ())))

def law_23 (script : List Int) : Option Bool :=
  Option.bind (rgO 0 (5 : Int)) fun ks =>
  Option.bind (foldR (fun zs zx => law_23_L1 script zs zx) ks ()) (sumB fun st2 =>
  Option.bind (rounds (8 : Int)) (rzN fun q14 =>
  Option.bind (andO (decide ((q14.2.length : Int) = (36 : Int))) (Option.bind (brick_2 (8 : Int)) (rzN fun q15 =>
    some (decide ((q15.2.length : Int) = (28 : Int)))))) fun q16 =>
  some q16))
end SH
set_option synthInstance.maxHeartbeats 400000
set_option synthInstance.maxSize 2000
namespace K43
open PySem L2 RX
def top (i : Nat) : Stmt := PySem.Challenge.pw_evenpass_k43_rounds_and_bricks.main.body.getD i (.Pass ⟨0, 0, 0, 0⟩)
/-! is_whole: 0 thing -/
def b_is_whole : Sts := (.cons (.ret (.and (.cons (.bi .isi (.cons (.var 0) (.cons (.ty "int" "int") .nil))) (.cons (.not (.bi .isi (.cons (.var 0) (.cons (.ty "bool" "bool") .nil)))) .nil)))) .nil)
abbrev d_is_whole : Df := ⟨"is_whole", ["thing"], ["thing"], .all b_is_whole, top 12⟩
/-! is_lane: 0 thing, 1 wide -/
def b_is_lane : Sts := (.cons (.ret (.and (.cons (.call "is_whole" [false] (.cons (.var 0) .nil)) (.cons (.chain .LtE .Lt (.int 0) (.var 0) (.var 1)) .nil)))) .nil)
abbrev d_is_lane : Df := ⟨"is_lane", ["thing", "wide"], ["thing", "wide"], .all b_is_lane, top 13⟩
/-! is_wicket: 0 thing, 1 wide -/
def b_is_wicket : Sts := (.cons (.ifs (.or (.cons (.not (.bi .isi (.cons (.var 0) (.cons (.ty "tuple" "tuple") .nil)))) (.cons (.cmp .NotEq (.bi .len (.cons (.var 0) .nil)) (.int 2)) .nil))) (.cons (.ret (.bl false)) .nil) .nil) (.cons (.ret (.and (.cons (.call "is_lane" [false, false] (.cons (.ix (.var 0) (.int 0)) (.cons (.var 1) .nil))) (.cons (.call "is_lane" [false, false] (.cons (.ix (.var 0) (.int 1)) (.cons (.var 1) .nil))) (.cons (.cmp .NotEq (.ix (.var 0) (.int 0)) (.ix (.var 0) (.int 1))) .nil))))) .nil))
abbrev d_is_wicket : Df := ⟨"is_wicket", ["thing", "wide"], ["thing", "wide"], .all b_is_wicket, top 14⟩
/-! makes_net: 0 wide, 1 wickets, 2 wicket -/
def b_makes_net : Sts := (.cons (.ifs (.or (.cons (.not (.call "is_whole" [false] (.cons (.var 0) .nil))) (.cons (.not (.chain .LtE .LtE (.int 1) (.var 0) (.gl "MOST_LANES_nets" (.int 8)))) .nil))) (.cons (.ret (.bl false)) .nil) .nil) (.cons (.ifs (.or (.cons (.not (.ist (.var 1) ["list", "tuple"])) (.cons (.cmp .Gt (.bi .len (.cons (.var 1) .nil)) (.gl "MOST_WICKETS" (.int 40))) .nil))) (.cons (.ret (.bl false)) .nil) .nil) (.cons (.ret (.bi .all (.cons (.comp (.call "is_wicket" [false, false] (.cons (.var 2) (.cons (.var 0) .nil))) [2] (.nm 2) (.seq (.var 1)) .nul) .nil))) .nil)))
abbrev d_makes_net : Df := ⟨"makes_net", ["wide", "wickets"], ["wide", "wickets", "wicket"], .all b_makes_net, top 15⟩
/-! is_net: 0 thing -/
def b_is_net : Sts := (.cons (.ifs (.or (.cons (.not (.bi .isi (.cons (.var 0) (.cons (.ty "tuple" "tuple") .nil)))) (.cons (.cmp .NotEq (.bi .len (.cons (.var 0) .nil)) (.int 2)) (.cons (.not (.bi .isi (.cons (.ix (.var 0) (.int 1)) (.cons (.ty "tuple" "tuple") .nil)))) .nil)))) (.cons (.ret (.bl false)) .nil) .nil) (.cons (.ret (.call "makes_net" [false, false] (.cons (.ix (.var 0) (.int 0)) (.cons (.ix (.var 0) (.int 1)) .nil)))) .nil))
abbrev d_is_net : Df := ⟨"is_net", ["thing"], ["thing"], .all b_is_net, top 16⟩
/-! lifted: 0 wickets, 1 by, 2 first, 3 second -/
def b_lifted : Sts := (.cons (.ret (.comp (.tup (.cons (.bin .add (.var 2) (.var 1)) (.cons (.bin .add (.var 3) (.var 1)) .nil))) [2, 3] (.tp [(.nm 2), (.nm 3)]) (.seq (.var 0)) .nul)) .nil)
abbrev d_lifted : Df := ⟨"lifted", ["wickets", "by"], ["wickets", "by", "first", "second"], .all b_lifted, top 20⟩
/-! fold: 0 wide, 1 lane -/
def b_fold : Sts := (.cons (.ret (.comp (.tup (.cons (.fz 1) (.cons (.bin .sub (.bin .sub (.var 0) (.int 1)) (.var 1)) .nil))) [1] (.nm 1) (.rg (.cons (.bin .div (.var 0) (.int 2)) .nil)) .nul)) .nil)
abbrev d_fold : Df := ⟨"fold", ["wide"], ["wide", "lane"], .all b_fold, top 21⟩
/-! block: 0 wide, 1 half, 2 below -/
def b_block : Sts := (.cons (.ifs (.cmp .Eq (.var 0) (.int 1)) (.cons (.ret (.lst .nil)) .nil) .nil) (.cons (.set 1 (.bin .div (.var 0) (.int 2))) (.cons (.set 2 (.call "block" [false] (.cons (.var 1) .nil))) (.cons (.ret (.bin .add (.bin .add (.call "fold" [false] (.cons (.var 0) .nil)) (.var 2)) (.call "lifted" [false, false] (.cons (.var 2) (.cons (.var 1) .nil))))) .nil))))
abbrev d_block : Df := ⟨"block", ["wide"], ["wide", "half", "below"], .all b_block, top 22⟩
/-! checked_halved: 0 wide -/
def b_checked_halved : Sts := (.cons (.ifs (.or (.cons (.not (.call "is_whole" [false] (.cons (.var 0) .nil))) (.cons (.cmp .NotIn (.var 0) (.gl "HALVED" (.tup [.int 1, .int 2, .int 4, .int 8]))) .nil))) (.cons (.rse "NoNet") .nil) .nil) .nil)
abbrev d_checked_halved : Df := ⟨"checked_halved", ["wide"], ["wide"], .all b_checked_halved, top 23⟩
/-! rounds: 0 wide -/
def b_rounds : Sts := (.cons (.exp (.call "checked_halved" [false] (.cons (.var 0) .nil))) (.cons (.ret (.tup (.cons (.fz 0) (.cons (.bi .tuple (.cons (.bin .mul (.call "block" [false] (.cons (.var 0) .nil)) (.pm .ixG (.gl "HALVED" (.tup [.int 1, .int 2, .int 4, .int 8])) (.cons (.var 0) .nil))) .nil)) .nil)))) .nil))
abbrev d_rounds : Df := ⟨"rounds", ["wide"], ["wide"], .all b_rounds, top 24⟩
/-! brick: 0 wide, 1 found, 2 row, 3 lane -/
def b_brick : Sts := (.cons (.ifs (.or (.cons (.not (.call "is_whole" [false] (.cons (.var 0) .nil))) (.cons (.not (.chain .LtE .LtE (.int 1) (.var 0) (.gl "MOST_LANES_built" (.int 8)))) .nil))) (.cons (.rse "NoNet") .nil) .nil) (.cons (.set 1 (.lst .nil)) (.wip [2] (.cons (.for_ (.nm 2) (.rg (.cons (.var 0) .nil)) (.cons (.exp (.mth .ext 1 (.cons (.comp (.tup (.cons (.fz 3) (.cons (.bin .add (.var 3) (.int 1)) .nil))) [3] (.nm 3) (.rg (.cons (.bin .mod (.var 2) (.int 2)) (.cons (.bin .sub (.var 0) (.int 1)) (.cons (.int 2) .nil)))) .nul) .nil))) (.wip [2] .nil))) (.cons (.ret (.tup (.cons (.fz 0) (.cons (.bi .tuple (.cons (.var 1) .nil)) .nil)))) .nil)))))
abbrev d_brick : Df := ⟨"brick", ["wide"], ["wide", "found", "row", "lane"], .all b_brick, top 25⟩
/-! _law_pen: 0 script, 1 k, 2 cell -/
def b_l_pen : Sts := (.cons (.set 2 (.bin .add (.bin .mul (.int 40009) (.var 1)) (.int 11))) (.cons (.ifs (.cmp .Gt (.bi .len (.cons (.var 0) .nil)) (.int 0)) (.cons (.set 2 (.ix (.var 0) (.bin .mod (.var 1) (.bi .len (.cons (.var 0) .nil))))) (.cons (.ifs (.cmp .GtE (.var 1) (.bi .len (.cons (.var 0) .nil))) (.cons (.set 2 (.bin .add (.bin .mod (.var 2) (.int 2147483629)) (.bin .mul (.int 104729) (.var 1)))) .nil) .nil) .nil)) .nil) (.cons (.ifs (.cmp .GtE (.var 2) (.bin .pow (.int 10) (.int 18))) (.cons (.ret (.lst (.cons (.bin .sub (.var 2) (.bin .pow (.int 10) (.int 18))) (.cons (.int 0) (.cons (.bin .add (.bin .mod (.var 2) (.int 2147483587)) (.var 1)) .nil))))) .nil) .nil) (.cons (.ret (.lst (.cons (.int 0) (.cons (.int 0) (.cons (.bin .add (.bin .mod (.var 2) (.int 2147483587)) (.bin .mul (.int 31) (.var 1))) .nil))))) .nil))))
abbrev d_l_pen : Df := ⟨"_law_pen", ["script", "k"], ["script", "k", "cell"], .all b_l_pen, top 27⟩
/-! _law_take: 0 pen, 1 size, 2 found, 3 number ; io: pen -/
def b_l_take : Sts := (.cons (.ifs (.cmp .Gt (.ix (.var 0) (.int 0)) (.int 0)) (.cons (.set 2 (.bin .mod (.ix (.var 0) (.int 0)) (.var 1))) (.cons (.stx 0 (.int 0) (.bin .div (.ix (.var 0) (.int 0)) (.var 1))) (.cons (.ret (.var 2)) .nil))) .nil) (.cons (.stx 0 (.int 1) (.bin .add (.ix (.var 0) (.int 1)) (.int 1))) (.cons (.set 3 (.bin .mod (.bin .mul (.bin .add (.ix (.var 0) (.int 2)) (.bin .mul (.int 7) (.ix (.var 0) (.int 1)))) (.int 48271)) (.int 2147483629))) (.cons (.set 3 (.bin .mod (.bin .add (.bin .mul (.var 3) (.var 3)) (.bin .mul (.int 69621) (.ix (.var 0) (.int 1)))) (.int 2147483587))) (.cons (.set 3 (.bin .mod (.bin .mul (.var 3) (.bin .add (.bin .mod (.var 3) (.int 65521)) (.ix (.var 0) (.int 1)))) (.int 2147483563))) (.cons (.ret (.bin .mod (.bin .div (.var 3) (.int 11)) (.var 1))) .nil))))))
abbrev d_l_take : Df := ⟨"_law_take", ["pen", "size"], ["pen", "size", "found", "number"], .all b_l_take, top 28⟩
/-! _law_lifted: 0 wickets, 1 by, 2 first, 3 second -/
def b_l_lifted : Sts := (.cons (.ret (.comp (.tup (.cons (.bin .add (.var 2) (.var 1)) (.cons (.bin .add (.var 3) (.var 1)) .nil))) [2, 3] (.tp [(.nm 2), (.nm 3)]) (.seq (.var 0)) .nul)) .nil)
abbrev d_l_lifted : Df := ⟨"_law_lifted", ["wickets", "by"], ["wickets", "by", "first", "second"], .all b_l_lifted, top 29⟩
/-! _law_block: 0 wide, 1 half, 2 below, 3 k -/
def b_l_block : Sts := (.cons (.ifs (.cmp .Eq (.var 0) (.int 1)) (.cons (.ret (.lst .nil)) .nil) .nil) (.cons (.set 1 (.bin .div (.var 0) (.int 2))) (.cons (.set 2 (.call "_law_block" [false] (.cons (.var 1) .nil))) (.cons (.ret (.bin .add (.bin .add (.comp (.tup (.cons (.fz 3) (.cons (.bin .sub (.bin .sub (.var 0) (.int 1)) (.var 3)) .nil))) [3] (.nm 3) (.rg (.cons (.var 1) .nil)) .nul) (.var 2)) (.call "_law_lifted" [false, false] (.cons (.var 2) (.cons (.var 1) .nil))))) .nil))))
abbrev d_l_block : Df := ⟨"_law_block", ["wide"], ["wide", "half", "below", "k"], .all b_l_block, top 30⟩
/-! _law_brick: 0 wide, 1 found, 2 row, 3 k -/
def b_l_brick : Sts := (.cons (.set 1 (.lst .nil)) (.wip [2] (.cons (.for_ (.nm 2) (.rg (.cons (.var 0) .nil)) (.cons (.set 1 (.bin .add (.var 1) (.comp (.tup (.cons (.fz 3) (.cons (.bin .add (.var 3) (.int 1)) .nil))) [3] (.nm 3) (.rg (.cons (.bin .sub (.var 0) (.int 1)) .nil)) (.cmp .Eq (.bin .mod (.var 3) (.int 2)) (.bin .mod (.var 2) (.int 2)))))) (.wip [2] .nil))) (.cons (.ret (.var 1)) .nil))))
abbrev d_l_brick : Df := ⟨"_law_brick", ["wide"], ["wide", "found", "row", "k"], .all b_l_brick, top 31⟩
/-! _law_rounds: 0 wide -/
def b_l_rounds : Sts := (.cons (.ret (.bin .mul (.call "_law_block" [false] (.cons (.var 0) .nil)) (.ix (.lst (.cons (.int 0) (.cons (.int 0) (.cons (.int 1) (.cons (.int 0) (.cons (.int 2) (.cons (.int 0) (.cons (.int 0) (.cons (.int 0) (.cons (.int 3) .nil)))))))))) (.var 0)))) .nil)
abbrev d_l_rounds : Df := ⟨"_law_rounds", ["wide"], ["wide"], .all b_l_rounds, top 32⟩
/-! _law_refused: 0 way, 1 thing, 2 caught, 3 e -/
def b_l_refused : Sts := (.cons (.set 2 .non) (.cons (.trA (.cons (.ifs (.cmp .Eq (.var 0) (.int 0)) (.cons (.exp (.call "rounds" [false] (.cons (.var 1) .nil))) .nil) (.cons (.exp (.call "brick" [false] (.cons (.var 1) .nil))) .nil)) .nil) "NetError" ["NoNet"] 2 3) (.cons (.ifs (.isx (.var 2) [("NoNet", false)]) (.cons (.ret (.bl false)) .nil) .nil) (.cons (.ret (.and (.cons (.isx (.var 2) [("NoNet", true)]) (.cons (.isx (.var 2) [("NoNet", true)]) .nil)))) .nil))))
abbrev d_l_refused : Df := ⟨"_law_refused", ["way", "thing"], ["way", "thing", "caught", "e"], .all b_l_refused, top 33⟩
/-! _law_right: 0 found, 1 due -/
def b_l_right : Sts := (.cons (.ifs (.or (.cons (.not (.bi .isi (.cons (.var 0) (.cons (.ty "tuple" "tuple") .nil)))) (.cons (.cmp .NotEq (.var 0) (.var 1)) (.cons (.not (.bi .isi (.cons (.ix (.var 0) (.int 1)) (.cons (.ty "tuple" "tuple") .nil)))) (.cons (.bi .isi (.cons (.ix (.var 0) (.int 0)) (.cons (.ty "bool" "bool") .nil))) .nil))))) (.cons (.ret (.bl false)) .nil) .nil) (.cons (.ret (.cmp .Is (.call "is_net" [false] (.cons (.var 0) .nil)) (.bl true))) .nil))
abbrev d_l_right : Df := ⟨"_law_right", ["found", "due"], ["found", "due"], .all b_l_right, top 34⟩
/-! law: 0 script, 1 k, 2 pen, 3 wide, 4 far, 5 some -/
def b_law : Sts := (.wip [1, 2, 3, 4, 5] (.cons (.for_ (.nm 1) (.rg (.cons (.int 5) .nil)) (.cons (.set 2 (.call "_law_pen" [false, false] (.cons (.var 0) (.cons (.var 1) .nil)))) (.cons (.set 3 (.ix (.lst (.cons (.int 1) (.cons (.int 2) (.cons (.int 4) (.cons (.int 8) .nil))))) (.call "_law_take" [true, false] (.cons (.var 2) (.cons (.int 4) .nil))))) (.cons (.ifs (.not (.call "_law_right" [false, false] (.cons (.call "rounds" [false] (.cons (.var 3) .nil)) (.cons (.tup (.cons (.fz 3) (.cons (.bi .tuple (.cons (.call "_law_rounds" [false] (.cons (.var 3) .nil)) .nil)) .nil))) .nil)))) (.cons (.ret (.bl false)) .nil) .nil) (.cons (.set 3 (.bin .add (.int 1) (.call "_law_take" [true, false] (.cons (.var 2) (.cons (.int 8) .nil))))) (.cons (.ifs (.not (.call "_law_right" [false, false] (.cons (.call "brick" [false] (.cons (.var 3) .nil)) (.cons (.tup (.cons (.fz 3) (.cons (.bi .tuple (.cons (.call "_law_brick" [false] (.cons (.var 3) .nil)) .nil)) .nil))) .nil)))) (.cons (.ret (.bl false)) .nil) .nil) (.cons (.set 4 (.bin .add (.int 9) (.call "_law_take" [true, false] (.cons (.var 2) (.cons (.bin .pow (.int 10) (.int 59)) .nil))))) (.cons (.set 5 (.lst (.cons (.int 0) (.cons (.int 9) (.cons (.fz 4) (.cons (.bin .sub (.int 0) (.var 4)) (.cons (.neg (.int 1)) (.cons (.bl true) (.cons (.bl false) (.cons .non (.cons (.str (PySem.Str.ofString "4")) (.cons (.tup (.cons (.int 4) .nil)) (.cons (.lst (.cons (.int 4) .nil)) (.cons .emd (.cons (.str (PySem.Str.ofString "")) (.cons (.tup .nil) (.cons (.int 16) .nil))))))))))))))))) (.cons (.ifs (.not (.call "_law_refused" [false, false] (.cons (.int 1) (.cons (.ix (.var 5) (.call "_law_take" [true, false] (.cons (.var 2) (.cons (.int 15) .nil)))) .nil)))) (.cons (.ret (.bl false)) .nil) .nil) (.cons (.ifs (.not (.call "_law_refused" [false, false] (.cons (.int 0) (.cons (.ix (.bin .add (.var 5) (.lst (.cons (.int 3) (.cons (.int 5) (.cons (.int 6) (.cons (.int 7) .nil)))))) (.call "_law_take" [true, false] (.cons (.var 2) (.cons (.int 19) .nil)))) .nil)))) (.cons (.ret (.bl false)) .nil) .nil) (.wip [1, 2, 3, 4, 5] .nil))))))))))) (.cons (.ret (.and (.cons (.cmp .Eq (.bi .len (.cons (.ix (.call "rounds" [false] (.cons (.int 8) .nil)) (.int 1)) .nil)) (.int 36)) (.cons (.cmp .Eq (.bi .len (.cons (.ix (.call "brick" [false] (.cons (.int 8) .nil)) (.int 1)) .nil)) (.int 28)) .nil)))) .nil)))
abbrev d_law : Df := ⟨"law", ["script"], ["script", "k", "pen", "wide", "far", "some"], .all b_law, top 35⟩
def D : List Df := [d_is_whole, d_is_lane, d_is_wicket, d_makes_net, d_is_net, d_lifted, d_fold, d_block, d_checked_halved, d_rounds, d_brick, d_l_pen, d_l_take, d_l_lifted, d_l_block, d_l_brick, d_l_rounds, d_l_refused, d_l_right, d_law]
def GI : List (Str × Gc) := [("HALVED", .tup [1, 2, 4, 8]), ("MOST_LANES_nets", .int 8), ("MOST_WICKETS", .int 40), ("MOST_LANES_built", .int 8)]
def ES : List (Str × List (Str × Bool)) := [("NoNet", [("NoNet", true)]), ("NetError", [("NoNet", true)]), ("NoLane", [("NoNet", false)]), ("NoName", [("NoNet", false)]), ("NoRow", [("NoNet", false)]), ("NoText", [("NoNet", false)]), ("NoWalker", [("NoNet", false)]), ("TooMany", [("NoNet", false)])]
theorem chk : ∀ d ∈ D, dfC (tab D GI ES) d = true := by
  have h : (D.all (dfC (tab D GI ES))) = true := by decide +kernel
  exact List.all_eq_true.mp h
end K43
/-! what is drawn: pens, wickets, nets. -/
namespace SH
open PySem L2 RX
/-! ### helps -/
theorem bind_ok {α β : Type} {x : Option α} {f : α → Option β} {P : β → Prop} {Q : α → Prop} (h : ∃ a, x = some a ∧ Q a) (k : ∀ a, Q a → ∃ b, f a = some b ∧ P b) : ∃ b, Option.bind x f = some b ∧ P b := by
  obtain ⟨a, rfl, h⟩ := h
  exact k a h
theorem ok_some {β : Type} {b : β} {P : β → Prop} (h : P b) : ∃ c, some b = some c ∧ P c := ⟨b, rfl, h⟩
theorem lenOk_of {n : Nat} (h : n ≤ 10000) : lenOk n = true := by
  unfold lenOk
  have : n ≤ sizeLine := Nat.le_trans h (by decide)
  simpa using this
theorem modI_of {a b : Int} (h : 0 < b) : modI a b = some (a % b) := by
  unfold modI cPos; simp [h]
theorem divI_of {a b : Int} (h : 0 < b) (h2 : b < 2 ^ 256) : divI a b = some (a / b) := by
  unfold divI cDiv; simp only [h, h2, decide_true, Bool.and_self, if_true]
theorem mulI_l {a b : Int} (h0 : -18446744073709551616 < a) (h1 : a < 18446744073709551616) : mulI a b = some (a * b) := by
  unfold mulI
  have : cMul a b = true := cmul_l (by simp; omega)
  simp [this]
theorem mulI_r {a b : Int} (h0 : -18446744073709551616 < b) (h1 : b < 18446744073709551616) : mulI a b = some (a * b) := by
  unfold mulI
  have : cMul a b = true := cmul_r (by simp; omega)
  simp [this]
theorem rgO_of {a b : Int} (h0 : -100000 ≤ a) (h1 : a ≤ 100000) (h2 : -100000 ≤ b) (h3 : b ≤ 100000) : rgO a b = some (upto a b) := by
  unfold rgO
  rw [rgOk_of (by omega) (by omega) (by omega) (by omega)]
  rfl
theorem appO_of {α : Type} {l : List α} {v : α} (h : l.length < 10000) : appO l v = some (l ++ [v]) := by
  unfold appO
  have : l.length < sizeLine := Nat.lt_of_lt_of_le h (by decide)
  simp [this]
theorem addL_of {α : Type} {l l2 : List α} (h : l.length + l2.length ≤ 10000) : addL l l2 = some (l ++ l2) := by
  unfold addL; rw [lenOk_of h]; rfl
theorem atI_nat' {α : Type} {l : List α} {k : Int} (h0 : 0 ≤ k) (h1 : k < l.length) : ∃ v, atI l k = some v ∧ l[k.toNat]? = some v := by
  have hl : k.toNat < l.length := by omega
  refine ⟨l[k.toNat], ?_, by simp [hl]⟩
  unfold atI ixN
  rw [if_pos h0, if_pos h1]
  simp [hl]
theorem atI_of {α : Type} {l : List α} {k : Int} (h0 : 0 ≤ k) (h1 : k < l.length) : atI l k = l[k.toNat]? := by
  obtain ⟨v, e1, e2⟩ := atI_nat' h0 h1
  rw [e1, e2]
theorem atI_mem {α : Type} {l : List α} {k : Int} (h0 : 0 ≤ k) (h1 : k < l.length) : ∃ v, atI l k = some v ∧ v ∈ l := by
  obtain ⟨v, e1, e2⟩ := atI_nat' h0 h1
  exact ⟨v, e1, List.mem_of_getElem? e2⟩
theorem setO_of {α : Type} {l : List α} {k : Int} {v : α} (h0 : 0 ≤ k) (h1 : k < l.length) : setO l k v = some (l.set k.toNat v) := by
  unfold setO ixN
  rw [if_pos h0, if_pos h1]
theorem foldO_inv {σ α : Type} {f : σ → α → Option σ} {l : List α} {s : σ} (I : Nat → σ → Prop) (h0 : I 0 s) (h : ∀ (i : Nat) s x, i < l.length → x ∈ l → I i s → ∃ s', f s x = some s' ∧ I (i + 1) s') : ∃ s', foldO f l s = some s' ∧ I l.length s' := by
  have key : ∀ (l : List α) (s : σ) (i : Nat) (L : List α), (∀ (j : Nat) s x, j < L.length → x ∈ L → I j s → ∃ s', f s x = some s' ∧ I (j + 1) s') → (∀ x ∈ l, x ∈ L) → i + l.length = L.length → I i s → ∃ s', foldO f l s = some s' ∧ I L.length s' := by
    intro l
    induction l with
    | nil => intro s i L _ _ hl hi; exact ⟨s, rfl, by simp at hl; rw [← hl]; exact hi⟩
    | cons x l ih =>
      intro s i L h hm hl hi
      simp at hl
      obtain ⟨s', e, hi'⟩ := h i s x (by omega) (hm x List.mem_cons_self) hi
      unfold foldO
      rw [e]
      exact ih s' (i + 1) L h (fun y hy => hm y (List.mem_cons_of_mem _ hy)) (by omega) hi'
  exact key l s 0 l h (fun _ h => h) (by simp) h0
theorem mapO'_of {α δ : Type} {g : α → Option δ} {v : α → δ} : ∀ {l : List α}, (∀ x ∈ l, g x = some (v x)) → mapO' g l = some (l.map v)
  | [], _ => rfl
  | x :: l, h => by
    unfold mapO'
    rw [h x List.mem_cons_self, mapO'_of fun y hy => h y (List.mem_cons_of_mem _ hy)]
    rfl
theorem mapO_of {α δ : Type} {g : α → Option δ} {l : List α} (v : α → δ) (hl : l.length ≤ 10000) (h : ∀ x ∈ l, g x = some (v x)) : mapO g l = some (l.map v) := by
  unfold mapO; rw [lenOk_of hl]; exact mapO'_of h
theorem filO'_of {α δ : Type} {g : α → Option (Option δ)} {v : α → Option δ} : ∀ {l : List α}, (∀ x ∈ l, g x = some (v x)) → filO' g l = some (l.filterMap v)
  | [], _ => rfl
  | x :: l, h => by
    unfold filO'
    rw [h x List.mem_cons_self, filO'_of fun y hy => h y (List.mem_cons_of_mem _ hy)]
    show some (optL (v x) (l.filterMap v)) = _
    rw [List.filterMap_cons]
    cases v x <;> rfl
theorem filO_of {α δ : Type} {g : α → Option (Option δ)} {l : List α} (v : α → Option δ) (hl : l.length ≤ 10000) (h : ∀ x ∈ l, g x = some (v x)) : filO g l = some (l.filterMap v) := by
  unfold filO; rw [lenOk_of hl]; exact filO'_of h
/-! ### the pen -/
def Pen (p : List Int) : Prop := p.length = 3
theorem Pen.elim {p : List Int} (h : Pen p) : ∃ a b c, p = [a, b, c] := by
  match p, h with
  | [a, b, c], _ => exact ⟨a, b, c, rfl⟩
theorem take_ok {p : List Int} {n : Int} (hp : Pen p) (h0 : 0 < n) (h1 : n < 2 ^ 256) : ∃ r, l_take p n = some r ∧ 0 ≤ r.1 ∧ r.1 < n ∧ Pen r.2 := by
  obtain ⟨a, b, c, rfl⟩ := hp.elim
  unfold l_take
  have e0 : ∀ a b c : Int, atI [a, b, c] 0 = some a := fun _ _ _ => rfl
  have e1 : ∀ a b c : Int, atI [a, b, c] 1 = some b := fun _ _ _ => rfl
  have e2 : ∀ a b c : Int, atI [a, b, c] 2 = some c := fun _ _ _ => rfl
  have s0 : ∀ x a b c : Int, setO [a, b, c] 0 x = some [x, b, c] := fun _ _ _ _ => rfl
  have s1 : ∀ x a b c : Int, setO [a, b, c] 1 x = some [a, x, c] := fun _ _ _ _ => rfl
  by_cases ha : 0 < a
  · simp only [e0, e1, e2, s0, s1, Option.bind_some, ha, decide_true, if_true, modI_of h0, divI_of h0 h1]
    exact ⟨_, rfl, Int.emod_nonneg _ (by omega), Int.emod_lt_of_pos _ h0, rfl⟩
  · simp only [e0, e1, e2, s0, s1, Option.bind_some, ha, decide_false, Bool.false_eq_true, if_false]
    generalize hx : ((c + 7 * (b + 1)) * 48271) % (2147483629 : Int) = x
    have x0 : 0 ≤ x := by rw [← hx]; exact Int.emod_nonneg _ (by decide)
    have x1 : x < 2147483629 := by rw [← hx]; exact Int.emod_lt_of_pos _ (by decide)
    rw [mulI_l (by omega) (by omega)]
    simp only [Option.bind_some]
    generalize hy : (x * x + 69621 * (b + 1)) % (2147483587 : Int) = y
    have y0 : 0 ≤ y := by rw [← hy]; exact Int.emod_nonneg _ (by decide)
    have y1 : y < 2147483587 := by rw [← hy]; exact Int.emod_lt_of_pos _ (by decide)
    rw [mulI_l (by omega) (by omega)]
    simp only [Option.bind_some, modI_of h0]
    exact ⟨_, rfl, Int.emod_nonneg _ (by omega), Int.emod_lt_of_pos _ h0, rfl⟩
theorem pen_ok (ns : List Int) {k : Int} (hl : ns.length ≤ 63) (h0 : 0 ≤ k) : ∃ p, l_pen ns k = some p ∧ Pen p := by
  unfold l_pen
  simp only [Option.bind_some]
  refine bind_ok (Q := fun _ => True) ?_ fun c _ => ?_
  · by_cases h : (0 : Int) < ns.length
    · simp only [h, decide_true, if_true]
      rw [modI_of h]
      simp only [Option.bind_some]
      obtain ⟨v, e, _⟩ := atI_nat' (l := ns) (k := k % ns.length) (Int.emod_nonneg _ (by omega)) (Int.emod_lt_of_pos _ h)
      rw [e]
      simp only [Option.bind_some]
      split <;> exact ⟨_, rfl, trivial⟩
    · simp only [h, decide_false, Bool.false_eq_true, if_false]
      exact ⟨_, rfl, trivial⟩
  · split <;> exact ⟨_, rfl, rfl⟩
/-! ### wickets, nets -/
abbrev Wk := List (Int × Int)
def WOk (w : Int) (ws : Wk) : Prop := ∀ p ∈ ws, (0 ≤ p.1 ∧ p.1 < w) ∧ (0 ≤ p.2 ∧ p.2 < w) ∧ p.1 ≠ p.2
theorem WOk.nil {w : Int} : WOk w [] := fun _ h => by cases h
theorem WOk.app {w : Int} {a b : Wk} (ha : WOk w a) (hb : WOk w b) : WOk w (a ++ b) := fun p hp => by
  rcases List.mem_append.mp hp with h | h
  · exact ha p h
  · exact hb p h
theorem WOk.one {w a b : Int} (h1 : 0 ≤ a ∧ a < w) (h2 : 0 ≤ b ∧ b < w) (h3 : a ≠ b) : WOk w [(a, b)] := fun p hp => by
  simp at hp; subst hp; exact ⟨h1, h2, h3⟩
theorem WOk.sub {w : Int} {a b : Wk} (h : WOk w a) (hs : ∀ p ∈ b, p ∈ a) : WOk w b := fun p hp => h p (hs p hp)
theorem cutL_sub {α : Type} {l : List α} {lo hi : Option Int} {x : α} (h : x ∈ cutL l lo hi) : x ∈ l := List.mem_of_mem_drop (List.mem_of_mem_take h)
theorem cutL_len {α : Type} {l : List α} {lo hi : Option Int} : (cutL l lo hi).length ≤ l.length := by
  unfold cutL
  rw [List.length_take, List.length_drop]; omega
theorem cutL_to {α : Type} {l : List α} {k : Int} (h : 0 ≤ k) : cutL l none (some k) = l.take k.toNat := by
  unfold cutL
  show (l.drop 0).take ((if k < 0 then (k + (l.length : Int)).toNat else min k.toNat l.length) - 0) = _
  rw [if_neg (by omega), List.drop_zero, Nat.sub_zero]
  rcases Nat.le_total k.toNat l.length with q | q
  · rw [Nat.min_eq_left q]
  · rw [Nat.min_eq_right q, List.take_of_length_le (Nat.le_refl _), List.take_of_length_le q]
theorem cutL_from {α : Type} {l : List α} {k : Int} (h : 0 ≤ k) : cutL l (some k) none = l.drop k.toNat := by
  unfold cutL
  show (l.drop (if k < 0 then (k + (l.length : Int)).toNat else min k.toNat l.length)).take (l.length - (if k < 0 then (k + (l.length : Int)).toNat else min k.toNat l.length)) = _
  rw [if_neg (by omega)]
  rcases Nat.le_total k.toNat l.length with q | q
  · rw [Nat.min_eq_left q, List.take_of_length_le (by rw [List.length_drop]; omega)]
  · rw [Nat.min_eq_right q, List.drop_of_length_le (Nat.le_refl _), List.drop_of_length_le q]
    simp
theorem wickets_ok {p : List Int} {w m : Int} (hp : Pen p) (w0 : 1 ≤ w) (w1 : w ≤ 8) (m0 : 0 ≤ m) (m1 : m ≤ 100) : ∃ r, l_wickets p w m = some r ∧ WOk w r.1 ∧ (r.1.length : Int) ≤ m ∧ Pen r.2 := by
  unfold l_wickets
  simp only [Option.bind_some]
  have hq : ∃ q : Int, mulI m (if decide (1 < w) = true then 1 else 0) = some q ∧ 0 ≤ q ∧ q ≤ m ∧ (q ≠ 0 → 1 < w) := by
    by_cases h : 1 < w
    · simp only [h, decide_true, if_true]
      exact ⟨_, mulI_l (by omega) (by omega), by omega, by omega, fun _ => trivial⟩
    · simp only [h, decide_false, Bool.false_eq_true, if_false]
      exact ⟨_, mulI_l (by omega) (by omega), by omega, by omega, fun z => absurd (Int.mul_zero m) z⟩
  obtain ⟨q, e, q0, q1, q2⟩ := hq
  rw [e]
  simp only [Option.bind_some]
  rw [rgO_of (by omega) (by omega) (by omega) (by omega)]
  simp only [Option.bind_some]
  refine bind_ok (foldO_inv (I := fun i st => Pen st.1 ∧ WOk w st.2 ∧ st.2.length = i) ⟨hp, WOk.nil, rfl⟩ fun i st x hi hx ⟨h1, h2, h3⟩ => ?_) fun st ⟨h1, h2, h3⟩ => ?_
  · rw [mem_upto] at hx
    rw [upto_len] at hi
    have hw := q2 (by omega)
    unfold l_wickets_L1
    obtain ⟨a, ea, a0, a1, pa⟩ := take_ok (n := w) h1 (by omega) (by omega)
    rw [ea]
    simp only [Option.bind_some]
    obtain ⟨b, eb, b0, b1, pb⟩ := take_ok (n := w - 1) pa (by omega) (by omega)
    rw [eb]
    simp only [Option.bind_some, modI_of (show (0 : Int) < w by omega)]
    rw [appO_of (by omega)]
    refine ⟨_, rfl, pb, h2.app (WOk.one ⟨a0, a1⟩ ⟨Int.emod_nonneg _ (by omega), Int.emod_lt_of_pos _ (by omega)⟩ fun z => ?_), by simp [h3]⟩
    rcases Int.lt_or_le (a.1 + 1 + b.1) w with c | c
    · rw [Int.emod_eq_of_lt (by omega) c] at z; omega
    · rw [← Int.sub_emod_right, Int.emod_eq_of_lt (by omega) (by omega)] at z; omega
  · rw [upto_len] at h3
    exact ⟨_, rfl, h2, by show (st.2.length : Int) ≤ m; omega, h1⟩
def wchk (w : Int) (n : Nat) : Option Wk → Bool
  | some ws => ws.all (fun p => decide (0 ≤ p.1) && decide (p.1 < w) && decide (0 ≤ p.2) && decide (p.2 < w) && decide (p.1 ≠ p.2)) && decide (ws.length ≤ n)
  | none => false
theorem wchk_ok {w : Int} {n : Nat} {o : Option Wk} (h : wchk w n o = true) : ∃ ws, o = some ws ∧ WOk w ws ∧ ws.length ≤ n := by
  cases o with
  | none => cases h
  | some ws =>
    refine ⟨ws, rfl, fun p hp => ?_, ?_⟩
    · simp only [wchk, Bool.and_eq_true, List.all_eq_true, decide_eq_true_eq] at h
      obtain ⟨⟨⟨⟨h1, h2⟩, h3⟩, h4⟩, h5⟩ := h.1 p hp
      exact ⟨⟨h1, h2⟩, ⟨h3, h4⟩, h5⟩
    · simp only [wchk, Bool.and_eq_true, decide_eq_true_eq] at h
      exact h.2
def Wd (w : Int) : Prop := w = 1 ∨ w = 2 ∨ w = 4 ∨ w = 8
theorem folded_ok {w : Int} (h : Wd w) : ∃ ws, l_folded 6 w = some ws ∧ WOk w ws ∧ ws.length ≤ 40 := by
  rcases h with rfl | rfl | rfl | rfl <;> exact wchk_ok (by decide +kernel)
theorem rounds_ok {w : Int} (h : Wd w) : ∃ ws, l_rounds w = some ws ∧ WOk w ws ∧ ws.length ≤ 40 := by
  rcases h with rfl | rfl | rfl | rfl <;> exact wchk_ok (by decide +kernel)
theorem brick_ok {w : Int} (h0 : 1 ≤ w) (h1 : w ≤ 8) : ∃ ws, l_brick w = some ws ∧ WOk w ws ∧ ws.length ≤ 40 := by
  have : w = 1 ∨ w = 2 ∨ w = 3 ∨ w = 4 ∨ w = 5 ∨ w = 6 ∨ w = 7 ∨ w = 8 := by omega
  rcases this with rfl | rfl | rfl | rfl | rfl | rfl | rfl | rfl <;> exact wchk_ok (by decide +kernel)
theorem bent_ok {p : List Int} {w : Int} {ws : Wk} (hp : Pen p) (w0 : 1 ≤ w) (w1 : w ≤ 8) (h : WOk w ws) (hl : ws.length ≤ 50) : ∃ r, l_bent p w ws = some r ∧ WOk w r.1 ∧ r.1.length ≤ ws.length + 2 ∧ Pen r.2 := by
  unfold l_bent
  by_cases hn : ws = []
  · subst hn
    exact ⟨_, rfl, WOk.nil, by simp, hp⟩
  · simp only [hn, decide_false, Bool.false_eq_true, if_false]
    have hpos : 0 < ws.length := Nat.pos_of_ne_zero fun z => hn (List.length_eq_zero_iff.mp z)
    obtain ⟨a, ea, a0, a1, pa⟩ := take_ok (n := (ws.length : Int)) hp (by omega) (by omega)
    rw [ea]
    simp only [Option.bind_some]
    obtain ⟨x, ex, mx⟩ := atI_mem a0 a1
    rw [ex]
    simp only [Option.bind_some]
    obtain ⟨b, eb, b0, b1, pb⟩ := take_ok (n := 4) pa (by omega) (by omega)
    rw [eb]
    simp only [Option.bind_some]
    obtain ⟨x1, x2, x3⟩ := h x mx
    have em : mulL [(x.1, x.2)] 2 = some [(x.1, x.2), (x.1, x.2)] := rfl
    rw [em]
    simp only [Option.bind_some]
    obtain ⟨v, ev, v1, v2, pv⟩ := wickets_ok (m := 1) pb w0 w1 (by omega) (by omega)
    rw [ev]
    simp only [Option.bind_some]
    rw [addL_of (by simp; omega)]
    simp only [Option.bind_some]
    have o1 : WOk w [(x.1, x.2)] := WOk.one x1 x2 x3
    obtain ⟨u, eu, mu⟩ := atI_mem (l := [[], [(x.2, x.1)], [(x.1, x.2), (x.1, x.2)], v.1 ++ [(x.1, x.2)]]) b0 b1
    have hu : WOk w u ∧ u.length ≤ 2 := by
      simp only [List.mem_cons, List.not_mem_nil, or_false] at mu
      rcases mu with rfl | rfl | rfl | rfl
      · exact ⟨WOk.nil, by simp⟩
      · exact ⟨WOk.one x2 x1 fun z => x3 z.symm, by simp⟩
      · exact ⟨o1.app o1, by simp⟩
      · exact ⟨v1.app o1, by simp; omega⟩
    rw [eu]
    simp only [Option.bind_some]
    have c1 := cutL_len (l := ws) (lo := none) (hi := some a.1)
    have c2 := cutL_len (l := ws) (lo := some (a.1 + 1)) (hi := none)
    rw [addL_of (by omega)]
    simp only [Option.bind_some]
    rw [addL_of (by rw [List.length_append]; omega)]
    refine ⟨_, rfl, ((h.sub fun _ => cutL_sub).app hu.1).app (h.sub fun _ => cutL_sub), ?_, pv⟩
    simp only [List.length_append]
    rw [cutL_to a0, cutL_from (by omega), List.length_take, List.length_drop]
    omega
def Net (n : Int × Wk) : Prop := 1 ≤ n.1 ∧ n.1 ≤ 8 ∧ WOk n.1 n.2 ∧ n.2.length ≤ 40
theorem net_ok {p : List Int} (hp : Pen p) : ∃ r, l_net p = some r ∧ Net r.1 ∧ Pen r.2 := by
  unfold l_net
  obtain ⟨a, ea, a0, a1, pa⟩ := take_ok (n := 8) hp (by omega) (by omega)
  rw [ea]
  simp only [Option.bind_some]
  by_cases h3 : a.1 < 3
  · simp only [h3, decide_true, if_true]
    obtain ⟨b, eb, b0, b1, pb⟩ := take_ok (n := 8) pa (by omega) (by omega)
    rw [eb]
    simp only [Option.bind_some]
    obtain ⟨x, ex, mx⟩ := atI_mem (l := [(4 : Int), 12, 41]) (k := a.1) a0 (by simp; omega)
    have hx : 4 ≤ x ∧ x ≤ 41 := by
      simp only [List.mem_cons, List.not_mem_nil, or_false] at mx
      rcases mx with rfl | rfl | rfl <;> omega
    rw [ex]
    simp only [Option.bind_some]
    obtain ⟨c, ec, c0, c1, pc⟩ := take_ok (n := x) pb (by omega) (by omega)
    rw [ec]
    simp only [Option.bind_some]
    obtain ⟨v, ev, v1, v2, pv⟩ := wickets_ok (w := 1 + b.1) (m := c.1) pc (by omega) (by omega) (by omega) (by omega)
    rw [ev]
    exact ⟨_, rfl, ⟨by show 1 ≤ 1 + b.1; omega, by show 1 + b.1 ≤ 8; omega, v1, by show v.1.length ≤ 40; omega⟩, pv⟩
  · simp only [h3, decide_false, Bool.false_eq_true, if_false]
    obtain ⟨b, eb, b0, b1, pb⟩ := take_ok (n := 5) pa (by omega) (by omega)
    rw [eb]
    simp only [Option.bind_some]
    obtain ⟨w, ew, mw⟩ := atI_mem (l := [(2 : Int), 4, 4, 8, 1]) (k := b.1) b0 (by simp; omega)
    have hw : Wd w := by
      simp only [List.mem_cons, List.not_mem_nil, or_false] at mw
      unfold Wd
      rcases mw with rfl | rfl | rfl | rfl | rfl <;> simp
    have hw2 : 1 ≤ w ∧ w ≤ 8 := by unfold Wd at hw; omega
    rw [ew]
    simp only [Option.bind_some]
    obtain ⟨f1, e1, g1, l1⟩ := folded_ok hw
    obtain ⟨f2, e2, g2, l2⟩ := rounds_ok hw
    rw [e1, Option.bind_some, e2, Option.bind_some]
    obtain ⟨c, ec, c0, c1, pc⟩ := take_ok (n := 2) pb (by omega) (by omega)
    rw [ec]
    simp only [Option.bind_some]
    obtain ⟨f, ef, mf⟩ := atI_mem (l := [f1, f2]) c0 c1
    have hf : WOk w f ∧ f.length ≤ 40 := by
      simp only [List.mem_cons, List.not_mem_nil, or_false] at mf
      rcases mf with rfl | rfl
      · exact ⟨g1, l1⟩
      · exact ⟨g2, l2⟩
    rw [ef]
    simp only [Option.bind_some]
    refine bind_ok (Q := fun s => Pen s.1 ∧ 1 ≤ s.2.1 ∧ s.2.1 ≤ 8 ∧ WOk s.2.1 s.2.2 ∧ s.2.2.length ≤ 40) ?_ fun s ⟨q1, q2, q3, q4, q5⟩ => ?_
    · split
      · obtain ⟨d, ed, d0, d1, pd⟩ := take_ok (n := 8) pc (by omega) (by omega)
        rw [ed]
        simp only [Option.bind_some]
        obtain ⟨f3, e3, g3, l3⟩ := brick_ok (w := 1 + d.1) (by omega) (by omega)
        rw [e3]
        exact ⟨_, rfl, pd, by show 1 ≤ 1 + d.1; omega, by show 1 + d.1 ≤ 8; omega, g3, l3⟩
      · exact ⟨_, rfl, pc, hw2.1, hw2.2, hf.1, hf.2⟩
    refine bind_ok (Q := fun t => Pen t.1 ∧ WOk s.2.1 t.2 ∧ t.2.length ≤ 42) ?_ fun t ⟨r1, r2, r3⟩ => ?_
    · split
      · obtain ⟨d, ed, d1, d2, pd⟩ := bent_ok q1 q2 q3 q4 (by omega)
        rw [ed]
        exact ⟨_, rfl, pd, d1, by show d.1.length ≤ 42; omega⟩
      · exact ⟨_, rfl, q1, q4, by show s.2.2.length ≤ 42; omega⟩
    refine bind_ok (Q := fun t => Pen t.1 ∧ WOk s.2.1 t.2 ∧ t.2.length ≤ 50) ?_ fun u ⟨u1, u2, u3⟩ => ?_
    · split
      · obtain ⟨d, ed, d0, d1, pd⟩ := take_ok (n := 4) r1 (by omega) (by omega)
        rw [ed]
        simp only [Option.bind_some]
        obtain ⟨v, ev, v1, v2, pv⟩ := wickets_ok (m := d.1) pd q2 q3 (by omega) (by omega)
        rw [ev]
        simp only [Option.bind_some]
        rw [addL_of (by omega)]
        exact ⟨_, rfl, pv, v1.app r2, by simp; omega⟩
      · exact ⟨_, rfl, r1, r2, by show t.2.length ≤ 50; omega⟩
    refine bind_ok (Q := fun t => Pen t.1 ∧ WOk s.2.1 t.2) ?_ fun v ⟨v1, v2⟩ => ?_
    · split
      · obtain ⟨d, ed, d0, d1, pd⟩ := take_ok (n := 3) u1 (by omega) (by omega)
        rw [ed]
        simp only [Option.bind_some]
        obtain ⟨v, ev, v1, v2, pv⟩ := wickets_ok (m := d.1) pd q2 q3 (by omega) (by omega)
        rw [ev]
        simp only [Option.bind_some]
        rw [addL_of (by omega)]
        exact ⟨_, rfl, pv, u2.app v1⟩
      · exact ⟨_, rfl, u1, u2⟩
    refine ⟨_, rfl, ⟨q2, q3, v2.sub fun _ => cutL_sub, ?_⟩, v1⟩
    show (cutL v.2 none (some 40)).length ≤ 40
    rw [cutL_to (by decide), List.length_take]
    show min (40 : Int).toNat _ ≤ 40
    have : (40 : Int).toNat = 40 := rfl
    omega
end SH
set_option synthInstance.maxHeartbeats 400000
set_option synthInstance.maxSize 2000
namespace K43
open PySem L2 RX SH
theorem ok_l_pen (N : Nat) (hN : 1 ≤ N) (script : List Int) (k : Int) : Le (callD D N "_law_pen" [(.brw false (List.map AV.int script)), (.val (AV.int k))]) (SH.l_pen script k) (fun r => some (.ok (AV.frs (List.map AV.int r)) [none, none])) := by
  obtain ⟨N, rfl⟩ : ∃ M, N = M + 1 := ⟨N - 1, by omega⟩
  replace hN : 0 ≤ N := by omega
  refine y_def (d := d_l_pen) (E := [some (.brw false (List.map AV.int script)), some (.val (AV.int k)), none]) rfl rfl rfl ?_
  show Le (bx (evSs (callD D N) b_l_pen _) _ _) _ _
  unfold b_l_pen SH.l_pen
  refine y_set ?_
  refine y_bin ?_
  refine y_bin ?_
  refine y_rfl (AV.int (40009 : Int)) rfl ?_
  refine y_rfl (AV.int k) rfl ?_
  refine y_tot (AV.int ((40009 : Int) * k)) (op_mulT (by exact cmul_l rfl)) ?_
  refine y_rfl (AV.int (11 : Int)) rfl ?_
  refine y_tot (AV.int (((40009 : Int) * k) + (11 : Int))) rfl ?_
  refine y_gen (en := fun (l : Int) => (AV.int l)) ?_
  intro cell
  refine y_setK (env' := [some (.brw false (List.map AV.int script)), some (.val (AV.int k)), some (.val (AV.int cell))]) rfl ?_
  refine y_nx ?_
  refine y_ifs ?_
  refine y_cmp ?_
  refine y_bi ?_
  refine y_evs1 ?_
  refine y_brw rfl ?_
  refine y_evs0 ?_
  refine y_tot (AV.int (script.length : Int)) (op_len (l := script) (e := AV.int) (by intro _ z; cases z) rfl) ?_
  refine y_rfl (AV.int (0 : Int)) rfl ?_
  refine y_tot (AV.bl (decide ((0 : Int) < (script.length : Int)))) rfl ?_
  refine y_asB ?_
  refine y_join (J := fun (cell4 : Int) => some (.ok .nx [some (.brw false (List.map AV.int script)), some (.val (AV.int k)), some (.val (AV.int cell4))])) ?_ ?_ ?_
  · intro _
    refine y_in ?_
    refine y_set ?_
    refine y_ix ?_
    refine y_brw rfl ?_
    refine y_bin ?_
    refine y_rfl (AV.int k) rfl ?_
    refine y_bi ?_
    refine y_evs1 ?_
    refine y_brw rfl ?_
    refine y_evs0 ?_
    refine y_tot (AV.int (script.length : Int)) (op_len (l := script) (e := AV.int) (by intro _ z; cases z) rfl) ?_
    refine y_part (en := AV.int) op_mod ?_
    intro q
    refine y_part (en := AV.int) (op_ix (l := script) (by intro _ z; cases z) rfl) ?_
    intro q2
    refine y_setK (env' := [some (.brw false (List.map AV.int script)), some (.val (AV.int k)), some (.val (AV.int q2))]) rfl ?_
    refine y_nx ?_
    refine y_ifs ?_
    refine y_cmp ?_
    refine y_rfl (AV.int k) rfl ?_
    refine y_bi ?_
    refine y_evs1 ?_
    refine y_brw rfl ?_
    refine y_evs0 ?_
    refine y_tot (AV.int (script.length : Int)) (op_len (l := script) (e := AV.int) (by intro _ z; cases z) rfl) ?_
    refine y_tot (AV.bl (decide ((script.length : Int) ≤ k))) rfl ?_
    refine y_asB ?_
    refine y_join (J := fun (cell3 : Int) => some (.ok .nx [some (.brw false (List.map AV.int script)), some (.val (AV.int k)), some (.val (AV.int cell3))])) ?_ ?_ ?_
    · intro _
      refine y_in ?_
      refine y_set ?_
      refine y_bin ?_
      refine y_bin ?_
      refine y_rfl (AV.int q2) rfl ?_
      refine y_rfl (AV.int (2147483629 : Int)) rfl ?_
      refine y_tot (AV.int (q2 % (2147483629 : Int))) (op_modT rfl) ?_
      refine y_bin ?_
      refine y_rfl (AV.int (104729 : Int)) rfl ?_
      refine y_rfl (AV.int k) rfl ?_
      refine y_tot (AV.int ((104729 : Int) * k)) (op_mulT (by exact cmul_l rfl)) ?_
      refine y_tot (AV.int ((q2 % (2147483629 : Int)) + ((104729 : Int) * k))) rfl ?_
      refine y_gen (en := fun (l : Int) => (AV.int l)) ?_
      intro cell2
      refine y_setK (env' := [some (.brw false (List.map AV.int script)), some (.val (AV.int k)), some (.val (AV.int cell2))]) rfl ?_
      refine y_nx ?_
      refine y_nil ?_
      exact y_end rfl
    · intro _
      refine y_in ?_
      refine y_nil ?_
      exact y_end rfl
    intro cell3
    refine y_ok ?_
    refine y_nx ?_
    refine y_nil ?_
    exact y_end rfl
  · intro _
    refine y_in ?_
    refine y_nil ?_
    exact y_end rfl
  intro cell4
  refine y_ok ?_
  refine y_nx ?_
  refine y_ifs ?_
  refine y_cmp ?_
  refine y_rfl (AV.int cell4) rfl ?_
  refine y_bin ?_
  refine y_rfl (AV.int (10 : Int)) rfl ?_
  refine y_rfl (AV.int (18 : Int)) rfl ?_
  refine y_tot (AV.int ((10 : Int) ^ 18)) (op_powT (n := 18) rfl) ?_
  refine y_tot (AV.bl (decide (((10 : Int) ^ 18) ≤ cell4))) rfl ?_
  refine y_asB ?_
  refine y_if ?_ ?_
  · intro _
    refine y_ret ?_
    refine y_lst ?_
    refine y_evs1 ?_
    refine y_bin ?_
    refine y_rfl (AV.int cell4) rfl ?_
    refine y_bin ?_
    refine y_rfl (AV.int (10 : Int)) rfl ?_
    refine y_rfl (AV.int (18 : Int)) rfl ?_
    refine y_tot (AV.int ((10 : Int) ^ 18)) (op_powT (n := 18) rfl) ?_
    refine y_tot (AV.int (cell4 - ((10 : Int) ^ 18))) rfl ?_
    refine y_evs1 ?_
    refine y_rfl (AV.int (0 : Int)) rfl ?_
    refine y_evs1 ?_
    refine y_bin ?_
    refine y_bin ?_
    refine y_rfl (AV.int cell4) rfl ?_
    refine y_rfl (AV.int (2147483587 : Int)) rfl ?_
    refine y_tot (AV.int (cell4 % (2147483587 : Int))) (op_modT rfl) ?_
    refine y_rfl (AV.int k) rfl ?_
    refine y_tot (AV.int ((cell4 % (2147483587 : Int)) + k)) rfl ?_
    refine y_evs0 ?_
    refine y_tot (AV.frs (List.map AV.int ([(cell4 - ((10 : Int) ^ 18)), (0 : Int), ((cell4 % (2147483587 : Int)) + k)]))) rfl ?_
    exact y_end rfl
  · intro _
    refine y_nil ?_
    refine y_nx ?_
    refine y_ret ?_
    refine y_lst ?_
    refine y_evs1 ?_
    refine y_rfl (AV.int (0 : Int)) rfl ?_
    refine y_evs1 ?_
    refine y_rfl (AV.int (0 : Int)) rfl ?_
    refine y_evs1 ?_
    refine y_bin ?_
    refine y_bin ?_
    refine y_rfl (AV.int cell4) rfl ?_
    refine y_rfl (AV.int (2147483587 : Int)) rfl ?_
    refine y_tot (AV.int (cell4 % (2147483587 : Int))) (op_modT rfl) ?_
    refine y_bin ?_
    refine y_rfl (AV.int (31 : Int)) rfl ?_
    refine y_rfl (AV.int k) rfl ?_
    refine y_tot (AV.int ((31 : Int) * k)) (op_mulT (by exact cmul_l rfl)) ?_
    refine y_tot (AV.int ((cell4 % (2147483587 : Int)) + ((31 : Int) * k))) rfl ?_
    refine y_evs0 ?_
    refine y_tot (AV.frs (List.map AV.int ([(0 : Int), (0 : Int), ((cell4 % (2147483587 : Int)) + ((31 : Int) * k))]))) rfl ?_
    exact y_end rfl
theorem ok_l_take (N : Nat) (hN : 1 ≤ N) (pen : List Int) (size : Int) : Le (callD D N "_law_take" [(.io (List.map AV.int pen)), (.val (AV.int size))]) (SH.l_take pen size) (fun r => some (.ok (AV.int r.1) [some (List.map AV.int r.2), none])) := by
  obtain ⟨N, rfl⟩ : ∃ M, N = M + 1 := ⟨N - 1, by omega⟩
  replace hN : 0 ≤ N := by omega
  refine y_def (d := d_l_take) (E := [some (.io (List.map AV.int pen)), some (.val (AV.int size)), none, none]) rfl rfl rfl ?_
  show Le (bx (evSs (callD D N) b_l_take _) _ _) _ _
  unfold b_l_take SH.l_take
  refine y_ifs ?_
  refine y_cmp ?_
  refine y_ix ?_
  refine y_io rfl ?_
  refine y_rfl (AV.int (0 : Int)) rfl ?_
  refine y_part (en := AV.int) (op_ix (l := pen) (by intro _ z; cases z) rfl) ?_
  intro q
  refine y_rfl (AV.int (0 : Int)) rfl ?_
  refine y_tot (AV.bl (decide ((0 : Int) < q))) rfl ?_
  refine y_asB ?_
  refine y_if ?_ ?_
  · intro _
    refine y_set ?_
    refine y_bin ?_
    refine y_ix ?_
    refine y_io rfl ?_
    refine y_rfl (AV.int (0 : Int)) rfl ?_
    refine y_part (en := AV.int) (op_ix (l := pen) (by intro _ z; cases z) rfl) ?_
    intro q2
    refine y_rfl (AV.int size) rfl ?_
    refine y_part (en := AV.int) op_mod ?_
    intro q3
    refine y_setK (env' := [some (.io (List.map AV.int pen)), some (.val (AV.int size)), some (.val (AV.int q3)), none]) rfl ?_
    refine y_nx ?_
    refine y_stx ?_
    refine y_bin ?_
    refine y_ix ?_
    refine y_io rfl ?_
    refine y_rfl (AV.int (0 : Int)) rfl ?_
    refine y_part (en := AV.int) (op_ix (l := pen) (by intro _ z; cases z) rfl) ?_
    intro q4
    refine y_rfl (AV.int size) rfl ?_
    refine y_part (en := AV.int) op_div ?_
    intro q5
    refine y_mut rfl ?_
    refine y_rfl (AV.int (0 : Int)) rfl ?_
    refine y_stxE (en := AV.int) (E' := fun pen2 => [some (.io (List.map AV.int pen2)), some (.val (AV.int size)), some (.val (AV.int q3)), none]) rfl rfl rfl (fun _ => rfl) ?_
    intro pen2
    refine y_nx ?_
    refine y_ret ?_
    refine y_rfl (AV.int q3) rfl ?_
    exact y_end rfl
  · intro _
    refine y_nil ?_
    refine y_nx ?_
    refine y_stx ?_
    refine y_bin ?_
    refine y_ix ?_
    refine y_io rfl ?_
    refine y_rfl (AV.int (1 : Int)) rfl ?_
    refine y_part (en := AV.int) (op_ix (l := pen) (by intro _ z; cases z) rfl) ?_
    intro q6
    refine y_rfl (AV.int (1 : Int)) rfl ?_
    refine y_tot (AV.int (q6 + (1 : Int))) rfl ?_
    refine y_mut rfl ?_
    refine y_rfl (AV.int (1 : Int)) rfl ?_
    refine y_stxE (en := AV.int) (E' := fun pen3 => [some (.io (List.map AV.int pen3)), some (.val (AV.int size)), none, none]) rfl rfl rfl (fun _ => rfl) ?_
    intro pen3
    refine y_nx ?_
    refine y_set ?_
    refine y_bin ?_
    refine y_bin ?_
    refine y_bin ?_
    refine y_ix ?_
    refine y_io rfl ?_
    refine y_rfl (AV.int (2 : Int)) rfl ?_
    refine y_part (en := AV.int) (op_ix (l := pen3) (by intro _ z; cases z) rfl) ?_
    intro q7
    refine y_bin ?_
    refine y_rfl (AV.int (7 : Int)) rfl ?_
    refine y_ix ?_
    refine y_io rfl ?_
    refine y_rfl (AV.int (1 : Int)) rfl ?_
    refine y_part (en := AV.int) (op_ix (l := pen3) (by intro _ z; cases z) rfl) ?_
    intro q8
    refine y_tot (AV.int ((7 : Int) * q8)) (op_mulT (by exact cmul_l rfl)) ?_
    refine y_tot (AV.int (q7 + ((7 : Int) * q8))) rfl ?_
    refine y_rfl (AV.int (48271 : Int)) rfl ?_
    refine y_tot (AV.int ((q7 + ((7 : Int) * q8)) * (48271 : Int))) (op_mulT (by exact cmul_r rfl)) ?_
    refine y_rfl (AV.int (2147483629 : Int)) rfl ?_
    refine y_tot (AV.int (((q7 + ((7 : Int) * q8)) * (48271 : Int)) % (2147483629 : Int))) (op_modT rfl) ?_
    refine y_gen (en := fun (l : Int) => (AV.int l)) ?_
    intro number
    refine y_setK (env' := [some (.io (List.map AV.int pen3)), some (.val (AV.int size)), none, some (.val (AV.int number))]) rfl ?_
    refine y_nx ?_
    refine y_set ?_
    refine y_bin ?_
    refine y_bin ?_
    refine y_bin ?_
    refine y_rfl (AV.int number) rfl ?_
    refine y_rfl (AV.int number) rfl ?_
    refine y_part (en := AV.int) op_mul ?_
    intro q9
    refine y_bin ?_
    refine y_rfl (AV.int (69621 : Int)) rfl ?_
    refine y_ix ?_
    refine y_io rfl ?_
    refine y_rfl (AV.int (1 : Int)) rfl ?_
    refine y_part (en := AV.int) (op_ix (l := pen3) (by intro _ z; cases z) rfl) ?_
    intro q10
    refine y_tot (AV.int ((69621 : Int) * q10)) (op_mulT (by exact cmul_l rfl)) ?_
    refine y_tot (AV.int (q9 + ((69621 : Int) * q10))) rfl ?_
    refine y_rfl (AV.int (2147483587 : Int)) rfl ?_
    refine y_tot (AV.int ((q9 + ((69621 : Int) * q10)) % (2147483587 : Int))) (op_modT rfl) ?_
    refine y_gen (en := fun (l : Int) => (AV.int l)) ?_
    intro number2
    refine y_setK (env' := [some (.io (List.map AV.int pen3)), some (.val (AV.int size)), none, some (.val (AV.int number2))]) rfl ?_
    refine y_nx ?_
    refine y_set ?_
    refine y_bin ?_
    refine y_bin ?_
    refine y_rfl (AV.int number2) rfl ?_
    refine y_bin ?_
    refine y_bin ?_
    refine y_rfl (AV.int number2) rfl ?_
    refine y_rfl (AV.int (65521 : Int)) rfl ?_
    refine y_tot (AV.int (number2 % (65521 : Int))) (op_modT rfl) ?_
    refine y_ix ?_
    refine y_io rfl ?_
    refine y_rfl (AV.int (1 : Int)) rfl ?_
    refine y_part (en := AV.int) (op_ix (l := pen3) (by intro _ z; cases z) rfl) ?_
    intro q11
    refine y_tot (AV.int ((number2 % (65521 : Int)) + q11)) rfl ?_
    refine y_part (en := AV.int) op_mul ?_
    intro q12
    refine y_rfl (AV.int (2147483563 : Int)) rfl ?_
    refine y_tot (AV.int (q12 % (2147483563 : Int))) (op_modT rfl) ?_
    refine y_gen (en := fun (l : Int) => (AV.int l)) ?_
    intro number3
    refine y_setK (env' := [some (.io (List.map AV.int pen3)), some (.val (AV.int size)), none, some (.val (AV.int number3))]) rfl ?_
    refine y_nx ?_
    refine y_ret ?_
    refine y_bin ?_
    refine y_bin ?_
    refine y_rfl (AV.int number3) rfl ?_
    refine y_rfl (AV.int (11 : Int)) rfl ?_
    refine y_tot (AV.int (number3 / (11 : Int))) (op_divT rfl) ?_
    refine y_rfl (AV.int size) rfl ?_
    refine y_part (en := AV.int) op_mod ?_
    intro q13
    exact y_end rfl
theorem ok_is_whole (N : Nat) (hN : 1 ≤ N) (thing : Int) : Le (callD D N "is_whole" [(.val (AV.int thing))]) (SH.is_whole thing) (fun r => some (.ok (AV.bl r) [none])) := by
  obtain ⟨N, rfl⟩ : ∃ M, N = M + 1 := ⟨N - 1, by omega⟩
  replace hN : 0 ≤ N := by omega
  refine y_def (d := d_is_whole) (E := [some (.val (AV.int thing))]) rfl rfl rfl ?_
  show Le (bx (evSs (callD D N) b_is_whole _) _ _) _ _
  unfold b_is_whole SH.is_whole
  refine y_ret ?_
  refine y_and ?_
  refine y_and2 ?_
  refine y_bi ?_
  refine y_evs1 ?_
  refine y_rfl (AV.int thing) rfl ?_
  refine y_evs1 ?_
  refine y_rfl (AV.ty "int") rfl ?_
  refine y_evs0 ?_
  refine y_tot (AV.bl true) (op_isi (t := "int") rfl (by decide) (by decide)) ?_
  refine y_asB ?_
  refine y_andT (b := (!false)) (env := [some (.val (AV.int thing))]) (by rfl) ?_ ?_
  · skip
    refine y_and1 ?_
    refine y_not ?_
    refine y_bi ?_
    refine y_evs1 ?_
    refine y_rfl (AV.int thing) rfl ?_
    refine y_evs1 ?_
    refine y_rfl (AV.ty "bool") rfl ?_
    refine y_evs0 ?_
    refine y_tot (AV.bl false) (op_isi (t := "int") rfl (by decide) (by decide)) ?_
    refine y_asB ?_
    exact y_end rfl
  exact y_end rfl
theorem ok_checked_halved (N : Nat) (hN : 2 ≤ N) (wide : Int) : Le (callD D N "checked_halved" [(.val (AV.int wide))]) (SH.checked_halved wide) (RzF (fun r => some (.ok AV.non [none])) fun c => some (.exc c [none])) := by
  obtain ⟨N, rfl⟩ : ∃ M, N = M + 1 := ⟨N - 1, by omega⟩
  replace hN : 1 ≤ N := by omega
  refine y_def (d := d_checked_halved) (E := [some (.val (AV.int wide))]) rfl rfl rfl ?_
  show Le (bx (evSs (callD D N) b_checked_halved _) _ _) _ _
  unfold b_checked_halved SH.checked_halved
  refine y_ifs ?_
  refine y_or ?_
  refine y_or2 ?_
  refine y_not ?_
  refine y_call ?_
  refine y_evs1 ?_
  refine y_rfl (AV.int wide) rfl ?_
  refine y_evs0 ?_
  refine y_callE (E' := fun q => [some (.val (AV.int wide))]) rfl (as1 (as_val rfl (age_I wide)) as0) (ok_is_whole _ (Nat.le_trans (by decide) hN) wide) (fun _ => rfl) (fun _ => rfl) ?_
  intro q
  refine y_asB ?_
  refine y_asB ?_
  refine y_orT (b := (!decide (wide ∈ ([1, 2, 4, 8] : List Int)))) (env := [some (.val (AV.int wide))]) (by rfl) ?_ ?_
  · skip
    refine y_or1 ?_
    refine y_cmp ?_
    refine y_rfl (AV.int wide) rfl ?_
    refine y_rfl (AV.tup (List.map AV.int ([1, 2, 4, 8] : List Int))) rfl ?_
    refine y_tot (AV.bl (!decide (wide ∈ ([1, 2, 4, 8] : List Int)))) (op_notIn (l := ([1, 2, 4, 8] : List Int)) rfl) ?_
    exact y_end rfl
  refine y_asB ?_
  refine y_if ?_ ?_
  · intro _
    refine y_rse ?_
    exact y_end rfl
  · intro _
    refine y_nil ?_
    refine y_nx ?_
    refine y_nil ?_
    exact y_end rfl
theorem ok_fold (N : Nat) (hN : 1 ≤ N) (wide : Int) : Le (callD D N "fold" [(.val (AV.int wide))]) (SH.fold wide) (fun r => some (.ok (AV.frs (List.map (eT2 AV.int AV.int) r)) [none])) := by
  obtain ⟨N, rfl⟩ : ∃ M, N = M + 1 := ⟨N - 1, by omega⟩
  replace hN : 0 ≤ N := by omega
  refine y_def (d := d_fold) (E := [some (.val (AV.int wide)), none]) rfl rfl rfl ?_
  show Le (bx (evSs (callD D N) b_fold _) _ _) _ _
  unfold b_fold SH.fold
  refine y_ret ?_
  refine y_comp ?_
  refine y_iRg ?_
  refine y_evs1 ?_
  refine y_bin ?_
  refine y_rfl (AV.int wide) rfl ?_
  refine y_rfl (AV.int (2 : Int)) rfl ?_
  refine y_tot (AV.int (wide / (2 : Int))) (op_divT rfl) ?_
  refine y_evs0 ?_
  refine y_rg1 ?_
  intro ks
  refine y_compM (dn := (eT2 AV.int AV.int)) (E0 := [some (.val (AV.int wide)), none]) rfl rfl rfl ?_ ?_
  · intro lane
    refine y_itT ?_
    refine y_asgE (env' := [some (.val (AV.int wide)), some (.val (AV.int lane))]) rfl ?_
    refine y_tup ?_
    refine y_evs1 ?_
    refine y_rfl (AV.int lane) rfl ?_
    refine y_evs1 ?_
    refine y_rfl (AV.int ((wide - (1 : Int)) - lane)) rfl ?_
    refine y_evs0 ?_
    refine y_tot (AV.tup [(AV.int lane), (AV.int ((wide - (1 : Int)) - lane))]) rfl ?_
    exact y_end rfl
  intro ys
  exact y_end rfl
theorem ok_lifted (N : Nat) (hN : 1 ≤ N) (wickets : List (Int × Int)) (by_ : Int) : Le (callD D N "lifted" [(.brw true (List.map (eT2 AV.int AV.int) wickets)), (.val (AV.int by_))]) (SH.lifted wickets by_) (fun r => some (.ok (AV.frs (List.map (eT2 AV.int AV.int) r)) [none, none])) := by
  obtain ⟨N, rfl⟩ : ∃ M, N = M + 1 := ⟨N - 1, by omega⟩
  replace hN : 0 ≤ N := by omega
  refine y_def (d := d_lifted) (E := [some (.brw true (List.map (eT2 AV.int AV.int) wickets)), some (.val (AV.int by_)), none, none]) rfl rfl rfl ?_
  show Le (bx (evSs (callD D N) b_lifted _) _ _) _ _
  unfold b_lifted SH.lifted
  refine y_ret ?_
  refine y_comp ?_
  refine y_iSeq ?_
  refine y_brw rfl ?_
  refine y_sq (l := wickets) (en := (eT2 AV.int AV.int)) (lk := [0]) rfl rfl ?_
  refine y_compM (dn := (eT2 AV.int AV.int)) (E0 := [some (.brw true (List.map (eT2 AV.int AV.int) wickets)), some (.val (AV.int by_)), none, none]) rfl rfl rfl ?_ ?_
  · intro x
    refine y_itT ?_
    refine y_asgE (env' := [some (.brw true (List.map (eT2 AV.int AV.int) wickets)), some (.val (AV.int by_)), some (.val (AV.int x.1)), some (.val (AV.int x.2))]) rfl ?_
    refine y_tup ?_
    refine y_evs1 ?_
    refine y_rfl (AV.int (x.1 + by_)) rfl ?_
    refine y_evs1 ?_
    refine y_rfl (AV.int (x.2 + by_)) rfl ?_
    refine y_evs0 ?_
    refine y_tot (AV.tup [(AV.int (x.1 + by_)), (AV.int (x.2 + by_))]) rfl ?_
    exact y_end rfl
  intro ys
  exact y_end rfl
theorem ok_block : ∀ (n N : Nat) (_ : n + 1 ≤ N) (wide : Int), Le (callD D N "block" [(.val (AV.int wide))]) (SH.block n wide) (fun r => some (.ok (AV.frs (List.map (eT2 AV.int AV.int) r)) [none])) := by
  intro n
  induction n with
  | zero => intro N hN wide; exact y_none
  | succ n ih =>
    intro N hN wide
    obtain ⟨N, rfl⟩ : ∃ M, N = M + 1 := ⟨N - 1, by omega⟩
    replace hN : n + 1 ≤ N := by omega
    refine y_def (d := d_block) (E := [some (.val (AV.int wide)), none, none]) rfl rfl rfl ?_
    show Le (bx (evSs (callD D N) b_block _) _ _) _ _
    unfold b_block SH.block
    refine y_ifs ?_
    refine y_rfl (AV.bl (decide (wide = (1 : Int)))) rfl ?_
    refine y_asB ?_
    refine y_if ?_ ?_
    · intro _
      refine y_ret ?_
      refine y_lst ?_
      refine y_evs0 ?_
      refine y_tot (AV.frs (List.map (eT2 AV.int AV.int) ([]))) rfl ?_
      exact y_end rfl
    · intro _
      refine y_nil ?_
      refine y_nx ?_
      refine y_set ?_
      refine y_bin ?_
      refine y_rfl (AV.int wide) rfl ?_
      refine y_rfl (AV.int (2 : Int)) rfl ?_
      refine y_tot (AV.int (wide / (2 : Int))) (op_divT rfl) ?_
      refine y_gen (en := fun (l : Int) => (AV.int l)) ?_
      intro half
      refine y_setK (env' := [some (.val (AV.int wide)), some (.val (AV.int half)), none]) rfl ?_
      refine y_nx ?_
      refine y_set ?_
      refine y_call ?_
      refine y_evs1 ?_
      refine y_rfl (AV.int half) rfl ?_
      refine y_evs0 ?_
      refine y_callE (E' := fun q => [some (.val (AV.int wide)), some (.val (AV.int half)), none]) rfl (as1 (as_val rfl (age_I half)) as0) (ih _ hN half) (fun _ => rfl) (fun _ => rfl) ?_
      intro q
      refine y_setK (env' := [some (.val (AV.int wide)), some (.val (AV.int half)), some (.own true (List.map (eT2 AV.int AV.int) q))]) rfl ?_
      refine y_nx ?_
      refine y_ret ?_
      refine y_bin ?_
      refine y_bin ?_
      refine y_call ?_
      refine y_evs1 ?_
      refine y_rfl (AV.int wide) rfl ?_
      refine y_evs0 ?_
      refine y_callE (E' := fun q2 => [some (.val (AV.int wide)), some (.val (AV.int half)), some (.own true (List.map (eT2 AV.int AV.int) q))]) rfl (as1 (as_val rfl (age_I wide)) as0) (ok_fold _ (Nat.le_trans (by decide) (Nat.le_trans (Nat.le_add_left _ _) hN)) wide) (fun _ => rfl) (fun _ => rfl) ?_
      intro q2
      refine y_own rfl ?_
      refine y_part (en := fun l => AV.frs (List.map (eT2 AV.int AV.int) l)) (op_addL (l := q2) (l2 := q) rfl rfl) ?_
      intro q3
      refine y_call ?_
      refine y_evs1 ?_
      refine y_own rfl ?_
      refine y_evs1 ?_
      refine y_rfl (AV.int half) rfl ?_
      refine y_evs0 ?_
      refine y_callE (E' := fun q4 => [some (.val (AV.int wide)), some (.val (AV.int half)), some (.own true (List.map (eT2 AV.int AV.int) q))]) rfl (as1 (as_bo rfl (ages_map (age_T2 age_I age_I) _)) (as1 (as_val rfl (age_I half)) as0)) (ok_lifted _ (Nat.le_trans (by decide) (Nat.le_trans (Nat.le_add_left _ _) hN)) q half) (fun _ => rfl) (fun _ => rfl) ?_
      intro q4
      refine y_part (en := fun l => AV.frs (List.map (eT2 AV.int AV.int) l)) (op_addL (l := q3) (l2 := q4) rfl rfl) ?_
      intro q5
      exact y_end rfl
theorem ok_rounds (N : Nat) (hN : 8 ≤ N) (wide : Int) : Le (callD D N "rounds" [(.val (AV.int wide))]) (SH.rounds wide) (RzF (fun r => some (.ok (AV.tup [(AV.int r.1), (AV.tup (List.map (eT2 AV.int AV.int) r.2))]) [none])) fun c => some (.exc c [none])) := by
  obtain ⟨N, rfl⟩ : ∃ M, N = M + 1 := ⟨N - 1, by omega⟩
  replace hN : 7 ≤ N := by omega
  refine y_def (d := d_rounds) (E := [some (.val (AV.int wide))]) rfl rfl rfl ?_
  show Le (bx (evSs (callD D N) b_rounds _) _ _) _ _
  unfold b_rounds SH.rounds
  refine y_exp ?_
  refine y_call ?_
  refine y_evs1 ?_
  refine y_rfl (AV.int wide) rfl ?_
  refine y_evs0 ?_
  refine y_callX (E' := fun q => [some (.val (AV.int wide))]) rfl (as1 (as_val rfl (age_I wide)) as0) (ok_checked_halved _ (Nat.le_trans (by decide) hN) wide) (fun _ => rfl) (fun _ => rfl) (fun _ => rfl) (fun _ => rfl) ?_
  intro q
  refine y_ret ?_
  refine y_tup ?_
  refine y_evs1 ?_
  refine y_rfl (AV.int wide) rfl ?_
  refine y_evs1 ?_
  refine y_bi ?_
  refine y_evs1 ?_
  refine y_bin ?_
  refine y_call ?_
  refine y_evs1 ?_
  refine y_rfl (AV.int wide) rfl ?_
  refine y_evs0 ?_
  refine y_callE (E' := fun q2 => [some (.val (AV.int wide))]) rfl (as1 (as_val rfl (age_I wide)) as0) (ok_block 6 _ (Nat.le_trans (by decide) hN) wide) (fun _ => rfl) (fun _ => rfl) ?_
  intro q2
  refine y_pm ?_
  refine y_rfl (AV.tup (List.map AV.int ([1, 2, 4, 8] : List Int))) rfl ?_
  refine y_pmK rfl ?_
  refine y_evs1 ?_
  refine y_rfl (AV.int wide) rfl ?_
  refine y_evs0 ?_
  refine y_part (en := AV.int) (op_ixG (l := ([1, 2, 4, 8] : List Int))) ?_
  intro q3
  refine y_part (en := fun l => AV.frs (List.map (eT2 AV.int AV.int) l)) (op_mulL (l := q2) rfl) ?_
  intro q4
  refine y_evs0 ?_
  refine y_tot (AV.tup (List.map (eT2 AV.int AV.int) q4)) (op_tuple (l := q4) rfl) ?_
  refine y_evs0 ?_
  refine y_tot (AV.tup [(AV.int wide), (AV.tup (List.map (eT2 AV.int AV.int) q4))]) rfl ?_
  exact y_end rfl
theorem ok_l_lifted (N : Nat) (hN : 1 ≤ N) (wickets : List (Int × Int)) (by_ : Int) : Le (callD D N "_law_lifted" [(.brw true (List.map (eT2 AV.int AV.int) wickets)), (.val (AV.int by_))]) (SH.l_lifted wickets by_) (fun r => some (.ok (AV.frs (List.map (eT2 AV.int AV.int) r)) [none, none])) := by
  obtain ⟨N, rfl⟩ : ∃ M, N = M + 1 := ⟨N - 1, by omega⟩
  replace hN : 0 ≤ N := by omega
  refine y_def (d := d_l_lifted) (E := [some (.brw true (List.map (eT2 AV.int AV.int) wickets)), some (.val (AV.int by_)), none, none]) rfl rfl rfl ?_
  show Le (bx (evSs (callD D N) b_l_lifted _) _ _) _ _
  unfold b_l_lifted SH.l_lifted
  refine y_ret ?_
  refine y_comp ?_
  refine y_iSeq ?_
  refine y_brw rfl ?_
  refine y_sq (l := wickets) (en := (eT2 AV.int AV.int)) (lk := [0]) rfl rfl ?_
  refine y_compM (dn := (eT2 AV.int AV.int)) (E0 := [some (.brw true (List.map (eT2 AV.int AV.int) wickets)), some (.val (AV.int by_)), none, none]) rfl rfl rfl ?_ ?_
  · intro x
    refine y_itT ?_
    refine y_asgE (env' := [some (.brw true (List.map (eT2 AV.int AV.int) wickets)), some (.val (AV.int by_)), some (.val (AV.int x.1)), some (.val (AV.int x.2))]) rfl ?_
    refine y_tup ?_
    refine y_evs1 ?_
    refine y_rfl (AV.int (x.1 + by_)) rfl ?_
    refine y_evs1 ?_
    refine y_rfl (AV.int (x.2 + by_)) rfl ?_
    refine y_evs0 ?_
    refine y_tot (AV.tup [(AV.int (x.1 + by_)), (AV.int (x.2 + by_))]) rfl ?_
    exact y_end rfl
  intro ys
  exact y_end rfl
theorem ok_l_block : ∀ (n N : Nat) (_ : n + 1 ≤ N) (wide : Int), Le (callD D N "_law_block" [(.val (AV.int wide))]) (SH.l_block n wide) (fun r => some (.ok (AV.frs (List.map (eT2 AV.int AV.int) r)) [none])) := by
  intro n
  induction n with
  | zero => intro N hN wide; exact y_none
  | succ n ih =>
    intro N hN wide
    obtain ⟨N, rfl⟩ : ∃ M, N = M + 1 := ⟨N - 1, by omega⟩
    replace hN : n + 1 ≤ N := by omega
    refine y_def (d := d_l_block) (E := [some (.val (AV.int wide)), none, none, none]) rfl rfl rfl ?_
    show Le (bx (evSs (callD D N) b_l_block _) _ _) _ _
    unfold b_l_block SH.l_block
    refine y_ifs ?_
    refine y_rfl (AV.bl (decide (wide = (1 : Int)))) rfl ?_
    refine y_asB ?_
    refine y_if ?_ ?_
    · intro _
      refine y_ret ?_
      refine y_lst ?_
      refine y_evs0 ?_
      refine y_tot (AV.frs (List.map (eT2 AV.int AV.int) ([]))) rfl ?_
      exact y_end rfl
    · intro _
      refine y_nil ?_
      refine y_nx ?_
      refine y_set ?_
      refine y_bin ?_
      refine y_rfl (AV.int wide) rfl ?_
      refine y_rfl (AV.int (2 : Int)) rfl ?_
      refine y_tot (AV.int (wide / (2 : Int))) (op_divT rfl) ?_
      refine y_gen (en := fun (l : Int) => (AV.int l)) ?_
      intro half
      refine y_setK (env' := [some (.val (AV.int wide)), some (.val (AV.int half)), none, none]) rfl ?_
      refine y_nx ?_
      refine y_set ?_
      refine y_call ?_
      refine y_evs1 ?_
      refine y_rfl (AV.int half) rfl ?_
      refine y_evs0 ?_
      refine y_callE (E' := fun q => [some (.val (AV.int wide)), some (.val (AV.int half)), none, none]) rfl (as1 (as_val rfl (age_I half)) as0) (ih _ hN half) (fun _ => rfl) (fun _ => rfl) ?_
      intro q
      refine y_setK (env' := [some (.val (AV.int wide)), some (.val (AV.int half)), some (.own true (List.map (eT2 AV.int AV.int) q)), none]) rfl ?_
      refine y_nx ?_
      refine y_ret ?_
      refine y_bin ?_
      refine y_bin ?_
      refine y_comp ?_
      refine y_iRg ?_
      refine y_evs1 ?_
      refine y_rfl (AV.int half) rfl ?_
      refine y_evs0 ?_
      refine y_rg1 ?_
      intro ks
      refine y_compM (dn := (eT2 AV.int AV.int)) (E0 := [some (.val (AV.int wide)), some (.val (AV.int half)), some (.own true (List.map (eT2 AV.int AV.int) q)), none]) rfl rfl rfl ?_ ?_
      · intro k
        refine y_itT ?_
        refine y_asgE (env' := [some (.val (AV.int wide)), some (.val (AV.int half)), some (.own true (List.map (eT2 AV.int AV.int) q)), some (.val (AV.int k))]) rfl ?_
        refine y_tup ?_
        refine y_evs1 ?_
        refine y_rfl (AV.int k) rfl ?_
        refine y_evs1 ?_
        refine y_rfl (AV.int ((wide - (1 : Int)) - k)) rfl ?_
        refine y_evs0 ?_
        refine y_tot (AV.tup [(AV.int k), (AV.int ((wide - (1 : Int)) - k))]) rfl ?_
        exact y_end rfl
      intro ys
      refine y_own rfl ?_
      refine y_part (en := fun l => AV.frs (List.map (eT2 AV.int AV.int) l)) (op_addL (l := ys) (l2 := q) rfl rfl) ?_
      intro q2
      refine y_call ?_
      refine y_evs1 ?_
      refine y_own rfl ?_
      refine y_evs1 ?_
      refine y_rfl (AV.int half) rfl ?_
      refine y_evs0 ?_
      refine y_callE (E' := fun q3 => [some (.val (AV.int wide)), some (.val (AV.int half)), some (.own true (List.map (eT2 AV.int AV.int) q)), none]) rfl (as1 (as_bo rfl (ages_map (age_T2 age_I age_I) _)) (as1 (as_val rfl (age_I half)) as0)) (ok_l_lifted _ (Nat.le_trans (by decide) (Nat.le_trans (Nat.le_add_left _ _) hN)) q half) (fun _ => rfl) (fun _ => rfl) ?_
      intro q3
      refine y_part (en := fun l => AV.frs (List.map (eT2 AV.int AV.int) l)) (op_addL (l := q2) (l2 := q3) rfl rfl) ?_
      intro q4
      exact y_end rfl
theorem ok_l_rounds (N : Nat) (hN : 8 ≤ N) (wide : Int) : Le (callD D N "_law_rounds" [(.val (AV.int wide))]) (SH.l_rounds wide) (fun r => some (.ok (AV.frs (List.map (eT2 AV.int AV.int) r)) [none])) := by
  obtain ⟨N, rfl⟩ : ∃ M, N = M + 1 := ⟨N - 1, by omega⟩
  replace hN : 7 ≤ N := by omega
  refine y_def (d := d_l_rounds) (E := [some (.val (AV.int wide))]) rfl rfl rfl ?_
  show Le (bx (evSs (callD D N) b_l_rounds _) _ _) _ _
  unfold b_l_rounds SH.l_rounds
  refine y_ret ?_
  refine y_bin ?_
  refine y_call ?_
  refine y_evs1 ?_
  refine y_rfl (AV.int wide) rfl ?_
  refine y_evs0 ?_
  refine y_callE (E' := fun q => [some (.val (AV.int wide))]) rfl (as1 (as_val rfl (age_I wide)) as0) (ok_l_block 6 _ (Nat.le_trans (by decide) hN) wide) (fun _ => rfl) (fun _ => rfl) ?_
  intro q
  refine y_ix ?_
  refine y_lst ?_
  refine y_evs1 ?_
  refine y_rfl (AV.int (0 : Int)) rfl ?_
  refine y_evs1 ?_
  refine y_rfl (AV.int (0 : Int)) rfl ?_
  refine y_evs1 ?_
  refine y_rfl (AV.int (1 : Int)) rfl ?_
  refine y_evs1 ?_
  refine y_rfl (AV.int (0 : Int)) rfl ?_
  refine y_evs1 ?_
  refine y_rfl (AV.int (2 : Int)) rfl ?_
  refine y_evs1 ?_
  refine y_rfl (AV.int (0 : Int)) rfl ?_
  refine y_evs1 ?_
  refine y_rfl (AV.int (0 : Int)) rfl ?_
  refine y_evs1 ?_
  refine y_rfl (AV.int (0 : Int)) rfl ?_
  refine y_evs1 ?_
  refine y_rfl (AV.int (3 : Int)) rfl ?_
  refine y_evs0 ?_
  refine y_tot (AV.frs (List.map AV.int ([(0 : Int), (0 : Int), (1 : Int), (0 : Int), (2 : Int), (0 : Int), (0 : Int), (0 : Int), (3 : Int)]))) rfl ?_
  refine y_rfl (AV.int wide) rfl ?_
  refine y_part (en := AV.int) (op_ix (l := [(0 : Int), (0 : Int), (1 : Int), (0 : Int), (2 : Int), (0 : Int), (0 : Int), (0 : Int), (3 : Int)]) (by intro _ z; cases z) rfl) ?_
  intro q2
  refine y_part (en := fun l => AV.frs (List.map (eT2 AV.int AV.int) l)) (op_mulL (l := q) rfl) ?_
  intro q3
  exact y_end rfl
theorem ok_is_lane (N : Nat) (hN : 2 ≤ N) (thing : Int) (wide : Int) : Le (callD D N "is_lane" [(.val (AV.int thing)), (.val (AV.int wide))]) (SH.is_lane thing wide) (fun r => some (.ok (AV.bl r) [none, none])) := by
  obtain ⟨N, rfl⟩ : ∃ M, N = M + 1 := ⟨N - 1, by omega⟩
  replace hN : 1 ≤ N := by omega
  refine y_def (d := d_is_lane) (E := [some (.val (AV.int thing)), some (.val (AV.int wide))]) rfl rfl rfl ?_
  show Le (bx (evSs (callD D N) b_is_lane _) _ _) _ _
  unfold b_is_lane SH.is_lane
  refine y_ret ?_
  refine y_and ?_
  refine y_and2 ?_
  refine y_call ?_
  refine y_evs1 ?_
  refine y_rfl (AV.int thing) rfl ?_
  refine y_evs0 ?_
  refine y_callE (E' := fun q => [some (.val (AV.int thing)), some (.val (AV.int wide))]) rfl (as1 (as_val rfl (age_I thing)) as0) (ok_is_whole _ (Nat.le_trans (by decide) hN) thing) (fun _ => rfl) (fun _ => rfl) ?_
  intro q
  refine y_asB ?_
  refine y_andT (b := ((decide ((0 : Int) ≤ thing)) && (decide (thing < wide)))) (env := [some (.val (AV.int thing)), some (.val (AV.int wide))]) (by rfl) ?_ ?_
  · skip
    refine y_and1 ?_
    refine y_chain ?_
    refine y_rfl (AV.int (0 : Int)) rfl ?_
    refine y_rfl (AV.int thing) rfl ?_
    refine y_tot (AV.bl (decide ((0 : Int) ≤ thing))) rfl ?_
    refine y_chK (w := wide) (b := (decide (thing < wide))) rfl rfl ?_
    exact y_end rfl
  exact y_end rfl
theorem ok_is_wicket (N : Nat) (hN : 3 ≤ N) (thing : Int × Int) (wide : Int) : Le (callD D N "is_wicket" [(.val (AV.tup [(AV.int thing.1), (AV.int thing.2)])), (.val (AV.int wide))]) (SH.is_wicket thing wide) (fun r => some (.ok (AV.bl r) [none, none])) := by
  obtain ⟨N, rfl⟩ : ∃ M, N = M + 1 := ⟨N - 1, by omega⟩
  replace hN : 2 ≤ N := by omega
  refine y_def (d := d_is_wicket) (E := [some (.val (AV.tup [(AV.int thing.1), (AV.int thing.2)])), some (.val (AV.int wide))]) rfl rfl rfl ?_
  show Le (bx (evSs (callD D N) b_is_wicket _) _ _) _ _
  unfold b_is_wicket SH.is_wicket
  refine y_ifs ?_
  refine y_or ?_
  refine y_or2 ?_
  refine y_not ?_
  refine y_bi ?_
  refine y_evs1 ?_
  refine y_rfl (AV.tup [(AV.int thing.1), (AV.int thing.2)]) rfl ?_
  refine y_evs1 ?_
  refine y_rfl (AV.ty "tuple") rfl ?_
  refine y_evs0 ?_
  refine y_tot (AV.bl true) (op_isi (t := "tuple") rfl (by decide) (by decide)) ?_
  refine y_asB ?_
  refine y_asB ?_
  refine y_orT (b := (!decide ((([thing.1, thing.2]).length : Int) = (2 : Int)))) (env := [some (.val (AV.tup [(AV.int thing.1), (AV.int thing.2)])), some (.val (AV.int wide))]) (by rfl) ?_ ?_
  · skip
    refine y_or1 ?_
    refine y_cmp ?_
    refine y_bi ?_
    refine y_evs1 ?_
    refine y_rfl (AV.tup [(AV.int thing.1), (AV.int thing.2)]) rfl ?_
    refine y_evs0 ?_
    refine y_tot (AV.int (([thing.1, thing.2]).length : Int)) (op_len (l := [thing.1, thing.2]) (e := AV.int) (by intro _ z; cases z) rfl) ?_
    refine y_rfl (AV.int (2 : Int)) rfl ?_
    refine y_tot (AV.bl (!decide ((([thing.1, thing.2]).length : Int) = (2 : Int)))) rfl ?_
    exact y_end rfl
  refine y_asB ?_
  refine y_if ?_ ?_
  · intro _
    refine y_ret ?_
    refine y_rfl (AV.bl false) rfl ?_
    exact y_end rfl
  · intro _
    refine y_nil ?_
    refine y_nx ?_
    refine y_ret ?_
    refine y_and ?_
    refine y_and2 ?_
    refine y_call ?_
    refine y_evs1 ?_
    refine y_rfl (AV.int thing.1) rfl ?_
    refine y_evs1 ?_
    refine y_rfl (AV.int wide) rfl ?_
    refine y_evs0 ?_
    refine y_callE (E' := fun q => [some (.val (AV.tup [(AV.int thing.1), (AV.int thing.2)])), some (.val (AV.int wide))]) rfl (as1 (as_val rfl (age_I thing.1)) (as1 (as_val rfl (age_I wide)) as0)) (ok_is_lane _ (Nat.le_trans (by decide) hN) thing.1 wide) (fun _ => rfl) (fun _ => rfl) ?_
    intro q
    refine y_asB ?_
    refine y_andJ (env := [some (.val (AV.tup [(AV.int thing.1), (AV.int thing.2)])), some (.val (AV.int wide))]) (by rfl) ?_ ?_
    · intro _
      refine y_and2 ?_
      refine y_call ?_
      refine y_evs1 ?_
      refine y_rfl (AV.int thing.2) rfl ?_
      refine y_evs1 ?_
      refine y_rfl (AV.int wide) rfl ?_
      refine y_evs0 ?_
      refine y_callE (E' := fun q2 => [some (.val (AV.tup [(AV.int thing.1), (AV.int thing.2)])), some (.val (AV.int wide))]) rfl (as1 (as_val rfl (age_I thing.2)) (as1 (as_val rfl (age_I wide)) as0)) (ok_is_lane _ (Nat.le_trans (by decide) hN) thing.2 wide) (fun _ => rfl) (fun _ => rfl) ?_
      intro q2
      refine y_asB ?_
      refine y_andT (b := (!decide (thing.1 = thing.2))) (env := [some (.val (AV.tup [(AV.int thing.1), (AV.int thing.2)])), some (.val (AV.int wide))]) (by rfl) ?_ ?_
      · skip
        refine y_and1 ?_
        refine y_rfl (AV.bl (!decide (thing.1 = thing.2))) rfl ?_
        exact y_end rfl
      exact y_end rfl
    intro q3
    exact y_end rfl
theorem ok_makes_net (N : Nat) (hN : 4 ≤ N) (wide : Int) (wickets : List (Int × Int)) : Le (callD D N "makes_net" [(.val (AV.int wide)), (.val (AV.tup (List.map (eT2 AV.int AV.int) wickets)))]) (SH.makes_net wide wickets) (fun r => some (.ok (AV.bl r) [none, none])) := by
  obtain ⟨N, rfl⟩ : ∃ M, N = M + 1 := ⟨N - 1, by omega⟩
  replace hN : 3 ≤ N := by omega
  refine y_def (d := d_makes_net) (E := [some (.val (AV.int wide)), some (.val (AV.tup (List.map (eT2 AV.int AV.int) wickets))), none]) rfl rfl rfl ?_
  show Le (bx (evSs (callD D N) b_makes_net _) _ _) _ _
  unfold b_makes_net SH.makes_net
  refine y_ifs ?_
  refine y_or ?_
  refine y_or2 ?_
  refine y_not ?_
  refine y_call ?_
  refine y_evs1 ?_
  refine y_rfl (AV.int wide) rfl ?_
  refine y_evs0 ?_
  refine y_callE (E' := fun q => [some (.val (AV.int wide)), some (.val (AV.tup (List.map (eT2 AV.int AV.int) wickets))), none]) rfl (as1 (as_val rfl (age_I wide)) as0) (ok_is_whole _ (Nat.le_trans (by decide) hN) wide) (fun _ => rfl) (fun _ => rfl) ?_
  intro q
  refine y_asB ?_
  refine y_asB ?_
  refine y_orT (b := (!((decide ((1 : Int) ≤ wide)) && (decide (wide ≤ (8 : Int)))))) (env := [some (.val (AV.int wide)), some (.val (AV.tup (List.map (eT2 AV.int AV.int) wickets))), none]) (by rfl) ?_ ?_
  · skip
    refine y_or1 ?_
    refine y_not ?_
    refine y_chain ?_
    refine y_rfl (AV.int (1 : Int)) rfl ?_
    refine y_rfl (AV.int wide) rfl ?_
    refine y_tot (AV.bl (decide ((1 : Int) ≤ wide))) rfl ?_
    refine y_chK (w := (8 : Int)) (b := (decide (wide ≤ (8 : Int)))) rfl rfl ?_
    refine y_asB ?_
    exact y_end rfl
  refine y_asB ?_
  refine y_if ?_ ?_
  · intro _
    refine y_ret ?_
    refine y_rfl (AV.bl false) rfl ?_
    exact y_end rfl
  · intro _
    refine y_nil ?_
    refine y_nx ?_
    refine y_ifs ?_
    refine y_or ?_
    refine y_or2 ?_
    refine y_not ?_
    refine y_ist ?_
    refine y_rfl (AV.tup (List.map (eT2 AV.int AV.int) wickets)) rfl ?_
    refine y_tot (AV.bl true) (op_ist (ns := ["list", "tuple"]) (t := "tuple") rfl (by decide)) ?_
    refine y_asB ?_
    refine y_asB ?_
    refine y_orT (b := (decide ((40 : Int) < (wickets.length : Int)))) (env := [some (.val (AV.int wide)), some (.val (AV.tup (List.map (eT2 AV.int AV.int) wickets))), none]) (by rfl) ?_ ?_
    · skip
      refine y_or1 ?_
      refine y_cmp ?_
      refine y_bi ?_
      refine y_evs1 ?_
      refine y_rfl (AV.tup (List.map (eT2 AV.int AV.int) wickets)) rfl ?_
      refine y_evs0 ?_
      refine y_tot (AV.int (wickets.length : Int)) (op_len (l := wickets) (e := (eT2 AV.int AV.int)) (by intro _ z; cases z) rfl) ?_
      refine y_rfl (AV.int (40 : Int)) rfl ?_
      refine y_tot (AV.bl (decide ((40 : Int) < (wickets.length : Int)))) rfl ?_
      exact y_end rfl
    refine y_asB ?_
    refine y_if ?_ ?_
    · intro _
      refine y_ret ?_
      refine y_rfl (AV.bl false) rfl ?_
      exact y_end rfl
    · intro _
      refine y_nil ?_
      refine y_nx ?_
      refine y_ret ?_
      refine y_bi ?_
      refine y_evs1 ?_
      refine y_comp ?_
      refine y_iSeq ?_
      refine y_rfl (AV.tup (List.map (eT2 AV.int AV.int) wickets)) rfl ?_
      refine y_sq (l := wickets) (en := (eT2 AV.int AV.int)) (lk := []) rfl rfl ?_
      refine y_compM (dn := AV.bl) (E0 := [some (.val (AV.int wide)), some (.val (AV.tup (List.map (eT2 AV.int AV.int) wickets))), none]) rfl rfl rfl ?_ ?_
      · intro wicket
        refine y_itT ?_
        refine y_asgE (env' := [some (.val (AV.int wide)), some (.val (AV.tup (List.map (eT2 AV.int AV.int) wickets))), some (.val (AV.tup [(AV.int wicket.1), (AV.int wicket.2)]))]) rfl ?_
        refine y_call ?_
        refine y_evs1 ?_
        refine y_rfl (AV.tup [(AV.int wicket.1), (AV.int wicket.2)]) rfl ?_
        refine y_evs1 ?_
        refine y_rfl (AV.int wide) rfl ?_
        refine y_evs0 ?_
        refine y_callE (E' := fun q2 => [some (.val (AV.int wide)), some (.val (AV.tup (List.map (eT2 AV.int AV.int) wickets))), some (.val (AV.tup [(AV.int wicket.1), (AV.int wicket.2)]))]) rfl (as1 (as_val rfl ((age_T2 age_I age_I) wicket)) (as1 (as_val rfl (age_I wide)) as0)) (ok_is_wicket _ (Nat.le_trans (by decide) hN) wicket wide) (fun _ => rfl) (fun _ => rfl) ?_
        intro q2
        exact y_end rfl
      intro ys
      refine y_evs0 ?_
      refine y_tot (AV.bl (List.all ys id)) (op_all (l := ys) rfl) ?_
      exact y_end rfl
theorem ok_is_net (N : Nat) (hN : 5 ≤ N) (thing : Int × (List (Int × Int))) : Le (callD D N "is_net" [(.val (AV.tup [(AV.int thing.1), (AV.tup (List.map (eT2 AV.int AV.int) thing.2))]))]) (SH.is_net thing) (fun r => some (.ok (AV.bl r) [none])) := by
  obtain ⟨N, rfl⟩ : ∃ M, N = M + 1 := ⟨N - 1, by omega⟩
  replace hN : 4 ≤ N := by omega
  refine y_def (d := d_is_net) (E := [some (.val (AV.tup [(AV.int thing.1), (AV.tup (List.map (eT2 AV.int AV.int) thing.2))]))]) rfl rfl rfl ?_
  show Le (bx (evSs (callD D N) b_is_net _) _ _) _ _
  unfold b_is_net SH.is_net
  refine y_ifs ?_
  refine y_or ?_
  refine y_or2 ?_
  refine y_not ?_
  refine y_bi ?_
  refine y_evs1 ?_
  refine y_rfl (AV.tup [(AV.int thing.1), (AV.tup (List.map (eT2 AV.int AV.int) thing.2))]) rfl ?_
  refine y_evs1 ?_
  refine y_rfl (AV.ty "tuple") rfl ?_
  refine y_evs0 ?_
  refine y_tot (AV.bl true) (op_isi (t := "tuple") rfl (by decide) (by decide)) ?_
  refine y_asB ?_
  refine y_asB ?_
  refine y_orT (b := ((!decide ((2 : Int) = (2 : Int))) || (!true))) (env := [some (.val (AV.tup [(AV.int thing.1), (AV.tup (List.map (eT2 AV.int AV.int) thing.2))]))]) (by rfl) ?_ ?_
  · skip
    refine y_or2 ?_
    refine y_cmp ?_
    refine y_bi ?_
    refine y_evs1 ?_
    refine y_rfl (AV.tup [(AV.int thing.1), (AV.tup (List.map (eT2 AV.int AV.int) thing.2))]) rfl ?_
    refine y_evs0 ?_
    refine y_tot (AV.int (2 : Int)) rfl ?_
    refine y_rfl (AV.int (2 : Int)) rfl ?_
    refine y_tot (AV.bl (!decide ((2 : Int) = (2 : Int)))) rfl ?_
    refine y_asB ?_
    refine y_orT (b := (!true)) (env := [some (.val (AV.tup [(AV.int thing.1), (AV.tup (List.map (eT2 AV.int AV.int) thing.2))]))]) (by rfl) ?_ ?_
    · skip
      refine y_or1 ?_
      refine y_not ?_
      refine y_bi ?_
      refine y_evs1 ?_
      refine y_rfl (AV.tup (List.map (eT2 AV.int AV.int) thing.2)) rfl ?_
      refine y_evs1 ?_
      refine y_rfl (AV.ty "tuple") rfl ?_
      refine y_evs0 ?_
      refine y_tot (AV.bl true) (op_isi (t := "tuple") rfl (by decide) (by decide)) ?_
      refine y_asB ?_
      exact y_end rfl
    exact y_end rfl
  refine y_asB ?_
  refine y_if ?_ ?_
  · intro _
    refine y_ret ?_
    refine y_rfl (AV.bl false) rfl ?_
    exact y_end rfl
  · intro _
    refine y_nil ?_
    refine y_nx ?_
    refine y_ret ?_
    refine y_call ?_
    refine y_evs1 ?_
    refine y_rfl (AV.int thing.1) rfl ?_
    refine y_evs1 ?_
    refine y_rfl (AV.tup (List.map (eT2 AV.int AV.int) thing.2)) rfl ?_
    refine y_evs0 ?_
    refine y_callE (E' := fun q => [some (.val (AV.tup [(AV.int thing.1), (AV.tup (List.map (eT2 AV.int AV.int) thing.2))]))]) rfl (as1 (as_val rfl (age_I thing.1)) (as1 (as_val rfl ((age_V (age_T2 age_I age_I)) thing.2)) as0)) (ok_makes_net _ (Nat.le_trans (by decide) hN) thing.1 thing.2) (fun _ => rfl) (fun _ => rfl) ?_
    intro q
    exact y_end rfl
theorem ok_l_right (N : Nat) (hN : 6 ≤ N) (found : Int × (List (Int × Int))) (due : Int × (List (Int × Int))) : Le (callD D N "_law_right" [(.val (AV.tup [(AV.int found.1), (AV.tup (List.map (eT2 AV.int AV.int) found.2))])), (.val (AV.tup [(AV.int due.1), (AV.tup (List.map (eT2 AV.int AV.int) due.2))]))]) (SH.l_right_14 found due) (fun r => some (.ok (AV.bl r) [none, none])) := by
  obtain ⟨N, rfl⟩ : ∃ M, N = M + 1 := ⟨N - 1, by omega⟩
  replace hN : 5 ≤ N := by omega
  refine y_def (d := d_l_right) (E := [some (.val (AV.tup [(AV.int found.1), (AV.tup (List.map (eT2 AV.int AV.int) found.2))])), some (.val (AV.tup [(AV.int due.1), (AV.tup (List.map (eT2 AV.int AV.int) due.2))]))]) rfl rfl rfl ?_
  show Le (bx (evSs (callD D N) b_l_right _) _ _) _ _
  unfold b_l_right SH.l_right_14
  refine y_ifs ?_
  refine y_or ?_
  refine y_or2 ?_
  refine y_not ?_
  refine y_bi ?_
  refine y_evs1 ?_
  refine y_rfl (AV.tup [(AV.int found.1), (AV.tup (List.map (eT2 AV.int AV.int) found.2))]) rfl ?_
  refine y_evs1 ?_
  refine y_rfl (AV.ty "tuple") rfl ?_
  refine y_evs0 ?_
  refine y_tot (AV.bl true) (op_isi (t := "tuple") rfl (by decide) (by decide)) ?_
  refine y_asB ?_
  refine y_asB ?_
  refine y_orT (b := ((!decide (found = due)) || ((!true) || false))) (env := [some (.val (AV.tup [(AV.int found.1), (AV.tup (List.map (eT2 AV.int AV.int) found.2))])), some (.val (AV.tup [(AV.int due.1), (AV.tup (List.map (eT2 AV.int AV.int) due.2))]))]) (by rfl) ?_ ?_
  · skip
    refine y_or2 ?_
    refine y_cmp ?_
    refine y_rfl (AV.tup [(AV.int found.1), (AV.tup (List.map (eT2 AV.int AV.int) found.2))]) rfl ?_
    refine y_rfl (AV.tup [(AV.int due.1), (AV.tup (List.map (eT2 AV.int AV.int) due.2))]) rfl ?_
    refine y_tot (AV.bl (!decide (found = due))) (op_ne (u := found) (v := due) (e := (eT2 AV.int (eV (eT2 AV.int AV.int)))) (e2 := (eT2 AV.int (eV (eT2 AV.int AV.int)))) (dat_T2 (dat_up (m := 2) dat_I) (dat_V (dat_T2 dat_I dat_I))) (dat_T2 (dat_up (m := 2) dat_I) (dat_V (dat_T2 dat_I dat_I))) (by decide) rfl rfl) ?_
    refine y_asB ?_
    refine y_orT (b := ((!true) || false)) (env := [some (.val (AV.tup [(AV.int found.1), (AV.tup (List.map (eT2 AV.int AV.int) found.2))])), some (.val (AV.tup [(AV.int due.1), (AV.tup (List.map (eT2 AV.int AV.int) due.2))]))]) (by rfl) ?_ ?_
    · skip
      refine y_or2 ?_
      refine y_not ?_
      refine y_bi ?_
      refine y_evs1 ?_
      refine y_rfl (AV.tup (List.map (eT2 AV.int AV.int) found.2)) rfl ?_
      refine y_evs1 ?_
      refine y_rfl (AV.ty "tuple") rfl ?_
      refine y_evs0 ?_
      refine y_tot (AV.bl true) (op_isi (t := "tuple") rfl (by decide) (by decide)) ?_
      refine y_asB ?_
      refine y_asB ?_
      refine y_orT (b := false) (env := [some (.val (AV.tup [(AV.int found.1), (AV.tup (List.map (eT2 AV.int AV.int) found.2))])), some (.val (AV.tup [(AV.int due.1), (AV.tup (List.map (eT2 AV.int AV.int) due.2))]))]) (by rfl) ?_ ?_
      · skip
        refine y_or1 ?_
        refine y_bi ?_
        refine y_evs1 ?_
        refine y_rfl (AV.int found.1) rfl ?_
        refine y_evs1 ?_
        refine y_rfl (AV.ty "bool") rfl ?_
        refine y_evs0 ?_
        refine y_tot (AV.bl false) (op_isi (t := "int") rfl (by decide) (by decide)) ?_
        exact y_end rfl
      exact y_end rfl
    exact y_end rfl
  refine y_asB ?_
  refine y_if ?_ ?_
  · intro _
    refine y_ret ?_
    refine y_rfl (AV.bl false) rfl ?_
    exact y_end rfl
  · intro _
    refine y_nil ?_
    refine y_nx ?_
    refine y_ret ?_
    refine y_cmp ?_
    refine y_call ?_
    refine y_evs1 ?_
    refine y_rfl (AV.tup [(AV.int found.1), (AV.tup (List.map (eT2 AV.int AV.int) found.2))]) rfl ?_
    refine y_evs0 ?_
    refine y_callE (E' := fun q => [some (.val (AV.tup [(AV.int found.1), (AV.tup (List.map (eT2 AV.int AV.int) found.2))])), some (.val (AV.tup [(AV.int due.1), (AV.tup (List.map (eT2 AV.int AV.int) due.2))]))]) rfl (as1 (as_val rfl ((age_T2 age_I (age_V (age_T2 age_I age_I))) found)) as0) (ok_is_net _ (Nat.le_trans (by decide) hN) found) (fun _ => rfl) (fun _ => rfl) ?_
    intro q
    refine y_rfl (AV.bl true) rfl ?_
    refine y_tot (AV.bl (decide (q = true))) rfl ?_
    exact y_end rfl
theorem ok_brick (N : Nat) (hN : 2 ≤ N) (wide : Int) : Le (callD D N "brick" [(.val (AV.int wide))]) (SH.brick_2 wide) (RzF (fun r => some (.ok (AV.tup [(AV.int r.1), (AV.tup (List.map (eT2 AV.int AV.int) r.2))]) [none])) fun c => some (.exc c [none])) := by
  obtain ⟨N, rfl⟩ : ∃ M, N = M + 1 := ⟨N - 1, by omega⟩
  replace hN : 1 ≤ N := by omega
  refine y_def (d := d_brick) (E := [some (.val (AV.int wide)), none, none, none]) rfl rfl rfl ?_
  show Le (bx (evSs (callD D N) b_brick _) _ _) _ _
  unfold b_brick SH.brick_2
  refine y_ifs ?_
  refine y_or ?_
  refine y_or2 ?_
  refine y_not ?_
  refine y_call ?_
  refine y_evs1 ?_
  refine y_rfl (AV.int wide) rfl ?_
  refine y_evs0 ?_
  refine y_callE (E' := fun q => [some (.val (AV.int wide)), none, none, none]) rfl (as1 (as_val rfl (age_I wide)) as0) (ok_is_whole _ (Nat.le_trans (by decide) hN) wide) (fun _ => rfl) (fun _ => rfl) ?_
  intro q
  refine y_asB ?_
  refine y_asB ?_
  refine y_orT (b := (!((decide ((1 : Int) ≤ wide)) && (decide (wide ≤ (8 : Int)))))) (env := [some (.val (AV.int wide)), none, none, none]) (by rfl) ?_ ?_
  · skip
    refine y_or1 ?_
    refine y_not ?_
    refine y_chain ?_
    refine y_rfl (AV.int (1 : Int)) rfl ?_
    refine y_rfl (AV.int wide) rfl ?_
    refine y_tot (AV.bl (decide ((1 : Int) ≤ wide))) rfl ?_
    refine y_chK (w := (8 : Int)) (b := (decide (wide ≤ (8 : Int)))) rfl rfl ?_
    refine y_asB ?_
    exact y_end rfl
  refine y_asB ?_
  refine y_if ?_ ?_
  · intro _
    refine y_rse ?_
    exact y_end rfl
  · intro _
    refine y_nil ?_
    refine y_nx ?_
    refine y_set ?_
    refine y_lst ?_
    refine y_evs0 ?_
    refine y_tot (AV.frs (List.map (eT2 AV.int AV.int) ([]))) rfl ?_
    refine y_gen (en := fun (l : List (Int × Int)) => (AV.frs (List.map (eT2 AV.int AV.int) l))) ?_
    intro found
    refine y_setK (env' := [some (.val (AV.int wide)), some (.own true (List.map (eT2 AV.int AV.int) found)), none, none]) rfl ?_
    refine y_nx ?_
    refine y_wip (env' := [some (.val (AV.int wide)), some (.own true (List.map (eT2 AV.int AV.int) found)), none, none]) rfl rfl ?_
    refine y_for ?_
    refine y_iRg ?_
    refine y_evs1 ?_
    refine y_rfl (AV.int wide) rfl ?_
    refine y_evs0 ?_
    refine y_rg1 ?_
    intro ks
    refine y_loopU (E := fun (found2 : (List (Int × Int))) => [some (.val (AV.int wide)), some (.own true (List.map (eT2 AV.int AV.int) found2)), none, none]) (E2 := fun (found4 : (List (Int × Int))) => [some (.val (AV.int wide)), some (.own true (List.map (eT2 AV.int AV.int) found4)), none, none]) (s0 := found) rfl (fun _ => rfl) ?_ ?_
    · intro found2 row
      show Le _ (brick_2_L1 wide found2 row) _
      unfold brick_2_L1
      refine y_turn (env' := [some (.val (AV.int wide)), some (.own true (List.map (eT2 AV.int AV.int) found2)), some (.val (AV.int row)), none]) rfl ?_
      refine y_exp ?_
      refine y_mth rfl ?_
      refine y_evs1 ?_
      refine y_comp ?_
      refine y_iRg ?_
      refine y_evs1 ?_
      refine y_bin ?_
      refine y_rfl (AV.int row) rfl ?_
      refine y_rfl (AV.int (2 : Int)) rfl ?_
      refine y_tot (AV.int (row % (2 : Int))) (op_modT rfl) ?_
      refine y_evs1 ?_
      refine y_rfl (AV.int (wide - (1 : Int))) rfl ?_
      refine y_evs1 ?_
      refine y_rfl (AV.int (2 : Int)) rfl ?_
      refine y_evs0 ?_
      refine y_rg3 ?_
      intro ks2
      refine y_compM (dn := (eT2 AV.int AV.int)) (E0 := [some (.val (AV.int wide)), some (.own true (List.map (eT2 AV.int AV.int) found2)), some (.val (AV.int row)), none]) rfl rfl rfl ?_ ?_
      · intro lane
        refine y_itT ?_
        refine y_asgE (env' := [some (.val (AV.int wide)), some (.own true (List.map (eT2 AV.int AV.int) found2)), some (.val (AV.int row)), some (.val (AV.int lane))]) rfl ?_
        refine y_tup ?_
        refine y_evs1 ?_
        refine y_rfl (AV.int lane) rfl ?_
        refine y_evs1 ?_
        refine y_rfl (AV.int (lane + (1 : Int))) rfl ?_
        refine y_evs0 ?_
        refine y_tot (AV.tup [(AV.int lane), (AV.int (lane + (1 : Int)))]) rfl ?_
        exact y_end rfl
      intro ys
      refine y_evs0 ?_
      refine y_ext (l := found2) (l2 := ys) (en := (eT2 AV.int AV.int)) (E' := fun found3 => [some (.val (AV.int wide)), some (.own true (List.map (eT2 AV.int AV.int) found3)), some (.val (AV.int row)), none]) rfl rfl rfl (fun _ => rfl) ?_
      intro found3
      refine y_wip (env' := [some (.val (AV.int wide)), some (.own true (List.map (eT2 AV.int AV.int) found3)), none, none]) rfl rfl ?_
      refine y_nil ?_
      exact y_end rfl
    intro found4
    refine y_nx ?_
    refine y_ret ?_
    refine y_tup ?_
    refine y_evs1 ?_
    refine y_rfl (AV.int wide) rfl ?_
    refine y_evs1 ?_
    refine y_bi ?_
    refine y_evs1 ?_
    refine y_own rfl ?_
    refine y_evs0 ?_
    refine y_tot (AV.tup (List.map (eT2 AV.int AV.int) found4)) (op_tuple (l := found4) rfl) ?_
    refine y_evs0 ?_
    refine y_tot (AV.tup [(AV.int wide), (AV.tup (List.map (eT2 AV.int AV.int) found4))]) rfl ?_
    exact y_end rfl
theorem ok_l_brick (N : Nat) (hN : 1 ≤ N) (wide : Int) : Le (callD D N "_law_brick" [(.val (AV.int wide))]) (SH.l_brick wide) (fun r => some (.ok (AV.frs (List.map (eT2 AV.int AV.int) r)) [none])) := by
  obtain ⟨N, rfl⟩ : ∃ M, N = M + 1 := ⟨N - 1, by omega⟩
  replace hN : 0 ≤ N := by omega
  refine y_def (d := d_l_brick) (E := [some (.val (AV.int wide)), none, none, none]) rfl rfl rfl ?_
  show Le (bx (evSs (callD D N) b_l_brick _) _ _) _ _
  unfold b_l_brick SH.l_brick
  refine y_set ?_
  refine y_lst ?_
  refine y_evs0 ?_
  refine y_tot (AV.frs (List.map (eT2 AV.int AV.int) ([]))) rfl ?_
  refine y_gen (en := fun (l : List (Int × Int)) => (AV.frs (List.map (eT2 AV.int AV.int) l))) ?_
  intro found
  refine y_setK (env' := [some (.val (AV.int wide)), some (.own true (List.map (eT2 AV.int AV.int) found)), none, none]) rfl ?_
  refine y_nx ?_
  refine y_wip (env' := [some (.val (AV.int wide)), some (.own true (List.map (eT2 AV.int AV.int) found)), none, none]) rfl rfl ?_
  refine y_for ?_
  refine y_iRg ?_
  refine y_evs1 ?_
  refine y_rfl (AV.int wide) rfl ?_
  refine y_evs0 ?_
  refine y_rg1 ?_
  intro ks
  refine y_loopU (E := fun (found2 : (List (Int × Int))) => [some (.val (AV.int wide)), some (.own true (List.map (eT2 AV.int AV.int) found2)), none, none]) (E2 := fun (found3 : (List (Int × Int))) => [some (.val (AV.int wide)), some (.own true (List.map (eT2 AV.int AV.int) found3)), none, none]) (s0 := found) rfl (fun _ => rfl) ?_ ?_
  · intro found2 row
    show Le _ (l_brick_L1 wide found2 row) _
    unfold l_brick_L1
    refine y_turn (env' := [some (.val (AV.int wide)), some (.own true (List.map (eT2 AV.int AV.int) found2)), some (.val (AV.int row)), none]) rfl ?_
    refine y_set ?_
    refine y_bin ?_
    refine y_own rfl ?_
    refine y_comp ?_
    refine y_iRg ?_
    refine y_evs1 ?_
    refine y_rfl (AV.int (wide - (1 : Int))) rfl ?_
    refine y_evs0 ?_
    refine y_rg1 ?_
    intro ks2
    refine y_compC (dn := (eT2 AV.int AV.int)) (E0 := [some (.val (AV.int wide)), some (.own true (List.map (eT2 AV.int AV.int) found2)), some (.val (AV.int row)), none]) rfl rfl rfl rfl ?_ ?_
    · intro k
      refine y_itC ?_
      refine y_asgE (env' := [some (.val (AV.int wide)), some (.own true (List.map (eT2 AV.int AV.int) found2)), some (.val (AV.int row)), some (.val (AV.int k))]) rfl ?_
      refine y_cmp ?_
      refine y_bin ?_
      refine y_rfl (AV.int k) rfl ?_
      refine y_rfl (AV.int (2 : Int)) rfl ?_
      refine y_tot (AV.int (k % (2 : Int))) (op_modT rfl) ?_
      refine y_bin ?_
      refine y_rfl (AV.int row) rfl ?_
      refine y_rfl (AV.int (2 : Int)) rfl ?_
      refine y_tot (AV.int (row % (2 : Int))) (op_modT rfl) ?_
      refine y_tot (AV.bl (decide ((k % (2 : Int)) = (row % (2 : Int))))) rfl ?_
      refine y_asB ?_
      refine y_if ?_ ?_
      · intro _
        refine y_tup ?_
        refine y_evs1 ?_
        refine y_rfl (AV.int k) rfl ?_
        refine y_evs1 ?_
        refine y_rfl (AV.int (k + (1 : Int))) rfl ?_
        refine y_evs0 ?_
        refine y_tot (AV.tup [(AV.int k), (AV.int (k + (1 : Int)))]) rfl ?_
        exact y_end rfl
      · intro _
        exact y_end rfl
    intro ys
    refine y_part (en := fun l => AV.frs (List.map (eT2 AV.int AV.int) l)) (op_addL (l := found2) (l2 := ys) rfl rfl) ?_
    intro q
    refine y_setK (env' := [some (.val (AV.int wide)), some (.own true (List.map (eT2 AV.int AV.int) q)), some (.val (AV.int row)), none]) rfl ?_
    refine y_nx ?_
    refine y_wip (env' := [some (.val (AV.int wide)), some (.own true (List.map (eT2 AV.int AV.int) q)), none, none]) rfl rfl ?_
    refine y_nil ?_
    exact y_end rfl
  intro found3
  refine y_nx ?_
  refine y_ret ?_
  refine y_own rfl ?_
  exact y_end rfl
theorem ok_is_whole_1 (N : Nat) (hN : 1 ≤ N) (thing : Bool) : Le (callD D N "is_whole" [(.val (AV.bl thing))]) (SH.is_whole_2 thing) (fun r => some (.ok (AV.bl r) [none])) := by
  obtain ⟨N, rfl⟩ : ∃ M, N = M + 1 := ⟨N - 1, by omega⟩
  replace hN : 0 ≤ N := by omega
  refine y_def (d := d_is_whole) (E := [some (.val (AV.bl thing))]) rfl rfl rfl ?_
  show Le (bx (evSs (callD D N) b_is_whole _) _ _) _ _
  unfold b_is_whole SH.is_whole_2
  refine y_ret ?_
  refine y_and ?_
  refine y_and2 ?_
  refine y_bi ?_
  refine y_evs1 ?_
  refine y_rfl (AV.bl thing) rfl ?_
  refine y_evs1 ?_
  refine y_rfl (AV.ty "int") rfl ?_
  refine y_evs0 ?_
  refine y_tot (AV.bl true) (op_isi (t := "bool") rfl (by decide) (by decide)) ?_
  refine y_asB ?_
  refine y_andT (b := (!true)) (env := [some (.val (AV.bl thing))]) (by rfl) ?_ ?_
  · skip
    refine y_and1 ?_
    refine y_not ?_
    refine y_bi ?_
    refine y_evs1 ?_
    refine y_rfl (AV.bl thing) rfl ?_
    refine y_evs1 ?_
    refine y_rfl (AV.ty "bool") rfl ?_
    refine y_evs0 ?_
    refine y_tot (AV.bl true) (op_isi (t := "bool") rfl (by decide) (by decide)) ?_
    refine y_asB ?_
    exact y_end rfl
  exact y_end rfl
theorem ok_checked_halved_1 (N : Nat) (hN : 2 ≤ N) (wide : Bool) : Le (callD D N "checked_halved" [(.val (AV.bl wide))]) (SH.checked_halved_2 wide) (RzF (fun r => some (.ok AV.non [none])) fun c => some (.exc c [none])) := by
  obtain ⟨N, rfl⟩ : ∃ M, N = M + 1 := ⟨N - 1, by omega⟩
  replace hN : 1 ≤ N := by omega
  refine y_def (d := d_checked_halved) (E := [some (.val (AV.bl wide))]) rfl rfl rfl ?_
  show Le (bx (evSs (callD D N) b_checked_halved _) _ _) _ _
  unfold b_checked_halved SH.checked_halved_2
  refine y_ifs ?_
  refine y_or ?_
  refine y_or2 ?_
  refine y_not ?_
  refine y_call ?_
  refine y_evs1 ?_
  refine y_rfl (AV.bl wide) rfl ?_
  refine y_evs0 ?_
  refine y_callE (E' := fun q => [some (.val (AV.bl wide))]) rfl (as1 (as_val rfl (age_B wide)) as0) (ok_is_whole_1 _ (Nat.le_trans (by decide) hN) wide) (fun _ => rfl) (fun _ => rfl) ?_
  intro q
  refine y_asB ?_
  refine y_asB ?_
  refine y_orJ (env := [some (.val (AV.bl wide))]) (by rfl) ?_ ?_
  · intro _
    exact y_none
  intro q2
  refine y_asB ?_
  refine y_if ?_ ?_
  · intro _
    refine y_rse ?_
    exact y_end rfl
  · intro _
    refine y_nil ?_
    refine y_nx ?_
    refine y_nil ?_
    exact y_end rfl
theorem ok_is_whole_2 (N : Nat) (hN : 1 ≤ N) (thing : Unit) : Le (callD D N "is_whole" [(.val AV.non)]) (SH.is_whole_3 thing) (fun r => some (.ok (AV.bl r) [none])) := by
  obtain ⟨N, rfl⟩ : ∃ M, N = M + 1 := ⟨N - 1, by omega⟩
  replace hN : 0 ≤ N := by omega
  refine y_def (d := d_is_whole) (E := [some (.val AV.non)]) rfl rfl rfl ?_
  show Le (bx (evSs (callD D N) b_is_whole _) _ _) _ _
  unfold b_is_whole SH.is_whole_3
  refine y_ret ?_
  refine y_and ?_
  refine y_and2 ?_
  refine y_bi ?_
  refine y_evs1 ?_
  refine y_rfl AV.non rfl ?_
  refine y_evs1 ?_
  refine y_rfl (AV.ty "int") rfl ?_
  refine y_evs0 ?_
  refine y_tot (AV.bl false) (op_isi (t := "NoneType") rfl (by decide) (by decide)) ?_
  refine y_asB ?_
  refine y_andT (b := (!false)) (env := [some (.val AV.non)]) (by rfl) ?_ ?_
  · skip
    refine y_and1 ?_
    refine y_not ?_
    refine y_bi ?_
    refine y_evs1 ?_
    refine y_rfl AV.non rfl ?_
    refine y_evs1 ?_
    refine y_rfl (AV.ty "bool") rfl ?_
    refine y_evs0 ?_
    refine y_tot (AV.bl false) (op_isi (t := "NoneType") rfl (by decide) (by decide)) ?_
    refine y_asB ?_
    exact y_end rfl
  exact y_end rfl
theorem ok_checked_halved_2 (N : Nat) (hN : 2 ≤ N) (wide : Unit) : Le (callD D N "checked_halved" [(.val AV.non)]) (SH.checked_halved_3 wide) (RzF (fun r => some (.ok AV.non [none])) fun c => some (.exc c [none])) := by
  obtain ⟨N, rfl⟩ : ∃ M, N = M + 1 := ⟨N - 1, by omega⟩
  replace hN : 1 ≤ N := by omega
  refine y_def (d := d_checked_halved) (E := [some (.val AV.non)]) rfl rfl rfl ?_
  show Le (bx (evSs (callD D N) b_checked_halved _) _ _) _ _
  unfold b_checked_halved SH.checked_halved_3
  refine y_ifs ?_
  refine y_or ?_
  refine y_or2 ?_
  refine y_not ?_
  refine y_call ?_
  refine y_evs1 ?_
  refine y_rfl AV.non rfl ?_
  refine y_evs0 ?_
  refine y_callE (E' := fun q => [some (.val AV.non)]) rfl (as1 rfl as0) (ok_is_whole_2 _ (Nat.le_trans (by decide) hN) wide) (fun _ => rfl) (fun _ => rfl) ?_
  intro q
  refine y_asB ?_
  refine y_asB ?_
  refine y_orJ (env := [some (.val AV.non)]) (by rfl) ?_ ?_
  · intro _
    exact y_none
  intro q2
  refine y_asB ?_
  refine y_if ?_ ?_
  · intro _
    refine y_rse ?_
    exact y_end rfl
  · intro _
    refine y_nil ?_
    refine y_nx ?_
    refine y_nil ?_
    exact y_end rfl
theorem ok_is_whole_3 (N : Nat) (hN : 1 ≤ N) (thing : Str) : Le (callD D N "is_whole" [(.val (AV.str thing))]) (SH.is_whole_4 thing) (fun r => some (.ok (AV.bl r) [none])) := by
  obtain ⟨N, rfl⟩ : ∃ M, N = M + 1 := ⟨N - 1, by omega⟩
  replace hN : 0 ≤ N := by omega
  refine y_def (d := d_is_whole) (E := [some (.val (AV.str thing))]) rfl rfl rfl ?_
  show Le (bx (evSs (callD D N) b_is_whole _) _ _) _ _
  unfold b_is_whole SH.is_whole_4
  refine y_ret ?_
  refine y_and ?_
  refine y_and2 ?_
  refine y_bi ?_
  refine y_evs1 ?_
  refine y_rfl (AV.str thing) rfl ?_
  refine y_evs1 ?_
  refine y_rfl (AV.ty "int") rfl ?_
  refine y_evs0 ?_
  refine y_tot (AV.bl false) (op_isi (t := "str") rfl (by decide) (by decide)) ?_
  refine y_asB ?_
  refine y_andT (b := (!false)) (env := [some (.val (AV.str thing))]) (by rfl) ?_ ?_
  · skip
    refine y_and1 ?_
    refine y_not ?_
    refine y_bi ?_
    refine y_evs1 ?_
    refine y_rfl (AV.str thing) rfl ?_
    refine y_evs1 ?_
    refine y_rfl (AV.ty "bool") rfl ?_
    refine y_evs0 ?_
    refine y_tot (AV.bl false) (op_isi (t := "str") rfl (by decide) (by decide)) ?_
    refine y_asB ?_
    exact y_end rfl
  exact y_end rfl
theorem ok_checked_halved_3 (N : Nat) (hN : 2 ≤ N) (wide : Str) : Le (callD D N "checked_halved" [(.val (AV.str wide))]) (SH.checked_halved_4 wide) (RzF (fun r => some (.ok AV.non [none])) fun c => some (.exc c [none])) := by
  obtain ⟨N, rfl⟩ : ∃ M, N = M + 1 := ⟨N - 1, by omega⟩
  replace hN : 1 ≤ N := by omega
  refine y_def (d := d_checked_halved) (E := [some (.val (AV.str wide))]) rfl rfl rfl ?_
  show Le (bx (evSs (callD D N) b_checked_halved _) _ _) _ _
  unfold b_checked_halved SH.checked_halved_4
  refine y_ifs ?_
  refine y_or ?_
  refine y_or2 ?_
  refine y_not ?_
  refine y_call ?_
  refine y_evs1 ?_
  refine y_rfl (AV.str wide) rfl ?_
  refine y_evs0 ?_
  refine y_callE (E' := fun q => [some (.val (AV.str wide))]) rfl (as1 (as_val rfl (age_S wide)) as0) (ok_is_whole_3 _ (Nat.le_trans (by decide) hN) wide) (fun _ => rfl) (fun _ => rfl) ?_
  intro q
  refine y_asB ?_
  refine y_asB ?_
  refine y_orJ (env := [some (.val (AV.str wide))]) (by rfl) ?_ ?_
  · intro _
    exact y_none
  intro q2
  refine y_asB ?_
  refine y_if ?_ ?_
  · intro _
    refine y_rse ?_
    exact y_end rfl
  · intro _
    refine y_nil ?_
    refine y_nx ?_
    refine y_nil ?_
    exact y_end rfl
theorem ok_is_whole_4 (N : Nat) (hN : 1 ≤ N) (thing : List Int) : Le (callD D N "is_whole" [(.val (AV.tup (List.map AV.int thing)))]) (SH.is_whole_5 thing) (fun r => some (.ok (AV.bl r) [none])) := by
  obtain ⟨N, rfl⟩ : ∃ M, N = M + 1 := ⟨N - 1, by omega⟩
  replace hN : 0 ≤ N := by omega
  refine y_def (d := d_is_whole) (E := [some (.val (AV.tup (List.map AV.int thing)))]) rfl rfl rfl ?_
  show Le (bx (evSs (callD D N) b_is_whole _) _ _) _ _
  unfold b_is_whole SH.is_whole_5
  refine y_ret ?_
  refine y_and ?_
  refine y_and2 ?_
  refine y_bi ?_
  refine y_evs1 ?_
  refine y_rfl (AV.tup (List.map AV.int thing)) rfl ?_
  refine y_evs1 ?_
  refine y_rfl (AV.ty "int") rfl ?_
  refine y_evs0 ?_
  refine y_tot (AV.bl false) (op_isi (t := "tuple") rfl (by decide) (by decide)) ?_
  refine y_asB ?_
  refine y_andT (b := (!false)) (env := [some (.val (AV.tup (List.map AV.int thing)))]) (by rfl) ?_ ?_
  · skip
    refine y_and1 ?_
    refine y_not ?_
    refine y_bi ?_
    refine y_evs1 ?_
    refine y_rfl (AV.tup (List.map AV.int thing)) rfl ?_
    refine y_evs1 ?_
    refine y_rfl (AV.ty "bool") rfl ?_
    refine y_evs0 ?_
    refine y_tot (AV.bl false) (op_isi (t := "tuple") rfl (by decide) (by decide)) ?_
    refine y_asB ?_
    exact y_end rfl
  exact y_end rfl
theorem ok_checked_halved_4 (N : Nat) (hN : 2 ≤ N) (wide : List Int) : Le (callD D N "checked_halved" [(.val (AV.tup (List.map AV.int wide)))]) (SH.checked_halved_5 wide) (RzF (fun r => some (.ok AV.non [none])) fun c => some (.exc c [none])) := by
  obtain ⟨N, rfl⟩ : ∃ M, N = M + 1 := ⟨N - 1, by omega⟩
  replace hN : 1 ≤ N := by omega
  refine y_def (d := d_checked_halved) (E := [some (.val (AV.tup (List.map AV.int wide)))]) rfl rfl rfl ?_
  show Le (bx (evSs (callD D N) b_checked_halved _) _ _) _ _
  unfold b_checked_halved SH.checked_halved_5
  refine y_ifs ?_
  refine y_or ?_
  refine y_or2 ?_
  refine y_not ?_
  refine y_call ?_
  refine y_evs1 ?_
  refine y_rfl (AV.tup (List.map AV.int wide)) rfl ?_
  refine y_evs0 ?_
  refine y_callE (E' := fun q => [some (.val (AV.tup (List.map AV.int wide)))]) rfl (as1 (as_val rfl ((age_V age_I) wide)) as0) (ok_is_whole_4 _ (Nat.le_trans (by decide) hN) wide) (fun _ => rfl) (fun _ => rfl) ?_
  intro q
  refine y_asB ?_
  refine y_asB ?_
  refine y_orJ (env := [some (.val (AV.tup (List.map AV.int wide)))]) (by rfl) ?_ ?_
  · intro _
    exact y_none
  intro q2
  refine y_asB ?_
  refine y_if ?_ ?_
  · intro _
    refine y_rse ?_
    exact y_end rfl
  · intro _
    refine y_nil ?_
    refine y_nx ?_
    refine y_nil ?_
    exact y_end rfl
theorem ok_is_whole_5 (N : Nat) (hN : 1 ≤ N) (thing : List Int) : Le (callD D N "is_whole" [(.val (AV.lst false (List.map AV.int thing)))]) (SH.is_whole_6 thing) (fun r => some (.ok (AV.bl r) [none])) := by
  obtain ⟨N, rfl⟩ : ∃ M, N = M + 1 := ⟨N - 1, by omega⟩
  replace hN : 0 ≤ N := by omega
  refine y_def (d := d_is_whole) (E := [some (.val (AV.lst false (List.map AV.int thing)))]) rfl rfl rfl ?_
  show Le (bx (evSs (callD D N) b_is_whole _) _ _) _ _
  unfold b_is_whole SH.is_whole_6
  refine y_ret ?_
  refine y_and ?_
  refine y_and2 ?_
  refine y_bi ?_
  refine y_evs1 ?_
  refine y_rfl (AV.lst false (List.map AV.int thing)) rfl ?_
  refine y_evs1 ?_
  refine y_rfl (AV.ty "int") rfl ?_
  refine y_evs0 ?_
  refine y_tot (AV.bl false) (op_isi (t := "list") rfl (by decide) (by decide)) ?_
  refine y_asB ?_
  refine y_andT (b := (!false)) (env := [some (.val (AV.lst false (List.map AV.int thing)))]) (by rfl) ?_ ?_
  · skip
    refine y_and1 ?_
    refine y_not ?_
    refine y_bi ?_
    refine y_evs1 ?_
    refine y_rfl (AV.lst false (List.map AV.int thing)) rfl ?_
    refine y_evs1 ?_
    refine y_rfl (AV.ty "bool") rfl ?_
    refine y_evs0 ?_
    refine y_tot (AV.bl false) (op_isi (t := "list") rfl (by decide) (by decide)) ?_
    refine y_asB ?_
    exact y_end rfl
  exact y_end rfl
theorem ok_checked_halved_5 (N : Nat) (hN : 2 ≤ N) (wide : List Int) : Le (callD D N "checked_halved" [(.val (AV.lst false (List.map AV.int wide)))]) (SH.checked_halved_6 wide) (RzF (fun r => some (.ok AV.non [none])) fun c => some (.exc c [none])) := by
  obtain ⟨N, rfl⟩ : ∃ M, N = M + 1 := ⟨N - 1, by omega⟩
  replace hN : 1 ≤ N := by omega
  refine y_def (d := d_checked_halved) (E := [some (.val (AV.lst false (List.map AV.int wide)))]) rfl rfl rfl ?_
  show Le (bx (evSs (callD D N) b_checked_halved _) _ _) _ _
  unfold b_checked_halved SH.checked_halved_6
  refine y_ifs ?_
  refine y_or ?_
  refine y_or2 ?_
  refine y_not ?_
  refine y_call ?_
  refine y_evs1 ?_
  refine y_rfl (AV.lst false (List.map AV.int wide)) rfl ?_
  refine y_evs0 ?_
  refine y_callE (E' := fun q => [some (.val (AV.lst false (List.map AV.int wide)))]) rfl (as1 (as_val rfl ((age_L age_I) wide)) as0) (ok_is_whole_5 _ (Nat.le_trans (by decide) hN) wide) (fun _ => rfl) (fun _ => rfl) ?_
  intro q
  refine y_asB ?_
  refine y_asB ?_
  refine y_orJ (env := [some (.val (AV.lst false (List.map AV.int wide)))]) (by rfl) ?_ ?_
  · intro _
    exact y_none
  intro q2
  refine y_asB ?_
  refine y_if ?_ ?_
  · intro _
    refine y_rse ?_
    exact y_end rfl
  · intro _
    refine y_nil ?_
    refine y_nx ?_
    refine y_nil ?_
    exact y_end rfl
theorem ok_is_whole_6 (N : Nat) (hN : 1 ≤ N) (thing : Unit) : Le (callD D N "is_whole" [(.val AV.dcx)]) (SH.is_whole_7 thing) (fun r => some (.ok (AV.bl r) [none])) := by
  obtain ⟨N, rfl⟩ : ∃ M, N = M + 1 := ⟨N - 1, by omega⟩
  replace hN : 0 ≤ N := by omega
  refine y_def (d := d_is_whole) (E := [some (.val AV.dcx)]) rfl rfl rfl ?_
  show Le (bx (evSs (callD D N) b_is_whole _) _ _) _ _
  unfold b_is_whole SH.is_whole_7
  refine y_ret ?_
  refine y_and ?_
  refine y_and2 ?_
  refine y_bi ?_
  refine y_evs1 ?_
  refine y_rfl AV.dcx rfl ?_
  refine y_evs1 ?_
  refine y_rfl (AV.ty "int") rfl ?_
  refine y_evs0 ?_
  refine y_tot (AV.bl false) (op_isi (t := "dict") rfl (by decide) (by decide)) ?_
  refine y_asB ?_
  refine y_andT (b := (!false)) (env := [some (.val AV.dcx)]) (by rfl) ?_ ?_
  · skip
    refine y_and1 ?_
    refine y_not ?_
    refine y_bi ?_
    refine y_evs1 ?_
    refine y_rfl AV.dcx rfl ?_
    refine y_evs1 ?_
    refine y_rfl (AV.ty "bool") rfl ?_
    refine y_evs0 ?_
    refine y_tot (AV.bl false) (op_isi (t := "dict") rfl (by decide) (by decide)) ?_
    refine y_asB ?_
    exact y_end rfl
  exact y_end rfl
theorem ok_checked_halved_6 (N : Nat) (hN : 2 ≤ N) (wide : Unit) : Le (callD D N "checked_halved" [(.val AV.dcx)]) (SH.checked_halved_7 wide) (RzF (fun r => some (.ok AV.non [none])) fun c => some (.exc c [none])) := by
  obtain ⟨N, rfl⟩ : ∃ M, N = M + 1 := ⟨N - 1, by omega⟩
  replace hN : 1 ≤ N := by omega
  refine y_def (d := d_checked_halved) (E := [some (.val AV.dcx)]) rfl rfl rfl ?_
  show Le (bx (evSs (callD D N) b_checked_halved _) _ _) _ _
  unfold b_checked_halved SH.checked_halved_7
  refine y_ifs ?_
  refine y_or ?_
  refine y_or2 ?_
  refine y_not ?_
  refine y_call ?_
  refine y_evs1 ?_
  refine y_rfl AV.dcx rfl ?_
  refine y_evs0 ?_
  refine y_callE (E' := fun q => [some (.val AV.dcx)]) rfl (as1 (as_val rfl (age_D wide)) as0) (ok_is_whole_6 _ (Nat.le_trans (by decide) hN) wide) (fun _ => rfl) (fun _ => rfl) ?_
  intro q
  refine y_asB ?_
  refine y_asB ?_
  refine y_orJ (env := [some (.val AV.dcx)]) (by rfl) ?_ ?_
  · intro _
    exact y_none
  intro q2
  refine y_asB ?_
  refine y_if ?_ ?_
  · intro _
    refine y_rse ?_
    exact y_end rfl
  · intro _
    refine y_nil ?_
    refine y_nx ?_
    refine y_nil ?_
    exact y_end rfl
theorem ok_rounds_1 (N : Nat) (hN : 8 ≤ N) (wide : (((((Int ⊕ Bool) ⊕ Unit) ⊕ Str) ⊕ (List Int)) ⊕ (List Int)) ⊕ Unit) : Le (callD D N "rounds" [(.val ((eU (eU (eU (eU (eU (eU AV.int AV.bl) eN) AV.str) (eV AV.int)) (eL false AV.int)) eD) wide))]) (SH.rounds_2 wide) (RzF (fun r => some (.ok (AV.tup [(AV.int r.1), (AV.tup (List.map (eT2 AV.int AV.int) r.2))]) [none])) fun c => some (.exc c [none])) := by
  obtain ⟨N, rfl⟩ : ∃ M, N = M + 1 := ⟨N - 1, by omega⟩
  replace hN : 7 ≤ N := by omega
  refine y_def (d := d_rounds) (E := [some (.val ((eU (eU (eU (eU (eU (eU AV.int AV.bl) eN) AV.str) (eV AV.int)) (eL false AV.int)) eD) wide))]) rfl rfl rfl ?_
  show Le (bx (evSs (callD D N) b_rounds _) _ _) _ _
  unfold b_rounds SH.rounds_2
  rcases wide with wide2 | wide13
  · skip
    refine y_inl ?_
    rcases wide2 with wide3 | wide12
    · skip
      refine y_inl ?_
      rcases wide3 with wide4 | wide11
      · skip
        refine y_inl ?_
        rcases wide4 with wide5 | wide10
        · skip
          refine y_inl ?_
          rcases wide5 with wide6 | wide9
          · skip
            refine y_inl ?_
            rcases wide6 with wide7 | wide8
            · skip
              refine y_inl ?_
              refine y_exp ?_
              refine y_call ?_
              refine y_evs1 ?_
              refine y_rfl (AV.int wide7) rfl ?_
              refine y_evs0 ?_
              refine y_callX (E' := fun q => [some (.val (AV.int wide7))]) rfl (as1 (as_val rfl (age_I wide7)) as0) (ok_checked_halved _ (Nat.le_trans (by decide) hN) wide7) (fun _ => rfl) (fun _ => rfl) (fun _ => rfl) (fun _ => rfl) ?_
              intro q
              refine y_ret ?_
              refine y_tup ?_
              refine y_evs1 ?_
              refine y_rfl (AV.int wide7) rfl ?_
              refine y_evs1 ?_
              refine y_bi ?_
              refine y_evs1 ?_
              refine y_bin ?_
              refine y_call ?_
              refine y_evs1 ?_
              refine y_rfl (AV.int wide7) rfl ?_
              refine y_evs0 ?_
              refine y_callE (E' := fun q2 => [some (.val (AV.int wide7))]) rfl (as1 (as_val rfl (age_I wide7)) as0) (ok_block 6 _ (Nat.le_trans (by decide) hN) wide7) (fun _ => rfl) (fun _ => rfl) ?_
              intro q2
              refine y_pm ?_
              refine y_rfl (AV.tup (List.map AV.int ([1, 2, 4, 8] : List Int))) rfl ?_
              refine y_pmK rfl ?_
              refine y_evs1 ?_
              refine y_rfl (AV.int wide7) rfl ?_
              refine y_evs0 ?_
              refine y_part (en := AV.int) (op_ixG (l := ([1, 2, 4, 8] : List Int))) ?_
              intro q3
              refine y_part (en := fun l => AV.frs (List.map (eT2 AV.int AV.int) l)) (op_mulL (l := q2) rfl) ?_
              intro q4
              refine y_evs0 ?_
              refine y_tot (AV.tup (List.map (eT2 AV.int AV.int) q4)) (op_tuple (l := q4) rfl) ?_
              refine y_evs0 ?_
              refine y_tot (AV.tup [(AV.int wide7), (AV.tup (List.map (eT2 AV.int AV.int) q4))]) rfl ?_
              exact y_end rfl
            · skip
              refine y_inr ?_
              refine y_exp ?_
              refine y_call ?_
              refine y_evs1 ?_
              refine y_rfl (AV.bl wide8) rfl ?_
              refine y_evs0 ?_
              refine y_callX (E' := fun q5 => [some (.val (AV.bl wide8))]) rfl (as1 (as_val rfl (age_B wide8)) as0) (ok_checked_halved_1 _ (Nat.le_trans (by decide) hN) wide8) (fun _ => rfl) (fun _ => rfl) (fun _ => rfl) (fun _ => rfl) ?_
              intro q5
              exact y_none
          · skip
            refine y_inr ?_
            refine y_exp ?_
            refine y_call ?_
            refine y_evs1 ?_
            refine y_rfl AV.non rfl ?_
            refine y_evs0 ?_
            refine y_callX (E' := fun q6 => [some (.val AV.non)]) rfl (as1 rfl as0) (ok_checked_halved_2 _ (Nat.le_trans (by decide) hN) wide9) (fun _ => rfl) (fun _ => rfl) (fun _ => rfl) (fun _ => rfl) ?_
            intro q6
            exact y_none
        · skip
          refine y_inr ?_
          refine y_exp ?_
          refine y_call ?_
          refine y_evs1 ?_
          refine y_rfl (AV.str wide10) rfl ?_
          refine y_evs0 ?_
          refine y_callX (E' := fun q7 => [some (.val (AV.str wide10))]) rfl (as1 (as_val rfl (age_S wide10)) as0) (ok_checked_halved_3 _ (Nat.le_trans (by decide) hN) wide10) (fun _ => rfl) (fun _ => rfl) (fun _ => rfl) (fun _ => rfl) ?_
          intro q7
          exact y_none
      · skip
        refine y_inr ?_
        refine y_exp ?_
        refine y_call ?_
        refine y_evs1 ?_
        refine y_rfl (AV.tup (List.map AV.int wide11)) rfl ?_
        refine y_evs0 ?_
        refine y_callX (E' := fun q8 => [some (.val (AV.tup (List.map AV.int wide11)))]) rfl (as1 (as_val rfl ((age_V age_I) wide11)) as0) (ok_checked_halved_4 _ (Nat.le_trans (by decide) hN) wide11) (fun _ => rfl) (fun _ => rfl) (fun _ => rfl) (fun _ => rfl) ?_
        intro q8
        exact y_none
    · skip
      refine y_inr ?_
      refine y_exp ?_
      refine y_call ?_
      refine y_evs1 ?_
      refine y_rfl (AV.lst false (List.map AV.int wide12)) rfl ?_
      refine y_evs0 ?_
      refine y_callX (E' := fun q9 => [some (.val (AV.lst false (List.map AV.int wide12)))]) rfl (as1 (as_val rfl ((age_L age_I) wide12)) as0) (ok_checked_halved_5 _ (Nat.le_trans (by decide) hN) wide12) (fun _ => rfl) (fun _ => rfl) (fun _ => rfl) (fun _ => rfl) ?_
      intro q9
      exact y_none
  · skip
    refine y_inr ?_
    refine y_exp ?_
    refine y_call ?_
    refine y_evs1 ?_
    refine y_rfl AV.dcx rfl ?_
    refine y_evs0 ?_
    refine y_callX (E' := fun q10 => [some (.val AV.dcx)]) rfl (as1 (as_val rfl (age_D wide13)) as0) (ok_checked_halved_6 _ (Nat.le_trans (by decide) hN) wide13) (fun _ => rfl) (fun _ => rfl) (fun _ => rfl) (fun _ => rfl) ?_
    intro q10
    exact y_none
theorem ok_brick_1 (N : Nat) (hN : 2 ≤ N) (wide : (((((Int ⊕ Bool) ⊕ Unit) ⊕ Str) ⊕ (List Int)) ⊕ (List Int)) ⊕ Unit) : Le (callD D N "brick" [(.val ((eU (eU (eU (eU (eU (eU AV.int AV.bl) eN) AV.str) (eV AV.int)) (eL false AV.int)) eD) wide))]) (SH.brick_3 wide) (RzF (fun r => some (.ok (AV.tup [(AV.int r.1), (AV.tup (List.map (eT2 AV.int AV.int) r.2))]) [none])) fun c => some (.exc c [none])) := by
  obtain ⟨N, rfl⟩ : ∃ M, N = M + 1 := ⟨N - 1, by omega⟩
  replace hN : 1 ≤ N := by omega
  refine y_def (d := d_brick) (E := [some (.val ((eU (eU (eU (eU (eU (eU AV.int AV.bl) eN) AV.str) (eV AV.int)) (eL false AV.int)) eD) wide)), none, none, none]) rfl rfl rfl ?_
  show Le (bx (evSs (callD D N) b_brick _) _ _) _ _
  unfold b_brick SH.brick_3
  rcases wide with wide2 | wide13
  · skip
    refine y_inl ?_
    rcases wide2 with wide3 | wide12
    · skip
      refine y_inl ?_
      rcases wide3 with wide4 | wide11
      · skip
        refine y_inl ?_
        rcases wide4 with wide5 | wide10
        · skip
          refine y_inl ?_
          rcases wide5 with wide6 | wide9
          · skip
            refine y_inl ?_
            rcases wide6 with wide7 | wide8
            · skip
              refine y_inl ?_
              refine y_ifs ?_
              refine y_or ?_
              refine y_or2 ?_
              refine y_not ?_
              refine y_call ?_
              refine y_evs1 ?_
              refine y_rfl (AV.int wide7) rfl ?_
              refine y_evs0 ?_
              refine y_callE (E' := fun q => [some (.val (AV.int wide7)), none, none, none]) rfl (as1 (as_val rfl (age_I wide7)) as0) (ok_is_whole _ (Nat.le_trans (by decide) hN) wide7) (fun _ => rfl) (fun _ => rfl) ?_
              intro q
              refine y_asB ?_
              refine y_asB ?_
              refine y_orT (b := (!((decide ((1 : Int) ≤ wide7)) && (decide (wide7 ≤ (8 : Int)))))) (env := [some (.val (AV.int wide7)), none, none, none]) (by rfl) ?_ ?_
              · skip
                refine y_or1 ?_
                refine y_not ?_
                refine y_chain ?_
                refine y_rfl (AV.int (1 : Int)) rfl ?_
                refine y_rfl (AV.int wide7) rfl ?_
                refine y_tot (AV.bl (decide ((1 : Int) ≤ wide7))) rfl ?_
                refine y_chK (w := (8 : Int)) (b := (decide (wide7 ≤ (8 : Int)))) rfl rfl ?_
                refine y_asB ?_
                exact y_end rfl
              refine y_asB ?_
              refine y_if ?_ ?_
              · intro _
                refine y_rse ?_
                exact y_end rfl
              · intro _
                refine y_nil ?_
                refine y_nx ?_
                refine y_set ?_
                refine y_lst ?_
                refine y_evs0 ?_
                refine y_tot (AV.frs (List.map (eT2 AV.int AV.int) ([]))) rfl ?_
                refine y_gen (en := fun (l : List (Int × Int)) => (AV.frs (List.map (eT2 AV.int AV.int) l))) ?_
                intro found
                refine y_setK (env' := [some (.val (AV.int wide7)), some (.own true (List.map (eT2 AV.int AV.int) found)), none, none]) rfl ?_
                refine y_nx ?_
                refine y_wip (env' := [some (.val (AV.int wide7)), some (.own true (List.map (eT2 AV.int AV.int) found)), none, none]) rfl rfl ?_
                refine y_for ?_
                refine y_iRg ?_
                refine y_evs1 ?_
                refine y_rfl (AV.int wide7) rfl ?_
                refine y_evs0 ?_
                refine y_rg1 ?_
                intro ks
                refine y_loopU (E := fun (found2 : (List (Int × Int))) => [some (.val (AV.int wide7)), some (.own true (List.map (eT2 AV.int AV.int) found2)), none, none]) (E2 := fun (found4 : (List (Int × Int))) => [some (.val (AV.int wide7)), some (.own true (List.map (eT2 AV.int AV.int) found4)), none, none]) (s0 := found) rfl (fun _ => rfl) ?_ ?_
                · intro found2 row
                  show Le _ (brick_3_L1 wide7 found2 row) _
                  unfold brick_3_L1
                  refine y_turn (env' := [some (.val (AV.int wide7)), some (.own true (List.map (eT2 AV.int AV.int) found2)), some (.val (AV.int row)), none]) rfl ?_
                  refine y_exp ?_
                  refine y_mth rfl ?_
                  refine y_evs1 ?_
                  refine y_comp ?_
                  refine y_iRg ?_
                  refine y_evs1 ?_
                  refine y_bin ?_
                  refine y_rfl (AV.int row) rfl ?_
                  refine y_rfl (AV.int (2 : Int)) rfl ?_
                  refine y_tot (AV.int (row % (2 : Int))) (op_modT rfl) ?_
                  refine y_evs1 ?_
                  refine y_rfl (AV.int (wide7 - (1 : Int))) rfl ?_
                  refine y_evs1 ?_
                  refine y_rfl (AV.int (2 : Int)) rfl ?_
                  refine y_evs0 ?_
                  refine y_rg3 ?_
                  intro ks2
                  refine y_compM (dn := (eT2 AV.int AV.int)) (E0 := [some (.val (AV.int wide7)), some (.own true (List.map (eT2 AV.int AV.int) found2)), some (.val (AV.int row)), none]) rfl rfl rfl ?_ ?_
                  · intro lane
                    refine y_itT ?_
                    refine y_asgE (env' := [some (.val (AV.int wide7)), some (.own true (List.map (eT2 AV.int AV.int) found2)), some (.val (AV.int row)), some (.val (AV.int lane))]) rfl ?_
                    refine y_tup ?_
                    refine y_evs1 ?_
                    refine y_rfl (AV.int lane) rfl ?_
                    refine y_evs1 ?_
                    refine y_rfl (AV.int (lane + (1 : Int))) rfl ?_
                    refine y_evs0 ?_
                    refine y_tot (AV.tup [(AV.int lane), (AV.int (lane + (1 : Int)))]) rfl ?_
                    exact y_end rfl
                  intro ys
                  refine y_evs0 ?_
                  refine y_ext (l := found2) (l2 := ys) (en := (eT2 AV.int AV.int)) (E' := fun found3 => [some (.val (AV.int wide7)), some (.own true (List.map (eT2 AV.int AV.int) found3)), some (.val (AV.int row)), none]) rfl rfl rfl (fun _ => rfl) ?_
                  intro found3
                  refine y_wip (env' := [some (.val (AV.int wide7)), some (.own true (List.map (eT2 AV.int AV.int) found3)), none, none]) rfl rfl ?_
                  refine y_nil ?_
                  exact y_end rfl
                intro found4
                refine y_nx ?_
                refine y_ret ?_
                refine y_tup ?_
                refine y_evs1 ?_
                refine y_rfl (AV.int wide7) rfl ?_
                refine y_evs1 ?_
                refine y_bi ?_
                refine y_evs1 ?_
                refine y_own rfl ?_
                refine y_evs0 ?_
                refine y_tot (AV.tup (List.map (eT2 AV.int AV.int) found4)) (op_tuple (l := found4) rfl) ?_
                refine y_evs0 ?_
                refine y_tot (AV.tup [(AV.int wide7), (AV.tup (List.map (eT2 AV.int AV.int) found4))]) rfl ?_
                exact y_end rfl
            · skip
              refine y_inr ?_
              refine y_ifs ?_
              refine y_or ?_
              refine y_or2 ?_
              refine y_not ?_
              refine y_call ?_
              refine y_evs1 ?_
              refine y_rfl (AV.bl wide8) rfl ?_
              refine y_evs0 ?_
              refine y_callE (E' := fun q2 => [some (.val (AV.bl wide8)), none, none, none]) rfl (as1 (as_val rfl (age_B wide8)) as0) (ok_is_whole_1 _ (Nat.le_trans (by decide) hN) wide8) (fun _ => rfl) (fun _ => rfl) ?_
              intro q2
              refine y_asB ?_
              refine y_asB ?_
              refine y_orJ (env := [some (.val (AV.bl wide8)), none, none, none]) (by rfl) ?_ ?_
              · intro _
                exact y_none
              intro q3
              refine y_asB ?_
              refine y_if ?_ ?_
              · intro _
                refine y_rse ?_
                exact y_end rfl
              · intro _
                refine y_nil ?_
                refine y_nx ?_
                refine y_set ?_
                refine y_lst ?_
                refine y_evs0 ?_
                refine y_tot (AV.frs (List.map (eT2 AV.int AV.int) ([]))) rfl ?_
                refine y_gen (en := fun (l : List (Int × Int)) => (AV.frs (List.map (eT2 AV.int AV.int) l))) ?_
                intro found5
                refine y_setK (env' := [some (.val (AV.bl wide8)), some (.own true (List.map (eT2 AV.int AV.int) found5)), none, none]) rfl ?_
                refine y_nx ?_
                exact y_none
          · skip
            refine y_inr ?_
            refine y_ifs ?_
            refine y_or ?_
            refine y_or2 ?_
            refine y_not ?_
            refine y_call ?_
            refine y_evs1 ?_
            refine y_rfl AV.non rfl ?_
            refine y_evs0 ?_
            refine y_callE (E' := fun q4 => [some (.val AV.non), none, none, none]) rfl (as1 rfl as0) (ok_is_whole_2 _ (Nat.le_trans (by decide) hN) wide9) (fun _ => rfl) (fun _ => rfl) ?_
            intro q4
            refine y_asB ?_
            refine y_asB ?_
            refine y_orJ (env := [some (.val AV.non), none, none, none]) (by rfl) ?_ ?_
            · intro _
              exact y_none
            intro q5
            refine y_asB ?_
            refine y_if ?_ ?_
            · intro _
              refine y_rse ?_
              exact y_end rfl
            · intro _
              refine y_nil ?_
              refine y_nx ?_
              refine y_set ?_
              refine y_lst ?_
              refine y_evs0 ?_
              refine y_tot (AV.frs (List.map (eT2 AV.int AV.int) ([]))) rfl ?_
              refine y_gen (en := fun (l : List (Int × Int)) => (AV.frs (List.map (eT2 AV.int AV.int) l))) ?_
              intro found6
              refine y_setK (env' := [some (.val AV.non), some (.own true (List.map (eT2 AV.int AV.int) found6)), none, none]) rfl ?_
              refine y_nx ?_
              exact y_none
        · skip
          refine y_inr ?_
          refine y_ifs ?_
          refine y_or ?_
          refine y_or2 ?_
          refine y_not ?_
          refine y_call ?_
          refine y_evs1 ?_
          refine y_rfl (AV.str wide10) rfl ?_
          refine y_evs0 ?_
          refine y_callE (E' := fun q6 => [some (.val (AV.str wide10)), none, none, none]) rfl (as1 (as_val rfl (age_S wide10)) as0) (ok_is_whole_3 _ (Nat.le_trans (by decide) hN) wide10) (fun _ => rfl) (fun _ => rfl) ?_
          intro q6
          refine y_asB ?_
          refine y_asB ?_
          refine y_orJ (env := [some (.val (AV.str wide10)), none, none, none]) (by rfl) ?_ ?_
          · intro _
            exact y_none
          intro q7
          refine y_asB ?_
          refine y_if ?_ ?_
          · intro _
            refine y_rse ?_
            exact y_end rfl
          · intro _
            refine y_nil ?_
            refine y_nx ?_
            refine y_set ?_
            refine y_lst ?_
            refine y_evs0 ?_
            refine y_tot (AV.frs (List.map (eT2 AV.int AV.int) ([]))) rfl ?_
            refine y_gen (en := fun (l : List (Int × Int)) => (AV.frs (List.map (eT2 AV.int AV.int) l))) ?_
            intro found7
            refine y_setK (env' := [some (.val (AV.str wide10)), some (.own true (List.map (eT2 AV.int AV.int) found7)), none, none]) rfl ?_
            refine y_nx ?_
            exact y_none
      · skip
        refine y_inr ?_
        refine y_ifs ?_
        refine y_or ?_
        refine y_or2 ?_
        refine y_not ?_
        refine y_call ?_
        refine y_evs1 ?_
        refine y_rfl (AV.tup (List.map AV.int wide11)) rfl ?_
        refine y_evs0 ?_
        refine y_callE (E' := fun q8 => [some (.val (AV.tup (List.map AV.int wide11))), none, none, none]) rfl (as1 (as_val rfl ((age_V age_I) wide11)) as0) (ok_is_whole_4 _ (Nat.le_trans (by decide) hN) wide11) (fun _ => rfl) (fun _ => rfl) ?_
        intro q8
        refine y_asB ?_
        refine y_asB ?_
        refine y_orJ (env := [some (.val (AV.tup (List.map AV.int wide11))), none, none, none]) (by rfl) ?_ ?_
        · intro _
          exact y_none
        intro q9
        refine y_asB ?_
        refine y_if ?_ ?_
        · intro _
          refine y_rse ?_
          exact y_end rfl
        · intro _
          refine y_nil ?_
          refine y_nx ?_
          refine y_set ?_
          refine y_lst ?_
          refine y_evs0 ?_
          refine y_tot (AV.frs (List.map (eT2 AV.int AV.int) ([]))) rfl ?_
          refine y_gen (en := fun (l : List (Int × Int)) => (AV.frs (List.map (eT2 AV.int AV.int) l))) ?_
          intro found8
          refine y_setK (env' := [some (.val (AV.tup (List.map AV.int wide11))), some (.own true (List.map (eT2 AV.int AV.int) found8)), none, none]) rfl ?_
          refine y_nx ?_
          exact y_none
    · skip
      refine y_inr ?_
      refine y_ifs ?_
      refine y_or ?_
      refine y_or2 ?_
      refine y_not ?_
      refine y_call ?_
      refine y_evs1 ?_
      refine y_rfl (AV.lst false (List.map AV.int wide12)) rfl ?_
      refine y_evs0 ?_
      refine y_callE (E' := fun q10 => [some (.val (AV.lst false (List.map AV.int wide12))), none, none, none]) rfl (as1 (as_val rfl ((age_L age_I) wide12)) as0) (ok_is_whole_5 _ (Nat.le_trans (by decide) hN) wide12) (fun _ => rfl) (fun _ => rfl) ?_
      intro q10
      refine y_asB ?_
      refine y_asB ?_
      refine y_orJ (env := [some (.val (AV.lst false (List.map AV.int wide12))), none, none, none]) (by rfl) ?_ ?_
      · intro _
        exact y_none
      intro q11
      refine y_asB ?_
      refine y_if ?_ ?_
      · intro _
        refine y_rse ?_
        exact y_end rfl
      · intro _
        refine y_nil ?_
        refine y_nx ?_
        refine y_set ?_
        refine y_lst ?_
        refine y_evs0 ?_
        refine y_tot (AV.frs (List.map (eT2 AV.int AV.int) ([]))) rfl ?_
        refine y_gen (en := fun (l : List (Int × Int)) => (AV.frs (List.map (eT2 AV.int AV.int) l))) ?_
        intro found9
        refine y_setK (env' := [some (.val (AV.lst false (List.map AV.int wide12))), some (.own true (List.map (eT2 AV.int AV.int) found9)), none, none]) rfl ?_
        refine y_nx ?_
        exact y_none
  · skip
    refine y_inr ?_
    refine y_ifs ?_
    refine y_or ?_
    refine y_or2 ?_
    refine y_not ?_
    refine y_call ?_
    refine y_evs1 ?_
    refine y_rfl AV.dcx rfl ?_
    refine y_evs0 ?_
    refine y_callE (E' := fun q12 => [some (.val AV.dcx), none, none, none]) rfl (as1 (as_val rfl (age_D wide13)) as0) (ok_is_whole_6 _ (Nat.le_trans (by decide) hN) wide13) (fun _ => rfl) (fun _ => rfl) ?_
    intro q12
    refine y_asB ?_
    refine y_asB ?_
    refine y_orJ (env := [some (.val AV.dcx), none, none, none]) (by rfl) ?_ ?_
    · intro _
      exact y_none
    intro q13
    refine y_asB ?_
    refine y_if ?_ ?_
    · intro _
      refine y_rse ?_
      exact y_end rfl
    · intro _
      refine y_nil ?_
      refine y_nx ?_
      refine y_set ?_
      refine y_lst ?_
      refine y_evs0 ?_
      refine y_tot (AV.frs (List.map (eT2 AV.int AV.int) ([]))) rfl ?_
      refine y_gen (en := fun (l : List (Int × Int)) => (AV.frs (List.map (eT2 AV.int AV.int) l))) ?_
      intro found10
      refine y_setK (env' := [some (.val AV.dcx), some (.own true (List.map (eT2 AV.int AV.int) found10)), none, none]) rfl ?_
      refine y_nx ?_
      exact y_none
theorem ok_l_refused (N : Nat) (hN : 9 ≤ N) (way : Int) (thing : (((((Int ⊕ Bool) ⊕ Unit) ⊕ Str) ⊕ (List Int)) ⊕ (List Int)) ⊕ Unit) : Le (callD D N "_law_refused" [(.val (AV.int way)), (.val ((eU (eU (eU (eU (eU (eU AV.int AV.bl) eN) AV.str) (eV AV.int)) (eL false AV.int)) eD) thing))]) (SH.l_refused way thing) (fun r => some (.ok (AV.bl r) [none, none])) := by
  obtain ⟨N, rfl⟩ : ∃ M, N = M + 1 := ⟨N - 1, by omega⟩
  replace hN : 8 ≤ N := by omega
  refine y_def (d := d_l_refused) (E := [some (.val (AV.int way)), some (.val ((eU (eU (eU (eU (eU (eU AV.int AV.bl) eN) AV.str) (eV AV.int)) (eL false AV.int)) eD) thing)), none, none]) rfl rfl rfl ?_
  show Le (bx (evSs (callD D N) b_l_refused _) _ _) _ _
  unfold b_l_refused SH.l_refused
  refine y_set ?_
  refine y_rfl AV.non rfl ?_
  refine y_gen (en := fun (l : Unit) => AV.non) ?_
  intro caught
  refine y_setK (env' := [some (.val (AV.int way)), some (.val ((eU (eU (eU (eU (eU (eU AV.int AV.bl) eN) AV.str) (eV AV.int)) (eL false AV.int)) eD) thing)), some (.val AV.non), none]) rfl ?_
  refine y_nx ?_
  refine y_trA (E := fun (st : Unit) => [some (.val (AV.int way)), some (.val ((eU (eU (eU (eU (eU (eU AV.int AV.bl) eN) AV.str) (eV AV.int)) (eL false AV.int)) eD) thing)), some (.val AV.non), none]) (E0 := [some (.val (AV.int way)), some (.val ((eU (eU (eU (eU (eU (eU AV.int AV.bl) eN) AV.str) (eV AV.int)) (eL false AV.int)) eD) thing)), some (.val AV.non), none]) (E2 := fun c => [some (.val (AV.int way)), some (.val ((eU (eU (eU (eU (eU (eU AV.int AV.bl) eN) AV.str) (eV AV.int)) (eL false AV.int)) eD) thing)), some (.val (AV.exo c)), none]) ?_ rfl (by decide) (fun _ => rfl) ?_ ?_
  · refine y_in ?_
    refine y_ifs ?_
    refine y_rfl (AV.bl (decide (way = (0 : Int)))) rfl ?_
    refine y_asB ?_
    refine y_if ?_ ?_
    · intro _
      refine y_exp ?_
      refine y_call ?_
      refine y_evs1 ?_
      refine y_rfl ((eU (eU (eU (eU (eU (eU AV.int AV.bl) eN) AV.str) (eV AV.int)) (eL false AV.int)) eD) thing) rfl ?_
      refine y_evs0 ?_
      refine y_callX (E' := fun q => [some (.val (AV.int way)), some (.val ((eU (eU (eU (eU (eU (eU AV.int AV.bl) eN) AV.str) (eV AV.int)) (eL false AV.int)) eD) thing)), some (.val AV.non), none]) (by simp) (as1 (as_U (fun _ => as_U (fun _ => as_U (fun _ => as_U (fun _ => as_U (fun _ => as_U (fun a => as_val rfl (age_I a)) (fun a => as_val rfl (age_B a))) (fun a => as_val rfl (age_N a))) (fun a => as_val rfl (age_S a))) (fun a => as_val rfl ((age_V age_I) a))) (fun a => as_val rfl ((age_L age_I) a))) (fun a => as_val rfl (age_D a))) as0) (ok_rounds_1 _ (Nat.le_trans (by decide) hN) thing) (fun _ => rfl) (fun _ => rfl) (fun _ => by first | rfl | (simp only [putN]; rfl)) (fun _ => by first | rfl | (simp only [putN]; rfl)) ?_
      intro q
      refine y_nil ?_
      refine y_nx ?_
      refine y_nil ?_
      exact y_end rfl
    · intro _
      refine y_exp ?_
      refine y_call ?_
      refine y_evs1 ?_
      refine y_rfl ((eU (eU (eU (eU (eU (eU AV.int AV.bl) eN) AV.str) (eV AV.int)) (eL false AV.int)) eD) thing) rfl ?_
      refine y_evs0 ?_
      refine y_callX (E' := fun q2 => [some (.val (AV.int way)), some (.val ((eU (eU (eU (eU (eU (eU AV.int AV.bl) eN) AV.str) (eV AV.int)) (eL false AV.int)) eD) thing)), some (.val AV.non), none]) (by simp) (as1 (as_U (fun _ => as_U (fun _ => as_U (fun _ => as_U (fun _ => as_U (fun _ => as_U (fun a => as_val rfl (age_I a)) (fun a => as_val rfl (age_B a))) (fun a => as_val rfl (age_N a))) (fun a => as_val rfl (age_S a))) (fun a => as_val rfl ((age_V age_I) a))) (fun a => as_val rfl ((age_L age_I) a))) (fun a => as_val rfl (age_D a))) as0) (ok_brick_1 _ (Nat.le_trans (by decide) hN) thing) (fun _ => rfl) (fun _ => rfl) (fun _ => by first | rfl | (simp only [putN]; rfl)) (fun _ => by first | rfl | (simp only [putN]; rfl)) ?_
      intro q2
      refine y_nil ?_
      refine y_nx ?_
      refine y_nil ?_
      exact y_end rfl
  · intro st
    exact y_none
  · intro c
    refine y_ifs ?_
    refine y_isx ?_
    refine y_rfl (AV.exo c) rfl ?_
    refine y_part (en := AV.bl) op_isx ?_
    intro q3
    refine y_asB ?_
    refine y_if ?_ ?_
    · intro _
      refine y_ret ?_
      refine y_rfl (AV.bl false) rfl ?_
      exact y_end rfl
    · intro _
      refine y_nil ?_
      refine y_nx ?_
      refine y_ret ?_
      refine y_and ?_
      refine y_and2 ?_
      refine y_isx ?_
      refine y_rfl (AV.exo c) rfl ?_
      refine y_part (en := AV.bl) op_isx ?_
      intro q4
      refine y_asB ?_
      refine y_andJ (env := [some (.val (AV.int way)), some (.val ((eU (eU (eU (eU (eU (eU AV.int AV.bl) eN) AV.str) (eV AV.int)) (eL false AV.int)) eD) thing)), some (.val (AV.exo c)), none]) (by rfl) ?_ ?_
      · intro _
        refine y_and1 ?_
        refine y_isx ?_
        refine y_rfl (AV.exo c) rfl ?_
        refine y_part (en := AV.bl) op_isx ?_
        intro q5
        exact y_end rfl
      intro q6
      exact y_end rfl
theorem ok_law (N : Nat) (hN : 10 ≤ N) (script : List Int) : Le (callD D N "law" [(.brw false (List.map AV.int script))]) (SH.law_23 script) (fun r => some (.ok (AV.bl r) [none])) := by
  obtain ⟨N, rfl⟩ : ∃ M, N = M + 1 := ⟨N - 1, by omega⟩
  replace hN : 9 ≤ N := by omega
  refine y_def (d := d_law) (E := [some (.brw false (List.map AV.int script)), none, none, none, none, none]) rfl rfl rfl ?_
  show Le (bx (evSs (callD D N) b_law _) _ _) _ _
  unfold b_law SH.law_23
  refine y_wip (env' := [some (.brw false (List.map AV.int script)), none, none, none, none, none]) rfl rfl ?_
  refine y_for ?_
  refine y_iRg ?_
  refine y_evs1 ?_
  refine y_rfl (AV.int (5 : Int)) rfl ?_
  refine y_evs0 ?_
  refine y_rg1 ?_
  intro ks
  refine y_loopRU (E := fun (st : Unit) => [some (.brw false (List.map AV.int script)), none, none, none, none, none]) (E2 := fun (st2 : Unit) => [some (.brw false (List.map AV.int script)), none, none, none, none, none]) (s0 := ()) rfl (fun _ => rfl) (fun _ => rfl) ?_ ?_
  · intro st k
    show Le _ (law_23_L1 script st k) _
    unfold law_23_L1
    refine y_turn (env' := [some (.brw false (List.map AV.int script)), some (.val (AV.int k)), none, none, none, none]) rfl ?_
    refine y_set ?_
    refine y_call ?_
    refine y_evs1 ?_
    refine y_brw rfl ?_
    refine y_evs1 ?_
    refine y_rfl (AV.int k) rfl ?_
    refine y_evs0 ?_
    refine y_callE (E' := fun q => [some (.brw false (List.map AV.int script)), some (.val (AV.int k)), none, none, none, none]) rfl (as1 (as_bb rfl (ages_map age_I _)) (as1 (as_val rfl (age_I k)) as0)) (ok_l_pen _ (Nat.le_trans (by decide) hN) script k) (fun _ => rfl) (fun _ => rfl) ?_
    intro q
    refine y_setK (env' := [some (.brw false (List.map AV.int script)), some (.val (AV.int k)), some (.own true (List.map AV.int q)), none, none, none]) rfl ?_
    refine y_nx ?_
    refine y_set ?_
    refine y_ix ?_
    refine y_lst ?_
    refine y_evs1 ?_
    refine y_rfl (AV.int (1 : Int)) rfl ?_
    refine y_evs1 ?_
    refine y_rfl (AV.int (2 : Int)) rfl ?_
    refine y_evs1 ?_
    refine y_rfl (AV.int (4 : Int)) rfl ?_
    refine y_evs1 ?_
    refine y_rfl (AV.int (8 : Int)) rfl ?_
    refine y_evs0 ?_
    refine y_tot (AV.frs (List.map AV.int ([(1 : Int), (2 : Int), (4 : Int), (8 : Int)]))) rfl ?_
    refine y_call ?_
    refine y_evs1 ?_
    refine y_own rfl ?_
    refine y_evs1 ?_
    refine y_rfl (AV.int (4 : Int)) rfl ?_
    refine y_evs0 ?_
    refine y_callE (E' := fun w => [some (.brw false (List.map AV.int script)), some (.val (AV.int k)), some (.own true (List.map AV.int w.2)), none, none, none]) rfl (as1 (as_io rfl (ages_map age_I _)) (as1 (as_val rfl (age_I (4 : Int))) as0)) (ok_l_take _ (Nat.le_trans (by decide) hN) q (4 : Int)) (fun _ => rfl) (fun _ => rfl) ?_
    intro w
    refine y_part (en := AV.int) (op_ix (l := [(1 : Int), (2 : Int), (4 : Int), (8 : Int)]) (by intro _ z; cases z) rfl) ?_
    intro q2
    refine y_setK (env' := [some (.brw false (List.map AV.int script)), some (.val (AV.int k)), some (.own true (List.map AV.int w.2)), some (.val (AV.int q2)), none, none]) rfl ?_
    refine y_nx ?_
    refine y_ifs ?_
    refine y_not ?_
    refine y_call ?_
    refine y_evs1 ?_
    refine y_call ?_
    refine y_evs1 ?_
    refine y_rfl (AV.int q2) rfl ?_
    refine y_evs0 ?_
    refine y_callN (E' := fun q3 => [some (.brw false (List.map AV.int script)), some (.val (AV.int k)), some (.own true (List.map AV.int w.2)), some (.val (AV.int q2)), none, none]) rfl (as1 (as_val rfl (age_I q2)) as0) (ok_rounds _ (Nat.le_trans (by decide) hN) q2) (fun _ => rfl) (fun _ => rfl) ?_
    intro q3
    refine y_evs1 ?_
    refine y_tup ?_
    refine y_evs1 ?_
    refine y_rfl (AV.int q2) rfl ?_
    refine y_evs1 ?_
    refine y_bi ?_
    refine y_evs1 ?_
    refine y_call ?_
    refine y_evs1 ?_
    refine y_rfl (AV.int q2) rfl ?_
    refine y_evs0 ?_
    refine y_callE (E' := fun q4 => [some (.brw false (List.map AV.int script)), some (.val (AV.int k)), some (.own true (List.map AV.int w.2)), some (.val (AV.int q2)), none, none]) rfl (as1 (as_val rfl (age_I q2)) as0) (ok_l_rounds _ (Nat.le_trans (by decide) hN) q2) (fun _ => rfl) (fun _ => rfl) ?_
    intro q4
    refine y_evs0 ?_
    refine y_tot (AV.tup (List.map (eT2 AV.int AV.int) q4)) (op_tuple (l := q4) rfl) ?_
    refine y_evs0 ?_
    refine y_tot (AV.tup [(AV.int q2), (AV.tup (List.map (eT2 AV.int AV.int) q4))]) rfl ?_
    refine y_evs0 ?_
    refine y_callE (E' := fun q5 => [some (.brw false (List.map AV.int script)), some (.val (AV.int k)), some (.own true (List.map AV.int w.2)), some (.val (AV.int q2)), none, none]) rfl (as1 (as_val rfl ((age_T2 age_I (age_V (age_T2 age_I age_I))) q3)) (as1 (as_val rfl ((age_T2 age_I (age_V (age_T2 age_I age_I))) (q2, q4))) as0)) (ok_l_right _ (Nat.le_trans (by decide) hN) q3 (q2, q4)) (fun _ => rfl) (fun _ => rfl) ?_
    intro q5
    refine y_asB ?_
    refine y_asB ?_
    refine y_if ?_ ?_
    · intro _
      refine y_ret ?_
      refine y_rfl (AV.bl false) rfl ?_
      exact y_end rfl
    · intro _
      refine y_nil ?_
      refine y_nx ?_
      refine y_set ?_
      refine y_bin ?_
      refine y_rfl (AV.int (1 : Int)) rfl ?_
      refine y_call ?_
      refine y_evs1 ?_
      refine y_own rfl ?_
      refine y_evs1 ?_
      refine y_rfl (AV.int (8 : Int)) rfl ?_
      refine y_evs0 ?_
      refine y_callE (E' := fun w2 => [some (.brw false (List.map AV.int script)), some (.val (AV.int k)), some (.own true (List.map AV.int w2.2)), some (.val (AV.int q2)), none, none]) rfl (as1 (as_io rfl (ages_map age_I _)) (as1 (as_val rfl (age_I (8 : Int))) as0)) (ok_l_take _ (Nat.le_trans (by decide) hN) w.2 (8 : Int)) (fun _ => rfl) (fun _ => rfl) ?_
      intro w2
      refine y_tot (AV.int ((1 : Int) + w2.1)) rfl ?_
      refine y_gen (en := fun (l : Int) => (AV.int l)) ?_
      intro wide
      refine y_setK (env' := [some (.brw false (List.map AV.int script)), some (.val (AV.int k)), some (.own true (List.map AV.int w2.2)), some (.val (AV.int wide)), none, none]) rfl ?_
      refine y_nx ?_
      refine y_ifs ?_
      refine y_not ?_
      refine y_call ?_
      refine y_evs1 ?_
      refine y_call ?_
      refine y_evs1 ?_
      refine y_rfl (AV.int wide) rfl ?_
      refine y_evs0 ?_
      refine y_callN (E' := fun q6 => [some (.brw false (List.map AV.int script)), some (.val (AV.int k)), some (.own true (List.map AV.int w2.2)), some (.val (AV.int wide)), none, none]) rfl (as1 (as_val rfl (age_I wide)) as0) (ok_brick _ (Nat.le_trans (by decide) hN) wide) (fun _ => rfl) (fun _ => rfl) ?_
      intro q6
      refine y_evs1 ?_
      refine y_tup ?_
      refine y_evs1 ?_
      refine y_rfl (AV.int wide) rfl ?_
      refine y_evs1 ?_
      refine y_bi ?_
      refine y_evs1 ?_
      refine y_call ?_
      refine y_evs1 ?_
      refine y_rfl (AV.int wide) rfl ?_
      refine y_evs0 ?_
      refine y_callE (E' := fun q7 => [some (.brw false (List.map AV.int script)), some (.val (AV.int k)), some (.own true (List.map AV.int w2.2)), some (.val (AV.int wide)), none, none]) rfl (as1 (as_val rfl (age_I wide)) as0) (ok_l_brick _ (Nat.le_trans (by decide) hN) wide) (fun _ => rfl) (fun _ => rfl) ?_
      intro q7
      refine y_evs0 ?_
      refine y_tot (AV.tup (List.map (eT2 AV.int AV.int) q7)) (op_tuple (l := q7) rfl) ?_
      refine y_evs0 ?_
      refine y_tot (AV.tup [(AV.int wide), (AV.tup (List.map (eT2 AV.int AV.int) q7))]) rfl ?_
      refine y_evs0 ?_
      refine y_callE (E' := fun q8 => [some (.brw false (List.map AV.int script)), some (.val (AV.int k)), some (.own true (List.map AV.int w2.2)), some (.val (AV.int wide)), none, none]) rfl (as1 (as_val rfl ((age_T2 age_I (age_V (age_T2 age_I age_I))) q6)) (as1 (as_val rfl ((age_T2 age_I (age_V (age_T2 age_I age_I))) (wide, q7))) as0)) (ok_l_right _ (Nat.le_trans (by decide) hN) q6 (wide, q7)) (fun _ => rfl) (fun _ => rfl) ?_
      intro q8
      refine y_asB ?_
      refine y_asB ?_
      refine y_if ?_ ?_
      · intro _
        refine y_ret ?_
        refine y_rfl (AV.bl false) rfl ?_
        exact y_end rfl
      · intro _
        refine y_nil ?_
        refine y_nx ?_
        refine y_set ?_
        refine y_bin ?_
        refine y_rfl (AV.int (9 : Int)) rfl ?_
        refine y_call ?_
        refine y_evs1 ?_
        refine y_own rfl ?_
        refine y_evs1 ?_
        refine y_bin ?_
        refine y_rfl (AV.int (10 : Int)) rfl ?_
        refine y_rfl (AV.int (59 : Int)) rfl ?_
        refine y_tot (AV.int ((10 : Int) ^ 59)) (op_powT (n := 59) rfl) ?_
        refine y_evs0 ?_
        refine y_callE (E' := fun w3 => [some (.brw false (List.map AV.int script)), some (.val (AV.int k)), some (.own true (List.map AV.int w3.2)), some (.val (AV.int wide)), none, none]) rfl (as1 (as_io rfl (ages_map age_I _)) (as1 (as_val rfl (age_I ((10 : Int) ^ 59))) as0)) (ok_l_take _ (Nat.le_trans (by decide) hN) w2.2 ((10 : Int) ^ 59)) (fun _ => rfl) (fun _ => rfl) ?_
        intro w3
        refine y_tot (AV.int ((9 : Int) + w3.1)) rfl ?_
        refine y_gen (en := fun (l : Int) => (AV.int l)) ?_
        intro far
        refine y_setK (env' := [some (.brw false (List.map AV.int script)), some (.val (AV.int k)), some (.own true (List.map AV.int w3.2)), some (.val (AV.int wide)), some (.val (AV.int far)), none]) rfl ?_
        refine y_nx ?_
        refine y_set ?_
        refine y_lst ?_
        refine y_evs1 ?_
        refine y_rfl (AV.int (0 : Int)) rfl ?_
        refine y_evs1 ?_
        refine y_rfl (AV.int (9 : Int)) rfl ?_
        refine y_evs1 ?_
        refine y_rfl (AV.int far) rfl ?_
        refine y_evs1 ?_
        refine y_rfl (AV.int ((0 : Int) - far)) rfl ?_
        refine y_evs1 ?_
        refine y_rfl (AV.int (-(1 : Int))) rfl ?_
        refine y_evs1 ?_
        refine y_rfl (AV.bl true) rfl ?_
        refine y_evs1 ?_
        refine y_rfl (AV.bl false) rfl ?_
        refine y_evs1 ?_
        refine y_rfl AV.non rfl ?_
        refine y_evs1 ?_
        refine y_rfl (AV.str (PySem.Str.ofString "4")) rfl ?_
        refine y_evs1 ?_
        refine y_tup ?_
        refine y_evs1 ?_
        refine y_rfl (AV.int (4 : Int)) rfl ?_
        refine y_evs0 ?_
        refine y_tot (AV.tup (List.map AV.int ([(4 : Int)]))) rfl ?_
        refine y_evs1 ?_
        refine y_lst ?_
        refine y_evs1 ?_
        refine y_rfl (AV.int (4 : Int)) rfl ?_
        refine y_evs0 ?_
        refine y_tot (AV.frs (List.map AV.int ([(4 : Int)]))) rfl ?_
        refine y_evs1 ?_
        refine y_rfl AV.dcx rfl ?_
        refine y_evs1 ?_
        refine y_rfl (AV.str (PySem.Str.ofString "")) rfl ?_
        refine y_evs1 ?_
        refine y_tup ?_
        refine y_evs0 ?_
        refine y_tot (AV.tup (List.map AV.int ([] : List Int))) rfl ?_
        refine y_evs1 ?_
        refine y_rfl (AV.int (16 : Int)) rfl ?_
        refine y_evs0 ?_
        refine y_tot (AV.frs (List.map (eU (eU (eU (eU (eU (eU AV.int AV.bl) eN) AV.str) (eV AV.int)) (eL true AV.int)) eD) ([((.inl (.inl (.inl (.inl (.inl (.inl (0 : Int))))))) : (((((Int ⊕ Bool) ⊕ Unit) ⊕ Str) ⊕ (List Int)) ⊕ (List Int)) ⊕ Unit), ((.inl (.inl (.inl (.inl (.inl (.inl (9 : Int))))))) : (((((Int ⊕ Bool) ⊕ Unit) ⊕ Str) ⊕ (List Int)) ⊕ (List Int)) ⊕ Unit), ((.inl (.inl (.inl (.inl (.inl (.inl far)))))) : (((((Int ⊕ Bool) ⊕ Unit) ⊕ Str) ⊕ (List Int)) ⊕ (List Int)) ⊕ Unit), ((.inl (.inl (.inl (.inl (.inl (.inl ((0 : Int) - far))))))) : (((((Int ⊕ Bool) ⊕ Unit) ⊕ Str) ⊕ (List Int)) ⊕ (List Int)) ⊕ Unit), ((.inl (.inl (.inl (.inl (.inl (.inl (-(1 : Int)))))))) : (((((Int ⊕ Bool) ⊕ Unit) ⊕ Str) ⊕ (List Int)) ⊕ (List Int)) ⊕ Unit), ((.inl (.inl (.inl (.inl (.inl (.inr true)))))) : (((((Int ⊕ Bool) ⊕ Unit) ⊕ Str) ⊕ (List Int)) ⊕ (List Int)) ⊕ Unit), ((.inl (.inl (.inl (.inl (.inl (.inr false)))))) : (((((Int ⊕ Bool) ⊕ Unit) ⊕ Str) ⊕ (List Int)) ⊕ (List Int)) ⊕ Unit), ((.inl (.inl (.inl (.inl (.inr ()))))) : (((((Int ⊕ Bool) ⊕ Unit) ⊕ Str) ⊕ (List Int)) ⊕ (List Int)) ⊕ Unit), ((.inl (.inl (.inl (.inr (PySem.Str.ofString "4"))))) : (((((Int ⊕ Bool) ⊕ Unit) ⊕ Str) ⊕ (List Int)) ⊕ (List Int)) ⊕ Unit), ((.inl (.inl (.inr ([(4 : Int)])))) : (((((Int ⊕ Bool) ⊕ Unit) ⊕ Str) ⊕ (List Int)) ⊕ (List Int)) ⊕ Unit), ((.inl (.inr ([(4 : Int)]))) : (((((Int ⊕ Bool) ⊕ Unit) ⊕ Str) ⊕ (List Int)) ⊕ (List Int)) ⊕ Unit), ((.inr ()) : (((((Int ⊕ Bool) ⊕ Unit) ⊕ Str) ⊕ (List Int)) ⊕ (List Int)) ⊕ Unit), ((.inl (.inl (.inl (.inr (PySem.Str.ofString ""))))) : (((((Int ⊕ Bool) ⊕ Unit) ⊕ Str) ⊕ (List Int)) ⊕ (List Int)) ⊕ Unit), ((.inl (.inl (.inr ([] : List Int)))) : (((((Int ⊕ Bool) ⊕ Unit) ⊕ Str) ⊕ (List Int)) ⊕ (List Int)) ⊕ Unit), ((.inl (.inl (.inl (.inl (.inl (.inl (16 : Int))))))) : (((((Int ⊕ Bool) ⊕ Unit) ⊕ Str) ⊕ (List Int)) ⊕ (List Int)) ⊕ Unit)]))) rfl ?_
        refine y_gen (en := fun (l : List ((((((Int ⊕ Bool) ⊕ Unit) ⊕ Str) ⊕ (List Int)) ⊕ (List Int)) ⊕ Unit)) => (AV.frs (List.map (eU (eU (eU (eU (eU (eU AV.int AV.bl) eN) AV.str) (eV AV.int)) (eL true AV.int)) eD) l))) ?_
        intro some_
        refine y_setK (env' := [some (.brw false (List.map AV.int script)), some (.val (AV.int k)), some (.own true (List.map AV.int w3.2)), some (.val (AV.int wide)), some (.val (AV.int far)), some (.own true (List.map (eU (eU (eU (eU (eU (eU AV.int AV.bl) eN) AV.str) (eV AV.int)) (eL true AV.int)) eD) some_))]) rfl ?_
        refine y_nx ?_
        refine y_ifs ?_
        refine y_not ?_
        refine y_call ?_
        refine y_evs1 ?_
        refine y_rfl (AV.int (1 : Int)) rfl ?_
        refine y_evs1 ?_
        refine y_ix ?_
        refine y_own rfl ?_
        refine y_call ?_
        refine y_evs1 ?_
        refine y_own rfl ?_
        refine y_evs1 ?_
        refine y_rfl (AV.int (15 : Int)) rfl ?_
        refine y_evs0 ?_
        refine y_callE (E' := fun w4 => [some (.brw false (List.map AV.int script)), some (.val (AV.int k)), some (.own true (List.map AV.int w4.2)), some (.val (AV.int wide)), some (.val (AV.int far)), some (.own true (List.map (eU (eU (eU (eU (eU (eU AV.int AV.bl) eN) AV.str) (eV AV.int)) (eL true AV.int)) eD) some_))]) rfl (as1 (as_io rfl (ages_map age_I _)) (as1 (as_val rfl (age_I (15 : Int))) as0)) (ok_l_take _ (Nat.le_trans (by decide) hN) w3.2 (15 : Int)) (fun _ => rfl) (fun _ => rfl) ?_
        intro w4
        refine y_part (en := (eU (eU (eU (eU (eU (eU AV.int AV.bl) eN) AV.str) (eV AV.int)) (eL true AV.int)) eD)) (op_ix (l := some_) (by intro _ z; cases z) rfl) ?_
        intro q9
        refine y_evs0 ?_
        refine y_callE (E' := fun q10 => [some (.brw false (List.map AV.int script)), some (.val (AV.int k)), some (.own true (List.map AV.int w4.2)), some (.val (AV.int wide)), some (.val (AV.int far)), some (.own true (List.map (eU (eU (eU (eU (eU (eU AV.int AV.bl) eN) AV.str) (eV AV.int)) (eL true AV.int)) eD) some_))]) (by simp) (as1 (as_val rfl (age_I (1 : Int))) (as1 (as_U (fun _ => as_U (fun _ => as_U (fun _ => as_U (fun _ => as_U (fun _ => as_U (fun a => as_val rfl (age_I a)) (fun a => as_val rfl (age_B a))) (fun a => as_val rfl (age_N a))) (fun a => as_val rfl (age_S a))) (fun a => as_val rfl ((age_V age_I) a))) (fun a => as_val rfl ((age_L age_I) a))) (fun a => as_val rfl (age_D a))) as0)) (ok_l_refused _ (Nat.le_trans (by decide) hN) (1 : Int) q9) (fun _ => rfl) (fun _ => by first | (simp; done) | (simp [eT1]; done)) ?_
        intro q10
        refine y_asB ?_
        refine y_asB ?_
        refine y_if ?_ ?_
        · intro _
          refine y_ret ?_
          refine y_rfl (AV.bl false) rfl ?_
          exact y_end rfl
        · intro _
          refine y_nil ?_
          refine y_nx ?_
          refine y_ifs ?_
          refine y_not ?_
          refine y_call ?_
          refine y_evs1 ?_
          refine y_rfl (AV.int (0 : Int)) rfl ?_
          refine y_evs1 ?_
          refine y_ix ?_
          refine y_bin ?_
          refine y_own rfl ?_
          refine y_lst ?_
          refine y_evs1 ?_
          refine y_rfl (AV.int (3 : Int)) rfl ?_
          refine y_evs1 ?_
          refine y_rfl (AV.int (5 : Int)) rfl ?_
          refine y_evs1 ?_
          refine y_rfl (AV.int (6 : Int)) rfl ?_
          refine y_evs1 ?_
          refine y_rfl (AV.int (7 : Int)) rfl ?_
          refine y_evs0 ?_
          refine y_tot (AV.frs (List.map (eU (eU (eU (eU (eU (eU AV.int AV.bl) eN) AV.str) (eV AV.int)) (eL true AV.int)) eD) ([((.inl (.inl (.inl (.inl (.inl (.inl (3 : Int))))))) : (((((Int ⊕ Bool) ⊕ Unit) ⊕ Str) ⊕ (List Int)) ⊕ (List Int)) ⊕ Unit), ((.inl (.inl (.inl (.inl (.inl (.inl (5 : Int))))))) : (((((Int ⊕ Bool) ⊕ Unit) ⊕ Str) ⊕ (List Int)) ⊕ (List Int)) ⊕ Unit), ((.inl (.inl (.inl (.inl (.inl (.inl (6 : Int))))))) : (((((Int ⊕ Bool) ⊕ Unit) ⊕ Str) ⊕ (List Int)) ⊕ (List Int)) ⊕ Unit), ((.inl (.inl (.inl (.inl (.inl (.inl (7 : Int))))))) : (((((Int ⊕ Bool) ⊕ Unit) ⊕ Str) ⊕ (List Int)) ⊕ (List Int)) ⊕ Unit)]))) rfl ?_
          refine y_part (en := fun l => AV.frs (List.map (eU (eU (eU (eU (eU (eU AV.int AV.bl) eN) AV.str) (eV AV.int)) (eL true AV.int)) eD) l)) (op_addL (l := some_) (l2 := [((.inl (.inl (.inl (.inl (.inl (.inl (3 : Int))))))) : (((((Int ⊕ Bool) ⊕ Unit) ⊕ Str) ⊕ (List Int)) ⊕ (List Int)) ⊕ Unit), ((.inl (.inl (.inl (.inl (.inl (.inl (5 : Int))))))) : (((((Int ⊕ Bool) ⊕ Unit) ⊕ Str) ⊕ (List Int)) ⊕ (List Int)) ⊕ Unit), ((.inl (.inl (.inl (.inl (.inl (.inl (6 : Int))))))) : (((((Int ⊕ Bool) ⊕ Unit) ⊕ Str) ⊕ (List Int)) ⊕ (List Int)) ⊕ Unit), ((.inl (.inl (.inl (.inl (.inl (.inl (7 : Int))))))) : (((((Int ⊕ Bool) ⊕ Unit) ⊕ Str) ⊕ (List Int)) ⊕ (List Int)) ⊕ Unit)]) rfl rfl) ?_
          intro q11
          refine y_call ?_
          refine y_evs1 ?_
          refine y_own rfl ?_
          refine y_evs1 ?_
          refine y_rfl (AV.int (19 : Int)) rfl ?_
          refine y_evs0 ?_
          refine y_callE (E' := fun w5 => [some (.brw false (List.map AV.int script)), some (.val (AV.int k)), some (.own true (List.map AV.int w5.2)), some (.val (AV.int wide)), some (.val (AV.int far)), some (.own true (List.map (eU (eU (eU (eU (eU (eU AV.int AV.bl) eN) AV.str) (eV AV.int)) (eL true AV.int)) eD) some_))]) rfl (as1 (as_io rfl (ages_map age_I _)) (as1 (as_val rfl (age_I (19 : Int))) as0)) (ok_l_take _ (Nat.le_trans (by decide) hN) w4.2 (19 : Int)) (fun _ => rfl) (fun _ => rfl) ?_
          intro w5
          refine y_part (en := (eU (eU (eU (eU (eU (eU AV.int AV.bl) eN) AV.str) (eV AV.int)) (eL true AV.int)) eD)) (op_ix (l := q11) (by intro _ z; cases z) rfl) ?_
          intro q12
          refine y_evs0 ?_
          refine y_callE (E' := fun q13 => [some (.brw false (List.map AV.int script)), some (.val (AV.int k)), some (.own true (List.map AV.int w5.2)), some (.val (AV.int wide)), some (.val (AV.int far)), some (.own true (List.map (eU (eU (eU (eU (eU (eU AV.int AV.bl) eN) AV.str) (eV AV.int)) (eL true AV.int)) eD) some_))]) (by simp) (as1 (as_val rfl (age_I (0 : Int))) (as1 (as_U (fun _ => as_U (fun _ => as_U (fun _ => as_U (fun _ => as_U (fun _ => as_U (fun a => as_val rfl (age_I a)) (fun a => as_val rfl (age_B a))) (fun a => as_val rfl (age_N a))) (fun a => as_val rfl (age_S a))) (fun a => as_val rfl ((age_V age_I) a))) (fun a => as_val rfl ((age_L age_I) a))) (fun a => as_val rfl (age_D a))) as0)) (ok_l_refused _ (Nat.le_trans (by decide) hN) (0 : Int) q12) (fun _ => rfl) (fun _ => by first | (simp; done) | (simp [eT1]; done)) ?_
          intro q13
          refine y_asB ?_
          refine y_asB ?_
          refine y_if ?_ ?_
          · intro _
            refine y_ret ?_
            refine y_rfl (AV.bl false) rfl ?_
            exact y_end rfl
          · intro _
            refine y_nil ?_
            refine y_nx ?_
            refine y_wip (env' := [some (.brw false (List.map AV.int script)), none, none, none, none, none]) rfl rfl ?_
            refine y_nil ?_
            exact y_end rfl
  intro st2
  refine y_nx ?_
  refine y_ret ?_
  refine y_and ?_
  refine y_and2 ?_
  refine y_cmp ?_
  refine y_bi ?_
  refine y_evs1 ?_
  refine y_ix ?_
  refine y_call ?_
  refine y_evs1 ?_
  refine y_rfl (AV.int (8 : Int)) rfl ?_
  refine y_evs0 ?_
  refine y_callN (E' := fun q14 => [some (.brw false (List.map AV.int script)), none, none, none, none, none]) rfl (as1 (as_val rfl (age_I (8 : Int))) as0) (ok_rounds _ (Nat.le_trans (by decide) hN) (8 : Int)) (fun _ => rfl) (fun _ => rfl) ?_
  intro q14
  refine y_rfl (AV.int (1 : Int)) rfl ?_
  refine y_tot (AV.tup (List.map (eT2 AV.int AV.int) q14.2)) rfl ?_
  refine y_evs0 ?_
  refine y_tot (AV.int (q14.2.length : Int)) (op_len (l := q14.2) (e := (eT2 AV.int AV.int)) (by intro _ z; cases z) rfl) ?_
  refine y_rfl (AV.int (36 : Int)) rfl ?_
  refine y_tot (AV.bl (decide ((q14.2.length : Int) = (36 : Int)))) rfl ?_
  refine y_asB ?_
  refine y_andJ (env := [some (.brw false (List.map AV.int script)), none, none, none, none, none]) (by rfl) ?_ ?_
  · intro _
    refine y_and1 ?_
    refine y_cmp ?_
    refine y_bi ?_
    refine y_evs1 ?_
    refine y_ix ?_
    refine y_call ?_
    refine y_evs1 ?_
    refine y_rfl (AV.int (8 : Int)) rfl ?_
    refine y_evs0 ?_
    refine y_callN (E' := fun q15 => [some (.brw false (List.map AV.int script)), none, none, none, none, none]) rfl (as1 (as_val rfl (age_I (8 : Int))) as0) (ok_brick _ (Nat.le_trans (by decide) hN) (8 : Int)) (fun _ => rfl) (fun _ => rfl) ?_
    intro q15
    refine y_rfl (AV.int (1 : Int)) rfl ?_
    refine y_tot (AV.tup (List.map (eT2 AV.int AV.int) q15.2)) rfl ?_
    refine y_evs0 ?_
    refine y_tot (AV.int (q15.2.length : Int)) (op_len (l := q15.2) (e := (eT2 AV.int AV.int)) (by intro _ z; cases z) rfl) ?_
    refine y_rfl (AV.int (28 : Int)) rfl ?_
    refine y_tot (AV.bl (decide ((q15.2.length : Int) = (28 : Int)))) rfl ?_
    exact y_end rfl
  intro q16
  exact y_end rfl
theorem law_of (ns : List Int) (h : SH.law_23 ns = some true) : callD D 10 "law" [.brw false (ns.map AV.int)] = some (.ok (.bl true) [none]) := ok_law 10 (Nat.le_refl _) ns _ h
end K43
/-! k43. -/
namespace SH
open PySem L2 RX
abbrev Odd := (((((Int ⊕ Bool) ⊕ Unit) ⊕ Str) ⊕ (List Int)) ⊕ (List Int)) ⊕ Unit
def rchk (w : Int) : Bool := match rounds w, l_rounds w with
  | some (.ok n), some ws => (match l_right_14 n (w, ws) with | some b => b | none => false)
  | _, _ => false
def bchk43 (w : Int) : Bool := match brick_2 w, l_brick w with
  | some (.ok n), some ws => (match l_right_14 n (w, ws) with | some b => b | none => false)
  | _, _ => false
theorem rchk_all : ∀ w ∈ [(1 : Int), 2, 4, 8], rchk w = true := by decide +kernel
theorem bchk_all : ∀ w ∈ [(1 : Int), 2, 3, 4, 5, 6, 7, 8], bchk43 w = true := by decide +kernel
theorem r_told {w : Int} (h : w ∈ [(1 : Int), 2, 4, 8]) : ∃ n ws, rounds w = some (.ok n) ∧ l_rounds w = some ws ∧ l_right_14 n (w, ws) = some true := by
  have c := rchk_all w h
  unfold rchk at c
  split at c
  · rename_i n ws e1 e2
    refine ⟨n, ws, e1, e2, ?_⟩
    split at c
    · rename_i b e3; rw [e3, c]
    · cases c
  · cases c
theorem b_told {w : Int} (w0 : 1 ≤ w) (w1 : w ≤ 8) : ∃ n ws, brick_2 w = some (.ok n) ∧ l_brick w = some ws ∧ l_right_14 n (w, ws) = some true := by
  have hm : w ∈ [(1 : Int), 2, 3, 4, 5, 6, 7, 8] := by
    have : w = 1 ∨ w = 2 ∨ w = 3 ∨ w = 4 ∨ w = 5 ∨ w = 6 ∨ w = 7 ∨ w = 8 := by omega
    simpa using this
  have c := bchk_all w hm
  unfold bchk43 at c
  split at c
  · rename_i n ws e1 e2
    refine ⟨n, ws, e1, e2, ?_⟩
    split at c
    · rename_i b e3; rw [e3, c]
    · cases c
  · cases c
def NoB : Odd → Prop
  | .inl (.inl (.inl (.inl (.inl (.inl i))))) => ¬ (1 ≤ i ∧ i ≤ 8)
  | _ => True
def NoR : Odd → Prop
  | .inl (.inl (.inl (.inl (.inl (.inl i))))) => i ∉ [(1 : Int), 2, 4, 8]
  | _ => True
theorem no_b {v : Odd} (h : NoB v) : brick_3 v = some (.exc "NoNet") := by
  match v, h with
  | .inl (.inl (.inl (.inl (.inl (.inl i))))), h =>
    unfold brick_3
    simp only [Sum.elim_inl]
    have e : is_whole i = some true := rfl
    rw [e, Option.bind_some]
    have h : ¬ (1 ≤ i ∧ i ≤ 8) := h
    by_cases h1 : 1 ≤ i
    · rw [decide_eq_true h1, decide_eq_false (show ¬ i ≤ 8 by omega)]; rfl
    · rw [decide_eq_false h1]; rfl
  | .inl (.inl (.inl (.inl (.inl (.inr b))))), _ => rfl
  | .inl (.inl (.inl (.inl (.inr u)))), _ => rfl
  | .inl (.inl (.inl (.inr u))), _ => rfl
  | .inl (.inl (.inr u)), _ => rfl
  | .inl (.inr u), _ => rfl
  | .inr u, _ => rfl
theorem no_r {v : Odd} (h : NoR v) : rounds_2 v = some (.exc "NoNet") := by
  match v, h with
  | .inl (.inl (.inl (.inl (.inl (.inl i))))), h =>
    unfold rounds_2
    simp only [Sum.elim_inl]
    have h : i ∉ [(1 : Int), 2, 4, 8] := h
    have e : checked_halved i = some (.exc "NoNet") := by
      unfold checked_halved
      have e : is_whole i = some true := rfl
      rw [e, Option.bind_some, decide_eq_false h]
      rfl
    rw [e]
    rfl
  | .inl (.inl (.inl (.inl (.inl (.inr b))))), _ => rfl
  | .inl (.inl (.inl (.inl (.inr u)))), _ => rfl
  | .inl (.inl (.inl (.inr u))), _ => rfl
  | .inl (.inl (.inr u)), _ => rfl
  | .inl (.inr u), _ => rfl
  | .inr u, _ => rfl
theorem ref1 {v : Odd} (h : NoB v) : l_refused 1 v = some true := by
  unfold l_refused
  rw [no_b h, Option.bind_some, decide_eq_false (show ¬ (1 : Int) = 0 by decide), if_neg Bool.false_ne_true]
  decide +kernel
theorem ref0 {v : Odd} (h : NoR v) : l_refused 0 v = some true := by
  unfold l_refused
  rw [no_r h, Option.bind_some, decide_eq_true (show (0 : Int) = 0 by decide), if_pos rfl]
  decide +kernel
theorem law_23_L1_ok (ns : List Int) (hl : ns.length ≤ 63) {x : Int} (x0 : 0 ≤ x) : law_23_L1 ns () x = some (.nx ()) := by
  unfold law_23_L1
  obtain ⟨p, ep, hp⟩ := pen_ok ns (k := x) hl x0
  obtain ⟨a, ea, a0, a1, pa⟩ := take_ok (n := 4) hp (by omega) (by omega)
  obtain ⟨w, ew, hw⟩ := atI_mem (l := [(1 : Int), 2, 4, 8]) a0 (by show a.1 < 4; omega)
  obtain ⟨n, ws, e1, e2, e3⟩ := r_told hw
  rw [ep, Option.bind_some, ea, Option.bind_some, ew, Option.bind_some, e1]
  show Option.bind (l_rounds w) _ = _
  rw [e2, Option.bind_some, e3, Option.bind_some]
  simp only [Bool.not_true, Bool.false_eq_true, if_false]
  obtain ⟨b, eb, b0, b1, pb⟩ := take_ok (n := 8) pa (by omega) (by omega)
  rw [eb, Option.bind_some, Option.bind_some]
  obtain ⟨m, vs, f1, f2, f3⟩ := b_told (w := 1 + b.1) (by omega) (by omega)
  rw [f1]
  show Option.bind (l_brick (1 + b.1)) _ = _
  rw [f2, Option.bind_some, f3, Option.bind_some]
  simp only [Bool.not_true, Bool.false_eq_true, if_false]
  have big : (0 : Int) < 10 ^ 59 ∧ (10 : Int) ^ 59 < 2 ^ 256 := by decide +kernel
  obtain ⟨c, ec, c0, c1, pc⟩ := take_ok (n := 10 ^ 59) pb big.1 big.2
  rw [ec, Option.bind_some, Option.bind_some, Option.bind_some]
  obtain ⟨d, ed, d0, d1, pd⟩ := take_ok (n := 15) pc (by omega) (by omega)
  rw [ed, Option.bind_some]
  generalize hs : ([_, _, _, _, _, _, _, _, _, _, _, _, _, _, _] : List Odd) = some_
  have sl : some_.length = 15 := by rw [← hs]; rfl
  have sB : ∀ v ∈ some_, NoB v := by
    rw [← hs]
    intro v hv
    simp only [List.mem_cons, List.not_mem_nil, or_false] at hv
    rcases hv with rfl | rfl | rfl | rfl | rfl | rfl | rfl | rfl | rfl | rfl | rfl | rfl | rfl | rfl | rfl
    all_goals first
      | exact trivial
      | (show ¬ ((1 : Int) ≤ _ ∧ _ ≤ (8 : Int)); omega)
  have sR : ∀ v ∈ some_, NoR v := by
    intro v hv
    have := sB v hv
    revert this
    match v with
    | .inl (.inl (.inl (.inl (.inl (.inl i))))) =>
      intro this
      have this : ¬ (1 ≤ i ∧ i ≤ 8) := this
      show i ∉ [(1 : Int), 2, 4, 8]
      simp only [List.mem_cons, List.not_mem_nil, or_false]
      omega
    | .inl (.inl (.inl (.inl (.inl (.inr b))))) => exact fun _ => trivial
    | .inl (.inl (.inl (.inl (.inr u)))) => exact fun _ => trivial
    | .inl (.inl (.inl (.inr u))) => exact fun _ => trivial
    | .inl (.inl (.inr u)) => exact fun _ => trivial
    | .inl (.inr u) => exact fun _ => trivial
    | .inr u => exact fun _ => trivial
  obtain ⟨v, ev, hv⟩ := atI_mem (l := some_) d0 (by rw [sl]; omega)
  rw [ev, Option.bind_some, ref1 (sB v hv), Option.bind_some]
  simp only [Bool.not_true, Bool.false_eq_true, if_false]
  rw [addL_of (by rw [sl]; decide), Option.bind_some]
  obtain ⟨f, ef, f0, f9, pf⟩ := take_ok (n := 19) pd (by omega) (by omega)
  rw [ef, Option.bind_some]
  generalize ht : some_ ++ ([_, _, _, _] : List Odd) = t
  have tl : t.length = 19 := by rw [← ht, List.length_append, sl]; rfl
  have tR : ∀ v ∈ t, NoR v := by
    rw [← ht]
    intro v hv
    rcases List.mem_append.mp hv with z | z
    · exact sR v z
    · simp only [List.mem_cons, List.not_mem_nil, or_false] at z
      rcases z with rfl | rfl | rfl | rfl
      all_goals (show _ ∉ [(1 : Int), 2, 4, 8]; decide)
  obtain ⟨u, eu, hu⟩ := atI_mem (l := t) f0 (by rw [tl]; omega)
  rw [eu, Option.bind_some, ref0 (tR u hu), Option.bind_some]
  rfl
theorem law_23_true (ns : List Int) (hl : ns.length ≤ 63) : law_23 ns = some true := by
  unfold law_23
  rw [rgO_of (by decide) (by decide) (by decide) (by decide), Option.bind_some]
  have e : foldR (fun zs zx => law_23_L1 ns zs zx) (upto 0 5) () = some (.inl ()) := by
    rw [show upto 0 5 = [0, 1, 2, 3, 4] from by decide]
    have h := fun x (x0 : (0 : Int) ≤ x) => law_23_L1_ok ns hl x0
    simp only [foldR]
    rw [h 0 (by decide), Option.bind_some]
    simp only [fwB]
    rw [h 1 (by decide), Option.bind_some]
    simp only [fwB]
    rw [h 2 (by decide), Option.bind_some]
    simp only [fwB]
    rw [h 3 (by decide), Option.bind_some]
    simp only [fwB]
    rw [h 4 (by decide), Option.bind_some]
    rfl
  rw [e]
  decide +kernel
end SH
set_option synthInstance.maxHeartbeats 400000
set_option synthInstance.maxSize 2000
namespace K43
open PySem L2 RX
theorem all_mk {l : PySem.W.OpenLaw} {w : World} {K : PySem.W.Frag} {h : Heap} {mg : Str → Option Value} {fa f0 f1 f2 f3 f4 f5 f6 f7 f8 f9 f10 f11 f12 f13 f14 f15 f16 f17 f18 f19 : Addr} (X : K.In h) (G : h.Ns mainGlobals mg) (hfa : mg "law" = some (.ref fa))
    {o0 n0 o1 n1 o2 n2 o3 n3 o4 n4 o5 n5 o6 n6 o7 n7 o8 n8 o9 n9 o10 n10 o11 n11 o12 n12 o13 n13 o14 n14 o15 n15 o16 n16 o17 n17 o18 n18 o19 n19 : Option Addr} {s0 s1 s2 s3 s4 s5 s6 s7 s8 s9 s10 s11 s12 s13 s14 s15 s16 s17 s18 s19 : Array (Option Value)} {u0 v0 w0 x0 y0 z0 u1 v1 w1 x1 y1 z1 u2 v2 w2 x2 y2 z2 u3 v3 w3 x3 y3 z3 u4 v4 w4 x4 y4 z4 u5 v5 w5 x5 y5 z5 u6 v6 w6 x6 y6 z6 u7 v7 w7 x7 y7 z7 u8 v8 w8 x8 y8 z8 u9 v9 w9 x9 y9 z9 u10 v10 w10 x10 y10 z10 u11 v11 w11 x11 y11 z11 u12 v12 w12 x12 y12 z12 u13 v13 w13 x13 y13 z13 u14 v14 w14 x14 y14 z14 u15 v15 w15 x15 y15 z15 u16 v16 w16 x16 y16 z16 u17 v17 w17 x17 y17 z17 u18 v18 w18 x18 y18 z18 u19 v19 w19 x19 y19 z19 : Value}
    (a0 : PySem.W.nsIn K mainGlobals "is_whole" = some (some (.ref f0))) (l0 : K.lookup f0 = some ⟨u0, o0, .func (PySem.W.fnOf "is_whole" "is_whole" (defArgs (top 12)) (defBody (top 12)) (defScope (top 12)) .none v0 w0 x0 n0 y0 z0), s0⟩) (c0 : PySem.W.codeIn K y0 "is_whole" = true) (k0 : PySem.W.keepIn K (.ref f0) = true)
    (a1 : PySem.W.nsIn K mainGlobals "is_lane" = some (some (.ref f1))) (l1 : K.lookup f1 = some ⟨u1, o1, .func (PySem.W.fnOf "is_lane" "is_lane" (defArgs (top 13)) (defBody (top 13)) (defScope (top 13)) .none v1 w1 x1 n1 y1 z1), s1⟩) (c1 : PySem.W.codeIn K y1 "is_lane" = true) (k1 : PySem.W.keepIn K (.ref f1) = true)
    (a2 : PySem.W.nsIn K mainGlobals "is_wicket" = some (some (.ref f2))) (l2 : K.lookup f2 = some ⟨u2, o2, .func (PySem.W.fnOf "is_wicket" "is_wicket" (defArgs (top 14)) (defBody (top 14)) (defScope (top 14)) .none v2 w2 x2 n2 y2 z2), s2⟩) (c2 : PySem.W.codeIn K y2 "is_wicket" = true) (k2 : PySem.W.keepIn K (.ref f2) = true)
    (a3 : PySem.W.nsIn K mainGlobals "makes_net" = some (some (.ref f3))) (l3 : K.lookup f3 = some ⟨u3, o3, .func (PySem.W.fnOf "makes_net" "makes_net" (defArgs (top 15)) (defBody (top 15)) (defScope (top 15)) .none v3 w3 x3 n3 y3 z3), s3⟩) (c3 : PySem.W.codeIn K y3 "makes_net" = true) (k3 : PySem.W.keepIn K (.ref f3) = true)
    (a4 : PySem.W.nsIn K mainGlobals "is_net" = some (some (.ref f4))) (l4 : K.lookup f4 = some ⟨u4, o4, .func (PySem.W.fnOf "is_net" "is_net" (defArgs (top 16)) (defBody (top 16)) (defScope (top 16)) .none v4 w4 x4 n4 y4 z4), s4⟩) (c4 : PySem.W.codeIn K y4 "is_net" = true) (k4 : PySem.W.keepIn K (.ref f4) = true)
    (a5 : PySem.W.nsIn K mainGlobals "lifted" = some (some (.ref f5))) (l5 : K.lookup f5 = some ⟨u5, o5, .func (PySem.W.fnOf "lifted" "lifted" (defArgs (top 20)) (defBody (top 20)) (defScope (top 20)) .none v5 w5 x5 n5 y5 z5), s5⟩) (c5 : PySem.W.codeIn K y5 "lifted" = true) (k5 : PySem.W.keepIn K (.ref f5) = true)
    (a6 : PySem.W.nsIn K mainGlobals "fold" = some (some (.ref f6))) (l6 : K.lookup f6 = some ⟨u6, o6, .func (PySem.W.fnOf "fold" "fold" (defArgs (top 21)) (defBody (top 21)) (defScope (top 21)) .none v6 w6 x6 n6 y6 z6), s6⟩) (c6 : PySem.W.codeIn K y6 "fold" = true) (k6 : PySem.W.keepIn K (.ref f6) = true)
    (a7 : PySem.W.nsIn K mainGlobals "block" = some (some (.ref f7))) (l7 : K.lookup f7 = some ⟨u7, o7, .func (PySem.W.fnOf "block" "block" (defArgs (top 22)) (defBody (top 22)) (defScope (top 22)) .none v7 w7 x7 n7 y7 z7), s7⟩) (c7 : PySem.W.codeIn K y7 "block" = true) (k7 : PySem.W.keepIn K (.ref f7) = true)
    (a8 : PySem.W.nsIn K mainGlobals "checked_halved" = some (some (.ref f8))) (l8 : K.lookup f8 = some ⟨u8, o8, .func (PySem.W.fnOf "checked_halved" "checked_halved" (defArgs (top 23)) (defBody (top 23)) (defScope (top 23)) .none v8 w8 x8 n8 y8 z8), s8⟩) (c8 : PySem.W.codeIn K y8 "checked_halved" = true) (k8 : PySem.W.keepIn K (.ref f8) = true)
    (a9 : PySem.W.nsIn K mainGlobals "rounds" = some (some (.ref f9))) (l9 : K.lookup f9 = some ⟨u9, o9, .func (PySem.W.fnOf "rounds" "rounds" (defArgs (top 24)) (defBody (top 24)) (defScope (top 24)) .none v9 w9 x9 n9 y9 z9), s9⟩) (c9 : PySem.W.codeIn K y9 "rounds" = true) (k9 : PySem.W.keepIn K (.ref f9) = true)
    (a10 : PySem.W.nsIn K mainGlobals "brick" = some (some (.ref f10))) (l10 : K.lookup f10 = some ⟨u10, o10, .func (PySem.W.fnOf "brick" "brick" (defArgs (top 25)) (defBody (top 25)) (defScope (top 25)) .none v10 w10 x10 n10 y10 z10), s10⟩) (c10 : PySem.W.codeIn K y10 "brick" = true) (k10 : PySem.W.keepIn K (.ref f10) = true)
    (a11 : PySem.W.nsIn K mainGlobals "_law_pen" = some (some (.ref f11))) (l11 : K.lookup f11 = some ⟨u11, o11, .func (PySem.W.fnOf "_law_pen" "_law_pen" (defArgs (top 27)) (defBody (top 27)) (defScope (top 27)) .none v11 w11 x11 n11 y11 z11), s11⟩) (c11 : PySem.W.codeIn K y11 "_law_pen" = true) (k11 : PySem.W.keepIn K (.ref f11) = true)
    (a12 : PySem.W.nsIn K mainGlobals "_law_take" = some (some (.ref f12))) (l12 : K.lookup f12 = some ⟨u12, o12, .func (PySem.W.fnOf "_law_take" "_law_take" (defArgs (top 28)) (defBody (top 28)) (defScope (top 28)) .none v12 w12 x12 n12 y12 z12), s12⟩) (c12 : PySem.W.codeIn K y12 "_law_take" = true) (k12 : PySem.W.keepIn K (.ref f12) = true)
    (a13 : PySem.W.nsIn K mainGlobals "_law_lifted" = some (some (.ref f13))) (l13 : K.lookup f13 = some ⟨u13, o13, .func (PySem.W.fnOf "_law_lifted" "_law_lifted" (defArgs (top 29)) (defBody (top 29)) (defScope (top 29)) .none v13 w13 x13 n13 y13 z13), s13⟩) (c13 : PySem.W.codeIn K y13 "_law_lifted" = true) (k13 : PySem.W.keepIn K (.ref f13) = true)
    (a14 : PySem.W.nsIn K mainGlobals "_law_block" = some (some (.ref f14))) (l14 : K.lookup f14 = some ⟨u14, o14, .func (PySem.W.fnOf "_law_block" "_law_block" (defArgs (top 30)) (defBody (top 30)) (defScope (top 30)) .none v14 w14 x14 n14 y14 z14), s14⟩) (c14 : PySem.W.codeIn K y14 "_law_block" = true) (k14 : PySem.W.keepIn K (.ref f14) = true)
    (a15 : PySem.W.nsIn K mainGlobals "_law_brick" = some (some (.ref f15))) (l15 : K.lookup f15 = some ⟨u15, o15, .func (PySem.W.fnOf "_law_brick" "_law_brick" (defArgs (top 31)) (defBody (top 31)) (defScope (top 31)) .none v15 w15 x15 n15 y15 z15), s15⟩) (c15 : PySem.W.codeIn K y15 "_law_brick" = true) (k15 : PySem.W.keepIn K (.ref f15) = true)
    (a16 : PySem.W.nsIn K mainGlobals "_law_rounds" = some (some (.ref f16))) (l16 : K.lookup f16 = some ⟨u16, o16, .func (PySem.W.fnOf "_law_rounds" "_law_rounds" (defArgs (top 32)) (defBody (top 32)) (defScope (top 32)) .none v16 w16 x16 n16 y16 z16), s16⟩) (c16 : PySem.W.codeIn K y16 "_law_rounds" = true) (k16 : PySem.W.keepIn K (.ref f16) = true)
    (a17 : PySem.W.nsIn K mainGlobals "_law_refused" = some (some (.ref f17))) (l17 : K.lookup f17 = some ⟨u17, o17, .func (PySem.W.fnOf "_law_refused" "_law_refused" (defArgs (top 33)) (defBody (top 33)) (defScope (top 33)) .none v17 w17 x17 n17 y17 z17), s17⟩) (c17 : PySem.W.codeIn K y17 "_law_refused" = true) (k17 : PySem.W.keepIn K (.ref f17) = true)
    (a18 : PySem.W.nsIn K mainGlobals "_law_right" = some (some (.ref f18))) (l18 : K.lookup f18 = some ⟨u18, o18, .func (PySem.W.fnOf "_law_right" "_law_right" (defArgs (top 34)) (defBody (top 34)) (defScope (top 34)) .none v18 w18 x18 n18 y18 z18), s18⟩) (c18 : PySem.W.codeIn K y18 "_law_right" = true) (k18 : PySem.W.keepIn K (.ref f18) = true)
    (a19 : PySem.W.nsIn K mainGlobals "law" = some (some (.ref f19))) (l19 : K.lookup f19 = some ⟨u19, o19, .func (PySem.W.fnOf "law" "law" (defArgs (top 35)) (defBody (top 35)) (defScope (top 35)) .none v19 w19 x19 n19 y19 z19), s19⟩) (c19 : PySem.W.codeIn K y19 "law" = true) (k19 : PySem.W.keepIn K (.ref f19) = true)
    (b0 : PySem.W.nsIn K mainGlobals "len" = some none)
    (b1 : PySem.W.nsIn K mainGlobals "sum" = some none)
    (b2 : PySem.W.nsIn K mainGlobals "max" = some none)
    (b3 : PySem.W.nsIn K mainGlobals "min" = some none)
    (b4 : PySem.W.nsIn K mainGlobals "isinstance" = some none)
    (b5 : PySem.W.nsIn K mainGlobals "int" = some none)
    (b6 : PySem.W.nsIn K mainGlobals "str" = some none)
    (b7 : PySem.W.nsIn K mainGlobals "abs" = some none)
    (b8 : PySem.W.nsIn K mainGlobals "list" = some none)
    (b9 : PySem.W.nsIn K mainGlobals "tuple" = some none)
    (b10 : PySem.W.nsIn K mainGlobals "all" = some none)
    (b11 : PySem.W.nsIn K mainGlobals "any" = some none)
    (b12 : PySem.W.nsIn K mainGlobals "sorted" = some none)
    (b13 : PySem.W.nsIn K mainGlobals "bool" = some none)
    (b14 : PySem.W.nsIn K mainGlobals "range" = some none)
    (b15 : PySem.W.nsIn K mainGlobals "enumerate" = some none)
    (b16 : PySem.W.nsIn K mainGlobals "zip" = some none)
    (b17 : PySem.W.nsIn K mainGlobals "reversed" = some none)
    (b18 : PySem.W.nsIn K mainGlobals "ValueError" = some none)
    (b19 : PySem.W.nsIn K mainGlobals "set" = some none)
    (b20 : PySem.W.nsIn K mainGlobals "repr" = some none)
    {t0g : Addr} {u0g : Value} {v0g : Option Addr} {w0g : Array Value} {x0g : Nat} {y0g : Array (Option Value)} (gx0 : PySem.W.nsIn K mainGlobals "HALVED" = some (some (.ref t0g))) (gl0 : K.lookup t0g = some ⟨u0g, v0g, .seq w0g x0g, y0g⟩) (gm0 : u0g = .type "tuple" ∧ v0g = none ∧ w0g.size ≤ sizeLine ∧ Vals (List.map V.int [1, 2, 4, 8]) w0g.toList)
    {t1g : Tok} (gx1 : PySem.W.nsIn K mainGlobals "MOST_LANES_nets" = some (some (.int 8 t1g)))
    {t2g : Tok} (gx2 : PySem.W.nsIn K mainGlobals "MOST_WICKETS" = some (some (.int 40 t2g)))
    {t3g : Tok} (gx3 : PySem.W.nsIn K mainGlobals "MOST_LANES_built" = some (some (.int 8 t3g)))
    {C0g : Addr} (ea0 : PySem.W.nsIn K mainGlobals "NoNet" = some (some (.ref C0g))) (eb0 : PySem.W.excIn K C0g [.type "ValueError", .type "Exception", .type "BaseException", .type "object"] "ValueError.__new__" = true) (ec0 : PySem.W.keepIn K (.ref C0g) = true) (ed0 : PySem.W.subIn K (.ref C0g) (.type "BaseException") = some true) (ee0 : PySem.W.typeIn K (.ref C0g) = some (.type "type")) (ef0 : PySem.W.isClsIn K C0g = true)
    {C1g : Addr} (ea1 : PySem.W.nsIn K mainGlobals "NetError" = some (some (.ref C1g))) (ec1 : PySem.W.keepIn K (.ref C1g) = true) (ed1 : PySem.W.subIn K (.ref C1g) (.type "BaseException") = some true) (ee1 : PySem.W.typeIn K (.ref C1g) = some (.type "type")) (ef1 : PySem.W.isClsIn K C1g = true)
    {C2g : Addr} (ea2 : PySem.W.nsIn K mainGlobals "NoLane" = some (some (.ref C2g))) (ec2 : PySem.W.keepIn K (.ref C2g) = true) (ed2 : PySem.W.subIn K (.ref C2g) (.type "BaseException") = some true) (ee2 : PySem.W.typeIn K (.ref C2g) = some (.type "type")) (ef2 : PySem.W.isClsIn K C2g = true)
    {C3g : Addr} (ea3 : PySem.W.nsIn K mainGlobals "NoName" = some (some (.ref C3g))) (ec3 : PySem.W.keepIn K (.ref C3g) = true) (ed3 : PySem.W.subIn K (.ref C3g) (.type "BaseException") = some true) (ee3 : PySem.W.typeIn K (.ref C3g) = some (.type "type")) (ef3 : PySem.W.isClsIn K C3g = true)
    {C4g : Addr} (ea4 : PySem.W.nsIn K mainGlobals "NoRow" = some (some (.ref C4g))) (ec4 : PySem.W.keepIn K (.ref C4g) = true) (ed4 : PySem.W.subIn K (.ref C4g) (.type "BaseException") = some true) (ee4 : PySem.W.typeIn K (.ref C4g) = some (.type "type")) (ef4 : PySem.W.isClsIn K C4g = true)
    {C5g : Addr} (ea5 : PySem.W.nsIn K mainGlobals "NoText" = some (some (.ref C5g))) (ec5 : PySem.W.keepIn K (.ref C5g) = true) (ed5 : PySem.W.subIn K (.ref C5g) (.type "BaseException") = some true) (ee5 : PySem.W.typeIn K (.ref C5g) = some (.type "type")) (ef5 : PySem.W.isClsIn K C5g = true)
    {C6g : Addr} (ea6 : PySem.W.nsIn K mainGlobals "NoWalker" = some (some (.ref C6g))) (ec6 : PySem.W.keepIn K (.ref C6g) = true) (ed6 : PySem.W.subIn K (.ref C6g) (.type "BaseException") = some true) (ee6 : PySem.W.typeIn K (.ref C6g) = some (.type "type")) (ef6 : PySem.W.isClsIn K C6g = true)
    {C7g : Addr} (ea7 : PySem.W.nsIn K mainGlobals "TooMany" = some (some (.ref C7g))) (ec7 : PySem.W.keepIn K (.ref C7g) = true) (ed7 : PySem.W.subIn K (.ref C7g) (.type "BaseException") = some true) (ee7 : PySem.W.typeIn K (.ref C7g) = some (.type "type")) (ef7 : PySem.W.isClsIn K C7g = true)
    (eh0 : PySem.W.findIn K (.ref C0g) "__getattribute__" = some (some (.builtin "BaseException.__getattribute__"))) (ei0 : PySem.W.findIn K (.ref C0g) "__getattr__" = some none) (ej0 : PySem.W.hasDictIn K C0g = true) (ek0 : PySem.W.findIn K (.ref C0g) "__class__" = some (some (.builtin "object.__class__"))) (el0 : PySem.W.mroIn K C0g (.type "object") = some true) (em0 : PySem.W.subIn K (.ref C0g) (.type "ValueError") = some true) (er0 : PySem.W.subIn K (.ref C0g) (.ref C0g) = some true)
    (eg0_0 : PySem.W.subIn K (.ref C0g) (.ref C0g) = some true)
    (eh1 : PySem.W.findIn K (.ref C1g) "__getattribute__" = some (some (.builtin "BaseException.__getattribute__"))) (ei1 : PySem.W.findIn K (.ref C1g) "__getattr__" = some none) (ej1 : PySem.W.hasDictIn K C1g = true) (ek1 : PySem.W.findIn K (.ref C1g) "__class__" = some (some (.builtin "object.__class__"))) (el1 : PySem.W.mroIn K C1g (.type "object") = some true) (em1 : PySem.W.subIn K (.ref C1g) (.type "ValueError") = some true) (er1 : PySem.W.subIn K (.ref C1g) (.ref C1g) = some true)
    (eg1_0 : PySem.W.subIn K (.ref C0g) (.ref C1g) = some true)
    (eh2 : PySem.W.findIn K (.ref C2g) "__getattribute__" = some (some (.builtin "BaseException.__getattribute__"))) (ei2 : PySem.W.findIn K (.ref C2g) "__getattr__" = some none) (ej2 : PySem.W.hasDictIn K C2g = true) (ek2 : PySem.W.findIn K (.ref C2g) "__class__" = some (some (.builtin "object.__class__"))) (el2 : PySem.W.mroIn K C2g (.type "object") = some true) (em2 : PySem.W.subIn K (.ref C2g) (.type "ValueError") = some true) (er2 : PySem.W.subIn K (.ref C2g) (.ref C2g) = some true)
    (eg2_0 : PySem.W.subIn K (.ref C0g) (.ref C2g) = some false)
    (eh3 : PySem.W.findIn K (.ref C3g) "__getattribute__" = some (some (.builtin "BaseException.__getattribute__"))) (ei3 : PySem.W.findIn K (.ref C3g) "__getattr__" = some none) (ej3 : PySem.W.hasDictIn K C3g = true) (ek3 : PySem.W.findIn K (.ref C3g) "__class__" = some (some (.builtin "object.__class__"))) (el3 : PySem.W.mroIn K C3g (.type "object") = some true) (em3 : PySem.W.subIn K (.ref C3g) (.type "ValueError") = some true) (er3 : PySem.W.subIn K (.ref C3g) (.ref C3g) = some true)
    (eg3_0 : PySem.W.subIn K (.ref C0g) (.ref C3g) = some false)
    (eh4 : PySem.W.findIn K (.ref C4g) "__getattribute__" = some (some (.builtin "BaseException.__getattribute__"))) (ei4 : PySem.W.findIn K (.ref C4g) "__getattr__" = some none) (ej4 : PySem.W.hasDictIn K C4g = true) (ek4 : PySem.W.findIn K (.ref C4g) "__class__" = some (some (.builtin "object.__class__"))) (el4 : PySem.W.mroIn K C4g (.type "object") = some true) (em4 : PySem.W.subIn K (.ref C4g) (.type "ValueError") = some true) (er4 : PySem.W.subIn K (.ref C4g) (.ref C4g) = some true)
    (eg4_0 : PySem.W.subIn K (.ref C0g) (.ref C4g) = some false)
    (eh5 : PySem.W.findIn K (.ref C5g) "__getattribute__" = some (some (.builtin "BaseException.__getattribute__"))) (ei5 : PySem.W.findIn K (.ref C5g) "__getattr__" = some none) (ej5 : PySem.W.hasDictIn K C5g = true) (ek5 : PySem.W.findIn K (.ref C5g) "__class__" = some (some (.builtin "object.__class__"))) (el5 : PySem.W.mroIn K C5g (.type "object") = some true) (em5 : PySem.W.subIn K (.ref C5g) (.type "ValueError") = some true) (er5 : PySem.W.subIn K (.ref C5g) (.ref C5g) = some true)
    (eg5_0 : PySem.W.subIn K (.ref C0g) (.ref C5g) = some false)
    (eh6 : PySem.W.findIn K (.ref C6g) "__getattribute__" = some (some (.builtin "BaseException.__getattribute__"))) (ei6 : PySem.W.findIn K (.ref C6g) "__getattr__" = some none) (ej6 : PySem.W.hasDictIn K C6g = true) (ek6 : PySem.W.findIn K (.ref C6g) "__class__" = some (some (.builtin "object.__class__"))) (el6 : PySem.W.mroIn K C6g (.type "object") = some true) (em6 : PySem.W.subIn K (.ref C6g) (.type "ValueError") = some true) (er6 : PySem.W.subIn K (.ref C6g) (.ref C6g) = some true)
    (eg6_0 : PySem.W.subIn K (.ref C0g) (.ref C6g) = some false)
    (eh7 : PySem.W.findIn K (.ref C7g) "__getattribute__" = some (some (.builtin "BaseException.__getattribute__"))) (ei7 : PySem.W.findIn K (.ref C7g) "__getattr__" = some none) (ej7 : PySem.W.hasDictIn K C7g = true) (ek7 : PySem.W.findIn K (.ref C7g) "__class__" = some (some (.builtin "object.__class__"))) (el7 : PySem.W.mroIn K C7g (.type "object") = some true) (em7 : PySem.W.subIn K (.ref C7g) (.type "ValueError") = some true) (er7 : PySem.W.subIn K (.ref C7g) (.ref C7g) = some true)
    (eg7_0 : PySem.W.subIn K (.ref C0g) (.ref C7g) = some false)
    (ep0 : PySem.W.specialIn K (.builtin "object.__class__") "__get__" = some (some (.builtin "getset_descriptor.__get__"))) (eq0 : PySem.W.takesIn K (.builtin "object.__class__") = some true)
    : ∃ fd : FuncData, (∀ (s : Shared) (v : Value), BindsTo s fd ⟨[v], []⟩ [("script", v)]) ∧ ∀ base : Heap, K.In base → base.Ns mainGlobals mg → RG.FnG l.prog w K mg base (L2.CX l.prog w) 10 fa fd ["script"] (fun vs H Q E => ∀ cl, spD K cl (callD D 10) "law" 1 vs H Q E) := by
  have e := hfa.symm.trans (PySem.W.mg_of X G a19)
  cases e
  have F0 := fun_mk (st := top 12) l0 c0 k0
  have F1 := fun_mk (st := top 13) l1 c1 k1
  have F2 := fun_mk (st := top 14) l2 c2 k2
  have F3 := fun_mk (st := top 15) l3 c3 k3
  have F4 := fun_mk (st := top 16) l4 c4 k4
  have F5 := fun_mk (st := top 20) l5 c5 k5
  have F6 := fun_mk (st := top 21) l6 c6 k6
  have F7 := fun_mk (st := top 22) l7 c7 k7
  have F8 := fun_mk (st := top 23) l8 c8 k8
  have F9 := fun_mk (st := top 24) l9 c9 k9
  have F10 := fun_mk (st := top 25) l10 c10 k10
  have F11 := fun_mk (st := top 27) l11 c11 k11
  have F12 := fun_mk (st := top 28) l12 c12 k12
  have F13 := fun_mk (st := top 29) l13 c13 k13
  have F14 := fun_mk (st := top 30) l14 c14 k14
  have F15 := fun_mk (st := top 31) l15 c15 k15
  have F16 := fun_mk (st := top 32) l16 c16 k16
  have F17 := fun_mk (st := top 33) l17 c17 k17
  have F18 := fun_mk (st := top 34) l18 c18 k18
  have F19 := fun_mk (st := top 35) l19 c19 k19
  have B0 := F0.binds (ps := ["thing"]) fun _ _ _ _ _ _ us hl => match us, hl with | [_], _ => rfl
  have B1 := F1.binds (ps := ["thing", "wide"]) fun _ _ _ _ _ _ us hl => match us, hl with | [_, _], _ => rfl
  have B2 := F2.binds (ps := ["thing", "wide"]) fun _ _ _ _ _ _ us hl => match us, hl with | [_, _], _ => rfl
  have B3 := F3.binds (ps := ["wide", "wickets"]) fun _ _ _ _ _ _ us hl => match us, hl with | [_, _], _ => rfl
  have B4 := F4.binds (ps := ["thing"]) fun _ _ _ _ _ _ us hl => match us, hl with | [_], _ => rfl
  have B5 := F5.binds (ps := ["wickets", "by"]) fun _ _ _ _ _ _ us hl => match us, hl with | [_, _], _ => rfl
  have B6 := F6.binds (ps := ["wide"]) fun _ _ _ _ _ _ us hl => match us, hl with | [_], _ => rfl
  have B7 := F7.binds (ps := ["wide"]) fun _ _ _ _ _ _ us hl => match us, hl with | [_], _ => rfl
  have B8 := F8.binds (ps := ["wide"]) fun _ _ _ _ _ _ us hl => match us, hl with | [_], _ => rfl
  have B9 := F9.binds (ps := ["wide"]) fun _ _ _ _ _ _ us hl => match us, hl with | [_], _ => rfl
  have B10 := F10.binds (ps := ["wide"]) fun _ _ _ _ _ _ us hl => match us, hl with | [_], _ => rfl
  have B11 := F11.binds (ps := ["script", "k"]) fun _ _ _ _ _ _ us hl => match us, hl with | [_, _], _ => rfl
  have B12 := F12.binds (ps := ["pen", "size"]) fun _ _ _ _ _ _ us hl => match us, hl with | [_, _], _ => rfl
  have B13 := F13.binds (ps := ["wickets", "by"]) fun _ _ _ _ _ _ us hl => match us, hl with | [_, _], _ => rfl
  have B14 := F14.binds (ps := ["wide"]) fun _ _ _ _ _ _ us hl => match us, hl with | [_], _ => rfl
  have B15 := F15.binds (ps := ["wide"]) fun _ _ _ _ _ _ us hl => match us, hl with | [_], _ => rfl
  have B16 := F16.binds (ps := ["wide"]) fun _ _ _ _ _ _ us hl => match us, hl with | [_], _ => rfl
  have B17 := F17.binds (ps := ["way", "thing"]) fun _ _ _ _ _ _ us hl => match us, hl with | [_, _], _ => rfl
  have B18 := F18.binds (ps := ["found", "due"]) fun _ _ _ _ _ _ us hl => match us, hl with | [_, _], _ => rfl
  have B19 := F19.binds (ps := ["script"]) fun _ _ _ _ _ _ us hl => match us, hl with | [_], _ => rfl
  let cl : Str → Value := fun x => if x = "NoNet" then .ref C0g else if x = "NetError" then .ref C1g else if x = "NoLane" then .ref C2g else if x = "NoName" then .ref C3g else if x = "NoRow" then .ref C4g else if x = "NoText" then .ref C5g else if x = "NoWalker" then .ref C6g else if x = "TooMany" then .ref C7g else .none
  have hc0 : cl "NoNet" = .ref C0g := by
    show (if ("NoNet" : Str) = "NoNet" then Value.ref C0g else if ("NoNet" : Str) = "NetError" then Value.ref C1g else if ("NoNet" : Str) = "NoLane" then Value.ref C2g else if ("NoNet" : Str) = "NoName" then Value.ref C3g else if ("NoNet" : Str) = "NoRow" then Value.ref C4g else if ("NoNet" : Str) = "NoText" then Value.ref C5g else if ("NoNet" : Str) = "NoWalker" then Value.ref C6g else if ("NoNet" : Str) = "TooMany" then Value.ref C7g else Value.none) = _
    rw [if_pos rfl]
  have hc1 : cl "NetError" = .ref C1g := by
    show (if ("NetError" : Str) = "NoNet" then Value.ref C0g else if ("NetError" : Str) = "NetError" then Value.ref C1g else if ("NetError" : Str) = "NoLane" then Value.ref C2g else if ("NetError" : Str) = "NoName" then Value.ref C3g else if ("NetError" : Str) = "NoRow" then Value.ref C4g else if ("NetError" : Str) = "NoText" then Value.ref C5g else if ("NetError" : Str) = "NoWalker" then Value.ref C6g else if ("NetError" : Str) = "TooMany" then Value.ref C7g else Value.none) = _
    rw [if_neg (by decide), if_pos rfl]
  have hc2 : cl "NoLane" = .ref C2g := by
    show (if ("NoLane" : Str) = "NoNet" then Value.ref C0g else if ("NoLane" : Str) = "NetError" then Value.ref C1g else if ("NoLane" : Str) = "NoLane" then Value.ref C2g else if ("NoLane" : Str) = "NoName" then Value.ref C3g else if ("NoLane" : Str) = "NoRow" then Value.ref C4g else if ("NoLane" : Str) = "NoText" then Value.ref C5g else if ("NoLane" : Str) = "NoWalker" then Value.ref C6g else if ("NoLane" : Str) = "TooMany" then Value.ref C7g else Value.none) = _
    rw [if_neg (by decide), if_neg (by decide), if_pos rfl]
  have hc3 : cl "NoName" = .ref C3g := by
    show (if ("NoName" : Str) = "NoNet" then Value.ref C0g else if ("NoName" : Str) = "NetError" then Value.ref C1g else if ("NoName" : Str) = "NoLane" then Value.ref C2g else if ("NoName" : Str) = "NoName" then Value.ref C3g else if ("NoName" : Str) = "NoRow" then Value.ref C4g else if ("NoName" : Str) = "NoText" then Value.ref C5g else if ("NoName" : Str) = "NoWalker" then Value.ref C6g else if ("NoName" : Str) = "TooMany" then Value.ref C7g else Value.none) = _
    rw [if_neg (by decide), if_neg (by decide), if_neg (by decide), if_pos rfl]
  have hc4 : cl "NoRow" = .ref C4g := by
    show (if ("NoRow" : Str) = "NoNet" then Value.ref C0g else if ("NoRow" : Str) = "NetError" then Value.ref C1g else if ("NoRow" : Str) = "NoLane" then Value.ref C2g else if ("NoRow" : Str) = "NoName" then Value.ref C3g else if ("NoRow" : Str) = "NoRow" then Value.ref C4g else if ("NoRow" : Str) = "NoText" then Value.ref C5g else if ("NoRow" : Str) = "NoWalker" then Value.ref C6g else if ("NoRow" : Str) = "TooMany" then Value.ref C7g else Value.none) = _
    rw [if_neg (by decide), if_neg (by decide), if_neg (by decide), if_neg (by decide), if_pos rfl]
  have hc5 : cl "NoText" = .ref C5g := by
    show (if ("NoText" : Str) = "NoNet" then Value.ref C0g else if ("NoText" : Str) = "NetError" then Value.ref C1g else if ("NoText" : Str) = "NoLane" then Value.ref C2g else if ("NoText" : Str) = "NoName" then Value.ref C3g else if ("NoText" : Str) = "NoRow" then Value.ref C4g else if ("NoText" : Str) = "NoText" then Value.ref C5g else if ("NoText" : Str) = "NoWalker" then Value.ref C6g else if ("NoText" : Str) = "TooMany" then Value.ref C7g else Value.none) = _
    rw [if_neg (by decide), if_neg (by decide), if_neg (by decide), if_neg (by decide), if_neg (by decide), if_pos rfl]
  have hc6 : cl "NoWalker" = .ref C6g := by
    show (if ("NoWalker" : Str) = "NoNet" then Value.ref C0g else if ("NoWalker" : Str) = "NetError" then Value.ref C1g else if ("NoWalker" : Str) = "NoLane" then Value.ref C2g else if ("NoWalker" : Str) = "NoName" then Value.ref C3g else if ("NoWalker" : Str) = "NoRow" then Value.ref C4g else if ("NoWalker" : Str) = "NoText" then Value.ref C5g else if ("NoWalker" : Str) = "NoWalker" then Value.ref C6g else if ("NoWalker" : Str) = "TooMany" then Value.ref C7g else Value.none) = _
    rw [if_neg (by decide), if_neg (by decide), if_neg (by decide), if_neg (by decide), if_neg (by decide), if_neg (by decide), if_pos rfl]
  have hc7 : cl "TooMany" = .ref C7g := by
    show (if ("TooMany" : Str) = "NoNet" then Value.ref C0g else if ("TooMany" : Str) = "NetError" then Value.ref C1g else if ("TooMany" : Str) = "NoLane" then Value.ref C2g else if ("TooMany" : Str) = "NoName" then Value.ref C3g else if ("TooMany" : Str) = "NoRow" then Value.ref C4g else if ("TooMany" : Str) = "NoText" then Value.ref C5g else if ("TooMany" : Str) = "NoWalker" then Value.ref C6g else if ("TooMany" : Str) = "TooMany" then Value.ref C7g else Value.none) = _
    rw [if_neg (by decide), if_neg (by decide), if_neg (by decide), if_neg (by decide), if_neg (by decide), if_neg (by decide), if_neg (by decide), if_pos rfl]
  have ok : DefsOk K mg D GI cl ES := by
    refine ⟨fun d hd => ?_, fun x hx => ?_, fun x hx => ?_, fun x hx => ?_⟩
    · simp only [D, List.mem_cons, List.not_mem_nil, or_false] at hd
      rcases hd with rfl | rfl | rfl | rfl | rfl | rfl | rfl | rfl | rfl | rfl | rfl | rfl | rfl | rfl | rfl | rfl | rfl | rfl | rfl | rfl
      · exact ⟨_, _, ⟨PySem.W.mg_of X G a0, a0⟩, F0, B0⟩
      · exact ⟨_, _, ⟨PySem.W.mg_of X G a1, a1⟩, F1, B1⟩
      · exact ⟨_, _, ⟨PySem.W.mg_of X G a2, a2⟩, F2, B2⟩
      · exact ⟨_, _, ⟨PySem.W.mg_of X G a3, a3⟩, F3, B3⟩
      · exact ⟨_, _, ⟨PySem.W.mg_of X G a4, a4⟩, F4, B4⟩
      · exact ⟨_, _, ⟨PySem.W.mg_of X G a5, a5⟩, F5, B5⟩
      · exact ⟨_, _, ⟨PySem.W.mg_of X G a6, a6⟩, F6, B6⟩
      · exact ⟨_, _, ⟨PySem.W.mg_of X G a7, a7⟩, F7, B7⟩
      · exact ⟨_, _, ⟨PySem.W.mg_of X G a8, a8⟩, F8, B8⟩
      · exact ⟨_, _, ⟨PySem.W.mg_of X G a9, a9⟩, F9, B9⟩
      · exact ⟨_, _, ⟨PySem.W.mg_of X G a10, a10⟩, F10, B10⟩
      · exact ⟨_, _, ⟨PySem.W.mg_of X G a11, a11⟩, F11, B11⟩
      · exact ⟨_, _, ⟨PySem.W.mg_of X G a12, a12⟩, F12, B12⟩
      · exact ⟨_, _, ⟨PySem.W.mg_of X G a13, a13⟩, F13, B13⟩
      · exact ⟨_, _, ⟨PySem.W.mg_of X G a14, a14⟩, F14, B14⟩
      · exact ⟨_, _, ⟨PySem.W.mg_of X G a15, a15⟩, F15, B15⟩
      · exact ⟨_, _, ⟨PySem.W.mg_of X G a16, a16⟩, F16, B16⟩
      · exact ⟨_, _, ⟨PySem.W.mg_of X G a17, a17⟩, F17, B17⟩
      · exact ⟨_, _, ⟨PySem.W.mg_of X G a18, a18⟩, F18, B18⟩
      · exact ⟨_, _, ⟨PySem.W.mg_of X G a19, a19⟩, F19, B19⟩
    · simp only [bltN, List.mem_cons, List.not_mem_nil, or_false] at hx
      rcases hx with rfl | rfl | rfl | rfl | rfl | rfl | rfl | rfl | rfl | rfl | rfl | rfl | rfl | rfl | rfl | rfl | rfl | rfl | rfl | rfl | rfl
      · exact PySem.W.mg_none_of X G b0
      · exact PySem.W.mg_none_of X G b1
      · exact PySem.W.mg_none_of X G b2
      · exact PySem.W.mg_none_of X G b3
      · exact PySem.W.mg_none_of X G b4
      · exact PySem.W.mg_none_of X G b5
      · exact PySem.W.mg_none_of X G b6
      · exact PySem.W.mg_none_of X G b7
      · exact PySem.W.mg_none_of X G b8
      · exact PySem.W.mg_none_of X G b9
      · exact PySem.W.mg_none_of X G b10
      · exact PySem.W.mg_none_of X G b11
      · exact PySem.W.mg_none_of X G b12
      · exact PySem.W.mg_none_of X G b13
      · exact PySem.W.mg_none_of X G b14
      · exact PySem.W.mg_none_of X G b15
      · exact PySem.W.mg_none_of X G b16
      · exact PySem.W.mg_none_of X G b17
      · exact PySem.W.mg_none_of X G b18
      · exact PySem.W.mg_none_of X G b19
      · exact PySem.W.mg_none_of X G b20
    · simp only [GI, List.mem_cons, List.not_mem_nil, or_false] at hx
      rcases hx with rfl | rfl | rfl | rfl
      · exact ⟨_, _, _, _, PySem.W.mg_of X G gx0, gl0, gm0.1, gm0.2.1, rfl, gm0.2.2.1, gm0.2.2.2⟩
      · exact ⟨_, PySem.W.mg_of X G gx1, _, rfl⟩
      · exact ⟨_, PySem.W.mg_of X G gx2, _, rfl⟩
      · exact ⟨_, PySem.W.mg_of X G gx3, _, rfl⟩
    · simp only [ES, List.mem_cons, List.not_mem_nil, or_false] at hx
      rcases hx with rfl | rfl | rfl | rfl | rfl | rfl | rfl | rfl
      · refine ⟨_, PySem.W.mg_of X G ea0, hc0, ea0, ⟨eh0, ei0, ed0, ej0, ek0, ep0, eq0, el0⟩, kitV_of em0, fun y hy => ?_, fun _ => ⟨_, _, _, _, PySem.F.excBase_ValueError, eb0⟩, ec0, ed0, ee0, fun y hy hb => ?_⟩
        · simp only [List.mem_cons, List.not_mem_nil, or_false] at hy
          rcases hy with rfl
          · rw [hc0]; exact kitO_of ef0 ee0 eg0_0 er0
        · simp only [List.mem_cons, List.not_mem_nil, or_false] at hy
          rcases hy with rfl
          · rw [hc0]; exact exm_of ed0 ef0 ee0 eg0_0
      · refine ⟨_, PySem.W.mg_of X G ea1, hc1, ea1, ⟨eh1, ei1, ed1, ej1, ek1, ep0, eq0, el1⟩, kitV_of em1, fun y hy => ?_, fun hy => absurd hy (by decide), ec1, ed1, ee1, fun y hy hb => ?_⟩
        · simp only [List.mem_cons, List.not_mem_nil, or_false] at hy
          rcases hy with rfl
          · rw [hc0]; exact kitO_of ef1 ee1 eg1_0 er1
        · simp only [List.mem_cons, List.not_mem_nil, or_false] at hy
          rcases hy with rfl
          · rw [hc0]; exact exm_of ed1 ef1 ee1 eg1_0
      · refine ⟨_, PySem.W.mg_of X G ea2, hc2, ea2, ⟨eh2, ei2, ed2, ej2, ek2, ep0, eq0, el2⟩, kitV_of em2, fun y hy => ?_, fun hy => absurd hy (by decide), ec2, ed2, ee2, fun y hy hb => ?_⟩
        · simp only [List.mem_cons, List.not_mem_nil, or_false] at hy
          rcases hy with rfl
          · rw [hc0]; exact kitO_of ef2 ee2 eg2_0 er2
        · simp only [List.mem_cons, List.not_mem_nil, or_false] at hy
          rcases hy with rfl
          · cases hb
      · refine ⟨_, PySem.W.mg_of X G ea3, hc3, ea3, ⟨eh3, ei3, ed3, ej3, ek3, ep0, eq0, el3⟩, kitV_of em3, fun y hy => ?_, fun hy => absurd hy (by decide), ec3, ed3, ee3, fun y hy hb => ?_⟩
        · simp only [List.mem_cons, List.not_mem_nil, or_false] at hy
          rcases hy with rfl
          · rw [hc0]; exact kitO_of ef3 ee3 eg3_0 er3
        · simp only [List.mem_cons, List.not_mem_nil, or_false] at hy
          rcases hy with rfl
          · cases hb
      · refine ⟨_, PySem.W.mg_of X G ea4, hc4, ea4, ⟨eh4, ei4, ed4, ej4, ek4, ep0, eq0, el4⟩, kitV_of em4, fun y hy => ?_, fun hy => absurd hy (by decide), ec4, ed4, ee4, fun y hy hb => ?_⟩
        · simp only [List.mem_cons, List.not_mem_nil, or_false] at hy
          rcases hy with rfl
          · rw [hc0]; exact kitO_of ef4 ee4 eg4_0 er4
        · simp only [List.mem_cons, List.not_mem_nil, or_false] at hy
          rcases hy with rfl
          · cases hb
      · refine ⟨_, PySem.W.mg_of X G ea5, hc5, ea5, ⟨eh5, ei5, ed5, ej5, ek5, ep0, eq0, el5⟩, kitV_of em5, fun y hy => ?_, fun hy => absurd hy (by decide), ec5, ed5, ee5, fun y hy hb => ?_⟩
        · simp only [List.mem_cons, List.not_mem_nil, or_false] at hy
          rcases hy with rfl
          · rw [hc0]; exact kitO_of ef5 ee5 eg5_0 er5
        · simp only [List.mem_cons, List.not_mem_nil, or_false] at hy
          rcases hy with rfl
          · cases hb
      · refine ⟨_, PySem.W.mg_of X G ea6, hc6, ea6, ⟨eh6, ei6, ed6, ej6, ek6, ep0, eq0, el6⟩, kitV_of em6, fun y hy => ?_, fun hy => absurd hy (by decide), ec6, ed6, ee6, fun y hy hb => ?_⟩
        · simp only [List.mem_cons, List.not_mem_nil, or_false] at hy
          rcases hy with rfl
          · rw [hc0]; exact kitO_of ef6 ee6 eg6_0 er6
        · simp only [List.mem_cons, List.not_mem_nil, or_false] at hy
          rcases hy with rfl
          · cases hb
      · refine ⟨_, PySem.W.mg_of X G ea7, hc7, ea7, ⟨eh7, ei7, ed7, ej7, ek7, ep0, eq0, el7⟩, kitV_of em7, fun y hy => ?_, fun hy => absurd hy (by decide), ec7, ed7, ee7, fun y hy hb => ?_⟩
        · simp only [List.mem_cons, List.not_mem_nil, or_false] at hy
          rcases hy with rfl
          · rw [hc0]; exact kitO_of ef7 ee7 eg7_0 er7
        · simp only [List.mem_cons, List.not_mem_nil, or_false] at hy
          rcases hy with rfl
          · cases hb
  exact ⟨_, fun s v => .of_eq rfl, fun base _ _ => (defs_ok (cl := cl) ok chk 10 "law" d_law (by rfl) _ _ F19).imp fun _ _ _ _ h => h cl⟩
end K43
open PySem PySem.W PyProof.Rows
set_option maxHeartbeats 0 in
theorem PySem.Challenge.cw_evenpass_k43_rounds_and_bricks_holds : PySem.Challenge.rw_evenpass_k43_rounds_and_bricks.Holds := by
  w_on; o_law; k_head; (case hw => w_witness2)
  k_fill
  refine RG.walkG (l := PySem.Challenge.rw_evenpass_k43_rounds_and_bricks) (n := 63) (k := 10) (x := "script") (C := fun w => L2.CX (PySem.Challenge.rw_evenpass_k43_rounds_and_bricks).prog w) (sp := fun w vs H Q E => ∀ cl, RX.spD _ cl (RX.callD K43.D 10) "law" 1 vs H Q E) rfl (by decide) rfl ⟨rfl, by decide, by decide⟩ (fun w h Y => PySem.W.kIn_of Y) ?F (fun w H a ns hl _ hS cl => RX.law_sp hS (K43.law_of ns (SH.law_23_true ns hl))) (fun _ _ _ _ _ h => RX.cx_no h)
  case F =>
    intro w mg fa h KX G hmg
    refine' K43.all_mk KX G hmg ?a0 ?l0 ?c0 ?k0 ?a1 ?l1 ?c1 ?k1 ?a2 ?l2 ?c2 ?k2 ?a3 ?l3 ?c3 ?k3 ?a4 ?l4 ?c4 ?k4 ?a5 ?l5 ?c5 ?k5 ?a6 ?l6 ?c6 ?k6 ?a7 ?l7 ?c7 ?k7 ?a8 ?l8 ?c8 ?k8 ?a9 ?l9 ?c9 ?k9 ?a10 ?l10 ?c10 ?k10 ?a11 ?l11 ?c11 ?k11 ?a12 ?l12 ?c12 ?k12 ?a13 ?l13 ?c13 ?k13 ?a14 ?l14 ?c14 ?k14 ?a15 ?l15 ?c15 ?k15 ?a16 ?l16 ?c16 ?k16 ?a17 ?l17 ?c17 ?k17 ?a18 ?l18 ?c18 ?k18 ?a19 ?l19 ?c19 ?k19 ?b0 ?b1 ?b2 ?b3 ?b4 ?b5 ?b6 ?b7 ?b8 ?b9 ?b10 ?b11 ?b12 ?b13 ?b14 ?b15 ?b16 ?b17 ?b18 ?b19 ?b20 ?gx0 ?gl0 ?gm0 ?gx1 ?gx2 ?gx3 ?ea0 ?eb0 ?ec0 ?ed0 ?ee0 ?ef0 ?ea1 ?ec1 ?ed1 ?ee1 ?ef1 ?ea2 ?ec2 ?ed2 ?ee2 ?ef2 ?ea3 ?ec3 ?ed3 ?ee3 ?ef3 ?ea4 ?ec4 ?ed4 ?ee4 ?ef4 ?ea5 ?ec5 ?ed5 ?ee5 ?ef5 ?ea6 ?ec6 ?ed6 ?ee6 ?ef6 ?ea7 ?ec7 ?ed7 ?ee7 ?ef7 ?eh0 ?ei0 ?ej0 ?ek0 ?el0 ?em0 ?er0 ?eg0_0 ?eh1 ?ei1 ?ej1 ?ek1 ?el1 ?em1 ?er1 ?eg1_0 ?eh2 ?ei2 ?ej2 ?ek2 ?el2 ?em2 ?er2 ?eg2_0 ?eh3 ?ei3 ?ej3 ?ek3 ?el3 ?em3 ?er3 ?eg3_0 ?eh4 ?ei4 ?ej4 ?ek4 ?el4 ?em4 ?er4 ?eg4_0 ?eh5 ?ei5 ?ej5 ?ek5 ?el5 ?em5 ?er5 ?eg5_0 ?eh6 ?ei6 ?ej6 ?ek6 ?el6 ?em6 ?er6 ?eg6_0 ?eh7 ?ei7 ?ej7 ?ek7 ?el7 ?em7 ?er7 ?eg7_0 ?ep0 ?eq0
    (case a0 => k_is); (case l0 => k_is); (case c0 => k_is); (case k0 => k_is); (case a1 => k_is); (case l1 => k_is); (case c1 => k_is); (case k1 => k_is); (case a2 => k_is); (case l2 => k_is); (case c2 => k_is); (case k2 => k_is); (case a3 => k_is); (case l3 => k_is); (case c3 => k_is); (case k3 => k_is); (case a4 => k_is); (case l4 => k_is); (case c4 => k_is); (case k4 => k_is); (case a5 => k_is); (case l5 => k_is); (case c5 => k_is); (case k5 => k_is); (case a6 => k_is); (case l6 => k_is); (case c6 => k_is); (case k6 => k_is); (case a7 => k_is); (case l7 => k_is); (case c7 => k_is); (case k7 => k_is); (case a8 => k_is); (case l8 => k_is); (case c8 => k_is); (case k8 => k_is); (case a9 => k_is); (case l9 => k_is); (case c9 => k_is); (case k9 => k_is); (case a10 => k_is); (case l10 => k_is); (case c10 => k_is); (case k10 => k_is); (case a11 => k_is); (case l11 => k_is); (case c11 => k_is); (case k11 => k_is); (case a12 => k_is); (case l12 => k_is); (case c12 => k_is); (case k12 => k_is); (case a13 => k_is); (case l13 => k_is); (case c13 => k_is); (case k13 => k_is); (case a14 => k_is); (case l14 => k_is); (case c14 => k_is); (case k14 => k_is); (case a15 => k_is); (case l15 => k_is); (case c15 => k_is); (case k15 => k_is); (case a16 => k_is); (case l16 => k_is); (case c16 => k_is); (case k16 => k_is); (case a17 => k_is); (case l17 => k_is); (case c17 => k_is); (case k17 => k_is); (case a18 => k_is); (case l18 => k_is); (case c18 => k_is); (case k18 => k_is); (case a19 => k_is); (case l19 => k_is); (case c19 => k_is); (case k19 => k_is); (case b0 => k_is); (case b1 => k_is); (case b2 => k_is); (case b3 => k_is); (case b4 => k_is); (case b5 => k_is); (case b6 => k_is); (case b7 => k_is); (case b8 => k_is); (case b9 => k_is); (case b10 => k_is); (case b11 => k_is); (case b12 => k_is); (case b13 => k_is); (case b14 => k_is); (case b15 => k_is); (case b16 => k_is); (case b17 => k_is); (case b18 => k_is); (case b19 => k_is); (case b20 => k_is); (case gx0 => k_is); (case gl0 => k_is); (case gm0 => exact ⟨rfl, rfl, by decide, .cons ⟨_, rfl⟩ (.cons ⟨_, rfl⟩ (.cons ⟨_, rfl⟩ (.cons ⟨_, rfl⟩ (.nil))))⟩); (case gx1 => k_is); (case gx2 => k_is); (case gx3 => k_is); (case ea0 => k_is); (case eb0 => k_exc); (case ec0 => k_is); (case ed0 => k_is); (case ee0 => k_is); (case ef0 => k_is); (case ea1 => k_is); (case ec1 => k_is); (case ed1 => k_is); (case ee1 => k_is); (case ef1 => k_is); (case ea2 => k_is); (case ec2 => k_is); (case ed2 => k_is); (case ee2 => k_is); (case ef2 => k_is); (case ea3 => k_is); (case ec3 => k_is); (case ed3 => k_is); (case ee3 => k_is); (case ef3 => k_is); (case ea4 => k_is); (case ec4 => k_is); (case ed4 => k_is); (case ee4 => k_is); (case ef4 => k_is); (case ea5 => k_is); (case ec5 => k_is); (case ed5 => k_is); (case ee5 => k_is); (case ef5 => k_is); (case ea6 => k_is); (case ec6 => k_is); (case ed6 => k_is); (case ee6 => k_is); (case ef6 => k_is); (case ea7 => k_is); (case ec7 => k_is); (case ed7 => k_is); (case ee7 => k_is); (case ef7 => k_is); (case eh0 => k_is); (case ei0 => k_is); (case ej0 => k_is); (case ek0 => k_is); (case el0 => k_is); (case em0 => k_is); (case er0 => k_is); (case eg0_0 => k_is); (case eh1 => k_is); (case ei1 => k_is); (case ej1 => k_is); (case ek1 => k_is); (case el1 => k_is); (case em1 => k_is); (case er1 => k_is); (case eg1_0 => k_is); (case eh2 => k_is); (case ei2 => k_is); (case ej2 => k_is); (case ek2 => k_is); (case el2 => k_is); (case em2 => k_is); (case er2 => k_is); (case eg2_0 => k_is); (case eh3 => k_is); (case ei3 => k_is); (case ej3 => k_is); (case ek3 => k_is); (case el3 => k_is); (case em3 => k_is); (case er3 => k_is); (case eg3_0 => k_is); (case eh4 => k_is); (case ei4 => k_is); (case ej4 => k_is); (case ek4 => k_is); (case el4 => k_is); (case em4 => k_is); (case er4 => k_is); (case eg4_0 => k_is); (case eh5 => k_is); (case ei5 => k_is); (case ej5 => k_is); (case ek5 => k_is); (case el5 => k_is); (case em5 => k_is); (case er5 => k_is); (case eg5_0 => k_is); (case eh6 => k_is); (case ei6 => k_is); (case ej6 => k_is); (case ek6 => k_is); (case el6 => k_is); (case em6 => k_is); (case er6 => k_is); (case eg6_0 => k_is); (case eh7 => k_is); (case ei7 => k_is); (case ej7 => k_is); (case ek7 => k_is); (case el7 => k_is); (case em7 => k_is); (case er7 => k_is); (case eg7_0 => k_is); (case ep0 => k_is); (case eq0 => k_is)
