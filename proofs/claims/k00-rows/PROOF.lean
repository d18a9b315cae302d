import PyProof.Rows.All
import HandS.ForMost
import HandS.ForExc
import HandS.TryMany
import HandS.IsInst
import HandS.CallSlots
import HandS.Wide
import HandS.Style
import HandS.TupAny
import HandS.Replace
import HandS.More
import HandS.Iter
import KE.GoesNew
import KE.GoesMore
import HandS.TryOnly
import HandS.Conv
import HandS.WordsDict
import HandS.WordsExc
import HandS.ExcInit
import HandS.ExcIs
import KE.KExcIs
import PySem.Challenge.RW_orientbench_k00_rows
set_option Elab.async false
set_option linter.all false
set_option maxRecDepth 100000
set_option maxHeartbeats 4000000
/-! # Ob1: tree data, states, what stands for what, steps -/
namespace Ob
open PySem PySem.Spec PyProof.Rows L2

/-- a frozen value, as a tree -/
inductive T where
  | non | bl (b : Bool) | int (i : Int) | str (s : List Nat) | lst (xs : List T) | tup (xs : List T) | dct (ks vs : List T)
  /-- a list that is only read: the script, a list of the module's top -/
  | xl (xs : List T)
/-- a value: a tree, a living list (a cell), or a frozen one that bears cells -/
inductive VD where
  | pure (t : T) | cell (k : Nat) | lst (xs : List VD) | tup (xs : List VD)
/-- what an expression hands on: a value, or a new list that nobody else knows -/
inductive FT where
  | val (d : VD) | new (xs : List FT)
abbrev Cell := List VD
/-- plain signs -/
def SOK (s : List Nat) : Bool := s.all fun c => decide (c < 1114112)
theorem SOK.ok {s : List Nat} (h : SOK s = true) : PySem.PyData.strOk ⟨s.toArray⟩ = true := by
  show Array.all s.toArray (fun c => decide (c < 0x110000)) = true
  rw [List.all_toArray]
  exact h
structure SS where
  d : List (Option VD)
  s : List (Option Cell)
  x : Option VD
/-- an exception: its class's name, its field's name, its field -/
structure XD where
  n : Str
  f : Str
  v : VD
inductive Res (α : Type) where
  | ok (a : α) (st : SS) | err (x : XD) (st : SS) | stuck
abbrev M (α : Type) := SS → Res α
def rt {α : Type} (a : α) : M α := fun st => .ok a st
def bd {α β : Type} (m : M α) (k : α → M β) : M β := fun st => match m st with
  | .ok a s => k a s
  | .err x s => .err x s
  | .stuck => .stuck
def stuck {α : Type} : M α := fun _ => .stuck
def guard (c : Bool) : M Unit := fun st => if c = true then .ok () st else .stuck

/-- the ground that does not change: the written part, the module's names, the exception that a suite holds (its slot, its place, its dict's, its field) -/
structure Gx where
  K : PySem.W.Frag
  mg : Str → Option Value
  ex : Option (Nat × Addr × Addr × Str)

/-! ### what stands for what -/
section
variable (K : PySem.W.Frag) (F : Hp)
mutual
inductive RepT : V → T → Prop
  | non : RepT .non .non
  | bl (b : Bool) : RepT (.bl b) (.bl b)
  | int (i : Int) : RepT (.int i) (.int i)
  | str (s : List Nat) (h : s.length ≤ sizeLine) (ok : SOK s = true) : RepT (.str ⟨s.toArray⟩) (.str s)
  | lst {a : Addr} {vs : List V} {ts : List T} (h : F a = some (.lst vs)) (z : ts.length ≤ sizeLine) (r : RepTs vs ts) : RepT (.ref a) (.lst ts)
  | xl {a : Addr} {vs : List V} {ts : List T} (h : SqL K F a vs) (z : ts.length ≤ sizeLine) (r : RepTs vs ts) : RepT (.ref a) (.xl ts)
  | tup {a : Addr} {vs : List V} {ts : List T} (h : SqT K F a vs) (z : ts.length ≤ sizeLine) (r : RepTs vs ts) : RepT (.ref a) (.tup ts)
  | dnil {a : Addr} (h : F a = some (.dK [])) : RepT (.ref a) (.dct [] [])
inductive RepTs : List V → List T → Prop
  | nil : RepTs [] []
  | cons {v : V} {vs : List V} {t : T} {ts : List T} : RepT v t → RepTs vs ts → RepTs (v :: vs) (t :: ts)
end
variable (A : List Addr)
mutual
inductive RepV : V → VD → Prop
  | pure {v : V} {t : T} (h : RepT K F v t) : RepV v (.pure t)
  | cell {a : Addr} {k : Nat} (h : A[k]? = some a) : RepV (.ref a) (.cell k)
  | lst {a : Addr} {vs : List V} {ds : List VD} (h : F a = some (.lst vs)) (z : ds.length ≤ sizeLine) (r : RepVs vs ds) : RepV (.ref a) (.lst ds)
  | tup {a : Addr} {vs : List V} {ds : List VD} (h : SqT K F a vs) (z : ds.length ≤ sizeLine) (r : RepVs vs ds) : RepV (.ref a) (.tup ds)
inductive RepVs : List V → List VD → Prop
  | nil : RepVs [] []
  | cons {v : V} {vs : List V} {t : VD} {ts : List VD} : RepV v t → RepVs vs ts → RepVs (v :: vs) (t :: ts)
end
variable (H : Hp)
mutual
inductive RepP : List Addr → V → FT → Prop
  | val {v : V} {d : VD} (h : RepV K F A v d) : RepP [] v (.val d)
  | new {p : Addr} {P : List Addr} {vs : List V} {fs : List FT} (h : H p = some (.lst vs)) (hf : F p = none) (ha : p ∉ A) (z : fs.length ≤ sizeLine) (r : RepPs P vs fs) : RepP (p :: P) (.ref p) (.new fs)
inductive RepPs : List Addr → List V → List FT → Prop
  | nil : RepPs [] [] []
  | cons {P Q : List Addr} {v : V} {vs : List V} {f : FT} {fs : List FT} : RepP P v f → RepPs Q vs fs → RepPs (P ++ Q) (v :: vs) (f :: fs)
end
end

theorem seqT {K : PySem.W.Frag} {F F' : Hp} {a : Addr} {xs : List V} (e : Same F F') (h : SqT K F a xs) : SqT K F' a xs := by
  rcases h with (h | ⟨o, h⟩) | h
  · exact .inl (.inl (e _ _ h))
  · exact .inl (.inr ⟨o, e _ _ h⟩)
  · exact .inr h

section
variable {K : PySem.W.Frag} {F F' : Hp} {A A' : List Addr} {H H' : Hp}
mutual
theorem RepT.mono (e : Same F F') : ∀ {v : V} {t : T}, RepT K F v t → RepT K F' v t
  | _, _, .non => .non
  | _, _, .bl b => .bl b
  | _, _, .int i => .int i
  | _, _, .str s h ok => .str s h ok
  | _, _, .lst h z r => .lst (e _ _ h) z (RepTs.mono e r)
  | _, _, .xl h z r => .xl (e.seq h) z (RepTs.mono e r)
  | _, _, .tup h z r => .tup (seqT e h) z (RepTs.mono e r)
  | _, _, .dnil h => .dnil (e _ _ h)
theorem RepTs.mono (e : Same F F') : ∀ {vs : List V} {ts : List T}, RepTs K F vs ts → RepTs K F' vs ts
  | _, _, .nil => .nil
  | _, _, .cons h r => .cons (RepT.mono e h) (RepTs.mono e r)
end
mutual
theorem RepV.mono (e : Same F F') (ea : ∀ (k : Nat) (a : Addr), A[k]? = some a → A'[k]? = some a) : ∀ {v : V} {d : VD}, RepV K F A v d → RepV K F' A' v d
  | _, _, .pure h => .pure (h.mono e)
  | _, _, .cell h => .cell (ea _ _ h)
  | _, _, .lst h z r => .lst (e _ _ h) z (RepVs.mono e ea r)
  | _, _, .tup h z r => .tup (seqT e h) z (RepVs.mono e ea r)
theorem RepVs.mono (e : Same F F') (ea : ∀ (k : Nat) (a : Addr), A[k]? = some a → A'[k]? = some a) : ∀ {vs : List V} {ds : List VD}, RepVs K F A vs ds → RepVs K F' A' vs ds
  | _, _, .nil => .nil
  | _, _, .cons h r => .cons (RepV.mono e ea h) (RepVs.mono e ea r)
end
theorem RepTs.len : ∀ {vs : List V} {ts : List T}, RepTs K F vs ts → vs.length = ts.length
  | _, _, .nil => rfl
  | _, _, .cons _ r => by rw [List.length_cons, List.length_cons, RepTs.len r]
theorem RepVs.len : ∀ {vs : List V} {ts : List VD}, RepVs K F A vs ts → vs.length = ts.length
  | _, _, .nil => rfl
  | _, _, .cons _ r => by rw [List.length_cons, List.length_cons, RepVs.len r]
theorem RepPs.len : ∀ {P : List Addr} {vs : List V} {ts : List FT}, RepPs K F A H P vs ts → vs.length = ts.length
  | _, _, _, .nil => rfl
  | _, _, _, .cons _ r => by rw [List.length_cons, List.length_cons, RepPs.len r]
theorem RepTs.get : ∀ {vs : List V} {ts : List T} {i : Nat} {t : T}, RepTs K F vs ts → ts[i]? = some t → ∃ v, vs[i]? = some v ∧ RepT K F v t
  | _, _, _, _, .nil, e => by simp at e
  | _, _, 0, _, .cons h _, e => by simp at e; subst e; exact ⟨_, rfl, h⟩
  | _, _, i + 1, t, .cons _ r, e => by
    obtain ⟨v, h1, h2⟩ := RepTs.get (i := i) (t := t) r (by simpa using e)
    exact ⟨v, by simpa using h1, h2⟩
theorem RepTs.get' : ∀ {vs : List V} {ts : List T} {i : Nat} {v : V}, RepTs K F vs ts → vs[i]? = some v → ∃ t, ts[i]? = some t ∧ RepT K F v t
  | _, _, _, _, .nil, e => by simp at e
  | _, _, 0, _, .cons h _, e => by simp at e; subst e; exact ⟨_, rfl, h⟩
  | _, _, i + 1, t, .cons _ r, e => by
    obtain ⟨v, h1, h2⟩ := RepTs.get' (i := i) (v := t) r (by simpa using e)
    exact ⟨v, by simpa using h1, h2⟩
theorem RepVs.get : ∀ {vs : List V} {ts : List VD} {i : Nat} {t : VD}, RepVs K F A vs ts → ts[i]? = some t → ∃ v, vs[i]? = some v ∧ RepV K F A v t
  | _, _, _, _, .nil, e => by simp at e
  | _, _, 0, _, .cons h _, e => by simp at e; subst e; exact ⟨_, rfl, h⟩
  | _, _, i + 1, t, .cons _ r, e => by
    obtain ⟨v, h1, h2⟩ := RepVs.get (i := i) (t := t) r (by simpa using e)
    exact ⟨v, by simpa using h1, h2⟩
theorem RepVs.get' : ∀ {vs : List V} {ts : List VD} {i : Nat} {v : V}, RepVs K F A vs ts → vs[i]? = some v → ∃ t, ts[i]? = some t ∧ RepV K F A v t
  | _, _, _, _, .nil, e => by simp at e
  | _, _, 0, _, .cons h _, e => by simp at e; subst e; exact ⟨_, rfl, h⟩
  | _, _, i + 1, t, .cons _ r, e => by
    obtain ⟨v, h1, h2⟩ := RepVs.get' (i := i) (v := t) r (by simpa using e)
    exact ⟨v, by simpa using h1, h2⟩
theorem RepVs.ofT : ∀ {vs : List V} {ts : List T}, RepTs K F vs ts → RepVs K F A vs (ts.map VD.pure)
  | _, _, .nil => .nil
  | _, _, .cons h r => .cons (.pure h) (RepVs.ofT r)
theorem RepVs.toT : ∀ {vs : List V} {ts : List T}, RepVs K F A vs (ts.map VD.pure) → RepTs K F vs ts
  | _, [], .nil => .nil
  | _, _ :: _, .cons (.pure h) r => .cons h (RepVs.toT r)
theorem RepVs.append : ∀ {xs ys : List V} {us ws : List VD}, RepVs K F A xs us → RepVs K F A ys ws → RepVs K F A (xs ++ ys) (us ++ ws)
  | _, _, _, _, .nil, s => s
  | _, _, _, _, .cons r t, s => .cons r (RepVs.append t s)
theorem RepVs.set {x : V} {u : VD} (r : RepV K F A x u) : ∀ {xs : List V} {us : List VD} (i : Nat), RepVs K F A xs us → RepVs K F A (xs.set i x) (us.set i u)
  | _, _, _, .nil => .nil
  | _, _, 0, .cons _ t => .cons r t
  | _, _, i + 1, .cons q t => .cons q (RepVs.set r i t)
theorem RepVs.take : ∀ {xs : List V} {us : List VD} (n : Nat), RepVs K F A xs us → RepVs K F A (xs.take n) (us.take n)
  | _, _, 0, _ => .nil
  | _, _, _ + 1, .nil => .nil
  | _, _, n + 1, .cons r t => .cons r (RepVs.take n t)
theorem RepVs.drop : ∀ {xs : List V} {us : List VD} (n : Nat), RepVs K F A xs us → RepVs K F A (xs.drop n) (us.drop n)
  | _, _, 0, r => r
  | _, _, _ + 1, .nil => .nil
  | _, _, n + 1, .cons _ t => RepVs.drop n t
theorem RepVs.eraseIdx : ∀ {xs : List V} {us : List VD} (i : Nat), RepVs K F A xs us → RepVs K F A (xs.eraseIdx i) (us.eraseIdx i)
  | _, _, _, .nil => .nil
  | _, _, 0, .cons _ t => t
  | _, _, i + 1, .cons r t => .cons r (RepVs.eraseIdx i t)
theorem RepTs.take : ∀ {xs : List V} {us : List T} (n : Nat), RepTs K F xs us → RepTs K F (xs.take n) (us.take n)
  | _, _, 0, _ => .nil
  | _, _, _ + 1, .nil => .nil
  | _, _, n + 1, .cons r t => .cons r (RepTs.take n t)
theorem RepTs.drop : ∀ {xs : List V} {us : List T} (n : Nat), RepTs K F xs us → RepTs K F (xs.drop n) (us.drop n)
  | _, _, 0, r => r
  | _, _, _ + 1, .nil => .nil
  | _, _, n + 1, .cons _ t => RepTs.drop n t
theorem RepTs.append : ∀ {xs ys : List V} {us ws : List T}, RepTs K F xs us → RepTs K F ys ws → RepTs K F (xs ++ ys) (us ++ ws)
  | _, _, _, _, .nil, s => s
  | _, _, _, _, .cons r t, s => .cons r (RepTs.append t s)
end

/-! ### one step: what an evaluation may do to the heap. F: what is frozen; A: the cells' places; H: the heap -/
structure Step (F : Hp) (A : List Addr) (H : Hp) (F' : Hp) (A' : List Addr) (H' : Hp) : Prop where
  ex : Same F F'
  pre : ∃ B, A' = A ++ B ∧ ∀ b ∈ B, H b = none
  new : ∀ b o, F' b = some o → F b = some o ∨ H b = none ∨ b ∈ A
  keep : ∀ b o, H b = some o → b ∉ A → H' b = some o
  dom : ∀ b, H' b = none → H b = none

section
variable {F F1 F2 : Hp} {A A1 A2 : List Addr} {H H1 H2 : Hp}
theorem Step.refl : Step F A H F A H := ⟨Same.refl F, ⟨[], by simp, by simp⟩, fun _ _ h => .inl h, fun _ _ h _ => h, fun _ h => h⟩
theorem Step.mem (s : Step F A H F1 A1 H1) {b : Addr} (h : b ∈ A1) : b ∈ A ∨ H b = none := by
  obtain ⟨B, e, n⟩ := s.pre
  rw [e] at h
  rcases List.mem_append.mp h with h | h
  · exact .inl h
  · exact .inr (n b h)
theorem Step.notin (s : Step F A H F1 A1 H1) {b : Addr} {o : HO} (h : H b = some o) (n : b ∉ A) : b ∉ A1 := fun q => by
  rcases s.mem q with z | z
  · exact n z
  · rw [h] at z; cases z
theorem Step.sub (s : Step F A H F1 A1 H1) {b : Addr} (h : b ∈ A) : b ∈ A1 := by
  obtain ⟨B, e, n⟩ := s.pre
  rw [e]; exact List.mem_append_left _ h
theorem Step.at (s : Step F A H F1 A1 H1) (k : Nat) (a : Addr) (h : A[k]? = some a) : A1[k]? = some a := by
  obtain ⟨B, e, n⟩ := s.pre
  have hl : k < A.length := (List.getElem?_eq_some_iff.mp h).1
  rw [e, List.getElem?_append_left hl]; exact h
/-- what was free of F and known to H stays free of F -/
theorem Step.off (s : Step F A H F1 A1 H1) {b : Addr} {o : HO} (h : H b = some o) (f : F b = none) (n : b ∉ A) : F1 b = none := by
  cases q : F1 b with
  | none => rfl
  | some u =>
    rcases s.new b u q with z | z | z
    · rw [f] at z; cases z
    · rw [h] at z; cases z
    · exact absurd z n
theorem Step.trans (s : Step F A H F1 A1 H1) (t : Step F1 A1 H1 F2 A2 H2) : Step F A H F2 A2 H2 where
  ex := s.ex.trans t.ex
  pre := by
    obtain ⟨B, e, n⟩ := s.pre
    obtain ⟨C, e2, n2⟩ := t.pre
    refine ⟨B ++ C, by rw [e2, e, List.append_assoc], fun b hb => ?_⟩
    rcases List.mem_append.mp hb with h | h
    · exact n b h
    · exact s.dom b (n2 b h)
  new := fun b o q => by
    rcases t.new b o q with z | z | z
    · exact s.new b o z
    · exact .inr (.inl (s.dom b z))
    · rcases s.mem z with y | y
      · exact .inr (.inr y)
      · exact .inr (.inl y)
  keep := fun b o q n => t.keep b o (s.keep b o q n) (s.notin q n)
  dom := fun b q => s.dom b (t.dom b q)
end

section
variable {K : PySem.W.Frag} {F F' : Hp} {A A' : List Addr} {H H' : Hp}
theorem RepV.step (s : Step F A H F' A' H') {v : V} {d : VD} (h : RepV K F A v d) : RepV K F' A' v d := h.mono s.ex s.at
theorem RepVs.step (s : Step F A H F' A' H') {vs : List V} {ds : List VD} (h : RepVs K F A vs ds) : RepVs K F' A' vs ds := h.mono s.ex s.at
mutual
theorem RepP.step (s : Step F A H F' A' H') : ∀ {P : List Addr} {v : V} {f : FT}, RepP K F A H P v f → RepP K F' A' H' P v f
  | _, _, _, .val h => .val (h.step s)
  | _, _, _, .new h hf ha z r => .new (s.keep _ _ h ha) (s.off h hf ha) (s.notin h ha) z (RepPs.step s r)
theorem RepPs.step (s : Step F A H F' A' H') : ∀ {P : List Addr} {vs : List V} {fs : List FT}, RepPs K F A H P vs fs → RepPs K F' A' H' P vs fs
  | _, _, _, .nil => .nil
  | _, _, _, .cons h r => .cons (RepP.step s h) (RepPs.step s r)
end
mutual
/-- the new nodes: lists, unknown to F, no cells -/
theorem RepP.nodes : ∀ {P : List Addr} {v : V} {f : FT}, RepP K F A H P v f → ∀ p ∈ P, (∃ vs, H p = some (.lst vs)) ∧ F p = none ∧ p ∉ A
  | _, _, _, .val _, p, hp => by simp at hp
  | _, _, _, .new h hf ha z r, p, hp => by
    rcases List.mem_cons.mp hp with e | hp
    · subst e; exact ⟨⟨_, h⟩, hf, ha⟩
    · exact RepPs.nodes r p hp
theorem RepPs.nodes : ∀ {P : List Addr} {vs : List V} {fs : List FT}, RepPs K F A H P vs fs → ∀ p ∈ P, (∃ vs, H p = some (.lst vs)) ∧ F p = none ∧ p ∉ A
  | _, _, _, .nil, p, hp => by simp at hp
  | _, _, _, .cons h r, p, hp => by
    rcases List.mem_append.mp hp with hp | hp
    · exact RepP.nodes h p hp
    · exact RepPs.nodes r p hp
end
end

/-- the ties of a state -/
structure Rel (G : Gx) (F : Hp) (A : List Addr) (st : SS) (σ : L2.St) (H : Hp) : Prop where
  fh : Same F H
  nd : A.Nodup
  len : st.s.length = A.length
  sl : st.d.length = σ.length
  tr : ∀ a ∈ A, ∃ o, H a = some o
  cel : ∀ (k : Nat) (a : Addr) (c : Cell), A[k]? = some a → st.s[k]? = some (some c) → F a = none ∧ ∃ vs, H a = some (.lst vs) ∧ c.length ≤ sizeLine ∧ RepVs G.K F A vs c
  slt : ∀ (i : Nat) (d : VD), st.d[i]? = some (some d) → ∃ v, σ[i]? = some (some v) ∧ RepV G.K F A v d
  exn : ∀ i a dd f, G.ex = some (i, a, dd, f) → σ[i]? = some (some (.ref a)) ∧ ∃ v d, F dd = some (.xd [(f, v)]) ∧ st.x = some d ∧ RepV G.K F A v d
def RepX (G : Gx) (F : Hp) (A : List Addr) (cls : Value) (dx : Option Addr) (x : XD) : Prop :=
  G.mg x.n = some cls ∧ ∃ dd v, dx = some dd ∧ F dd = some (.xd [(x.f, v)]) ∧ RepV G.K F A v x.v
/-- a value, its new nodes unknown at the start H0 -/
def RF (G : Gx) (H0 : Hp) (F : Hp) (A : List Addr) (H : Hp) (v : V) (f : FT) : Prop := ∃ P, RepP G.K F A H P v f ∧ P.Nodup ∧ ∀ p ∈ P, H0 p = none
def RFs (G : Gx) (H0 : Hp) (F : Hp) (A : List Addr) (H : Hp) (vs : List V) (fs : List FT) : Prop := ∃ P, RepPs G.K F A H P vs fs ∧ P.Nodup ∧ ∀ p ∈ P, H0 p = none
def RB (_ : Hp) (_ : Hp) (_ : List Addr) (_ : Hp) (b a : Bool) : Prop := b = a

section
variable {G : Gx} {F F' : Hp} {A A' : List Addr} {H H' H0 : Hp} {st st' : SS} {σ : L2.St}
theorem RF.step (s : Step F A H F' A' H') {v : V} {f : FT} (h : RF G H0 F A H v f) : RF G H0 F' A' H' v f := by
  obtain ⟨P, r, n, z⟩ := h
  exact ⟨P, r.step s, n, z⟩
theorem RFs.step (s : Step F A H F' A' H') {v : List V} {f : List FT} (h : RFs G H0 F A H v f) : RFs G H0 F' A' H' v f := by
  obtain ⟨P, r, n, z⟩ := h
  exact ⟨P, r.step s, n, z⟩
theorem RF.val {v : V} {d : VD} (h : RepV G.K F A v d) : RF G H0 F A H v (.val d) := ⟨[], .val h, List.nodup_nil, by simp⟩
theorem RF.ofVal {v : V} {d : VD} (h : RF G H0 F A H v (.val d)) : RepV G.K F A v d := by
  obtain ⟨P, r, _, _⟩ := h
  cases r with
  | val h => exact h
theorem RF.start (s : Step F A H F' A' H') {F2 : Hp} {A2 : List Addr} {H2 : Hp} {v : V} {f : FT} (h : RF G H' F2 A2 H2 v f) : RF G H F2 A2 H2 v f := by
  obtain ⟨P, r, n, z⟩ := h
  exact ⟨P, r, n, fun p hp => s.dom p (z p hp)⟩
theorem RFs.start (s : Step F A H F' A' H') {F2 : Hp} {A2 : List Addr} {H2 : Hp} {v : List V} {f : List FT} (h : RFs G H' F2 A2 H2 v f) : RFs G H F2 A2 H2 v f := by
  obtain ⟨P, r, n, z⟩ := h
  exact ⟨P, r, n, fun p hp => s.dom p (z p hp)⟩
theorem RFs.nil : RFs G H0 F A H [] [] := ⟨[], .nil, List.nodup_nil, by simp⟩
/-- the first is known already when the second is made -/
theorem RFs.cons {F1 : Hp} {A1 : List Addr} {H1 : Hp} (s0 : Step F A H0 F1 A1 H1) (s : Step F1 A1 H1 F' A' H') {v : V} {f : FT} {vs : List V} {fs : List FT} (h : RF G H0 F1 A1 H1 v f) (r : RFs G H1 F' A' H' vs fs) :
    RFs G H0 F' A' H' (v :: vs) (f :: fs) := by
  obtain ⟨P, p, n, z⟩ := h
  obtain ⟨Q, q, m, y⟩ := r
  refine ⟨P ++ Q, .cons (p.step s) q, List.nodup_append.mpr ⟨n, m, fun a ha b hb e => ?_⟩, fun p' hp => ?_⟩
  · subst e
    obtain ⟨⟨vs', e1⟩, _, _⟩ := p.nodes a ha
    rw [y a hb] at e1; cases e1
  · rcases List.mem_append.mp hp with hp | hp
    · exact z p' hp
    · exact s0.dom p' (y p' hp)
theorem RFs.two {v u : V} {x y : FT} (h : RFs G H0 F A H [v, u] [x, y]) : RF G H0 F A H v x ∧ RF G H0 F A H u y := by
  obtain ⟨P, p, n, z⟩ := h
  cases p with
  | @cons P Q _ _ _ _ h1 r =>
    cases r with
    | @cons P2 Q2 _ _ _ _ h2 r2 =>
      cases r2
      rw [List.append_nil] at n z
      obtain ⟨n1, n2, _⟩ := List.nodup_append.mp n
      exact ⟨⟨P, h1, n1, fun q hq => z q (List.mem_append_left _ hq)⟩, ⟨P2, h2, n2, fun q hq => z q (List.mem_append_right _ hq)⟩⟩
theorem RFs.one {v : V} {x : FT} (h : RFs G H0 F A H [v] [x]) : RF G H0 F A H v x := by
  obtain ⟨P, p, n, z⟩ := h
  cases p with
  | @cons P Q _ _ _ _ h1 r =>
    cases r
    rw [List.append_nil] at n z
    exact ⟨P, h1, n, z⟩
end
end Ob
/-! # Ob2: what is wanted of an outcome; freezing, reading -/
namespace Ob
open PySem PySem.Spec PyProof.Rows L2

def Out {α β : Type} (G : Gx) (W : WX) (R : Hp → List Addr → Hp → β → α → Prop) (F : Hp) (A : List Addr) (σ : L2.St) (H : Hp) (r : Res α) (Q : β → Hp → Prop) : Prop := match r with
  | .ok a st' => ∀ b F' A' H', Step F A H F' A' H' → Rel G F' A' st' σ H' → R F' A' H' b a → Q b H'
  | .err x st' => ∀ cls dx F' A' H', Step F A H F' A' H' → Rel G F' A' st' σ H' → RepX G F' A' cls dx x → W cls dx σ H'
  | .stuck => False
/-- the reading that m has: R is given the start's heap -/
def cG {α β : Type} (G : Gx) (W : WX) (R : Hp → Hp → List Addr → Hp → β → α → Prop) (m : M α) : L2.St → Hp → (β → Hp → Prop) → Prop := fun σ H Q =>
  ∃ F A st, Rel G F A st σ H ∧ Out G W (R H) F A σ H (m st) Q

section
variable {α β γ δ : Type} {G : Gx} {W : WX} {F F1 : Hp} {A A1 : List Addr} {σ : L2.St} {H H1 : Hp} {st : SS}
theorem Out.step {R : Hp → List Addr → Hp → β → α → Prop} {r : Res α} {Q : β → Hp → Prop} (h : Out G W R F A σ H r Q) (s : Step F A H F1 A1 H1) : Out G W R F1 A1 σ H1 r Q := by
  cases r with
  | ok a st' => exact fun b F' A' H' s' rel rr => h b F' A' H' (s.trans s') rel rr
  | err x st' => exact fun c d F' A' H' s' rel rr => h c d F' A' H' (s.trans s') rel rr
  | stuck => exact h
/-- from an outcome of m, then k, to m's own -/
theorem Out.bind {m : M α} {k : α → M γ} {R : Hp → List Addr → Hp → β → α → Prop} {R' : Hp → List Addr → Hp → δ → γ → Prop} {Q : δ → Hp → Prop} {C : β → Hp → Prop} (h : Out G W R' F A σ H (bd m k st) Q)
    (hk : ∀ b a F1 A1 H1 st1, Step F A H F1 A1 H1 → Rel G F1 A1 st1 σ H1 → R F1 A1 H1 b a → Out G W R' F1 A1 σ H1 (k a st1) Q → C b H1) : Out G W R F A σ H (m st) C := by
  unfold bd at h
  cases e : m st with
  | ok a st' =>
    rw [e] at h
    exact fun b F' A' H' s rel rr => hk b a F' A' H' st' s rel rr (Out.step h s)
  | err x st' => rw [e] at h; exact h
  | stuck => rw [e] at h; exact h
/-- the same, the rest told from the start -/
theorem Out.bind0 {m : M α} {k : α → M γ} {R : Hp → List Addr → Hp → β → α → Prop} {R' : Hp → List Addr → Hp → δ → γ → Prop} {Q : δ → Hp → Prop} {C : β → Hp → Prop} (h : Out G W R' F A σ H (bd m k st) Q)
    (hk : ∀ b a F1 A1 H1 st1, Step F A H F1 A1 H1 → Rel G F1 A1 st1 σ H1 → R F1 A1 H1 b a → Out G W R' F A σ H (k a st1) Q → C b H1) : Out G W R F A σ H (m st) C := by
  unfold bd at h
  cases e : m st with
  | ok a st' =>
    rw [e] at h
    exact fun b F' A' H' s rel rr => hk b a F' A' H' st' s rel rr h
  | err x st' => rw [e] at h; exact h
  | stuck => rw [e] at h; exact h
/-- the same, m begun later -/
theorem Out.bindS {m : M α} {k : α → M γ} {R : Hp → List Addr → Hp → β → α → Prop} {R' : Hp → List Addr → Hp → δ → γ → Prop} {Q : δ → Hp → Prop} {C : β → Hp → Prop} (h : Out G W R' F A σ H (bd m k st) Q) (s : Step F A H F1 A1 H1)
    (hk : ∀ b a F2 A2 H2 st2, Step F1 A1 H1 F2 A2 H2 → Rel G F2 A2 st2 σ H2 → R F2 A2 H2 b a → Out G W R' F A σ H (k a st2) Q → C b H2) : Out G W R F1 A1 σ H1 (m st) C := by
  unfold bd at h
  cases e : m st with
  | ok a st' =>
    rw [e] at h
    exact fun b F' A' H' s' rel rr => hk b a F' A' H' st' s' rel rr h
  | err x st' =>
    rw [e] at h
    exact fun c d F' A' H' s' rel rr => h c d F' A' H' (s.trans s') rel rr
  | stuck => rw [e] at h; exact h
theorem Out.guard {c : Bool} {k : M γ} {R : Hp → List Addr → Hp → δ → γ → Prop} {Q : δ → Hp → Prop} (h : Out G W R F A σ H (bd (guard c) (fun _ => k) st) Q) : c = true ∧ Out G W R F A σ H (k st) Q := by
  unfold bd Ob.guard at h
  by_cases e : c = true
  · rw [if_pos e] at h; exact ⟨e, h⟩
  · rw [if_neg e] at h; exact h.elim
/-- the end of an outcome, the heap as it is -/
theorem Out.done {R : Hp → List Addr → Hp → β → α → Prop} {a : α} {Q : β → Hp → Prop} {b : β} (h : Out G W R F A σ H (.ok a st) Q) (rel : Rel G F A st σ H) (r : R F A H b a) : Q b H := h b F A H Step.refl rel r
end

/-! ### weaker readings -/
section
variable {X : Cx}
theorem PEw {e : Expr} {t u : TE} (h : PE X e t) (w : ∀ σ H Q, u σ H Q → t σ H Q) : PE X e u := ⟨fun pins s σ H Q I q => h.run pins s σ H Q I (w _ _ _ q)⟩
theorem PTw {e : Expr} {t u : TT} (h : PT X e t) (w : ∀ σ H Q, u σ H Q → t σ H Q) : PT X e u := ⟨fun pins s σ H Q I q => h.run pins s σ H Q I (w _ _ _ q)⟩
theorem PWw {e : Expr} {t u : TT} (h : PW X e t) (w : ∀ σ H Q, u σ H Q → t σ H Q) : PW X e u := ⟨fun wh pins s σ H Q I q => h.run wh pins s σ H Q I (w _ _ _ q)⟩
theorem PAw {e : List Expr} {t u : TA} (h : PA X e t) (w : ∀ σ H Q, u σ H Q → t σ H Q) : PA X e u := ⟨fun po pins s σ H Q I q => h.run po pins s σ H Q I (w _ _ _ q)⟩
theorem PSw {e : Stmt} {t u : TS} (h : PS X e t) (w : ∀ D σ H, u D σ H → t D σ H) : PS X e u := ⟨fun pins s σ H D I q => h.run pins s σ H D I (w _ _ _ q)⟩
theorem PSsw {e : List Stmt} {t u : TS} (h : PSs X e t) (w : ∀ D σ H, u D σ H → t D σ H) : PSs X e u := ⟨fun pins s σ H D I q => h.run pins s σ H D I (w _ _ _ q)⟩
theorem PGw {e : Expr} {t u : TG} (h : PG X e t) (w : ∀ v σ H Q, u v σ H Q → t v σ H Q) : PG X e u := ⟨fun pins s σ H v z Q I r q => h.run pins s σ H v z Q I r (w _ _ _ _ q)⟩
theorem PIw {g e : Expr} {t u : TI} (h : PI X g e t) (w : ∀ σ H Q, u σ H Q → t σ H Q) : PI X g e u := ⟨fun pins s σ H Q I q => h.run pins s σ H Q I (w _ _ _ q)⟩
end

/-! ### the judgements -/
abbrev gx (X : Cx) (ex : Option (Nat × Addr × Addr × Str)) : Gx := ⟨X.K, X.mg, ex⟩
abbrev Ex := Option (Nat × Addr × Addr × Str)
def SE (X : Cx) (ex : Ex) (W : WX) (e : Expr) (m : M FT) : Prop := PE X e (cG (gx X ex) W (RF (gx X ex)) m)
def ST (X : Cx) (ex : Ex) (W : WX) (e : Expr) (m : M Bool) : Prop := PT X e (cG (gx X ex) W RB m)
def SW (X : Cx) (ex : Ex) (W : WX) (e : Expr) (m : M Bool) : Prop := PW X e (cG (gx X ex) W RB m)
def SA (X : Cx) (ex : Ex) (W : WX) (es : List Expr) (m : M (List FT)) : Prop := PA X es (cG (gx X ex) W (RFs (gx X ex)) m)

/-! ### freezing -/
def allT : List VD → Option (List T)
  | [] => some []
  | .pure t :: r => (allT r).map (t :: ·)
  | _ :: _ => none
def mkL (ds : List VD) : VD := match allT ds with
  | some ts => .pure (.lst ts)
  | none => .lst ds
def mkTup (ds : List VD) : VD := match allT ds with
  | some ts => .pure (.tup ts)
  | none => .tup ds
mutual
def fz : FT → VD
  | .val d => d
  | .new fs => mkL (fzs fs)
def fzs : List FT → List VD
  | [] => []
  | f :: r => fz f :: fzs r
end
theorem fzs_map : ∀ fs : List FT, fzs fs = fs.map fz
  | [] => by simp [fzs]
  | f :: r => by rw [fzs, fzs_map r, List.map_cons]
theorem fzs_len (fs : List FT) : (fzs fs).length = fs.length := by rw [fzs_map, List.length_map]
theorem allT_pure : ∀ ts : List T, allT (ts.map VD.pure) = some ts
  | [] => rfl
  | t :: r => by show (allT (r.map VD.pure)).map (t :: ·) = _; rw [allT_pure r]; rfl
theorem allT_len : ∀ {ds : List VD} {ts : List T}, allT ds = some ts → ds = ts.map VD.pure
  | [], ts, h => by cases h; rfl
  | .pure t :: r, ts, h => by
    have h' : (allT r).map (t :: ·) = some ts := h
    cases e : allT r with
    | none => rw [e] at h'; cases h'
    | some us =>
      rw [e] at h'
      cases h'
      rw [allT_len e]; rfl
  | .cell _ :: r, ts, h => by cases h
  | .lst _ :: r, ts, h => by cases h
  | .tup _ :: r, ts, h => by cases h
theorem fzs_valpure (ts : List T) : fzs (ts.map fun t => FT.val (.pure t)) = ts.map VD.pure := by
  rw [fzs_map, List.map_map]; rfl
/-- a new list of trees -/
abbrev nw (ts : List T) : FT := .new (ts.map fun t => .val (.pure t))
abbrev vl (t : T) : FT := .val (.pure t)
theorem fz_nw (ts : List T) : fz (nw ts) = .pure (.lst ts) := by
  show mkL (fzs _) = _
  rw [fzs_valpure]; unfold mkL; rw [allT_pure]
section
variable {K : PySem.W.Frag} {F F' : Hp} {A : List Addr} {H : Hp}
theorem mkL_rep {a : Addr} {vs : List V} {ds : List VD} (h : F a = some (.lst vs)) (z : ds.length ≤ sizeLine) (r : RepVs K F A vs ds) : RepV K F A (.ref a) (mkL ds) := by
  unfold mkL
  cases e : allT ds with
  | none => exact .lst h z r
  | some ts =>
    have e2 := allT_len e
    subst e2
    exact .pure (.lst h (by simpa using z) r.toT)
theorem mkTup_rep {a : Addr} {vs : List V} {ds : List VD} (h : SqT K F a vs) (z : ds.length ≤ sizeLine) (r : RepVs K F A vs ds) : RepV K F A (.ref a) (mkTup ds) := by
  unfold mkTup
  cases e : allT ds with
  | none => exact .tup h z r
  | some ts =>
    have e2 := allT_len e
    subst e2
    exact .pure (.tup h (by simpa using z) r.toT)
mutual
theorem RepP.fz (e : Same F F') : ∀ {P : List Addr} {v : V} {f : FT}, RepP K F A H P v f → (∀ p ∈ P, F' p = H p) → RepV K F' A v (Ob.fz f)
  | _, _, _, .val h, _ => by rw [Ob.fz]; exact h.mono e fun _ _ z => z
  | _, _, _, @RepP.new _ _ _ _ p P vs fs h hf ha z r, k => by
    rw [Ob.fz]
    refine mkL_rep (vs := vs) ?_ (by rw [fzs_len]; exact z) (RepPs.fz e r fun q hq => k q (List.mem_cons_of_mem _ hq))
    rw [k p List.mem_cons_self]; exact h
theorem RepPs.fz (e : Same F F') : ∀ {P : List Addr} {vs : List V} {fs : List FT}, RepPs K F A H P vs fs → (∀ p ∈ P, F' p = H p) → RepVs K F' A vs (Ob.fzs fs)
  | _, _, _, .nil, _ => by rw [Ob.fzs]; exact .nil
  | _, _, _, .cons h r, k => by
    rw [Ob.fzs]
    exact .cons (RepP.fz e h fun q hq => k q (List.mem_append_left _ hq)) (RepPs.fz e r fun q hq => k q (List.mem_append_right _ hq))
end
/-- F with the nodes P frozen as they stand in H -/
def fzF (F H : Hp) (P : List Addr) : Hp := fun b => if b ∈ P then H b else F b
theorem fzF_same {P : List Addr} (n : ∀ p ∈ P, F p = none) : Same F (fzF F H P) := fun b o h => by
  unfold fzF
  by_cases m : b ∈ P
  · rw [n b m] at h; cases h
  · rw [if_neg m]; exact h
theorem fzF_in {P : List Addr} {b : Addr} (m : b ∈ P) : fzF F H P b = H b := by unfold fzF; rw [if_pos m]
theorem fzF_out {P : List Addr} {b : Addr} (m : b ∉ P) : fzF F H P b = F b := by unfold fzF; rw [if_neg m]
theorem fzF_le {P : List Addr} (h : Same F H) : Same (fzF F H P) H := fun b o e => by
  unfold fzF at e
  by_cases m : b ∈ P
  · rw [if_pos m] at e; exact e
  · rw [if_neg m] at e; exact h b o e
end
section
variable {G : Gx} {F F0 : Hp} {A A0 : List Addr} {H H0 : Hp} {st : SS} {σ : L2.St}
theorem Rel.fzF (rel : Rel G F A st σ H) {P : List Addr} (n : ∀ p ∈ P, F p = none ∧ p ∉ A) : Rel G (Ob.fzF F H P) A st σ H := by
  have e : Same F (Ob.fzF F H P) := fzF_same fun p hp => (n p hp).1
  refine ⟨fzF_le rel.fh, rel.nd, rel.len, rel.sl, rel.tr, fun k a c ha hc => ?_, fun i d hd => ?_, fun i a dd f hx => ?_⟩
  · obtain ⟨h1, vs, h2, z, h3⟩ := rel.cel k a c ha hc
    have na : a ∉ P := fun m => (n a m).2 (List.mem_of_getElem? ha)
    exact ⟨by rw [fzF_out na]; exact h1, vs, h2, z, h3.mono e fun _ _ z => z⟩
  · obtain ⟨v, h1, h2⟩ := rel.slt i d hd
    exact ⟨v, h1, h2.mono e fun _ _ z => z⟩
  · obtain ⟨h1, v, d, h2, h3, h4⟩ := rel.exn i a dd f hx
    exact ⟨h1, v, d, e _ _ h2, h3, h4.mono e fun _ _ z => z⟩
theorem Step.fzF (s : Step F0 A0 H0 F A H) {P : List Addr} (n : ∀ p ∈ P, F p = none) (z : ∀ p ∈ P, H0 p = none) : Step F0 A0 H0 (Ob.fzF F H P) A H where
  ex := s.ex.trans (fzF_same n)
  pre := s.pre
  new := fun b o q => by
    by_cases m : b ∈ P
    · exact .inr (.inl (z b m))
    · rw [fzF_out m] at q; exact s.new b o q
  keep := s.keep
  dom := s.dom
theorem RFs.freeze (s : Step F0 A0 H0 F A H) (rel : Rel G F A st σ H) {vs : List V} {fs : List FT} (h : RFs G H0 F A H vs fs) :
    ∃ F', Step F0 A0 H0 F' A H ∧ Same F F' ∧ Rel G F' A st σ H ∧ RepVs G.K F' A vs (fs.map fz) := by
  obtain ⟨P, r, nd, z⟩ := h
  have nn := r.nodes
  refine ⟨Ob.fzF F H P, s.fzF (fun p hp => (nn p hp).2.1) z, fzF_same fun p hp => (nn p hp).2.1, rel.fzF fun p hp => (nn p hp).2, ?_⟩
  rw [← fzs_map]
  exact r.fz (fzF_same fun p hp => (nn p hp).2.1) fun p hp => fzF_in hp
theorem RF.freeze (s : Step F0 A0 H0 F A H) (rel : Rel G F A st σ H) {v : V} {f : FT} (h : RF G H0 F A H v f) :
    ∃ F', Step F0 A0 H0 F' A H ∧ Same F F' ∧ Rel G F' A st σ H ∧ RepV G.K F' A v (Ob.fz f) := by
  obtain ⟨P, r, nd, z⟩ := h
  have nn := r.nodes
  exact ⟨Ob.fzF F H P, s.fzF (fun p hp => (nn p hp).2.1) z, fzF_same fun p hp => (nn p hp).2.1, rel.fzF fun p hp => (nn p hp).2, r.fz (fzF_same fun p hp => (nn p hp).2.1) fun p hp => fzF_in hp⟩
end

/-! ### reading as a tree, by the whole heap -/
mutual
def rsV (s : List (Option Cell)) : Nat → VD → Option T
  | _, .pure t => some t
  | n + 1, .cell k => match s[k]? with
    | some (some c) => (c.mapM (rsV s n)).map T.lst
    | _ => none
  | n + 1, .lst ds => (ds.mapM (rsV s n)).map T.lst
  | n + 1, .tup ds => (ds.mapM (rsV s n)).map T.tup
  | 0, .cell _ => none
  | 0, .lst _ => none
  | 0, .tup _ => none
end
def rsF (s : List (Option Cell)) : Nat → FT → Option T
  | n, .val d => rsV s n d
  | n + 1, .new fs => (fs.mapM (rsF s n)).map T.lst
  | 0, .new _ => none
section
variable {G : Gx} {F : Hp} {A : List Addr} {H : Hp} {st : SS} {σ : L2.St}
theorem RepVs.mapM {K : PySem.W.Frag} {g : VD → Option T} (ih : ∀ v d t, RepV K F A v d → g d = some t → RepT K H v t) : ∀ {vs : List V} {ds : List VD} {ts : List T}, RepVs K F A vs ds → ds.mapM g = some ts → RepTs K H vs ts
  | _, _, ts, .nil, e => by
    simp only [List.mapM_nil] at e
    cases e; exact .nil
  | _, _, ts, @RepVs.cons _ _ _ v vs d ds h r, e => by
    simp only [List.mapM_cons] at e
    cases e1 : g d with
    | none => rw [e1] at e; cases e
    | some t =>
      rw [e1] at e
      cases e2 : ds.mapM g with
      | none => rw [e2] at e; cases e
      | some us =>
        rw [e2] at e
        cases e
        exact .cons (ih _ _ _ h e1) (RepVs.mapM ih r e2)
theorem mapM_len {α β : Type} {g : α → Option β} : ∀ {ds : List α} {ts : List β}, ds.mapM g = some ts → ts.length = ds.length
  | [], ts, e => by simp only [List.mapM_nil] at e; cases e; rfl
  | d :: ds, ts, e => by
    simp only [List.mapM_cons] at e
    cases e1 : g d with
    | none => rw [e1] at e; cases e
    | some t =>
      rw [e1] at e
      cases e2 : ds.mapM g with
      | none => rw [e2] at e; cases e
      | some us =>
        rw [e2] at e
        cases e
        rw [List.length_cons, List.length_cons, mapM_len e2]
theorem Rel.rsV (rel : Rel G F A st σ H) : ∀ (n : Nat) (v : V) (d : VD) (t : T), RepV G.K F A v d → Ob.rsV st.s n d = some t → RepT G.K H v t
  | 0, _, .pure t, t', .pure h, e => by cases e; exact h.mono rel.fh
  | n + 1, _, .pure t, t', .pure h, e => by cases e; exact h.mono rel.fh
  | n + 1, _, .cell k, t, .cell ha, e => by
    unfold Ob.rsV at e
    cases e1 : st.s[k]? with
    | none => rw [e1] at e; cases e
    | some oc =>
      cases oc with
      | none => rw [e1] at e; cases e
      | some c =>
        rw [e1] at e
        obtain ⟨_, vs, h2, z, h3⟩ := rel.cel k _ c ha e1
        have e' : (c.mapM (Ob.rsV st.s n)).map T.lst = some t := e
        cases e2 : c.mapM (Ob.rsV st.s n) with
        | none => rw [e2] at e'; cases e'
        | some ts =>
          rw [e2] at e'
          cases e'
          exact .lst h2 (by rw [mapM_len e2]; exact z) (RepVs.mapM (Rel.rsV rel n) h3 e2)
  | n + 1, _, .lst ds, t, .lst h z r, e => by
    unfold Ob.rsV at e
    cases e2 : ds.mapM (Ob.rsV st.s n) with
    | none => rw [e2] at e; cases e
    | some ts =>
      rw [e2] at e
      cases e
      exact .lst (rel.fh _ _ h) (by rw [mapM_len e2]; exact z) (RepVs.mapM (Rel.rsV rel n) r e2)
  | n + 1, _, .tup ds, t, .tup h z r, e => by
    unfold Ob.rsV at e
    cases e2 : ds.mapM (Ob.rsV st.s n) with
    | none => rw [e2] at e; cases e
    | some ts =>
      rw [e2] at e
      cases e
      exact .tup (seqT rel.fh h) (by rw [mapM_len e2]; exact z) (RepVs.mapM (Rel.rsV rel n) r e2)
theorem RepPs.mapM {K : PySem.W.Frag} {g : FT → Option T} (ih : ∀ P v d t, RepP K F A H P v d → g d = some t → RepT K H v t) : ∀ {P : List Addr} {vs : List V} {ds : List FT} {ts : List T}, RepPs K F A H P vs ds → ds.mapM g = some ts → RepTs K H vs ts
  | _, _, _, ts, .nil, e => by
    simp only [List.mapM_nil] at e
    cases e; exact .nil
  | _, _, _, ts, @RepPs.cons _ _ _ _ P Q v vs d ds h r, e => by
    simp only [List.mapM_cons] at e
    cases e1 : g d with
    | none => rw [e1] at e; cases e
    | some t =>
      rw [e1] at e
      cases e2 : ds.mapM g with
      | none => rw [e2] at e; cases e
      | some us =>
        rw [e2] at e
        cases e
        exact .cons (ih _ _ _ _ h e1) (RepPs.mapM ih r e2)
theorem Rel.rsF (rel : Rel G F A st σ H) : ∀ (n : Nat) (P : List Addr) (v : V) (d : FT) (t : T), RepP G.K F A H P v d → Ob.rsF st.s n d = some t → RepT G.K H v t
  | n, _, _, .val d, t, .val h, e => rel.rsV n _ d t h (by unfold Ob.rsF at e; exact e)
  | n + 1, _, _, .new fs, t, .new h hf ha z r, e => by
    unfold Ob.rsF at e
    cases e2 : fs.mapM (Ob.rsF st.s n) with
    | none => rw [e2] at e; cases e
    | some ts =>
      rw [e2] at e
      cases e
      exact .lst h (by rw [mapM_len e2]; exact z) (RepPs.mapM (Rel.rsF rel n) r e2)
/-- a value read as a tree -/
def rd (f : FT) : M T := fun st => match Ob.rsF st.s 5 f with
  | some t => .ok t st
  | none => .stuck
theorem Out.rd {γ δ : Type} {W : WX} {f : FT} {k : T → M γ} {R : Hp → List Addr → Hp → δ → γ → Prop} {Q : δ → Hp → Prop} {v : V} {H0 : Hp} (h : Out G W R F A σ H (bd (Ob.rd f) k st) Q) (rel : Rel G F A st σ H) (r : RF G H0 F A H v f) :
    ∃ t, Ob.rsF st.s 5 f = some t ∧ RepT G.K H v t ∧ Out G W R F A σ H (k t st) Q := by
  unfold bd Ob.rd at h
  cases e : Ob.rsF st.s 5 f with
  | none => rw [e] at h; exact h.elim
  | some t =>
    rw [e] at h
    obtain ⟨P, rp, _, _⟩ := r
    exact ⟨t, rfl, rel.rsF 5 P v f t rp e, h⟩
end
end Ob
/-! # Ob3: expressions: names, constants, operators, tests -/
namespace Ob
open PySem PySem.Spec PyProof.Rows L2

section
variable {X : Cx} {ex : Ex} {W : WX} {a b c e : Expr} {ma mb mc : M FT} {pos : Pos}

/-! ### constants and names -/
theorem se_c {t : T} {v : V} (h : PE X e (tC v)) (r : ∀ F, RepT X.K F v t) : SE X ex W e (rt (vl t)) := PEw h fun σ H Q ⟨F, A, st, rel, o⟩ => Out.done o rel (RF.val (.pure (r F)))
theorem se_int {i : Int} {j} : SE X ex W (.Constant (.int i) j pos) (rt (vl (.int i))) := se_c pe_int fun _ => .int i
theorem se_bl {i : Bool} {j} : SE X ex W (.Constant (.bool i) j pos) (rt (vl (.bl i))) := se_c pe_bl fun _ => .bl i
theorem se_non {j} : SE X ex W (.Constant .none j pos) (rt (vl .non)) := se_c pe_non fun _ => .non
theorem se_str {x : Str} {s : List Nat} {j} (h : x = ⟨s.toArray⟩) (z : s.length ≤ 1000000) (ok : SOK s = true) : SE X ex W (.Constant (.str x) j pos) (rt (vl (.str s))) := by
  subst h
  exact se_c pe_str fun _ => .str s (Nat.le_trans z (by decide)) ok
/-- a global constant -/
theorem se_glob {x : Str} {t : T} {v : V} {u : Value} (hg : Gl X x) (hm : X.mg x = some u) (r : RelV v u) (rr : ∀ F, RepT X.K F v t) (hd : (x == ("__debug__" : Str)) = false := by decide) : SE X ex W (.Name x pos) (rt (vl t)) := se_c (pe_glob hg hm r hd) rr
/-- the name in slot i -/
def mv (i : Nat) : M FT := fun st => match st.d[i]? with
  | some (some d) => .ok (.val d) st
  | _ => .stuck
theorem se_var {i : Nat} (h : PE X e (tVar i)) : SE X ex W e (mv i) := PEw h fun σ H Q ⟨F, A, st, rel, o⟩ => by
  unfold mv at o
  cases h1 : st.d[i]? with
  | none => rw [h1] at o; exact o.elim
  | some od =>
    cases od with
    | none => rw [h1] at o; exact o.elim
    | some d =>
      rw [h1] at o
      obtain ⟨v, hv, rv⟩ := rel.slt i d h1
      exact ⟨v, hv, Out.done o rel (RF.val rv)⟩

/-! ### two operands, one -/
/-- an operation on what is handed on: r is what the value rule asks -/
def OpS (X : Cx) (ex : Ex) (W : WX) (r : R2) (op : FT → FT → M FT) : Prop := ∀ (F : Hp) (A : List Addr) (σ : L2.St) (H H0 : Hp) (F0 : Hp) (A0 : List Addr) (st : SS) (v u : V) (x y : FT) (Q : VK), Step F0 A0 H0 F A H → Rel (gx X ex) F A st σ H → RFs (gx X ex) H0 F A H [v, u] [x, y] →
  Out (gx X ex) W (RF (gx X ex) H0) F A σ H (op x y st) Q → r v u H Q
def UnS (X : Cx) (ex : Ex) (W : WX) (r : V → Hp → VK → Prop) (op : FT → M FT) : Prop := ∀ (F : Hp) (A : List Addr) (σ : L2.St) (H H0 : Hp) (F0 : Hp) (A0 : List Addr) (st : SS) (v : V) (x : FT) (Q : VK), Step F0 A0 H0 F A H → Rel (gx X ex) F A st σ H → RF (gx X ex) H0 F A H v x →
  Out (gx X ex) W (RF (gx X ex) H0) F A σ H (op x st) Q → r v H Q
theorem RFs.two' {G : Gx} {F0 F1 F2 : Hp} {A0 A1 A2 : List Addr} {H0 H1 H2 : Hp} {v u : V} {x y : FT} (s1 : Step F0 A0 H0 F1 A1 H1) (s2 : Step F1 A1 H1 F2 A2 H2) (r1 : RF G H0 F1 A1 H1 v x) (r2 : RF G H1 F2 A2 H2 u y) : RFs G H0 F2 A2 H2 [v, u] [x, y] := by
  refine RFs.cons s1 s2 r1 ?_
  obtain ⟨P, p, n, z⟩ := r2
  exact ⟨P ++ [], .cons p .nil, by rw [List.append_nil]; exact n, by rw [List.append_nil]; exact z⟩
def m2 (op : FT → FT → M FT) (ma mb : M FT) : M FT := bd ma fun x => bd mb fun y => op x y
def m1 (op : FT → M FT) (ma : M FT) : M FT := bd ma fun x => op x
theorem op2 {r : R2} {op : FT → FT → M FT} (ho : OpS X ex W r op) {σ : L2.St} {H : Hp} {Q : VK} (h : cG (gx X ex) W (RF (gx X ex)) (m2 op ma mb) σ H Q) : tOp r (cG (gx X ex) W (RF (gx X ex)) ma) (cG (gx X ex) W (RF (gx X ex)) mb) σ H Q := by
  obtain ⟨F, A, st, rel, o⟩ := h
  refine ⟨F, A, st, rel, Out.bind o fun v x F1 A1 H1 st1 s1 rel1 r1 o1 => ?_⟩
  refine ⟨F1, A1, st1, rel1, Out.bind o1 fun u y F2 A2 H2 st2 s2 rel2 r2 o2 => ?_⟩
  exact ho F2 A2 σ H2 H F A st2 v u x y Q (s1.trans s2) rel2 (RFs.two' s1 s2 r1 r2) o2
theorem se_op {op : Operator} {r : R2} {f : FT → FT → M FT} (hr : OpR X (binaryOp op) r) (ho : OpS X ex W r f) (ha : SE X ex W a ma) (hb : SE X ex W b mb) : SE X ex W (.BinOp a op b pos) (m2 f ma mb) := PEw (pe_op hr ha hb) fun _ _ _ h => op2 ho h
theorem se_cmp {op : CmpOp} {r : R2} {f : FT → FT → M FT} (hr : OpR X (compareOp op) r) (ho : OpS X ex W r f) (ha : SE X ex W a ma) (hb : SE X ex W b mb) (hm : behindInMarks op b = false) : SE X ex W (.Compare a [op] [b] pos) (m2 f ma mb) := PEw (pe_cmpR hr ha hb hm) fun _ _ _ h => op2 ho h
theorem se_un {op : UnaryOp} {r : V → Hp → VK → Prop} {f : FT → M FT} (hr : UnR X (unaryOp op) r) (ho : UnS X ex W r f) (ha : SE X ex W a ma) : SE X ex W (.UnaryOp op a pos) (m1 f ma) := PEw (pe_un hr ha) fun σ H Q ⟨F, A, st, rel, o⟩ =>
  ⟨F, A, st, rel, Out.bind o fun v x F1 A1 H1 st1 s1 rel1 r1 o1 => ho F1 A1 σ H1 H F A st1 v x Q s1 rel1 r1 o1⟩
/-- a value that must be a truth value -/
def tb (x : FT) : M Bool := match x with
  | .val (.pure (.bl k)) => rt k
  | _ => stuck
theorem Out.tb {γ δ : Type} {G : Gx} {F : Hp} {A : List Addr} {σ : L2.St} {H H0 : Hp} {st : SS} {x : FT} {k : Bool → M γ} {R : Hp → List Addr → Hp → δ → γ → Prop} {Q : δ → Hp → Prop} {v : V} (h : Out G W R F A σ H (bd (Ob.tb x) k st) Q) (r : RF G H0 F A H v x) :
    ∃ c, v = .bl c ∧ Out G W R F A σ H (k c st) Q := by
  unfold Ob.tb at h
  split at h
  · have r' := RF.ofVal r
    cases r' with
    | pure r' =>
      cases r' with
      | bl c => exact ⟨_, rfl, h⟩
  · exact h.elim
/-! ### tests -/
theorem st_cmp {op : CmpOp} {r : R2} {f : FT → FT → M FT} (hr : OpR X (compareOp op) r) (ho : OpS X ex W r f) (ha : SE X ex W a ma) (hb : SE X ex W b mb) (hm : behindInMarks op b = false) : ST X ex W (.Compare a [op] [b] pos) (bd (m2 f ma mb) tb) := by
  refine PTw (pt_cmpR hr ha hb hm) fun σ H Q h => ?_
  have h2 : cG (gx X ex) W (RF (gx X ex)) (m2 f ma mb) σ H (fun x H' => ∃ k, x = .bl k ∧ Q k H') := by
    obtain ⟨F, A, st, rel, o⟩ := h
    refine ⟨F, A, st, rel, Out.bind o fun v x F1 A1 H1 st1 s1 rel1 r1 o1 => ?_⟩
    have o1' : Out (gx X ex) W (RB H) F1 A1 σ H1 (bd (tb x) rt st1) Q := by
      have e : bd (tb x) rt = tb x := by
        funext st
        unfold bd rt
        cases tb x st <;> rfl
      rw [e]; exact o1
    obtain ⟨k, rfl, o2⟩ := o1'.tb r1
    exact ⟨k, rfl, Out.done o2 rel1 rfl⟩
  exact op2 ho h2
/-- a value's truth -/
def tru (x : FT) : M Bool := match x with
  | .val (.pure .non) => rt false
  | .val (.pure (.bl k)) => rt k
  | .val (.pure (.int i)) => rt (i != 0)
  | .val (.pure (.str s)) => rt (!s.isEmpty)
  | .val (.pure (.lst s)) => rt (!s.isEmpty)
  | .val (.pure (.tup s)) => rt (!s.isEmpty)
  | _ => stuck
theorem rts_empty {K : PySem.W.Frag} {F : Hp} {vs : List V} {ts : List T} (r : RepTs K F vs ts) : (!ts.isEmpty) = !vs.isEmpty := by cases r <;> rfl
theorem Rel.tru {F : Hp} {A : List Addr} {σ : L2.St} {H H0 : Hp} {st : SS} {x : FT} {v : V} {Q : Bool → Hp → Prop} (rel : Rel (gx X ex) F A st σ H) (r : RF (gx X ex) H0 F A H v x) (o : Out (gx X ex) W (RB H0) F A σ H (Ob.tru x st) Q) : ∃ k, TruV X.K v H k ∧ Q k H := by
  unfold Ob.tru at o
  split at o
  · have r' := RF.ofVal r
    cases r' with
    | pure r' => cases r' with | non => exact ⟨false, rfl, Out.done o rel rfl⟩
  · have r' := RF.ofVal r
    cases r' with
    | pure r' => cases r' with | bl k => exact ⟨_, rfl, Out.done o rel rfl⟩
  · have r' := RF.ofVal r
    cases r' with
    | pure r' => cases r' with | int i => exact ⟨_, rfl, Out.done o rel rfl⟩
  · rename_i s
    have r' := RF.ofVal r
    cases r' with
    | pure r' =>
      cases r' with
      | str _ z ok =>
        refine ⟨_, ⟨?_, ?_⟩, Out.done o rel rfl⟩
        · show s.toArray.size ≤ _
          simpa using z
        · show (!s.isEmpty) = ((s.toArray.size : Int) != 0)
          cases s with
          | nil => rfl
          | cons x r =>
            show true = _
            simp [bne]
            omega
  · have r' := RF.ofVal r
    cases r' with
    | pure r' => cases r' with | lst h z rr => exact ⟨_, .inl ⟨_, SqL.of (rel.fh _ _ h), rts_empty rr⟩, Out.done o rel rfl⟩
  · have r' := RF.ofVal r
    cases r' with
    | pure r' => cases r' with | tup h z rr => exact ⟨_, .inr (.inl ⟨_, seqT rel.fh h, rts_empty rr⟩), Out.done o rel rfl⟩
  · exact o.elim
/-- an expression (no comparison, no and, or, not) as a test -/
theorem st_tru (ha : SE X ex W a ma) (he : ∀ whole, isTrue a X.env whole = (do let v ← whole; standAt a.pos; holding [v] (truthy v)) := by intro _; rfl) : ST X ex W a (bd ma tru) :=
  PTw (pt_truth ha he) fun σ H Q ⟨F, A, st, rel, o⟩ => ⟨F, A, st, rel, Out.bind o fun v x F1 A1 H1 st1 s1 rel1 r1 o1 => rel1.tru r1 o1⟩
def tAndM (ma mb : M Bool) : M Bool := bd ma fun k => if k = true then mb else rt false
def tOrM (ma mb : M Bool) : M Bool := bd ma fun k => if k = true then rt true else mb
def tNotM (ma : M Bool) : M Bool := bd ma fun k => rt (!k)
variable {na nb : M Bool} {rest : List Expr}
theorem st_not (ha : ST X ex W a na) : ST X ex W (.UnaryOp .Not a pos) (tNotM na) :=
  PTw (pt_not ha) fun σ H Q ⟨F, A, st, rel, o⟩ => ⟨F, A, st, rel, Out.bind o fun v x F1 A1 H1 st1 s1 rel1 r1 o1 => by
    have r1' : v = x := r1
    subst r1'
    exact Out.done o1 rel1 rfl⟩
theorem sw_and1 (ha : ST X ex W a na) : SW X ex W (.BoolOp .And [a] pos) na := pw_and1 ha
theorem sw_or1 (ha : ST X ex W a na) : SW X ex W (.BoolOp .Or [a] pos) na := pw_or1 ha
theorem sw_and (ha : ST X ex W a na) (hb : SW X ex W (.BoolOp .And (b :: rest) pos) nb) : SW X ex W (.BoolOp .And (a :: b :: rest) pos) (tAndM na nb) :=
  PWw (pw_and ha hb) fun σ H Q ⟨F, A, st, rel, o⟩ => ⟨F, A, st, rel, Out.bind o fun v x F1 A1 H1 st1 s1 rel1 r1 o1 => by
    have r1' : v = x := r1
    subst r1'
    cases v with
    | true => exact ⟨F1, A1, st1, rel1, o1⟩
    | false => exact Out.done o1 rel1 rfl⟩
theorem sw_or (ha : ST X ex W a na) (hb : SW X ex W (.BoolOp .Or (b :: rest) pos) nb) : SW X ex W (.BoolOp .Or (a :: b :: rest) pos) (tOrM na nb) :=
  PWw (pw_or ha hb) fun σ H Q ⟨F, A, st, rel, o⟩ => ⟨F, A, st, rel, Out.bind o fun v x F1 A1 H1 st1 s1 rel1 r1 o1 => by
    have r1' : v = x := r1
    subst r1'
    cases v with
    | false => exact ⟨F1, A1, st1, rel1, o1⟩
    | true => exact Out.done o1 rel1 rfl⟩
theorem st_w (h : SW X ex W a na) : ST X ex W a na := PW.pt h
/-! ### and, or, not as values: all but the last truth values -/
def mAnd (ma mb : M FT) : M FT := bd ma fun x => bd (tb x) fun k => if k = true then mb else rt (vl (.bl false))
def mOr (ma mb : M FT) : M FT := bd ma fun x => bd (tb x) fun k => if k = true then rt (vl (.bl true)) else mb
def mNot (ma : M FT) : M FT := bd ma fun x => bd (tb x) fun k => rt (vl (.bl (!k)))
def mIf (c : M Bool) (ma mb : M FT) : M FT := bd c fun k => if k = true then ma else mb
theorem se_one {op} (h : SE X ex W a ma) : SE X ex W (.BoolOp op [a] pos) ma := pe_one h
/-- an outcome of a later part, told from its own start -/
theorem cG.of {m : M FT} {σ : L2.St} {H H0 : Hp} {F F0 : Hp} {A A0 : List Addr} {st : SS} {Q : VK} (s : Step F0 A0 H0 F A H) (rel : Rel (gx X ex) F A st σ H) (o : Out (gx X ex) W (RF (gx X ex) H0) F A σ H (m st) Q) : cG (gx X ex) W (RF (gx X ex)) m σ H Q := by
  refine ⟨F, A, st, rel, ?_⟩
  cases e : m st with
  | ok f st' =>
    rw [e] at o
    exact fun v F' A' H' s' rel' r' => o v F' A' H' s' rel' (r'.start s)
  | err x st' => rw [e] at o; exact o
  | stuck => rw [e] at o; exact o
theorem se_and (ha : SE X ex W a ma) (hb : SE X ex W (.BoolOp .And (b :: rest) pos) mb) : SE X ex W (.BoolOp .And (a :: b :: rest) pos) (mAnd ma mb) :=
  PEw (pe_and ha hb) fun σ H Q ⟨F, A, st, rel, o⟩ => ⟨F, A, st, rel, Out.bind o fun v x F1 A1 H1 st1 s1 rel1 r1 o1 => by
    obtain ⟨k, rfl, o2⟩ := o1.tb r1
    refine ⟨k, rfl, ?_⟩
    cases k with
    | true => exact cG.of s1 rel1 o2
    | false => exact Out.done o2 rel1 (RF.val (.pure (.bl false)))⟩
theorem se_or (ha : SE X ex W a ma) (hb : SE X ex W (.BoolOp .Or (b :: rest) pos) mb) : SE X ex W (.BoolOp .Or (a :: b :: rest) pos) (mOr ma mb) :=
  PEw (pe_or ha hb) fun σ H Q ⟨F, A, st, rel, o⟩ => ⟨F, A, st, rel, Out.bind o fun v x F1 A1 H1 st1 s1 rel1 r1 o1 => by
    obtain ⟨k, rfl, o2⟩ := o1.tb r1
    refine ⟨k, rfl, ?_⟩
    cases k with
    | false => exact cG.of s1 rel1 o2
    | true => exact Out.done o2 rel1 (RF.val (.pure (.bl true)))⟩
theorem se_not (ha : SE X ex W a ma) : SE X ex W (.UnaryOp .Not a pos) (mNot ma) :=
  PEw (pe_not ha) fun σ H Q ⟨F, A, st, rel, o⟩ => ⟨F, A, st, rel, Out.bind o fun v x F1 A1 H1 st1 s1 rel1 r1 o1 => by
    obtain ⟨k, rfl, o2⟩ := o1.tb r1
    exact ⟨k, rfl, Out.done o2 rel1 (RF.val (.pure (.bl _)))⟩⟩
theorem se_if (hc : ST X ex W c na) (ha : SE X ex W a ma) (hb : SE X ex W b mb) : SE X ex W (.IfExp c a b pos) (mIf na ma mb) :=
  PEw (pe_ifExp hc ha hb) fun σ H Q ⟨F, A, st, rel, o⟩ => ⟨F, A, st, rel, Out.bind o fun v x F1 A1 H1 st1 s1 rel1 r1 o1 => by
    have r1' : v = x := r1
    subst r1'
    cases v with
    | true => exact cG.of s1 rel1 o1
    | false => exact cG.of s1 rel1 o1⟩
/-! ### a < b < c -/
def m3 (op op' : FT → FT → M FT) (ma mb mc : M FT) : M FT := bd ma fun x => bd mb fun y => bd (op x y) fun z => bd (tb z) fun k => if k = true then bd mc fun w => op' y w else rt (vl (.bl false))
theorem op3 {r r' : R2} {op op' : FT → FT → M FT} (ho : OpS X ex W r op) (ho' : OpS X ex W r' op') {σ : L2.St} {H : Hp} {Q : VK} (h : cG (gx X ex) W (RF (gx X ex)) (m3 op op' ma mb mc) σ H Q) :
    tChain r r' (cG (gx X ex) W (RF (gx X ex)) ma) (cG (gx X ex) W (RF (gx X ex)) mb) (cG (gx X ex) W (RF (gx X ex)) mc) σ H Q := by
  obtain ⟨F, A, st, rel, o⟩ := h
  refine ⟨F, A, st, rel, Out.bind o fun v x F1 A1 H1 st1 s1 rel1 r1 o1 => ?_⟩
  refine ⟨F1, A1, st1, rel1, Out.bind o1 fun u y F2 A2 H2 st2 s2 rel2 r2 o2 => ?_⟩
  refine ho F2 A2 σ H2 H F A st2 v u x y _ (s1.trans s2) rel2 (RFs.two' s1 s2 r1 r2) (Out.bind o2 fun z zf F3 A3 H3 st3 s3 rel3 r3 o3 => ?_)
  obtain ⟨k, rfl, o4⟩ := o3.tb r3
  refine ⟨k, rfl, ?_⟩
  cases k with
  | false => exact Out.done o4 rel3 (RF.val (.pure (.bl false)))
  | true =>
    refine ⟨F3, A3, st3, rel3, Out.bind o4 fun w' wf F5 A5 H5 st5 s5 rel5 r5 o5 => ?_⟩
    exact ho' F5 A5 σ H5 H F A st5 u w' y wf Q (((s1.trans s2).trans s3).trans s5) rel5 (RFs.two' ((s1.trans s2).trans s3) s5 ((r2.start s1).step s3) r5) o5
theorem se_chain {op op' : CmpOp} {r r' : R2} {f f' : FT → FT → M FT} (hr : OpR X (compareOp op) r) (ho : OpS X ex W r f) (hr' : OpR X (compareOp op') r') (ho' : OpS X ex W r' f') (ha : SE X ex W a ma) (hb : SE X ex W b mb) (hc : SE X ex W c mc)
    (hm : lastMarks [op, op'] [b, c] = false := by with_unfolding_all rfl) : SE X ex W (.Compare a [op, op'] [b, c] pos) (m3 f f' ma mb mc) := PEw (pe_chain hr hr' ha hb hc hm) fun _ _ _ h => op3 ho ho' h
theorem st_chain {op op' : CmpOp} {r r' : R2} {f f' : FT → FT → M FT} (hr : OpR X (compareOp op) r) (ho : OpS X ex W r f) (hr' : OpR X (compareOp op') r') (ho' : OpS X ex W r' f') (ha : SE X ex W a ma) (hb : SE X ex W b mb) (hc : SE X ex W c mc)
    (hm : lastMarks [op, op'] [b, c] = false := by with_unfolding_all rfl) : ST X ex W (.Compare a [op, op'] [b, c] pos) (bd (m3 f f' ma mb mc) tb) := by
  refine PTw (pt_chain hr hr' ha hb hc hm) fun σ H Q h => ?_
  have h2 : cG (gx X ex) W (RF (gx X ex)) (m3 f f' ma mb mc) σ H (fun x H' => ∃ k, x = .bl k ∧ Q k H') := by
    obtain ⟨F, A, st, rel, o⟩ := h
    refine ⟨F, A, st, rel, Out.bind o fun v x F1 A1 H1 st1 s1 rel1 r1 o1 => ?_⟩
    have o1' : Out (gx X ex) W (RB H) F1 A1 σ H1 (bd (tb x) rt st1) Q := by
      have e : bd (tb x) rt = tb x := by
        funext st
        unfold bd rt
        cases tb x st <;> rfl
      rw [e]; exact o1
    obtain ⟨k, rfl, o2⟩ := o1'.tb r1
    exact ⟨k, rfl, Out.done o2 rel1 rfl⟩
  exact op3 ho ho' h2
end

/-! ### operations on ints -/
def i2 (g : Int → Int → T) (x y : FT) : M FT := match x, y with
  | .val (.pure (.int i)), .val (.pure (.int j)) => rt (vl (g i j))
  | _, _ => stuck
def i2c (C : Int → Int → Bool) (g : Int → Int → T) (x y : FT) : M FT := match x, y with
  | .val (.pure (.int i)), .val (.pure (.int j)) => bd (guard (C i j)) fun _ => rt (vl (g i j))
  | _, _ => stuck
section
variable {X : Cx} {ex : Ex} {W : WX}
theorem RF.int {G : Gx} {H0 F H : Hp} {A : List Addr} {v : V} {i : Int} (h : RF G H0 F A H v (.val (.pure (.int i)))) : v = .int i := by
  have h' := RF.ofVal h
  cases h' with
  | pure r => cases r; rfl
theorem RF.bl {G : Gx} {H0 F H : Hp} {A : List Addr} {v : V} {i : Bool} (h : RF G H0 F A H v (.val (.pure (.bl i)))) : v = .bl i := by
  have h' := RF.ofVal h
  cases h' with
  | pure r => cases r; rfl
theorem RF.str {G : Gx} {H0 F H : Hp} {A : List Addr} {v : V} {i : List Nat} (h : RF G H0 F A H v (.val (.pure (.str i)))) : v = .str ⟨i.toArray⟩ ∧ i.length ≤ sizeLine ∧ SOK i = true := by
  have h' := RF.ofVal h
  cases h' with
  | pure r => cases r with | str s z ok => exact ⟨rfl, z, ok⟩
theorem os_i2 {g : Int → Int → T} {gv : Int → Int → V} (hg : ∀ i j F, RepT X.K F (gv i j) (g i j)) : OpS X ex W (rI0 gv) (i2 g) := by
  intro F A σ H H0 F0 A0 st v u x y Q s rel rr o
  obtain ⟨rx, ry⟩ := rr.two
  unfold i2 at o
  split at o
  · have e1 := rx.int
    have e2 := ry.int
    subst e1 e2
    exact ⟨_, _, rfl, rfl, Out.done o rel (RF.val (.pure (hg _ _ F)))⟩
  · exact o.elim
theorem os_i2c {C : Int → Int → Bool} {D : Int → Int → Prop} {g : Int → Int → T} {gv : Int → Int → V} (hg : ∀ i j F, RepT X.K F (gv i j) (g i j)) (hC : ∀ i j, C i j = true → D i j) : OpS X ex W (rI D gv) (i2c C g) := by
  intro F A σ H H0 F0 A0 st v u x y Q s rel rr o
  obtain ⟨rx, ry⟩ := rr.two
  unfold i2c at o
  split at o
  · have e1 := rx.int
    have e2 := ry.int
    subst e1 e2
    obtain ⟨c, o⟩ := o.guard
    exact ⟨_, _, rfl, rfl, hC _ _ c, Out.done o rel (RF.val (.pure (hg _ _ F)))⟩
  · exact o.elim
variable {a b : Expr} {ma mb : M FT} {pos : Pos}
def oSub := i2 fun i j => .int (i - j)
theorem se_sub (ha : SE X ex W a ma) (hb : SE X ex W b mb) : SE X ex W (.BinOp a .Sub b pos) (m2 oSub ma mb) := se_op op_sub (os_i2 fun i j F => .int _) ha hb
def cMul (i j : Int) : Bool := decide (i.natAbs < 2 ^ 64) || decide (j.natAbs < 2 ^ 64)
theorem cMul_ok {i j : Int} (h : cMul i j = true) : CMul i j := by
  unfold cMul at h
  rcases Bool.or_eq_true _ _ ▸ h with h | h
  · have := of_decide_eq_true h
    exact .inl ⟨by omega, by omega⟩
  · have := of_decide_eq_true h
    exact .inr ⟨by omega, by omega⟩
def oMulI := i2c cMul fun i j => .int (i * j)
theorem se_mulI (ha : SE X ex W a ma) (hb : SE X ex W b mb) : SE X ex W (.BinOp a .Mult b pos) (m2 oMulI ma mb) := se_op op_mul (os_i2c (fun i j F => .int _) fun _ _ => cMul_ok) ha hb
def oMod := i2c (fun _ j => decide (0 < j)) fun i j => .int (i % j)
theorem se_mod (ha : SE X ex W a ma) (hb : SE X ex W b mb) : SE X ex W (.BinOp a .Mod b pos) (m2 oMod ma mb) := se_op op_mod (os_i2c (fun i j F => .int _) fun _ _ h => of_decide_eq_true h) ha hb
def oDiv := i2c (fun _ j => decide (0 < j) && decide (j < 1073741824)) fun i j => .int (i / j)
theorem se_div (ha : SE X ex W a ma) (hb : SE X ex W b mb) : SE X ex W (.BinOp a .FloorDiv b pos) (m2 oDiv ma mb) := se_op op_fdiv (os_i2c (fun i j F => .int _) fun _ _ h => by
  have h' := Bool.and_eq_true _ _ ▸ h
  exact ⟨of_decide_eq_true h'.1, of_decide_eq_true h'.2⟩) ha hb
def oPow := i2c (fun i j => decide (0 ≤ j) && decide (j ≤ 1000000) && decide (i.natAbs < 2 ^ 64)) fun i j => .int (i ^ j.toNat)
theorem se_pow (ha : SE X ex W a ma) (hb : SE X ex W b mb) : SE X ex W (.BinOp a .Pow b pos) (m2 oPow ma mb) := se_op op_pow (os_i2c (fun i j F => .int _) fun _ _ h => by
  have h1 := Bool.and_eq_true _ _ ▸ h
  have h2 := Bool.and_eq_true _ _ ▸ h1.1
  exact ⟨of_decide_eq_true h2.1, of_decide_eq_true h2.2, of_decide_eq_true h1.2⟩) ha hb
def oNeg (x : FT) : M FT := match x with
  | .val (.pure (.int i)) => rt (vl (.int (-i)))
  | _ => stuck
theorem se_neg (ha : SE X ex W a ma) : SE X ex W (.UnaryOp .USub a pos) (m1 oNeg ma) := se_un un_neg (fun F A σ H H0 F0 A0 st v x Q s rel rx o => by
  unfold oNeg at o
  split at o
  · have e1 := rx.int
    subst e1
    exact ⟨_, rfl, Out.done o rel (RF.val (.pure (.int _)))⟩
  · exact o.elim) ha
def oLtI := i2 fun i j => .bl (decide (i < j))
def oLeI := i2 fun i j => .bl (decide (i ≤ j))
def oGtI := i2 fun i j => .bl (decide (j < i))
def oGeI := i2 fun i j => .bl (decide (j ≤ i))
theorem os_lt : OpS X ex W (rI0 fun i j => .bl (decide (i < j))) oLtI := os_i2 fun i j F => .bl _
theorem os_le : OpS X ex W (rI0 fun i j => .bl (decide (i ≤ j))) oLeI := os_i2 fun i j F => .bl _
theorem os_gt : OpS X ex W (rI0 fun i j => .bl (decide (j < i))) oGtI := os_i2 fun i j F => .bl _
theorem os_ge : OpS X ex W (rI0 fun i j => .bl (decide (j ≤ i))) oGeI := os_i2 fun i j F => .bl _
end
end Ob
/-! # Ob4: equality, lists and tuples, texts, calls of built-ins -/
namespace Ob
open PySem PySem.Spec PyProof.Rows L2

/-! ### data as the library has it -/
mutual
def toP : T → PyData
  | .non => .none
  | .bl b => .bool b
  | .int i => .int i
  | .str s => .str ⟨s.toArray⟩
  | .lst ts => .list (toPs ts)
  | .xl ts => .list (toPs ts)
  | .tup ts => .tuple (toPs ts)
  | .dct _ _ => .dict []
def toPs : List T → List PyData
  | [] => []
  | t :: r => toP t :: toPs r
end
mutual
/-- no dict within -/
def nd : T → Bool
  | .lst ts => nds ts
  | .xl ts => nds ts
  | .tup ts => nds ts
  | .dct _ _ => false
  | _ => true
def nds : List T → Bool
  | [] => true
  | t :: r => nd t && nds r
end
mutual
def dep : T → Nat
  | .lst ts => deps ts + 1
  | .xl ts => deps ts + 1
  | .tup ts => deps ts + 1
  | _ => 0
def deps : List T → Nat
  | [] => 0
  | t :: r => max (dep t) (deps r)
end
mutual
theorem dep_toP : ∀ t : T, nd t = true → (toP t).depth = dep t
  | .non, _ => rfl
  | .bl _, _ => rfl
  | .int _, _ => rfl
  | .str _, _ => rfl
  | .lst ts, h => by
    show PyData.depthAll (toPs ts) + 1 = deps ts + 1
    rw [deps_toPs ts h]
  | .xl ts, h => by
    show PyData.depthAll (toPs ts) + 1 = deps ts + 1
    rw [deps_toPs ts h]
  | .tup ts, h => by
    show PyData.depthAll (toPs ts) + 1 = deps ts + 1
    rw [deps_toPs ts h]
  | .dct _ _, h => by cases h
theorem deps_toPs : ∀ ts : List T, nds ts = true → PyData.depthAll (toPs ts) = deps ts
  | [], _ => rfl
  | t :: r, h => by
    have h' : (nd t && nds r) = true := h
    rw [Bool.and_eq_true] at h'
    show max (toP t).depth (PyData.depthAll (toPs r)) = max (dep t) (deps r)
    rw [dep_toP t h'.1, deps_toPs r h'.2]
end
mutual
/-- == -/
def eqT : T → T → Bool
  | .non, .non => true
  | .bl a, .bl b => a == b
  | .bl a, .int j => (if a then 1 else 0) == j
  | .int i, .bl b => i == (if b then 1 else 0)
  | .int i, .int j => i == j
  | .str x, .str y => decide (x = y)
  | .lst xs, .lst ys => eqTs xs ys
  | .lst xs, .xl ys => eqTs xs ys
  | .xl xs, .lst ys => eqTs xs ys
  | .xl xs, .xl ys => eqTs xs ys
  | .tup xs, .tup ys => eqTs xs ys
  | _, _ => false
def eqTs : List T → List T → Bool
  | [], [] => true
  | x :: xs, y :: ys => eqT x y && eqTs xs ys
  | _, _ => false
end
theorem str_beq (x y : List Nat) : ((⟨x.toArray⟩ : Str) == ⟨y.toArray⟩) = decide (x = y) := by
  by_cases e : x = y
  · subst e; simp
  · have : ¬ ((⟨x.toArray⟩ : Str) = ⟨y.toArray⟩) := fun h => e (by injection h with h; simpa using congrArg Array.toList h)
    rw [decide_eq_false e]
    exact beq_eq_false_iff_ne.mpr this
mutual
theorem eqv_toP : ∀ a b : T, nd a = true → nd b = true → PyData.eqv (toP a) (toP b) = eqT a b
  | .non, b, _, hb => by cases b <;> first | rfl | cases hb
  | .bl x, b, _, hb => by cases b <;> first | rfl | cases hb
  | .int x, b, _, hb => by cases b <;> first | rfl | cases hb
  | .str x, b, _, hb => by
    cases b with
    | str y => exact str_beq x y
    | dct _ _ => cases hb
    | _ => rfl
  | .lst xs, b, ha, hb => by
    cases b with
    | lst ys => exact eqvs_toPs xs ys ha hb
    | xl ys => exact eqvs_toPs xs ys ha hb
    | dct _ _ => cases hb
    | _ => rfl
  | .xl xs, b, ha, hb => by
    cases b with
    | lst ys => exact eqvs_toPs xs ys ha hb
    | xl ys => exact eqvs_toPs xs ys ha hb
    | dct _ _ => cases hb
    | _ => rfl
  | .tup xs, b, ha, hb => by
    cases b with
    | tup ys => exact eqvs_toPs xs ys ha hb
    | dct _ _ => cases hb
    | _ => rfl
  | .dct _ _, b, ha, _ => by cases ha
theorem eqvs_toPs : ∀ xs ys : List T, nds xs = true → nds ys = true → PyData.eqvAll (toPs xs) (toPs ys) = eqTs xs ys
  | [], [], _, _ => rfl
  | [], _ :: _, _, _ => rfl
  | _ :: _, [], _, _ => rfl
  | x :: xs, y :: ys, ha, hb => by
    have h1 : (nd x && nds xs) = true := ha
    have h2 : (nd y && nds ys) = true := hb
    rw [Bool.and_eq_true] at h1 h2
    show (PyData.eqv (toP x) (toP y) && PyData.eqvAll (toPs xs) (toPs ys)) = (eqT x y && eqTs xs ys)
    rw [eqv_toP x y h1.1 h2.1, eqvs_toPs xs ys h1.2 h2.2]
end
/-- data that == serves -/
def okT (t : T) : Bool := nd t && decide (dep t ≤ 60)
section
variable {K : PySem.W.Frag} {F : Hp}
mutual
theorem RepT.lay : ∀ {v : V} {t : T}, RepT K F v t → nd t = true → (toP t).canLay0 = true
  | _, _, .non, _ => rfl
  | _, _, .bl _, _ => rfl
  | _, _, .int _, _ => rfl
  | _, _, .str s _ ok, _ => SOK.ok ok
  | _, _, .lst _ _ r, h => RepTs.lay r h
  | _, _, .xl _ _ r, h => RepTs.lay r h
  | _, _, .tup _ _ r, h => RepTs.lay r h
  | _, _, .dnil _, h => by cases h
theorem RepTs.lay : ∀ {vs : List V} {ts : List T}, RepTs K F vs ts → nds ts = true → PyData.canLayAll0 (toPs ts) = true
  | _, _, .nil, _ => rfl
  | _, _, @RepTs.cons _ _ _ _ t ts h r, n => by
    have n' : (nd t && nds ts) = true := n
    rw [Bool.and_eq_true] at n'
    show ((toP t).canLay0 && PyData.canLayAll0 (toPs ts)) = true
    rw [RepT.lay h n'.1, RepTs.lay r n'.2]; rfl
end
mutual
theorem RepT.dp : ∀ {v : V} {t : T}, RepT K F v t → nd t = true → Dp K F v (toP t)
  | _, _, .non, _ => .non
  | _, _, .bl b, _ => .bl b
  | _, _, .int i, _ => .int i
  | _, _, .str s _ ok, _ => .str _
  | _, _, .lst h _ r, n => .lst (SqL.of h) (RepTs.dp r n)
  | _, _, .xl h _ r, n => .lst h (RepTs.dp r n)
  | _, _, .tup h _ r, n => .tup h (RepTs.dp r n)
  | _, _, .dnil _, n => by cases n
theorem RepTs.dp : ∀ {vs : List V} {ts : List T}, RepTs K F vs ts → nds ts = true → DpAll K F vs (toPs ts)
  | _, _, .nil, _ => .nil
  | _, _, @RepTs.cons _ _ _ _ t ts h r, n => by
    have n' : (nd t && nds ts) = true := n
    rw [Bool.and_eq_true] at n'
    exact .cons (RepT.dp h n'.1) (RepTs.dp r n'.2)
end
theorem RepT.shaped {v : V} {t : T} (r : RepT K F v t) (h : okT t = true) : SeqAt.shaped (toP t) = true := by
  unfold okT at h
  rw [Bool.and_eq_true] at h
  show ((toP t).canLay0 && decide ((toP t).depth ≤ 64)) = true
  rw [r.lay h.1, dep_toP t h.1]
  have := of_decide_eq_true h.2
  simp
  omega
end
def oEq (x y : FT) : M FT := bd (rd x) fun a => bd (rd y) fun b => bd (guard (okT a && okT b)) fun _ => rt (vl (.bl (eqT a b)))
def oNe (x y : FT) : M FT := bd (rd x) fun a => bd (rd y) fun b => bd (guard (okT a && okT b)) fun _ => rt (vl (.bl (!eqT a b)))
section
variable {X : Cx} {ex : Ex} {W : WX}
theorem os_eq : OpS X ex W (rEqD X.K) oEq := by
  intro F A σ H H0 F0 A0 st v u x y Q s rel rr o
  obtain ⟨rx, ry⟩ := rr.two
  unfold oEq at o
  obtain ⟨a, ea, ra, o⟩ := Out.rd o rel rx
  obtain ⟨b, eb, rb, o⟩ := Out.rd o rel ry
  obtain ⟨g, o⟩ := o.guard
  rw [Bool.and_eq_true] at g
  have na : nd a = true := by have := g.1; unfold okT at this; rw [Bool.and_eq_true] at this; exact this.1
  have nb : nd b = true := by have := g.2; unfold okT at this; rw [Bool.and_eq_true] at this; exact this.1
  refine ⟨toP a, toP b, ra.dp na, rb.dp nb, ra.shaped g.1, rb.shaped g.2, ?_⟩
  rw [eqv_toP a b na nb]
  exact Out.done o rel (RF.val (.pure (.bl _)))
theorem os_ne : OpS X ex W (rNeD X.K) oNe := by
  intro F A σ H H0 F0 A0 st v u x y Q s rel rr o
  obtain ⟨rx, ry⟩ := rr.two
  unfold oNe at o
  obtain ⟨a, ea, ra, o⟩ := Out.rd o rel rx
  obtain ⟨b, eb, rb, o⟩ := Out.rd o rel ry
  obtain ⟨g, o⟩ := o.guard
  rw [Bool.and_eq_true] at g
  have na : nd a = true := by have := g.1; unfold okT at this; rw [Bool.and_eq_true] at this; exact this.1
  have nb : nd b = true := by have := g.2; unfold okT at this; rw [Bool.and_eq_true] at this; exact this.1
  refine ⟨toP a, toP b, ra.dp na, rb.dp nb, ra.shaped g.1, rb.shaped g.2, ?_⟩
  rw [eqv_toP a b na nb]
  exact Out.done o rel (RF.val (.pure (.bl _)))
end

/-! ### new objects -/
section
variable {G : Gx} {F F0 : Hp} {A A0 : List Addr} {H H0 : Hp} {st : SS} {σ : L2.St}
theorem Step.newH {p : Addr} {o : HO} (n : H p = none) : Step F A H F A (upd H p o) where
  ex := Same.refl F
  pre := ⟨[], by simp, by simp⟩
  new := fun _ _ h => .inl h
  keep := fun b u h _ => by rw [upd_ne (ne_of_none h n)]; exact h
  dom := fun b h => by
    by_cases e : b = p
    · subst e; exact n
    · rw [upd_ne e] at h; exact h
theorem Rel.newH (rel : Rel G F A st σ H) {p : Addr} {o : HO} (n : H p = none) : Rel G F A st σ (upd H p o) := by
  refine ⟨fun b u h => ?_, rel.nd, rel.len, rel.sl, fun a ha => ?_, fun k a c ha hc => ?_, rel.slt, rel.exn⟩
  · rw [upd_ne (ne_of_none (rel.fh b u h) n)]; exact rel.fh b u h
  · obtain ⟨u, hu⟩ := rel.tr a ha
    exact ⟨u, by rw [upd_ne (ne_of_none hu n)]; exact hu⟩
  · obtain ⟨h1, vs, h2, z, h3⟩ := rel.cel k a c ha hc
    exact ⟨h1, vs, by rw [upd_ne (ne_of_none h2 n)]; exact h2, z, h3⟩
theorem Rel.free (rel : Rel G F A st σ H) {p : Addr} (n : H p = none) : F p = none := by
  cases e : F p with
  | none => rfl
  | some o => rw [rel.fh p o e] at n; cases n
theorem Step.newF {p : Addr} {o : HO} (n : H p = none) (nf : F p = none) : Step F A H (upd F p o) A (upd H p o) where
  ex := fun b u h => by rw [upd_ne (ne_of_none h nf)]; exact h
  pre := ⟨[], by simp, by simp⟩
  new := fun b u h => by
    by_cases e : b = p
    · subst e; exact .inr (.inl n)
    · rw [upd_ne e] at h; exact .inl h
  keep := fun b u h _ => by rw [upd_ne (ne_of_none h n)]; exact h
  dom := fun b h => by
    by_cases e : b = p
    · subst e; exact n
    · rw [upd_ne e] at h; exact h
theorem Rel.newF (rel : Rel G F A st σ H) {p : Addr} {o : HO} (n : H p = none) : Rel G (upd F p o) A st σ (upd H p o) := by
  have nf := rel.free n
  have e : Same F (upd F p o) := fun b u h => by rw [upd_ne (ne_of_none h nf)]; exact h
  refine ⟨fun b u h => ?_, rel.nd, rel.len, rel.sl, fun a ha => ?_, fun k a c ha hc => ?_, fun i d hd => ?_, fun i a dd f hx => ?_⟩
  · by_cases q : b = p
    · subst q; rw [upd_same] at h ⊢; exact h
    · rw [upd_ne q] at h; rw [upd_ne q]; exact rel.fh b u h
  · obtain ⟨u, hu⟩ := rel.tr a ha
    exact ⟨u, by rw [upd_ne (ne_of_none hu n)]; exact hu⟩
  · obtain ⟨h1, vs, h2, z, h3⟩ := rel.cel k a c ha hc
    exact ⟨by rw [upd_ne (ne_of_none h2 n)]; exact h1, vs, by rw [upd_ne (ne_of_none h2 n)]; exact h2, z, h3.mono e fun _ _ z => z⟩
  · obtain ⟨v, h1, h2⟩ := rel.slt i d hd
    exact ⟨v, h1, h2.mono e fun _ _ z => z⟩
  · obtain ⟨h1, v, d, h2, h3, h4⟩ := rel.exn i a dd f hx
    exact ⟨h1, v, d, e _ _ h2, h3, h4.mono e fun _ _ z => z⟩
theorem Rel.notA (rel : Rel G F A st σ H) {p : Addr} (n : H p = none) : p ∉ A := fun m => by
  obtain ⟨u, hu⟩ := rel.tr p m
  rw [n] at hu; cases hu
theorem SqL.free {K : PySem.W.Frag} {a : Addr} {vs : List V} (e : Same F H) (h : F a = some (.lst vs)) : SqL K H a vs := SqL.of (e _ _ h)
end

/-! ### argument lists and displays -/
def aNil : M (List FT) := rt []
def aCons (m : M FT) (ms : M (List FT)) : M (List FT) := bd m fun x => bd ms fun xs => rt (x :: xs)
def lim : Nat := 1000000
theorem lim_le {n : Nat} (h : decide (n ≤ lim) = true) : n ≤ sizeLine := Nat.le_trans (of_decide_eq_true h) (by decide)
def mLst (ms : M (List FT)) : M FT := bd ms fun xs => bd (guard (decide (xs.length ≤ lim))) fun _ => rt (.new xs)
def mTup (ms : M (List FT)) : M FT := bd ms fun xs => bd (guard (decide (xs.length ≤ lim))) fun _ => rt (.val (mkTup (xs.map fz)))
section
variable {X : Cx} {ex : Ex} {W : WX} {e : Expr} {es : List Expr} {m : M FT} {ms : M (List FT)} {pos : Pos}
theorem sa_nil : SA X ex W [] aNil := PAw pa_nil fun σ H Q ⟨F, A, st, rel, o⟩ => Out.done o rel RFs.nil
theorem sa_cons (ha : SE X ex W e m) (hr : SA X ex W es ms) (hs : starEach (e :: es) X.env = (false, eval e X.env) :: starEach es X.env := by rfl) : SA X ex W (e :: es) (aCons m ms) :=
  PAw (pa_cons ha hr hs) fun σ H Q ⟨F, A, st, rel, o⟩ => ⟨F, A, st, rel, Out.bind o fun v x F1 A1 H1 st1 s1 rel1 r1 o1 => by
    refine ⟨F1, A1, st1, rel1, Out.bind o1 fun vs xs F2 A2 H2 st2 s2 rel2 r2 o2 => ?_⟩
    exact Out.done o2 rel2 (RFs.cons s1 s2 r1 r2)⟩
/-- a new list laid -/
theorem Out.lay {F : Hp} {A : List Addr} {σ : L2.St} {H H0 : Hp} {F0 : Hp} {A0 : List Addr} {st : SS} {vs : List V} {fs : List FT} {Q : VK} (s : Step F0 A0 H0 F A H) (rel : Rel (gx X ex) F A st σ H) (r : RFs (gx X ex) H0 F A H vs fs) (z : fs.length ≤ sizeLine)
    (o : Out (gx X ex) W (RF (gx X ex) H0) F A σ H (rt (.new fs) st) Q) : vs.length ≤ sizeLine ∧ ∀ p, H p = none → Q (.ref p) (upd H p (.lst vs)) := by
  obtain ⟨P, rp, nd, zz⟩ := r
  refine ⟨by rw [rp.len]; exact z, fun p np => ?_⟩
  have s1 : Step F A H F A (upd H p (.lst vs)) := Step.newH np
  refine o (.ref p) F A (upd H p (.lst vs)) s1 (rel.newH np) ⟨p :: P, .new upd_same (rel.free np) (rel.notA np) z (rp.step s1), List.nodup_cons.mpr ⟨fun m => ?_, nd⟩, fun q hq => ?_⟩
  · obtain ⟨⟨vs', e⟩, _⟩ := rp.nodes p m
    rw [np] at e; cases e
  · rcases List.mem_cons.mp hq with e | hq
    · subst e; exact s.dom _ np
    · exact zz q hq
theorem se_lst (h : SA X ex W es ms) : SE X ex W (.List es pos) (mLst ms) :=
  PEw (pe_lst h) fun σ H Q ⟨F, A, st, rel, o⟩ => ⟨F, A, st, rel, Out.bind o fun vs fs F1 A1 H1 st1 s1 rel1 r1 o1 => by
    obtain ⟨g, o1⟩ := o1.guard
    exact Out.lay s1 rel1 r1 (lim_le g) o1⟩
/-- a new tuple laid: its items are frozen -/
theorem Out.layT {F : Hp} {A : List Addr} {σ : L2.St} {H H0 : Hp} {F0 : Hp} {A0 : List Addr} {st : SS} {vs : List V} {fs : List FT} {Q : VK} (s : Step F0 A0 H0 F A H) (rel : Rel (gx X ex) F A st σ H) (r : RFs (gx X ex) H0 F A H vs fs) (z : fs.length ≤ sizeLine)
    (o : Out (gx X ex) W (RF (gx X ex) H0) F0 A0 σ H0 (rt (.val (mkTup (fs.map fz))) st) Q) : vs.length ≤ sizeLine ∧ ∀ p, H p = none → Q (.ref p) (upd H p (.tup vs)) := by
  obtain ⟨F2, s2, e2, rel2, rv⟩ := RFs.freeze s rel r
  refine ⟨by rw [rv.len, List.length_map]; exact z, fun p np => ?_⟩
  have nf := rel2.free np
  have s3 : Step F2 A H (upd F2 p (.tup vs)) A (upd H p (.tup vs)) := Step.newF np nf
  exact o (.ref p) _ A _ (s2.trans s3) (rel2.newF np) (RF.val (mkTup_rep (vs := vs) (.inl (.inl upd_same)) (by rw [List.length_map]; exact z) (rv.step s3)))
theorem se_tup {k : Nat} (h : SA X ex W es ms) : SE X ex W (.Tuple es k pos) (mTup ms) :=
  PEw (pe_tup h) fun σ H Q ⟨F, A, st, rel, o⟩ => ⟨F, A, st, rel, Out.bind0 o fun vs fs F1 A1 H1 st1 s1 rel1 r1 o1 => by
    obtain ⟨g, o1⟩ := o1.guard
    exact Out.layT s1 rel1 r1 (lim_le g) o1⟩
end

/-! ### the items of a list or a tuple -/
/-- the items of a list -/
def lstOf (f : FT) : M (List FT) := fun st => match f with
  | .new fs => .ok fs st
  | .val (.pure (.lst ts)) => .ok (ts.map fun t => .val (.pure t)) st
  | .val (.lst ds) => .ok (ds.map FT.val) st
  | .val (.cell k) => match st.s[k]? with
    | some (some c) => .ok (c.map FT.val) st
    | _ => .stuck
  | _ => .stuck
def tupOf (f : FT) : M (List FT) := fun st => match f with
  | .val (.pure (.tup ts)) => .ok (ts.map fun t => .val (.pure t)) st
  | .val (.tup ds) => .ok (ds.map FT.val) st
  | _ => .stuck
def seqOf (f : FT) : M (List FT) := fun st => match f with
  | .val (.pure (.tup ts)) => .ok (ts.map fun t => .val (.pure t)) st
  | .val (.tup ds) => .ok (ds.map FT.val) st
  | .val (.pure (.xl ts)) => .ok (ts.map fun t => .val (.pure t)) st
  | f => lstOf f st
section
variable {G : Gx} {F : Hp} {A : List Addr} {H H0 : Hp} {st : SS} {σ : L2.St} {W : WX}
theorem RepPs.ofV {K : PySem.W.Frag} : ∀ {vs : List V} {ds : List VD}, RepVs K F A vs ds → RepPs K F A H [] vs (ds.map FT.val)
  | _, _, .nil => .nil
  | _, _, .cons h r => .cons (P := []) (.val h) (RepPs.ofV r)
theorem RFs.ofV {vs : List V} {ds : List VD} (r : RepVs G.K F A vs ds) : RFs G H0 F A H vs (ds.map FT.val) := ⟨[], RepPs.ofV r, List.nodup_nil, by simp⟩
theorem RFs.ofT {vs : List V} {ts : List T} (r : RepTs G.K F vs ts) : RFs G H0 F A H vs (ts.map fun t => FT.val (.pure t)) := by
  have h := RFs.ofV (H := H) (H0 := H0) (A := A) (G := G) (RepVs.ofT r)
  rw [List.map_map] at h
  exact h
theorem Out.lstOf {γ δ : Type} {f : FT} {k : List FT → M γ} {R : Hp → List Addr → Hp → δ → γ → Prop} {Q : δ → Hp → Prop} {v : V} {F0 : Hp} {A0 : List Addr} {Hs : Hp} (o : Out G W R F0 A0 σ Hs (bd (Ob.lstOf f) k st) Q) (rel : Rel G F A st σ H) (r : RF G H0 F A H v f) :
    ∃ a vs fs, v = .ref a ∧ H a = some (.lst vs) ∧ fs.length ≤ sizeLine ∧ RFs G H0 F A H vs fs ∧ Out G W R F0 A0 σ Hs (k fs st) Q := by
  unfold bd Ob.lstOf at o
  split at o
  · rename_i a s' e
    split at e
    · cases e
      obtain ⟨P, rp, nd, z⟩ := r
      cases rp with
      | @new p P vs fs h hf ha zz rr => exact ⟨p, vs, _, rfl, h, zz, ⟨P, rr, (List.nodup_cons.mp nd).2, fun q hq => z q (List.mem_cons_of_mem _ hq)⟩, o⟩
    · cases e
      have r' := RF.ofVal r
      cases r' with
      | pure r' => cases r' with | @lst a vs ts h z rr => exact ⟨a, vs, _, rfl, rel.fh _ _ h, by simpa using z, RFs.ofT rr, o⟩
    · cases e
      have r' := RF.ofVal r
      cases r' with
      | @lst a vs ts h z rr => exact ⟨a, vs, _, rfl, rel.fh _ _ h, by simpa using z, RFs.ofV rr, o⟩
    · rename_i kk
      split at e
      · rename_i c hc
        cases e
        have r' := RF.ofVal r
        cases r' with
        | @cell a k' ha =>
          obtain ⟨_, vs, h2, z, h3⟩ := rel.cel _ a c ha hc
          exact ⟨a, vs, _, rfl, h2, by simpa using z, RFs.ofV h3, o⟩
      · cases e
    · cases e
  · rename_i x s' e
    split at e
    · cases e
    · cases e
    · cases e
    · split at e <;> cases e
    · cases e
  · exact o.elim
theorem Out.tupOf {γ δ : Type} {f : FT} {k : List FT → M γ} {R : Hp → List Addr → Hp → δ → γ → Prop} {Q : δ → Hp → Prop} {v : V} {F0 : Hp} {A0 : List Addr} {Hs : Hp} (o : Out G W R F0 A0 σ Hs (bd (Ob.tupOf f) k st) Q) (rel : Rel G F A st σ H) (r : RF G H0 F A H v f) :
    ∃ a vs fs, v = .ref a ∧ SqT G.K H a vs ∧ fs.length ≤ sizeLine ∧ RFs G H0 F A H vs fs ∧ RepV G.K F A v (.tup (fs.map fz)) ∧ Out G W R F0 A0 σ Hs (k fs st) Q := by
  unfold bd Ob.tupOf at o
  split at o
  · rename_i a s' e
    split at e
    · cases e
      have r' := RF.ofVal r
      cases r' with
      | pure r' =>
        cases r' with
        | @tup a vs ts h z rr =>
          refine ⟨a, vs, _, rfl, seqT rel.fh h, by simpa using z, RFs.ofT rr, ?_, o⟩
          refine .tup h (by simpa using z) ?_
          rw [← fzs_map, fzs_valpure]
          exact RepVs.ofT rr
    · cases e
      have r' := RF.ofVal r
      cases r' with
      | @tup a vs ds h z rr =>
        refine ⟨a, vs, _, rfl, seqT rel.fh h, by simpa using z, RFs.ofV rr, ?_, o⟩
        refine .tup h (by simpa using z) ?_
        rw [List.map_map, show (fz ∘ FT.val) = id from rfl, List.map_id]
        exact rr
    · cases e
  · rename_i x s' e
    split at e <;> cases e
  · exact o.elim
theorem Out.seqOf {γ δ : Type} {f : FT} {k : List FT → M γ} {R : Hp → List Addr → Hp → δ → γ → Prop} {Q : δ → Hp → Prop} {v : V} {F0 : Hp} {A0 : List Addr} {Hs : Hp} (o : Out G W R F0 A0 σ Hs (bd (Ob.seqOf f) k st) Q) (rel : Rel G F A st σ H) (r : RF G H0 F A H v f) :
    ∃ a vs fs, v = .ref a ∧ (SqL G.K H a vs ∨ SqT G.K H a vs) ∧ fs.length ≤ sizeLine ∧ RFs G H0 F A H vs fs ∧ Out G W R F0 A0 σ Hs (k fs st) Q := by
  cases f with
  | new fs =>
    obtain ⟨a, vs, fs', e, h, z, rr, o'⟩ := Out.lstOf (f := .new fs) o rel r
    exact ⟨a, vs, fs', e, .inl (SqL.of h), z, rr, o'⟩
  | val d =>
    cases d with
    | pure t =>
      cases t with
      | tup ts =>
        obtain ⟨a, vs, fs', e, h, z, rr, _, o'⟩ := Out.tupOf (f := .val (.pure (.tup ts))) o rel r
        exact ⟨a, vs, fs', e, .inr h, z, rr, o'⟩
      | xl ts =>
        have r' := RF.ofVal r
        cases r' with
        | pure r' => cases r' with | @xl a vs ts h z rr => exact ⟨a, vs, _, rfl, .inl (rel.fh.seq h), by simpa using z, RFs.ofT rr, o⟩
      | lst ts =>
        obtain ⟨a, vs, fs', e, h, z, rr, o'⟩ := Out.lstOf (f := .val (.pure (.lst ts))) o rel r
        exact ⟨a, vs, fs', e, .inl (SqL.of h), z, rr, o'⟩
      | _ => exact o.elim
    | tup ds =>
      obtain ⟨a, vs, fs', e, h, z, rr, _, o'⟩ := Out.tupOf (f := .val (.tup ds)) o rel r
      exact ⟨a, vs, fs', e, .inr h, z, rr, o'⟩
    | lst ds =>
      obtain ⟨a, vs, fs', e, h, z, rr, o'⟩ := Out.lstOf (f := .val (.lst ds)) o rel r
      exact ⟨a, vs, fs', e, .inl (SqL.of h), z, rr, o'⟩
    | cell k =>
      obtain ⟨a, vs, fs', e, h, z, rr, o'⟩ := Out.lstOf (f := .val (.cell k)) o rel r
      exact ⟨a, vs, fs', e, .inl (SqL.of h), z, rr, o'⟩
end
end Ob
/-! # Ob5: +, *, in, subscripts, slices, calls of built-ins, methods -/
namespace Ob
open PySem PySem.Spec PyProof.Rows L2

theorem sok_app {s t : List Nat} (h : SOK s = true) (k : SOK t = true) : SOK (s ++ t) = true := by
  unfold SOK at *
  rw [List.all_append, h, k]; rfl
theorem sok_sub {s t : List Nat} (h : SOK s = true) (k : ∀ c ∈ t, c ∈ s) : SOK t = true := by
  unfold SOK at *
  rw [List.all_eq_true] at *
  exact fun c hc => h c (k c hc)
theorem len_arr (s : List Nat) : (⟨s.toArray⟩ : Str).length = s.length := by show s.toArray.size = _; simp
theorem app_arr (s t : List Nat) : ((⟨s.toArray⟩ : Str) ++ ⟨t.toArray⟩) = ⟨(s ++ t).toArray⟩ := by
  show (⟨s.toArray ++ t.toArray⟩ : Str) = _
  simp

section
variable {K : PySem.W.Frag} {F : Hp} {A : List Addr} {H : Hp}
theorem RepPs.get : ∀ {P : List Addr} {vs : List V} {fs : List FT}, RepPs K F A H P vs fs → ∀ {i : Nat} {f : FT}, fs[i]? = some f → ∃ v Q, vs[i]? = some v ∧ RepP K F A H Q v f ∧ Q.Sublist P
  | _, _, _, .nil, i, f, e => by simp at e
  | _, _, _, @RepPs.cons _ _ _ _ P Q v vs f fs h r, 0, g, e => by
    simp at e; subst e; exact ⟨v, P, rfl, h, List.sublist_append_left _ _⟩
  | _, _, _, @RepPs.cons _ _ _ _ P Q v vs f fs h r, i + 1, g, e => by
    obtain ⟨v', Q', h1, h2, h3⟩ := RepPs.get r (i := i) (f := g) (by simpa using e)
    exact ⟨v', Q', by simpa using h1, h2, h3.trans (List.sublist_append_right _ _)⟩
theorem RepPs.take : ∀ {P : List Addr} {vs : List V} {fs : List FT}, RepPs K F A H P vs fs → ∀ n : Nat, ∃ Q, RepPs K F A H Q (vs.take n) (fs.take n) ∧ Q.Sublist P
  | _, _, _, .nil, n => ⟨[], by simpa using .nil, List.Sublist.refl _⟩
  | _, _, _, .cons h r, 0 => ⟨[], .nil, List.nil_sublist _⟩
  | _, _, _, @RepPs.cons _ _ _ _ P Q v vs f fs h r, n + 1 => by
    obtain ⟨Q', h1, h2⟩ := RepPs.take r n
    exact ⟨P ++ Q', .cons h h1, List.Sublist.append (List.Sublist.refl _) h2⟩
theorem RepPs.drop : ∀ {P : List Addr} {vs : List V} {fs : List FT}, RepPs K F A H P vs fs → ∀ n : Nat, ∃ Q, RepPs K F A H Q (vs.drop n) (fs.drop n) ∧ Q.Sublist P
  | _, _, _, .nil, n => ⟨[], by simpa using .nil, List.Sublist.refl _⟩
  | _, _, _, .cons h r, 0 => ⟨_, .cons h r, List.Sublist.refl _⟩
  | _, _, _, @RepPs.cons _ _ _ _ P Q v vs f fs h r, n + 1 => by
    obtain ⟨Q', h1, h2⟩ := RepPs.drop r n
    exact ⟨Q', h1, h2.trans (List.sublist_append_right _ _)⟩
theorem RepPs.append : ∀ {P Q : List Addr} {vs ws : List V} {fs gs : List FT}, RepPs K F A H P vs fs → RepPs K F A H Q ws gs → RepPs K F A H (P ++ Q) (vs ++ ws) (fs ++ gs)
  | _, _, _, _, _, _, .nil, t => t
  | _, _, _, _, _, _, .cons h r, t => by rw [List.append_assoc]; exact .cons h (RepPs.append r t)
theorem Rel.lst {G : Gx} {st : SS} {σ : L2.St} (rel : Rel G F A st σ H) {P : List Addr} {v : V} {f : FT} {fs : List FT} {st' : SS} (r : RepP G.K F A H P v f) (e : lstOf f st = .ok fs st') :
    st' = st ∧ ∃ a vs P', v = .ref a ∧ H a = some (.lst vs) ∧ fs.length ≤ sizeLine ∧ RepPs G.K F A H P' vs fs ∧ P'.Sublist P := by
  unfold lstOf at e
  split at e
  · cases e
    cases r with
    | @new p P vs fs h hf ha zz rr => exact ⟨rfl, p, vs, P, rfl, h, zz, rr, List.sublist_cons_self _ _⟩
  · cases e
    cases r with
    | val r' => cases r' with | pure r' => cases r' with | @lst a vs ts h z rr => exact ⟨rfl, a, vs, [], rfl, rel.fh _ _ h, by simpa using z, by
        have q := RepPs.ofV (H := H) (A := A) (RepVs.ofT rr)
        rw [List.map_map] at q; exact q, List.Sublist.refl _⟩
  · cases e
    cases r with
    | val r' => cases r' with | @lst a vs ts h z rr => exact ⟨rfl, a, vs, [], rfl, rel.fh _ _ h, by simpa using z, RepPs.ofV rr, List.Sublist.refl _⟩
  · split at e
    · rename_i c hc
      cases e
      cases r with
      | val r' =>
        cases r' with
        | @cell a k' ha =>
          obtain ⟨_, vs, h2, z, h3⟩ := rel.cel _ a c ha hc
          exact ⟨rfl, a, vs, [], rfl, h2, by simpa using z, RepPs.ofV h3, List.Sublist.refl _⟩
    · cases e
  · cases e
end
section
variable {G : Gx} {F : Hp} {A : List Addr} {H H0 : Hp}
theorem RFs.get {vs : List V} {fs : List FT} (r : RFs G H0 F A H vs fs) {i : Nat} {f : FT} (e : fs[i]? = some f) : ∃ v, vs[i]? = some v ∧ RF G H0 F A H v f := by
  obtain ⟨P, rp, nd, z⟩ := r
  obtain ⟨v, Q, h1, h2, h3⟩ := rp.get e
  exact ⟨v, h1, Q, h2, h3.nodup nd, fun p hp => z p (h3.mem hp)⟩
theorem RFs.take {vs : List V} {fs : List FT} (r : RFs G H0 F A H vs fs) (n : Nat) : RFs G H0 F A H (vs.take n) (fs.take n) := by
  obtain ⟨P, rp, nd, z⟩ := r
  obtain ⟨Q, h2, h3⟩ := rp.take n
  exact ⟨Q, h2, h3.nodup nd, fun p hp => z p (h3.mem hp)⟩
theorem RFs.drop {vs : List V} {fs : List FT} (r : RFs G H0 F A H vs fs) (n : Nat) : RFs G H0 F A H (vs.drop n) (fs.drop n) := by
  obtain ⟨P, rp, nd, z⟩ := r
  obtain ⟨Q, h2, h3⟩ := rp.drop n
  exact ⟨Q, h2, h3.nodup nd, fun p hp => z p (h3.mem hp)⟩
theorem RFs.len {vs : List V} {fs : List FT} (r : RFs G H0 F A H vs fs) : vs.length = fs.length := by
  obtain ⟨P, rp, nd, z⟩ := r
  exact rp.len
end
/-- the trees of items that are all frozen trees -/
def purs : List FT → Option (List T)
  | [] => some []
  | .val (.pure t) :: r => (purs r).map (t :: ·)
  | _ :: _ => none
theorem purs_map : ∀ ts : List T, purs (ts.map fun t => FT.val (.pure t)) = some ts
  | [] => rfl
  | t :: r => by show (purs (r.map _)).map (t :: ·) = _; rw [purs_map r]; rfl
theorem purs_eq : ∀ {fs : List FT} {ts : List T}, purs fs = some ts → fs = ts.map fun t => FT.val (.pure t)
  | [], ts, h => by cases h; rfl
  | .val (.pure t) :: r, ts, h => by
    have h' : (purs r).map (t :: ·) = some ts := h
    cases e : purs r with
    | none => rw [e] at h'; cases h'
    | some us =>
      rw [e] at h'
      cases h'
      rw [purs_eq e]; rfl
  | .val (.cell _) :: r, ts, h => by cases h
  | .val (.lst _) :: r, ts, h => by cases h
  | .val (.tup _) :: r, ts, h => by cases h
  | .new _ :: r, ts, h => by cases h
theorem RepPs.purs {K : PySem.W.Frag} {F : Hp} {A : List Addr} {H : Hp} : ∀ {P : List Addr} {vs : List V} {ts : List T}, RepPs K F A H P vs (ts.map fun t => FT.val (.pure t)) → RepTs K F vs ts
  | _, _, [], .nil => .nil
  | _, _, _ :: _, .cons (.val (.pure h)) r => .cons h (RepPs.purs r)
theorem RFs.purs {G : Gx} {F : Hp} {A : List Addr} {H H0 : Hp} {vs : List V} {fs : List FT} {ts : List T} (r : RFs G H0 F A H vs fs) (e : Ob.purs fs = some ts) : RepTs G.K F vs ts := by
  obtain ⟨P, rp, nd, z⟩ := r
  rw [purs_eq e] at rp
  exact rp.purs
def mpurs (fs : List FT) : M (List T) := fun st => match purs fs with
  | some ts => .ok ts st
  | none => .stuck
theorem Out.mpurs {γ δ : Type} {G : Gx} {W : WX} {F F0 : Hp} {A A0 : List Addr} {σ : L2.St} {H H0 Hs : Hp} {st : SS} {fs : List FT} {k : List T → M γ} {R : Hp → List Addr → Hp → δ → γ → Prop} {Q : δ → Hp → Prop} {vs : List V} (o : Out G W R F0 A0 σ Hs (bd (Ob.mpurs fs) k st) Q)
    (r : RFs G H0 F A H vs fs) : ∃ ts, purs fs = some ts ∧ RepTs G.K F vs ts ∧ Out G W R F0 A0 σ Hs (k ts st) Q := by
  unfold bd Ob.mpurs at o
  cases e : purs fs with
  | none => rw [e] at o; exact o.elim
  | some ts =>
    rw [e] at o
    exact ⟨ts, rfl, r.purs e, o⟩

/-! ### x + y -/
def oAdd (x y : FT) : M FT := match x, y with
  | .val (.pure (.int i)), .val (.pure (.int j)) => rt (vl (.int (i + j)))
  | .val (.pure (.str s)), .val (.pure (.str t)) => bd (guard (decide (s.length + t.length ≤ lim))) fun _ => rt (vl (.str (s ++ t)))
  | .val (.pure (.tup s)), .val (.pure (.tup t)) => bd (guard (decide (s.length + t.length ≤ lim))) fun _ => rt (vl (.tup (s ++ t)))
  | x, y => bd (lstOf x) fun a => bd (lstOf y) fun b => bd (guard (decide (a.length + b.length ≤ lim))) fun _ => rt (.new (a ++ b))
def rStrStr : R2 := fun x y H Q => ∃ i j, x = .str i ∧ y = .str j ∧ i.length + j.length ≤ sizeLine ∧ Q (.str (i ++ j)) H
def rAddU (K : PySem.W.Frag) : R2 := fun x y H Q => ((rI0 (fun i j => .int (i + j)) x y H Q ∨ rStrStr x y H Q) ∨ rCatA K x y H Q) ∨ rCat x y H Q
section
variable {X : Cx} {ex : Ex} {W : WX} {a b : Expr} {ma mb : M FT} {pos : Pos}
theorem op_addU : OpR X (binaryOp .Add) (rAddU X.K) := OpR.or (OpR.or (OpR.or op_add op_add_str) op_catA) op_cat
theorem lstOf_ok {f : FT} {st : SS} : (∃ fs, lstOf f st = .ok fs st) ∨ lstOf f st = .stuck := by
  unfold lstOf
  split
  · exact .inl ⟨_, rfl⟩
  · exact .inl ⟨_, rfl⟩
  · exact .inl ⟨_, rfl⟩
  · split
    · exact .inl ⟨_, rfl⟩
    · exact .inr rfl
  · exact .inr rfl
/-- two lists' items together -/
theorem Out.lst2 {γ δ : Type} {G : Gx} {F : Hp} {A : List Addr} {H H0 : Hp} {st : SS} {σ : L2.St} {f g : FT} {k : List FT → List FT → M γ} {R : Hp → List Addr → Hp → δ → γ → Prop} {Q : δ → Hp → Prop} {v u : V} {F0 : Hp} {A0 : List Addr} {Hs : Hp}
    (o : Out G W R F0 A0 σ Hs (bd (Ob.lstOf f) (fun a => bd (Ob.lstOf g) fun b => k a b) st) Q) (rel : Rel G F A st σ H) (r : RFs G H0 F A H [v, u] [f, g]) :
    ∃ a b vs ws fs gs, v = .ref a ∧ u = .ref b ∧ H a = some (.lst vs) ∧ H b = some (.lst ws) ∧ RFs G H0 F A H (vs ++ ws) (fs ++ gs) ∧ Out G W R F0 A0 σ Hs (k fs gs st) Q := by
  unfold bd at o
  rcases lstOf_ok (f := f) (st := st) with ⟨fs, e1⟩ | e1
  · rw [e1] at o
    rcases lstOf_ok (f := g) (st := st) with ⟨gs, e2⟩ | e2
    · simp only [e2] at o
      obtain ⟨P, p, nd, z⟩ := r
      cases p with
      | @cons P Q _ _ _ _ h1 r =>
        cases r with
        | @cons P2 Q2 _ _ _ _ h2 r2 =>
          cases r2
          rw [List.append_nil] at nd z
          obtain ⟨_, a, vs, P', rfl, ha, za, rr, sa⟩ := rel.lst h1 e1
          obtain ⟨_, b, ws, P2', rfl, hb, zb, rr2, sb⟩ := rel.lst h2 e2
          have sub : (P' ++ P2').Sublist (P ++ P2) := List.Sublist.append sa sb
          exact ⟨a, b, vs, ws, fs, gs, rfl, rfl, ha, hb, ⟨P' ++ P2', rr.append rr2, sub.nodup nd, fun q hq => z q (sub.mem hq)⟩, o⟩
    · simp only [e2] at o; exact o.elim
  · rw [e1] at o; exact o.elim
theorem arr_ofT {K : PySem.W.Frag} {F : Hp} {vs : List V} {ts : List T} (r : RepTs K F vs ts) : vs = [] ↔ ts = [] := by cases r <;> simp
theorem os_add : OpS X ex W (rAddU X.K) oAdd := by
  intro F A σ H H0 F0 A0 st v u x y Q s rel rr o
  unfold oAdd at o
  split at o
  · obtain ⟨rx, ry⟩ := rr.two
    have e1 := rx.int
    have e2 := ry.int
    subst e1 e2
    exact .inl (.inl (.inl ⟨_, _, rfl, rfl, Out.done o rel (RF.val (.pure (.int _)))⟩))
  · obtain ⟨rx, ry⟩ := rr.two
    obtain ⟨e1, z1, k1⟩ := rx.str
    obtain ⟨e2, z2, k2⟩ := ry.str
    subst e1 e2
    obtain ⟨g, o⟩ := o.guard
    refine .inl (.inl (.inr ⟨_, _, rfl, rfl, by rw [len_arr, len_arr]; exact lim_le g, ?_⟩))
    rw [app_arr]
    exact Out.done o rel (RF.val (.pure (.str _ (by rw [List.length_append]; exact lim_le g) (sok_app k1 k2))))
  · rename_i ts0 us0
    obtain ⟨rx, ry⟩ := rr.two
    obtain ⟨g, o⟩ := o.guard
    have r1 := RF.ofVal rx
    have r2 := RF.ofVal ry
    cases r1 with
    | pure r1 =>
      cases r1 with
      | @tup a vs ts h z r1 =>
        cases r2 with
        | pure r2 =>
          cases r2 with
          | @tup b ws us h2 z2 r2 =>
            have zz : (ts0 ++ us0).length ≤ sizeLine := by rw [List.length_append]; exact lim_le g
            refine .inl (.inr ⟨a, b, vs, ws, rfl, rfl, seqT rel.fh h, seqT rel.fh h2, by rw [r1.len, r2.len]; exact lim_le g, fun e => ?_, fun _ e => ?_, fun _ _ p np => ?_⟩)
            · have e' := (arr_ofT r1).mp e
              subst e'
              exact Out.done o rel (RF.val (.pure (.tup h2 z2 r2)))
            · have e' := (arr_ofT r2).mp e
              subst e'
              rw [List.append_nil] at o
              exact Out.done o rel (RF.val (.pure (.tup h z r1)))
            · have nf := rel.free np
              have s3 : Step F A H (upd F p (.tup (vs ++ ws))) A (upd H p (.tup (vs ++ ws))) := Step.newF np nf
              exact o (.ref p) _ A _ s3 (rel.newF np) (RF.val (.pure (.tup (.inl (.inl upd_same)) zz ((r1.append r2).mono s3.ex))))
  · obtain ⟨a, b, vs, ws, fs, gs, e1, e2, ha, hb, r, o⟩ := Out.lst2 o rel rr
    subst e1 e2
    obtain ⟨g, o⟩ := o.guard
    obtain ⟨z, k⟩ := Out.lay s rel r (by rw [List.length_append]; exact lim_le g) o
    exact .inr ⟨a, b, vs, ws, rfl, rfl, ha, hb, by rw [← List.length_append]; exact z, k⟩
theorem se_add (ha : SE X ex W a ma) (hb : SE X ex W b mb) : SE X ex W (.BinOp a .Add b pos) (m2 oAdd ma mb) := se_op op_addU os_add ha hb
end
end Ob
/-! # Ob6: *, in, subscripts, slices, calls of built-ins, methods -/
namespace Ob
open PySem PySem.Spec PyProof.Rows L2

/-! ### x * y -/
theorem fold_rep (s : List Nat) : ∀ (n : Nat) (acc : List Nat), (List.replicate n s.toArray).foldl (· ++ ·) acc.toArray = (acc ++ (List.replicate n s).flatten).toArray
  | 0, acc => by simp
  | n + 1, acc => by
    rw [List.replicate_succ, List.foldl_cons, List.replicate_succ, List.flatten_cons, ← List.append_assoc, ← fold_rep s n (acc ++ s)]
    congr 1
    simp
def rRepS : R2 := fun x y H Q => ∃ (s : List Nat) (n : Int), x = .str ⟨s.toArray⟩ ∧ y = .int n ∧ -1000000 ≤ n ∧ n ≤ 1000000 ∧ s.length * n.toNat ≤ 1000000 ∧ Q (.str ⟨((List.replicate n.toNat s).flatten).toArray⟩) H
theorem op_repS {X : Cx} : OpR X (binaryOp .Mult) rRepS := by
  intro pins s σ H x y v u Q I rx ry h
  obtain ⟨z, n, rfl, rfl, h1, h2, h3, q⟩ := h
  obtain ⟨t, rfl⟩ := rx
  obtain ⟨t', rfl⟩ := ry
  have fin : ∀ tk, EP X pins σ Q (.str ⟨((List.replicate n.toNat z).flatten).toArray⟩ s.toks) { s with toks := tk } := fun tk => ⟨.str ⟨((List.replicate n.toNat z).flatten).toArray⟩, H, I.tok _, ⟨_, rfl⟩, q⟩
  have hl : ((⟨z.toArray⟩ : Str)).length = z.length := len_arr z
  refine P.mul_str (by
      have e1 : ¬ n < -(2 ^ 63 : Int) := by omega
      have e2 : ¬ n ≥ 2 ^ 63 := by omega
      rw [decide_eq_false e1, decide_eq_false e2]; rfl) (fun a1 a2 => ?_) (fun a1 a2 => ?_) ?_
  · rw [hl]
    have e : (9223372036854775807 : Int) / n ≥ 9223372036854 := by
      rw [ge_iff_le, Int.le_ediv_iff_mul_le (by omega)]
      omega
    have : z.length ≤ 1000000 := by
      have : z.length * 1 ≤ z.length * n.toNat := Nat.mul_le_mul_left _ (by omega)
      omega
    show ¬ ((z.length : Int) > (2 ^ 63 - 1) / n)
    have e3 : ((2 : Int) ^ 63 - 1) = 9223372036854775807 := by decide
    rw [e3]
    omega
  · rw [hl]
    exact decide_eq_false (by show ¬ (_ > _); have : (sizeLine : Nat) = 16777216 := sizeLine_eq; omega)
  · by_cases c : n < 1
    · rw [if_pos c]
      have e : n.toNat = 0 := by omega
      have f := fin (s.toks + 1)
      rw [e] at f
      exact ⟨by decide, f⟩
    · rw [if_neg c]
      by_cases d : (n == 1 || ((⟨z.toArray⟩ : Str)).length == 0) = true
      · rw [if_pos d]
        rw [hl] at d
        have e : (List.replicate n.toNat z).flatten = z := by
          rcases Bool.or_eq_true _ _ ▸ d with d | d
          · have := eq_of_beq d
            subst this
            show (List.replicate 1 z).flatten = z
            simp
          · have := eq_of_beq d
            have : z = [] := List.length_eq_zero_iff.mp this
            subst this
            simp
        rw [e] at q
        exact ⟨.str ⟨z.toArray⟩, H, I, ⟨_, rfl⟩, q⟩
      · rw [if_neg d]
        have e := fold_rep z n.toNat []
        rw [List.nil_append] at e
        have f := fin (s.toks + 1)
        rw [← e] at f
        refine ⟨?_, f⟩
        show ((List.replicate n.toNat z.toArray).foldl (fun x1 x2 => x1 ++ x2) #[]).size ≤ sizeLine
        have e2 : ((List.replicate n.toNat z.toArray).foldl (fun x1 x2 => x1 ++ x2) #[]) = ((List.replicate n.toNat z).flatten).toArray := e
        rw [e2]
        simp
        have : (sizeLine : Nat) = 16777216 := sizeLine_eq
        have : n.toNat * z.length = z.length * n.toNat := Nat.mul_comm _ _
        omega
theorem len_rep {α : Type} (s : List α) : ∀ n : Nat, ((List.replicate n s).flatten).length = n * s.length
  | 0 => by simp
  | n + 1 => by rw [List.replicate_succ, List.flatten_cons, List.length_append, len_rep s n, Nat.succ_mul, Nat.add_comm]
def oMul (x y : FT) : M FT := match x, y with
  | .val (.pure (.int i)), .val (.pure (.int j)) => bd (guard (cMul i j)) fun _ => rt (vl (.int (i * j)))
  | .val (.pure (.str s)), .val (.pure (.int n)) => bd (guard (decide (-1000000 ≤ n) && decide (n ≤ 1000000) && decide (s.length * n.toNat ≤ 1000000))) fun _ => rt (vl (.str ((List.replicate n.toNat s).flatten)))
  | x, .val (.pure (.int n)) => bd (lstOf x) fun a => bd (mpurs a) fun ts => bd (guard (decide (-1000000 ≤ n) && decide (n ≤ 1000000) && decide (ts.length * n.toNat ≤ 1000000))) fun _ => rt (nw ((List.replicate n.toNat ts).flatten))
  | _, _ => stuck
def rMulU : R2 := fun x y H Q => (rI CMul (fun i j => .int (i * j)) x y H Q ∨ rRepS x y H Q) ∨ rRep x y H Q
theorem RepTs.rep {K : PySem.W.Frag} {F : Hp} {vs : List V} {ts : List T} (r : RepTs K F vs ts) : ∀ n : Nat, RepTs K F (List.replicate n vs).flatten (List.replicate n ts).flatten
  | 0 => .nil
  | n + 1 => by
    rw [List.replicate_succ, List.flatten_cons, List.replicate_succ, List.flatten_cons]
    exact r.append (RepTs.rep r n)
section
variable {X : Cx} {ex : Ex} {W : WX} {a b e : Expr} {ma mb m : M FT} {pos : Pos}
theorem op_mulU : OpR X (binaryOp .Mult) rMulU := OpR.or (OpR.or op_mul op_repS) op_rep
theorem flat_rep (s : List Nat) : ∀ n : Nat, ∀ c ∈ (List.replicate n s).flatten, c ∈ s
  | 0, c, h => by simp at h
  | n + 1, c, h => by
    rw [List.replicate_succ, List.flatten_cons] at h
    rcases List.mem_append.mp h with h | h
    · exact h
    · exact flat_rep s n c h
theorem os_mul : OpS X ex W rMulU oMul := by
  intro F A σ H H0 F0 A0 st v u x y Q s rel rr o
  obtain ⟨rx, ry⟩ := rr.two
  unfold oMul at o
  split at o
  · have e1 := rx.int
    have e2 := ry.int
    subst e1 e2
    obtain ⟨g, o⟩ := o.guard
    exact .inl (.inl ⟨_, _, rfl, rfl, cMul_ok g, Out.done o rel (RF.val (.pure (.int _)))⟩)
  · rename_i s0 n0
    obtain ⟨e1, z1, k1⟩ := rx.str
    have e2 := ry.int
    subst e1 e2
    obtain ⟨g, o⟩ := o.guard
    rw [Bool.and_eq_true, Bool.and_eq_true] at g
    have g3 := of_decide_eq_true g.2
    refine .inl (.inr ⟨_, _, rfl, rfl, of_decide_eq_true g.1.1, of_decide_eq_true g.1.2, g3, Out.done o rel (RF.val (.pure (.str _ ?_ (sok_sub k1 (flat_rep _ _)))))⟩)
    rw [len_rep, Nat.mul_comm]
    have : (sizeLine : Nat) = 16777216 := sizeLine_eq
    omega
  · have e2 := ry.int
    subst e2
    obtain ⟨a, vs, fs, rfl, ha, z, r, o⟩ := Out.lstOf o rel rx
    obtain ⟨ts, et, rt, o⟩ := Out.mpurs o r
    obtain ⟨g, o⟩ := o.guard
    rw [Bool.and_eq_true, Bool.and_eq_true] at g
    have g1 := of_decide_eq_true g.1.1
    have g2 := of_decide_eq_true g.1.2
    have g3 := of_decide_eq_true g.2
    have sz : (sizeLine : Nat) = 16777216 := sizeLine_eq
    refine .inr ⟨a, _, vs, rfl, rfl, ha, by omega, by omega, by rw [rt.len]; omega, ?_⟩
    exact (Out.lay s rel (RFs.ofT (rt.rep _)) (by
      rw [List.length_map, len_rep, Nat.mul_comm]
      omega) o).2
  · exact o.elim
theorem se_mul (ha : SE X ex W a ma) (hb : SE X ex W b mb) : SE X ex W (.BinOp a .Mult b pos) (m2 oMul ma mb) := se_op op_mulU os_mul ha hb

/-! ### x in y -/
def flat : T → Bool
  | .non => true
  | .bl _ => true
  | .int _ => true
  | .str _ => true
  | _ => false
def oIn (neg : Bool) (x y : FT) : M FT := match x, y with
  | .val (.pure (.str [c])), .val (.pure (.str s)) => rt (vl (.bl (if neg then !decide (c ∈ s) else decide (c ∈ s))))
  | .val (.pure t), y => bd (seqOf y) fun fs => bd (mpurs fs) fun ts => bd (guard (flat t && ts.all flat)) fun _ => rt (vl (.bl (if neg then !(ts.any fun u => eqT u t) else ts.any fun u => eqT u t)))
  | _, _ => stuck
theorem RepT.flat {K : PySem.W.Frag} {F : Hp} {v : V} {t : T} (r : RepT K F v t) (h : Ob.flat t = true) : flatV v = true := by
  cases r <;> first | rfl | cases h
theorem RepTs.flat {K : PySem.W.Frag} {F : Hp} : ∀ {vs : List V} {ts : List T}, RepTs K F vs ts → ts.all Ob.flat = true → vs.all flatV = true
  | _, _, .nil, _ => rfl
  | _, _, .cons h r, k => by
    rw [List.all_cons, Bool.and_eq_true] at k ⊢
    exact ⟨h.flat k.1, RepTs.flat r k.2⟩
theorem eqV_eqT {K : PySem.W.Frag} {F : Hp} {v u : V} {t w : T} (r : RepT K F v t) (q : RepT K F u w) (h : Ob.flat t = true) (k : Ob.flat w = true) : eqV v u = eqT t w := by
  cases r with
  | non => cases q <;> first | rfl | cases k
  | bl b => cases q <;> first | rfl | cases k
  | int i => cases q <;> first | rfl | cases k
  | str s z ok =>
    cases q with
    | str s' z' ok' => exact str_beq s s'
    | non => rfl
    | bl _ => rfl
    | int _ => rfl
    | lst => cases k
    | xl => cases k
    | tup => cases k
    | dnil => cases k
  | lst => cases h
  | xl => cases h
  | tup => cases h
  | dnil => cases h
theorem inV_any {K : PySem.W.Frag} {F : Hp} {u : V} {w : T} (q : RepT K F u w) (k : Ob.flat w = true) : ∀ {vs : List V} {ts : List T}, RepTs K F vs ts → ts.all Ob.flat = true → inV u vs = ts.any fun x => eqT x w
  | _, _, .nil, _ => rfl
  | _, _, @RepTs.cons _ _ v vs t ts h r, z => by
    rw [List.all_cons, Bool.and_eq_true] at z
    show (eqV v u || inV u vs) = (eqT t w || ts.any _)
    rw [eqV_eqT h q z.1 k, inV_any q k r z.2]
def rInU (K : PySem.W.Frag) (neg : Bool) : R2 := fun x y H Q => (∃ (c : Nat) (z : Str), x = .str ⟨#[c]⟩ ∧ y = .str z ∧ Q (.bl (if neg then !decide (c ∈ z.cps.toList) else decide (c ∈ z.cps.toList))) H) ∨ rIn K neg x y H Q
theorem op_inU : OpR X (compareOp .In) (rInU X.K false) := OpR.or op_in_sign op_in_seq
theorem op_notInU : OpR X (compareOp .NotIn) (rInU X.K true) := OpR.or op_notIn_sign op_notIn_seq
theorem os_in {neg : Bool} : OpS X ex W (rInU X.K neg) (oIn neg) := by
  intro F A σ H H0 F0 A0 st v u x y Q s rel rr o
  obtain ⟨rx, ry⟩ := rr.two
  unfold oIn at o
  split at o
  · obtain ⟨e1, z1, k1⟩ := rx.str
    obtain ⟨e2, z2, k2⟩ := ry.str
    subst e1 e2
    exact .inl ⟨_, _, rfl, rfl, Out.done o rel (RF.val (.pure (.bl _)))⟩
  · obtain ⟨a, vs, fs, rfl, ha, z, r, o⟩ := Out.seqOf o rel ry
    obtain ⟨ts, et, rt, o⟩ := Out.mpurs o r
    obtain ⟨g, o⟩ := o.guard
    rw [Bool.and_eq_true] at g
    have r1 := RF.ofVal rx
    cases r1 with
    | pure r1 =>
      refine .inr ⟨a, vs, rfl, ha, r1.flat g.1, rt.flat g.2, ?_⟩
      rw [inV_any r1 g.1 rt g.2]
      exact Out.done o rel (RF.val (.pure (.bl _)))
  · exact o.elim
theorem se_in (ha : SE X ex W a ma) (hb : SE X ex W b mb) (hm : behindInMarks .In b = false) : SE X ex W (.Compare a [.In] [b] pos) (m2 (oIn false) ma mb) := se_cmp op_inU os_in ha hb hm
theorem se_notIn (ha : SE X ex W a ma) (hb : SE X ex W b mb) (hm : behindInMarks .NotIn b = false) : SE X ex W (.Compare a [.NotIn] [b] pos) (m2 (oIn true) ma mb) := se_cmp op_notInU os_in ha hb hm
theorem st_in (ha : SE X ex W a ma) (hb : SE X ex W b mb) (hm : behindInMarks .In b = false) : ST X ex W (.Compare a [.In] [b] pos) (bd (m2 (oIn false) ma mb) tb) := st_cmp op_inU os_in ha hb hm
theorem st_notIn (ha : SE X ex W a ma) (hb : SE X ex W b mb) (hm : behindInMarks .NotIn b = false) : ST X ex W (.Compare a [.NotIn] [b] pos) (bd (m2 (oIn true) ma mb) tb) := st_cmp op_notInU os_in ha hb hm

/-! ### is None, is of truth values -/
def oIsN (x y : FT) : M FT := match x, y with
  | .val (.pure t), .val (.pure .non) => rt (vl (.bl (match t with | .non => true | _ => false)))
  | .val (.cell _), .val (.pure .non) => rt (vl (.bl false))
  | .val (.lst _), .val (.pure .non) => rt (vl (.bl false))
  | .val (.tup _), .val (.pure .non) => rt (vl (.bl false))
  | _, _ => stuck
def oIsB (x y : FT) : M FT := match x, y with
  | .val (.pure (.bl a)), .val (.pure (.bl b)) => rt (vl (.bl (a == b)))
  | _, _ => stuck
theorem os_isN : OpS X ex W (fun x y H Q => y = .non ∧ Q (.bl (decide (x = .non))) H) oIsN := by
  intro F A σ H H0 F0 A0 st v u x y Q s rel rr o
  obtain ⟨rx, ry⟩ := rr.two
  unfold oIsN at o
  split at o
  · have r1 := RF.ofVal rx
    have r2 := RF.ofVal ry
    cases r2 with
    | pure r2 =>
      cases r2
      refine ⟨rfl, ?_⟩
      cases r1 with
      | pure r1 => cases r1 <;> exact Out.done o rel (RF.val (.pure (.bl _)))
  · have r1 := RF.ofVal rx
    have r2 := RF.ofVal ry
    cases r2 with
    | pure r2 =>
      cases r2
      cases r1
      exact ⟨rfl, Out.done o rel (RF.val (.pure (.bl _)))⟩
  · have r1 := RF.ofVal rx
    have r2 := RF.ofVal ry
    cases r2 with
    | pure r2 =>
      cases r2
      cases r1
      exact ⟨rfl, Out.done o rel (RF.val (.pure (.bl _)))⟩
  · have r1 := RF.ofVal rx
    have r2 := RF.ofVal ry
    cases r2 with
    | pure r2 =>
      cases r2
      cases r1
      exact ⟨rfl, Out.done o rel (RF.val (.pure (.bl _)))⟩
  · exact o.elim
theorem os_isB : OpS X ex W rIsB oIsB := by
  intro F A σ H H0 F0 A0 st v u x y Q s rel rr o
  obtain ⟨rx, ry⟩ := rr.two
  unfold oIsB at o
  split at o
  · have e1 := rx.bl
    have e2 := ry.bl
    subst e1 e2
    rename_i a b
    refine ⟨a, b, rfl, rfl, ?_⟩
    have h := Out.done o rel (RF.val (.pure (.bl (a == b))))
    rw [Bool.beq_eq_decide_eq] at h
    exact h
  · exact o.elim
end
end Ob
/-! # Ob7: subscripts, slices, calls of built-ins, methods -/
namespace Ob
open PySem PySem.Spec PyProof.Rows L2

/-! ### x[i] -/
def mo {α : Type} (o : Option α) : M α := fun st => match o with
  | some a => .ok a st
  | none => .stuck
theorem Out.mo {α γ δ : Type} {G : Gx} {W : WX} {F : Hp} {A : List Addr} {σ : L2.St} {Hs : Hp} {st : SS} {x : Option α} {k : α → M γ} {R : Hp → List Addr → Hp → δ → γ → Prop} {Q : δ → Hp → Prop} (o : Out G W R F A σ Hs (bd (Ob.mo x) k st) Q) :
    ∃ a, x = some a ∧ Out G W R F A σ Hs (k a st) Q := by
  unfold bd Ob.mo at o
  cases x with
  | none => exact o.elim
  | some a => exact ⟨a, rfl, o⟩
theorem Out.mo' {α δ : Type} {G : Gx} {W : WX} {F : Hp} {A : List Addr} {σ : L2.St} {Hs : Hp} {st : SS} {x : Option α} {R : Hp → List Addr → Hp → δ → α → Prop} {Q : δ → Hp → Prop} (o : Out G W R F A σ Hs (Ob.mo x st) Q) :
    ∃ a, x = some a ∧ Out G W R F A σ Hs (.ok a st) Q := by
  unfold Ob.mo at o
  cases x with
  | none => exact o.elim
  | some a => exact ⟨a, rfl, o⟩
def oIx (x i : FT) : M FT := match x, i with
  | .val (.pure (.str s)), .val (.pure (.int i)) => bd (mo (atI s i)) fun c => rt (vl (.str [c]))
  | x, .val (.pure (.int i)) => bd (seqOf x) fun fs => mo (atI fs i)
  | _, _ => stuck
theorem atI_len {α β : Type} {xs : List α} {ys : List β} (e : xs.length = ys.length) {i : Int} {y : β} (h : atI ys i = some y) : ∃ j : Nat, ys[j]? = some y ∧ ∀ x : α, xs[j]? = some x → atI xs i = some x := by
  unfold atI at h ⊢
  cases q : ixN ys.length i with
  | none => rw [q] at h; cases h
  | some j =>
    rw [q] at h
    exact ⟨j, h, fun x hx => by rw [e, q]; exact hx⟩
section
variable {X : Cx} {ex : Ex} {W : WX} {a b e : Expr} {ma mb m : M FT} {es : List Expr} {ms : M (List FT)} {pos p2 : Pos}
theorem os_ix : OpS X ex W (rIx X.K) oIx := by
  intro F A σ H H0 F0 A0 st v u x y Q s rel rr o
  obtain ⟨rx, ry⟩ := rr.two
  unfold oIx at o
  split at o
  · rename_i s0 i0
    obtain ⟨e1, z1, k1⟩ := rx.str
    have e2 := ry.int
    subst e1 e2
    obtain ⟨c, hc, o⟩ := Out.mo o
    refine .inr (.inr ⟨_, _, c, rfl, rfl, by rw [len_arr]; exact z1, hc, ?_⟩)
    have hm : c ∈ s0 := by
      obtain ⟨j, _, hj, _⟩ := atI_get hc
      exact List.mem_of_getElem? hj
    exact Out.done o rel (RF.val (.pure (.str [c] (by simp; decide) (sok_sub k1 (by simpa using hm)))))
  · have e2 := ry.int
    subst e2
    obtain ⟨p, vs, fs, rfl, hs, z, r, o⟩ := Out.seqOf o rel rx
    obtain ⟨f, hf, o⟩ := Out.mo' o
    obtain ⟨j, hj, k⟩ := atI_len r.len hf
    obtain ⟨w, hw, rw⟩ := r.get hj
    rcases hs with hs | hs
    · exact .inl ⟨p, vs, _, w, rfl, rfl, hs, k w hw, Out.done o rel rw⟩
    · exact .inr (.inl ⟨p, vs, _, w, rfl, rfl, hs, k w hw, Out.done o rel rw⟩)
  · exact o.elim
theorem se_ix (ha : SE X ex W a ma) (hb : SE X ex W b mb) (hs : PlainIx b := by exact fun _ _ => rfl) : SE X ex W (.Subscript a b pos) (m2 oIx ma mb) := PEw (pe_ix ix_seq ha hb hs) fun _ _ _ h => op2 os_ix h

/-! ### x[a:b] -/
def cutL {α : Type} (xs : List α) (lo hi : Option Int) : List α := (xs.drop (HT.sIx xs.length 0 lo)).take (HT.sIx xs.length xs.length hi - HT.sIx xs.length 0 lo)
theorem cutL_len {α : Type} (xs : List α) (lo hi : Option Int) : (cutL xs lo hi).length ≤ xs.length := by
  unfold cutL
  rw [List.length_take, List.length_drop]
  omega
theorem cutL_map {α β : Type} (f : α → β) (xs : List α) (lo hi : Option Int) : cutL (xs.map f) lo hi = (cutL xs lo hi).map f := by
  unfold cutL
  rw [List.map_take, List.map_drop, List.length_map]
theorem cutL_mem {α : Type} {xs : List α} {lo hi : Option Int} {c : α} (h : c ∈ cutL xs lo hi) : c ∈ xs := List.mem_of_mem_drop (List.mem_of_mem_take h)
def SO (X : Cx) (ex : Ex) (W : WX) (e : Option Expr) (m : M (Option Int)) : Prop := PO X e (cG (gx X ex) W (fun _ _ _ _ b a => b = a) m)
def pNone : M (Option Int) := rt none
def asInt (x : FT) : M (Option Int) := match x with
  | .val (.pure (.int i)) => rt (some i)
  | _ => stuck
theorem POw {e : Option Expr} {t u : TO} (h : PO X e t) (w : ∀ σ H Q, u σ H Q → t σ H Q) : PO X e u := ⟨fun pins s σ H Q I q => h.run pins s σ H Q I (w _ _ _ q)⟩
theorem so_none : SO X ex W none pNone := POw po_none fun σ H Q ⟨F, A, st, rel, o⟩ => Out.done o rel rfl
theorem so_some (ha : SE X ex W a ma) : SO X ex W (some a) (bd ma asInt) := POw (po_some ha) fun σ H Q ⟨F, A, st, rel, o⟩ => ⟨F, A, st, rel, Out.bind o fun v x F1 A1 H1 st1 s1 rel1 r1 o1 => by
  unfold asInt at o1
  split at o1
  · have e1 := r1.int
    exact ⟨_, e1, Out.done o1 rel1 rfl⟩
  · exact o1.elim⟩
def oSl (x : FT) (lo hi : Option Int) : M FT := match x with
  | .val (.pure (.str s)) => rt (vl (.str (cutL s lo hi)))
  | .val (.pure (.tup ts)) => rt (vl (.tup (cutL ts lo hi)))
  | .val (.pure (.xl ts)) => rt (nw (cutL ts lo hi))
  | x => bd (lstOf x) fun fs => rt (.new (cutL fs lo hi))
def mSl (ma : M FT) (lo hi : M (Option Int)) : M FT := bd ma fun x => bd lo fun l => bd hi fun h => oSl x l h
def rSlU (K : PySem.W.Frag) : V → Option Int → Option Int → Hp → VK → Prop := fun x lo hi H Q => (rSlS x lo hi H Q ∨ rSlA K x lo hi H Q) ∨ rSlL K x lo hi H Q
theorem sl_U : SlR X (rSlU X.K) := SlR.or (SlR.or sl_str sl_tupA) sl_list
theorem sIx_size (n d : Nat) (o : Option Int) : HT.sIx n d o = HT.sIx n d o := rfl
theorem RFs.cut {G : Gx} {F : Hp} {A : List Addr} {H H0 : Hp} {vs : List V} {fs : List FT} (r : RFs G H0 F A H vs fs) (lo hi : Option Int) : RFs G H0 F A H (cutV vs lo hi) (cutL fs lo hi) := by
  unfold cutV cutL
  rw [r.len]
  exact (r.drop _).take _
theorem RepTs.cut {K : PySem.W.Frag} {F : Hp} {vs : List V} {ts : List T} (r : RepTs K F vs ts) (lo hi : Option Int) : RepTs K F (cutV vs lo hi) (cutL ts lo hi) := by
  unfold cutV cutL
  rw [r.len]
  exact (r.drop _).take _
theorem os_sl {F F0 : Hp} {A A0 : List Addr} {σ : L2.St} {H H0 : Hp} {st : SS} {v : V} {x : FT} {lo hi : Option Int} {Q : VK} (s : Step F0 A0 H0 F A H) (rel : Rel (gx X ex) F A st σ H) (r : RF (gx X ex) H0 F A H v x)
    (o : Out (gx X ex) W (RF (gx X ex) H0) F A σ H (oSl x lo hi st) Q) : rSlU X.K v lo hi H Q := by
  unfold oSl at o
  split at o
  · rename_i s0
    obtain ⟨e1, z1, k1⟩ := r.str
    subst e1
    refine .inl (.inl ⟨_, rfl, by rw [len_arr]; exact z1, ?_⟩)
    have e : cutS ⟨s0.toArray⟩ lo hi = ⟨(cutL s0 lo hi).toArray⟩ := by
      unfold cutS cutL
      rw [len_arr]
    rw [e]
    exact Out.done o rel (RF.val (.pure (.str _ (Nat.le_trans (cutL_len _ _ _) z1) (sok_sub k1 fun c hc => cutL_mem hc))))
  · rename_i ts0
    have r1 := RF.ofVal r
    cases r1 with
    | pure r1 =>
      cases r1 with
      | @tup a vs ts h z rr =>
        refine .inl (.inr ⟨a, vs, rfl, seqT rel.fh h, fun ⟨w1, w2⟩ => ?_, fun _ p np => ?_⟩)
        · have e : cutL ts0 lo hi = ts0 := by
            unfold cutL
            rw [← rr.len, w1, w2, List.drop_zero, Nat.sub_zero, rr.len]
            exact List.take_length
          rw [e] at o
          exact Out.done o rel (RF.val (.pure (.tup h z rr)))
        · have nf := rel.free np
          have s3 : Step F A H (upd F p (.tup (cutV vs lo hi))) A (upd H p (.tup (cutV vs lo hi))) := Step.newF np nf
          exact o (.ref p) _ A _ s3 (rel.newF np) (RF.val (.pure (.tup (.inl (.inl upd_same)) (Nat.le_trans (cutL_len _ _ _) z) ((rr.cut lo hi).mono s3.ex))))
  · have r1 := RF.ofVal r
    cases r1 with
    | pure r1 =>
      cases r1 with
      | @xl a vs ts h z rr =>
        refine .inr ⟨a, vs, rfl, rel.fh.seq h, ?_⟩
        exact (Out.lay s rel (RFs.ofT (rr.cut lo hi)) (by rw [List.length_map]; exact Nat.le_trans (cutL_len _ _ _) z) o).2
  · obtain ⟨a, vs, fs, rfl, ha, z, rr, o⟩ := Out.lstOf o rel r
    refine .inr ⟨a, vs, rfl, SqL.of ha, ?_⟩
    exact (Out.lay s rel (rr.cut lo hi) (Nat.le_trans (cutL_len _ _ _) z) o).2
theorem se_sl {lo hi : Option Expr} {ml mh : M (Option Int)} (ha : SE X ex W a ma) (hl : SO X ex W lo ml) (hh : SO X ex W hi mh) : SE X ex W (.Subscript a (.Slice lo hi none p2) pos) (mSl ma ml mh) :=
  PEw (pe_slice sl_U ha hl hh) fun σ H Q ⟨F, A, st, rel, o⟩ => ⟨F, A, st, rel, Out.bind o fun v x F1 A1 H1 st1 s1 rel1 r1 o1 => by
    refine ⟨F1, A1, st1, rel1, Out.bind o1 fun l l' F2 A2 H2 st2 s2 rel2 r2 o2 => ?_⟩
    refine ⟨F2, A2, st2, rel2, Out.bind o2 fun h h' F3 A3 H3 st3 s3 rel3 r3 o3 => ?_⟩
    subst r2 r3
    exact os_sl ((s1.trans s2).trans s3) rel3 ((r1.step s2).step s3) o3⟩

/-! ### built-ins called by name -/
def CaS (X : Cx) (ex : Ex) (W : WX) (r : List V → Hp → VK → Prop) (op : List FT → M FT) : Prop := ∀ (F : Hp) (A : List Addr) (σ : L2.St) (H H0 : Hp) (F0 : Hp) (A0 : List Addr) (st : SS) (vs : List V) (fs : List FT) (Q : VK), Step F0 A0 H0 F A H → Rel (gx X ex) F A st σ H → RFs (gx X ex) H0 F A H vs fs →
  Out (gx X ex) W (RF (gx X ex) H0) F0 A0 σ H0 (op fs st) Q → r vs H Q
def mCa (op : List FT → M FT) (ms : M (List FT)) : M FT := bd ms op
theorem caOut {r : List V → Hp → VK → Prop} {op : List FT → M FT} (ho : CaS X ex W r op) {σ : L2.St} {H : Hp} {Q : VK} (h : cG (gx X ex) W (RF (gx X ex)) (mCa op ms) σ H Q) : tCB r (cG (gx X ex) W (RFs (gx X ex)) ms) σ H Q := by
  obtain ⟨F, A, st, rel, o⟩ := h
  refine ⟨F, A, st, rel, Out.bind0 o fun vs fs F1 A1 H1 st1 s1 rel1 r1 o1 => ?_⟩
  exact ho F1 A1 σ H1 H F A st1 vs fs Q s1 rel1 r1 o1
theorem se_callB {x : Str} {id : String} {p : Pos} {r : List V → Hp → VK → Prop} {op : List FT → M FT} (hc : CallR X (.builtin id) r) (ho : CaS X ex W r op) (hg : Gl X x) (hm : X.mg x = none) (hv : bootBuiltins x = some (.builtin id)) (ha : SA X ex W (e :: es) ms) (hn : x ≠ "__name__" := by decide) (hdb : (x == ("__debug__" : Str)) = false := by decide)
    (he : starEach (e :: es) X.env = (false, eval e X.env) :: starEach es X.env := by rfl) (hpl : (backTo pos (starEach es X.env)).any (·.1) = false := by rfl) : SE X ex W (.Call (.Name x p) (e :: es) [] pos) (mCa op ms) :=
  PEw (pe_callB hc hg hm hv ha hn hdb he hpl) fun _ _ _ h => caOut ho h
theorem se_callTy {x : Str} {id : String} {p : Pos} {r : List V → Hp → VK → Prop} {op : List FT → M FT} (hc : CallR X (.type id) r) (ho : CaS X ex W r op) (hg : Gl X x) (hm : X.mg x = none) (hv : bootBuiltins x = some (.type id)) (ha : SA X ex W (e :: es) ms) (hn : x ≠ "__name__" := by decide) (hdb : (x == ("__debug__" : Str)) = false := by decide)
    (he : starEach (e :: es) X.env = (false, eval e X.env) :: starEach es X.env := by rfl) (hpl : (backTo pos (starEach es X.env)).any (·.1) = false := by rfl) : SE X ex W (.Call (.Name x p) (e :: es) [] pos) (mCa op ms) :=
  PEw (pe_callTy hc hg hm hv ha hn hdb he hpl) fun _ _ _ h => caOut ho h
/-- one argument of a list of one -/
theorem RFs.isOne {G : Gx} {F : Hp} {A : List Addr} {H H0 : Hp} {vs : List V} {x : FT} (r : RFs G H0 F A H vs [x]) : ∃ v, vs = [v] ∧ RF G H0 F A H v x := by
  have l := r.len
  cases vs with
  | nil => cases l
  | cons v vs =>
    cases vs with
    | nil => exact ⟨v, rfl, r.one⟩
    | cons w ws => simp at l
theorem RFs.isTwo {G : Gx} {F : Hp} {A : List Addr} {H H0 : Hp} {vs : List V} {x y : FT} (r : RFs G H0 F A H vs [x, y]) : ∃ v u, vs = [v, u] ∧ RF G H0 F A H v x ∧ RF G H0 F A H u y := by
  have l := r.len
  cases vs with
  | nil => cases l
  | cons v vs =>
    cases vs with
    | nil => simp at l
    | cons w ws =>
      cases ws with
      | nil => exact ⟨v, w, rfl, r.two.1, r.two.2⟩
      | cons _ _ => simp at l
def bLen : List FT → M FT
  | [.val (.pure (.str s))] => rt (vl (.int s.length))
  | [x] => bd (seqOf x) fun fs => rt (vl (.int fs.length))
  | _ => stuck
theorem ca_len : CaS X ex W (fun xs H Q => ∃ x n, xs = [x] ∧ LenV X.K x H n ∧ Q (.int n) H) bLen := by
  intro F A σ H H0 F0 A0 st vs fs Q s rel r o
  unfold bLen at o
  split at o
  · obtain ⟨v, ev, r0⟩ := r.isOne
    subst ev
    obtain ⟨e1, z1, k1⟩ := r0.str
    subst e1
    exact ⟨_, _, rfl, ⟨by rw [len_arr]; exact z1, (len_arr _).symm⟩, Out.done (o.step s) rel (RF.val (.pure (.int _)))⟩
  · obtain ⟨v, ev, r0⟩ := r.isOne
    subst ev
    obtain ⟨a, ws, gs, rfl, hs, z, rr, o⟩ := Out.seqOf o rel r0
    refine ⟨_, gs.length, rfl, ?_, Out.done (o.step s) rel (RF.val (.pure (.int _)))⟩
    rcases hs with hs | hs
    · exact .inl ⟨ws, hs, rr.len.symm⟩
    · exact .inr ⟨ws, hs, rr.len.symm⟩
  · exact o.elim
def bAbs : List FT → M FT
  | [.val (.pure (.int i))] => rt (vl (.int (if i < 0 then -i else i)))
  | _ => stuck
theorem ca_abs : CaS X ex W (fun xs H Q => ∃ i, xs = [.int i] ∧ Q (.int (if i < 0 then -i else i)) H) bAbs := by
  intro F A σ H H0 F0 A0 st vs fs Q s rel r o
  unfold bAbs at o
  split at o
  · obtain ⟨v, ev, r0⟩ := r.isOne
    subst ev
    have e1 := r0.int
    subst e1
    exact ⟨_, rfl, Out.done (o.step s) rel (RF.val (.pure (.int _)))⟩
  · exact o.elim
def bInt : List FT → M FT
  | [.val (.pure (.int i))] => rt (vl (.int i))
  | [.val (.pure (.bl i))] => rt (vl (.int (if i then 1 else 0)))
  | _ => stuck
theorem ca_int : CaS X ex W (fun xs H Q => (∃ i, xs = [.int i] ∧ Q (.int i) H) ∨ ∃ k, xs = [.bl k] ∧ Q (.int (if k then 1 else 0)) H) bInt := by
  intro F A σ H H0 F0 A0 st vs fs Q s rel r o
  unfold bInt at o
  split at o
  · obtain ⟨v, ev, r0⟩ := r.isOne
    subst ev
    have e1 := r0.int
    subst e1
    exact .inl ⟨_, rfl, Out.done (o.step s) rel (RF.val (.pure (.int _)))⟩
  · obtain ⟨v, ev, r0⟩ := r.isOne
    subst ev
    have e1 := r0.bl
    subst e1
    exact .inr ⟨_, rfl, Out.done (o.step s) rel (RF.val (.pure (.int _)))⟩
  · exact o.elim
def bMax : List FT → M FT
  | [.val (.pure (.int i)), .val (.pure (.int j))] => rt (vl (.int (if j > i then j else i)))
  | _ => stuck
def bMin : List FT → M FT
  | [.val (.pure (.int i)), .val (.pure (.int j))] => rt (vl (.int (if j < i then j else i)))
  | _ => stuck
theorem ca_max : CaS X ex W (fun xs H Q => ∃ i j, xs = [.int i, .int j] ∧ Q (.int (if j > i then j else i)) H) bMax := by
  intro F A σ H H0 F0 A0 st vs fs Q s rel r o
  unfold bMax at o
  split at o
  · obtain ⟨v, u, rfl, r1, r2⟩ := r.isTwo
    have e1 := r1.int
    have e2 := r2.int
    subst e1 e2
    exact ⟨_, _, rfl, Out.done (o.step s) rel (RF.val (.pure (.int _)))⟩
  · exact o.elim
theorem ca_min : CaS X ex W (fun xs H Q => ∃ i j, xs = [.int i, .int j] ∧ Q (.int (if j < i then j else i)) H) bMin := by
  intro F A σ H H0 F0 A0 st vs fs Q s rel r o
  unfold bMin at o
  split at o
  · obtain ⟨v, u, rfl, r1, r2⟩ := r.isTwo
    have e1 := r1.int
    have e2 := r2.int
    subst e1 e2
    exact ⟨_, _, rfl, Out.done (o.step s) rel (RF.val (.pure (.int _)))⟩
  · exact o.elim
/-- list(x) -/
def bList : List FT → M FT
  | [x] => bd (seqOf x) fun fs => rt (.new fs)
  | _ => stuck
theorem ca_list : CaS X ex W (fun xs H Q => ∃ p ys, xs = [.ref p] ∧ (SqL X.K H p ys ∨ SqT X.K H p ys) ∧ ∀ l, H l = none → Q (.ref l) (upd H l (.lst ys))) bList := by
  intro F A σ H H0 F0 A0 st vs fs Q s rel r o
  unfold bList at o
  split at o
  · obtain ⟨v, ev, r0⟩ := r.isOne
    subst ev
    obtain ⟨a, ws, gs, rfl, hs, z, rr, o⟩ := Out.seqOf o rel r0
    exact ⟨a, ws, rfl, hs, (Out.lay s rel rr z (o.step s)).2⟩
  · exact o.elim
/-- tuple(x) -/
def bTup : List FT → M FT
  | [.val (.pure (.tup ts))] => rt (vl (.tup ts))
  | [x] => bd (lstOf x) fun fs => rt (.val (mkTup (fs.map fz)))
  | _ => stuck
theorem ca_tup : CaS X ex W (fun xs H Q => ∃ p ys, xs = [.ref p] ∧ ((SqL X.K H p ys ∧ ∀ l, H l = none → Q (.ref l) (upd H l (.tup ys))) ∨ (SqT X.K H p ys ∧ Q (.ref p) H))) bTup := by
  intro F A σ H H0 F0 A0 st vs fs Q s rel r o
  unfold bTup at o
  split at o
  · obtain ⟨v, ev, r0⟩ := r.isOne
    subst ev
    have r1 := RF.ofVal r0
    cases r1 with
    | pure r1 => cases r1 with | @tup a vs ts h z rr => exact ⟨a, vs, rfl, .inr ⟨seqT rel.fh h, Out.done (o.step s) rel (RF.val (.pure (.tup h z rr)))⟩⟩
  · obtain ⟨v, ev, r0⟩ := r.isOne
    subst ev
    obtain ⟨a, ws, gs, rfl, ha, z, rr, o⟩ := Out.lstOf o rel r0
    exact ⟨a, ws, rfl, .inl ⟨SqL.of ha, (Out.layT s rel rr z o).2⟩⟩
  · exact o.elim
/-- a list that may be locked -/
def lsqOf (f : FT) : M (List FT) := fun st => match f with
  | .val (.pure (.xl ts)) => .ok (ts.map fun t => .val (.pure t)) st
  | f => lstOf f st
theorem Out.lsqOf {γ δ : Type} {G : Gx} {F : Hp} {A : List Addr} {H H0 : Hp} {st : SS} {σ : L2.St} {f : FT} {k : List FT → M γ} {R : Hp → List Addr → Hp → δ → γ → Prop} {Q : δ → Hp → Prop} {v : V} {F0 : Hp} {A0 : List Addr} {Hs : Hp} (o : Out G W R F0 A0 σ Hs (bd (Ob.lsqOf f) k st) Q) (rel : Rel G F A st σ H) (r : RF G H0 F A H v f) :
    ∃ a vs fs, v = .ref a ∧ SqL G.K H a vs ∧ fs.length ≤ sizeLine ∧ RFs G H0 F A H vs fs ∧ Out G W R F0 A0 σ Hs (k fs st) Q := by
  by_cases c : ∃ ts, f = .val (.pure (.xl ts))
  · obtain ⟨ts, rfl⟩ := c
    have r' := RF.ofVal r
    cases r' with
    | pure r' => cases r' with | @xl a vs ts h z rr => exact ⟨a, vs, _, rfl, rel.fh.seq h, by simpa using z, RFs.ofT rr, o⟩
  · have e : Ob.lsqOf f = Ob.lstOf f := by
      funext st
      unfold Ob.lsqOf
      split
      · rename_i ts
        exact absurd ⟨ts, rfl⟩ c
      · rfl
    rw [e] at o
    obtain ⟨a, vs, fs, e1, ha, z, rr, o⟩ := Out.lstOf o rel r
    exact ⟨a, vs, fs, e1, SqL.of ha, z, rr, o⟩
def bols : List T → Option (List Bool)
  | [] => some []
  | .bl b :: r => (bols r).map (b :: ·)
  | _ :: _ => none
theorem bols_map : ∀ bs : List Bool, bols (bs.map T.bl) = some bs
  | [] => rfl
  | b :: r => by show (bols (r.map T.bl)).map (b :: ·) = _; rw [bols_map r]; rfl
theorem RepTs.bols {K : PySem.W.Frag} {F : Hp} : ∀ {vs : List V} {ts : List T} {bs : List Bool}, RepTs K F vs ts → Ob.bols ts = some bs → vs = bs.map V.bl
  | _, _, bs, .nil, e => by cases e; rfl
  | _, _, bs, @RepTs.cons _ _ v vs t ts h r, e => by
    cases t with
    | bl b =>
      have e' : (Ob.bols ts).map (b :: ·) = some bs := e
      cases q : Ob.bols ts with
      | none => rw [q] at e'; cases e'
      | some cs =>
        rw [q] at e'
        cases e'
        cases h
        rw [RepTs.bols r q]; rfl
    | _ => cases e
def nums : List T → Option (List Int)
  | [] => some []
  | .int b :: r => (nums r).map (b :: ·)
  | _ :: _ => none
theorem nums_map : ∀ bs : List Int, nums (bs.map T.int) = some bs
  | [] => rfl
  | b :: r => by show (nums (r.map T.int)).map (b :: ·) = _; rw [nums_map r]; rfl
theorem RepTs.nums {K : PySem.W.Frag} {F : Hp} : ∀ {vs : List V} {ts : List T} {bs : List Int}, RepTs K F vs ts → Ob.nums ts = some bs → vs = bs.map V.int
  | _, _, bs, .nil, e => by cases e; rfl
  | _, _, bs, @RepTs.cons _ _ v vs t ts h r, e => by
    cases t with
    | int b =>
      have e' : (Ob.nums ts).map (b :: ·) = some bs := e
      cases q : Ob.nums ts with
      | none => rw [q] at e'; cases e'
      | some cs =>
        rw [q] at e'
        cases e'
        cases h
        rw [RepTs.nums r q]; rfl
    | _ => cases e
def strs' : List T → Option (List (List Nat))
  | [] => some []
  | .str b :: r => (strs' r).map (b :: ·)
  | _ :: _ => none
theorem strs_map : ∀ bs : List (List Nat), strs' (bs.map T.str) = some bs
  | [] => rfl
  | b :: r => by show (strs' (r.map T.str)).map (b :: ·) = _; rw [strs_map r]; rfl
theorem RepTs.strs' {K : PySem.W.Frag} {F : Hp} : ∀ {vs : List V} {ts : List T} {bs : List (List Nat)}, RepTs K F vs ts → Ob.strs' ts = some bs → vs = (bs.map fun s => (⟨s.toArray⟩ : Str)).map V.str ∧ ∀ s ∈ bs, SOK s = true
  | _, _, bs, .nil, e => by cases e; exact ⟨rfl, by simp⟩
  | _, _, bs, @RepTs.cons _ _ v vs t ts h r, e => by
    cases t with
    | str b =>
      have e' : (Ob.strs' ts).map (b :: ·) = some bs := e
      cases q : Ob.strs' ts with
      | none => rw [q] at e'; cases e'
      | some cs =>
        rw [q] at e'
        cases e'
        cases h with
        | str _ z ok =>
          obtain ⟨h1, h2⟩ := RepTs.strs' r q
          rw [h1]
          exact ⟨rfl, fun s hs => (List.mem_cons.mp hs).elim (fun e => e ▸ ok) (h2 s)⟩
    | _ => cases e
def bAll (an : Bool) : List FT → M FT
  | [x] => bd (lsqOf x) fun fs => bd (mpurs fs) fun ts => bd (mo (bols ts)) fun bs => rt (vl (.bl (if an then bs.any id else bs.all id)))
  | _ => stuck
theorem ca_all : CaS X ex W (rAll X.K) (bAll false) := by
  intro F A σ H H0 F0 A0 st vs fs Q s rel r o
  unfold bAll at o
  split at o
  · obtain ⟨v, ev, r0⟩ := r.isOne
    subst ev
    obtain ⟨a, ws, gs, rfl, ha, z, rr, o⟩ := Out.lsqOf o rel r0
    obtain ⟨ts, et, rt, o⟩ := Out.mpurs o rr
    obtain ⟨bs, eb, o⟩ := Out.mo o
    have e := rt.bols eb
    subst e
    exact ⟨a, bs, rfl, ha, Out.done (o.step s) rel (RF.val (.pure (.bl _)))⟩
  · exact o.elim
theorem ca_any : CaS X ex W (rAny X.K) (bAll true) := by
  intro F A σ H H0 F0 A0 st vs fs Q s rel r o
  unfold bAll at o
  split at o
  · obtain ⟨v, ev, r0⟩ := r.isOne
    subst ev
    obtain ⟨a, ws, gs, rfl, ha, z, rr, o⟩ := Out.lsqOf o rel r0
    obtain ⟨ts, et, rt, o⟩ := Out.mpurs o rr
    obtain ⟨bs, eb, o⟩ := Out.mo o
    have e := rt.bols eb
    subst e
    exact ⟨a, bs, rfl, ha, Out.done (o.step s) rel (RF.val (.pure (.bl _)))⟩
  · exact o.elim
def bSum : List FT → M FT
  | [x] => bd (lsqOf x) fun fs => bd (mpurs fs) fun ts => bd (mo (nums ts)) fun bs => rt (vl (.int bs.sum))
  | _ => stuck
theorem ca_sum : CaS X ex W (rSum X.K) bSum := by
  intro F A σ H H0 F0 A0 st vs fs Q s rel r o
  unfold bSum at o
  split at o
  · obtain ⟨v, ev, r0⟩ := r.isOne
    subst ev
    obtain ⟨a, ws, gs, rfl, ha, z, rr, o⟩ := Out.lsqOf o rel r0
    obtain ⟨ts, et, rt, o⟩ := Out.mpurs o rr
    obtain ⟨bs, eb, o⟩ := Out.mo o
    have e := rt.nums eb
    subst e
    exact ⟨a, bs, rfl, ha, Out.done (o.step s) rel (RF.val (.pure (.int _)))⟩
  · exact o.elim
end
end Ob
/-! # Ob8: isinstance, methods of texts, written dicts, changed cells -/
namespace Ob
open PySem PySem.Spec PyProof.Rows L2

/-! ### isinstance -/
inductive Ty where
  | non | bl | int | str | lst | tup | dct
  deriving DecidableEq
def Ty.nm : Ty → String
  | .non => "NoneType" | .bl => "bool" | .int => "int" | .str => "str" | .lst => "list" | .tup => "tuple" | .dct => "dict"
def isa (a b : Ty) : Bool := decide (a = b) || (decide (a = .bl) && decide (b = .int))
theorem isa_ok : ∀ a b : Ty, b ≠ .non → kitB a.nm b.nm = some (isa a b) := by
  intro a b h
  cases b with
  | non => exact absurd rfl h
  | bl => cases a <;> decide +kernel
  | int => cases a <;> decide +kernel
  | str => cases a <;> decide +kernel
  | lst => cases a <;> decide +kernel
  | tup => cases a <;> decide +kernel
  | dct => cases a <;> decide +kernel
def tyT : T → Ty
  | .non => .non | .bl _ => .bl | .int _ => .int | .str _ => .str | .lst _ => .lst | .xl _ => .lst | .tup _ => .tup | .dct _ _ => .dct
def mTy (f : FT) : M Ty := fun st => match f with
  | .new _ => .ok .lst st
  | .val (.pure t) => .ok (tyT t) st
  | .val (.lst _) => .ok .lst st
  | .val (.tup _) => .ok .tup st
  | .val (.cell k) => match st.s[k]? with
    | some (some _) => .ok .lst st
    | _ => .stuck
section
variable {K : PySem.W.Frag} {F H : Hp}
theorem tyx_l {a : Addr} {vs : List V} (h : SqL K H a vs) : TyX K H (.ref a) (.type "list") := by
  rcases h with (h | ⟨o, h⟩) | ⟨o, its, n, h, c, _⟩
  · exact .base (.lst h)
  · exact .base (.frz h)
  · exact .kList h c
theorem tyx_t {a : Addr} {vs : List V} (h : SqT K H a vs) : TyX K H (.ref a) (.type "tuple") := by
  rcases h with (h | ⟨o, h⟩) | ⟨o, its, n, h, c, _⟩
  · exact .base (.tup h)
  · exact .fTuple h
  · exact .kTuple h c
theorem RepT.tyx (e : Same F H) {v : V} {t : T} (r : RepT K F v t) : TyX K H v (.type (tyT t).nm) := by
  cases r with
  | non => exact .base .non
  | bl b => exact .base (.bl b)
  | int i => exact .base (.int i)
  | str s _ _ => exact .base (.str _)
  | lst h _ _ => exact tyx_l (SqL.of (e _ _ h))
  | xl h _ _ => exact tyx_l (e.seq h)
  | tup h _ _ => exact tyx_t (seqT e h)
  | dnil h => exact .base (.dK (e _ _ h))
end
theorem Out.mTy {γ δ : Type} {G : Gx} {W : WX} {F : Hp} {A : List Addr} {H H0 : Hp} {st : SS} {σ : L2.St} {f : FT} {k : Ty → M γ} {R : Hp → List Addr → Hp → δ → γ → Prop} {Q : δ → Hp → Prop} {v : V} {F0 : Hp} {A0 : List Addr} {Hs : Hp} (o : Out G W R F0 A0 σ Hs (bd (Ob.mTy f) k st) Q) (rel : Rel G F A st σ H) (r : RF G H0 F A H v f) :
    ∃ t, TyX G.K H v (.type (Ty.nm t)) ∧ Out G W R F0 A0 σ Hs (k t st) Q := by
  unfold bd Ob.mTy at o
  cases f with
  | new fs =>
    obtain ⟨P, rp, _, _⟩ := r
    cases rp with
    | new h _ _ _ _ => exact ⟨.lst, tyx_l (SqL.of h), o⟩
  | val d =>
    have r' := RF.ofVal r
    cases r' with
    | pure h => exact ⟨_, h.tyx rel.fh, o⟩
    | lst h _ _ => exact ⟨.lst, tyx_l (SqL.of (rel.fh _ _ h)), o⟩
    | tup h _ _ => exact ⟨.tup, tyx_t (seqT rel.fh h), o⟩
    | @cell a kk ha =>
      cases hc : st.s[kk]? with
      | none => simp only [hc] at o; exact o.elim
      | some oc =>
        cases oc with
        | none => simp only [hc] at o; exact o.elim
        | some c =>
          simp only [hc] at o
          obtain ⟨_, vs, h2, _, _⟩ := rel.cel kk a c ha hc
          exact ⟨.lst, tyx_l (SqL.of h2), o⟩
def mIsi (c : Ty) (m : M FT) : M FT := bd m fun x => bd (mTy x) fun t => rt (vl (.bl (isa t c)))
def mIsiT (cs : List Ty) (m : M FT) : M FT := bd m fun x => bd (mTy x) fun t => rt (vl (.bl (cs.any (isa t))))
section
variable {X : Cx} {ex : Ex} {W : WX} {a b e : Expr} {ma mb m : M FT} {es : List Expr} {ms : M (List FT)} {pos p p2 p3 : Pos}
theorem boot_isi : bootBuiltins "isinstance" = some (.builtin "isinstance") := by decide +kernel
/-- the name of a built-in class -/
structure TyNm (X : Cx) (x : Str) (c : Ty) : Prop where
  g : Gl X x
  m : X.mg x = none
  b : bootBuiltins x = some (.type c.nm)
  n : x ≠ "__name__"
  d : (x == ("__debug__" : Str)) = false
  nn : c ≠ .non
theorem se_isi {x : Str} {c : Ty} (hg : Gl X "isinstance") (hm : X.mg "isinstance" = none) (t : TyNm X x c) (ha : SE X ex W a m) (hs : starEach [a, .Name x p2] X.env = (false, eval a X.env) :: starEach [.Name x p2] X.env := by rfl) (hs2 : starEach [.Name x p2] X.env = (false, eval (.Name x p2) X.env) :: starEach [] X.env := by rfl)
    (hpl : (backTo pos (starEach [.Name x p2] X.env)).any (·.1) = false := by rfl) : SE X ex W (.Call (.Name "isinstance" p) [a, .Name x p2] [] pos) (mIsi c m) := by
  refine PEw (pe_callB call_isi hg hm boot_isi (pa_cons ha (pa_cons (pe_bltn t.g t.m t.b (v := .ty c.nm) rfl t.n t.d) pa_nil hs2) hs) (he := hs) (hpl := hpl)) fun σ H Q ⟨F, A, st, rel, o⟩ => ?_
  refine ⟨F, A, st, rel, Out.bind o fun v f F1 A1 H1 st1 s1 rel1 r1 o1 => ?_⟩
  obtain ⟨ty, tx, o1⟩ := Out.mTy o1 rel1 r1
  exact ⟨v, .ty c.nm, _, _, _, rfl, .ty _, tx, kit_ty (isa_ok ty c t.nn), Out.done o1 rel1 (RF.val (.pure (.bl _)))⟩
theorem kitAny_of {K : PySem.W.Frag} (t : Ty) : ∀ cs : List Ty, (∀ c ∈ cs, c ≠ .non) → PySem.W.kitAny K (.type t.nm) (cs.map fun c => Value.type c.nm) = some (cs.any (isa t))
  | [], _ => kitAny_nil
  | c :: r, h => by
    rw [List.any_cons]
    refine kitAny_cons (kit_ty (isa_ok t c (h c List.mem_cons_self))) (fun e => ?_) (fun e => by rw [e]; rfl)
    rw [e, Bool.false_or]
    exact kitAny_of t r fun c' hc => h c' (List.mem_cons_of_mem _ hc)
theorem se_isiT2 {x y : Str} {c d : Ty} {k : Nat} {p4 : Pos} (hg : Gl X "isinstance") (hm : X.mg "isinstance" = none) (t : TyNm X x c) (u : TyNm X y d) (ha : SE X ex W a m)
    (hs : starEach [a, .Tuple [.Name x p2, .Name y p3] k p4] X.env = (false, eval a X.env) :: starEach [.Tuple [.Name x p2, .Name y p3] k p4] X.env := by rfl)
    (hs2 : starEach [.Tuple [.Name x p2, .Name y p3] k p4] X.env = (false, eval (.Tuple [.Name x p2, .Name y p3] k p4) X.env) :: starEach [] X.env := by rfl)
    (hs3 : starEach [.Name x p2, .Name y p3] X.env = (false, eval (.Name x p2) X.env) :: starEach [.Name y p3] X.env := by rfl) (hs4 : starEach [.Name y p3] X.env = (false, eval (.Name y p3) X.env) :: starEach [] X.env := by rfl)
    (hpl : (backTo pos (starEach [.Tuple [.Name x p2, .Name y p3] k p4] X.env)).any (·.1) = false := by rfl) : SE X ex W (.Call (.Name "isinstance" p) [a, .Tuple [.Name x p2, .Name y p3] k p4] [] pos) (mIsiT [c, d] m) := by
  refine PEw (pe_callB call_isiT hg hm boot_isi (pa_cons ha (pa_cons (pe_tup (pa_cons (pe_bltn t.g t.m t.b (v := .ty c.nm) rfl t.n t.d) (pa_cons (pe_bltn u.g u.m u.b (v := .ty d.nm) rfl u.n u.d) pa_nil hs4) hs3)) pa_nil hs2) hs) (he := hs) (hpl := hpl)) fun σ H Q ⟨F, A, st, rel, o⟩ => ?_
  refine ⟨F, A, st, rel, Out.bind o fun v f F1 A1 H1 st1 s1 rel1 r1 o1 => ?_⟩
  refine ⟨by show 2 ≤ sizeLine; rw [sizeLine_eq]; decide, fun q hq => ?_⟩
  have s2 : Step F1 A1 H1 F1 A1 (upd H1 q (.tup [.ty c.nm, .ty d.nm])) := Step.newH hq
  obtain ⟨ty, tx, o2⟩ := Out.mTy (o1.step s2) (rel1.newH hq) (r1.step s2)
  refine ⟨v, q, [.ty c.nm, .ty d.nm], _, _, _, rfl, upd_same, .cons (.ty _) (.cons (.ty _) .nil), tx, kitAny_of ty [c, d] ?_, Out.done o2 (rel1.newH hq) (RF.val (.pure (.bl _)))⟩
  intro z hz
  rcases List.mem_cons.mp hz with e | hz
  · rw [e]; exact t.nn
  · rw [List.mem_singleton.mp hz]; exact u.nn

/-! ### methods of texts -/
def isStr : FT → Bool
  | .val (.pure (.str _)) => true
  | _ => false
def MS (X : Cx) (ex : Ex) (W : WX) (r : V → List V → Hp → VK → Prop) (op : FT → List FT → M FT) : Prop := ∀ (F : Hp) (A : List Addr) (σ : L2.St) (H H0 : Hp) (F0 : Hp) (A0 : List Addr) (st : SS) (v : V) (vs : List V) (x : FT) (fs : List FT) (Q : VK), Step F0 A0 H0 F A H → Rel (gx X ex) F A st σ H →
  RF (gx X ex) H0 F A H v x → RFs (gx X ex) H0 F A H vs fs → Out (gx X ex) W (RF (gx X ex) H0) F0 A0 σ H0 (op x fs st) Q → r v vs H Q
def mMs (op : FT → List FT → M FT) (mo : M FT) (ms : M (List FT)) : M FT := bd mo fun x => bd (guard (isStr x)) fun _ => bd ms fun fs => op x fs
theorem se_bmS {o : Expr} {mo : M FT} {name : Str} {id : String} {apos cpos : Pos} {r : V → List V → Hp → VK → Prop} {op : FT → List FT → M FT} (slot : Slot "str" name id) (hty : typeOf (.builtin id) = pure (.type "method_descriptor")) (hm : MtR X id r) (hop : MS X ex W r op) (ho : SE X ex W o mo) (ha : SA X ex W (e :: es) ms)
    (hbase : attributeBase o name X.env (eval o X.env) = eval o X.env := by rfl)
    (hfew : ((backTo cpos (starEach (e :: es) X.env)).all (fun x => !x.1) && (backToKw cpos (keywordEach [] X.env)).all (fun x => x.1.isSome) && decide ((e :: es).length + ([] : List Keyword).length + (if ([] : List Keyword).isEmpty then 0 else 1) < 30)) = true := by rfl)
    (hline : (apos.endLine == cpos.line) = true := by rfl) (hs : starEach (e :: es) X.env = (false, eval e X.env) :: starEach es X.env := by rfl) (hplain : (backTo cpos (starEach es X.env)).any (·.1) = false := by rfl) :
    SE X ex W (.Call (.Attribute o name apos) (e :: es) [] cpos) (mMs op mo ms) :=
  PEw (pe_bm PySem.F.plainAttrs_str slot hty hm ho ha hbase hfew hline hs hplain) fun σ H Q ⟨F, A, st, rel, q⟩ => ⟨F, A, st, rel, Out.bind0 q fun v x F1 A1 H1 st1 s1 rel1 r1 o1 => by
    obtain ⟨g, o1⟩ := o1.guard
    refine ⟨?_, F1, A1, st1, rel1, Out.bindS o1 s1 fun vs fs F2 A2 H2 st2 s2 rel2 r2 o2 => ?_⟩
    · unfold isStr at g
      split at g
      · rw [r1.str.1]; rfl
      · cases g
    · exact hop F2 A2 σ H2 H F A st2 v vs x fs Q (s1.trans s2) rel2 (r1.step s2) (r2.start s1) o2⟩
/-- sep.join(xs) -/
def oJoin (x : FT) (fs : List FT) : M FT := match x, fs with
  | .val (.pure (.str sep)), [f] => bd (seqOf f) fun gs => bd (mpurs gs) fun ts => bd (mo (strs' ts)) fun ss =>
    bd (guard (decide ((ss.map List.length).sum + ss.length * sep.length ≤ lim))) fun _ => rt (vl (.str (TL.joinL sep ss)))
  | _, _ => stuck
theorem joinL_len (sep : List Nat) : ∀ ss : List (List Nat), (TL.joinL sep ss).length ≤ (ss.map List.length).sum + ss.length * sep.length
  | [] => Nat.zero_le _
  | [p] => by
    show p.length ≤ _
    simp
  | p :: q :: r => by
    have h := joinL_len sep (q :: r)
    show (p ++ (sep ++ TL.joinL sep (q :: r))).length ≤ _
    rw [List.length_append, List.length_append, List.map_cons, List.sum_cons, List.length_cons, Nat.succ_mul]
    omega
theorem joinL_sok {sep : List Nat} (k : SOK sep = true) : ∀ {ss : List (List Nat)}, (∀ s ∈ ss, SOK s = true) → SOK (TL.joinL sep ss) = true
  | [], _ => rfl
  | [p], h => h p List.mem_cons_self
  | p :: q :: r, h => sok_app (h p List.mem_cons_self) (sok_app k (joinL_sok k fun s hs => h s (List.mem_cons_of_mem _ hs)))
theorem join_mk (sep : List Nat) (ss : List (List Nat)) : Txt.join ⟨sep.toArray⟩ (ss.map fun s => (⟨s.toArray⟩ : Str)) = ⟨(TL.joinL sep ss).toArray⟩ := by
  have h := TL.tl_join ⟨sep.toArray⟩ (ss.map fun s => (⟨s.toArray⟩ : Str))
  rw [← TL.join_eq] at h
  have e : (ss.map fun s => (⟨s.toArray⟩ : Str)).map TL.tl = ss := by
    rw [List.map_map]
    have : (TL.tl ∘ fun s : List Nat => (⟨s.toArray⟩ : Str)) = id := by
      funext s
      show (s.toArray).toList = s
      simp
    rw [this, List.map_id]
  rw [e] at h
  have e2 : TL.tl ⟨sep.toArray⟩ = sep := by show (sep.toArray).toList = sep; simp
  rw [e2] at h
  rw [← h]
theorem ms_join : MS X ex W (fun x xs H Q => ∃ a p, ∃ ys : List Str, x = .str a ∧ xs = [.ref p] ∧ (SqL X.K H p (ys.map V.str) ∨ SqT X.K H p (ys.map V.str)) ∧ (ys.map (·.length)).sum + ys.length * a.length ≤ 16777216 ∧ Q (.str (Txt.join a ys)) H) oJoin := by
  intro F A σ H H0 F0 A0 st v vs x fs Q s rel rx r o
  unfold oJoin at o
  split at o
  · rename_i sep f
    obtain ⟨e1, z1, k1⟩ := rx.str
    subst e1
    obtain ⟨u, eu, r0⟩ := r.isOne
    subst eu
    obtain ⟨a, ws, gs, rfl, hs, z, rr, o⟩ := Out.seqOf o rel r0
    obtain ⟨ts, et, rt, o⟩ := Out.mpurs o rr
    obtain ⟨ss, es, o⟩ := Out.mo o
    obtain ⟨g, o⟩ := o.guard
    obtain ⟨e2, k2⟩ := rt.strs' es
    subst e2
    refine ⟨_, a, _, rfl, rfl, hs, ?_, ?_⟩
    · rw [List.map_map, List.length_map, len_arr]
      have e : ((fun x : Str => x.length) ∘ fun s : List Nat => (⟨s.toArray⟩ : Str)) = List.length := by
        funext s
        exact len_arr s
      rw [e]
      exact Nat.le_trans (of_decide_eq_true g) (by decide)
    · rw [join_mk]
      exact Out.done (o.step s) rel (RF.val (.pure (.str _ (Nat.le_trans (joinL_len _ _) (lim_le g)) (joinL_sok k1 k2))))
  · exact o.elim
theorem se_join {o : Expr} {mo : M FT} {apos cpos : Pos} (ho : SE X ex W o mo) (ha : SA X ex W [e] ms) (hbase : attributeBase o "join" X.env (eval o X.env) = eval o X.env := by rfl)
    (hfew : ((backTo cpos (starEach [e] X.env)).all (fun x => !x.1) && (backToKw cpos (keywordEach [] X.env)).all (fun x => x.1.isSome) && decide ([e].length + ([] : List Keyword).length + (if ([] : List Keyword).isEmpty then 0 else 1) < 30)) = true := by rfl)
    (hline : (apos.endLine == cpos.line) = true := by rfl) (hs : starEach [e] X.env = (false, eval e X.env) :: starEach [] X.env := by rfl) (hplain : (backTo cpos (starEach [] X.env)).any (·.1) = false := by rfl) :
    SE X ex W (.Call (.Attribute o "join" apos) [e] [] cpos) (mMs oJoin mo ms) := se_bmS PySem.F.slot_str_join PySem.F.type_str_join mt_join ms_join ho ha hbase hfew hline hs hplain
/-- s.index(t) -/
def idxS (s t : List Nat) : Option Nat := (Builtin.Str.occurrences ⟨s.toArray⟩ ⟨t.toArray⟩ 0 s.length 1).head?
def oIdx (x : FT) (fs : List FT) : M FT := match x, fs with
  | .val (.pure (.str s)), [.val (.pure (.str t))] => bd (mo (idxS s t)) fun i => rt (vl (.int i))
  | _, _ => stuck
theorem ms_idx : MS X ex W (fun x xs H Q => ∃ a b i rest, x = .str a ∧ xs = [.str b] ∧ Builtin.Str.occurrences a b 0 a.length 1 = i :: rest ∧ Q (.int (i : Nat)) H) oIdx := by
  intro F A σ H H0 F0 A0 st v vs x fs Q s rel rx r o
  unfold oIdx at o
  split at o
  · rename_i s0 t0
    obtain ⟨e1, z1, k1⟩ := rx.str
    subst e1
    obtain ⟨u, eu, r0⟩ := r.isOne
    subst eu
    obtain ⟨e2, z2, k2⟩ := r0.str
    subst e2
    obtain ⟨i, hi, o⟩ := Out.mo o
    unfold idxS at hi
    cases q : Builtin.Str.occurrences ⟨s0.toArray⟩ ⟨t0.toArray⟩ 0 s0.length 1 with
    | nil => rw [q] at hi; cases hi
    | cons j rest =>
      rw [q] at hi
      cases hi
      exact ⟨_, _, _, rest, rfl, rfl, by rw [len_arr]; exact q, Out.done (o.step s) rel (RF.val (.pure (.int _)))⟩
  · exact o.elim
theorem se_idx {o : Expr} {mo : M FT} {apos cpos : Pos} (ho : SE X ex W o mo) (ha : SA X ex W [e] ms) (hbase : attributeBase o "index" X.env (eval o X.env) = eval o X.env := by rfl)
    (hfew : ((backTo cpos (starEach [e] X.env)).all (fun x => !x.1) && (backToKw cpos (keywordEach [] X.env)).all (fun x => x.1.isSome) && decide ([e].length + ([] : List Keyword).length + (if ([] : List Keyword).isEmpty then 0 else 1) < 30)) = true := by rfl)
    (hline : (apos.endLine == cpos.line) = true := by rfl) (hs : starEach [e] X.env = (false, eval e X.env) :: starEach [] X.env := by rfl) (hplain : (backTo cpos (starEach [] X.env)).any (·.1) = false := by rfl) :
    SE X ex W (.Call (.Attribute o "index" apos) [e] [] cpos) (mMs oIdx mo ms) := se_bmS PySem.F.slot_str_index PySem.F.type_str_index mt_sindex ms_idx ho ha hbase hfew hline hs hplain

/-! ### a dict of the module's top, by its texts; {} -/
def kGet (tab : List (List Nat × T)) (x : FT) : M FT := match x with
  | .val (.pure (.str s)) => bd (mo (tab.lookup s)) fun t => rt (vl t)
  | _ => stuck
structure KTab (X : Cx) (a : Addr) (tab : List (List Nat × T)) : Prop where
  at_ : ∀ s t, tab.lookup s = some t → ∃ v, KDct X.K X.w a ⟨s.toArray⟩ v ∧ ∀ F, RepT X.K F v t
theorem se_kget {x : Str} {q : Addr} {tab : List (List Nat × T)} (hg : Gl X x) (hm : X.mg x = some (.ref q)) (kt : KTab X q tab) (hb : SE X ex W b mb) (hs : PlainIx b := by exact fun _ _ => rfl) (hd : (x == ("__debug__" : Str)) = false := by decide) :
    SE X ex W (.Subscript (.Name x p) b pos) (m1 (kGet tab) mb) :=
  PEw (pe_ix ix_kdict (pe_glob (v := .ref q) hg hm rfl hd) hb hs) fun σ H Q ⟨F, A, st, rel, o⟩ => ⟨F, A, st, rel, Out.bind o fun v f F1 A1 H1 st1 s1 rel1 r1 o1 => by
    unfold kGet at o1
    split at o1
    · obtain ⟨e1, z1, k1⟩ := r1.str
      subst e1
      obtain ⟨t, ht, o1⟩ := Out.mo o1
      obtain ⟨w, hw, rw⟩ := kt.at_ _ t ht
      exact ⟨q, _, w, rfl, rfl, hw, Out.done o1 rel1 (RF.val (.pure (rw F1)))⟩
    · exact o1.elim⟩
theorem se_dnil : SE X ex W (.Dict [] [] pos) (rt (vl (.dct [] []))) :=
  PEw pe_dnewK fun σ H Q ⟨F, A, st, rel, o⟩ d hd => by
    have nf := rel.free hd
    have s3 : Step F A H (upd F d (.dK [])) A (upd H d (.dK [])) := Step.newF hd nf
    exact o (.ref d) _ A _ s3 (rel.newF hd) (RF.val (.pure (.dnil upd_same)))
end
end Ob
/-! # Ob9: walks of lists, tuples, texts, also by enumerate and zip -/
namespace Ob
open PySem PySem.Spec PyProof.Rows L2

/-- a sequence that is walked: 0 a list, 1 a tuple, 2 a text -/
inductive Sq (K : PySem.W.Frag) (H : Hp) : Nat → V → List V → Prop
  | lst {a : Addr} {xs : List V} (h : SqL K H a xs) : Sq K H 0 (.ref a) xs
  | tup {a : Addr} {xs : List V} (h : SqT K H a xs) : Sq K H 1 (.ref a) xs
  | str (x : Str) : Sq K H 2 (.str x) (x.cps.toList.map fun c => V.str ⟨#[c]⟩)
/-- the iterator at it of the value u, i items drawn -/
def AtI (k : Nat) (it : Addr) (i : Nat) (h : Heap) : Value → Prop
  | .ref a => if k = 0 then h.IsListIter it a i else h.IsTupleIter it a i
  | .str x t => h.IsStrIter it (strIterType x) x t i
  | _ => False
theorem AtI.at {k : Nat} {it : Addr} {i : Nat} {h h' : Heap} {u : Value} (x : AtI k it i h u) (e : ∀ o, h.get? it = some o → h'.get? it = some o) : AtI k it i h' u := by
  cases u with
  | ref a =>
    by_cases z : k = 0
    · simp only [AtI, if_pos z] at x ⊢; exact x.at e
    · simp only [AtI, if_neg z] at x ⊢; exact x.at e
  | str z t => obtain ⟨o, ho, r⟩ := x; exact ⟨o, e o ho, r⟩
  | _ => exact x.elim
theorem AtI.rec {k : Nat} {it : Addr} {i : Nat} {h : Heap} {u : Value} (x : AtI k it i h u) : ∃ o, h.get? it = some o ∧ ∀ v, o.data ≠ .cell v := by
  cases u with
  | ref a =>
    by_cases z : k = 0
    · simp only [AtI, if_pos z] at x
      obtain ⟨o, e, c, d⟩ := x
      exact ⟨o, e, fun v q => by rw [d] at q; cases q⟩
    · simp only [AtI, if_neg z] at x
      obtain ⟨o, e, c, d⟩ := x
      exact ⟨o, e, fun v q => by rw [d] at q; cases q⟩
  | str z t => obtain ⟨o, e, c, d⟩ := x; exact ⟨o, e, fun v q => by rw [d] at q; cases q⟩
  | _ => exact x.elim
section
variable {X : Cx} {pins : List (Addr × Obj)} {σ : L2.St} {H : Hp} {s : Shared}
theorem drawn {A : Around} (I : Inv X pins σ H s) (hh : A.handled = none) {k : Nat} {it : Addr} {i : Nat} {v : V} {u : Value} {xs : List V} (q : Sq X.K H k v xs) (r : RelV v u) (st : AtI k it i s.heap u) (ne : ∀ a, v = .ref a → a ≠ it) :
    ∃ (fp : List Addr) (Pd : Nat → Value → Prop) (S : Nat → Heap → Prop), Draws X.prog X.w A it fp xs.length Pd S ∧ it ∈ fp ∧ (∀ b ∈ fp, b = it ∨ v = .ref b) ∧ S i s.heap ∧ (∀ j h', S j h' → AtI k it j h' u) ∧
      (∀ j x, Pd j x → ∃ y, xs[j]? = some y ∧ RelV y x) := by
  cases q with
  | @lst a xs h =>
    obtain rfl : u = .ref a := r
    obtain ⟨its, rv, p, hz⟩ := I.list h
    have e : xs.length = its.toArray.size := by simp [rv.length]
    have D := Draws.list (prog := X.prog) (w := X.w) hh it a (ne a rfl) its.toArray
    rw [← e] at D
    refine ⟨_, _, _, D, by simp, fun b hb => ?_, ⟨st, p.isList⟩, fun j h' x => x.1, fun j x hx => ?_⟩
    · rcases List.mem_cons.mp hb with z | hb
      · exact .inl z
      · rw [List.mem_singleton.mp hb]; exact .inr rfl
    · have hx' : its[j]? = some x := by simpa using hx
      have hj : j < xs.length := by rw [rv.length]; exact (List.getElem?_eq_some_iff.mp hx').1
      obtain ⟨y, hy, ry⟩ := rv.get (List.getElem?_eq_getElem hj)
      rw [hx'] at hy
      cases hy
      exact ⟨_, List.getElem?_eq_getElem hj, ry⟩
  | @tup a xs h =>
    obtain rfl : u = .ref a := r
    obtain ⟨its, rv, p, hz⟩ := I.tuple h
    have e : xs.length = its.toArray.size := by simp [rv.length]
    have D := Draws.tuple (prog := X.prog) (w := X.w) hh it a (ne a rfl) its.toArray
    rw [← e] at D
    refine ⟨_, _, _, D, by simp, fun b hb => ?_, ⟨st, p⟩, fun j h' x => x.1, fun j x hx => ?_⟩
    · rcases List.mem_cons.mp hb with z | hb
      · exact .inl z
      · rw [List.mem_singleton.mp hb]; exact .inr rfl
    · have hx' : its[j]? = some x := by simpa using hx
      have hj : j < xs.length := by rw [rv.length]; exact (List.getElem?_eq_some_iff.mp hx').1
      obtain ⟨y, hy, ry⟩ := rv.get (List.getElem?_eq_getElem hj)
      rw [hx'] at hy
      cases hy
      exact ⟨_, List.getElem?_eq_getElem hj, ry⟩
  | str x =>
    obtain ⟨t, rfl⟩ := r
    have D := Draws.text (prog := X.prog) (w := X.w) hh it x t
    have e : (x.cps.toList.map fun c => V.str ⟨#[c]⟩).length = x.cps.size := by rw [List.length_map, Array.length_toList]
    rw [← e] at D
    refine ⟨_, _, _, D, by simp, fun b hb => .inl (List.mem_singleton.mp hb), st, fun j h' z => z, fun j y hy => ?_⟩
    obtain ⟨c, u, hc, rfl⟩ := hy
    refine ⟨.str ⟨#[c]⟩, ?_, ⟨u, rfl⟩⟩
    rw [List.getElem?_map, Array.getElem?_toList, hc]
    rfl
theorem Inv.sq_inj (I : Inv X pins σ H s) {k : Nat} {v : V} {xs ys : List V} (h : Sq X.K H k v xs) (q : Sq X.K H k v ys) : xs = ys := by
  cases h with
  | lst h => cases q with | lst q => exact I.list_inj h q
  | tup h => cases q with | tup q => exact I.tuple_inj h q
  | str x => cases q; rfl
end
/-- pairs of two sequences, each a new tuple -/
def Jz (K : PySem.W.Frag) (k1 k2 : Nat) (v u : V) : It :=
  ⟨fun i H => ∃ xs ys, Sq K H k1 v xs ∧ Sq K H k2 u ys ∧ i < min xs.length ys.length,
   fun i H x H' => ∃ T y z, x = .ref T ∧ H T = none ∧ H' = upd H T (.tup [y, z]) ∧ (∀ xs, Sq K H k1 v xs → xs[i]? = some y) ∧ ∀ ys, Sq K H k2 u ys → ys[i]? = some z,
   fun i H => ∃ xs ys, Sq K H k1 v xs ∧ Sq K H k2 u ys ∧ i = min xs.length ys.length⟩
/-- numbered items, each a new tuple -/
def Je (K : PySem.W.Frag) (k : Nat) (v : V) : It :=
  ⟨fun i H => ∃ xs, Sq K H k v xs ∧ i < xs.length,
   fun i H x H' => ∃ T y, x = .ref T ∧ H T = none ∧ H' = upd H T (.tup [.int (i : Nat), y]) ∧ ∀ xs, Sq K H k v xs → xs[i]? = some y,
   fun i H => ∃ xs, Sq K H k v xs ∧ i = xs.length⟩
theorem tup2_ok {P : Program} {w : World} {H : Hp} {h : Heap} {T : Addr} {y z : V} {y' z' : Value} (r : RelV y y') (q : RelV z z') (t : h.IsTuple T #[y', z']) : ObjOk P w (upd H T (.tup [y, z])) h T (.tup [y, z]) :=
  ⟨by show 2 ≤ sizeLine; decide, [y', z'], .cons r (.cons q .nil), t⟩
theorem turn_en {P : Program} {w : World} {K : PySem.W.Frag} {elts : List Expr} {kk : Nat} {tpos : Pos} {k : Nat} {v : V} {u : Value} {e it : Addr} (rv : RelV v u) (hne : e ≠ it) (ns : ∀ a, v = .ref a → a ≠ e ∧ a ≠ it) :
    Turn P w K (.Tuple elts kk tpos) (Je K k v) [e, it] e (fun i h => (∃ old, IsEnum h e it (0 + (i : Int)) old) ∧ AtI k it i h u) where
  mem := by simp
  obj := fun i h st b hb => by
    obtain ⟨⟨old, he⟩, hi⟩ := st
    have e' : b = e ∨ b = it := by simpa using hb
    rcases e' with z | z
    · rw [z]; exact ⟨_, he, fun v q => nomatch q⟩
    · rw [z]; exact hi.rec
  keep := fun i h h' st k => let ⟨⟨old, he⟩, hi⟩ := st; ⟨⟨old, k e (by simp) _ he⟩, hi.at fun o q => k it (by simp) o q⟩
  item := by
    intro X hP hw hK hc i pins s σ H E I hf st hg
    subst hP hw hK
    obtain ⟨he, hit⟩ := st
    obtain ⟨xs, hq, hx⟩ := hg
    obtain ⟨fp, Pd, S, D, m, fs, s0, sk, pk⟩ := drawn (A := X.A.in1) I (I.ok.hd hc) hq rv hit fun a z => (ns a z).2
    have hef : e ∉ fp := fun hm => by
      rcases fs e hm with z | z
      · exact hne z
      · exact (ns e z).1 rfl
    have W := GoesN.enumFrom (elts := elts) (x1 := kk) (pos := tpos) 0 D e hne hef m
    refine W.goes i s _ E hx ⟨he, s0⟩ fun x h' tk hY st' hk htk => ?_
    obtain ⟨T, t, y, rfl, hT, hy, tu⟩ := hY
    obtain ⟨z, hz, rz⟩ := pk i y hy
    have I1 : Inv X pins σ (upd H T (.tup [.int (i : Nat), z])) { s with heap := h', toks := tk } :=
      I.turnedNew (ch := [e, it]) hk hf hT (tup2_ok ⟨t, by rw [Int.zero_add]⟩ rz tu)
    refine ⟨.ref T, _, I1, rfl, ⟨T, z, rfl, I.hok.fresh hT, rfl, fun ys hy => by rw [Inv.sq_inj I hy hq]; exact hz⟩, ⟨st'.1, sk _ _ st'.2⟩, fun b hb => ?_⟩
    have hb' : b ≠ T := fun z => by
      have lt : b < s.heap.objs.size := by
        have e' : b = e ∨ b = it := by simpa using hb
        rcases e' with q | q
        · obtain ⟨_, he⟩ := he; rw [q]; exact Heap.lt_size he
        · obtain ⟨o, ho, _⟩ := hit.rec; rw [q]; exact Heap.lt_size ho
      rw [z] at lt
      exact absurd lt (Nat.not_lt.mpr hT)
    rw [upd_ne hb']
    exact (hf b hb).1
  done := by
    intro X hP hw hK hc i pins s σ H E I hf st hg
    subst hP hw hK
    obtain ⟨he, hit⟩ := st
    obtain ⟨xs, hq, hx⟩ := hg
    obtain ⟨fp, Pd, S, D, m, fs, s0, sk, pk⟩ := drawn (A := X.A.in1) I (I.ok.hd hc) hq rv hit fun a z => (ns a z).2
    have hef : e ∉ fp := fun hm => by
      rcases fs e hm with z | z
      · exact hne z
      · exact (ns e z).1 rfl
    have W := GoesN.enumFrom (elts := elts) (x1 := kk) (pos := tpos) 0 D e hne hef m
    subst hx
    exact W.stops s _ E ⟨he, s0⟩ fun h' tk hk htk => I.turnedL (ch := [e, it]) hk hf
  self := fun A i s Q E st h => let ⟨⟨_, he⟩, _⟩ := st; wpAny_pyIter_enum he h
theorem turn_zp {P : Program} {w : World} {K : PySem.W.Frag} {elts : List Expr} {kk : Nat} {tpos : Pos} {k1 k2 : Nat} {v1 v2 : V} {u1 u2 : Value} {z TI TO i1 i2 : Addr} (rv1 : RelV v1 u1) (rv2 : RelV v2 u2) (nd : [z, TI, TO, i1, i2].Nodup)
    (ns : ∀ a, (v1 = .ref a ∨ v2 = .ref a) → a ∉ [z, TI, TO, i1, i2]) :
    Turn P w K (.Tuple elts kk tpos) (Jz K k1 k2 v1 v2) [z, TI, TO, i1, i2] z (fun i h => IsZip h z TI TO .none ∧ IsTupOf2 h TI (.ref i1) (.ref i2) ∧ (∃ x y, IsTupOf2 h TO x y) ∧ AtI k1 i1 i h u1 ∧ AtI k2 i2 i h u2) := by
  have sep : ∀ {fp1 fp2 : List Addr}, i1 ∈ fp1 → i2 ∈ fp2 → (∀ b ∈ fp1, b = i1 ∨ v1 = .ref b) → (∀ b ∈ fp2, b = i2 ∨ v2 = .ref b) → ZipSep2 z TI TO i1 i2 fp1 fp2 := by
    intro fp1 fp2 m1 m2 f1 f2
    simp only [List.nodup_cons, List.mem_cons, List.not_mem_nil, or_false, not_or, List.nodup_nil, and_true] at nd
    obtain ⟨⟨a1, a2, a3, a4⟩, ⟨b1, b2, b3⟩, ⟨c1, c2⟩, d1, _⟩ := nd
    have w1 : ∀ b, b ∈ fp1 → b ≠ i1 → b ∉ [z, TI, TO, i1, i2] := fun b hb hn => (f1 b hb).elim (fun q => absurd q hn) fun q => ns b (.inl q)
    have w2 : ∀ b, b ∈ fp2 → b ≠ i2 → b ∉ [z, TI, TO, i1, i2] := fun b hb hn => (f2 b hb).elim (fun q => absurd q hn) fun q => ns b (.inr q)
    exact ⟨Ne.symm a1, Ne.symm a2, b1, b2, m1, fun q => w1 z q a3 (by simp), fun q => w1 TO q c1 (by simp), b3, m2, fun q => w2 z q a4 (by simp), fun q => w2 TO q c2 (by simp), fun q => w2 i1 q d1 (by simp), fun q => w1 i2 q (Ne.symm d1) (by simp)⟩
  have keepE : ∀ (i : Nat) (h : Heap), (IsZip h z TI TO .none ∧ IsTupOf2 h TI (.ref i1) (.ref i2) ∧ (∃ x y, IsTupOf2 h TO x y) ∧ AtI k1 i1 i h u1 ∧ AtI k2 i2 i h u2) → ∀ b ∈ [z, TI, TO, i1, i2], ∃ o, h.get? b = some o ∧ ∀ v, o.data ≠ .cell v := by
    intro i h st c hc
    obtain ⟨hz, hTI, ⟨x, y, hTO⟩, h1, h2⟩ := st
    have e' : c = z ∨ c = TI ∨ c = TO ∨ c = i1 ∨ c = i2 := by simpa using hc
    rcases e' with q | q | q | q | q
    · rw [q]; exact ⟨_, hz, fun v q => nomatch q⟩
    · rw [q]; exact ⟨_, hTI, fun v q => nomatch q⟩
    · rw [q]; exact ⟨_, hTO, fun v q => nomatch q⟩
    · rw [q]; exact h1.rec
    · rw [q]; exact h2.rec
  exact {
    mem := by simp
    obj := keepE
    keep := fun i h h' st k => by
      obtain ⟨hz, hTI, ⟨x, y, hTO⟩, h1, h2⟩ := st
      exact ⟨k z (by simp) _ hz, k TI (by simp) _ hTI, ⟨x, y, k TO (by simp) _ hTO⟩, h1.at fun o q => k i1 (by simp) o q, h2.at fun o q => k i2 (by simp) o q⟩
    item := by
      intro X hP hw hK hc i pins s σ H E I hf st hg
      subst hP hw hK
      obtain ⟨xs, ys, q1, q2, hlt⟩ := hg
      obtain ⟨fp1, P1, S1, D1, m1, f1, s1, sk1, pk1⟩ := drawn (A := X.A.in1) I (I.ok.hd hc) q1 rv1 st.2.2.2.1 fun a z q => ns a (.inl z) (by rw [q]; simp)
      obtain ⟨fp2, P2, S2, D2, m2, f2, s2, sk2, pk2⟩ := drawn (A := X.A.in1) I (I.ok.hd hc) q2 rv2 st.2.2.2.2 fun a z q => ns a (.inr z) (by rw [q]; simp)
      have W := GoesN.zip2 (elts := elts) (x1 := kk) (pos := tpos) (sep m1 m2 f1 f2) D1 D2
      refine W.goes i s _ E hlt ⟨st.1, st.2.1, st.2.2.1, s1, s2⟩ fun x h' tk hY st' hk htk => ?_
      obtain ⟨T, y1, y2, rfl, hT, hy1, hy2, tu⟩ := hY
      obtain ⟨z1, hz1, r1⟩ := pk1 i y1 hy1
      obtain ⟨z2, hz2, r2⟩ := pk2 i y2 hy2
      have I1 : Inv X pins σ (upd H T (.tup [z1, z2])) { s with heap := h', toks := tk } :=
        I.turnedNew (ch := [z, TI, TO, i1, i2]) (fun b o hb => hk b o fun q => hb (by simp only [List.mem_cons, List.not_mem_nil, or_false] at q ⊢; rcases q with q | q | q | q <;> simp [q])) hf hT (tup2_ok r1 r2 tu)
      refine ⟨.ref T, _, I1, rfl, ⟨T, z1, z2, rfl, I.hok.fresh hT, rfl, fun l hl => by rw [Inv.sq_inj I hl q1]; exact hz1, fun l hl => by rw [Inv.sq_inj I hl q2]; exact hz2⟩, ⟨st'.1, st'.2.1, st'.2.2.1, sk1 _ _ st'.2.2.2.1, sk2 _ _ st'.2.2.2.2⟩, fun b hb => ?_⟩
      have hb' : b ≠ T := fun q => by
        obtain ⟨o, ho, _⟩ := keepE i s.heap st b hb
        have lt := Heap.lt_size ho
        rw [q] at lt
        exact absurd lt (Nat.not_lt.mpr hT)
      rw [upd_ne hb']
      exact (hf b hb).1
    done := by
      intro X hP hw hK hc i pins s σ H E I hf st hg
      subst hP hw hK
      obtain ⟨xs, ys, q1, q2, hlt⟩ := hg
      obtain ⟨fp1, P1, S1, D1, m1, f1, s1, sk1, pk1⟩ := drawn (A := X.A.in1) I (I.ok.hd hc) q1 rv1 st.2.2.2.1 fun a z q => ns a (.inl z) (by rw [q]; simp)
      obtain ⟨fp2, P2, S2, D2, m2, f2, s2, sk2, pk2⟩ := drawn (A := X.A.in1) I (I.ok.hd hc) q2 rv2 st.2.2.2.2 fun a z q => ns a (.inr z) (by rw [q]; simp)
      have W := GoesN.zip2 (elts := elts) (x1 := kk) (pos := tpos) (sep m1 m2 f1 f2) D1 D2
      subst hlt
      exact W.stops s _ E ⟨st.1, st.2.1, st.2.2.1, s1, s2⟩ fun h' tk hk htk => I.turnedL (ch := [z, TI, TO, i1, i2]) (fun b o hb => hk b o fun q => hb (by simp only [List.mem_cons, List.not_mem_nil, or_false] at q ⊢; rcases q with q | q | q | q <;> simp [q])) hf
    self := fun A i s Q E st h => wpAny_pyIter_zip st.1 h }
end Ob
/-! # Ob10: what is walked -/
namespace Ob
open PySem PySem.Spec PyProof.Rows L2

/-- the items of a walked value -/
def itm (s : List (Option Cell)) : VD → Option (List VD)
  | .pure (.lst ts) => some (ts.map .pure)
  | .pure (.tup ts) => some (ts.map .pure)
  | .pure (.xl ts) => some (ts.map .pure)
  | .pure (.str x) => some (x.map fun c => .pure (.str [c]))
  | .lst ds => some ds
  | .tup ds => some ds
  | .cell k => match s[k]? with
    | some (some c) => some c
    | _ => none
  | _ => none
/-- how it is walked -/
def knd : VD → Nat
  | .pure (.tup _) => 1
  | .tup _ => 1
  | .pure (.str _) => 2
  | _ => 0
inductive Sr where
  | one (d : VD) | enu (d : VD) | zip (a b : VD) | rng (lo : Int) (n : Nat)
def numd : Nat → List VD → List VD
  | _, [] => []
  | i, d :: r => mkTup [.pure (.int (i : Nat)), d] :: numd (i + 1) r
def Sr.items (s : List (Option Cell)) : Sr → Option (List VD)
  | .one d => itm s d
  | .enu d => (itm s d).map (numd 0)
  | .zip a b => match itm s a, itm s b with
    | some xs, some ys => some (List.zipWith (fun x y => mkTup [x, y]) xs ys)
    | _, _ => none
  | .rng lo n => some ((List.range n).map fun i => .pure (.int (lo + (i : Nat))))
theorem numd_get : ∀ (ds : List VD) (j i : Nat) (d : VD), (numd j ds)[i]? = some d → ∃ e, ds[i]? = some e ∧ d = mkTup [.pure (.int ((j + i : Nat) : Nat)), e]
  | [], _, _, _, h => by simp [numd] at h
  | e :: r, j, 0, d, h => by
    simp [numd] at h
    exact ⟨e, rfl, by rw [← h]; rfl⟩
  | e :: r, j, i + 1, d, h => by
    have h' : (numd (j + 1) r)[i]? = some d := by simpa [numd] using h
    obtain ⟨f, h1, h2⟩ := numd_get r (j + 1) i d h'
    refine ⟨f, by simpa using h1, ?_⟩
    rw [h2, show j + 1 + i = j + (i + 1) by omega]
theorem numd_len : ∀ (ds : List VD) (j : Nat), (numd j ds).length = ds.length
  | [], _ => rfl
  | _ :: r, j => by simp [numd, numd_len r]
section
variable {G : Gx} {F : Hp} {A : List Addr} {H : Hp} {st : SS} {σ : L2.St}
theorem sok_one {x : List Nat} (h : SOK x = true) {c : Nat} (m : c ∈ x) : SOK [c] = true := by
  unfold SOK at h ⊢
  have := List.all_eq_true.mp h c m
  simpa using this
theorem signs_rep {K : PySem.W.Frag} : ∀ (x : List Nat), SOK x = true → RepVs K F A (x.map fun c => V.str ⟨#[c]⟩) (x.map fun c => VD.pure (.str [c]))
  | [], _ => .nil
  | c :: r, h => by
    have h2 : SOK r = true := by
      unfold SOK at h ⊢
      simp at h ⊢
      exact fun a ha => h.2 a ha
    refine .cons (.pure ?_) (signs_rep r h2)
    exact RepT.str [c] (by show 1 ≤ _; decide) (sok_one h (by simp))
theorem itm_sq (rel : Rel G F A st σ H) {v : V} {d : VD} {ds : List VD} (r : RepV G.K F A v d) (e : itm st.s d = some ds) : ∃ vs, Sq G.K H (knd d) v vs ∧ RepVs G.K F A vs ds := by
  unfold itm at e
  split at e
  · cases e
    cases r with
    | pure r => cases r with | lst h z r => exact ⟨_, .lst (SqL.of (rel.fh _ _ h)), .ofT r⟩
  · cases e
    cases r with
    | pure r => cases r with | tup h z r => exact ⟨_, .tup (seqT rel.fh h), .ofT r⟩
  · cases e
    cases r with
    | pure r => cases r with | xl h z r => exact ⟨_, .lst (rel.fh.seq h), .ofT r⟩
  · rename_i x
    cases e
    cases r with
    | pure r =>
      cases r with
      | str _ z ok =>
        have q := Sq.str (K := G.K) (H := H) ⟨x.toArray⟩
        exact ⟨_, q, by simpa using signs_rep x ok⟩
  · cases e
    cases r with
    | lst h z r => exact ⟨_, .lst (SqL.of (rel.fh _ _ h)), r⟩
  · cases e
    cases r with
    | tup h z r => exact ⟨_, .tup (seqT rel.fh h), r⟩
  · rename_i k
    cases r with
    | cell ha =>
      cases e1 : st.s[k]? with
      | none => rw [e1] at e; cases e
      | some oc =>
        cases oc with
        | none => rw [e1] at e; cases e
        | some c =>
          rw [e1] at e
          cases e
          obtain ⟨_, vs, h2, z, h3⟩ := rel.cel k _ _ ha e1
          exact ⟨vs, .lst (SqL.of h2), h3⟩
  · cases e
end
/-- J walks what sr says -/
def Wk (G : Gx) (F : Hp) (A : List Addr) (J : It) (sr : Sr) : Prop := ∀ (F' : Hp) (A' : List Addr) (H' : Hp) (st : SS) (σ : L2.St) (i : Nat) (ds : List VD), Same F F' → (∀ (k : Nat) (a : Addr), A[k]? = some a → A'[k]? = some a) → Rel G F' A' st σ H' → sr.items st.s = some ds →
  (i = ds.length → J.stop i H') ∧ ∀ d, ds[i]? = some d → J.go i H' ∧ ∀ x H2, J.yld i H' x H2 → ∃ F2, Step F' A' H' F2 A' H2 ∧ Rel G F2 A' st σ H2 ∧ RepV G.K F2 A' x d
def SI (X : Cx) (ex : Ex) (W : WX) (tg e : Expr) (m : M Sr) : Prop := PI X tg e (cG (gx X ex) W (fun _ F A _ J sr => Wk (gx X ex) F A J sr) m)

/-! ### the walks are good -/
section
variable {G : Gx} {F : Hp} {A : List Addr}
theorem get_lt {α : Type} {l : List α} {i : Nat} {x : α} (h : l[i]? = some x) : i < l.length := (List.getElem?_eq_some_iff.mp h).1
theorem wk_list {a : Addr} {d : VD} (k : knd d = 0) (r : RepV G.K F A (.ref a) d) : Wk G F A (Itl G.K a) (.one d) := by
  intro F' A' H' st σ i ds e ea rel hi
  obtain ⟨vs, q, rv⟩ := itm_sq rel (r.mono e ea) hi
  rw [k] at q
  cases q with
  | lst q =>
    refine ⟨fun z => ⟨vs, q, by rw [z, rv.len]; exact Nat.le_refl _⟩, fun d hd => ?_⟩
    obtain ⟨x, hx, rx⟩ := rv.get hd
    refine ⟨⟨vs, x, q, hx⟩, fun y H2 ⟨e2, hy⟩ => ?_⟩
    subst e2
    have := hy vs q
    rw [hx] at this
    cases this
    exact ⟨F', Step.refl, rel, rx⟩
theorem wk_tup {a : Addr} {d : VD} (k : knd d = 1) (r : RepV G.K F A (.ref a) d) : Wk G F A (Itt G.K a) (.one d) := by
  intro F' A' H' st σ i ds e ea rel hi
  obtain ⟨vs, q, rv⟩ := itm_sq rel (r.mono e ea) hi
  rw [k] at q
  cases q with
  | tup q =>
    refine ⟨fun z => ⟨vs, q, by rw [z, rv.len]; exact Nat.le_refl _⟩, fun d hd => ?_⟩
    obtain ⟨x, hx, rx⟩ := rv.get hd
    refine ⟨⟨vs, x, q, hx⟩, fun y H2 ⟨e2, hy⟩ => ?_⟩
    subst e2
    have := hy vs q
    rw [hx] at this
    cases this
    exact ⟨F', Step.refl, rel, rx⟩
theorem wk_str {x : Str} {d : VD} (k : knd d = 2) (r : RepV G.K F A (.str x) d) : Wk G F A (Its x) (.one d) := by
  intro F' A' H' st σ i ds e ea rel hi
  obtain ⟨vs, q, rv⟩ := itm_sq rel (r.mono e ea) hi
  rw [k] at q
  cases q with
  | str _ =>
    have hl : ds.length = x.cps.size := by rw [← rv.len, List.length_map, Array.length_toList]
    refine ⟨fun z => by show _ ≤ i; rw [z, hl]; exact Nat.le_refl _, fun d hd => ?_⟩
    obtain ⟨y, hy, rx⟩ := rv.get hd
    refine ⟨by show i < _; rw [← hl]; exact get_lt hd, fun z H2 ⟨e2, c, hc, ez⟩ => ?_⟩
    subst e2 ez
    rw [List.getElem?_map, Array.getElem?_toList, hc] at hy
    cases hy
    exact ⟨F', Step.refl, rel, rx⟩
theorem wk_rng {lo : Int} {n : Nat} : Wk G F A (Itr lo n) (.rng lo n) := by
  intro F' A' H' st σ i ds e ea rel hi
  have hi' : (List.range n).map (fun i => VD.pure (.int (lo + (i : Nat)))) = ds := Option.some.inj hi
  have hl : ds.length = n := by rw [← hi']; simp
  refine ⟨fun z => by show n ≤ i; omega, fun d hd => ?_⟩
  have lt := get_lt hd
  rw [hl] at lt
  refine ⟨lt, fun x H2 ⟨e2, ex⟩ => ?_⟩
  subst e2 ex
  rw [← hi', List.getElem?_map, List.getElem?_range lt] at hd
  cases hd
  exact ⟨F', Step.refl, rel, .pure (.int _)⟩
/-- a pair just laid -/
theorem pair_new {F' : Hp} {A' : List Addr} {H' : Hp} {st : SS} {σ : L2.St} (rel : Rel G F' A' st σ H') {T : Addr} {y z : V} {a b : VD} (n : H' T = none) (ry : RepV G.K F' A' y a) (rz : RepV G.K F' A' z b) :
    ∃ F2, Step F' A' H' F2 A' (upd H' T (.tup [y, z])) ∧ Rel G F2 A' st σ (upd H' T (.tup [y, z])) ∧ RepV G.K F2 A' (.ref T) (mkTup [a, b]) := by
  have nf := rel.free n
  refine ⟨upd F' T (.tup [y, z]), Step.newF n nf, rel.newF n, ?_⟩
  have e : Same F' (upd F' T (.tup [y, z])) := (Step.newF (A := A') (o := .tup [y, z]) n nf).ex
  exact mkTup_rep (vs := [y, z]) (.inl (.inl (upd_same ..))) (by show 2 ≤ _; decide) (.cons (ry.mono e fun _ _ h => h) (.cons (rz.mono e fun _ _ h => h) .nil))
theorem wk_enu {k : Nat} {v : V} {d : VD} (hk : knd d = k) (r : RepV G.K F A v d) : Wk G F A (Je G.K k v) (.enu d) := by
  intro F' A' H' st σ i ds e ea rel hi
  have hi' : (itm st.s d).map (numd 0) = some ds := hi
  cases e1 : itm st.s d with
  | none => rw [e1] at hi'; cases hi'
  | some xs =>
    rw [e1] at hi'
    have hd : numd 0 xs = ds := Option.some.inj hi'
    obtain ⟨vs, q, rv⟩ := itm_sq rel (r.mono e ea) e1
    rw [hk] at q
    have hl : ds.length = vs.length := by rw [← hd, numd_len, rv.len]
    refine ⟨fun z => ⟨vs, q, by rw [z, hl]⟩, fun f hf => ?_⟩
    refine ⟨⟨vs, q, by rw [← hl]; exact get_lt hf⟩, fun x H2 ⟨T, y, ex, n, e2, hy⟩ => ?_⟩
    subst e2 ex
    rw [← hd] at hf
    obtain ⟨g, hg, ef⟩ := numd_get _ _ _ _ hf
    obtain ⟨y', hy', ry⟩ := rv.get hg
    rw [hy vs q] at hy'
    cases hy'
    subst ef
    rw [Nat.zero_add]
    exact pair_new rel n (.pure (.int _)) ry
theorem wk_zip {k1 k2 : Nat} {v u : V} {a b : VD} (h1 : knd a = k1) (h2 : knd b = k2) (r1 : RepV G.K F A v a) (r2 : RepV G.K F A u b) : Wk G F A (Jz G.K k1 k2 v u) (.zip a b) := by
  intro F' A' H' st σ i ds e ea rel hi
  unfold Sr.items at hi
  cases e1 : itm st.s a with
  | none => simp [e1] at hi
  | some xs =>
    cases e2 : itm st.s b with
    | none => simp [e1, e2] at hi
    | some ys =>
      simp only [e1, e2] at hi
      have hd := Option.some.inj hi
      obtain ⟨vs, q1, rv⟩ := itm_sq rel (r1.mono e ea) e1
      obtain ⟨us, q2, ru⟩ := itm_sq rel (r2.mono e ea) e2
      rw [h1] at q1
      rw [h2] at q2
      have hl : ds.length = min vs.length us.length := by rw [← hd, List.length_zipWith, rv.len, ru.len]
      refine ⟨fun z => ⟨vs, us, q1, q2, by rw [z, hl]⟩, fun f hf => ?_⟩
      refine ⟨⟨vs, us, q1, q2, by rw [← hl]; exact get_lt hf⟩, fun x H2 ⟨T, y, z, ex, n, e3, hy, hz⟩ => ?_⟩
      subst e3 ex
      rw [← hd, List.getElem?_zipWith] at hf
      cases ha : xs[i]? with
      | none => rw [ha] at hf; simp at hf
      | some a' =>
        cases hb : ys[i]? with
        | none => rw [ha, hb] at hf; simp at hf
        | some b' =>
          rw [ha, hb] at hf
          simp at hf
          subst hf
          obtain ⟨y', hy', ry⟩ := rv.get ha
          obtain ⟨z', hz', rz⟩ := ru.get hb
          rw [hy vs q1] at hy'
          rw [hz us q2] at hz'
          cases hy'
          cases hz'
          exact pair_new rel n ry rz
end

/-! ### the sources -/
section
variable {X : Cx} {ex : Ex} {W : WX} {tg e a b : Expr} {m : M FT} {ms : M (List FT)}
def iAny (K : PySem.W.Frag) (te : TE) : TI := fun σ H R => te σ H fun v H1 => (∃ a, v = .ref a ∧ (∃ xs, SqL K H1 a xs) ∧ R (Itl K a) H1) ∨ (∃ a, v = .ref a ∧ (∃ xs, SqT K H1 a xs) ∧ R (Itt K a) H1) ∨ ∃ x, v = .str x ∧ R (Its x) H1
theorem pi_any {te : TE} (hl : PE X e te) : PI X tg e (iAny X.K te) := by
  refine ⟨fun pins s σ H R I h => ?_⟩
  refine thn (hl.run pins s σ H _ I h) fun v s1 ⟨x, H1, I1, r1, q1⟩ => ?_
  rcases q1 with ⟨a, ex, ⟨xs, hq⟩, q⟩ | ⟨a, ex, ⟨xs, hq⟩, q⟩ | ⟨x, ex, q⟩
  · subst ex
    obtain rfl : v = .ref a := r1
    obtain ⟨its, rv, p, hz⟩ := I1.list hq
    exact wpAny_pyIter_list p.isList (pi_one (tk := s1.toks) I1 _ (turn_list a _) ⟨_, Heap.get?_push_size _ rfl, rfl, rfl⟩ q)
  · subst ex
    obtain rfl : v = .ref a := r1
    obtain ⟨its, rv, p, hz⟩ := I1.tuple hq
    exact wpAny_pyIter_tuple (show s1.heap.IsTuple a its.toArray from p) (pi_one (tk := s1.toks) I1 _ (turn_tuple a _) ⟨_, Heap.get?_push_size _ rfl, rfl, rfl⟩ q)
  · subst ex
    obtain ⟨t, rfl⟩ := r1
    cases ha : x.cps.all (· < 128)
    · exact wpAny_pyIter_wide ha (pi_one (tk := s1.toks) I1 _ (turn_str _ x t "str_iterator" (.inr rfl)) ⟨_, Heap.get?_push_size _ rfl, rfl, rfl⟩ q)
    · exact wpAny_pyIter_ascii ha (pi_one (tk := s1.toks) I1 _ (turn_str _ x t "str_ascii_iterator" (.inl rfl)) ⟨_, Heap.get?_push_size _ rfl, rfl, rfl⟩ q)
def mOne (f : FT) : M Sr := fun st => match itm st.s (fz f) with
  | some _ => .ok (.one (fz f)) st
  | none => .stuck
theorem si_one (h : SE X ex W e m) : SI X ex W tg e (bd m mOne) := PIw (pi_any h) fun σ H Q ⟨F, A, st, rel, o⟩ => ⟨F, A, st, rel, Out.bind0 o fun v f F1 A1 H1 st1 s1 rel1 r1 o1 => by
  obtain ⟨F2, s2, e2, rel2, r2⟩ := r1.freeze s1 rel1
  unfold mOne at o1
  cases e1 : itm st1.s (fz f) with
  | none => rw [e1] at o1; exact o1.elim
  | some ds =>
    rw [e1] at o1
    obtain ⟨vs, q, rv⟩ := itm_sq rel2 r2 e1
    have fin : ∀ J, Wk (gx X ex) F2 A1 J (.one (fz f)) → Q J H1 := fun J w => o1 J F2 A1 H1 s2 rel2 w
    generalize hk : knd (fz f) = k at q
    cases q with
    | lst q => exact .inl ⟨_, rfl, ⟨vs, q⟩, fin _ (wk_list hk r2)⟩
    | tup q => exact .inr (.inl ⟨_, rfl, ⟨vs, q⟩, fin _ (wk_tup hk r2)⟩)
    | str x => exact .inr (.inr ⟨x, rfl, fin _ (wk_str hk r2)⟩)⟩
/-! ranges -/
def mRng1 (fs : List FT) : M Sr := match fs with
  | [.val (.pure (.int j))] => bd (guard (decide (-(2 ^ 62) ≤ j) && decide (j < 2 ^ 62))) fun _ => rt (.rng 0 j.toNat)
  | _ => stuck
def mRng2 (fs : List FT) : M Sr := match fs with
  | [.val (.pure (.int i)), .val (.pure (.int j))] => bd (guard (decide (-(2 ^ 62) ≤ i) && decide (i < 2 ^ 62) && decide (-(2 ^ 62) ≤ j) && decide (j < 2 ^ 62))) fun _ => rt (.rng i (j - i).toNat)
  | _ => stuck
theorem si_rng1 {p pos : Pos} (hg : Gl X "range") (hm : X.mg "range" = none) (ha : SA X ex W [a] ms) (hs : starEach [a] X.env = [(false, eval a X.env)] := by rfl) : SI X ex W tg (.Call (.Name "range" p) [a] [] pos) (bd ms mRng1) :=
  PIw (pi_range1 hg hm ha hs) fun σ H Q ⟨F, A, st, rel, o⟩ => ⟨F, A, st, rel, Out.bind o fun vs fs F1 A1 H1 st1 s1 rel1 r1 o1 => by
    unfold mRng1 at o1
    split at o1
    · obtain ⟨v, rfl, r⟩ := r1.isOne
      obtain ⟨c, o2⟩ := o1.guard
      have c' := Bool.and_eq_true _ _ ▸ c
      have e := r.int
      subst e
      exact ⟨_, rfl, of_decide_eq_true c'.1, of_decide_eq_true c'.2, Out.done o2 rel1 wk_rng⟩
    · exact o1.elim⟩
theorem si_rng2 {p pos : Pos} (hg : Gl X "range") (hm : X.mg "range" = none) (ha : SA X ex W [a, b] ms) (hs : starEach [a, b] X.env = [(false, eval a X.env), (false, eval b X.env)] := by rfl) (hs2 : starEach [b] X.env = [(false, eval b X.env)] := by rfl) :
    SI X ex W tg (.Call (.Name "range" p) [a, b] [] pos) (bd ms mRng2) :=
  PIw (pi_range2 hg hm ha hs hs2) fun σ H Q ⟨F, A, st, rel, o⟩ => ⟨F, A, st, rel, Out.bind o fun vs fs F1 A1 H1 st1 s1 rel1 r1 o1 => by
    unfold mRng2 at o1
    split at o1
    · obtain ⟨v, u, rfl, r, r'⟩ := r1.isTwo
      obtain ⟨c, o2⟩ := o1.guard
      simp only [Bool.and_eq_true, decide_eq_true_eq] at c
      have e := r.int
      have e' := r'.int
      subst e e'
      exact ⟨_, _, rfl, ⟨c.1.1.1, c.1.1.2, c.1.2, c.2⟩, Out.done o2 rel1 wk_rng⟩
    · exact o1.elim⟩
/-! enumerate, zip -/
theorem begins_sq {pins : List (Addr × Obj)} {σ : L2.St} {H : Hp} {s : Shared} (I : L2.Inv X pins σ H s) {k : Nat} {v : V} {u : Value} {xs : List V} (q : Sq X.K H k v xs) (r : L2.RelV v u) :
    ∃ (o : Obj) (P : Heap → Prop), Begins u o P ∧ P s.heap ∧ (∀ h it, h.get? it = some o → AtI k it 0 h u) ∧ ∀ a, v = .ref a → a < s.heap.objs.size := by
  cases q with
  | lst h =>
    obtain rfl : u = .ref _ := r
    obtain ⟨its, rv, p, hz⟩ := I.list h
    exact ⟨_, _, begins_list _ its.toArray, p.isList, fun h it e => ⟨_, e, rfl, rfl⟩, fun a e => by cases e; exact p.lt⟩
  | tup h =>
    obtain rfl : u = .ref _ := r
    obtain ⟨its, rv, p, hz⟩ := I.tuple h
    exact ⟨_, _, begins_tuple _ its.toArray, p, fun h it e => ⟨_, e, rfl, rfl⟩, fun a e => by cases e; exact p.lt⟩
  | str x =>
    obtain ⟨t, rfl⟩ := r
    exact ⟨_, _, begins_text x t, trivial, fun h it e => ⟨_, e, rfl, rfl⟩, fun a e => by cases e⟩
def iZp (K : PySem.W.Frag) (ta : TA) : TI := fun σ H R => ta σ H fun vs H1 => ∃ k1 k2 v u xs ys, vs = [v, u] ∧ Sq K H1 k1 v xs ∧ Sq K H1 k2 u ys ∧ R (Jz K k1 k2 v u) H1
theorem pi_zp {ta : TA} {p pos tpos : Pos} {elts : List Expr} {kk : Nat} (hg : Gl X "zip") (hm : X.mg "zip" = none) (ha : PA X [a, b] ta)
    (hs : starEach [a, b] X.env = (false, eval a X.env) :: starEach [b] X.env := by rfl) (hpl : (backTo pos (starEach [b] X.env)).any (·.1) = false := by rfl) :
    PI X (.Tuple elts kk tpos) (.Call (.Name "zip" p) [a, b] [] pos) (iZp X.K ta) := by
  refine ⟨fun pins s σ H R I h => ?_⟩
  refine Call_ (ld_blt I hg hm PyProof.Rows.boot_zip (PyProof.Rows.callWith_type1 (thn (ha.run pos pins s σ H _ I h) fun us s1 ⟨vs, H1, I1, r1, q1⟩ => ?_) hs hpl))
  obtain ⟨k1, k2, v, u, xs, ys, ev, q1, q2, q⟩ := q1
  subst ev
  cases r1 with
  | cons r rr =>
    cases rr with
    | cons r' rr =>
      cases rr
      obtain ⟨o1, P1, B1, p1, a1, l1⟩ := begins_sq I1 q1 r
      obtain ⟨o2, P2, B2, p2, a2, l2⟩ := begins_sq I1 q2 r'
      refine zip_begins2 B1 B2 p1 p2 fun h' hz hTI hTO h1 h2 hsz hk => wpAny_pyIter_zip hz ?_
      have I2 : L2.Inv X pins σ H1 { s1 with heap := h' } := I1.kept (t' := s1.toks) hk
      refine ⟨s1.heap.objs.size + 4, [s1.heap.objs.size + 4, s1.heap.objs.size + 2, s1.heap.objs.size + 3, s1.heap.objs.size, s1.heap.objs.size + 1], _, _, H1, rfl, I2, turn_zp r r' (by simp) (fun c hc => ?_), ⟨hz, hTI, ⟨_, _, hTO⟩, a1 _ _ h1, a2 _ _ h2⟩, fun c hcm => ?_, q⟩
      · have lt : c < s1.heap.objs.size := hc.elim (l1 c) (l2 c)
        have nl : ∀ j : Nat, c ≠ s1.heap.objs.size + j := fun j e => absurd lt (by rw [e]; exact Nat.not_lt.mpr (Nat.le_add_right _ _))
        simp only [List.mem_cons, List.not_mem_nil, or_false, not_or]
        exact ⟨nl 4, nl 2, nl 3, nl 0, nl 1⟩
      · have hle : s1.heap.objs.size ≤ c := by
          simp only [List.mem_cons, List.not_mem_nil, or_false] at hcm
          rcases hcm with z | z | z | z | z <;> rw [z] <;> first | exact Nat.le_add_right _ _ | exact Nat.le_refl _
        exact I1.fpOk hle (I1.hok.fresh hle)
def iEn (K : PySem.W.Frag) (ta : TA) : TI := fun σ H R => ta σ H fun vs H1 => ∃ k v xs, vs = [v] ∧ k ≠ 1 ∧ Sq K H1 k v xs ∧ R (Je K k v) H1
theorem pi_en {ta : TA} {p pos tpos : Pos} {elts : List Expr} {kk : Nat} (hg : Gl X "enumerate") (hm : X.mg "enumerate" = none) (ha : PA X [a] ta) (hs : starEach [a] X.env = [(false, eval a X.env)] := by rfl) :
    PI X (.Tuple elts kk tpos) (.Call (.Name "enumerate" p) [a] [] pos) (iEn X.K ta) := by
  refine ⟨fun pins s σ H R I h => ?_⟩
  refine Call_ (ld_blt I hg hm boot_enumerate (PyProof.Rows.callWith_type1 (thn (ha.run pos pins s σ H _ I h) fun us s1 ⟨vs, H1, I1, r1, q1⟩ => ?_) hs rfl))
  obtain ⟨k, v, xs, ev, hk, q1, q⟩ := q1
  subst ev
  have fin : ∀ (u : Value) (h' : Heap), L2.RelV v u → (∀ a, v = .ref a → a < s1.heap.objs.size) → IsEnum h' (s1.heap.objs.size + 1) s1.heap.objs.size 0 .none → AtI k s1.heap.objs.size 0 h' u → (∀ b o, s1.heap.get? b = some o → h'.get? b = some o) →
      PIE X pins σ (.Tuple elts kk tpos) R (.ref (s1.heap.objs.size + 1)) { s1 with heap := h' } := by
    intro u h' r lt he hit hk
    have I2 : L2.Inv X pins σ H1 { s1 with heap := h' } := I1.kept (t' := s1.toks) hk
    refine ⟨s1.heap.objs.size + 1, [s1.heap.objs.size + 1, s1.heap.objs.size], _, _, H1, rfl, I2, turn_en (e := s1.heap.objs.size + 1) (it := s1.heap.objs.size) r (Nat.succ_ne_self _) (fun c hc => ?_), ⟨⟨.none, he⟩, hit⟩, fun b hb => ?_, q⟩
    · have lt' := lt c hc
      have nl : ∀ j : Nat, c ≠ s1.heap.objs.size + j := fun j e => absurd lt' (by rw [e]; exact Nat.not_lt.mpr (Nat.le_add_right _ _))
      exact ⟨nl 1, nl 0⟩
    · have hle : s1.heap.objs.size ≤ b := by
        simp only [List.mem_cons, List.not_mem_nil, or_false] at hb
        rcases hb with z | z <;> rw [z] <;> first | exact Nat.le_add_right _ _ | exact Nat.le_refl _
      exact I1.fpOk hle (I1.hok.fresh hle)
  cases r1 with
  | cons r rr =>
    cases rr
    obtain ⟨_, _, _, _, _, l1⟩ := begins_sq I1 q1 r
    cases q1 with
    | lst h =>
      obtain rfl := id r
      obtain ⟨its, rv, p', hz⟩ := I1.list h
      exact call_enumerate_list p'.isList fun h' he hit hsz hk => wpAny_pyIter_enum he (fin _ h' r l1 he hit hk)
    | tup h => exact absurd rfl hk
    | str x =>
      obtain ⟨t, rfl⟩ := id r
      exact call_enumerate_str fun h' he hit hsz hk => wpAny_pyIter_enum he (fin _ h' r l1 he hit hk)
def mEnu (fs : List FT) : M Sr := fun st => match fs with
  | [f] => match itm st.s (fz f) with
    | some _ => if knd (fz f) = 1 then .stuck else .ok (.enu (fz f)) st
    | none => .stuck
  | _ => .stuck
def mZip (fs : List FT) : M Sr := fun st => match fs with
  | [f, g] => match itm st.s (fz f), itm st.s (fz g) with
    | some _, some _ => .ok (.zip (fz f) (fz g)) st
    | _, _ => .stuck
  | _ => .stuck
theorem RepVs.isOne {K : PySem.W.Frag} {F : Hp} {A : List Addr} {vs : List V} {d : VD} (r : RepVs K F A vs [d]) : ∃ v, vs = [v] ∧ RepV K F A v d := by
  cases r with
  | cons r rr => cases rr; exact ⟨_, rfl, r⟩
theorem RepVs.isTwo {K : PySem.W.Frag} {F : Hp} {A : List Addr} {vs : List V} {d e : VD} (r : RepVs K F A vs [d, e]) : ∃ v u, vs = [v, u] ∧ RepV K F A v d ∧ RepV K F A u e := by
  cases r with
  | cons r rr => cases rr with | cons r' rr => cases rr; exact ⟨_, _, rfl, r, r'⟩
theorem si_enu {p pos tpos : Pos} {elts : List Expr} {kk : Nat} (hg : Gl X "enumerate") (hm : X.mg "enumerate" = none) (ha : SA X ex W [a] ms) (hs : starEach [a] X.env = [(false, eval a X.env)] := by rfl) :
    SI X ex W (.Tuple elts kk tpos) (.Call (.Name "enumerate" p) [a] [] pos) (bd ms mEnu) :=
  PIw (pi_en hg hm ha hs) fun σ H Q ⟨F, A, st, rel, o⟩ => ⟨F, A, st, rel, Out.bind0 o fun vs fs F1 A1 H1 st1 s1 rel1 r1 o1 => by
    unfold mEnu at o1
    split at o1
    · rename_i f
      obtain ⟨F2, s2, e2, rel2, r2⟩ := r1.freeze s1 rel1
      obtain ⟨v, rfl, rv⟩ := RepVs.isOne (by simpa using r2)
      cases e1 : itm st1.s (fz f) with
      | none => rw [e1] at o1; exact o1.elim
      | some ds =>
        rw [e1] at o1
        by_cases hk : knd (fz f) = 1
        · simp only [if_pos hk] at o1; exact o1.elim
        · simp only [if_neg hk] at o1
          obtain ⟨xs, q, rx⟩ := itm_sq rel2 rv e1
          exact ⟨_, v, xs, rfl, hk, q, o1 _ F2 A1 H1 s2 rel2 (wk_enu rfl rv)⟩
    · exact o1.elim⟩
theorem si_zip {p pos tpos : Pos} {elts : List Expr} {kk : Nat} (hg : Gl X "zip") (hm : X.mg "zip" = none) (ha : SA X ex W [a, b] ms)
    (hs : starEach [a, b] X.env = (false, eval a X.env) :: starEach [b] X.env := by rfl) (hpl : (backTo pos (starEach [b] X.env)).any (·.1) = false := by rfl) :
    SI X ex W (.Tuple elts kk tpos) (.Call (.Name "zip" p) [a, b] [] pos) (bd ms mZip) :=
  PIw (pi_zp hg hm ha hs hpl) fun σ H Q ⟨F, A, st, rel, o⟩ => ⟨F, A, st, rel, Out.bind0 o fun vs fs F1 A1 H1 st1 s1 rel1 r1 o1 => by
    unfold mZip at o1
    split at o1
    · rename_i f g
      obtain ⟨F2, s2, e2, rel2, r2⟩ := r1.freeze s1 rel1
      obtain ⟨v, u, rfl, rv, ru⟩ := RepVs.isTwo (by simpa using r2)
      cases e1 : itm st1.s (fz f) with
      | none => simp only [e1] at o1; exact o1.elim
      | some ds =>
        cases e3 : itm st1.s (fz g) with
        | none => simp only [e1, e3] at o1; exact o1.elim
        | some es =>
          simp only [e1, e3] at o1
          obtain ⟨xs, q, rx⟩ := itm_sq rel2 rv e1
          obtain ⟨ys, q', ry⟩ := itm_sq rel2 ru e3
          exact ⟨_, _, v, u, xs, ys, rfl, q, q', o1 _ F2 A1 H1 s2 rel2 (wk_zip rfl rfl rv ru)⟩
    · exact o1.elim⟩
end
end Ob
/-! # Ob11: targets, list comprehensions -/
namespace Ob
open PySem PySem.Spec PyProof.Rows L2

/-! ### targets -/
inductive Tgt where
  | nm (i : Nat) | tup (is : List Nat)
def Tgt.is : Tgt → List Nat
  | .nm i => [i]
  | .tup is => is
def SS.put (st : SS) (i : Nat) (d : VD) : SS := { st with d := st.d.set i (some d) }
def putAll : List Nat → List VD → SS → SS
  | i :: is, d :: ds, st => putAll is ds (st.put i d)
  | _, _, st => st
def mTg (t : Tgt) (d : VD) (st : SS) : Option SS := match t with
  | .nm i => some (st.put i d)
  | .tup is => if knd d = 2 then none else match itm st.s d with
    | some ds => if ds.length = is.length then some (putAll is ds st) else none
    | none => none
def cT (G : Gx) (t : Tgt) : TG := fun v σ H Q => ∃ F A st d st', Rel G F A st σ H ∧ RepV G.K F A v d ∧ mTg t d st = some st' ∧ ∀ σ', Rel G F A st' σ' H → σ'.length = σ.length → (∀ j, j ∉ t.is → σ'[j]? = σ[j]?) → Q σ' H
def SG (X : Cx) (ex : Ex) (tg : Expr) (t : Tgt) : Prop := PG X tg (cT (gx X ex) t)
/-- the slots that an exception does not hold -/
def NotEx (ex : Ex) (is : List Nat) : Prop := ∀ q, ex = some q → q.1 ∉ is
theorem NotEx.none {is : List Nat} : NotEx none is := fun q h => by cases h
section
variable {G : Gx} {F : Hp} {A : List Addr} {H : Hp} {st : SS} {σ : L2.St}
theorem Rel.put (rel : Rel G F A st σ H) {i : Nat} {v : V} {d : VD} (r : RepV G.K F A v d) (ne : NotEx G.ex [i]) : Rel G F A (st.put i d) (σ.set i (some v)) H where
  fh := rel.fh
  nd := rel.nd
  len := rel.len
  sl := by show (st.d.set i _).length = _; rw [List.length_set, List.length_set]; exact rel.sl
  tr := rel.tr
  cel := rel.cel
  slt := fun j e h => by
    have h' : (st.d.set i (some d))[j]? = some (some e) := h
    by_cases hi : i = j
    · subst hi
      by_cases hl : i < st.d.length
      · rw [List.getElem?_set_self hl] at h'
        cases h'
        exact ⟨v, by rw [List.getElem?_set_self (by rw [← rel.sl]; exact hl)], r⟩
      · rw [List.getElem?_eq_none (by rw [List.length_set]; omega)] at h'
        cases h'
    · rw [List.getElem?_set_ne hi] at h'
      rw [List.getElem?_set_ne hi]
      exact rel.slt j e h'
  exn := fun j a dd f h => by
    have hi : i ≠ j := fun e => ne _ h (by rw [e]; simp)
    rw [List.getElem?_set_ne hi]
    exact rel.exn j a dd f h
end
section
variable {X : Cx} {ex : Ex} {pos : Pos}
theorem sg_name {i : Nat} {x : Str} (hN : X.N.Nodup) (hi : X.N[i]? = some x) (hx : Loc X.env.scope x) (ne : NotEx ex [i]) (hf : X.fn x = true ∨ X.env.scope.names.lookup x = some .local) : SG X ex (.Name x pos) (.nm i) :=
  PGw (pg_name hN hi hx hf) fun v σ H Q ⟨F, A, st, d, st', rel, r, e, q⟩ => by
    have e' : some (st.put i d) = some st' := e
    cases e'
    refine q _ (rel.put r ne) (List.length_set) fun j hj => ?_
    have : i ≠ j := fun z => hj (by rw [z]; exact List.mem_singleton.mpr rfl)
    rw [List.getElem?_set_ne this]
/-- names one after another -/
def cTs (G : Gx) (is : List Nat) : TGs := fun vs σ H Q => ∃ F A st ds, Rel G F A st σ H ∧ RepVs G.K F A vs ds ∧ ds.length = is.length ∧ ∀ σ', Rel G F A (putAll is ds st) σ' H → σ'.length = σ.length → (∀ j, j ∉ is → σ'[j]? = σ[j]?) → Q σ' H
def SGs (X : Cx) (ex : Ex) (es : List Expr) (is : List Nat) : Prop := PGs X es (cTs (gx X ex) is)
theorem PGsw {e : List Expr} {t u : TGs} (h : PGs X e t) (w : ∀ v σ H Q, u v σ H Q → t v σ H Q) : PGs X e u := ⟨fun pins s σ H v z Q I r q => h.run pins s σ H v z Q I r (w _ _ _ _ q)⟩
theorem sgs_nil : SGs X ex [] [] := PGsw pgs_nil fun v σ H Q ⟨F, A, st, ds, rel, r, e, q⟩ => by
  have : ds = [] := List.eq_nil_of_length_eq_zero e
  subst this
  cases r
  exact ⟨rfl, q σ rel rfl fun _ _ => rfl⟩
theorem sgs_cons {e : Expr} {es : List Expr} {i : Nat} {is : List Nat} (h1 : SG X ex e (.nm i)) (h2 : SGs X ex es is) (hs : (assignEach (e :: es) X.env).map (·.2) = assign e X.env :: (assignEach es X.env).map (·.2) := by rfl) : SGs X ex (e :: es) (i :: is) :=
  PGsw (pgs_cons h1 h2 hs) fun vs σ H Q ⟨F, A, st, ds, rel, r, e, q⟩ => by
    cases r with
    | nil => cases e
    | @cons v vs d ds r rr =>
      refine ⟨v, vs, rfl, F, A, st, d, _, rel, r, rfl, fun σ' rel' l' k' => ⟨F, A, st.put i d, ds, rel', rr, by simpa using e, fun σ2 rel2 l2 k2 => q σ2 rel2 (l2.trans l') fun j hj => ?_⟩⟩
      have h1 : j ∉ is := fun m => hj (List.mem_cons_of_mem _ m)
      have h2 : j ∉ (Tgt.nm i).is := fun m => hj (by rw [List.mem_singleton.mp m]; exact List.mem_cons_self)
      rw [k2 j h1, k' j h2]
theorem PGor {e : Expr} {t u : TG} (h : PG X e t) (k : PG X e u) : PG X e fun v σ H Q => t v σ H Q ∨ u v σ H Q := ⟨fun pins s σ H v z Q I r q => q.elim (h.run pins s σ H v z Q I r) (k.run pins s σ H v z Q I r)⟩
theorem sg_tup {es : List Expr} {is : List Nat} {k n : Nat} (hc : X.calm = true) (h : SGs X ex es is) (hl : is.length = n := by rfl) (hn : (assignEach es X.env).length = n := by rfl) (hst : (assignEach es X.env).findIdx? (·.1) = none := by rfl) : SG X ex (.Tuple es k pos) (.tup is) :=
  PGw (PGor (pg_tup hc h hn hst) (pg_lst hc h hn hst)) fun v σ H Q ⟨F, A, st, d, st', rel, r, e, q⟩ => by
    unfold mTg at e
    by_cases hk : knd d = 2
    · simp only [if_pos hk] at e; cases e
    · simp only [if_neg hk] at e
      cases e1 : itm st.s d with
      | none => rw [e1] at e; cases e
      | some ds =>
        simp only [e1] at e
        by_cases h2 : ds.length = is.length
        · rw [if_pos h2] at e
          cases e
          obtain ⟨vs, sq, rv⟩ := itm_sq rel r e1
          have hvl : vs.length = n := by rw [rv.len, h2, hl]
          have fin : cTs (gx X ex) is vs σ H Q := ⟨F, A, st, ds, rel, rv, h2, q⟩
          generalize knd d = k at sq hk
          cases sq with
          | lst sq => exact .inr ⟨_, vs, rfl, sq, hvl, fin⟩
          | tup sq => exact .inl ⟨_, vs, rfl, sq, hvl, fin⟩
          | str x => exact absurd rfl hk
        · rw [if_neg h2] at e; cases e
end

/-! ### wiped slots -/
def wipeL (d : List (Option VD)) : List Nat → List (Option VD)
  | [] => d
  | v :: vs => (wipeL d vs).set v none
theorem wipeL_len (d : List (Option VD)) : ∀ vs, (wipeL d vs).length = d.length
  | [] => rfl
  | v :: vs => by unfold wipeL; rw [List.length_set, wipeL_len d vs]
theorem wipeL_some {d : List (Option VD)} {i : Nat} {x : VD} : ∀ {vs : List Nat}, (wipeL d vs)[i]? = some (some x) → d[i]? = some (some x) ∧ i ∉ vs
  | [], h => ⟨h, by simp⟩
  | v :: vs, h => by
    unfold wipeL at h
    by_cases hi : v = i
    · subst hi
      by_cases hv : v < (wipeL d vs).length
      · rw [List.getElem?_set_self hv] at h; cases h
      · rw [List.getElem?_eq_none (by simpa using hv)] at h; cases h
    · rw [List.getElem?_set_ne hi] at h
      obtain ⟨h1, h2⟩ := wipeL_some h
      exact ⟨h1, fun m => by
        rcases List.mem_cons.mp m with z | z
        · exact hi z.symm
        · exact h2 z⟩
theorem wipe_in {σ : L2.St} {i : Nat} : ∀ {vs : List Nat}, i ∈ vs → (wipe σ vs)[i]? = if i < σ.length then some none else none
  | v :: vs, m => by
    unfold wipe
    by_cases hi : v = i
    · subst hi
      by_cases hl : v < σ.length
      · rw [List.getElem?_set_self (by rw [wipe_length]; exact hl), if_pos hl]
      · rw [List.getElem?_eq_none (by rw [List.length_set, wipe_length]; omega), if_neg hl]
    · rw [List.getElem?_set_ne hi]
      rcases List.mem_cons.mp m with z | z
      · exact absurd z.symm hi
      · exact wipe_in z
theorem wipe_back {σ σ2 : L2.St} {vs is : List Nat} (sub : ∀ i ∈ is, i ∈ vs) (hl : σ2.length = (wipe σ vs).length) (k : ∀ j, j ∉ is → σ2[j]? = (wipe σ vs)[j]?) : wipe σ2 vs = wipe σ vs := by
  apply List.ext_getElem?
  intro j
  by_cases m : j ∈ vs
  · rw [wipe_in m, wipe_in m, hl, wipe_length]
  · rw [wipe_out m, k j fun q => m (sub j q)]
section
variable {G : Gx} {F F' : Hp} {A : List Addr} {A' : List Addr} {H H' : Hp} {st : SS} {σ : L2.St}
theorem Rel.wiped (rel : Rel G F A st σ H) {vs : List Nat} (ne : NotEx G.ex vs) : Rel G F A { st with d := wipeL st.d vs } (wipe σ vs) H where
  fh := rel.fh
  nd := rel.nd
  len := rel.len
  sl := by show (wipeL st.d vs).length = _; rw [wipeL_len, wipe_length]; exact rel.sl
  tr := rel.tr
  cel := rel.cel
  slt := fun j e h => by
    obtain ⟨h1, h2⟩ := wipeL_some h
    rw [wipe_out h2]
    exact rel.slt j e h1
  exn := fun j a dd f h => by
    rw [wipe_out (ne _ h)]
    exact rel.exn j a dd f h
/-- the state of another place of the same step, with the slots of an older one -/
theorem Rel.slots {st' : SS} {σ' : L2.St} (rel' : Rel G F' A' st' σ' H') (rel : Rel G F A st σ H) (s : Same F F') (ea : ∀ (k : Nat) (a : Addr), A[k]? = some a → A'[k]? = some a) : Rel G F' A' { st' with d := st.d, x := st.x } σ H' where
  fh := rel'.fh
  nd := rel'.nd
  len := rel'.len
  sl := rel.sl
  tr := rel'.tr
  cel := rel'.cel
  slt := fun j e h => by
    obtain ⟨v, h1, h2⟩ := rel.slt j e h
    exact ⟨v, h1, h2.mono s ea⟩
  exn := fun j a dd f h => by
    obtain ⟨h1, v, d, h2, h3, h4⟩ := rel.exn j a dd f h
    exact ⟨h1, v, d, s _ _ h2, h3, h4.mono s ea⟩
/-- an object that nobody knows is changed -/
theorem Rel.updFree (rel : Rel G F A st σ H) {D : Addr} {o : HO} (nf : F D = none) (na : D ∉ A) : Rel G F A st σ (upd H D o) where
  fh := fun b u h => by
    have : b ≠ D := fun e => by rw [e, nf] at h; cases h
    rw [upd_ne this]; exact rel.fh b u h
  nd := rel.nd
  len := rel.len
  sl := rel.sl
  tr := fun a ha => by
    have : a ≠ D := fun e => na (e ▸ ha)
    rw [upd_ne this]; exact rel.tr a ha
  cel := fun k a c ha hc => by
    obtain ⟨h1, vs, h2, h3⟩ := rel.cel k a c ha hc
    have : a ≠ D := fun e => na (e ▸ List.mem_of_getElem? ha)
    exact ⟨h1, vs, by rw [upd_ne this]; exact h2, h3⟩
  slt := rel.slt
  exn := rel.exn
theorem Step.updFree (s : Step F A H F' A' H') {D : Addr} {o : HO} (n : H D = none) : Step F A H F' A' (upd H' D o) where
  ex := s.ex
  pre := s.pre
  new := s.new
  keep := fun b u h na => by
    have : b ≠ D := fun e => by rw [e, n] at h; cases h
    rw [upd_ne this]; exact s.keep b u h na
  dom := fun b h => by
    by_cases e : b = D
    · rw [e]; exact n
    · rw [upd_ne e] at h; exact s.dom b h
mutual
theorem RepP.updFree {K : PySem.W.Frag} {D : Addr} {o : HO} : ∀ {P : List Addr} {v : V} {f : FT}, D ∉ P → RepP K F A H P v f → RepP K F A (upd H D o) P v f
  | _, _, _, _, .val h => .val h
  | _, _, _, m, .new h hf ha z r => .new (by rw [upd_ne fun e => m (by rw [e]; exact List.mem_cons_self)]; exact h) hf ha z (RepPs.updFree (fun q => m (List.mem_cons_of_mem _ q)) r)
theorem RepPs.updFree {K : PySem.W.Frag} {D : Addr} {o : HO} : ∀ {P : List Addr} {vs : List V} {fs : List FT}, D ∉ P → RepPs K F A H P vs fs → RepPs K F A (upd H D o) P vs fs
  | _, _, _, _, .nil => .nil
  | _, _, _, m, .cons h r => .cons (RepP.updFree (fun q => m (List.mem_append_left _ q)) h) (RepPs.updFree (fun q => m (List.mem_append_right _ q)) r)
end
end

/-! ### list comprehensions -/
def lcBody (t : Tgt) (tt : M Bool) (te : M FT) (vs : List Nat) (d : VD) : M (Option FT) := fun st => match mTg t d { st with d := wipeL st.d vs } with
  | none => .stuck
  | some st2 => match tt st2 with
    | .ok false st3 => .ok none { st3 with d := st.d, x := st.x }
    | .ok true st3 => match te st3 with
      | .ok f st4 => .ok (some f) { st4 with d := st.d, x := st.x }
      | _ => .stuck
    | _ => .stuck
def lcLoop (sr : Sr) (body : VD → M (Option FT)) : Nat → Nat → List FT → M FT
  | 0, _, _ => stuck
  | n + 1, i, acc => fun st => match sr.items st.s with
    | none => .stuck
    | some ds => match ds[i]? with
      | none => if i = ds.length ∧ acc.length ≤ lim then .ok (.new acc) st else .stuck
      | some d => match body d st with
        | .ok none st' => lcLoop sr body n (i + 1) acc st'
        | .ok (some f) st' => if acc.length < lim then lcLoop sr body n (i + 1) (acc ++ [f]) st' else .stuck
        | _ => .stuck
def mLc (src : M Sr) (t : Tgt) (tt : M Bool) (te : M FT) (vs : List Nat) : M FT := bd src fun sr st => match sr.items st.s with
  | none => .stuck
  | some ds => lcLoop sr (lcBody t tt te vs) (ds.length + 1) 0 [] st
section
variable {X : Cx} {ex : Ex} {W : WX}
def NoW : WX := fun _ _ _ _ => False
theorem lc_sound {src : M Sr} {t : Tgt} {tt : M Bool} {te : M FT} {vs : List Nat} (hsub : ∀ i ∈ t.is, i ∈ vs) (ne : NotEx ex vs) {σ : L2.St} {H : Hp} {Q : VK} (h : cG (gx X ex) W (RF (gx X ex)) (mLc src t tt te vs) σ H Q) :
    tLc (cG (gx X ex) W (fun _ F A _ J sr => Wk (gx X ex) F A J sr) src) (cT (gx X ex) t) (cG (gx X ex) NoW RB tt) (cG (gx X ex) NoW (RF (gx X ex)) te) vs σ H Q := by
  obtain ⟨F, A, st, rel, o⟩ := h
  refine ⟨F, A, st, rel, Out.bind0 o fun J sr F1 A1 H1 st1 s1 rel1 wk o1 D hD => ?_⟩
  cases e0 : sr.items st1.s with
  | none => simp only [e0] at o1; exact o1.elim
  | some ds0 =>
    simp only [e0] at o1
    have hD0 : H D = none := s1.dom D hD
    refine ⟨fun i m Hc => ∃ F' A' st' vs' fs P, Step F A H F' A' Hc ∧ Step F1 A1 H1 F' A' Hc ∧ Rel (gx X ex) F' A' st' σ Hc ∧ Hc D = some (.lst vs') ∧ F' D = none ∧ D ∉ A' ∧ RepPs X.K F' A' Hc P vs' fs ∧ P.Nodup ∧ D ∉ P ∧ (∀ p ∈ P, H p = none) ∧
      Out (gx X ex) W (RF (gx X ex) H) F A σ H (lcLoop sr (lcBody t tt te vs) m i fs st') Q, ⟨ds0.length + 1, F1, A1, st1, [], [], [], ?_, ?_, rel1.newH hD, upd_same .., rel1.free hD, rel1.notA hD, .nil, List.nodup_nil, by simp, by simp, o1⟩, ?_⟩
    · exact s1.trans (Step.newH hD)
    · exact Step.newH hD
    rintro i m Hc ⟨F', A', st', vs', fs, P, s2, s2', rel2, hDc, fD, aD, rp, nd, dP, hP, o2⟩
    cases m with
    | zero => exact o2.elim
    | succ m =>
      unfold lcLoop at o2
      cases e1 : sr.items st'.s with
      | none => simp only [e1] at o2; exact o2.elim
      | some ds =>
        simp only [e1] at o2
        have hw := wk F' A' Hc st' σ i ds s2'.ex s2'.at rel2 e1
        cases e2 : ds[i]? with
        | none =>
          simp only [e2] at o2
          by_cases hi : i = ds.length ∧ fs.length ≤ lim
          · rw [if_pos hi] at o2
            refine .inl ⟨hw.1 hi.1, o2 (.ref D) F' A' Hc s2 rel2 ⟨D :: P, .new hDc fD aD (Nat.le_trans hi.2 (by decide)) rp, List.nodup_cons.mpr ⟨dP, nd⟩, fun p hp => ?_⟩⟩
            rcases List.mem_cons.mp hp with z | z
            · rw [z]; exact hD0
            · exact hP p z
          · rw [if_neg hi] at o2; exact o2.elim
        | some d =>
          simp only [e2] at o2
          obtain ⟨hgo, hy⟩ := hw.2 d e2
          refine .inr ⟨hgo, fun Hn => ∃ F' A' st' vs' fs P, Step F A H F' A' Hn ∧ Step F1 A1 H1 F' A' Hn ∧ Rel (gx X ex) F' A' st' σ Hn ∧ Hn D = some (.lst vs') ∧ F' D = none ∧ D ∉ A' ∧ RepPs X.K F' A' Hn P vs' fs ∧ P.Nodup ∧ D ∉ P ∧ (∀ p ∈ P, H p = none) ∧
            Out (gx X ex) W (RF (gx X ex) H) F A σ H (lcLoop sr (lcBody t tt te vs) m (i + 1) fs st') Q, fun H' hN => ⟨m, Nat.lt_succ_self m, hN⟩, fun x H2 hyx => ?_⟩
          obtain ⟨F2, s3, rel3, rx⟩ := hy x H2 hyx
          unfold lcBody at o2
          cases e3 : mTg t d { st' with d := wipeL st'.d vs } with
          | none => simp only [e3] at o2; exact o2.elim
          | some st2 =>
            simp only [e3] at o2
            refine ⟨F2, A', _, d, st2, rel3.wiped ne, rx, e3, fun σ2 rel4 hl hk => ⟨wipe_back hsub hl hk, F2, A', st2, rel4, ?_⟩⟩
            cases e4 : tt st2 with
            | stuck => simp only [e4] at o2; exact o2.elim
            | err _ _ => simp only [e4] at o2; exact o2.elim
            | ok b st3 =>
              simp only [e4] at o2
              intro b' F3 A3 H3 s5 rel5 rb
              have rb' : b' = b := rb
              subst rb'
              have s4 := s3.trans s5
              cases b' with
              | false =>
                simp only at o2
                rw [if_neg Bool.false_ne_true]
                exact ⟨F3, A3, _, vs', fs, P, s2.trans s4, s2'.trans s4, rel5.slots rel2 s4.ex s4.at, s4.keep _ _ hDc aD, s4.off hDc fD aD, s4.notin hDc aD, rp.step s4, nd, dP, hP, o2⟩
              | true =>
                rw [if_pos rfl]
                simp only at o2
                refine ⟨F3, A3, st3, rel5, ?_⟩
                cases e5 : te st3 with
                | stuck => simp only [e5] at o2; exact o2.elim
                | err _ _ => simp only [e5] at o2; exact o2.elim
                | ok f st4 =>
                  simp only [e5] at o2
                  intro y F4 A4 H4 s6 rel6 ry
                  have s7 := s4.trans s6
                  have hD4 : H4 D = some (.lst vs') := s7.keep _ _ hDc aD
                  have hlen := rp.len
                  by_cases hz : fs.length < lim
                  · rw [if_pos hz] at o2
                    obtain ⟨P4, r4, nd4, z4⟩ := ry
                    have hD3 : H3 D = some (.lst vs') := s4.keep _ _ hDc aD
                    have dP4 : D ∉ P4 := fun q => by have := z4 D q; rw [hD3] at this; cases this
                    have fD4 := s7.off hDc fD aD
                    have aD4 := s7.notin hDc aD
                    refine ⟨vs', hD4, by rw [hlen]; exact Nat.lt_of_lt_of_le hz (by decide), F4, A4, _, vs' ++ [y], fs ++ [f], P ++ P4, (s2.trans s7).updFree hD0, (s2'.trans s7).updFree hD, (rel6.slots rel2 s7.ex s7.at).updFree fD4 aD4, upd_same .., fD4, aD4, ?_, ?_, ?_, ?_, o2⟩
                    · have q := RepPs.append (rp.step s7) (RepPs.cons r4 .nil)
                      rw [List.append_nil] at q
                      exact q.updFree fun m => (List.mem_append.mp m).elim dP dP4
                    · refine List.nodup_append.mpr ⟨nd, nd4, fun a ha b hb e => ?_⟩
                      subst e
                      obtain ⟨⟨us, e1⟩, n1, n2⟩ := rp.nodes a ha
                      have := s4.keep _ _ e1 n2
                      rw [z4 a hb] at this; cases this
                    · exact fun m => (List.mem_append.mp m).elim dP dP4
                    · intro p hp
                      rcases List.mem_append.mp hp with z | z
                      · exact hP p z
                      · exact (s2.trans s4).dom p (z4 p z)
                  · rw [if_neg hz] at o2; exact o2.elim
/-- the tests of a clause -/
def STs (X : Cx) (ex : Ex) (ifs : List Expr) (m : M Bool) : Prop := PTs X ifs (cG (gx X ex) NoW RB m)
theorem PTsw {e : List Expr} {t u : TT} (h : PTs X e t) (w : ∀ σ H Q, u σ H Q → t σ H Q) : PTs X e u := ⟨fun pins s σ H Q I q => h.run pins s σ H Q I (w _ _ _ q)⟩
theorem sts_nil : STs X ex [] (rt true) := PTsw pts_nil fun σ H Q ⟨F, A, st, rel, o⟩ => Out.done o rel rfl
theorem sts_one {c : Expr} {m : M Bool} (h : ST X ex NoW c m) : STs X ex [c] m := pts_one h
variable {elt tg iter : Expr} {ifs : List Expr} {scope : Scope} {own : List (Str × Nat)} {pos : Pos} {src : M Sr} {t : Tgt} {tt : M Bool} {te : M FT}
/-- every block context of a comprehension -/
abbrev InBlk (X : Cx) (scope : Scope) (P : Cx → Prop) : Prop := ∀ (s : Shared) (H : Hp) (C : Addr) (cl : List (Str × Addr)) (fp : List Addr), P (X.blk s H scope (compEnvC scope cl C X.env) fp)
theorem se_lc (hc : X.calm = true) (hN : X.N.Nodup) (hi : SI X ex W tg iter src) (ok : BlkOk X.N X.env.scope scope own) (hg : InBlk X scope fun Y => SG Y ex tg t) (ht : InBlk X scope fun Y => STs Y ex ifs tt) (he : InBlk X scope fun Y => SE Y ex NoW elt te)
    (hsub : ∀ i ∈ t.is, i ∈ own.map (·.2)) (ne : NotEx ex (own.map (·.2))) (hs : ∀ x, foldedSetIterable iter X.env x = pure x := by intro _; rfl) : SE X ex W (.ListComp elt [⟨tg, iter, ifs, 0⟩] scope pos) (mLc src t tt te (own.map (·.2))) :=
  PEw (pe_lc (g := cT (gx X ex) t) (tt := cG (gx X ex) NoW RB tt) (te := cG (gx X ex) NoW (RF (gx X ex)) te) hc hN hi ok (fun s H C cl fp => hg s H C cl fp) (fun s H C cl fp => ht s H C cl fp) (fun s H C cl fp => he s H C cl fp) hs) fun σ H Q h => lc_sound hsub ne h
end
end Ob
/-! # Ob12: cells, statements -/
namespace Ob
open PySem PySem.Spec PyProof.Rows L2

/-! ### new cells -/
def alF : Nat → FT → List (Option Cell) → VD × List (Option Cell)
  | 0, f, s => (fz f, s)
  | _ + 1, .val d, s => (d, s)
  | n + 1, .new fs, s =>
    let r := fs.foldl (fun q f => let z := alF n f q.2; (q.1 ++ [z.1], z.2)) (([] : List VD), s)
    (.cell r.2.length, r.2 ++ [some r.1])
structure Grow (F : Hp) (A : List Addr) (F' : Hp) (A' : List Addr) (P : List Addr) : Prop where
  ex : Same F F'
  pre : ∃ B, A' = A ++ B ∧ ∀ b ∈ B, b ∈ P
  new : ∀ b o, F' b = some o → F b = some o ∨ b ∈ P
section
variable {G : Gx} {F F' F2 F0 : Hp} {A A' A2 A0 : List Addr} {H H' H0 : Hp} {st : SS} {σ : L2.St} {P Q : List Addr}
theorem Grow.refl : Grow F A F A P := ⟨Same.refl F, ⟨[], by simp, by simp⟩, fun _ _ h => .inl h⟩
theorem Grow.mono (g : Grow F A F' A' P) (h : ∀ p ∈ P, p ∈ Q) : Grow F A F' A' Q := by
  obtain ⟨B, e, k⟩ := g.pre
  exact ⟨g.ex, ⟨B, e, fun b hb => h b (k b hb)⟩, fun b o q => (g.new b o q).imp id (h b)⟩
theorem Grow.trans (g : Grow F A F' A' P) (h : Grow F' A' F2 A2 P) : Grow F A F2 A2 P := by
  obtain ⟨B, e, k⟩ := g.pre
  obtain ⟨C, e2, k2⟩ := h.pre
  refine ⟨g.ex.trans h.ex, ⟨B ++ C, by rw [e2, e, List.append_assoc], fun b hb => (List.mem_append.mp hb).elim (k b) (k2 b)⟩, fun b o q => ?_⟩
  rcases h.new b o q with z | z
  · exact g.new b o z
  · exact .inr z
theorem Grow.at (g : Grow F A F' A' P) (k : Nat) (a : Addr) (h : A[k]? = some a) : A'[k]? = some a := by
  obtain ⟨B, e, n⟩ := g.pre
  have hl : k < A.length := (List.getElem?_eq_some_iff.mp h).1
  rw [e, List.getElem?_append_left hl]; exact h
theorem Grow.step (s : Step F0 A0 H0 F A H) (g : Grow F A F' A' P) (n : ∀ p ∈ P, H0 p = none) : Step F0 A0 H0 F' A' H where
  ex := s.ex.trans g.ex
  pre := by
    obtain ⟨B, e, k⟩ := s.pre
    obtain ⟨C, e2, k2⟩ := g.pre
    exact ⟨B ++ C, by rw [e2, e, List.append_assoc], fun b hb => (List.mem_append.mp hb).elim (k b) fun q => n b (k2 b q)⟩
  new := fun b o q => by
    rcases g.new b o q with z | z
    · exact s.new b o z
    · exact .inr (.inl (n b z))
  keep := s.keep
  dom := s.dom
mutual
theorem RepP.grow {K : PySem.W.Frag} (e : Same F F') (ea : ∀ (k : Nat) (a : Addr), A[k]? = some a → A'[k]? = some a) : ∀ {Q : List Addr} {v : V} {f : FT}, (∀ q ∈ Q, F' q = none ∧ q ∉ A') → RepP K F A H Q v f → RepP K F' A' H Q v f
  | _, _, _, _, .val h => .val (h.mono e ea)
  | _, _, _, n, .new h hf ha z r => .new h (n _ List.mem_cons_self).1 (n _ List.mem_cons_self).2 z (RepPs.grow e ea (fun q hq => n q (List.mem_cons_of_mem _ hq)) r)
theorem RepPs.grow {K : PySem.W.Frag} (e : Same F F') (ea : ∀ (k : Nat) (a : Addr), A[k]? = some a → A'[k]? = some a) : ∀ {Q : List Addr} {vs : List V} {fs : List FT}, (∀ q ∈ Q, F' q = none ∧ q ∉ A') → RepPs K F A H Q vs fs → RepPs K F' A' H Q vs fs
  | _, _, _, _, .nil => .nil
  | _, _, _, n, .cons h r => .cons (RepP.grow e ea (fun q hq => n q (List.mem_append_left _ hq)) h) (RepPs.grow e ea (fun q hq => n q (List.mem_append_right _ hq)) r)
end
theorem Rel.addCell (rel : Rel G F A st σ H) {p : Addr} {vs : List V} {ds : List VD} (na : p ∉ A) (nf : F p = none) (hp : H p = some (.lst vs)) (r : RepVs G.K F A vs ds) (z : ds.length ≤ sizeLine) : Rel G F (A ++ [p]) { st with s := st.s ++ [some ds] } σ H := by
  have ea : ∀ (k : Nat) (a : Addr), A[k]? = some a → (A ++ [p])[k]? = some a := fun k a h => by rw [List.getElem?_append_left (List.getElem?_eq_some_iff.mp h).1]; exact h
  refine ⟨rel.fh, ?_, by simp [rel.len], rel.sl, fun a ha => ?_, fun k a c ha hc => ?_, fun i d hd => ?_, fun i a dd f hx => ?_⟩
  · exact List.nodup_append.mpr ⟨rel.nd, by simp, fun a ha b hb e => na (by rw [← List.mem_singleton.mp hb, ← e]; exact ha)⟩
  · rcases List.mem_append.mp ha with h | h
    · exact rel.tr a h
    · rw [List.mem_singleton.mp h]; exact ⟨_, hp⟩
  · by_cases hk : k < A.length
    · rw [List.getElem?_append_left hk] at ha
      have hc' : (st.s ++ [some ds])[k]? = some (some c) := hc
      rw [List.getElem?_append_left (by rw [rel.len]; exact hk)] at hc'
      obtain ⟨h1, vs', h2, z', h3⟩ := rel.cel k a c ha hc'
      exact ⟨h1, vs', h2, z', h3.mono (Same.refl F) ea⟩
    · have hl : k < (A ++ [p]).length := (List.getElem?_eq_some_iff.mp ha).1
      have ek : k = A.length := by rw [List.length_append] at hl; simp at hl; omega
      subst ek
      have hc' : (st.s ++ [some ds])[A.length]? = some (some c) := hc
      rw [← rel.len, List.getElem?_append_right (Nat.le_refl _)] at hc'
      rw [List.getElem?_append_right (Nat.le_refl _)] at ha
      simp at ha hc'
      subst ha hc'
      exact ⟨nf, vs, hp, z, r.mono (Same.refl F) ea⟩
  · obtain ⟨v, h1, h2⟩ := rel.slt i d hd
    exact ⟨v, h1, h2.mono (Same.refl F) ea⟩
  · obtain ⟨h1, v, d, h2, h3, h4⟩ := rel.exn i a dd f hx
    exact ⟨h1, v, d, h2, h3, h4.mono (Same.refl F) ea⟩
/-- what is handed on is kept: frozen, or as new cells -/
theorem Rel.alloc : ∀ (n : Nat) {F : Hp} {A : List Addr} {st : SS} {P : List Addr} {v : V} {f : FT}, Rel G F A st σ H → RepP G.K F A H P v f → P.Nodup →
    ∃ F' A', Grow F A F' A' P ∧ Rel G F' A' { st with s := (alF n f st.s).2 } σ H ∧ RepV G.K F' A' v (alF n f st.s).1
  | 0, F, A, st, P, v, f, rel, rp, nd => by
    have nn := rp.nodes
    exact ⟨Ob.fzF F H P, A, ⟨fzF_same fun p hp => (nn p hp).2.1, ⟨[], by simp, by simp⟩, fun b o q => by
      by_cases m : b ∈ P
      · exact .inr m
      · rw [fzF_out m] at q; exact .inl q⟩, rel.fzF fun p hp => (nn p hp).2, rp.fz (fzF_same fun p hp => (nn p hp).2.1) fun p hp => fzF_in hp⟩
  | n + 1, F, A, st, _, v, _, rel, .val h, nd => ⟨F, A, Grow.refl, rel, h⟩
  | n + 1, F, A, st, _, _, .new fs, rel, @RepP.new _ _ _ _ p P vs _ h hf ha z r, nd => by
    have key : ∀ (fs : List FT) (vs : List V) (Q : List Addr) (F1 : Hp) (A1 : List Addr) (st1 : SS) (us : List V) (ds : List VD), Rel G F1 A1 st1 σ H → RepPs G.K F1 A1 H Q vs fs → Q.Nodup → RepVs G.K F1 A1 us ds →
        ∃ F2 A2, Grow F1 A1 F2 A2 Q ∧ Rel G F2 A2 { st1 with s := (fs.foldl (fun q f => let z := alF n f q.2; (q.1 ++ [z.1], z.2)) (ds, st1.s)).2 } σ H ∧
          RepVs G.K F2 A2 (us ++ vs) (fs.foldl (fun q f => let z := alF n f q.2; (q.1 ++ [z.1], z.2)) (ds, st1.s)).1 := by
      intro fs
      induction fs with
      | nil =>
        intro vs Q F1 A1 st1 us ds rel1 r1 nd1 ru
        cases r1
        exact ⟨F1, A1, Grow.refl, rel1, by rw [List.append_nil]; exact ru⟩
      | cons f fs ih =>
        intro vs Q F1 A1 st1 us ds rel1 r1 nd1 ru
        cases r1 with
        | @cons Q1 Q2 v1 vs1 _ _ h1 r1 =>
          obtain ⟨nd2, nd3, dj⟩ := List.nodup_append.mp nd1
          obtain ⟨F2, A2, g, rel2, rv⟩ := Rel.alloc n rel1 h1 nd2
          have nn := r1.nodes
          have free : ∀ q ∈ Q2, F2 q = none ∧ q ∉ A2 := fun q hq => by
            have d1 : q ∉ Q1 := fun m => dj q m q hq rfl
            refine ⟨?_, fun m => ?_⟩
            · cases e : F2 q with
              | none => rfl
              | some o =>
                rcases g.new q o e with z | z
                · rw [(nn q hq).2.1] at z; cases z
                · exact absurd z d1
            · obtain ⟨B, e, k⟩ := g.pre
              rw [e] at m
              rcases List.mem_append.mp m with z | z
              · exact (nn q hq).2.2 z
              · exact d1 (k q z)
          obtain ⟨F3, A3, g3, rel3, rv3⟩ := ih vs1 Q2 F2 A2 _ (us ++ [v1]) (ds ++ [(alF n f st1.s).1]) rel2 (r1.grow g.ex g.at free) nd3 ((ru.mono g.ex g.at).append (.cons rv .nil))
          refine ⟨F3, A3, (g.mono fun p hp => List.mem_append_left _ hp).trans (g3.mono fun p hp => List.mem_append_right _ hp), rel3, ?_⟩
          rw [List.append_assoc] at rv3
          exact rv3
    obtain ⟨np, nd'⟩ := List.nodup_cons.mp nd
    obtain ⟨F2, A2, g, rel2, rv⟩ := key fs vs P F A st [] [] rel r nd' .nil
    have nf2 : F2 p = none := by
      cases e : F2 p with
      | none => rfl
      | some o =>
        rcases g.new p o e with z | z
        · rw [hf] at z; cases z
        · exact absurd z np
    have na2 : p ∉ A2 := fun m => by
      obtain ⟨B, e, k⟩ := g.pre
      rw [e] at m
      rcases List.mem_append.mp m with z | z
      · exact ha z
      · exact np (k p z)
    have hl : vs.length = fs.length := r.len
    have hdl := rv.len
    rw [List.nil_append] at rv hdl
    have rel3 := rel2.addCell na2 nf2 h rv (by rw [← hdl, hl]; exact z)
    refine ⟨F2, A2 ++ [p], ⟨g.ex, ?_, fun b o q => (g.new b o q).imp id fun m => List.mem_cons_of_mem _ m⟩, rel3, ?_⟩
    · obtain ⟨B, e, k⟩ := g.pre
      refine ⟨B ++ [p], by rw [e, List.append_assoc], fun b hb => ?_⟩
      rcases List.mem_append.mp hb with z | z
      · exact List.mem_cons_of_mem _ (k b z)
      · rw [List.mem_singleton.mp z]; exact List.mem_cons_self
    · refine .cell ?_
      have e : (fs.foldl (fun q f => let z := alF n f q.2; (q.1 ++ [z.1], z.2)) (([] : List VD), st.s)).2.length = A2.length := rel2.len
      rw [e, List.getElem?_append_right (Nat.le_refl _)]
      simp
def mAl (n : Nat) (f : FT) : M VD := fun st => let r := alF n f st.s; .ok r.1 { st with s := r.2 }
theorem RF.alloc (n : Nat) {v : V} {f : FT} (s : Step F0 A0 H0 F A H) (rel : Rel G F A st σ H) (r : RF G H0 F A H v f) :
    ∃ F' A', Step F0 A0 H0 F' A' H ∧ Grow F A F' A' (Classical.choose r) ∧ Rel G F' A' { st with s := (alF n f st.s).2 } σ H ∧ RepV G.K F' A' v (alF n f st.s).1 := by
  obtain ⟨h1, h2, h3⟩ := Classical.choose_spec r
  obtain ⟨F', A', g, rel', rv⟩ := rel.alloc n h1 h2
  exact ⟨F', A', g.step s h3, g, rel', rv⟩
theorem RF.alloc' (n : Nat) {v : V} {f : FT} (s : Step F0 A0 H0 F A H) (rel : Rel G F A st σ H) (r : RF G H0 F A H v f) :
    ∃ F' A', Step F0 A0 H0 F' A' H ∧ Same F F' ∧ (∀ (k : Nat) (a : Addr), A[k]? = some a → A'[k]? = some a) ∧ Rel G F' A' { st with s := (alF n f st.s).2 } σ H ∧ RepV G.K F' A' v (alF n f st.s).1 := by
  obtain ⟨F', A', h1, g, h2, h3⟩ := r.alloc n s rel
  exact ⟨F', A', h1, g.ex, g.at, h2, h3⟩
/-- a cell is written -/
theorem Rel.setCell (rel : Rel G F A st σ H) {k : Nat} {a : Addr} {c c' : Cell} {vs' : List V} (ha : A[k]? = some a) (hc : st.s[k]? = some (some c)) (r : RepVs G.K F A vs' c') (z : c'.length ≤ sizeLine) : Rel G F A { st with s := st.s.set k (some c') } σ (upd H a (.lst vs')) := by
  obtain ⟨nf, vs, h2, z2, h3⟩ := rel.cel k a c ha hc
  refine ⟨fun b u h => ?_, rel.nd, by simp [rel.len], rel.sl, fun b hb => ?_, fun j b e hb he => ?_, rel.slt, rel.exn⟩
  · have : b ≠ a := fun e => by rw [e, nf] at h; cases h
    rw [upd_ne this]; exact rel.fh b u h
  · by_cases e : b = a
    · rw [e]; exact ⟨_, upd_same ..⟩
    · rw [upd_ne e]; exact rel.tr b hb
  · have he' : (st.s.set k (some c'))[j]? = some (some e) := he
    by_cases hj : k = j
    · subst hj
      rw [List.getElem?_set_self (List.getElem?_eq_some_iff.mp hc).1] at he'
      cases he'
      rw [ha] at hb
      cases hb
      exact ⟨nf, vs', upd_same .., z, r⟩
    · rw [List.getElem?_set_ne hj] at he'
      obtain ⟨q1, us, q2, q3⟩ := rel.cel j b e hb he'
      have : b ≠ a := fun e => by
        subst e
        have l1 := (List.getElem?_eq_some_iff.mp ha).1
        have l2 := (List.getElem?_eq_some_iff.mp hb).1
        have := (List.getElem_inj (h₀ := l1) (h₁ := l2) rel.nd).mp (by
          have e1 := (List.getElem?_eq_some_iff.mp ha).2
          have e2 := (List.getElem?_eq_some_iff.mp hb).2
          rw [e1, e2])
        exact hj this
      exact ⟨q1, us, by rw [upd_ne this]; exact q2, q3⟩
theorem Step.setCell {a : Addr} {o : HO} (m : a ∈ A) : Step F A H F A (upd H a o) where
  ex := Same.refl F
  pre := ⟨[], by simp, by simp⟩
  new := fun _ _ h => .inl h
  keep := fun b u h n => by
    have : b ≠ a := fun e => n (e ▸ m)
    rw [upd_ne this]; exact h
  dom := fun b h => by
    by_cases e : b = a
    · rw [e, upd_same] at h; cases h
    · rw [upd_ne e] at h; exact h
end

/-! ### statements -/
inductive Fl where
  | nx | rt (f : FT) | bk | ct
def OutS (G : Gx) (W : WX) (F : Hp) (A : List Addr) (H : Hp) (r : Res Fl) (D : Ends) : Prop := match r with
  | .ok .nx st' => ∀ σ' F' A' H', Step F A H F' A' H' → Rel G F' A' st' σ' H' → D.nx σ' H'
  | .ok .bk st' => ∀ σ' F' A' H', Step F A H F' A' H' → Rel G F' A' st' σ' H' → D.bk σ' H'
  | .ok .ct st' => ∀ σ' F' A' H', Step F A H F' A' H' → Rel G F' A' st' σ' H' → D.ct σ' H'
  | .ok (.rt f) st' => ∀ v σ' F' A' H', Step F A H F' A' H' → Rel G F' A' st' σ' H' → RF G H F' A' H' v f → D.rt v H'
  | .err x st' => ∀ cls dx σ' F' A' H', Step F A H F' A' H' → Rel G F' A' st' σ' H' → RepX G F' A' cls dx x → W cls dx σ' H'
  | .stuck => False
def cS (G : Gx) (W : WX) (m : M Fl) : TS := fun D σ H => ∃ F A st, Rel G F A st σ H ∧ OutS G W F A H (m st) D
def SS1 (X : Cx) (ex : Ex) (W : WX) (s : Stmt) (m : M Fl) : Prop := PS X s (cS (gx X ex) W m)
def SSs (X : Cx) (ex : Ex) (W : WX) (s : List Stmt) (m : M Fl) : Prop := PSs X s (cS (gx X ex) W m)
section
variable {G : Gx} {W : WX} {F F1 : Hp} {A A1 : List Addr} {H H1 : Hp} {st : SS} {σ : L2.St} {D : Ends}
theorem OutS.step {r : Res Fl} (o : OutS G W F A H r D) (s : Step F A H F1 A1 H1) : OutS G W F1 A1 H1 r D := by
  cases r with
  | ok f st' =>
    cases f with
    | nx => exact fun σ' F' A' H' s' rel => o σ' F' A' H' (s.trans s') rel
    | bk => exact fun σ' F' A' H' s' rel => o σ' F' A' H' (s.trans s') rel
    | ct => exact fun σ' F' A' H' s' rel => o σ' F' A' H' (s.trans s') rel
    | rt f => exact fun v σ' F' A' H' s' rel r => o v σ' F' A' H' (s.trans s') rel (r.start s)
  | err x st' => exact fun c d σ' F' A' H' s' rel r => o c d σ' F' A' H' (s.trans s') rel r
  | stuck => exact o
/-- an expression first -/
theorem OutS.bind {α β : Type} {m : M α} {k : α → M Fl} {R : Hp → List Addr → Hp → β → α → Prop} {C : β → Hp → Prop} (h : OutS G W F A H (bd m k st) D)
    (hk : ∀ b a F1 A1 H1 st1, Step F A H F1 A1 H1 → Rel G F1 A1 st1 σ H1 → R F1 A1 H1 b a → OutS G W F A H (k a st1) D → C b H1) : Out G W R F A σ H (m st) C := by
  unfold bd at h
  cases e : m st with
  | ok a st' =>
    rw [e] at h
    exact fun b F' A' H' s rel rr => hk b a F' A' H' st' s rel rr h
  | err x st' => rw [e] at h; exact fun c d F' A' H' s rel r => h c d σ F' A' H' s rel r
  | stuck => rw [e] at h; exact h
/-- the same, begun later -/
theorem OutS.bindS {α β : Type} {m : M α} {k : α → M Fl} {R : Hp → List Addr → Hp → β → α → Prop} {C : β → Hp → Prop} (h : OutS G W F A H (bd m k st) D) (s : Step F A H F1 A1 H1)
    (hk : ∀ b a F2 A2 H2 st2, Step F1 A1 H1 F2 A2 H2 → Rel G F2 A2 st2 σ H2 → R F2 A2 H2 b a → OutS G W F A H (k a st2) D → C b H2) : Out G W R F1 A1 σ H1 (m st) C := by
  unfold bd at h
  cases e : m st with
  | ok a st' =>
    rw [e] at h
    exact fun b F' A' H' s' rel rr => hk b a F' A' H' st' s' rel rr h
  | err x st' => rw [e] at h; exact fun c d F' A' H' s' rel r => h c d σ F' A' H' (s.trans s') rel r
  | stuck => rw [e] at h; exact h
theorem OutS.guard {c : Bool} {k : M Fl} (h : OutS G W F A H (bd (guard c) (fun _ => k) st) D) : c = true ∧ OutS G W F A H (k st) D := by
  unfold bd Ob.guard at h
  by_cases e : c = true
  · rw [if_pos e] at h; exact ⟨e, h⟩
  · rw [if_neg e] at h; exact h.elim
theorem OutS.mo {α : Type} {x : Option α} {k : α → M Fl} (o : OutS G W F A H (bd (Ob.mo x) k st) D) : ∃ a, x = some a ∧ OutS G W F A H (k a st) D := by
  unfold bd Ob.mo at o
  cases x with
  | none => exact o.elim
  | some a => exact ⟨a, rfl, o⟩
end
section
variable {X : Cx} {ex : Ex} {W : WX} {pos p2 : Pos} {s : Stmt} {rest : List Stmt} {m m' : M Fl} {e c : Expr} {me mo mi : M FT} {mc : M Bool}
/-- one statement, then the rest -/
def sq (m k : M Fl) : M Fl := bd m fun f => match f with
  | .nx => k
  | f => rt f
def sNext : M Fl := rt .nx
theorem ss_nil : SSs X ex W [] sNext := PSsw pss_nil fun D σ H ⟨F, A, st, rel, o⟩ => o σ F A H Step.refl rel
theorem ss_one (h : SS1 X ex W s m) : SSs X ex W [s] m := pss_one h
theorem ss_cons (h1 : SS1 X ex W s m) (h2 : SSs X ex W rest m') : SSs X ex W (s :: rest) (sq m m') := PSsw (pss_cons h1 h2) fun D σ H ⟨F, A, st, rel, o⟩ => by
  refine ⟨F, A, st, rel, ?_⟩
  unfold sq bd at o
  cases e : m st with
  | ok f st' =>
    rw [e] at o
    cases f with
    | nx => exact fun σ' F' A' H' s' rel' => ⟨F', A', st', rel', OutS.step o s'⟩
    | bk => exact o
    | ct => exact o
    | rt f => exact o
  | err x st' => rw [e] at o; exact o
  | stuck => rw [e] at o; exact o
theorem ss_pass : SS1 X ex W (.Pass pos) sNext := PSw ps_pass fun D σ H ⟨F, A, st, rel, o⟩ => o σ F A H Step.refl rel
theorem ss_break : SS1 X ex W (.Break pos) (rt .bk) := PSw ps_break fun D σ H ⟨F, A, st, rel, o⟩ => o σ F A H Step.refl rel
theorem ss_continue : SS1 X ex W (.Continue pos) (rt .ct) := PSw ps_continue fun D σ H ⟨F, A, st, rel, o⟩ => o σ F A H Step.refl rel
theorem ss_expr (he : SE X ex W e me) (hs : swapsWith e none pos.line X.env = pure false := by rfl) : SS1 X ex W (.Expr e pos) (bd me fun _ => sNext) := PSw (ps_expr he hs) fun D σ H ⟨F, A, st, rel, o⟩ =>
  ⟨F, A, st, rel, OutS.bind o fun v f F1 A1 H1 st1 s1 rel1 r1 o1 => o1 σ F1 A1 H1 s1 rel1⟩
theorem ss_ret (he : SE X ex W e me) : SS1 X ex W (.Return (some e) pos) (bd me fun f => rt (.rt f)) := PSw (ps_ret he) fun D σ H ⟨F, A, st, rel, o⟩ =>
  ⟨F, A, st, rel, OutS.bind o fun v f F1 A1 H1 st1 s1 rel1 r1 o1 => o1 v σ F1 A1 H1 s1 rel1 r1⟩
theorem ss_retN : SS1 X ex W (.Return none pos) (rt (.rt (vl .non))) := PSw ps_retN fun D σ H ⟨F, A, st, rel, o⟩ => o .non σ F A H Step.refl rel (RF.val (.pure .non))
theorem ss_if {a b : List Stmt} (hc : ST X ex W c mc) (ha : SSs X ex W a m) (hb : SSs X ex W b m') : SS1 X ex W (.If c a b pos) (bd mc fun k => if k = true then m else m') := PSw (ps_if hc ha hb) fun D σ H ⟨F, A, st, rel, o⟩ =>
  ⟨F, A, st, rel, OutS.bind o fun v f F1 A1 H1 st1 s1 rel1 r1 o1 => by
    have r1' : v = f := r1
    subst r1'
    cases v with
    | true => rw [if_pos rfl] at o1 ⊢; exact ⟨F1, A1, st1, rel1, OutS.step o1 s1⟩
    | false => rw [if_neg Bool.false_ne_true] at o1 ⊢; exact ⟨F1, A1, st1, rel1, OutS.step o1 s1⟩⟩
/-- name = value; n: how deep new lists are kept as cells -/
def mSet (n i : Nat) (me : M FT) : M Fl := bd me fun f => bd (mAl n f) fun d st => .ok .nx (st.put i d)
theorem set_go {F F1 : Hp} {A A1 : List Addr} {H H1 : Hp} {σ : L2.St} {st1 : SS} {D : Ends} {v : V} {f : FT} {n i : Nat} (ne : NotEx ex [i]) (s1 : Step F A H F1 A1 H1) (rel1 : Rel (gx X ex) F1 A1 st1 σ H1) (r1 : RF (gx X ex) H F1 A1 H1 v f)
    (o1 : OutS (gx X ex) W F A H ((bd (mAl n f) fun d st => .ok .nx (st.put i d)) st1) D) : D.nx (σ.set i (some v)) H1 := by
  obtain ⟨F2, A2, s2, e2, a2, rel2, rv⟩ := r1.alloc' n s1 rel1
  exact o1 _ F2 A2 H1 s2 (rel2.put rv ne)
theorem ss_set {i n : Nat} {x : Str} {pos' : Pos} (hN : X.N.Nodup) (hi : X.N[i]? = some x) (hx : Loc X.env.scope x) (ne : NotEx ex [i]) (hf : X.fn x = true ∨ X.env.scope.names.lookup x = some .local) (he : SE X ex W e me) (hs : swapsWith e (some (.Name x pos')) pos.line X.env = pure false := by rfl) :
    SS1 X ex W (.Assign [.Name x pos'] e pos) (mSet n i me) := PSw (ps_set hN hi hx he hs hf) fun D σ H ⟨F, A, st, rel, o⟩ =>
  ⟨F, A, st, rel, OutS.bind o fun v f F1 A1 H1 st1 s1 rel1 r1 o1 => set_go ne s1 rel1 r1 o1⟩
/-- two names at once -/
def mPar (n i j : Nat) (ms : M (List FT)) : M Fl := bd ms fun fs => match fs with
  | [f, g] => bd (mAl n f) fun d => bd (mAl n g) fun e st => .ok .nx ((st.put i d).put j e)
  | _ => stuck
theorem RF.grown {G : Gx} {F F' : Hp} {A A' : List Addr} {H H0 : Hp} {u : V} {g : FT} {P : List Addr} (gr : Grow F A F' A' P) {Q : List Addr} (rp : RepP G.K F A H Q u g) (nd : Q.Nodup) (z : ∀ q ∈ Q, H0 q = none) (dj : ∀ q ∈ Q, q ∉ P) : RF G H0 F' A' H u g := by
  have nn := rp.nodes
  refine ⟨Q, rp.grow gr.ex gr.at fun q hq => ⟨?_, fun m => ?_⟩, nd, z⟩
  · cases e : F' q with
    | none => rfl
    | some o =>
      rcases gr.new q o e with z | z
      · rw [(nn q hq).2.1] at z; cases z
      · exact absurd z (dj q hq)
  · obtain ⟨B, e, k⟩ := gr.pre
    rw [e] at m
    rcases List.mem_append.mp m with z | z
    · exact (nn q hq).2.2 z
    · exact dj q hq (k q z)
theorem ss_par {i j n : Nat} {x y : Str} {a b : Expr} {ms : M (List FT)} {px py pt : Pos} {kt k2 pt2} (hc : X.calm = true) (hN : X.N.Nodup) (hi : X.N[i]? = some x) (hj : X.N[j]? = some y) (hij : i ≠ j) (ne : NotEx ex [i]) (ne2 : NotEx ex [j])
    (hx : X.env.scope.names.lookup x = some .local) (hy : X.env.scope.names.lookup y = some .local) (ha : SA X ex W [a, b] ms)
    (hw : swappedStores [.Tuple [.Name x px, .Name y py] kt pt] (.Tuple [a, b] k2 pt2) X.env = pure (some [x, y]))
    (hs : swapsWithSole [.Tuple [.Name x px, .Name y py] kt pt] (.Tuple [a, b] k2 pt2) pos.line X.env = pure false := by rfl) :
    SS1 X ex W (.Assign [.Tuple [.Name x px, .Name y py] kt pt] (.Tuple [a, b] k2 pt2) pos) (mPar n i j ms) := PSw (ps_par hc hN hi hj hij hx hy ha hw hs) fun D σ H ⟨F, A, st, rel, o⟩ =>
  ⟨F, A, st, rel, OutS.bind o fun vs fs F1 A1 H1 st1 s1 rel1 r1 o1 => by
    split at o1
    · rename_i f g
      obtain ⟨P, p, nd, z⟩ := r1
      cases p with
      | @cons P Q v _ _ _ h1 r =>
        cases r with
        | @cons P2 Q2 u _ _ _ h2 r2 =>
          cases r2
          rw [List.append_nil] at nd z
          obtain ⟨n1, n2, dj⟩ := List.nodup_append.mp nd
          obtain ⟨F2, A2, g, rel2, rv⟩ := rel1.alloc n h1 n1
          have s2 := g.step s1 fun p hp => z p (List.mem_append_left _ hp)
          have rg := RF.grown (G := gx X ex) (H0 := H) g h2 n2 (fun q hq => z q (List.mem_append_right _ hq)) fun q hq m => dj q m q hq rfl
          obtain ⟨F3, A3, s3, e3, a3, rel3, ru⟩ := rg.alloc' n s2 rel2
          exact ⟨v, u, rfl, o1 _ F3 A3 H1 s3 ((rel3.put (rv.mono e3 a3) ne).put ru ne2)⟩
    · exact o1.elim⟩
/-- several names from a tuple or list -/
def mUnp (t : Tgt) (me : M FT) : M Fl := bd me fun f st => match mTg t (fz f) st with
  | some st' => .ok .nx st'
  | none => .stuck
theorem ss_unp {t : Tgt} {tg : Expr} (hg : SG X ex tg t) (he : SE X ex W e me) (hs : swapsWithSole [tg] e pos.line X.env = pure false := by rfl) (hw : swappedStores [tg] e X.env = pure none := by rfl) (h1 : (assignEach [tg] X.env).map (·.2) = [assign tg X.env] := by rfl) :
    SS1 X ex W (.Assign [tg] e pos) (mUnp t me) := PSw (ps_asg he hg hs hw h1) fun D σ H ⟨F, A, st, rel, o⟩ =>
  ⟨F, A, st, rel, OutS.bind o fun v f F1 A1 H1 st1 s1 rel1 r1 o1 => by
    obtain ⟨F2, s2, e2, rel2, rv⟩ := r1.freeze s1 rel1
    cases e3 : mTg t (fz f) st1 with
    | none => simp only [e3] at o1; exact o1.elim
    | some st' =>
      simp only [e3] at o1
      exact ⟨F2, A1, st1, fz f, st', rel2, rv, e3, fun σ' rel' _ _ => o1 σ' F2 A1 H1 s2 rel'⟩⟩
/-- name = [..] -/
theorem ss_setLc {i n : Nat} {y : Str} {py : Pos} {elt tg iter : Expr} {ifs : List Expr} {scope : Scope} {own : List (Str × Nat)} {src : M Sr} {t : Tgt} {tt : M Bool} {te : M FT} (hc : X.calm = true) (hN : X.N.Nodup) (hy : X.N[i]? = some y) (hyl : X.env.scope.names.lookup y = some .local) (nei : NotEx ex [i])
    (hsw : swapsWith (.ListComp elt [⟨tg, iter, ifs, 0⟩] scope p2) (some (.Name y py)) pos.line X.env = pure true) (hi : SI X ex W tg iter src) (ok : BlkOk X.N X.env.scope scope own) (hg : InBlk X scope fun Y => SG Y ex tg t) (ht : InBlk X scope fun Y => STs Y ex ifs tt) (he : InBlk X scope fun Y => SE Y ex NoW elt te)
    (hsub : ∀ i ∈ t.is, i ∈ own.map (·.2)) (ne : NotEx ex (own.map (·.2))) (hs : ∀ x, foldedSetIterable iter X.env x = pure x := by intro _; rfl) :
    SS1 X ex W (.Assign [.Name y py] (.ListComp elt [⟨tg, iter, ifs, 0⟩] scope p2) pos) (mSet n i (mLc src t tt te (own.map (·.2)))) :=
  PSw (ps_setLc (g := cT (gx X ex) t) (tt := cG (gx X ex) NoW RB tt) (te := cG (gx X ex) NoW (RF (gx X ex)) te) hc hN hy hyl hsw hi ok (fun s H C cl fp => hg s H C cl fp) (fun s H C cl fp => ht s H C cl fp) (fun s H C cl fp => he s H C cl fp) hs) fun D σ H ⟨F, A, st, rel, o⟩ =>
    lc_sound (W := W) hsub ne ⟨F, A, st, rel, OutS.bind o fun v f F1 A1 H1 st1 s1 rel1 r1 o1 => set_go nei s1 rel1 r1 o1⟩

/-! ### cells changed -/
def kOf (f : FT) : M Nat := fun st => match f with
  | .val (.cell k) => match st.s[k]? with
    | some (some _) => .ok k st
    | _ => .stuck
  | _ => .stuck
/-- a cell's items -/
def cel (k : Nat) : M Cell := fun st => match st.s[k]? with
  | some (some c) => .ok c st
  | _ => .stuck
def wrc (k : Nat) (c : Cell) : M Unit := fun st => .ok () { st with s := st.s.set k (some c) }
section
variable {G : Gx} {F : Hp} {A : List Addr} {H : Hp} {st : SS} {σ : L2.St} {F0 : Hp} {A0 : List Addr} {H0 Hs : Hp}
theorem kOf_ok {γ : Type} {f : FT} {k : Nat → M γ} {v : V} (rel : Rel G F A st σ H) (r : RF G H0 F A H v f) : (bd (kOf f) k st = .stuck) ∨ ∃ j a c, f = .val (.cell j) ∧ v = .ref a ∧ A[j]? = some a ∧ st.s[j]? = some (some c) ∧ bd (kOf f) k st = k j st := by
  unfold bd kOf
  cases f with
  | new fs => exact .inl rfl
  | val d =>
    cases d with
    | cell j =>
      cases e : st.s[j]? with
      | none => exact .inl (by simp [e])
      | some oc =>
        cases oc with
        | none => exact .inl (by simp [e])
        | some c =>
          have r' := RF.ofVal r
          cases r' with
          | cell ha => exact .inr ⟨j, _, c, rfl, rfl, ha, e, by simp [e]⟩
    | _ => exact .inl rfl
theorem cel_ok {γ : Type} {j : Nat} {k : Cell → M γ} : (bd (cel j) k st = .stuck) ∨ ∃ c, st.s[j]? = some (some c) ∧ bd (cel j) k st = k c st := by
  unfold bd cel
  cases e : st.s[j]? with
  | none => exact .inl (by simp [e])
  | some oc =>
    cases oc with
    | none => exact .inl (by simp [e])
    | some c => exact .inr ⟨c, rfl, by simp [e]⟩
end
/-- xs[i] = v -/
def mSetI (n : Nat) (me mo mi : M FT) : M Fl := bd me fun f => bd mo fun o => bd (kOf o) fun k => bd mi fun i => match i with
  | .val (.pure (.int j)) => bd (mAl n f) fun d => bd (cel k) fun c => bd (Ob.mo (ixN c.length j)) fun q => bd (wrc k (c.set q d)) fun _ => sNext
  | _ => stuck
theorem ss_setI {n : Nat} {o i : Expr} (he : SE X ex W e me) (ho : SE X ex W o mo) (hi : SE X ex W i mi) (ha : ∀ v, assign (.Subscript o i p2) X.env v = (do
      let ov ← holding [v] (eval o X.env)
      let iv ← holding [v, ov] (eval i X.env)
      standAt p2
      holding [v, ov, iv] (setItem ov iv v)
      release [v, ov, iv] []) := by intro _; rfl)
    (hs : swapsWithSole [.Subscript o i p2] e pos.line X.env = pure false := by rfl) (hw : swappedStores [.Subscript o i p2] e X.env = pure none := by rfl) (h1 : (assignEach [.Subscript o i p2] X.env).map (·.2) = [assign (.Subscript o i p2) X.env] := by rfl) :
    SS1 X ex W (.Assign [.Subscript o i p2] e pos) (mSetI n me mo mi) := PSw (ps_asg he (pg_sub ho hi set_list ha) hs hw h1) fun D σ H ⟨F, A, st, rel, o⟩ =>
  ⟨F, A, st, rel, OutS.bind o fun v f F1 A1 H1 st1 s1 rel1 r1 o1 => ⟨F1, A1, st1, rel1, OutS.bindS o1 s1 fun w g F2 A2 H2 st2 s2 rel2 r2 o2 => by
    rcases kOf_ok (k := fun k => bd mi fun i => match i with
      | .val (.pure (.int j)) => bd (mAl n f) fun d => bd (cel k) fun c => bd (Ob.mo (ixN c.length j)) fun q => bd (wrc k (c.set q d)) fun _ => sNext
      | _ => stuck) rel2 r2 with q | ⟨k, a, c, rfl, rfl, hA, hc, q⟩
    · rw [q] at o2; exact o2.elim
    rw [q] at o2
    refine ⟨F2, A2, st2, rel2, OutS.bindS o2 (s1.trans s2) fun u i F3 A3 H3 st3 s3 rel3 r3 o3 => ?_⟩
    split at o3
    · rename_i j
      have eu := r3.int
      subst eu
      have s13 := (s1.trans s2).trans s3
      have r1' : RF (gx X ex) H F3 A3 H3 v f := r1.step (s2.trans s3)
      obtain ⟨F4, A4, s4, e4, a4, rel4, rv⟩ := r1'.alloc' n s13 rel3
      have o4 : OutS (gx X ex) W F A H ((bd (cel k) fun c => bd (Ob.mo (ixN c.length j)) fun q => bd (wrc k (c.set q (alF n f st3.s).1)) fun _ => sNext) { st3 with s := (alF n f st3.s).2 }) D := o3
      rcases cel_ok (j := k) (k := fun c => bd (Ob.mo (ixN c.length j)) fun q => bd (wrc k (c.set q (alF n f st3.s).1)) fun _ => sNext) (st := { st3 with s := (alF n f st3.s).2 }) with q | ⟨c', hc', q⟩
      · rw [q] at o4; exact o4.elim
      rw [q] at o4
      obtain ⟨jj, hj, o5⟩ := o4.mo
      have hA4 : A4[k]? = some a := a4 k a (s3.at k a hA)
      obtain ⟨nf, vs, h2, z2, h3⟩ := rel4.cel k a c' hA4 hc'
      refine ⟨a, vs, j, jj, rfl, rfl, h2, by rw [h3.len]; exact hj, o5 σ F4 A4 _ (s4.trans (Step.setCell (List.mem_of_getElem? hA4))) (rel4.setCell hA4 hc' (h3.set rv jj) ?_)⟩
      rw [List.length_set]; exact z2
    · exact o3.elim⟩⟩
/-- methods of cells -/
def mCm (op : Nat → List FT → M FT) (mo : M FT) (ms : M (List FT)) : M FT := bd mo fun o => bd (kOf o) fun k => bd ms fun fs => op k fs
def CmS (X : Cx) (ex : Ex) (W : WX) (r : V → List V → Hp → VK → Prop) (op : Nat → List FT → M FT) : Prop := ∀ (F : Hp) (A : List Addr) (σ : L2.St) (H H0 : Hp) (F0 : Hp) (A0 : List Addr) (st : SS) (a : Addr) (k : Nat) (vs : List V) (fs : List FT) (Q : VK), Step F0 A0 H0 F A H → Rel (gx X ex) F A st σ H → A[k]? = some a → RFs (gx X ex) H0 F A H vs fs →
  Out (gx X ex) W (RF (gx X ex) H0) F0 A0 σ H0 (op k fs st) Q → r (.ref a) vs H Q
theorem se_cm {name : Str} {id : String} {o : Expr} {es : List Expr} {ms : M (List FT)} {apos cpos : Pos} {r : V → List V → Hp → VK → Prop} {op : Nat → List FT → M FT} (slot : Slot "list" name id) (hty : typeOf (.builtin id) = pure (.type "method_descriptor")) (hm : MtR X id r) (hop : CmS X ex W r op) (ho : SE X ex W o mo) (ha : SA X ex W (e :: es) ms)
    (hbase : attributeBase o name X.env (eval o X.env) = eval o X.env := by rfl)
    (hfew : ((backTo cpos (starEach (e :: es) X.env)).all (fun x => !x.1) && (backToKw cpos (keywordEach [] X.env)).all (fun x => x.1.isSome)
      && decide ((e :: es).length + ([] : List Keyword).length + (if ([] : List Keyword).isEmpty then 0 else 1) < 30)) = true := by rfl)
    (hline : (apos.endLine == cpos.line) = true := by rfl) (hs : starEach (e :: es) X.env = (false, eval e X.env) :: starEach es X.env := by rfl) (hplain : (backTo cpos (starEach es X.env)).any (·.1) = false := by rfl) :
    SE X ex W (.Call (.Attribute o name apos) (e :: es) [] cpos) (mCm op mo ms) :=
  PEw (pe_bm F.plainAttrs_list slot hty hm ho ha hbase hfew hline hs hplain) fun σ H Q ⟨F, A, st, rel, o⟩ => ⟨F, A, st, rel, Out.bind0 o fun w g F1 A1 H1 st1 s1 rel1 r1 o1 => by
    rcases kOf_ok (k := fun k => bd ms fun fs => op k fs) rel1 r1 with q | ⟨k, a, c, rfl, rfl, hA, hc, q⟩
    · rw [q] at o1; exact o1.elim
    rw [q] at o1
    obtain ⟨nf, vs, h2, z2, h3⟩ := rel1.cel k a c hA hc
    refine ⟨.inl ⟨rfl, vs, SqL.of h2⟩, F1, A1, st1, rel1, Out.bindS o1 s1 fun us fs F2 A2 H2 st2 s2 rel2 r2 o2 => ?_⟩
    exact hop F2 A2 σ H2 H F A st2 a k us fs Q (s1.trans s2) rel2 (s2.at k a hA) (r2.start s1) o2⟩
def oApp (n : Nat) (k : Nat) (fs : List FT) : M FT := match fs with
  | [f] => bd (mAl n f) fun d => bd (cel k) fun c => bd (guard (decide (c.length < lim))) fun _ => bd (wrc k (c ++ [d])) fun _ => rt (vl .non)
  | _ => stuck
theorem cm_app {n : Nat} : CmS X ex W rAppend (oApp n) := by
  intro F A σ H H0 F0 A0 st a k vs fs Q s rel hA rr o
  unfold oApp at o
  split at o
  · rename_i f
    obtain ⟨v, rfl, r⟩ := rr.isOne
    obtain ⟨F4, A4, s4, e4, a4, rel4, rv⟩ := r.alloc' n s rel
    have o4 : Out (gx X ex) W (RF (gx X ex) H0) F0 A0 σ H0 ((bd (cel k) fun c => bd (guard (decide (c.length < lim))) fun _ => bd (wrc k (c ++ [(alF n f st.s).1])) fun _ => rt (vl .non)) { st with s := (alF n f st.s).2 }) Q := o
    rcases cel_ok (j := k) (k := fun c => bd (guard (decide (c.length < lim))) fun _ => bd (wrc k (c ++ [(alF n f st.s).1])) fun _ => rt (vl .non)) (st := { st with s := (alF n f st.s).2 }) with q | ⟨c', hc', q⟩
    · rw [q] at o4; exact o4.elim
    rw [q] at o4
    obtain ⟨hl, o5⟩ := o4.guard
    have hl' := of_decide_eq_true hl
    have hA4 : A4[k]? = some a := a4 k a hA
    obtain ⟨nf, us, h2, z2, h3⟩ := rel4.cel k a c' hA4 hc'
    refine ⟨a, us, v, rfl, rfl, h2, by rw [h3.len]; exact Nat.lt_of_lt_of_le hl' (by decide), o5 .non F4 A4 _ (s4.trans (Step.setCell (List.mem_of_getElem? hA4))) (rel4.setCell hA4 hc' (h3.append (.cons rv .nil)) ?_) (RF.val (.pure .non))⟩
    rw [List.length_append]
    have : (1000000 : Nat) ≤ sizeLine := by decide
    have h2 : c'.length < 1000000 := hl'
    simp only [List.length_cons, List.length_nil]
    omega
  · exact o.elim
theorem slot_app : Slot "list" "append" "list.append" := F.slot_list_append
end
end Ob
/-! # Ob13: loops -/
namespace Ob
open PySem PySem.Spec PyProof.Rows L2

/-! ### cells forgotten at a turn's end -/
mutual
/-- all cells below n -/
def rl (n : Nat) : VD → Bool
  | .pure _ => true
  | .cell k => decide (k < n)
  | .lst ds => rls n ds
  | .tup ds => rls n ds
def rls (n : Nat) : List VD → Bool
  | [] => true
  | d :: r => rl n d && rls n r
end
def rlO (n : Nat) : Option VD → Bool
  | none => true
  | some d => rl n d
def rlC (n : Nat) : Option Cell → Bool
  | none => true
  | some c => rls n c
/-- the store cut to its first n cells, the slots at kill forgotten -/
def cut (n : Nat) (kill : List Nat) (st : SS) : Option SS :=
  if st.s.length = n then some { st with d := wipeL st.d kill }
  else if n < st.s.length ∧ (wipeL st.d kill).all (rlO n) = true ∧ (st.s.take n).all (rlC n) = true ∧ rlO n st.x = true then some { st with d := wipeL st.d kill, s := st.s.take n } else none
section
variable {G : Gx} {F F1 F' : Hp} {A A1 A' B : List Addr} {H H1 H' : Hp} {st : SS} {σ : L2.St}
mutual
theorem RepV.cut {K : PySem.W.Frag} : ∀ {v : V} {d : VD}, RepV K F (A ++ B) v d → rl A.length d = true → RepV K F A v d
  | _, _, .pure h, _ => .pure h
  | _, _, @RepV.cell _ _ _ a k h, e => .cell (by
    have hk : k < A.length := of_decide_eq_true e
    rw [List.getElem?_append_left hk] at h; exact h)
  | _, _, .lst h z r, e => .lst h z (RepVs.cut r (by unfold rl at e; exact e))
  | _, _, .tup h z r, e => .tup h z (RepVs.cut r (by unfold rl at e; exact e))
theorem RepVs.cut {K : PySem.W.Frag} : ∀ {vs : List V} {ds : List VD}, RepVs K F (A ++ B) vs ds → rls A.length ds = true → RepVs K F A vs ds
  | _, _, .nil, _ => .nil
  | _, _, .cons h r, e => by
    unfold rls at e
    have e' := Bool.and_eq_true _ _ ▸ e
    exact .cons (RepV.cut h e'.1) (RepVs.cut r e'.2)
end
theorem Rel.kill (rel : Rel G F A st σ H) (kl : List Nat) : Rel G F A { st with d := wipeL st.d kl } σ H :=
  ⟨rel.fh, rel.nd, rel.len, by show (wipeL st.d kl).length = _; rw [wipeL_len]; exact rel.sl, rel.tr, rel.cel, fun i d h => rel.slt i d (wipeL_some h).1, rel.exn⟩
theorem Step.cut (s : Step F A H F' (A ++ B) H') : Step F A H F' A H' := ⟨s.ex, ⟨[], by simp, by simp⟩, s.new, s.keep, s.dom⟩
theorem Rel.cut {st4 : SS} {kl : List Nat} (s : Step F1 A1 H1 F A H) (rel : Rel G F A st σ H) (e : Ob.cut A1.length kl st = some st4) : Step F1 A1 H1 F A1 H ∧ Rel G F A1 st4 σ H := by
  obtain ⟨B, eA, _⟩ := s.pre
  unfold Ob.cut at e
  by_cases h : st.s.length = A1.length
  · rw [if_pos h] at e
    cases e
    have hB : B = [] := by
      have := rel.len
      rw [h, eA, List.length_append] at this
      exact List.eq_nil_of_length_eq_zero (by omega)
    subst hB
    rw [List.append_nil] at eA
    subst eA
    exact ⟨s, rel.kill kl⟩
  · rw [if_neg h] at e
    by_cases h2 : A1.length < st.s.length ∧ (wipeL st.d kl).all (rlO A1.length) = true ∧ (st.s.take A1.length).all (rlC A1.length) = true ∧ rlO A1.length st.x = true
    · rw [if_pos h2] at e
      cases e
      obtain ⟨hl, h3, h4, h5⟩ := h2
      subst eA
      refine ⟨s.cut, rel.fh, (List.nodup_append.mp rel.nd).1, ?_, ?_, fun a ha => rel.tr a (List.mem_append_left _ ha), fun k a c ha hc => ?_, fun i d hd => ?_, fun i a dd f hx => ?_⟩
      · show (st.s.take A1.length).length = _
        rw [List.length_take]; omega
      · show (wipeL st.d kl).length = _
        rw [wipeL_len]; exact rel.sl
      · have hk := (List.getElem?_eq_some_iff.mp ha).1
        have hc' : (st.s.take A1.length)[k]? = some (some c) := hc
        have hm := List.all_eq_true.mp h4 (some c) (List.mem_of_getElem? hc')
        rw [List.getElem?_take_of_lt hk] at hc'
        obtain ⟨q1, vs, q2, z, q3⟩ := rel.cel k a c (by rw [List.getElem?_append_left hk]; exact ha) hc'
        exact ⟨q1, vs, q2, z, q3.cut hm⟩
      · have hd' : (wipeL st.d kl)[i]? = some (some d) := hd
        have hm := List.all_eq_true.mp h3 (some d) (List.mem_of_getElem? hd')
        obtain ⟨v, q1, q2⟩ := rel.slt i d (wipeL_some hd').1
        exact ⟨v, q1, q2.cut hm⟩
      · obtain ⟨q1, v, d, q2, q3, q4⟩ := rel.exn i a dd f hx
        exact ⟨q1, v, d, q2, q3, q4.cut (by rw [q3] at h5; exact h5)⟩
    · rw [if_neg h2] at e; cases e
end

/-! ### for -/
def forLoop (sr : Sr) (t : Tgt) (kl : List Nat) (base : Nat) (body : M Fl) : Nat → Nat → M Fl
  | 0, _ => stuck
  | n + 1, i => fun st => match sr.items st.s with
    | none => .stuck
    | some ds => match ds[i]? with
      | none => if i = ds.length then .ok .nx st else .stuck
      | some d => match mTg t d st with
        | none => .stuck
        | some st2 => match body st2 with
          | .ok .nx st3 => match cut base kl st3 with
            | some st4 => forLoop sr t kl base body n (i + 1) st4
            | none => .stuck
          | .ok .ct st3 => match cut base kl st3 with
            | some st4 => forLoop sr t kl base body n (i + 1) st4
            | none => .stuck
          | .ok .bk st3 => match cut base kl st3 with
            | some st4 => .ok .nx st4
            | none => .stuck
          | .ok (.rt f) st3 => .ok (.rt f) st3
          | .err x st3 => .err x st3
          | .stuck => .stuck
def mFor (src : M Sr) (t : Tgt) (kl : List Nat) (body : M Fl) : M Fl := bd src fun sr st => match sr.items st.s with
  | none => .stuck
  | some ds => forLoop sr t kl st.s.length body (ds.length + 1) 0 st
section
variable {X : Cx} {ex : Ex} {W : WX} {pos : Pos} {tg iter c : Expr} {body : List Stmt} {src : M Sr} {t : Tgt} {m : M Fl} {mc : M Bool}
theorem ss_for {kl : List Nat} (hp : PassesOwn (model X.prog X.w) X.A X.env X.xe) (hc : X.calm = true) (hi : SI X ex W tg iter src) (hg : SG X ex tg t) (hb : SSs X ex W body m) (hs : ∀ x, foldedSetIterable iter X.env x = pure x := by intro _; rfl) :
    SS1 X ex W (.For tg iter body [] pos) (mFor src t kl m) := PSw (ps_for hp hc hi hg hb hs) fun D σ H ⟨F, A, st, rel, o⟩ =>
  ⟨F, A, st, rel, OutS.bind o fun J sr F1 A1 H1 st1 s1 rel1 wk o1 => by
    cases e0 : sr.items st1.s with
    | none => simp only [e0] at o1; exact o1.elim
    | some ds0 =>
      simp only [e0] at o1
      rw [rel1.len] at o1
      let Wv : Nat → Nat → L2.St → Hp → Prop := fun i n σc Hc => ∃ F' st', Step F A H F' A1 Hc ∧ Step F1 A1 H1 F' A1 Hc ∧ Rel (gx X ex) F' A1 st' σc Hc ∧ OutS (gx X ex) W F A H (forLoop sr t kl A1.length m n i st') D
      refine ⟨Wv, ⟨ds0.length + 1, F1, st1, s1, Step.refl, rel1, o1⟩, ?_⟩
      rintro i n σc Hc ⟨F', st', s2, s2', rel2, o2⟩
      cases n with
      | zero => exact o2.elim
      | succ n =>
        unfold forLoop at o2
        cases e1 : sr.items st'.s with
        | none => simp only [e1] at o2; exact o2.elim
        | some ds =>
          simp only [e1] at o2
          have hw := wk F' A1 Hc st' σc i ds s2'.ex s2'.at rel2 e1
          cases e2 : ds[i]? with
          | none =>
            simp only [e2] at o2
            by_cases hl : i = ds.length
            · rw [if_pos hl] at o2
              exact .inl ⟨hw.1 hl, o2 σc F' A1 Hc s2 rel2⟩
            · rw [if_neg hl] at o2; exact o2.elim
          | some d =>
            simp only [e2] at o2
            obtain ⟨hgo, hy⟩ := hw.2 d e2
            refine .inr ⟨hgo, Wv (i + 1) n, fun σ' H' hN => ⟨n, Nat.lt_succ_self n, hN⟩, fun x H2 hyx => ?_⟩
            obtain ⟨F2, s3, rel3, rx⟩ := hy x H2 hyx
            cases e3 : mTg t d st' with
            | none => simp only [e3] at o2; exact o2.elim
            | some st2 =>
              simp only [e3] at o2
              refine ⟨F2, A1, st', d, st2, rel3, rx, e3, fun σ2 rel4 _ _ => ⟨F2, A1, st2, rel4, ?_⟩⟩
              have again : ∀ st3 st4, Ob.cut A1.length kl st3 = some st4 → OutS (gx X ex) W F A H (forLoop sr t kl A1.length m n (i + 1) st4) D → ∀ σ' F5 A5 H5, Step F2 A1 H2 F5 A5 H5 → Rel (gx X ex) F5 A5 st3 σ' H5 → Wv (i + 1) n σ' H5 := by
                intro st3 st4 ec o5 σ' F5 A5 H5 s5 rel5
                obtain ⟨sc, relc⟩ := Rel.cut s5 rel5 ec
                exact ⟨F5, st4, (s2.trans s3).trans sc, (s2'.trans s3).trans sc, relc, o5⟩
              cases e4 : m st2 with
              | stuck => simp only [e4] at o2; exact o2.elim
              | err xx st3 =>
                simp only [e4] at o2
                exact fun cls dx σ' F5 A5 H5 s5 rel5 r5 => o2 cls dx σ' F5 A5 H5 ((s2.trans s3).trans s5) rel5 r5
              | ok f st3 =>
                cases f with
                | nx =>
                  simp only [e4] at o2
                  cases ec : Ob.cut A1.length kl st3 with
                  | none => simp only [ec] at o2; exact o2.elim
                  | some st4 => simp only [ec] at o2; exact again st3 st4 ec o2
                | ct =>
                  simp only [e4] at o2
                  cases ec : Ob.cut A1.length kl st3 with
                  | none => simp only [ec] at o2; exact o2.elim
                  | some st4 => simp only [ec] at o2; exact again st3 st4 ec o2
                | bk =>
                  simp only [e4] at o2
                  cases ec : Ob.cut A1.length kl st3 with
                  | none => simp only [ec] at o2; exact o2.elim
                  | some st4 =>
                    simp only [ec] at o2
                    intro σ' F5 A5 H5 s5 rel5
                    obtain ⟨sc, relc⟩ := Rel.cut s5 rel5 ec
                    exact o2 σ' F5 A1 H5 ((s2.trans s3).trans sc) relc
                | rt f =>
                  simp only [e4] at o2
                  exact fun v σ' F5 A5 H5 s5 rel5 r5 => o2 v σ' F5 A5 H5 ((s2.trans s3).trans s5) rel5 (r5.start (s2.trans s3))⟩

/-! ### while -/
def whLoop (c : M Bool) (kl : List Nat) (base : Nat) (body : M Fl) : Nat → M Fl
  | 0 => stuck
  | n + 1 => bd c fun k => if k = true then fun st => match body st with
      | .ok .nx st3 => match cut base kl st3 with
        | some st4 => whLoop c kl base body n st4
        | none => .stuck
      | .ok .ct st3 => match cut base kl st3 with
        | some st4 => whLoop c kl base body n st4
        | none => .stuck
      | .ok .bk st3 => match cut base kl st3 with
        | some st4 => .ok .nx st4
        | none => .stuck
      | .ok (.rt f) st3 => .ok (.rt f) st3
      | .err x st3 => .err x st3
      | .stuck => .stuck
    else sNext
/-- some number of turns serves: the reading asks for one -/
def mWh (fuel : Nat) (c : M Bool) (kl : List Nat) (body : M Fl) : M Fl := fun st => whLoop c kl st.s.length body fuel st
theorem ss_while {kl : List Nat} {fuel : Nat} (hp : PassesOwn (model X.prog X.w) X.A X.env X.xe) (hc : ST X ex W c mc) (hb : SSs X ex W body m) : SS1 X ex W (.While c body [] pos) (mWh fuel mc kl m) := PSw (ps_while hp hc hb) fun D σ H ⟨F, A, st, rel, o⟩ => by
  unfold mWh at o
  rw [rel.len] at o
  let Wv : Nat → L2.St → Hp → Prop := fun n σc Hc => ∃ F' st', Step F A H F' A Hc ∧ Rel (gx X ex) F' A st' σc Hc ∧ OutS (gx X ex) W F A H (whLoop mc kl A.length m n st') D
  refine ⟨Wv, ⟨fuel, F, st, Step.refl, rel, o⟩, ?_⟩
  rintro n σc Hc ⟨F', st', s2, rel2, o2⟩
  cases n with
  | zero => exact o2.elim
  | succ n =>
    unfold whLoop at o2
    refine ⟨F', A, st', rel2, OutS.bindS o2 s2 fun b k F3 A3 H3 st3 s3 rel3 rb o3 => ?_⟩
    have rb' : b = k := rb
    subst rb'
    cases b with
    | false =>
      rw [if_neg Bool.false_ne_true] at o3 ⊢
      exact o3 σc F3 A3 H3 (s2.trans s3) rel3
    | true =>
      rw [if_pos rfl] at o3 ⊢
      refine ⟨Wv n, fun σ' H' hN => ⟨n, Nat.lt_succ_self n, hN⟩, F3, A3, st3, rel3, ?_⟩
      have again : ∀ st5 st4, Ob.cut A.length kl st5 = some st4 → OutS (gx X ex) W F A H (whLoop mc kl A.length m n st4) D → ∀ σ' F5 A5 H5, Step F3 A3 H3 F5 A5 H5 → Rel (gx X ex) F5 A5 st5 σ' H5 → Wv n σ' H5 := by
        intro st5 st4 ec o5 σ' F5 A5 H5 s5 rel5
        obtain ⟨sc, relc⟩ := Rel.cut ((s2.trans s3).trans s5) rel5 ec
        exact ⟨F5, st4, sc, relc, o5⟩
      cases e4 : m st3 with
      | stuck => simp only [e4] at o3; exact o3.elim
      | err xx st5 =>
        simp only [e4] at o3
        exact fun cls dx σ' F5 A5 H5 s5 rel5 r5 => o3 cls dx σ' F5 A5 H5 ((s2.trans s3).trans s5) rel5 r5
      | ok f st5 =>
        cases f with
        | nx =>
          simp only [e4] at o3
          cases ec : Ob.cut A.length kl st5 with
          | none => simp only [ec] at o3; exact o3.elim
          | some st4 => simp only [ec] at o3; exact again st5 st4 ec o3
        | ct =>
          simp only [e4] at o3
          cases ec : Ob.cut A.length kl st5 with
          | none => simp only [ec] at o3; exact o3.elim
          | some st4 => simp only [ec] at o3; exact again st5 st4 ec o3
        | bk =>
          simp only [e4] at o3
          cases ec : Ob.cut A.length kl st5 with
          | none => simp only [ec] at o3; exact o3.elim
          | some st4 =>
            simp only [ec] at o3
            intro σ' F5 A5 H5 s5 rel5
            obtain ⟨sc, relc⟩ := Rel.cut ((s2.trans s3).trans s5) rel5 ec
            exact o3 σ' F5 A H5 sc relc
        | rt f =>
          simp only [e4] at o3
          exact fun v σ' F5 A5 H5 s5 rel5 r5 => o3 v σ' F5 A5 H5 ((s2.trans s3).trans s5) rel5 (r5.start (s2.trans s3))
end
end Ob
/-! # Ob14: defs and their calls -/
namespace Ob
open PySem PySem.Spec PyProof.Rows L2

inductive RR where
  | ok (f : FT) (s : List (Option Cell)) | err (x : XD) (s : List (Option Cell)) | stuck
/-- a def's mirror: its arguments, the cells -/
abbrev FM := List VD → List (Option Cell) → RR
abbrev bare (s : List (Option Cell)) : SS := ⟨[], s, none⟩
def OutF (G : Gx) (F : Hp) (A : List Addr) (H : Hp) (r : RR) (Q : VK) (E : XK) : Prop := match r with
  | .ok f s' => ∀ v F' A' H', Step F A H F' A' H' → Rel G F' A' (bare s') [] H' → RF G H F' A' H' v f → Q v H'
  | .err x s' => ∀ cls dx F' A' H', Step F A H F' A' H' → Rel G F' A' (bare s') [] H' → RepX G F' A' cls dx x → E cls dx H'
  | .stuck => False
abbrev g0 (K : PySem.W.Frag) (mg : Str → Option Value) : Gx := ⟨K, mg, none⟩
def spD (K : PySem.W.Frag) (mg : Str → Option Value) (n : Nat) (fm : FM) : Sp := fun vs H Q E => ∃ F A s ds, Rel (g0 K mg) F A (bare s) [] H ∧ RepVs K F A vs ds ∧ vs.length = n ∧ OutF (g0 K mg) F A H (fm ds s) Q E

/-! ### what a def leaves -/
mutual
def rlF (n : Nat) : FT → Bool
  | .val d => rl n d
  | .new fs => rlFs n fs
def rlFs (n : Nat) : List FT → Bool
  | [] => true
  | f :: r => rlF n f && rlFs n r
end
/-- the store cut to n cells: are there cells behind that something names -/
def cutS (n : Nat) (s : List (Option Cell)) : Option (List (Option Cell)) := if s.length = n then some s else if n < s.length ∧ (s.take n).all (rlC n) = true then some (s.take n) else none
def fin (n : Nat) (f : FT) (s : List (Option Cell)) : RR := match cutS n s with
  | some s' => if rlF n f = true then .ok f s' else .stuck
  | none => .stuck
def finE (n : Nat) (x : XD) (s : List (Option Cell)) : RR := match cutS n s with
  | some s' => if rl n x.v = true then .err x s' else .stuck
  | none => .stuck
def entry (N : Nat) (ds : List VD) (s : List (Option Cell)) : SS := ⟨ds.map some ++ List.replicate (N - ds.length) none, s, none⟩
def fnM (N : Nat) (m : M Fl) : FM := fun ds s => match m (entry N ds s) with
  | .ok .nx st => fin s.length (vl .non) st.s
  | .ok (.rt f) st => fin s.length f st.s
  | .ok .bk _ => .stuck
  | .ok .ct _ => .stuck
  | .err x st => finE s.length x st.s
  | .stuck => .stuck
section
variable {G : Gx} {F F' : Hp} {A A' B : List Addr} {H H' H0 : Hp} {st : SS} {σ : L2.St}
mutual
theorem RepP.cut {K : PySem.W.Frag} : ∀ {P : List Addr} {v : V} {f : FT}, RepP K F (A ++ B) H P v f → rlF A.length f = true → RepP K F A H P v f
  | _, _, _, .val h, e => .val (h.cut (by unfold rlF at e; exact e))
  | _, _, _, .new h hf ha z r, e => .new h hf (fun m => ha (List.mem_append_left _ m)) z (RepPs.cut r (by unfold rlF at e; exact e))
theorem RepPs.cut {K : PySem.W.Frag} : ∀ {P : List Addr} {vs : List V} {fs : List FT}, RepPs K F (A ++ B) H P vs fs → rlFs A.length fs = true → RepPs K F A H P vs fs
  | _, _, _, .nil, _ => .nil
  | _, _, _, .cons h r, e => by
    unfold rlFs at e
    have e' := Bool.and_eq_true _ _ ▸ e
    exact .cons (RepP.cut h e'.1) (RepPs.cut r e'.2)
end
theorem Rel.cutS {s' : List (Option Cell)} {F1 : Hp} {A1 : List Addr} {H1 : Hp} {mg : Str → Option Value} (s : Step F1 A1 H1 F A H) (rel : Rel G F A st σ H) (e : Ob.cutS A1.length st.s = some s') : ∃ B, A = A1 ++ B ∧ Step F1 A1 H1 F A1 H ∧ Rel (g0 G.K mg) F A1 (bare s') [] H := by
  obtain ⟨B, eA, _⟩ := s.pre
  subst eA
  refine ⟨B, rfl, s.cut, ?_⟩
  unfold Ob.cutS at e
  have nd1 := (List.nodup_append.mp rel.nd).1
  by_cases h : st.s.length = A1.length
  · rw [if_pos h] at e
    cases e
    have hB : B = [] := by
      have := rel.len
      rw [h, List.length_append] at this
      exact List.eq_nil_of_length_eq_zero (by omega)
    subst hB
    rw [List.append_nil] at rel
    exact ⟨rel.fh, rel.nd, rel.len, rfl, rel.tr, rel.cel, fun i d hd => by simp [bare] at hd, fun i a dd f hx => by cases hx⟩
  · rw [if_neg h] at e
    by_cases h2 : A1.length < st.s.length ∧ (st.s.take A1.length).all (rlC A1.length) = true
    · rw [if_pos h2] at e
      cases e
      obtain ⟨hl, h4⟩ := h2
      refine ⟨rel.fh, nd1, ?_, rfl, fun a ha => rel.tr a (List.mem_append_left _ ha), fun k a c ha hc => ?_, fun i d hd => by simp [bare] at hd, fun i a dd f hx => by cases hx⟩
      · show (st.s.take A1.length).length = _
        rw [List.length_take]; omega
      · have hk := (List.getElem?_eq_some_iff.mp ha).1
        have hc' : (st.s.take A1.length)[k]? = some (some c) := hc
        have hm := List.all_eq_true.mp h4 (some c) (List.mem_of_getElem? hc')
        rw [List.getElem?_take_of_lt hk] at hc'
        obtain ⟨q1, vs, q2, z, q3⟩ := rel.cel k a c (by rw [List.getElem?_append_left hk]; exact ha) hc'
        exact ⟨q1, vs, q2, z, q3.cut hm⟩
    · rw [if_neg h2] at e; cases e
theorem RepVs.startS {K : PySem.W.Frag} : ∀ {vs : List V} {ds : List VD}, RepVs K F A vs ds → ∀ (i : Nat) (d : VD), (ds.map some)[i]? = some (some d) → ∃ v, (vs.map some)[i]? = some (some v) ∧ RepV K F A v d
  | _, _, .nil, i, d, h => by simp at h
  | _, _, .cons r rr, 0, d, h => by
    simp at h
    subst h
    exact ⟨_, rfl, r⟩
  | _, _, .cons r rr, i + 1, d, h => by
    obtain ⟨v, h1, h2⟩ := RepVs.startS rr i d (by simpa using h)
    exact ⟨v, by simpa using h1, h2⟩
theorem Rel.entry {N : List Str} {s : List (Option Cell)} {vs : List V} {ds : List VD} (rel : Rel G F A (bare s) [] H) (ne : G.ex = none) (r : RepVs G.K F A vs ds) : Rel G F A (Ob.entry N.length ds s) (start N vs) H where
  fh := rel.fh
  nd := rel.nd
  len := rel.len
  sl := by
    show (ds.map some ++ List.replicate (N.length - ds.length) none).length = (vs.map some ++ List.replicate (N.length - vs.length) none).length
    simp [r.len]
  tr := rel.tr
  cel := rel.cel
  slt := fun i d h => by
    have h' : (ds.map some ++ List.replicate (N.length - ds.length) none)[i]? = some (some d) := h
    by_cases hi : i < ds.length
    · rw [List.getElem?_append_left (by simpa using hi)] at h'
      obtain ⟨v, h1, h2⟩ := r.startS i d h'
      exact ⟨v, by show (vs.map some ++ _)[i]? = _; rw [List.getElem?_append_left (by simpa [r.len] using hi)]; exact h1, h2⟩
    · rw [List.getElem?_append_right (by simpa using hi)] at h'
      rw [List.getElem?_replicate] at h'
      split at h' <;> simp at h'
  exn := fun i a dd f hx => by rw [ne] at hx; cases hx
end
section
variable {P : Program} {w : World} {K : PySem.W.Frag} {mg : Str → Option Value} {base : Heap}
theorem fin_go {F F' : Hp} {A A' : List Addr} {H H' : Hp} {st' : SS} {σ' : L2.St} {f : FT} {v : V} {Q : VK} {E : XK} {ex : Ex} (s : Step F A H F' A' H') (rel : Rel ⟨K, mg, ex⟩ F' A' st' σ' H') (r : RF ⟨K, mg, ex⟩ H F' A' H' v f) (o : OutF (g0 K mg) F A H (fin A.length f st'.s) Q E) : Q v H' := by
  unfold fin at o
  cases e : cutS A.length st'.s with
  | none => simp only [e] at o; exact o.elim
  | some s' =>
    simp only [e] at o
    by_cases hf : rlF A.length f = true
    · rw [if_pos hf] at o
      obtain ⟨B, rfl, s2, rel2⟩ := Rel.cutS (mg := mg) s rel e
      obtain ⟨P, rp, nd, z⟩ := r
      exact o v F' A H' s2 rel2 ⟨P, rp.cut hf, nd, z⟩
    · rw [if_neg hf] at o; exact o.elim
/-- a def keeps the promise of its mirror -/
theorem ok_fn {x qual : Str} {st : Stmt} {f : Addr} {fd : FuncData} {N ps : List Str} {k : Nat} {m : M Fl} (Fn : Fun K x qual st f fd) (S : FnScope N ps (defScope st))
    (hb : ∀ (cdv : Value) (A : Around) (outer : List Env) (s : Shared) (H : Hp) (E : XK), Room k (A.deeper (envOfC qual (defScope st) s.heap.objs.size f cdv)) →
      SSs (cxOf (L2.CX P w) P w K mg base N qual (defScope st) f cdv A outer s H E) none (fun cls d _ H => E cls d H) (defBody st) m) :
    FnOk P w K mg base (L2.CX P w) (k + 1) f fd ps (spD K mg ps.length (fnM N.length m)) := by
  refine Fn.okX S (fun vs H Q E h => ?_) (fun cdv A outer s H vs Q E hr h => ⟨_, hb cdv A outer s H E hr, ?_⟩)
  · obtain ⟨_, _, _, _, _, _, hl, _⟩ := h
    exact hl
  · obtain ⟨F, A1, sc, ds, rel, r, hl, o⟩ := h
    refine ⟨F, A1, entry N.length ds sc, rel.entry rfl r, ?_⟩
    have hlen : sc.length = A1.length := rel.len
    unfold fnM at o
    cases e : m (entry N.length ds sc) with
    | stuck => simp only [e] at o; exact o.elim
    | err xx st' =>
      simp only [e] at o
      intro cls dx σ' F' A' H' s' rel' rx
      unfold finE at o
      rw [hlen] at o
      cases e2 : cutS A1.length st'.s with
      | none => simp only [e2] at o; exact o.elim
      | some s2 =>
        simp only [e2] at o
        by_cases hf : rl A1.length xx.v = true
        · rw [if_pos hf] at o
          obtain ⟨B, rfl, s3, rel3⟩ := Rel.cutS (mg := mg) s' rel' e2
          obtain ⟨q1, dd, v, q2, q3, q4⟩ := rx
          exact o cls dx F' A1 H' s3 rel3 ⟨q1, dd, v, q2, q3, q4.cut hf⟩
        · rw [if_neg hf] at o; exact o.elim
    | ok fl st' =>
      cases fl with
      | nx =>
        simp only [e] at o
        rw [hlen] at o
        exact fun σ' F' A' H' s' rel' => fin_go s' rel' (RF.val (.pure .non)) o
      | rt f =>
        simp only [e] at o
        rw [hlen] at o
        exact fun v σ' F' A' H' s' rel' r' => fin_go s' rel' r' o
      | bk => simp only [e] at o; exact o.elim
      | ct => simp only [e] at o; exact o.elim
/-- the promise of nothing -/
def fm0 : FM := fun _ _ => .stuck
theorem ok_fn0 {f : Addr} {fd : FuncData} {ps : List Str} {k n : Nat} : FnOk P w K mg base (L2.CX P w) k f fd ps (spD K mg n fm0) where
  len := fun vs H Q E h => by obtain ⟨_, _, _, _, _, _, _, o⟩ := h; exact o.elim
  run := fun A outer s H args us vs Q E _ _ _ _ h => by obtain ⟨_, _, _, _, _, _, _, o⟩ := h; exact o.elim
end

/-! ### calls -/
section
variable {X : Cx} {ex : Ex} {W : WX} {F F' : Hp} {A : List Addr} {A' : List Addr} {H H' H0 : Hp} {st : SS} {σ : L2.St} {s' : List (Option Cell)}
theorem Rel.bareS (rel : Rel (gx X ex) F A st σ H) : Rel (g0 X.K X.mg) F A (bare st.s) [] H := ⟨rel.fh, rel.nd, rel.len, rfl, rel.tr, rel.cel, fun i d hd => by simp [bare] at hd, fun i a dd f hx => by cases hx⟩
theorem Rel.bareN (rel : Rel (gx X ex) F A st σ H) : Rel (g0 X.K X.mg) F [] (bare []) [] H := ⟨rel.fh, List.nodup_nil, rfl, rfl, fun a ha => by simp at ha, fun k a c ha => by simp at ha, fun i d hd => by simp [bare] at hd, fun i a dd f hx => by cases hx⟩
/-- back from a call with the cells -/
theorem Rel.backS (rel : Rel (gx X ex) F A st σ H) (s : Step F A H F' A' H') (rel' : Rel (g0 X.K X.mg) F' A' (bare s') [] H') : Rel (gx X ex) F' A' { st with s := s' } σ H' where
  fh := rel'.fh
  nd := rel'.nd
  len := rel'.len
  sl := rel.sl
  tr := rel'.tr
  cel := rel'.cel
  slt := fun j e h => by
    obtain ⟨v, h1, h2⟩ := rel.slt j e h
    exact ⟨v, h1, h2.step s⟩
  exn := fun j a dd f h => by
    obtain ⟨h1, v, d, h2, h3, h4⟩ := rel.exn j a dd f h
    exact ⟨h1, v, d, s.ex _ _ h2, h3, h4.step s⟩
theorem Step.wide (s : Step F [] H F' [] H') : Step F A H F' A H' where
  ex := s.ex
  pre := ⟨[], by simp, by simp⟩
  new := fun b o h => by
    rcases s.new b o h with z | z | z
    · exact .inl z
    · exact .inr (.inl z)
    · simp at z
  keep := fun b o h _ => s.keep b o h (by simp)
  dom := s.dom
/-- back from a call without cells -/
theorem Rel.backN (rel : Rel (gx X ex) F A st σ H) (s : Step F [] H F' [] H') (rel' : Rel (g0 X.K X.mg) F' [] (bare s') [] H') : Rel (gx X ex) F' A st σ H' where
  fh := rel'.fh
  nd := rel.nd
  len := rel.len
  sl := rel.sl
  tr := fun a ha => by
    obtain ⟨o, h⟩ := rel.tr a ha
    exact ⟨o, s.keep a o h (by simp)⟩
  cel := fun k a c ha hc => by
    obtain ⟨h1, vs, h2, z, h3⟩ := rel.cel k a c ha hc
    exact ⟨s.off h2 h1 (by simp), vs, s.keep a _ h2 (by simp), z, h3.mono s.ex fun _ _ h => h⟩
  slt := fun j e h => by
    obtain ⟨v, h1, h2⟩ := rel.slt j e h
    exact ⟨v, h1, h2.mono s.ex fun _ _ h => h⟩
  exn := fun j a dd f h => by
    obtain ⟨h1, v, d, h2, h3, h4⟩ := rel.exn j a dd f h
    exact ⟨h1, v, d, s.ex _ _ h2, h3, h4.mono s.ex fun _ _ h => h⟩
mutual
theorem RepP.wide {K : PySem.W.Frag} (n : ∀ a ∈ A, ∃ o, H0 a = some o) : ∀ {P : List Addr} {v : V} {f : FT}, (∀ p ∈ P, H0 p = none) → RepP K F [] H P v f → RepP K F A H P v f
  | _, _, _, _, .val h => .val (h.mono (Same.refl F) fun k a e => by simp at e)
  | _, _, _, z, .new h hf ha zz r => .new h hf (fun m => by
      obtain ⟨o, e⟩ := n _ m
      rw [z _ List.mem_cons_self] at e; cases e) zz (RepPs.wide n (fun p hp => z p (List.mem_cons_of_mem _ hp)) r)
theorem RepPs.wide {K : PySem.W.Frag} (n : ∀ a ∈ A, ∃ o, H0 a = some o) : ∀ {P : List Addr} {vs : List V} {fs : List FT}, (∀ p ∈ P, H0 p = none) → RepPs K F [] H P vs fs → RepPs K F A H P vs fs
  | _, _, _, _, .nil => .nil
  | _, _, _, z, .cons h r => .cons (RepP.wide n (fun p hp => z p (List.mem_append_left _ hp)) h) (RepPs.wide n (fun p hp => z p (List.mem_append_right _ hp)) r)
end
/-- the call itself: arguments that are trees go without the cells, others with them -/
def goC (n : Nat) (fm : FM) (ds : List VD) : M FT := fun st => if ds.length = n then match allT ds with
    | some ts => match fm (ts.map .pure) [] with
      | .ok f [] => .ok f st
      | .err x [] => .err x st
      | _ => .stuck
    | none => match fm ds st.s with
      | .ok f s' => .ok f { st with s := s' }
      | .err x s' => .err x { st with s := s' }
      | .stuck => .stuck
  else .stuck
theorem rel_nil {G : Gx} (rel : Rel G F' A' (bare []) [] H') : A' = [] := List.eq_nil_of_length_eq_zero rel.len.symm
theorem goC_ok {n : Nat} {fm : FM} {ds : List VD} {vs : List V} {F0 : Hp} {A0 : List Addr} {Q : VK} (s : Step F0 A0 H0 F A H) (rel : Rel (gx X ex) F A st σ H) (r : RepVs X.K F A vs ds) (o : Out (gx X ex) W (RF (gx X ex) H0) F0 A0 σ H0 (goC n fm ds st) Q) :
    spD X.K X.mg n fm vs H Q (fun cls d H' => W cls d σ H') := by
  unfold goC at o
  by_cases hn : ds.length = n
  · rw [if_pos hn] at o
    have hl : vs.length = n := by rw [r.len]; exact hn
    cases e : allT ds with
    | some ts =>
      simp only [e] at o
      have ed := allT_len e
      subst ed
      refine ⟨F, [], [], ts.map .pure, rel.bareN, .ofT r.toT, hl, ?_⟩
      cases e2 : fm (ts.map .pure) [] with
      | stuck => simp only [e2] at o; exact o.elim
      | err xx s' =>
        cases s' with
        | cons _ _ => simp only [e2] at o; exact o.elim
        | nil =>
          simp only [e2] at o
          intro cls dx F' A' H' s2 rel2 rx
          obtain rfl := rel_nil rel2
          obtain ⟨q1, dd, v, q2, q3, q4⟩ := rx
          exact o cls dx F' A H' (s.trans s2.wide) (rel.backN s2 rel2) ⟨q1, dd, v, q2, q3, q4.mono (Same.refl F') fun k a e => by simp at e⟩
      | ok f s' =>
        cases s' with
        | cons _ _ => simp only [e2] at o; exact o.elim
        | nil =>
          simp only [e2] at o
          intro v F' A' H' s2 rel2 rf
          obtain rfl := rel_nil rel2
          obtain ⟨P, rp, nd, z⟩ := rf
          exact o v F' A H' (s.trans s2.wide) (rel.backN s2 rel2) ⟨P, rp.wide (H0 := H) rel.tr z, nd, fun p hp => s.dom p (z p hp)⟩
    | none =>
      simp only [e] at o
      refine ⟨F, A, st.s, ds, rel.bareS, r, hl, ?_⟩
      cases e2 : fm ds st.s with
      | stuck => simp only [e2] at o; exact o.elim
      | err xx s' =>
        simp only [e2] at o
        exact fun cls dx F' A' H' s2 rel2 rx => o cls dx F' A' H' (s.trans s2) (rel.backS s2 rel2) rx
      | ok f s' =>
        simp only [e2] at o
        exact fun v F' A' H' s2 rel2 rf => o v F' A' H' (s.trans s2) (rel.backS s2 rel2) (RF.start (G := gx X ex) s rf)
  · rw [if_neg hn] at o; exact o.elim

/-! arguments read as trees, cells and all; the answer bears none of them -/
mutual
def sfree : FT → Bool
  | .val (.pure t) => flat t
  | .val _ => false
  | .new fs => sfrees fs
def sfrees : List FT → Bool
  | [] => true
  | f :: r => sfree f && sfrees r
end
theorem flat_any {K : PySem.W.Frag} {F F2 : Hp} {v : V} {t : T} (h : flat t = true) (r : RepT K F v t) : RepT K F2 v t := by
  cases r with
  | non => exact .non
  | bl b => exact .bl b
  | int i => exact .int i
  | str s z ok => exact .str s z ok
  | lst _ _ _ => simp [flat] at h
  | xl _ _ _ => simp [flat] at h
  | tup _ _ _ => simp [flat] at h
  | dnil _ => simp [flat] at h
mutual
theorem RepP.lone {K : PySem.W.Frag} {F2 : Hp} (n : ∀ a ∈ A, ∃ o, H0 a = some o) (nf : ∀ p, H0 p = none → F' p = none → F2 p = none) : ∀ {P : List Addr} {v : V} {f : FT}, (∀ p ∈ P, H0 p = none) → sfree f = true → RepP K F' [] H P v f → RepP K F2 A H P v f
  | _, _, _, _, h, .val r => by
    cases r with
    | pure r => exact .val (.pure (flat_any (by unfold sfree at h; exact h) r))
    | cell e => simp at e
    | lst _ _ _ => unfold sfree at h; cases h
    | tup _ _ _ => unfold sfree at h; cases h
  | _, _, _, z, h, .new hh hf ha zz r => .new hh (nf _ (z _ List.mem_cons_self) hf) (fun m => by
      obtain ⟨o, e⟩ := n _ m
      rw [z _ List.mem_cons_self] at e; cases e) zz (RepPs.lone n nf (fun p hp => z p (List.mem_cons_of_mem _ hp)) (by unfold sfree at h; exact h) r)
theorem RepPs.lone {K : PySem.W.Frag} {F2 : Hp} (n : ∀ a ∈ A, ∃ o, H0 a = some o) (nf : ∀ p, H0 p = none → F' p = none → F2 p = none) : ∀ {P : List Addr} {vs : List V} {fs : List FT}, (∀ p ∈ P, H0 p = none) → sfrees fs = true → RepPs K F' [] H P vs fs → RepPs K F2 A H P vs fs
  | _, _, _, _, _, .nil => .nil
  | _, _, _, z, h, .cons r rr => by
    unfold sfrees at h
    have h' := Bool.and_eq_true _ _ ▸ h
    exact .cons (RepP.lone n nf (fun p hp => z p (List.mem_append_left _ hp)) h'.1 r) (RepPs.lone n nf (fun p hp => z p (List.mem_append_right _ hp)) h'.2 rr)
end
/-- all heap as ground -/
theorem Rel.bareH (H : Hp) : Rel (g0 X.K X.mg) H [] (bare []) [] H := ⟨Same.refl H, List.nodup_nil, rfl, rfl, fun a ha => by simp at ha, fun k a c ha => by simp at ha, fun i d hd => by simp [bare] at hd, fun i a dd f hx => by cases hx⟩
def goB (n : Nat) (fm : FM) (ts : List T) : M FT := fun st => if ts.length = n then match fm (ts.map .pure) [] with
    | .ok f [] => if sfree f = true then .ok f st else .stuck
    | _ => .stuck
  else .stuck
theorem goB_ok {n : Nat} {fm : FM} {ts : List T} {vs : List V} {F0 : Hp} {A0 : List Addr} {Q : VK} (s : Step F0 A0 H0 F A H) (rel : Rel (gx X ex) F A st σ H) (r : RepTs X.K H vs ts) (o : Out (gx X ex) W (RF (gx X ex) H0) F0 A0 σ H0 (goB n fm ts st) Q) :
    spD X.K X.mg n fm vs H Q (fun cls d H' => W cls d σ H') := by
  unfold goB at o
  by_cases hn : ts.length = n
  · rw [if_pos hn] at o
    have hl : vs.length = n := by rw [r.len]; exact hn
    refine ⟨H, [], [], ts.map .pure, Rel.bareH (X := X) H, .ofT r, hl, ?_⟩
    cases e2 : fm (ts.map .pure) [] with
    | stuck => simp only [e2] at o; exact o.elim
    | err xx s' => simp only [e2] at o; exact o.elim
    | ok f s' =>
      cases s' with
      | cons _ _ => simp only [e2] at o; exact o.elim
      | nil =>
        simp only [e2] at o
        by_cases hf : sfree f = true
        · rw [if_pos hf] at o
          intro v F' A' H' s2 rel2 rf
          obtain rfl := rel_nil rel2
          obtain ⟨P, rp, nd, z⟩ := rf
          have hk : ∀ b u, H b = some u → H' b = some u := fun b u h => s2.keep b u h (by simp)
          have st2 : Step F A H F A H' := ⟨Same.refl F, ⟨[], by simp, by simp⟩, fun b u h => .inl h, fun b u h _ => hk b u h, s2.dom⟩
          have rel3 : Rel (gx X ex) F A st σ H' := by
            refine ⟨fun b u h => hk b u (rel.fh b u h), rel.nd, rel.len, rel.sl, fun a ha => ?_, fun k a c ha hc => ?_, rel.slt, rel.exn⟩
            · obtain ⟨u, h⟩ := rel.tr a ha
              exact ⟨u, hk a u h⟩
            · obtain ⟨h1, us, h2, zz, h3⟩ := rel.cel k a c ha hc
              exact ⟨h1, us, hk a _ h2, zz, h3⟩
          refine o v F A H' (s.trans st2) rel3 ⟨P, RepP.lone (H0 := H) (F2 := F) rel.tr (fun p hp _ => ?_) z hf rp, nd, fun p hp => s.dom p (z p hp)⟩
          exact rel.free hp
        · rw [if_neg hf] at o; exact o.elim
  · rw [if_neg hn] at o; exact o.elim

/-! ### the rules -/
def mCall (n : Nat) (fm : FM) (ms : M (List FT)) : M FT := bd ms fun fs => goC n fm (fs.map fz)
def rds : List FT → M (List T)
  | [] => rt []
  | f :: r => bd (rd f) fun t => bd (rds r) fun ts => rt (t :: ts)
def mCallB (n : Nat) (fm : FM) (ms : M (List FT)) : M FT := bd ms fun fs => bd (rds fs) fun ts => goB n fm ts
variable {k n : Nat} {f : Addr} {fd : FuncData} {ps : List Str} {fm : FM} {x : Str} {p pos : Pos} {e : Expr} {es : List Expr} {ms : M (List FT)}
theorem call_go {vs : List V} {fs : List FT} {F1 : Hp} {A1 : List Addr} {H1 : Hp} {st1 : SS} {Q : VK} (s1 : Step F A H F1 A1 H1) (rel1 : Rel (gx X ex) F1 A1 st1 σ H1) (r1 : RFs (gx X ex) H F1 A1 H1 vs fs)
    (o1 : Out (gx X ex) W (RF (gx X ex) H) F A σ H (goC n fm (fs.map fz) st1) Q) : spD X.K X.mg n fm vs H1 Q (WE W σ) := by
  obtain ⟨F2, s2, e2, rel2, r2⟩ := r1.freeze s1 rel1
  exact goC_ok s2 rel2 r2 o1
theorem se_call (Fk : FnOk X.prog X.w X.K X.mg X.base (L2.CX X.prog X.w) k f fd ps (spD X.K X.mg n fm)) (hr : Room k X.A) (hg : Gl X x) (hm : X.mg x = some (.ref f)) (hk : PySem.W.keepIn X.K (.ref f) = true) (hb : Binds X.K fd ps []) (tk : Takes X W)
    (ha : SA X ex W (e :: es) ms) (hdb : (x == ("__debug__" : Str)) = false := by decide) (he : starEach (e :: es) X.env = (false, eval e X.env) :: starEach es X.env := by rfl) (hpl : (backTo pos (starEach es X.env)).any (·.1) = false := by rfl) :
    SE X ex W (.Call (.Name x p) (e :: es) [] pos) (mCall n fm ms) := PEw (pe_callS Fk hr hg hm hk hb (fun σ => passAt tk σ) ha hdb he hpl) fun σ H Q ⟨F, A, st, rel, o⟩ =>
  ⟨F, A, st, rel, Out.bind0 o fun vs fs F1 A1 H1 st1 s1 rel1 r1 o1 => call_go s1 rel1 r1 o1⟩
/-- a list that bears no nodes more, of others -/
theorem rds_rel {γ δ : Type} {G : Gx} {F F0 : Hp} {A A0 : List Addr} {H H0 Hs : Hp} {st : SS} {R : Hp → List Addr → Hp → δ → γ → Prop} {Q : δ → Hp → Prop} (rel : Rel G F A st σ H) : ∀ (fs : List FT) (vs : List V) (P : List Addr) (k : List T → M γ), RepPs G.K F A H P vs fs →
    Out G W R F0 A0 σ H0 (bd (rds fs) k st) Q → ∃ ts, RepTs G.K H vs ts ∧ Out G W R F0 A0 σ H0 (k ts st) Q
  | [], _, _, k, .nil, o => ⟨[], .nil, o⟩
  | f :: fs, _, _, k, .cons h r, o => by
    unfold rds at o
    have o' : Out G W R F0 A0 σ H0 (bd (rd f) (fun t => bd (rds fs) fun ts => k (t :: ts)) st) Q := by
      have e : bd (bd (rd f) fun t => bd (rds fs) fun ts => rt (t :: ts)) k = bd (rd f) (fun t => bd (rds fs) fun ts => k (t :: ts)) := by
        funext st
        unfold bd rt
        cases rd f st with
        | ok t st' => dsimp only; cases rds fs st' <;> rfl
        | err _ _ => rfl
        | stuck => rfl
      rw [← e]; exact o
    unfold bd rd at o'
    cases e : rsF st.s 5 f with
    | none => rw [e] at o'; exact o'.elim
    | some t =>
      rw [e] at o'
      have rt := rel.rsF 5 _ _ f t h e
      obtain ⟨ts, h1, h2⟩ := rds_rel (Hs := Hs) rel fs _ _ (fun ts => k (t :: ts)) r o'
      exact ⟨t :: ts, .cons rt h1, h2⟩
theorem callB_go {vs : List V} {fs : List FT} {F1 : Hp} {A1 : List Addr} {H1 : Hp} {st1 : SS} {Q : VK} (s1 : Step F A H F1 A1 H1) (rel1 : Rel (gx X ex) F1 A1 st1 σ H1) (r1 : RFs (gx X ex) H F1 A1 H1 vs fs)
    (o1 : Out (gx X ex) W (RF (gx X ex) H) F A σ H (bd (rds fs) (fun ts => goB n fm ts) st1) Q) : spD X.K X.mg n fm vs H1 Q (WE W σ) := by
  obtain ⟨P, rp, _, _⟩ := r1
  obtain ⟨ts, r2, o2⟩ := rds_rel (Hs := H) rel1 fs vs P _ rp o1
  exact goB_ok s1 rel1 r2 o2
theorem se_callR (Fk : FnOk X.prog X.w X.K X.mg X.base (L2.CX X.prog X.w) k f fd ps (spD X.K X.mg n fm)) (hr : Room k X.A) (hg : Gl X x) (hm : X.mg x = some (.ref f)) (hk : PySem.W.keepIn X.K (.ref f) = true) (hb : Binds X.K fd ps []) (tk : Takes X W)
    (ha : SA X ex W (e :: es) ms) (hdb : (x == ("__debug__" : Str)) = false := by decide) (he : starEach (e :: es) X.env = (false, eval e X.env) :: starEach es X.env := by rfl) (hpl : (backTo pos (starEach es X.env)).any (·.1) = false := by rfl) :
    SE X ex W (.Call (.Name x p) (e :: es) [] pos) (mCallB n fm ms) := PEw (pe_callS Fk hr hg hm hk hb (fun σ => passAt tk σ) ha hdb he hpl) fun σ H Q ⟨F, A, st, rel, o⟩ =>
  ⟨F, A, st, rel, Out.bind0 o fun vs fs F1 A1 H1 st1 s1 rel1 r1 o1 => callB_go s1 rel1 r1 o1⟩

/-! by keywords -/
def SK (X : Cx) (ex : Ex) (W : WX) (ks : List Keyword) (m : M (List FT)) : Prop := PK X ks (cG (gx X ex) W (RFs (gx X ex)) m)
theorem PKw {e : List Keyword} {t u : TA} (h : PK X e t) (w : ∀ σ H Q, u σ H Q → t σ H Q) : PK X e u := ⟨fun po pins s σ H Q I q => h.run po pins s σ H Q I (w _ _ _ q)⟩
theorem sk_nil : SK X ex W [] aNil := PKw pk_nil fun σ H Q ⟨F, A, st, rel, o⟩ => Out.done o rel RFs.nil
theorem sk_cons {nm : Option Str} {kpos : Pos} {kws : List Keyword} {m : M FT} (ha : SE X ex W e m) (hr : SK X ex W kws ms) : SK X ex W (⟨nm, e, kpos⟩ :: kws) (aCons m ms) :=
  PKw (pk_cons ha hr) fun σ H Q ⟨F, A, st, rel, o⟩ => ⟨F, A, st, rel, Out.bind o fun v f F1 A1 H1 st1 s1 rel1 r1 o1 => ⟨F1, A1, st1, rel1, Out.bind o1 fun vs fs F2 A2 H2 st2 s2 rel2 r2 o2 =>
    Out.done (Out.step o2 Step.refl) rel2 (RFs.cons s1 s2 r1 r2)⟩⟩
/-- the values ws of the keywords ks, put in the parameters' order -/
def perm {α : Type} (pm : List Nat) (xs : List α) : List α := pm.filterMap fun i => xs[i]?
structure KwB (K : PySem.W.Frag) (fd : FuncData) (ps ks : List Str) (pm : List Nat) : Prop where
  to : ∀ (s : Shared) (ws : List Value), K.In s.heap → ws.length = ks.length → BindsTo s fd ⟨[], ks.zip ws⟩ (ps.zip (perm pm ws))
theorem RepVs.perm {K : PySem.W.Frag} {vs : List V} {ds : List VD} (r : RepVs K F A vs ds) : ∀ pm : List Nat, RepVs K F A (Ob.perm pm vs) (Ob.perm pm ds)
  | [] => .nil
  | i :: pm => by
    unfold Ob.perm
    cases e : ds[i]? with
    | none =>
      have e2 : vs[i]? = none := by
        rw [List.getElem?_eq_none_iff] at e ⊢
        rw [r.len]; exact e
      rw [List.filterMap_cons_none e, List.filterMap_cons_none e2]
      exact RepVs.perm r pm
    | some d =>
      obtain ⟨v, h1, h2⟩ := r.get e
      rw [List.filterMap_cons_some e, List.filterMap_cons_some h1]
      exact .cons h2 (RepVs.perm r pm)
theorem vals_perm {vs : List V} {us : List Value} (r : Vals vs us) : ∀ pm : List Nat, Vals (Ob.perm pm vs) (Ob.perm pm us)
  | [] => .nil
  | i :: pm => by
    unfold Ob.perm
    cases e : vs[i]? with
    | none =>
      have e2 : us[i]? = none := by
        rw [List.getElem?_eq_none_iff] at e ⊢
        rw [← r.length]; exact e
      rw [List.filterMap_cons_none e, List.filterMap_cons_none e2]
      exact vals_perm r pm
    | some d =>
      obtain ⟨v, h1, h2⟩ := r.get e
      rw [List.filterMap_cons_some e, List.filterMap_cons_some h1]
      exact .cons h2 (vals_perm r pm)
def mCallK (n nk : Nat) (pm : List Nat) (fm : FM) (ms : M (List FT)) : M FT := bd ms fun fs => bd (guard (decide (fs.length = nk))) fun _ => goC n fm (perm pm (fs.map fz))
theorem se_callK {kws : List Keyword} {ks : List Str} {nk : Nat} {pm : List Nat} (Fk : FnOk X.prog X.w X.K X.mg X.base (L2.CX X.prog X.w) k f fd ps (spD X.K X.mg n fm)) (hr : Room k X.A) (hg : Gl X x) (hm : X.mg x = some (.ref f)) (hk : PySem.W.keepIn X.K (.ref f) = true) (hb : KwB X.K fd ps ks pm) (tk : Takes X W)
    (ha : SK X ex W kws ms) (hnk : ks.length = nk := by rfl) (hall : (backToKw pos (keywordEach kws X.env)).all (·.1.isSome) = true := by rfl) (hks : (backToKw pos (keywordEach kws X.env)).filterMap (·.1) = ks := by rfl)
    (hdb : (x == ("__debug__" : Str)) = false := by decide) (hpl : ((backTo pos (starEach [] X.env)).any (·.1) || (backToKw pos (keywordEach kws X.env)).any (·.1.isNone)) = false := by rfl) :
    SE X ex W (.Call (.Name x p) [] kws pos) (mCallK n nk pm fm ms) := by
  refine ⟨fun pins s σ H Q I ⟨F, A, st, rel, o⟩ => ?_⟩
  refine wpAny_Call_Name_kw (ld_glob I hg hm ?_ hdb)
  refine PySem.W.callWith_KW0 (h₀ := X.base) I.ok.mod.kin hk hall (thn (ha.run pos pins s σ H (fun zs H2 => zs.length = nk ∧ spD X.K X.mg n fm (perm pm zs) H2 Q (WE W σ)) I ⟨F, A, st, rel, Out.bind0 o fun vs fs F1 A1 H1 st1 s1 rel1 r1 o1 => ?_⟩) fun ws s2 ⟨zs, H2, I2, rz, q2⟩ => ⟨I2.kIn, ?_⟩) hpl
  · obtain ⟨hl, o2⟩ := o1.guard
    obtain ⟨F2, s2, e2, rel2, r2⟩ := r1.freeze s1 rel1
    exact ⟨by rw [r1.len]; exact of_decide_eq_true hl, goC_ok s2 rel2 (r2.perm pm) o2⟩
  · rw [hks]
    have lw : ws.length = ks.length := by rw [← rz.length, q2.1, hnk]
    refine wpAny_call (codeAny_mono (Fk.run X.A X.stack s2 H2 ⟨[], ks.zip ws⟩ (perm pm ws) (perm pm zs) Q (WE W σ) hr I2.env0 (hb.to s2 ws I2.kIn lw) (vals_perm rz pm) q2.2) fun r s' hq => ?_)
    cases r with
    | error e => exact passAt tk σ pins H2 s2 e s' I2 hq
    | ok fl =>
      cases fl with
      | ret u => exact I2.after hq
      | next => exact False.elim hq
      | brk => exact False.elim hq
      | cont => exact False.elim hq
end
end Ob
/-! # Ob15: errors: raise, try, what a suite asks of the error that it holds -/
namespace Ob
open PySem PySem.Spec PyProof.Rows L2

/-! ### raise -/
/-- __init__(self, x): self.f = x -/
def spI (K : PySem.W.Frag) (f : Str) : Sp := fun vs H Q _ => ∃ (a C : Addr) (y : V), vs = [.ref a, y] ∧ OexC K C ∧ PySem.W.findIn K (.ref C) f = some none ∧ H a = some (exo a C none) ∧ ∀ dx, H dx = none → dx ≠ a → Q .non (upd (upd H dx (exd dx [(f, y)])) a (exo a C (some dx)))
theorem ok_init {P : Program} {w : World} {K : PySem.W.Frag} {mg : Str → Option Value} {base : Heap} {qual f g : Str} {st : Stmt} {fI : Addr} {fd : FuncData} (Fn : Fun K "__init__" qual st fI fd) (S : FnScope ["self", g] ["self", g] (defScope st))
    (hb : ∀ (cdv : Value) (A : Around) (outer : List Env) (s : Shared) (H : Hp) (E : XK), PSs (cxOf (L2.CX P w) P w K mg base ["self", g] qual (defScope st) fI cdv A outer s H E) (defBody st) (tOst K f (tVar 0) (tVar 1))) :
    FnOk P w K mg base (L2.CX P w) 1 fI fd ["self", g] (spI K f) := by
  refine Fn.okX S (fun vs H Q E h => ?_) (fun cdv A outer s H vs Q E hr h => ⟨_, hb cdv A outer s H E, ?_⟩)
  · obtain ⟨a, C, y, rfl, _⟩ := h
    rfl
  · obtain ⟨a, C, y, rfl, T, no, ha, q⟩ := h
    exact ⟨y, rfl, .ref a, rfl, a, C, rfl, T, no, .inl ⟨ha, q⟩⟩
def mRaise (n f : Str) (ms : M (List FT)) : M Fl := bd ms fun fs st => match fs with
  | [x] => .err ⟨n, f, fz x⟩ st
  | _ => .stuck
section
variable {X : Cx} {ex : Ex} {W : WX}
theorem ss_raise {n f : Str} {C fI : Addr} {k : Nat} {fd : FuncData} {ps : List Str} {e : Expr} {ms : M (List FT)} {p pos pos2 : Pos} (hc : X.calm = true) (tk : Takes X W) (T : OexC X.K C) (iC : PySem.W.findIn X.K (.ref C) "__init__" = some (some (.ref fI))) (tI : PySem.W.typeIn X.K (.ref fI) = some (.type "function"))
    (no : PySem.W.findIn X.K (.ref C) f = some none) (F1 : FnOk X.prog X.w X.K X.mg X.base (L2.CX X.prog X.w) k fI fd ps (spI X.K f)) (hr : Room (k + 1) X.A) (hb : Binds X.K fd ps []) (hg : Gl X n) (hm : X.mg n = some (.ref C)) (ha : SA X ex W [e] ms)
    (hdb : (n == ("__debug__" : Str)) = false := by decide) (he : starEach (e :: []) X.env = (false, eval e X.env) :: starEach [] X.env := by rfl) (hpl : (backTo pos (starEach [] X.env)).any (·.1) = false := by rfl) :
    SS1 X ex W (.Raise (some (.Call (.Name n p) [e] [] pos)) none pos2) (mRaise n f ms) :=
  PSw (ps_raise hc tk (pmk_oex (dvs := []) T iC tI F1 hr hb .nil passL hg hm ha hdb he hpl)) fun D σ H ⟨F, A, st, rel, o⟩ => ⟨F, A, st, rel, OutS.bind o fun vs fs F1 A1 H1 st1 s1 rel1 r1 o1 => by
    split at o1
    · rename_i x
      obtain ⟨v, rfl, r⟩ := r1.isOne
      obtain ⟨F2, s2, e2, rel2, rv⟩ := r.freeze s1 rel1
      refine ⟨by show 1 ≤ 1000; decide, fun a na => ⟨a, C, v, rfl, T, no, upd_same .., fun dx hdx hne => ⟨rfl, dx, [(f, v)], upd_same .., ?_, ?_, ?_⟩⟩⟩
      · rw [upd_ne hne, upd_same]
      · rw [upd_ne hne] at hdx; exact hdx
      · rw [upd_ne hne] at hdx
        have eH : upd (del (upd (upd (upd H1 a (exo a C none)) dx (exd dx [(f, v)])) a (exo a C (some dx))) a) dx (.xd [(f, v)]) = upd H1 dx (.xd [(f, v)]) := by
          funext b
          by_cases hb : b = dx
          · rw [hb, upd_same, upd_same]
          · rw [upd_ne hb, upd_ne hb]
            by_cases ha : b = a
            · rw [ha, del_same, na]
            · rw [del_ne ha, upd_ne ha, upd_ne hb, upd_ne ha]
        rw [eH]
        have nf := rel2.free hdx
        refine o1 (.ref C) (some dx) σ _ A1 _ (s2.trans (Step.newF hdx nf)) (rel2.newF hdx) ⟨hm, dx, v, rfl, upd_same .., ?_⟩
        exact rv.mono (Step.newF (A := A1) (o := .xd [(f, v)]) hdx nf).ex fun _ _ h => h
    · exact o1.elim⟩
end

/-! ### the error that a suite holds -/
structure ErrC (K : PySem.W.Frag) (C : Addr) (f : Str) : Prop where
  cl : (PySem.W.clsIn K C).isSome = true
  ga : PySem.W.findIn K (.ref C) "__getattribute__" = some (some (.builtin "BaseException.__getattribute__"))
  gg : PySem.W.findIn K (.ref C) "__getattr__" = some none
  exC : PySem.W.subIn K (.ref C) (.type "BaseException") = some true
  hd : PySem.W.hasDictIn K C = true
  no : PySem.W.findIn K (.ref C) f = some none
  cc : PySem.W.findIn K (.ref C) "__class__" = some (some (.builtin "object.__class__"))
  sp : PySem.W.specialIn K (.builtin "object.__class__") "__get__" = some (some (.builtin "getset_descriptor.__get__"))
  tk : PySem.W.takesIn K (.builtin "object.__class__") = some true
  mo : PySem.W.mroIn K C (.type "object") = some true
/-- the error at a, its class known, its dict at dd -/
structure Held (X : Cx) (a dd : Addr) (oe : Obj) (cls : Value) (f : Str) : Prop where
  z : Zc cls (some dd) oe
  fl : ∃ vs, oe.data = .fields vs
  er : ∃ C, cls = .ref C ∧ ErrC X.K C f
def mErr : M FT := fun st => match st.x with
  | some d => .ok (.val d) st
  | none => .stuck
section
variable {X : Cx} {W : WX} {a dd : Addr} {oe : Obj} {cls : Value} {f : Str} {pn : List (Addr × Obj)} {i : Nat} {e : Expr} {pos p p2 : Pos}
theorem held_at {pins : List (Addr × Obj)} {σ : L2.St} {H : Hp} {s : Shared} {v : V} {C : Addr} (hl : Held X a dd oe (.ref C) f) (I : L2.Inv (X.suite a ((a, oe) :: pn)) pins σ H s) (ea : H dd = some (.xd [(f, v)])) :
    ∃ od : Obj, PySem.W.InstAt s.heap a oe C (some od) ∧ ∃ u, PySem.W.lookIn f od = some (some u) ∧ L2.RelV v u := by
  obtain ⟨⟨hz1, hz2⟩, ⟨vs, hd⟩, _⟩ := hl
  obtain ⟨mA, hns, hr⟩ := (show ObjOk X.prog X.w H s.heap dd (.xd [(f, v)]) from I.hok dd _ ea)
  obtain ⟨od, ho, lk⟩ := lookIn_ns hns
  have l : List.lookup f [(f, v)] = some v := by simp [List.lookup]
  have h1 := hr f
  rw [l] at h1
  obtain ⟨u, hu, ru⟩ := RelO.some_of h1
  refine ⟨od, ⟨(I.pin (a, oe) (List.mem_append_left _ List.mem_cons_self)).1, hz1, ?_, ?_⟩, u, by rw [lk, hu], ru⟩
  · unfold PySem.W.notCls
    rw [hd] <;> rfl
  · rw [hz2]; exact ho
/-- e.f -/
theorem se_err (hl : Held X a dd oe cls f) (he : PE (X.suite a ((a, oe) :: pn)) e (tVar i)) (hb : attributeBase e f X.env (eval e X.env) = eval e X.env := by rfl) : SE (X.suite a ((a, oe) :: pn)) (some (i, a, dd, f)) W (.Attribute e f pos) mErr := by
  refine ⟨fun pins s σ H Q I ⟨F, A, st, rel, o⟩ => ?_⟩
  obtain ⟨h1, v, d, h2, h3, h4⟩ := rel.exn i a dd f rfl
  refine attr_of hb (thn (he.run pins s σ H (fun x H1 => x = .ref a ∧ H1 = H) I ⟨.ref a, h1, rfl, rfl⟩) fun u s1 ⟨x, H1, I1, rx, ex, eH⟩ => ?_)
  subst ex eH
  obtain rfl : u = Value.ref a := rx
  obtain ⟨C, rfl, E⟩ := hl.er
  obtain ⟨od, J, u, lk, ru⟩ := held_at hl I1 (rel.fh _ _ h2)
  unfold mErr at o
  rw [h3] at o
  exact HandSPX.exc_get I1.kIn J E.ga E.gg E.exC (PySem.W.findObj_own E.hd E.no rfl lk) (handed_of ru) ⟨v, _, I1.tok _, ru, Out.done o rel (RF.val h4)⟩
/-- isinstance(e, C), C an own class that this error is of -/
def rIsH (D a dd : Addr) (f : Str) (K : PySem.W.Frag) : List V → Hp → VK → Prop := fun xs H Q => ∃ (c : Addr) (v : V) (b : Bool), xs = [.ref a, .ref c] ∧ H dd = some (.xd [(f, v)]) ∧ PySem.W.kitOne K (.ref D) (.ref c) = some b ∧ Q (.bl b) H
theorem call_isH {C : Addr} (hl : Held X a dd oe (.ref C) f) : CallR (X.suite a ((a, oe) :: pn)) (.builtin "isinstance") (rIsH C a dd f X.K) := by
  intro pins s σ H xs us Q I r h
  obtain ⟨c, v, b, rfl, ea, ek, q⟩ := h
  cases r with
  | cons rx rr =>
    cases rr with
    | cons rt rr =>
      cases rr
      cases rx
      cases rt
      obtain ⟨C', e, E⟩ := hl.er
      cases e
      obtain ⟨od, J, _⟩ := held_at hl I ea
      exact PySem.W.kia_one (PySem.W.kitx_exc (od := some od) E.cl E.ga E.gg E.exC E.cc E.sp E.tk E.mo) I.kIn J ek (fun z => nomatch z) fun tk => ⟨.bl b, H, I.kept (t' := tk) fun _ _ z => z, rfl, q⟩
end
end Ob
/-! # Ob16: try with several clauses that name the error -/
namespace Ob
open PySem PySem.Spec PyProof.Rows L2

def asEnds (D : Ends) (i : Nat) : Ends := { nx := fun τ G => D.nx (τ.set i none) G, rt := D.rt, bk := fun τ G => D.bk (τ.set i none) G, ct := fun τ G => D.ct (τ.set i none) G }
abbrev ClT := Value × Nat × (Addr → Value → Option Addr → TS)
/-- what the clauses wish of an error -/
def wAsM (K : PySem.W.Frag) (Wo : WX) (D : Ends) : List ClT → WX
  | [] => Wo
  | (c, i, ts) :: r => fun cls d τ G => ∃ b, PySem.W.exmOne K cls c = some b ∧ (b = true → ∀ a, G a = none → ts a cls d (asEnds D i) (τ.set i (some (.ref a))) G) ∧ (b = false → wAsM K Wo D r cls d τ G)
inductive AsOk (X : Cx) : List ExceptHandler → List ClT → Prop
  | nil : AsOk X [] []
  | cons {x n : Str} {c : Value} {i : Nat} {ts : Addr → Value → Option Addr → TS} {b₀ : Stmt} {su : List Stmt} {np pp : Pos} {hds : List ExceptHandler} {l : List ClT} (hc : Names X x c) (hi : X.N[i]? = some n) (hl : X.env.kindOf n = some .local)
      (hsu : ∀ (a : Addr) (oe : Obj) (cls : Value) (d : Option Addr) (pn : List (Addr × Obj)), Zc cls d oe → (∃ vs, oe.data = .fields vs) → PSs (X.suite a ((a, oe) :: pn)) (b₀ :: su) (ts a cls d)) (r : AsOk X hds l) :
      AsOk X (.ExceptHandler (some (.Name x np)) (some n) (b₀ :: su) pp :: hds) ((c, i, ts) :: l)
section
variable {X : Cx} {body : List Stmt} {h₀ : ExceptHandler} {hds : List ExceptHandler} {l : List ClT} {pos : Pos} {tb : WX → TS} {Wo : WX}
theorem ps_try_asM (hs : X.stack = X.env :: X.outer) (hf : X.env.frame = some X.env.locals) (hN : X.N.Nodup) (tk : Takes X Wo)
    (hb : ∀ (W : WX) (pn : List (Addr × Obj)) (xe : Value → Shared → Prop), Takes (X.tr pn xe) W → PassesOwn (model X.prog X.w) X.A X.env xe → PSs (X.tr pn xe) body (tb W))
    (hh : AsOk X (h₀ :: hds) l) : PS X (.Try body (h₀ :: hds) [] [] pos) (fun D τ G => tb (wAsM X.K Wo D l) D τ G) := by
  refine ⟨fun pq z τ G D Iv hw => ?_⟩
  have okx := Iv.ok
  have frm : X.A.frames = some (X.env :: X.outer) := by rw [okx.frames, hs]
  refine wpAny_Try_except ?_
  refine wpAny_mono ((hb (wAsM X.K Wo D l) (X.pn ++ pq)
    (fun e z1 => wpAny (model X.prog X.w) X.A (noteFrame e X.env) (fun _ z2 => wpAny (model X.prog X.w) X.A (setFlight e none) (fun _ z3 =>
      wpAny (model X.prog X.w) X.A (handleBy e X.env (h₀ :: hds)) (SP X pq D) X.xe z3) X.xe z2) X.xe z1)
    (fun u z' air => ?_) PassesOwn.looking).run [] z τ G D (Iv.toTry _) hw) (fun fl z1 q => ?_) (fun e z1 he => he)
  · obtain ⟨a, B, zI, pq', τ', G', cls, d, rfl, Jt, nbs, up, sk, na, eos, bare, wish⟩ := air
    have J0 : L2.Inv X pq τ' G' zI := Jt.ofTry okx
    have sk' : Sky B (X.env :: X.outer) a (Zc cls d) X.env.locals z'.heap := by rw [← hs]; exact sk
    show wpAny (model X.prog X.w) X.A (noteFrame (.ref a) X.env) _ _ _
    refine Sky.land Zc.steady frm hf sk' fun g3 fy3 u3 => ?_
    have J3 : L2.Inv X pq τ' G' { z' with heap := g3 } := J0.landed nbs fy3.1 (up.trans u3) eos bare
    obtain ⟨ob3, fv3, at3, zc3, dt3⟩ := fy3.there
    have apart : a ∉ frs (X.env :: X.outer) := fun hm => by
      obtain ⟨_, o', e', hnf⟩ := fy3.2.2.1.mem hm
      rw [at3] at e'; cases e'
      exact hnf _ dt3
    have neL : a ≠ X.env.locals := fun q => apart (List.mem_filterMap.mpr ⟨X.env, List.mem_cons_self, by rw [hf, q]⟩)
    have neF : a ∉ X.fs := fun hm => by
      obtain ⟨e, he, q⟩ := List.mem_filterMap.mp hm
      exact apart (List.mem_filterMap.mpr ⟨e, List.mem_cons_of_mem _ he, q⟩)
    have Su3 := J3.suite at3 dt3 na neL neF
    have each : ∀ {hs' : List ExceptHandler} {l' : List ClT}, AsOk X hs' l' → wAsM X.K Wo D l' cls d τ' G' →
        wpAny (model X.prog X.w) X.A (handleBy (.ref a) X.env hs') (SP X pq D) X.xe { z' with heap := g3 } := by
      intro hs' l' hk
      induction hk with
      | nil =>
        intro wq
        refine wpAny_handleBy_nil ?_
        obtain ⟨_, _, _, ob, fv, tb', _, _, eo, _, ed, e1, _⟩ := id fy3
        unfold PySem.passOn
        refine wpAny_bind (wpAny_field eo ed e1 ?_)
        rw [if_neg (show ¬ ((Value.ref tb' == Value.none) = true) from by simp)]
        have last : wpAny (model X.prog X.w) X.A (setFlight (.ref a) X.env.frame) (fun _ z4 => wpAny (model X.prog X.w) X.A (throw (.ref a) : Sem Flow) (SP X pq D) X.xe z4) X.xe { z' with heap := g3 } := by
          rw [hf]
          refine HandSPX.setFlight_upZ fy3 fun g4 hd4 u4 => wpAny_throw (tk _ _ ?_)
          exact ⟨a, B, zI, pq, τ', G', cls, d, rfl, J0, nbs, (up.trans u3).trans u4, .inr (.inr (by rw [hs]; exact hd4)), na, eos, bare, wq⟩
        first
          | exact wpAny_bind last
          | exact wpAny_bind (wpAny_pure (wpAny_bind last))
      | @cons x n c i ts b₀ su np pp hds2 l2 hc hi hln hsu r ih =>
        intro wq
        obtain ⟨b, eb, yes, no⟩ := wq
        refine wpAny_handleBy_cons (codeAny_handlers_test ?_) (by intro q; cases q)
        have lt : PySem.W.Looks (model X.prog X.w) g3 (typeOf (.ref a)) cls := fun A1 Q1 E1 z1 k q => wpAny_typeOf_ref (k _ _ at3) (by rw [zc3.1]; exact q)
        have lm := PySem.W.exm_one (M := model X.prog X.w) (J3.kIn) lt eb
        have named : ∀ {Q : Value → Shared → Prop} {E : Value → Shared → Prop}, Q c { z' with heap := g3 } → wpAny (model X.prog X.w) (X.A.mark (some (.ref a))) (eval (.Name x np) X.env) Q E { z' with heap := g3 } := fun {Q E} q => by
          obtain ⟨n1, n2, n3 | ⟨n3, n4, n5⟩⟩ := hc
          · exact ld_glob (X := X.suite a ((a, ob3) :: (X.pn ++ pq))) Su3 n1 n3 q n2
          · exact ld_blt (X := X.suite a ((a, ob3) :: (X.pn ++ pq))) Su3 n1 n3 n4 q n5 n2
        refine named (lm.here ?_)
        cases b with
        | true =>
          refine codeAny_handlers_suite_as ?_
          refine HandSPX.lands_againZ fy3 fun g4 fy4 u4 => ?_
          have J4 : L2.Inv X pq τ' G' { z' with heap := g4 } := J0.landed nbs fy4.1 ((up.trans u3).trans u4) eos bare
          obtain ⟨ob4, fv4, at4, zc4, dt4⟩ := fy4.there
          have Su4 := J4.suite at4 dt4 na neL neF
          refine store_ok (X := X.suite a ((a, ob4) :: (X.pn ++ pq))) (v := .ref a) Su4 hN hi (.inl hln) rfl (fun z5 Su5 => ?_) (.inr hln)
          refine wpAny_mono ((hsu a ob4 cls d (X.pn ++ pq) zc4 ⟨_, dt4⟩).run [] z5 _ G' _ Su5 (yes rfl a na)) (fun fl z6 q6 => ?_) (fun _ _ q => False.elim q)
          have drop : ∀ {τ6 : L2.St} {G6 : Hp} {Q : Shared → Prop}, L2.Inv (X.suite a ((a, ob4) :: (X.pn ++ pq))) [] τ6 G6 z6 → (∀ z7, L2.Inv X pq (τ6.set i none) G6 z7 → Q z7) →
              wpAny (model X.prog X.w) X.A (do bindName X.env n .none; unbindBehindTheSuite X.env n pp) (fun _ z7 => Q z7) X.xe z6 := fun {τ6 G6 Q} Su6 hq => gone_ok (Su6.unsuite okx) hN hi hln hq
          cases fl with
          | next =>
            obtain ⟨τ6, G6, Su6, e6⟩ := q6
            exact drop Su6 fun z7 J7 => ⟨_, _, J7, e6⟩
          | brk =>
            obtain ⟨τ6, G6, Su6, e6⟩ := q6
            exact drop Su6 fun z7 J7 => ⟨_, _, J7, e6⟩
          | cont =>
            obtain ⟨τ6, G6, Su6, e6⟩ := q6
            exact drop Su6 fun z7 J7 => ⟨_, _, J7, e6⟩
          | ret u =>
            obtain ⟨v6, τ6, G6, Su6, r6, e6⟩ := q6
            exact drop Su6 fun z7 J7 => ⟨_, _, _, J7, r6, e6⟩
        | false =>
          show wpAny _ X.A (handleBy (.ref a) X.env hds2) _ _ _
          exact ih (no rfl)
    exact each hh wish
  · cases fl with
    | next =>
      obtain ⟨τ', G', J', e'⟩ := q
      exact wpAny_execs_nil ⟨τ', G', J'.ofTry okx, e'⟩
    | brk =>
      obtain ⟨τ', G', J', e'⟩ := q
      exact ⟨τ', G', J'.ofTry okx, e'⟩
    | cont =>
      obtain ⟨τ', G', J', e'⟩ := q
      exact ⟨τ', G', J'.ofTry okx, e'⟩
    | ret u =>
      obtain ⟨v, τ', G', J', r', e'⟩ := q
      exact ⟨v, τ', G', J'.ofTry okx, r', e'⟩
end

/-! ### the mirror -/
/-- a clause: which errors (by name) are its own, the field, the slot of its name, its suite -/
structure Cl where
  tab : List (Str × Bool)
  f : Str
  i : Nat
  m : M Fl
def handle : List Cl → XD → M Fl
  | [], x => fun st => .err x st
  | c :: r, x => match c.tab.lookup x.n with
    | some true => fun st => if x.f = c.f ∧ c.i < st.d.length then match c.m ⟨st.d.set c.i none, st.s, some x.v⟩ with
        | .ok fl st2 => .ok fl ⟨st2.d.set c.i none, st2.s, none⟩
        | .err _ _ => .stuck
        | .stuck => .stuck
      else .stuck
    | some false => handle r x
    | none => stuck
def mTry (b : M Fl) (cs : List Cl) : M Fl := fun st => match b st with
  | .err x st' => handle cs x st'
  | r => r
/-- a clause's table is right; Pc: what more is known of the classes that are its own -/
def TabOk (K : PySem.W.Frag) (mg : Str → Option Value) (c : Value) (f : Str) (Pc : Value → Prop) (tab : List (Str × Bool)) : Prop :=
  ∀ n b, tab.lookup n = some b → ∃ cls, mg n = some cls ∧ PySem.W.exmOne K cls c = some b ∧ (b = true → (∃ C, cls = .ref C ∧ ErrC K C f) ∧ Pc cls)
inductive CsOk (X : Cx) : List ExceptHandler → List Cl → List ClT → Prop
  | nil : CsOk X [] [] []
  | cons {x n : Str} {c : Value} {Pc : Value → Prop} {q : Cl} {b₀ : Stmt} {su : List Stmt} {np pp : Pos} {hds : List ExceptHandler} {l : List Cl} {l' : List ClT} (hc : Names X x c) (hi : X.N[q.i]? = some n) (hl : X.env.kindOf n = some .local) (ht : TabOk X.K X.mg c q.f Pc q.tab)
      (hsu : ∀ (a : Addr) (oe : Obj) (cls : Value) (dd : Addr) (pn : List (Addr × Obj)), Held X a dd oe cls q.f → Pc cls → SSs (X.suite a ((a, oe) :: pn)) (some (q.i, a, dd, q.f)) NoW (b₀ :: su) q.m) (r : CsOk X hds l l') :
      CsOk X (.ExceptHandler (some (.Name x np)) (some n) (b₀ :: su) pp :: hds) (q :: l)
        ((c, q.i, fun a cls d D τ G => ∃ dd, d = some dd ∧ (∃ C, cls = .ref C ∧ ErrC X.K C q.f) ∧ Pc cls ∧ cS ⟨X.K, X.mg, some (q.i, a, dd, q.f)⟩ NoW q.m D τ G) :: l')
theorem CsOk.as {X : Cx} : ∀ {hds : List ExceptHandler} {l : List Cl} {l' : List ClT}, CsOk X hds l l' → AsOk X hds l'
  | _, _, _, .nil => .nil
  | _, _, _, .cons hc hi hl ht hsu r => .cons hc hi hl (fun a oe cls d pn hz hf => ⟨fun pq z τ G D I ⟨dd, ed, er, pc, q⟩ => by
      subst ed
      exact (hsu a oe cls dd pn ⟨hz, hf, er⟩ pc).run pq z τ G D I q⟩) r.as
section
variable {X : Cx} {W : WX} {pos : Pos} {body : List Stmt} {h₀ : ExceptHandler} {hds : List ExceptHandler} {m : M Fl} {cs : List Cl} {l' : List ClT}
theorem handle_go {D : Ends} {F0 : Hp} {A0 : List Addr} {H0 : Hp} : ∀ {hds : List ExceptHandler} {cs : List Cl} {l' : List ClT}, CsOk X hds cs l' → ∀ (x : XD) (st : SS) (cls : Value) (dx : Option Addr) (σ : L2.St) (F : Hp) (A : List Addr) (H : Hp), Step F0 A0 H0 F A H → Rel (gx X none) F A st σ H → RepX (gx X none) F A cls dx x →
    OutS (gx X none) W F0 A0 H0 (handle cs x st) D → wAsM X.K W D l' cls dx σ H
  | _, _, _, .nil, x, st, cls, dx, σ, F, A, H, s, rel, rx, o => o cls dx σ F A H s rel rx
  | _, _, _, @CsOk.cons _ xn n c Pc q b₀ su np pp hds l l' hc hi hl ht hsu r, x, st, cls, dx, σ, F, A, H, s, rel, rx, o => by
    unfold handle at o
    obtain ⟨hn, dd, v, rfl, hdd, rv⟩ := id rx
    cases e : q.tab.lookup x.n with
    | none => simp only [e] at o; exact o.elim
    | some b =>
      obtain ⟨cls', h1, h2, h3⟩ := ht x.n b e
      have ec : cls' = cls := Option.some.inj (h1.symm.trans hn)
      subst ec
      refine ⟨b, h2, fun eb a na => ?_, fun eb => ?_⟩
      · subst eb
        simp only [e] at o
        obtain ⟨er, pc⟩ := h3 rfl
        by_cases hf : x.f = q.f ∧ q.i < st.d.length
        · rw [if_pos hf] at o
          rw [hf.1] at hdd
          have rel2 : Rel ⟨X.K, X.mg, some (q.i, a, dd, q.f)⟩ F A ⟨st.d.set q.i none, st.s, some x.v⟩ (σ.set q.i (some (.ref a))) H := by
            refine ⟨rel.fh, rel.nd, rel.len, by show (st.d.set q.i none).length = _; rw [List.length_set, List.length_set]; exact rel.sl, rel.tr, rel.cel, fun j d hd => ?_, fun i' a' dd' f' hx => ?_⟩
            · have hd' : (st.d.set q.i none)[j]? = some (some d) := hd
              by_cases hj : q.i = j
              · subst hj
                rw [List.getElem?_set_self hf.2] at hd'
                cases hd'
              · rw [List.getElem?_set_ne hj] at hd' ⊢
                exact rel.slt j d hd'
            · cases hx
              exact ⟨by rw [List.getElem?_set_self (by rw [← rel.sl]; exact hf.2)], v, x.v, hdd, rfl, rv⟩
          refine ⟨dd, rfl, er, pc, F, A, _, rel2, ?_⟩
          have back : ∀ {st2 : SS} {σ2 : L2.St} {F2 : Hp} {A2 : List Addr} {H2 : Hp}, Rel ⟨X.K, X.mg, some (q.i, a, dd, q.f)⟩ F2 A2 st2 σ2 H2 → Rel (gx X none) F2 A2 ⟨st2.d.set q.i none, st2.s, none⟩ (σ2.set q.i none) H2 := by
            intro st2 σ2 F2 A2 H2 r2
            refine ⟨r2.fh, r2.nd, r2.len, by show (st2.d.set q.i none).length = _; rw [List.length_set, List.length_set]; exact r2.sl, r2.tr, r2.cel, fun j d hd => ?_, fun i' a' dd' f' hx => by cases hx⟩
            have hd' : (st2.d.set q.i none)[j]? = some (some d) := hd
            by_cases hj : q.i = j
            · subst hj
              by_cases hl : q.i < st2.d.length
              · rw [List.getElem?_set_self hl] at hd'; cases hd'
              · rw [List.getElem?_eq_none (by rw [List.length_set]; omega)] at hd'; cases hd'
            · rw [List.getElem?_set_ne hj] at hd' ⊢
              exact r2.slt j d hd'
          cases e4 : q.m ⟨st.d.set q.i none, st.s, some x.v⟩ with
          | stuck => simp only [e4] at o; exact o.elim
          | err _ _ => simp only [e4] at o; exact o.elim
          | ok fl st2 =>
            simp only [e4] at o
            cases fl with
            | nx => exact fun σ2 F2 A2 H2 s2 r2 => o _ F2 A2 H2 (s.trans s2) (back r2)
            | bk => exact fun σ2 F2 A2 H2 s2 r2 => o _ F2 A2 H2 (s.trans s2) (back r2)
            | ct => exact fun σ2 F2 A2 H2 s2 r2 => o _ F2 A2 H2 (s.trans s2) (back r2)
            | rt f => exact fun v2 σ2 F2 A2 H2 s2 r2 rf => o v2 _ F2 A2 H2 (s.trans s2) (back r2) (RF.start (G := gx X none) s rf)
        · rw [if_neg hf] at o; exact o.elim
      · subst eb
        simp only [e] at o
        exact handle_go r x st cls' (some dd) σ F A H s rel rx o
theorem ss_try (hs : X.stack = X.env :: X.outer) (hf : X.env.frame = some X.env.locals) (hN : X.N.Nodup) (tk : Takes X W)
    (hb : ∀ (W' : WX) (pn : List (Addr × Obj)) (xe : Value → Shared → Prop), Takes (X.tr pn xe) W' → PassesOwn (model X.prog X.w) X.A X.env xe → SSs (X.tr pn xe) none W' body m)
    (hh : CsOk X (h₀ :: hds) cs l') : SS1 X none W (.Try body (h₀ :: hds) [] [] pos) (mTry m cs) :=
  PSw (ps_try_asM (tb := fun W' => cS (gx X none) W' m) hs hf hN tk (fun W' pn xe h1 h2 => hb W' pn xe h1 h2) hh.as) fun D σ H ⟨F, A, st, rel, o⟩ => by
    refine ⟨F, A, st, rel, ?_⟩
    unfold mTry at o
    cases e : m st with
    | stuck => rw [e] at o; exact o
    | ok fl st' =>
      rw [e] at o
      cases fl <;> exact o
    | err x st' =>
      rw [e] at o
      exact fun cls dx σ' F' A' H' s rel' rx => handle_go (W := W) hh x st' cls dx σ' F' A' H' s rel' rx o
end
section
variable {X : Cx} {W : WX} {a dd : Addr} {oe : Obj} {cls : Value} {f : Str} {pn : List (Addr × Obj)} {i : Nat} {e : Expr} {pos p p2 : Pos}
theorem se_isH {x : Str} {c : Addr} {b : Bool} (hl : Held X a dd oe cls f) (hk : PySem.W.kitOne X.K cls (.ref c) = some b) (hg : Gl X "isinstance") (hm : X.mg "isinstance" = none) (hgx : Gl X x) (hmx : X.mg x = some (.ref c)) (he : PE (X.suite a ((a, oe) :: pn)) e (tVar i))
    (hd : (x == ("__debug__" : Str)) = false := by decide) (hs : starEach [e, .Name x p2] X.env = (false, eval e X.env) :: starEach [.Name x p2] X.env := by rfl) (hs2 : starEach [.Name x p2] X.env = (false, eval (.Name x p2) X.env) :: starEach [] X.env := by rfl)
    (hpl : (backTo pos (starEach [.Name x p2] X.env)).any (·.1) = false := by rfl) : SE (X.suite a ((a, oe) :: pn)) (some (i, a, dd, f)) W (.Call (.Name "isinstance" p) [e, .Name x p2] [] pos) (rt (vl (.bl b))) := by
  obtain ⟨C, rfl, E⟩ := hl.er
  refine PEw (pe_callB (X := X.suite a ((a, oe) :: pn)) (call_isH (C := C) hl) hg hm boot_isi (pa_cons he (pa_cons (pe_glob (X := X.suite a ((a, oe) :: pn)) (v := .ref c) hgx hmx rfl hd) pa_nil hs2) hs) (he := hs) (hpl := hpl)) fun σ H Q ⟨F, A, st, rel, o⟩ => ?_
  obtain ⟨h1, v, d, h2, h3, h4⟩ := rel.exn i a dd f rfl
  exact ⟨.ref a, h1, c, v, b, rfl, rel.fh _ _ h2, hk, Out.done o rel (RF.val (.pure (.bl b)))⟩
end
end Ob
/-! # Ob17: a text turned round, tuples of ranges, walks of empty dicts; what is known of a def, of an error class -/
namespace Ob
open PySem PySem.Spec PyProof.Rows L2

section
variable {X : Cx} {ex : Ex} {W : WX} {a e : Expr} {m : M FT} {ms : M (List FT)}
/-! ### s[::-1] -/
def oRevS (f : FT) : M FT := match f with
  | .val (.pure (.str s)) => rt (vl (.str s.reverse))
  | _ => stuck
theorem sok_rev {s : List Nat} (h : SOK s = true) : SOK s.reverse = true := sok_sub h fun c hc => List.mem_reverse.mp hc
theorem se_revS {k : Nat} {p1 p2 p3 pos : Pos} (he : SE X ex W e m) : SE X ex W (.Subscript e (.Slice none none (some (.UnaryOp .USub (.Constant (.int 1) k p1) p2)) p3) pos) (m1 oRevS m) := by
  refine ⟨fun pins s σ H Q I ⟨F, A, st, rel, o⟩ => ?_⟩
  refine Subscript_ (thn (he.run pins s σ H (fun v H1 => ∃ z : List Nat, v = .str ⟨z.toArray⟩ ∧ z.length ≤ sizeLine ∧ Q (.str ⟨z.reverse.toArray⟩) H1) I ⟨F, A, st, rel, Out.bind o fun v f F1 A1 H1 st1 s1 rel1 r1 o1 => ?_⟩) fun v s1 ⟨x, H1, I1, r1, q1⟩ => ?_)
  · unfold oRevS at o1
    split at o1
    · rename_i z
      obtain ⟨ev, hz, ok⟩ := r1.str
      exact ⟨z, ev, hz, Out.done o1 rel1 (RF.val (.pure (.str _ (by rw [List.length_reverse]; exact hz) (sok_rev ok))))⟩
    · exact o1.elim
  · obtain ⟨z, rfl, hz, q⟩ := q1
    obtain ⟨tk, rfl⟩ := r1
    have third : PO X (some (.UnaryOp .USub (.Constant (.int 1) k p1) p2)) (tPart (tUn (rU fun i => .int (-i)) (tC (.int 1)))) := po_some (pe_un un_neg pe_int)
    refine wpAny_Slice (thn (po_none.run pins s1 σ H1 (fun o H2 => o = none ∧ H2 = H1) I1 ⟨rfl, rfl⟩) fun vl s2 ⟨l, H2, I2, pl, el, e2⟩ => ?_)
    cases el
    cases e2
    refine thn (po_none.run pins s2 σ H1 (fun o H3 => o = none ∧ H3 = H1) I2 ⟨rfl, rfl⟩) fun vu s3 ⟨u, H3, I3, pu, eu, e3⟩ => ?_
    cases eu
    cases e3
    refine thn (third.run pins s3 σ H1 (fun o H4 => o = some (-1) ∧ H4 = H1) I3 ⟨1, rfl, -1, rfl, rfl, rfl⟩) fun vs s4 ⟨o', H4, I4, ps, eo, e4⟩ => ?_
    cases eo
    cases e4
    have I5 : L2.Inv X pins σ H1 { s4 with heap := s4.heap.push { cls := .type "slice", data := .fields #[vl, vu, vs] } } := I4.kept (t' := s4.toks) fun b ob q => Heap.get?_push_of_some _ q
    obtain ⟨l1, rfl, el1⟩ := IsPart.raw pl
    obtain ⟨l2, rfl, el2⟩ := IsPart.raw pu
    obtain ⟨l3, rfl, el3⟩ := IsPart.raw ps
    show wpAny (model X.prog X.w) X.A (subscriptTail e (.Slice none none (some (.UnaryOp .USub (.Constant (.int 1) k p1) p2)) p3) (.str ⟨z.toArray⟩ tk) (.ref s4.heap.objs.size)) (EP X pins σ Q) X.xe _
    refine tail_any (ops := [.str ⟨z.toArray⟩ tk, .ref s4.heap.objs.size]) (typeIs_str _ _ _) PySem.F.slot_str_getitem.lookup ?_ (by with_unfolding_all rfl)
    refine wpAny_getItem_str_slice (l := l1) (u := l2) (st := l3) ⟨_, Heap.get?_push_size _ rfl, rfl, rfl⟩ (by rw [el3]; rfl) ?_
    unfold sliceMade slicePicked
    rw [el1, el2, el3]
    have c : (((some (-1 : Int)).getD 1 == 1) && ((Builtin.Str.strSliceIndices none none ((some (-1 : Int)).getD 1) (⟨z.toArray⟩ : Str).length).length == (⟨z.toArray⟩ : Str).length)) = false := rfl
    have e : (⟨((Builtin.Str.strSliceIndices none none (-1) (⟨z.toArray⟩ : Str).length).filterMap ((⟨z.toArray⟩ : Str).cps[·]?)).toArray⟩ : Str) = ⟨z.reverse.toArray⟩ := by
      have e1 : Builtin.Str.strSliceIndices none none (-1) (⟨z.toArray⟩ : Str).length = sliceRange (((⟨z.toArray⟩ : Str).cps.size : Int) - 1) (-1) (-1) := rfl
      rw [e1, PySem.W.krv_sliceRange, PySem.W.krv_range, List.filterMap_reverse, PySem.W.krv_all]
    have q2 : Made.post (Made.str ⟨z.reverse.toArray⟩) (EP X pins σ Q) { s4 with heap := s4.heap.push { cls := .type "slice", data := .fields #[partValue l1, partValue l2, partValue l3] } } :=
      ⟨by show (z.reverse.toArray).size ≤ _; simpa using hz, .str _, H1, I5.tok _, ⟨_, rfl⟩, q⟩
    rw [← e] at q2
    exact q2

/-! ### tuple(range(..)) -/
def rgT (a b : Int) : List T := (List.range (b - a).toNat).map fun i => T.int (a + (i : Nat))
theorem rgT_rep {K : PySem.W.Frag} {F : Hp} {a b : Int} : RepTs K F (rgV a b) (rgT a b) := by
  unfold rgV rgT
  generalize List.range (b - a).toNat = l
  induction l with
  | nil => exact .nil
  | cons x r ih => exact .cons (.int _) ih
def mTupR (f : FT) : M FT := match f with
  | .val (.pure (.int n)) => bd (guard (decide (0 ≤ n) && decide (n ≤ 1000000))) fun _ => rt (vl (.tup (rgT 0 n)))
  | _ => stuck
theorem se_tupR {p p2 pos pos2 : Pos} (hc : X.calm = true) (hg : Gl X "tuple") (hm : X.mg "tuple" = none) (hg2 : Gl X "range") (hm2 : X.mg "range" = none) (ha : SE X ex W a m) (na2 : starEach [a] X.env = (false, eval a X.env) :: starEach [] X.env := by rfl)
    (na : starEach [.Call (.Name "range" p2) [a] [] pos2] X.env = (false, eval (.Call (.Name "range" p2) [a] [] pos2) X.env) :: starEach [] X.env := by rfl) :
    SE X ex W (.Call (.Name "tuple" p) [.Call (.Name "range" p2) [a] [] pos2] [] pos) (bd m mTupR) :=
  PEw (pe_tupRg hc hg hm (prg_1 hg2 hm2 ha na2) na) fun σ H Q ⟨F, A, st, rel, o⟩ => ⟨F, A, st, rel, Out.bind o fun v f F1 A1 H1 st1 s1 rel1 r1 o1 => by
    unfold mTupR at o1
    split at o1
    · rename_i n
      have e := r1.int
      subst e
      obtain ⟨c, o2⟩ := o1.guard
      simp only [Bool.and_eq_true, decide_eq_true_eq] at c
      refine ⟨n, rfl, RgOk.of_le (by omega) (by omega) (by omega) (by omega), fun q hq => ?_⟩
      have nf := rel1.free hq
      refine o2 (.ref q) (upd F1 q (.tup (rgV 0 n))) A1 _ (Step.newF hq nf) (rel1.newF hq) (RF.val (.pure (.tup (.inl (.inl (upd_same ..))) ?_ rgT_rep)))
      unfold rgT
      rw [List.length_map, List.length_range]
      have : (1000000 : Nat) ≤ sizeLine := by decide
      omega
    · exact o1.elim⟩

/-! ### [.. for k in x], x an empty dict: nothing is walked -/
def mLcD (i : Nat) : M FT := fun st => match st.d[i]? with
  | some (some (.pure (.dct [] []))) => .ok (.new []) st
  | _ => .stuck
variable {elt tg iter : Expr} {ifs : List Expr} {scope : Scope} {own : List (Str × Nat)} {pos : Pos} {i : Nat}
theorem pe_no {Y : Cx} {e : Expr} : PE Y e (fun _ _ _ => False) := ⟨fun _ _ _ _ _ _ q => q.elim⟩
theorem pts_no {Y : Cx} {es : List Expr} : PTs Y es (fun _ _ _ => False) := ⟨fun _ _ _ _ _ _ q => q.elim⟩
theorem pg_no {Y : Cx} {e : Expr} : PG Y e (fun _ _ _ _ => False) := ⟨fun _ _ _ _ _ _ _ _ _ q => False.elim q⟩
theorem se_lcD (hc : X.calm = true) (hN : X.N.Nodup) (ha : PE X iter (tVar i)) (ok : BlkOk X.N X.env.scope scope own) (hs : ∀ x, foldedSetIterable iter X.env x = pure x := by intro _; rfl) : SE X ex W (.ListComp elt [⟨tg, iter, ifs, 0⟩] scope pos) (mLcD i) := by
  refine PEw (pe_lock (pe_lc hc hN (pi_keys ha) ok (fun _ _ _ _ _ => pg_no) (fun _ _ _ _ _ => pts_no) (fun _ _ _ _ _ => pe_no) hs)) fun σ H Q ⟨F, A, st, rel, o⟩ => ?_
  unfold mLcD at o
  split at o
  · rename_i hd
    obtain ⟨v, hv, rv⟩ := rel.slt i _ hd
    cases rv with
    | pure rv =>
      cases rv with
      | @dnil a fa =>
        have ha := rel.fh _ _ fa
        refine ⟨a, .dK [], ha, trivial, fun od => ⟨.ref a, hv, a, od, rfl, .inl ⟨[], upd_same .., fun D hD => ?_⟩⟩⟩
        have ne : D ≠ a := fun e => by rw [e, upd_same] at hD; cases hD
        have hD' : H D = none := by rw [upd_ne ne] at hD; exact hD
        refine ⟨fun j m H2 => j = 0 ∧ H2 = upd (upd H a (.frz od (.dK []))) D (.lst []), ⟨0, rfl, rfl⟩, ?_⟩
        rintro j m H2 ⟨rfl, rfl⟩
        have e1 : upd (upd H a (.frz od (.dK []))) D (.lst []) a = some (.frz od (.dK [])) := by rw [upd_ne (Ne.symm ne), upd_same]
        refine .inl ⟨⟨e1, Nat.le_refl _⟩, e1, ?_⟩
        have e2 : upd (upd (upd H a (.frz od (.dK []))) D (.lst [])) a (.dK []) = upd H D (.lst []) := by
          funext b
          by_cases hb : b = a
          · rw [hb, upd_same, upd_ne (Ne.symm ne), ha]
          · rw [upd_ne hb]
            by_cases hb2 : b = D
            · rw [hb2, upd_same, upd_same]
            · rw [upd_ne hb2, upd_ne hb2, upd_ne hb]
        rw [e2]
        exact o (.ref D) F A _ (Step.newH hD') (rel.newH hD') ⟨[D], .new (upd_same ..) (rel.free hD') (rel.notA hD') (Nat.zero_le _) .nil, by simp, fun p hp => by rw [List.mem_singleton.mp hp]; exact hD'⟩
  · exact o.elim
end

/-! ### what is known of the text -/
section
variable (P : Program) (w : World) (K : PySem.W.Frag) (mg : Str → Option Value) (base : Heap)
/-- a def of the text -/
structure Df (x : Str) (st : Stmt) (ps : List Str) (a : Addr) (fd : FuncData) : Prop where
  fn : Fun K x x st a fd
  g : mg x = some (.ref a)
  b : Binds K fd ps []
/-- .. that keeps the promise of a mirror -/
def OkD (x : Str) (st : Stmt) (ps : List Str) (k n : Nat) (fm : FM) : Prop := ∃ a fd, Df K mg x st ps a fd ∧ FnOk P w K mg base (L2.CX P w) k a fd ps (spD K mg n fm)
/-- an own error class with __init__(self, given) -/
structure Er (n qual : Str) (st : Stmt) (C fI : Addr) (fd : FuncData) : Prop where
  T : OexC K C
  iC : PySem.W.findIn K (.ref C) "__init__" = some (some (.ref fI))
  tI : PySem.W.typeIn K (.ref fI) = some (.type "function")
  g : mg n = some (.ref C)
  fn : Fun K "__init__" qual st fI fd
  b : Binds K fd ["self", "given"] []
  er : ErrC K C "given"
def OkE (n qual : Str) (st : Stmt) : Prop := ∃ C fI fd, Er K mg n qual st C fI fd ∧ FnOk P w K mg base (L2.CX P w) 1 fI fd ["self", "given"] (spI K "given")
end
theorem kwb_of {K : PySem.W.Frag} {x qual : Str} {st : Stmt} {f : Addr} {fd : FuncData} {ps ks : List Str} {pm : List Nat} (F : Fun K x qual st f fd)
    (h : ∀ (kV doc pm' : Value) (an : Option Addr) (cdv ct : Value) (ws : List Value), ws.length = ks.length → bindArgs (PySem.W.fnOf x qual (defArgs st) (defBody st) (defScope st) .none kV doc pm' an cdv ct) ⟨[], ks.zip ws⟩ = pure (ps.zip (perm pm ws))) : KwB K fd ps ks pm := by
  obtain ⟨oc, od, kV, doc, pm', an, cdv, ct, osl, rfl, lk, hcd⟩ := F.ex
  exact ⟨fun s ws _ hl => .of_eq (h kV doc pm' an cdv ct ws hl)⟩
theorem Er.ok {P : Program} {w : World} {K : PySem.W.Frag} {mg : Str → Option Value} {base : Heap} {n qual : Str} {st : Stmt} {C fI : Addr} {fd : FuncData} (E : Er K mg n qual st C fI fd) (S : FnScope ["self", "given"] ["self", "given"] (defScope st))
    (hb : ∀ (cdv : Value) (A : Around) (outer : List Env) (s : Shared) (H : Hp) (E : XK), PSs (cxOf (L2.CX P w) P w K mg base ["self", "given"] qual (defScope st) fI cdv A outer s H E) (defBody st) (tOst K "given" (tVar 0) (tVar 1))) : OkE P w K mg base n qual st :=
  ⟨C, fI, fd, E, ok_init E.fn S hb⟩
end Ob
/-! # Ob18: len of an empty dict, the built-ins' names, tables of clauses -/
namespace Ob
open PySem PySem.Spec PyProof.Rows L2

theorem bt_len : bootBuiltins "len" = some (.builtin "len") := PySem.boot_len
theorem bt_abs : bootBuiltins "abs" = some (.builtin "abs") := by decide +kernel
theorem bt_max : bootBuiltins "max" = some (.builtin "max") := by decide +kernel
theorem bt_min : bootBuiltins "min" = some (.builtin "min") := by decide +kernel
theorem bt_sum : bootBuiltins "sum" = some (.builtin "sum") := by decide +kernel
theorem bt_all : bootBuiltins "all" = some (.builtin "all") := by decide +kernel
theorem bt_any : bootBuiltins "any" = some (.builtin "any") := by decide +kernel
theorem bt_int : bootBuiltins "int" = some (.type "int") := by decide +kernel
theorem bt_list : bootBuiltins "list" = some (.type "list") := by decide +kernel
theorem bt_tuple : bootBuiltins "tuple" = some (.type "tuple") := by decide +kernel
section
variable {X : Cx} {ex : Ex} {W : WX}
def rLenU (K : PySem.W.Frag) : List V → Hp → VK → Prop := fun xs H Q => (∃ x n, xs = [x] ∧ LenV K x H n ∧ Q (.int n) H) ∨ ∃ a kvs, xs = [V.ref a] ∧ H a = some (.dK kvs) ∧ Q (.int kvs.length) H
theorem call_lenU : CallR X (.builtin "len") (rLenU X.K) := CallR.or call_len call_lenD
def bLenU : List FT → M FT
  | [.val (.pure (.dct [] []))] => rt (vl (.int 0))
  | fs => bLen fs
theorem ca_lenU : CaS X ex W (rLenU X.K) bLenU := by
  intro F A σ H H0 F0 A0 st vs fs Q s rel r o
  unfold bLenU at o
  split at o
  · obtain ⟨v, rfl, r0⟩ := r.isOne
    have r1 := r0.ofVal
    cases r1 with
    | pure r1 => cases r1 with | dnil h => exact .inr ⟨_, [], rfl, rel.fh _ _ h, Out.done (o.step s) rel (RF.val (.pure (.int _)))⟩
  · exact .inl (ca_len F A σ H H0 F0 A0 st vs _ Q s rel r o)
end
theorem blk_by {X : Cx} {M : List Str} {sc scope : Scope} {own : List (Str × Nat)} (h1 : X.N = M) (h2 : X.env.scope = sc) (h : blkC M sc scope own = true) : BlkOk X.N X.env.scope scope own := by
  rw [h1, h2]
  exact blkOk_by h
section
variable {K : PySem.W.Frag} {mg : Str → Option Value} {c : Value} {f n : Str} {Pc : Value → Prop} {tab : List (Str × Bool)} {C : Addr}
theorem tab_nil : TabOk K mg c f Pc [] := fun n b h => by simp [List.lookup] at h
theorem tab_yes (g : mg n = some (.ref C)) (x : PySem.W.exmOne K (.ref C) c = some true) (er : ErrC K C f) (pc : Pc (.ref C)) (r : TabOk K mg c f Pc tab) : TabOk K mg c f Pc ((n, true) :: tab) := fun m b h => by
  unfold List.lookup at h
  cases e : m == n with
  | true =>
    rw [e] at h
    cases h
    have e2 := eq_of_beq e
    subst e2
    exact ⟨_, g, x, fun _ => ⟨⟨C, rfl, er⟩, pc⟩⟩
  | false => rw [e] at h; exact r m b h
theorem tab_no (g : mg n = some (.ref C)) (x : PySem.W.exmOne K (.ref C) c = some false) (r : TabOk K mg c f Pc tab) : TabOk K mg c f Pc ((n, false) :: tab) := fun m b h => by
  unfold List.lookup at h
  cases e : m == n with
  | true =>
    rw [e] at h
    cases h
    have e2 := eq_of_beq e
    subst e2
    exact ⟨_, g, x, fun z => by cases z⟩
  | false => rw [e] at h; exact r m b h
end
end Ob
/-! # Ob19: how mirrors compute -/
namespace Ob
open PySem PySem.Spec PyProof.Rows L2

/-! ### calls -/
/-- a value that stands: a tree, or a living cell -/
def okD (s : List (Option Cell)) (d : VD) : Prop := (∃ t, d = .pure t) ∨ ∃ k c, d = .cell k ∧ s[k]? = some (some c)
theorem okD.t {s : List (Option Cell)} {t : T} : okD s (.pure t) := .inl ⟨t, rfl⟩
theorem goC_ok' {n : Nat} {fm : FM} {ds : List VD} {st : SS} {f : FT} (hn : ds.length = n) (h : ∀ s, (∀ d ∈ ds, okD s d) → fm ds s = .ok f s) (o : ∀ d ∈ ds, okD st.s d) : goC n fm ds st = .ok f st := by
  unfold goC
  rw [if_pos hn]
  cases e : allT ds with
  | some ts =>
    have ed := allT_len e
    subst ed
    have := h [] fun d hd => by
      obtain ⟨t, _, rfl⟩ := List.mem_map.mp hd
      exact .inl ⟨t, rfl⟩
    simp only [this]
  | none => simp only [h st.s o]
theorem goC_err {n : Nat} {fm : FM} {ds : List VD} {st : SS} {x : XD} (hn : ds.length = n) (h : ∀ s, (∀ d ∈ ds, okD s d) → fm ds s = .err x s) (o : ∀ d ∈ ds, okD st.s d) : goC n fm ds st = .err x st := by
  unfold goC
  rw [if_pos hn]
  cases e : allT ds with
  | some ts =>
    have ed := allT_len e
    subst ed
    have := h [] fun d hd => by
      obtain ⟨t, _, rfl⟩ := List.mem_map.mp hd
      exact .inl ⟨t, rfl⟩
    simp only [this]
  | none => simp only [h st.s o]
/-- a call with a cell among its arguments -/
theorem goC_cell {n : Nat} {fm : FM} {ds : List VD} {st : SS} {f : FT} {s' : List (Option Cell)} (hn : ds.length = n) (hc : allT ds = none) (h : fm ds st.s = .ok f s') : goC n fm ds st = .ok f { st with s := s' } := by
  unfold goC
  rw [if_pos hn]
  simp only [hc, h]
/-- a call of trees -/
theorem goC_pure {n : Nat} {fm : FM} {ts : List T} {st : SS} {f : FT} (hn : ts.length = n) (h : fm (ts.map .pure) [] = .ok f []) : goC n fm (ts.map .pure) st = .ok f st := by
  unfold goC
  rw [if_pos (by simpa using hn), allT_pure]
  simp only [h]

/-! ### comprehensions whose bodies leave the state -/
theorem lcLoop_pure {sr : Sr} {body : VD → M (Option FT)} {ds : List VD} {g : VD → Option FT} {st : SS} (hi : sr.items st.s = some ds) (hb : ∀ d ∈ ds, body d st = .ok (g d) st) (hl : ds.length ≤ lim) :
    ∀ (n i : Nat) (acc : List FT), i + n = ds.length → acc.length ≤ i → lcLoop sr body (n + 1) i acc st = .ok (.new (acc ++ (ds.drop i).filterMap g)) st
  | 0, i, acc, e, ha => by
    have e' : i = ds.length := by omega
    unfold lcLoop
    simp only [hi]
    rw [List.getElem?_eq_none (by omega)]
    simp only
    rw [if_pos ⟨e', by omega⟩, List.drop_eq_nil_of_le (by omega)]
    simp
  | n + 1, i, acc, e, ha => by
    have hlt : i < ds.length := by omega
    unfold lcLoop
    simp only [hi]
    rw [List.getElem?_eq_getElem hlt]
    simp only
    rw [hb _ (List.getElem_mem hlt), List.drop_eq_getElem_cons hlt]
    cases eg : g ds[i] with
    | none =>
      simp only
      rw [lcLoop_pure hi hb hl n (i + 1) acc (by omega) (by omega), List.filterMap_cons_none eg]
    | some f =>
      simp only
      rw [if_pos (by omega), lcLoop_pure hi hb hl n (i + 1) (acc ++ [f]) (by omega) (by rw [List.length_append]; simp; omega), List.filterMap_cons_some eg]
      simp
theorem lc_pure {src : M Sr} {t : Tgt} {tt : M Bool} {te : M FT} {vs : List Nat} {sr : Sr} {ds : List VD} {g : VD → Option FT} {st st' : SS} (hs : src st = .ok sr st') (hi : sr.items st'.s = some ds) (hb : ∀ d ∈ ds, lcBody t tt te vs d st' = .ok (g d) st') (hl : ds.length ≤ lim) :
    mLc src t tt te vs st = .ok (.new (ds.filterMap g)) st' := by
  unfold mLc bd
  rw [hs]
  simp only [hi]
  rw [lcLoop_pure hi hb hl ds.length 0 [] (by omega) (Nat.le_refl _)]
  simp

/-! ### bodies that change the state: by an invariant -/
theorem lcLoop_inv {sr : Sr} {body : VD → M (Option FT)} {ds : List VD} (I : Nat → SS → List FT → Prop) (hl : ds.length ≤ lim) (hi : ∀ i st acc, I i st acc → sr.items st.s = some ds ∧ acc.length ≤ i)
    (step : ∀ i st acc d, ds[i]? = some d → I i st acc → ∃ o st', body d st = .ok o st' ∧ I (i + 1) st' (acc ++ o.toList)) :
    ∀ (n i : Nat) (acc : List FT) (st : SS), i + n = ds.length → I i st acc → ∃ acc' st', lcLoop sr body (n + 1) i acc st = .ok (.new acc') st' ∧ I ds.length st' acc'
  | 0, i, acc, st, e, ha => by
    have e' : i = ds.length := by omega
    obtain ⟨h1, h2⟩ := hi i st acc ha
    refine ⟨acc, st, ?_, by rw [← e']; exact ha⟩
    unfold lcLoop
    simp only [h1]
    rw [List.getElem?_eq_none (by omega)]
    simp only
    rw [if_pos ⟨e', by omega⟩]
  | n + 1, i, acc, st, e, ha => by
    have hlt : i < ds.length := by omega
    obtain ⟨h1, h2⟩ := hi i st acc ha
    obtain ⟨o, st1, hb, hI⟩ := step i st acc _ (List.getElem?_eq_getElem hlt) ha
    cases o with
    | none =>
      rw [Option.toList_none, List.append_nil] at hI
      obtain ⟨acc', st', r1, r2⟩ := lcLoop_inv I hl hi step n (i + 1) acc st1 (by omega) hI
      refine ⟨acc', st', ?_, r2⟩
      unfold lcLoop
      simp only [h1]
      rw [List.getElem?_eq_getElem hlt]
      simp only [hb]
      exact r1
    | some f =>
      rw [Option.toList_some] at hI
      obtain ⟨acc', st', r1, r2⟩ := lcLoop_inv I hl hi step n (i + 1) (acc ++ [f]) st1 (by omega) hI
      refine ⟨acc', st', ?_, r2⟩
      unfold lcLoop
      simp only [h1]
      rw [List.getElem?_eq_getElem hlt]
      simp only [hb]
      rw [if_pos (by omega)]
      exact r1
theorem lc_inv {src : M Sr} {t : Tgt} {tt : M Bool} {te : M FT} {vs : List Nat} {sr : Sr} {ds : List VD} {st st1 : SS} (I : Nat → SS → List FT → Prop) (hs : src st = .ok sr st1) (h0 : I 0 st1 []) (hl : ds.length ≤ lim) (hi : ∀ i st acc, I i st acc → sr.items st.s = some ds ∧ acc.length ≤ i)
    (step : ∀ i st acc d, ds[i]? = some d → I i st acc → ∃ o st', lcBody t tt te vs d st = .ok o st' ∧ I (i + 1) st' (acc ++ o.toList)) :
    ∃ acc' st', mLc src t tt te vs st = .ok (.new acc') st' ∧ I ds.length st' acc' := by
  obtain ⟨acc', st', r1, r2⟩ := lcLoop_inv I hl hi step ds.length 0 [] st1 (by omega) h0
  refine ⟨acc', st', ?_, r2⟩
  unfold mLc bd
  rw [hs]
  simp only [(hi 0 st1 [] h0).1]
  exact r1
/-! ### loops by an invariant -/
theorem forLoop_inv {sr : Sr} {t : Tgt} {kl : List Nat} {base : Nat} {body : M Fl} {ds : List VD} (I : Nat → SS → Prop) (hi : ∀ i st, I i st → sr.items st.s = some ds)
    (step : ∀ i st d, ds[i]? = some d → I i st → ∃ st2 st3 st4, mTg t d st = some st2 ∧ body st2 = .ok .nx st3 ∧ cut base kl st3 = some st4 ∧ I (i + 1) st4) :
    ∀ (n i : Nat) (st : SS), i + n = ds.length → I i st → ∃ st', forLoop sr t kl base body (n + 1) i st = .ok .nx st' ∧ I ds.length st'
  | 0, i, st, e, ha => by
    have e' : i = ds.length := by omega
    refine ⟨st, ?_, by rw [← e']; exact ha⟩
    unfold forLoop
    simp only [hi i st ha]
    rw [List.getElem?_eq_none (by omega)]
    simp only
    rw [if_pos e']
  | n + 1, i, st, e, ha => by
    have hlt : i < ds.length := by omega
    obtain ⟨st2, st3, st4, h1, h2, h3, h4⟩ := step i st _ (List.getElem?_eq_getElem hlt) ha
    obtain ⟨st', r1, r2⟩ := forLoop_inv I hi step n (i + 1) st4 (by omega) h4
    refine ⟨st', ?_, r2⟩
    unfold forLoop
    simp only [hi i st ha]
    rw [List.getElem?_eq_getElem hlt]
    simp only [h1, h2, h3]
    exact r1
theorem for_inv {src : M Sr} {t : Tgt} {kl : List Nat} {body : M Fl} {sr : Sr} {ds : List VD} {st st1 : SS} (I : Nat → SS → Prop) (hs : src st = .ok sr st1) (h0 : I 0 st1) (hi : ∀ i st, I i st → sr.items st.s = some ds)
    (step : ∀ i st d, ds[i]? = some d → I i st → ∃ st2 st3 st4, mTg t d st = some st2 ∧ body st2 = .ok .nx st3 ∧ cut st1.s.length kl st3 = some st4 ∧ I (i + 1) st4) :
    ∃ st', mFor src t kl body st = .ok .nx st' ∧ I ds.length st' := by
  obtain ⟨st', r1, r2⟩ := forLoop_inv I hi step ds.length 0 st1 (by omega) h0
  refine ⟨st', ?_, r2⟩
  unfold mFor bd
  rw [hs]
  simp only [hi 0 st1 h0]
  exact r1
/-! ### what is walked -/
theorem mOne_t {t : T} {ds : List VD} {st : SS} (h : itm st.s (.pure t) = some ds) : mOne (vl t) st = .ok (.one (.pure t)) st := by
  unfold mOne
  rw [show fz (vl t) = VD.pure t by rw [vl, fz], h]
theorem filterMap_map' {α β γ : Type} (f : α → β) (g : β → Option γ) (l : List α) : (l.map f).filterMap g = l.filterMap fun x => g (f x) := by rw [List.filterMap_map]; rfl
end Ob
/-! # Ob20: comprehensions over trees that leave the state -/
namespace Ob
open PySem PySem.Spec PyProof.Rows L2

/-- the items of a tree -/
def itT : T → Option (List T)
  | .lst ts => some ts
  | .tup ts => some ts
  | .xl ts => some ts
  | .str x => some (x.map fun c => .str [c])
  | _ => none
theorem itm_t {s : List (Option Cell)} {t : T} {ts : List T} (h : itT t = some ts) : itm s (.pure t) = some (ts.map .pure) := by
  unfold itT at h
  split at h
  · cases h; rfl
  · cases h; rfl
  · cases h; rfl
  · cases h; simp [itm]
  · cases h
theorem mkTup2 (a b : T) : mkTup [.pure a, .pure b] = .pure (.tup [a, b]) := rfl
theorem zipWith_pure : ∀ xs ys : List T, List.zipWith (fun x y => mkTup [x, y]) (xs.map VD.pure) (ys.map VD.pure) = (List.zip xs ys).map fun p => .pure (.tup [p.1, p.2])
  | [], _ => by simp
  | _ :: _, [] => by simp
  | x :: xs, y :: ys => by
    rw [List.map_cons, List.map_cons, List.zipWith_cons_cons, zipWith_pure xs ys, List.zip_cons_cons, List.map_cons]
    rfl
theorem numd_pure : ∀ (ts : List T) (i : Nat), numd i (ts.map VD.pure) = (ts.zipIdx i).map fun p => .pure (.tup [.int (p.2 : Nat), p.1])
  | [], _ => rfl
  | t :: r, i => by
    rw [List.map_cons, numd, numd_pure r (i + 1), List.zipIdx_cons, List.map_cons]
    rfl
theorem zipIdx_range {α : Type} (d : α) (r : List α) : r.zipIdx = (List.range r.length).map fun k => (r.getD k d, k) := by
  apply List.ext_getElem
  · simp
  · intro i h1 h2
    simp at h1
    simp [h1]
section
variable {t : Tgt} {tt : M Bool} {te : M FT} {vs : List Nat} {st : SS} {e : M FT} {ms : M (List FT)}
theorem lc_one {u : T} {ts : List T} (g : T → Option FT) (he : e st = .ok (vl u) st) (hu : itT u = some ts) (hb : ∀ x ∈ ts, lcBody t tt te vs (.pure x) st = .ok (g x) st) (hl : ts.length ≤ lim) : mLc (bd e mOne) t tt te vs st = .ok (.new (ts.filterMap g)) st := by
  have hs : bd e mOne st = .ok (.one (.pure u)) st := by
    unfold bd; rw [he]; exact mOne_t (itm_t hu)
  rw [lc_pure (g := fun d => match d with | .pure x => g x | _ => none) hs (show Sr.items st.s (.one (.pure u)) = _ from itm_t hu) (fun d hd => ?_) (by simpa using hl), filterMap_map']
  obtain ⟨x, hx, rfl⟩ := List.mem_map.mp hd
  exact hb x hx
theorem lc_new {ts : List T} (g : T → Option FT) (he : e st = .ok (nw ts) st) (hb : ∀ x ∈ ts, lcBody t tt te vs (.pure x) st = .ok (g x) st) (hl : ts.length ≤ lim) : mLc (bd e mOne) t tt te vs st = .ok (.new (ts.filterMap g)) st := by
  have hs : bd e mOne st = .ok (.one (.pure (.lst ts))) st := by
    unfold bd; rw [he]
    show mOne (nw ts) st = _
    unfold mOne
    rw [fz_nw]
    rfl
  rw [lc_pure (g := fun d => match d with | .pure x => g x | _ => none) hs (show Sr.items st.s (.one (.pure (.lst ts))) = _ from rfl) (fun d hd => ?_) (by simpa using hl), filterMap_map']
  obtain ⟨x, hx, rfl⟩ := List.mem_map.mp hd
  exact hb x hx
theorem lc_rng {n : Int} (g : Nat → Option FT) (hm : ms st = .ok [vl (.int n)] st) (h1 : -1000000 ≤ n) (h2 : n ≤ 1000000) (hb : ∀ i < n.toNat, lcBody t tt te vs (.pure (.int (i : Nat))) st = .ok (g i) st) :
    mLc (bd ms mRng1) t tt te vs st = .ok (.new ((List.range n.toNat).filterMap g)) st := by
  have hs : bd ms mRng1 st = .ok (.rng 0 n.toNat) st := by
    unfold bd; rw [hm]
    have c : (decide (-(2 ^ 62) ≤ n) && decide (n < 2 ^ 62)) = true := by
      rw [Bool.and_eq_true]
      exact ⟨decide_eq_true (by omega), decide_eq_true (by omega)⟩
    simp only [mRng1, vl, bd, Ob.guard, if_pos c, rt]
  rw [lc_pure (g := fun d => match d with | .pure (.int i) => g i.toNat | _ => none) hs (ds := (List.range n.toNat).map fun i => .pure (.int (0 + (i : Nat)))) rfl (fun d hd => ?_) (by simp; unfold lim; omega), filterMap_map']
  · simp
  · obtain ⟨i, hi, rfl⟩ := List.mem_map.mp hd
    have := hb i (List.mem_range.mp hi)
    simpa using this
theorem lc_en {u : T} {ts : List T} (g : Nat → T → Option FT) (hm : ms st = .ok [vl u] st) (hu : itT u = some ts) (hk : knd (.pure u) ≠ 1) (hb : ∀ (i : Nat) (x : T), ts[i]? = some x → lcBody t tt te vs (.pure (.tup [.int (i : Nat), x])) st = .ok (g i x) st) (hl : ts.length ≤ lim) :
    mLc (bd ms mEnu) t tt te vs st = .ok (.new (ts.zipIdx.filterMap fun p => g p.2 p.1)) st := by
  have hs : bd ms mEnu st = .ok (.enu (.pure u)) st := by
    unfold bd; rw [hm]
    show mEnu [vl u] st = _
    unfold mEnu
    have e : fz (vl u) = .pure u := by rw [vl, fz]
    simp only [e, itm_t (s := st.s) hu]
    exact if_neg hk
  have hi : Sr.items st.s (.enu (.pure u)) = some (ts.zipIdx.map fun p => .pure (.tup [.int (p.2 : Nat), p.1])) := by
    show (itm st.s (.pure u)).map (numd 0) = _
    rw [itm_t hu, Option.map_some, numd_pure]
  rw [lc_pure (g := fun d => match d with | .pure (.tup [.int i, x]) => g i.toNat x | _ => none) hs hi (fun d hd => ?_) (by simpa using hl), filterMap_map']
  · rfl
  · obtain ⟨p, hp, rfl⟩ := List.mem_map.mp hd
    have := List.mem_zipIdx_iff_getElem?.mp hp
    exact hb p.2 p.1 this
theorem lc_enw {ts : List T} (g : Nat → T → Option FT) (hm : ms st = .ok [nw ts] st) (hb : ∀ (i : Nat) (x : T), ts[i]? = some x → lcBody t tt te vs (.pure (.tup [.int (i : Nat), x])) st = .ok (g i x) st) (hl : ts.length ≤ lim) :
    mLc (bd ms mEnu) t tt te vs st = .ok (.new (ts.zipIdx.filterMap fun p => g p.2 p.1)) st := by
  have hs : bd ms mEnu st = .ok (.enu (.pure (.lst ts))) st := by
    unfold bd; rw [hm]
    show mEnu [nw ts] st = _
    unfold mEnu
    simp only [fz_nw]
    rfl
  have hi : Sr.items st.s (.enu (.pure (.lst ts))) = some (ts.zipIdx.map fun p => .pure (.tup [.int (p.2 : Nat), p.1])) := by
    show (itm st.s (.pure (.lst ts))).map (numd 0) = _
    rw [itm_t (ts := ts) rfl, Option.map_some, numd_pure]
  rw [lc_pure (g := fun d => match d with | .pure (.tup [.int i, x]) => g i.toNat x | _ => none) hs hi (fun d hd => ?_) (by simpa using hl), filterMap_map']
  · rfl
  · obtain ⟨p, hp, rfl⟩ := List.mem_map.mp hd
    exact hb p.2 p.1 (List.mem_zipIdx_iff_getElem?.mp hp)
/-- what stands for a tree, as a value or as a new list -/
def stands (f : FT) (u : T) : Prop := f = vl u ∨ ∃ ts, u = .lst ts ∧ f = nw ts
theorem stands.fz {f : FT} {u : T} (h : stands f u) : Ob.fz f = .pure u := by
  rcases h with rfl | ⟨ts, rfl, rfl⟩
  · rw [vl, Ob.fz]
  · rw [fz_nw]
theorem lc_zp {f1 f2 : FT} {u1 u2 : T} {xs ys : List T} (g : T → T → Option FT) (hm : ms st = .ok [f1, f2] st) (s1 : stands f1 u1) (s2 : stands f2 u2) (h1 : itT u1 = some xs) (h2 : itT u2 = some ys)
    (hb : ∀ (i : Nat) (x y : T), xs[i]? = some x → ys[i]? = some y → lcBody t tt te vs (.pure (.tup [x, y])) st = .ok (g x y) st) (hl : xs.length ≤ lim) :
    mLc (bd ms mZip) t tt te vs st = .ok (.new ((List.zip xs ys).filterMap fun p => g p.1 p.2)) st := by
  have hs : bd ms mZip st = .ok (.zip (.pure u1) (.pure u2)) st := by
    unfold bd; rw [hm]
    show mZip [f1, f2] st = _
    unfold mZip
    simp only [s1.fz, s2.fz, itm_t h1, itm_t h2]
  have hi : Sr.items st.s (.zip (.pure u1) (.pure u2)) = some ((List.zip xs ys).map fun p => .pure (.tup [p.1, p.2])) := by
    unfold Sr.items
    simp only [itm_t h1, itm_t h2, zipWith_pure]
  rw [lc_pure (g := fun d => match d with | .pure (.tup [x, y]) => g x y | _ => none) hs hi (fun d hd => ?_) (by simp; omega), filterMap_map']
  obtain ⟨p, hp, rfl⟩ := List.mem_map.mp hd
  obtain ⟨i, hi⟩ := List.mem_iff_getElem?.mp hp
  rw [List.getElem?_zip_eq_some] at hi
  exact hb i p.1 p.2 hi.1 hi.2
end
/-! ### all, any, join, tuple, == [] of such -/
theorem purs_fm {α : Type} (g : α → T) (l : List α) : purs (l.map fun x => FT.val (.pure (g x))) = some (l.map g) := by
  have := purs_map (l.map g)
  rw [List.map_map] at this
  exact this
end Ob
/-! # Ob21: list() of a text -/
namespace Ob
open PySem PySem.Spec PyProof.Rows L2

def kLstS (x : V) (H : Hp) (Q : VK) : Prop := ∃ z : Str, x = .str z ∧ z.cps.size ≤ sizeLine ∧ ∀ q, H q = none → Q (.ref q) (upd H q (.lst (z.cps.toList.map fun c => V.str ⟨#[c]⟩)))
theorem rl_listS {X : Cx} (hc : X.calm = true) (pins : List (Addr × Obj)) (s : Shared) (σ : L2.St) (H : Hp) (x : V) (v : Value) (Q : VK) (I : L2.Inv X pins σ H s) (r : L2.RelV x v) (h : kLstS x H Q) :
    wpAny (model X.prog X.w) X.A (call (.type "list") [v]) (L2.EP X pins σ Q) X.xe s := by
  obtain ⟨z, rfl, hz, q⟩ := h
  obtain ⟨t, rfl⟩ := r
  refine call_list_str (I.ok.hd hc) z t (hn := hz) fun h' tk acc c' hk e hi => ?_
  refine ⟨.ref s.heap.objs.size, upd H s.heap.objs.size (.lst (z.cps.toList.map fun c => V.str ⟨#[c]⟩)), I.laid hk (Nat.le_refl _) ⟨by rw [List.length_map, Array.length_toList]; exact hz, acc.toList, c', ?_, by rw [Array.toArray_toList]; exact e⟩, rfl, q _ (I.hok.fresh (Nat.le_refl _))⟩
  refine vals_of_idx _ _ (by rw [List.length_map, Array.length_toList, Array.length_toList]; exact hi.1) fun j u hj => ?_
  obtain ⟨c, t', hc, rfl⟩ := hi.2 j u (by rw [← Array.getElem?_toList]; exact hj)
  exact ⟨.str ⟨#[c]⟩, by simp [hc], ⟨_, rfl⟩⟩
def bListU : List FT → M FT
  | [.val (.pure (.str s))] => rt (.new (s.map fun c => .val (.pure (.str [c]))))
  | fs => bList fs
section
variable {X : Cx} {ex : Ex} {W : WX}
theorem call_listU (hc : X.calm = true) : CallR X (.type "list") (fun xs H Q => (∃ p ys, xs = [.ref p] ∧ (SqL X.K H p ys ∨ SqT X.K H p ys) ∧ ∀ l, H l = none → Q (.ref l) (upd H l (.lst ys))) ∨ r1 kLstS xs H Q) := CallR.or call_list_of (call_r1 (rl_listS hc))
theorem ca_listU : CaS X ex W (fun xs H Q => (∃ p ys, xs = [.ref p] ∧ (SqL X.K H p ys ∨ SqT X.K H p ys) ∧ ∀ l, H l = none → Q (.ref l) (upd H l (.lst ys))) ∨ r1 kLstS xs H Q) bListU := by
  intro F A σ H H0 F0 A0 st vs fs Q s rel r o
  unfold bListU at o
  split at o
  · rename_i x
    obtain ⟨v, ev, r0⟩ := r.isOne
    subst ev
    have r1 := RF.ofVal r0
    cases r1 with
    | pure r1 => cases r1 with
      | str _ z ok =>
        have rr : RFs (gx X ex) H0 F A H (x.map fun c => V.str ⟨#[c]⟩) (x.map fun c => FT.val (.pure (.str [c]))) := by
          have := RFs.ofV (G := gx X ex) (H := H) (H0 := H0) (F := F) (A := A) (signs_rep (F := F) (A := A) (K := (gx X ex).K) x ok)
          rw [List.map_map] at this
          exact this
        refine .inr ⟨⟨x.toArray⟩, rfl, by simpa using z, fun q hq => ?_⟩
        have e := (Out.lay s rel rr (by rw [List.length_map]; exact z) (o.step s)).2 q hq
        simpa using e
  · exact .inl (ca_list F A σ H H0 F0 A0 st vs fs Q s rel r o)
end
end Ob
/-! # Ob22: what the top has left, and the end -/
namespace Ob
open PySem PySem.Spec PyProof.Rows L2

section
variable {w : World} {K : PySem.W.Frag} {h : Heap} {mg : Str → Option Value}
theorem df_of {x : Str} {st : Stmt} {ps : List Str} {f : Addr} {od an : Option Addr} {sl : Array (Option Value)} {oc kV dc pm cd ct : Value} (X : K.In h) (G : h.Ns mainGlobals mg)
    (a : PySem.W.nsIn K mainGlobals x = some (some (.ref f)))
    (l : K.lookup f = some ⟨oc, od, .func (PySem.W.fnOf x x (defArgs st) (defBody st) (defScope st) .none kV dc pm an cd ct), sl⟩)
    (c : PySem.W.codeIn K cd x = true) (k : PySem.W.keepIn K (.ref f) = true)
    (hb : ∀ (kV doc pm : Value) (an : Option Addr) (cdv ct : Value) (us : List Value), us.length = ps.length → bindArgs (PySem.W.fnOf x x (defArgs st) (defBody st) (defScope st) .none kV doc pm an cdv ct) ⟨us, []⟩ = pure (ps.zip us)) :
    ∃ a fd, Df K mg x st ps a fd := ⟨f, _, fun_mk l c k, PySem.W.mg_of X G a, (fun_mk l c k).binds hb⟩
/-- the facts of an own error class that stand in the written part -/
structure EF (K : PySem.W.Frag) (C : Addr) : Prop where
  ex : PySem.W.subIn K (.ref C) (.type "BaseException") = some true
  hd : PySem.W.hasDictIn K C = true
  ty : PySem.W.typeIn K (.ref C) = some (.type "type")
def ErF (K : PySem.W.Frag) (mg : Str → Option Value) (n qual : Str) (st : Stmt) (C : Addr) : Prop := EF K C ∧ ∃ fI fd, Er K mg n qual st C fI fd
theorem er_of {n qual nm q : Str} {st : Stmt} {C f1 N : Addr} {bs bm : List Value} {sn : List Str} {sub : List Value} {ab : Bool} {col : Option Bool} {dd : Option Addr} {m0 m1 m2 m3 m5 : Option Value}
    {od an : Option Addr} {sl : Array (Option Value)} {oc kV dc pm cd ct : Value} (X : K.In h) (G : h.Ns mainGlobals mg)
    (a : PySem.W.nsIn K mainGlobals n = some (some (.ref C)))
    (xL : K.lookup C = some (excClassObj nm q C N bs bm true sn sub ab col dd m0 m1 m2 m3 m5 "ValueError.__new__"))
    (sa : PySem.W.findIn K (.ref C) "__setattr__" = some (some (.builtin "object.__setattr__")))
    (ga : PySem.W.findIn K (.ref C) "__getattribute__" = some (some (.builtin "BaseException.__getattribute__")))
    (gg : PySem.W.findIn K (.ref C) "__getattr__" = some none)
    (nb : PySem.W.findIn K (.ref C) "given" = some none)
    (a1 : PySem.W.findIn K (.ref C) "__init__" = some (some (.ref f1))) (t1 : PySem.W.typeIn K (.ref f1) = some (.type "function"))
    (l1 : K.lookup f1 = some ⟨oc, od, .func (PySem.W.fnOf "__init__" qual (defArgs st) (defBody st) (defScope st) .none kV dc pm an cd ct), sl⟩)
    (c1 : PySem.W.codeIn K cd qual = true) (k1 : PySem.W.keepIn K (.ref f1) = true)
    (kC : PySem.W.keepIn K (.ref C) = true) (eC : PySem.W.subIn K (.ref C) (.type "BaseException") = some true) (tC : PySem.W.typeIn K (.ref C) = some (.type "type"))
    (hC : PySem.W.hasDictIn K C = true) (iC : PySem.W.isClsIn K C = true)
    (cc : PySem.W.findIn K (.ref C) "__class__" = some (some (.builtin "object.__class__")))
    (sp : PySem.W.specialIn K (.builtin "object.__class__") "__get__" = some (some (.builtin "getset_descriptor.__get__")))
    (tk : PySem.W.takesIn K (.builtin "object.__class__") = some true) (mo : PySem.W.mroIn K C (.type "object") = some true)
    (bm' : PySem.HandSPX.refsVE bm = true)
    (hb : ∀ (kV doc pm : Value) (an : Option Addr) (cdv ct : Value) (us : List Value), us.length = 2 → bindArgs (PySem.W.fnOf "__init__" qual (defArgs st) (defBody st) (defScope st) .none kV doc pm an cdv ct) ⟨us, []⟩ = pure ((["self", "given"] : List Str).zip us)) :
    ErF K mg n qual st C :=
  ⟨⟨eC, hC, tC⟩, f1, _, ⟨⟨nm, q, N, bs, bm, sn, sub, ab, col, dd, m0, m1, m2, m3, m5, xL, bm'⟩, sa, eC, tC, kC⟩, a1, t1, PySem.W.mg_of X G a, fun_mk l1 c1 k1, (fun_mk l1 c1 k1).binds hb, ⟨iC, ga, gg, eC, hC, nb, cc, sp, tk, mo⟩⟩
theorem ErF.er {n qual : Str} {st : Stmt} {C : Addr} (e : ErF K mg n qual st C) : ∃ C fI fd, Er K mg n qual st C fI fd := ⟨C, e.2⟩
theorem ErF.g {n qual : Str} {st : Stmt} {C : Addr} (e : ErF K mg n qual st C) : mg n = some (.ref C) := by
  obtain ⟨_, _, _, e⟩ := e
  exact e.g
theorem ErF.exm {n m qual qual' : Str} {st st' : Stmt} {D C : Addr} {b : Bool} (d : ErF K mg n qual st D) (e : ErF K mg m qual' st' C) (s : PySem.W.subIn K (.ref D) (.ref C) = some b) :
    ∀ D C, mg n = some (.ref D) → mg m = some (.ref C) → PySem.W.exmOne K (.ref D) (.ref C) = some b := by
  intro D' C' h1 h2
  have z1 := h1.symm.trans d.g
  have z2 := h2.symm.trans e.g
  cases z1
  cases z2
  exact PySem.W.exm_ref e.1.ex e.1.hd e.1.ty s
/-- a class above own errors -/
theorem kit_of {n m qual : Str} {st : Stmt} {D C : Addr} (X : K.In h) (G : h.Ns mainGlobals mg) (d : ErF K mg n qual st D)
    (a : PySem.W.nsIn K mainGlobals m = some (some (.ref C))) (i : PySem.W.isClsIn K C = true) (t : PySem.W.typeIn K (.ref C) = some (.type "type")) (s : PySem.W.subIn K (.ref D) (.ref C) = some true) :
    ∃ C, mg m = some (.ref C) ∧ ∀ D, mg n = some (.ref D) → PySem.W.kitOne K (.ref D) (.ref C) = some true := by
  refine ⟨C, PySem.W.mg_of X G a, fun D' h1 => ?_⟩
  have z1 := h1.symm.trans d.g
  cases z1
  unfold PySem.W.kitOne
  split
  · rfl
  · have i' : (PySem.W.clsIn K C).isSome = true := i
    have e2 : ((PySem.W.clsIn K C).isSome && PySem.W.typeIn K (.ref C) == some (.type "type")) = true := by rw [i', t] <;> rfl
    show (if ((PySem.W.clsIn K C).isSome && PySem.W.typeIn K (.ref C) == some (.type "type")) = true then PySem.W.subIn K (.ref D) (.ref C) else none) = _
    rw [if_pos e2]
    exact s
theorem kl_nil {P : Params} : PySem.W.KeysLit P [] := trivial
theorem kl_cons {P : Params} {e : DictEntry} {r : List DictEntry} (h : ∃ x t, e.key = .str x t ∧ e.hash = PyData.keyHash P x) (k : PySem.W.KeysLit P r) : PySem.W.KeysLit P (e :: r) := ⟨h, k⟩
/-- a module's table -/
theorem dct_of {x : Str} {q : Addr} {es : Array DictEntry} {n : Nat} {tab : List (List Nat × T)} (X : K.In h) (G : h.Ns mainGlobals mg)
    (a : PySem.W.nsIn K mainGlobals x = some (some (.ref q))) (l : K.lookup q = some ⟨.type "dict", none, .dict es n, #[]⟩) (k : PySem.W.KeysLit w.params es.toList)
    (r : ∀ e ∈ tab, ∃ u v, PySem.W.nsIn K q ⟨e.1.toArray⟩ = some (some u) ∧ RelV v u ∧ ∀ F, RepT K F v e.2) :
    ∃ q, mg x = some (.ref q) ∧ ∀ s t, tab.lookup s = some t → ∃ v, KDct K w q ⟨s.toArray⟩ v ∧ ∀ F, RepT K F v t := by
  refine ⟨q, PySem.W.mg_of X G a, fun s t e => ?_⟩
  have m : (s, t) ∈ tab := by
    induction tab with
    | nil => cases e
    | cons p tl ih =>
      obtain ⟨p1, p2⟩ := p
      rw [List.lookup_cons] at e
      split at e
      · rename_i z
        have z' := beq_iff_eq.mp z
        cases e
        subst z'
        exact List.mem_cons_self
      · exact List.mem_cons_of_mem _ (ih (fun e he => r e (List.mem_cons_of_mem _ he)) e)
  obtain ⟨u, v, h1, h2, h3⟩ := r _ m
  exact ⟨v, ⟨es, n, u, l, k, h1, h2⟩, h3⟩
theorem tb_int {K : PySem.W.Frag} {q : Addr} {s : List Nat} {i : Int} {t : Tok} (e : PySem.W.nsIn K q ⟨s.toArray⟩ = some (some (.int i t))) : ∃ u v, PySem.W.nsIn K q ⟨s.toArray⟩ = some (some u) ∧ RelV v u ∧ ∀ F, RepT K F v (.int i) := ⟨_, .int i, e, ⟨_, rfl⟩, fun _ => .int i⟩
theorem df_binds1 {x p : Str} {st : Stmt} {f : Addr} {fd : FuncData} (F : Fun K x x st f fd)
    (hb : ∀ (kV doc pm : Value) (an : Option Addr) (cdv ct : Value) (u : Value), bindArgs (PySem.W.fnOf x x (defArgs st) (defBody st) (defScope st) .none kV doc pm an cdv ct) ⟨[u], []⟩ = pure [(p, u)]) :
    ∀ (s : Shared) (u : Value), BindsTo s fd ⟨[u], []⟩ [(p, u)] := by
  obtain ⟨oc, od, kV, doc, pm, an, cdv, ct, osl, rfl, lk, hcd⟩ := F.ex
  exact fun s u => .of_eq (hb kV doc pm an cdv ct u)
theorem okD_fn {P : Program} {base : Heap} {x : Str} {st : Stmt} {ps : List Str} {f : Addr} {fd : FuncData} {k n : Nat} {fm : FM} (d : Df K mg x st ps f fd) (o : OkD P w K mg base x st ps k n fm) : FnOk P w K mg base (L2.CX P w) k f fd ps (spD K mg n fm) := by
  obtain ⟨f', fd', d', F⟩ := o
  have e := d.g.symm.trans d'.g
  cases e
  obtain ⟨oc, od, kV, doc, pm, an, cdv, ct, osl, e1, lk, hcd⟩ := d.fn.ex
  obtain ⟨oc', od', kV', doc', pm', an', cdv', ct', osl', e1', lk', hcd'⟩ := d'.fn.ex
  have e2 := lk.symm.trans lk'
  have e3 : fd = fd' := by
    injection e2 with e2
    injection e2 with _ _ e3 _
    injection e3
  rw [e3]
  exact F
/-! ### the end -/
/-- law(script) answers True -/
def spLaw (K : PySem.W.Frag) : Sp := fun vs H Q _ => ∃ (a : Addr) (ns : List Int), vs = [.ref a] ∧ ns.length ≤ 63 ∧ SqL K H a (ns.map V.int) ∧ ∀ H', Q (.bl true) H'
theorem cx_false {P : Program} {w : World} {H : Hp} {s s' : Shared} {e : Value} (h : L2.CX P w [] H s (fun _ _ _ => False) e s') : False := by
  obtain ⟨_, _, _, _, _, _, _, _, _, _, _, _, z⟩ := h
  exact z
theorem RepTs_ints {K : PySem.W.Frag} {F : Hp} : ∀ ns : List Int, RepTs K F (ns.map V.int) (ns.map T.int)
  | [] => .nil
  | n :: r => .cons (.int n) (RepTs_ints r)
theorem law_imp {fm : FM} (hl : ∀ ns : List Int, ns.length ≤ 63 → fm [.pure (.xl (ns.map .int))] [] = .ok (vl (.bl true)) []) : ∀ vs H Q E, spLaw K vs H Q E → spD K mg 1 fm vs H Q E := by
  rintro vs H Q E ⟨a, ns, rfl, hn, hs, q⟩
  refine ⟨H, [], [], [.pure (.xl (ns.map .int))], ?_, ?_, rfl, ?_⟩
  · exact ⟨fun _ _ e => e, List.nodup_nil, rfl, rfl, (fun a h => by cases h), (fun k a c h => by simp at h), (fun i d h => by simp at h), (fun i a dd f h => by cases h)⟩
  · exact .cons (.pure (.xl hs (Nat.le_trans (by rw [List.length_map]; exact hn) (by decide)) (RepTs_ints ns))) .nil
  · rw [hl ns hn]
    intro v F' A' H' _ _ rf
    obtain ⟨P, rp, _, _⟩ := rf
    cases rp with
    | val h => cases h with
      | pure h => cases h; exact q _
end
end Ob
namespace Ob.K00
open PySem PySem.Spec PyProof.Rows L2 Ob
/-! the text -/
def topS (i : Nat) : Stmt := PySem.Challenge.pw_orientbench_k00_rows.main.body.getD i (.Pass ⟨0, 0, 0, 0⟩)
abbrev i_InvalidCount : Stmt := inClass (topS 2) 0
theorem sI_InvalidCount : FnScope ["self", "given"] ["self", "given"] (defScope i_InvalidCount) := ⟨rfl, rfl, rfl, by decide +kernel, rfl, by decide +kernel, by decide +kernel⟩
abbrev i_InvalidRow : Stmt := inClass (topS 3) 0
theorem sI_InvalidRow : FnScope ["self", "given"] ["self", "given"] (defScope i_InvalidRow) := ⟨rfl, rfl, rfl, by decide +kernel, rfl, by decide +kernel, by decide +kernel⟩
abbrev i_InvalidSet : Stmt := inClass (topS 4) 0
theorem sI_InvalidSet : FnScope ["self", "given"] ["self", "given"] (defScope i_InvalidSet) := ⟨rfl, rfl, rfl, by decide +kernel, rfl, by decide +kernel, by decide +kernel⟩
def tab_NUMBERS : List (List Nat × T) := [([43], .int 1), ([45], .int (-1)), ([48], .int 0)]
abbrev s_is_integer : Stmt := topS 9
theorem sc_is_integer : FnScope ["value"] ["value"] (defScope s_is_integer) := ⟨rfl, rfl, rfl, by decide +kernel, rfl, by decide +kernel, by decide +kernel⟩
abbrev s_is_between : Stmt := topS 10
theorem sc_is_between : FnScope ["value", "least", "most"] ["value", "least", "most"] (defScope s_is_between) := ⟨rfl, rfl, rfl, by decide +kernel, rfl, by decide +kernel, by decide +kernel⟩
abbrev s_is_rising : Stmt := topS 11
theorem sc_is_rising : FnScope ["items", "at"] ["items"] (defScope s_is_rising) := ⟨rfl, rfl, rfl, by decide +kernel, rfl, by decide +kernel, by decide +kernel⟩
abbrev s_are_between : Stmt := topS 12
theorem sc_are_between : FnScope ["values", "least", "most", "value"] ["values", "least", "most"] (defScope s_are_between) := ⟨rfl, rfl, rfl, by decide +kernel, rfl, by decide +kernel, by decide +kernel⟩
abbrev s_is_elements : Stmt := topS 13
theorem sc_is_elements : FnScope ["count", "value"] ["count", "value"] (defScope s_is_elements) := ⟨rfl, rfl, rfl, by decide +kernel, rfl, by decide +kernel, by decide +kernel⟩
abbrev s_is_signs : Stmt := topS 14
theorem sc_is_signs : FnScope ["value", "many", "sign"] ["value", "many"] (defScope s_is_signs) := ⟨rfl, rfl, rfl, by decide +kernel, rfl, by decide +kernel, by decide +kernel⟩
abbrev s_is_row_of : Stmt := topS 15
theorem sc_is_row_of : FnScope ["count", "value"] ["count", "value"] (defScope s_is_row_of) := ⟨rfl, rfl, rfl, by decide +kernel, rfl, by decide +kernel, by decide +kernel⟩
abbrev s_sign_of : Stmt := topS 16
theorem sc_sign_of : FnScope ["number"] ["number"] (defScope s_sign_of) := ⟨rfl, rfl, rfl, by decide +kernel, rfl, by decide +kernel, by decide +kernel⟩
abbrev s_row_of_numbers : Stmt := topS 17
theorem sc_row_of_numbers : FnScope ["numbers", "number"] ["numbers"] (defScope s_row_of_numbers) := ⟨rfl, rfl, rfl, by decide +kernel, rfl, by decide +kernel, by decide +kernel⟩
abbrev s_numbers_of : Stmt := topS 18
theorem sc_numbers_of : FnScope ["row", "sign"] ["row"] (defScope s_numbers_of) := ⟨rfl, rfl, rfl, by decide +kernel, rfl, by decide +kernel, by decide +kernel⟩
abbrev s_turned_signs : Stmt := topS 19
theorem sc_turned_signs : FnScope ["row", "number"] ["row"] (defScope s_turned_signs) := ⟨rfl, rfl, rfl, by decide +kernel, rfl, by decide +kernel, by decide +kernel⟩
abbrev s_is_row : Stmt := topS 21
theorem sc_is_row : FnScope ["value"] ["value"] (defScope s_is_row) := ⟨rfl, rfl, rfl, by decide +kernel, rfl, by decide +kernel, by decide +kernel⟩
abbrev s_check_some_row : Stmt := topS 22
theorem sc_check_some_row : FnScope ["row"] ["row"] (defScope s_check_some_row) := ⟨rfl, rfl, rfl, by decide +kernel, rfl, by decide +kernel, by decide +kernel⟩
abbrev s_check_two : Stmt := topS 23
theorem sc_check_two : FnScope ["one", "other"] ["one", "other"] (defScope s_check_two) := ⟨rfl, rfl, rfl, by decide +kernel, rfl, by decide +kernel, by decide +kernel⟩
abbrev s_places_with : Stmt := topS 24
theorem sc_places_with : FnScope ["row", "signs", "element", "sign"] ["row", "signs"] (defScope s_places_with) := ⟨rfl, rfl, rfl, by decide +kernel, rfl, by decide +kernel, by decide +kernel⟩
abbrev s_plus_set : Stmt := topS 25
theorem sc_plus_set : FnScope ["row"] ["row"] (defScope s_plus_set) := ⟨rfl, rfl, rfl, by decide +kernel, rfl, by decide +kernel, by decide +kernel⟩
abbrev s_minus_set : Stmt := topS 26
theorem sc_minus_set : FnScope ["row"] ["row"] (defScope s_minus_set) := ⟨rfl, rfl, rfl, by decide +kernel, rfl, by decide +kernel, by decide +kernel⟩
abbrev s_zero_set : Stmt := topS 27
theorem sc_zero_set : FnScope ["row"] ["row"] (defScope s_zero_set) := ⟨rfl, rfl, rfl, by decide +kernel, rfl, by decide +kernel, by decide +kernel⟩
abbrev s_support : Stmt := topS 28
theorem sc_support : FnScope ["row"] ["row"] (defScope s_support) := ⟨rfl, rfl, rfl, by decide +kernel, rfl, by decide +kernel, by decide +kernel⟩
abbrev s_opposite : Stmt := topS 29
theorem sc_opposite : FnScope ["row"] ["row"] (defScope s_opposite) := ⟨rfl, rfl, rfl, by decide +kernel, rfl, by decide +kernel, by decide +kernel⟩
abbrev s_row_of : Stmt := topS 30
theorem sc_row_of : FnScope ["count", "plus", "minus", "element"] ["count", "plus", "minus"] (defScope s_row_of) := ⟨rfl, rfl, rfl, by decide +kernel, rfl, by decide +kernel, by decide +kernel⟩
abbrev s_check_members : Stmt := topS 31
theorem sc_check_members : FnScope ["row", "members"] ["row", "members"] (defScope s_check_members) := ⟨rfl, rfl, rfl, by decide +kernel, rfl, by decide +kernel, by decide +kernel⟩
abbrev s_turned_at : Stmt := topS 32
theorem sc_turned_at : FnScope ["row", "members", "element", "n"] ["row", "members"] (defScope s_turned_at) := ⟨rfl, rfl, rfl, by decide +kernel, rfl, by decide +kernel, by decide +kernel⟩
abbrev s_turned_row : Stmt := topS 33
theorem sc_turned_row : FnScope ["row", "members"] ["row", "members"] (defScope s_turned_row) := ⟨rfl, rfl, rfl, by decide +kernel, rfl, by decide +kernel, by decide +kernel⟩
abbrev s_part_of : Stmt := topS 34
theorem sc_part_of : FnScope ["row", "members", "element"] ["row", "members"] (defScope s_part_of) := ⟨rfl, rfl, rfl, by decide +kernel, rfl, by decide +kernel, by decide +kernel⟩
abbrev s_composition : Stmt := topS 35
theorem sc_composition : FnScope ["one", "other", "sign", "more"] ["one", "other"] (defScope s_composition) := ⟨rfl, rfl, rfl, by decide +kernel, rfl, by decide +kernel, by decide +kernel⟩
abbrev s_composed : Stmt := topS 36
theorem sc_composed : FnScope ["one", "other"] ["one", "other"] (defScope s_composed) := ⟨rfl, rfl, rfl, by decide +kernel, rfl, by decide +kernel, by decide +kernel⟩
abbrev s_products : Stmt := topS 37
theorem sc_products : FnScope ["one", "other", "first", "second"] ["one", "other"] (defScope s_products) := ⟨rfl, rfl, rfl, by decide +kernel, rfl, by decide +kernel, by decide +kernel⟩
abbrev s_product_row : Stmt := topS 38
theorem sc_product_row : FnScope ["one", "other"] ["one", "other"] (defScope s_product_row) := ⟨rfl, rfl, rfl, by decide +kernel, rfl, by decide +kernel, by decide +kernel⟩
abbrev s_parted_of : Stmt := topS 39
theorem sc_parted_of : FnScope ["one", "other", "element", "number"] ["one", "other"] (defScope s_parted_of) := ⟨rfl, rfl, rfl, by decide +kernel, rfl, by decide +kernel, by decide +kernel⟩
abbrev s_parted_set : Stmt := topS 40
theorem sc_parted_set : FnScope ["one", "other"] ["one", "other"] (defScope s_parted_set) := ⟨rfl, rfl, rfl, by decide +kernel, rfl, by decide +kernel, by decide +kernel⟩
abbrev s_fit_together : Stmt := topS 41
theorem sc_fit_together : FnScope ["one", "other", "found"] ["one", "other"] (defScope s_fit_together) := ⟨rfl, rfl, rfl, by decide +kernel, rfl, by decide +kernel, by decide +kernel⟩
abbrev s_are_orthogonal : Stmt := topS 42
theorem sc_are_orthogonal : FnScope ["one", "other"] ["one", "other"] (defScope s_are_orthogonal) := ⟨rfl, rfl, rfl, by decide +kernel, rfl, by decide +kernel, by decide +kernel⟩
abbrev s_is_under : Stmt := topS 43
theorem sc_is_under : FnScope ["one", "other", "sign", "more"] ["one", "other"] (defScope s_is_under) := ⟨rfl, rfl, rfl, by decide +kernel, rfl, by decide +kernel, by decide +kernel⟩
abbrev s_lies_below : Stmt := topS 44
theorem sc_lies_below : FnScope ["one", "other"] ["one", "other"] (defScope s_lies_below) := ⟨rfl, rfl, rfl, by decide +kernel, rfl, by decide +kernel, by decide +kernel⟩
abbrev s_meets_of : Stmt := topS 45
theorem sc_meets_of : FnScope ["one", "other", "sign", "more"] ["one", "other"] (defScope s_meets_of) := ⟨rfl, rfl, rfl, by decide +kernel, rfl, by decide +kernel, by decide +kernel⟩
abbrev s__law_cell : Stmt := topS 47
theorem sc__law_cell : FnScope ["script", "k"] ["script", "k"] (defScope s__law_cell) := ⟨rfl, rfl, rfl, by decide +kernel, rfl, by decide +kernel, by decide +kernel⟩
abbrev s__law_box : Stmt := topS 48
theorem sc__law_box : FnScope ["great"] ["great"] (defScope s__law_box) := ⟨rfl, rfl, rfl, by decide +kernel, rfl, by decide +kernel, by decide +kernel⟩
abbrev s__law_take : Stmt := topS 49
theorem sc__law_take : FnScope ["box", "many", "digit", "mixed"] ["box", "many"] (defScope s__law_take) := ⟨rfl, rfl, rfl, by decide +kernel, rfl, by decide +kernel, by decide +kernel⟩
abbrev s__law_same : Stmt := topS 50
theorem sc__law_same : FnScope ["told", "due", "k", "key"] ["told", "due"] (defScope s__law_same) := ⟨rfl, rfl, rfl, by decide +kernel, rfl, by decide +kernel, by decide +kernel⟩
abbrev s__law_copy : Stmt := topS 51
theorem sc__law_copy : FnScope ["value"] ["value"] (defScope s__law_copy) := ⟨rfl, rfl, rfl, by decide +kernel, rfl, by decide +kernel, by decide +kernel⟩
abbrev s__law_blamed : Stmt := topS 52
theorem sc__law_blamed : FnScope ["given", "value"] ["given", "value"] (defScope s__law_blamed) := ⟨rfl, rfl, rfl, by decide +kernel, rfl, by decide +kernel, by decide +kernel⟩
abbrev s__law_row : Stmt := topS 53
theorem sc__law_row : FnScope ["box", "count", "x"] ["box", "count"] (defScope s__law_row) := ⟨rfl, rfl, rfl, by decide +kernel, rfl, by decide +kernel, by decide +kernel⟩
abbrev s__law_product : Stmt := topS 54
theorem sc__law_product : FnScope ["one", "other", "x", "y"] ["one", "other"] (defScope s__law_product) := ⟨rfl, rfl, rfl, by decide +kernel, rfl, by decide +kernel, by decide +kernel⟩
abbrev s__law_drawn : Stmt := topS 55
theorem sc__law_drawn : FnScope ["box", "count", "way", "k"] ["box"] (defScope s__law_drawn) := ⟨rfl, rfl, rfl, by decide +kernel, rfl, by decide +kernel, by decide +kernel⟩
abbrev s__law_second : Stmt := topS 56
theorem sc__law_second : FnScope ["box", "row", "way", "at", "sign"] ["box", "row"] (defScope s__law_second) := ⟨rfl, rfl, rfl, by decide +kernel, rfl, by decide +kernel, by decide +kernel⟩
abbrev s__law_at : Stmt := topS 57
theorem sc__law_at : FnScope ["row", "signs", "k"] ["row", "signs"] (defScope s__law_at) := ⟨rfl, rfl, rfl, by decide +kernel, rfl, by decide +kernel, by decide +kernel⟩
abbrev s__law_is_row : Stmt := topS 58
theorem sc__law_is_row : FnScope ["value", "sign"] ["value"] (defScope s__law_is_row) := ⟨rfl, rfl, rfl, by decide +kernel, rfl, by decide +kernel, by decide +kernel⟩
abbrev s__law_odd_rows : Stmt := topS 59
theorem sc__law_odd_rows : FnScope ["row"] ["row"] (defScope s__law_odd_rows) := ⟨rfl, rfl, rfl, by decide +kernel, rfl, by decide +kernel, by decide +kernel⟩
abbrev s__law_one_right : Stmt := topS 60
theorem sc__law_one_right : FnScope ["box", "row", "by_name", "due", "told", "count", "made", "members", "turned", "part", "sign", "k"] ["box", "row", "by_name"] (defScope s__law_one_right) := ⟨rfl, rfl, rfl, by decide +kernel, rfl, by decide +kernel, by decide +kernel⟩
abbrev s__law_two_right : Stmt := topS 61
theorem sc__law_two_right : FnScope ["one", "other", "by_name", "products_v", "due", "told", "x", "y", "k"] ["one", "other", "by_name"] (defScope s__law_two_right) := ⟨rfl, rfl, rfl, by decide +kernel, rfl, by decide +kernel, by decide +kernel⟩
abbrev s__law_call : Stmt := topS 62
theorem sc__law_call : FnScope ["kind", "first", "second", "third"] ["kind", "first", "second", "third"] (defScope s__law_call) := ⟨rfl, rfl, rfl, by decide +kernel, rfl, by decide +kernel, by decide +kernel⟩
abbrev s__law_asked : Stmt := topS 63
theorem sc__law_asked : FnScope ["kind", "first", "second", "third", "e"] ["kind", "first", "second", "third"] (defScope s__law_asked) := ⟨rfl, rfl, rfl, by decide +kernel, rfl, by decide +kernel, by decide +kernel⟩
abbrev s__law_refused_right : Stmt := topS 64
theorem sc__law_refused_right : FnScope ["box", "row", "bad", "count", "asks", "kind", "other", "sets", "odd", "counts", "first", "second", "third", "word", "at", "given", "told", "value"] ["box", "row"] (defScope s__law_refused_right) := ⟨rfl, rfl, rfl, by decide +kernel, rfl, by decide +kernel, by decide +kernel⟩
abbrev s_law : Stmt := topS 65
theorem sc_law : FnScope ["script", "k", "box", "by_name", "row", "turn", "other", "value", "due"] ["script"] (defScope s_law) := ⟨rfl, rfl, rfl, by decide +kernel, rfl, by decide +kernel, by decide +kernel⟩
/-! the mirrors -/
def m_is_integer : M Fl :=
  (bd (mAnd (mIsi .int (mv 0)) (mNot (mIsi .bl (mv 0)))) fun f => rt (.rt f))
def f_is_integer : FM := fnM 1 m_is_integer
def m_is_between : M Fl :=
  (bd (mAnd (mCall 1 f_is_integer (aCons (mv 0) aNil)) (m3 oLeI oLeI (mv 1) (mv 0) (mv 2))) fun f => rt (.rt f))
def f_is_between : FM := fnM 3 m_is_between
def c_is_rising_0 : M FT := mLc (bd (aCons (m2 oSub (mCa bLenU (aCons (mv 0) aNil)) (rt (vl (.int 1)))) aNil) mRng1) (.nm 1) (rt true) (m2 oLtI (m2 oIx (mv 0) (mv 1)) (m2 oIx (mv 0) (m2 oAdd (mv 1) (rt (vl (.int 1)))))) [1]
def m_is_rising : M Fl :=
  (bd (mCa (bAll false) (aCons c_is_rising_0 aNil)) fun f => rt (.rt f))
def f_is_rising : FM := fnM 2 m_is_rising
def c_are_between_0 : M FT := mLc (bd (mv 0) mOne) (.nm 3) (rt true) (mCall 3 f_is_between (aCons (mv 3) (aCons (mv 1) (aCons (mv 2) aNil)))) [3]
def m_are_between : M Fl :=
  (bd (mCa (bAll false) (aCons c_are_between_0 aNil)) fun f => rt (.rt f))
def f_are_between : FM := fnM 4 m_are_between
def m_is_elements : M Fl :=
  (bd (mAnd (mIsi .tup (mv 1)) (mAnd (mCall 3 f_are_between (aCons (mv 1) (aCons (rt (vl (.int 0))) (aCons (m2 oSub (mv 0) (rt (vl (.int 1)))) aNil)))) (mCall 1 f_is_rising (aCons (mv 1) aNil)))) fun f => rt (.rt f))
def f_is_elements : FM := fnM 2 m_is_elements
def c_is_signs_0 : M FT := mLc (bd (mv 0) mOne) (.nm 2) (rt true) (m2 (oIn false) (mv 2) (rt (vl (.str [43, 45, 48])))) [2]
def m_is_signs : M Fl :=
  (bd (mAnd (mIsi .str (mv 0)) (mAnd (m2 oEq (mCa bLenU (aCons (mv 0) aNil)) (mv 1)) (mCa (bAll false) (aCons c_is_signs_0 aNil)))) fun f => rt (.rt f))
def f_is_signs : FM := fnM 3 m_is_signs
def m_is_row_of : M Fl :=
  (bd (mCall 2 f_is_signs (aCons (mv 1) (aCons (mv 0) aNil))) fun f => rt (.rt f))
def f_is_row_of : FM := fnM 2 m_is_row_of
def m_sign_of : M Fl :=
  (sq (bd (bd (m2 oEq (mv 0) (rt (vl (.int 0)))) tb) fun k => if k = true then (bd (rt (vl (.str [48]))) fun f => rt (.rt f)) else sNext)
  (bd (mIf (bd (m2 oGtI (mv 0) (rt (vl (.int 0)))) tb) (rt (vl (.str [43]))) (rt (vl (.str [45])))) fun f => rt (.rt f)))
def f_sign_of : FM := fnM 1 m_sign_of
def c_row_of_numbers_0 : M FT := mLc (bd (mv 0) mOne) (.nm 1) (rt true) (mCall 1 f_sign_of (aCons (mv 1) aNil)) [1]
def m_row_of_numbers : M Fl :=
  (bd (mMs oJoin (rt (vl (.str []))) (aCons c_row_of_numbers_0 aNil)) fun f => rt (.rt f))
def f_row_of_numbers : FM := fnM 2 m_row_of_numbers
def c_numbers_of_0 : M FT := mLc (bd (mv 0) mOne) (.nm 1) (rt true) (m1 (kGet tab_NUMBERS) (mv 1)) [1]
def m_numbers_of : M Fl :=
  (bd c_numbers_of_0 fun f => rt (.rt f))
def f_numbers_of : FM := fnM 2 m_numbers_of
def c_turned_signs_0 : M FT := mLc (bd (mCall 1 f_numbers_of (aCons (mv 0) aNil)) mOne) (.nm 1) (rt true) (m1 oNeg (mv 1)) [1]
def m_turned_signs : M Fl :=
  (bd (mCall 1 f_row_of_numbers (aCons c_turned_signs_0 aNil)) fun f => rt (.rt f))
def f_turned_signs : FM := fnM 2 m_turned_signs
def m_is_row : M Fl :=
  (bd (mAnd (mIsi .str (mv 0)) (mAnd (m3 oLeI oLeI (rt (vl (.int 1))) (mCa bLenU (aCons (mv 0) aNil)) (rt (vl (.int 8)))) (mCall 2 f_is_row_of (aCons (mCa bLenU (aCons (mv 0) aNil)) (aCons (mv 0) aNil))))) fun f => rt (.rt f))
def f_is_row : FM := fnM 1 m_is_row
def m_check_some_row : M Fl :=
  (bd (tNotM (bd (mCall 1 f_is_row (aCons (mv 0) aNil)) tru)) fun k => if k = true then (mRaise "InvalidRow" "given" (aCons (mv 0) aNil)) else sNext)
def f_check_some_row : FM := fnM 1 m_check_some_row
def m_check_two : M Fl :=
  (sq (bd (mCall 1 f_check_some_row (aCons (mv 0) aNil)) fun _ => sNext)
  (bd (tNotM (bd (mCall 2 f_is_row_of (aCons (mCa bLenU (aCons (mv 0) aNil)) (aCons (mv 1) aNil))) tru)) fun k => if k = true then (mRaise "InvalidRow" "given" (aCons (mv 1) aNil)) else sNext))
def f_check_two : FM := fnM 2 m_check_two
def c_places_with_0 : M FT := mLc (bd (aCons (mv 0) aNil) mEnu) (.tup [2, 3]) (bd (m2 (oIn false) (mv 3) (mv 1)) tb) (mv 2) [2, 3]
def m_places_with : M Fl :=
  (bd (mCa bTup (aCons c_places_with_0 aNil)) fun f => rt (.rt f))
def f_places_with : FM := fnM 4 m_places_with
def m_plus_set : M Fl :=
  (sq (bd (mCall 1 f_check_some_row (aCons (mv 0) aNil)) fun _ => sNext)
  (bd (mCall 2 f_places_with (aCons (mv 0) (aCons (rt (vl (.str [43]))) aNil))) fun f => rt (.rt f)))
def f_plus_set : FM := fnM 1 m_plus_set
def m_minus_set : M Fl :=
  (sq (bd (mCall 1 f_check_some_row (aCons (mv 0) aNil)) fun _ => sNext)
  (bd (mCall 2 f_places_with (aCons (mv 0) (aCons (rt (vl (.str [45]))) aNil))) fun f => rt (.rt f)))
def f_minus_set : FM := fnM 1 m_minus_set
def m_zero_set : M Fl :=
  (sq (bd (mCall 1 f_check_some_row (aCons (mv 0) aNil)) fun _ => sNext)
  (bd (mCall 2 f_places_with (aCons (mv 0) (aCons (rt (vl (.str [48]))) aNil))) fun f => rt (.rt f)))
def f_zero_set : FM := fnM 1 m_zero_set
def m_support : M Fl :=
  (sq (bd (mCall 1 f_check_some_row (aCons (mv 0) aNil)) fun _ => sNext)
  (bd (mCall 2 f_places_with (aCons (mv 0) (aCons (rt (vl (.str [43, 45]))) aNil))) fun f => rt (.rt f)))
def f_support : FM := fnM 1 m_support
def m_opposite : M Fl :=
  (sq (bd (mCall 1 f_check_some_row (aCons (mv 0) aNil)) fun _ => sNext)
  (bd (mCall 1 f_turned_signs (aCons (mv 0) aNil)) fun f => rt (.rt f)))
def f_opposite : FM := fnM 1 m_opposite
def c_row_of_0 : M FT := mLc (bd (mv 2) mOne) (.nm 3) (rt true) (m2 (oIn false) (mv 3) (mv 1)) [3]
def c_row_of_1 : M FT := mLc (bd (aCons (mv 0) aNil) mRng1) (.nm 3) (rt true) (m2 oSub (mCa bInt (aCons (m2 (oIn false) (mv 3) (mv 1)) aNil)) (mCa bInt (aCons (m2 (oIn false) (mv 3) (mv 2)) aNil))) [3]
def m_row_of : M Fl :=
  (sq (bd (tNotM (bd (mCall 3 f_is_between (aCons (mv 0) (aCons (rt (vl (.int 1))) (aCons (rt (vl (.int 8))) aNil)))) tru)) fun k => if k = true then (mRaise "InvalidCount" "given" (aCons (mv 0) aNil)) else sNext)
  (sq (bd (tNotM (bd (mCall 2 f_is_elements (aCons (mv 0) (aCons (mv 1) aNil))) tru)) fun k => if k = true then (mRaise "InvalidSet" "given" (aCons (mv 1) aNil)) else sNext)
  (sq (bd (tOrM (tNotM (bd (mCall 2 f_is_elements (aCons (mv 0) (aCons (mv 2) aNil))) tru)) (bd (mCa (bAll true) (aCons c_row_of_0 aNil)) tru)) fun k => if k = true then (mRaise "InvalidSet" "given" (aCons (mv 2) aNil)) else sNext)
  (bd (mCall 1 f_row_of_numbers (aCons c_row_of_1 aNil)) fun f => rt (.rt f)))))
def f_row_of : FM := fnM 4 m_row_of
def m_check_members : M Fl :=
  (sq (bd (mCall 1 f_check_some_row (aCons (mv 0) aNil)) fun _ => sNext)
  (bd (tNotM (bd (mCall 2 f_is_elements (aCons (mCa bLenU (aCons (mv 0) aNil)) (aCons (mv 1) aNil))) tru)) fun k => if k = true then (mRaise "InvalidSet" "given" (aCons (mv 1) aNil)) else sNext))
def f_check_members : FM := fnM 2 m_check_members
def c_turned_at_0 : M FT := mLc (bd (aCons (mCall 1 f_numbers_of (aCons (mv 0) aNil)) aNil) mEnu) (.tup [2, 3]) (rt true) (mIf (bd (m2 (oIn false) (mv 2) (mv 1)) tb) (m1 oNeg (mv 3)) (mv 3)) [2, 3]
def m_turned_at : M Fl :=
  (bd (mCall 1 f_row_of_numbers (aCons c_turned_at_0 aNil)) fun f => rt (.rt f))
def f_turned_at : FM := fnM 4 m_turned_at
def m_turned_row : M Fl :=
  (sq (bd (mCall 2 f_check_members (aCons (mv 0) (aCons (mv 1) aNil))) fun _ => sNext)
  (bd (mCall 2 f_turned_at (aCons (mv 0) (aCons (mv 1) aNil))) fun f => rt (.rt f)))
def f_turned_row : FM := fnM 2 m_turned_row
def c_part_of_0 : M FT := mLc (bd (mv 1) mOne) (.nm 2) (rt true) (m2 oIx (mv 0) (mv 2)) [2]
def m_part_of : M Fl :=
  (sq (bd (mCall 2 f_check_members (aCons (mv 0) (aCons (mv 1) aNil))) fun _ => sNext)
  (bd (mMs oJoin (rt (vl (.str []))) (aCons c_part_of_0 aNil)) fun f => rt (.rt f)))
def f_part_of : FM := fnM 3 m_part_of
def c_composition_0 : M FT := mLc (bd (aCons (mv 0) (aCons (mv 1) aNil)) mZip) (.tup [2, 3]) (rt true) (mIf (bd (m2 oNe (mv 2) (rt (vl (.str [48])))) tb) (mv 2) (mv 3)) [2, 3]
def m_composition : M Fl :=
  (bd (mMs oJoin (rt (vl (.str []))) (aCons c_composition_0 aNil)) fun f => rt (.rt f))
def f_composition : FM := fnM 4 m_composition
def m_composed : M Fl :=
  (sq (bd (mCall 2 f_check_two (aCons (mv 0) (aCons (mv 1) aNil))) fun _ => sNext)
  (bd (mCall 2 f_composition (aCons (mv 0) (aCons (mv 1) aNil))) fun f => rt (.rt f)))
def f_composed : FM := fnM 2 m_composed
def c_products_0 : M FT := mLc (bd (aCons (mCall 1 f_numbers_of (aCons (mv 0) aNil)) (aCons (mCall 1 f_numbers_of (aCons (mv 1) aNil)) aNil)) mZip) (.tup [2, 3]) (rt true) (m2 oMul (mv 2) (mv 3)) [2, 3]
def m_products : M Fl :=
  (bd c_products_0 fun f => rt (.rt f))
def f_products : FM := fnM 4 m_products
def m_product_row : M Fl :=
  (sq (bd (mCall 2 f_check_two (aCons (mv 0) (aCons (mv 1) aNil))) fun _ => sNext)
  (bd (mCall 1 f_row_of_numbers (aCons (mCall 2 f_products (aCons (mv 0) (aCons (mv 1) aNil))) aNil)) fun f => rt (.rt f)))
def f_product_row : FM := fnM 2 m_product_row
def c_parted_of_0 : M FT := mLc (bd (aCons (mCall 2 f_products (aCons (mv 0) (aCons (mv 1) aNil))) aNil) mEnu) (.tup [2, 3]) (bd (m2 oLtI (mv 3) (rt (vl (.int 0)))) tb) (mv 2) [2, 3]
def m_parted_of : M Fl :=
  (bd (mCa bTup (aCons c_parted_of_0 aNil)) fun f => rt (.rt f))
def f_parted_of : FM := fnM 4 m_parted_of
def m_parted_set : M Fl :=
  (sq (bd (mCall 2 f_check_two (aCons (mv 0) (aCons (mv 1) aNil))) fun _ => sNext)
  (bd (mCall 2 f_parted_of (aCons (mv 0) (aCons (mv 1) aNil))) fun f => rt (.rt f)))
def f_parted_set : FM := fnM 2 m_parted_set
def m_fit_together : M Fl :=
  (sq (mSet 0 2 (mCall 2 f_products (aCons (mv 0) (aCons (mv 1) aNil))))
  (bd (m2 oEq (m2 (oIn false) (rt (vl (.int 1))) (mv 2)) (m2 (oIn false) (m1 oNeg (rt (vl (.int 1)))) (mv 2))) fun f => rt (.rt f)))
def f_fit_together : FM := fnM 3 m_fit_together
def m_are_orthogonal : M Fl :=
  (sq (bd (mCall 2 f_check_two (aCons (mv 0) (aCons (mv 1) aNil))) fun _ => sNext)
  (bd (mCall 2 f_fit_together (aCons (mv 0) (aCons (mv 1) aNil))) fun f => rt (.rt f)))
def f_are_orthogonal : FM := fnM 2 m_are_orthogonal
def c_is_under_0 : M FT := mLc (bd (aCons (mv 0) (aCons (mv 1) aNil)) mZip) (.tup [2, 3]) (rt true) (m2 (oIn false) (mv 2) (mTup (aCons (rt (vl (.str [48]))) (aCons (mv 3) aNil)))) [2, 3]
def m_is_under : M Fl :=
  (bd (mCa (bAll false) (aCons c_is_under_0 aNil)) fun f => rt (.rt f))
def f_is_under : FM := fnM 4 m_is_under
def m_lies_below : M Fl :=
  (sq (bd (mCall 2 f_check_two (aCons (mv 0) (aCons (mv 1) aNil))) fun _ => sNext)
  (bd (mCall 2 f_is_under (aCons (mv 0) (aCons (mv 1) aNil))) fun f => rt (.rt f)))
def f_lies_below : FM := fnM 2 m_lies_below
def c_meets_of_0 : M FT := mLc (bd (aCons (mv 0) (aCons (mv 1) aNil)) mZip) (.tup [2, 3]) (rt true) (mIf (bd (m2 oEq (mv 2) (mv 3)) tb) (mv 2) (rt (vl (.str [48])))) [2, 3]
def m_meets_of : M Fl :=
  (sq (bd (mCall 2 f_check_two (aCons (mv 0) (aCons (mv 1) aNil))) fun _ => sNext)
  (bd (mMs oJoin (rt (vl (.str []))) (aCons c_meets_of_0 aNil)) fun f => rt (.rt f)))
def f_meets_of : FM := fnM 4 m_meets_of
def m__law_cell : M Fl :=
  (bd (mIf (bd (m2 oLtI (mv 1) (mCa bLenU (aCons (mv 0) aNil))) tb) (m2 oIx (mv 0) (mv 1)) (m2 oAdd (m2 oMul (rt (vl (.int 8111))) (mv 1)) (m2 oMod (mCa bInt (aCons (mCa bSum (aCons (mSl (mv 0) pNone (bd (rt (vl (.int 1))) asInt)) aNil)) aNil)) (rt (vl (.int 1000003)))))) fun f => rt (.rt f))
def f__law_cell : FM := fnM 2 m__law_cell
def m__law_box : M Fl :=
  (bd (mLst (aCons (mCa bAbs (aCons (mv 0) aNil)) (aCons (m2 oGeI (mCa bAbs (aCons (mv 0) aNil)) (m2 oPow (rt (vl (.int 10))) (rt (vl (.int 18))))) (aCons (m2 oMod (mCa bInt (aCons (mCa bAbs (aCons (mv 0) aNil)) aNil)) (rt (vl (.int 2147483629)))) (aCons (rt (vl (.int 0))) aNil))))) fun f => rt (.rt f))
def f__law_box : FM := fnM 1 m__law_box
def m__law_take : M Fl :=
  (sq (bd (tAndM (bd (m2 oIx (mv 0) (rt (vl (.int 1)))) tru) (bd (m2 oGtI (m2 oIx (mv 0) (rt (vl (.int 0)))) (rt (vl (.int 0)))) tb)) fun k => if k = true then (sq (mSet 0 2 (m2 oMod (mCa bInt (aCons (m2 oIx (mv 0) (rt (vl (.int 0)))) aNil)) (mv 1)))
  (sq (mSetI 0 (m2 oDiv (m2 oIx (mv 0) (rt (vl (.int 0)))) (mv 1)) (mv 0) (rt (vl (.int 0))))
  (bd (mv 2) fun f => rt (.rt f)))) else sNext)
  (sq (mSetI 0 (m2 oAdd (m2 oIx (mv 0) (rt (vl (.int 3)))) (rt (vl (.int 1)))) (mv 0) (rt (vl (.int 3))))
  (sq (mSet 0 3 (m2 oMod (mCa bInt (aCons (m2 oPow (m2 oAdd (m2 oAdd (m2 oIx (mv 0) (rt (vl (.int 2)))) (m2 oMul (rt (vl (.int 15491109))) (m2 oIx (mv 0) (rt (vl (.int 3)))))) (rt (vl (.int 179424691)))) (rt (vl (.int 5)))) aNil)) (rt (vl (.int 2147483647)))))
  (bd (m2 oMod (mCa bInt (aCons (m2 oDiv (m2 oMod (mCa bInt (aCons (m2 oPow (m2 oAdd (m2 oMul (mv 3) (rt (vl (.int 48271)))) (m2 oMul (rt (vl (.int 104743))) (m2 oIx (mv 0) (rt (vl (.int 3)))))) (rt (vl (.int 3)))) aNil)) (rt (vl (.int 2147483587)))) (rt (vl (.int 64)))) aNil)) (mv 1)) fun f => rt (.rt f)))))
def f__law_take : FM := fnM 4 m__law_take
def c__law_same_0 : M FT := mLc (bd (aCons (mCa bLenU (aCons (mv 1) aNil)) aNil) mRng1) (.nm 2) (bd (m2 oNe (mSl (mv 0) (bd (mv 2) asInt) (bd (m2 oAdd (mv 2) (rt (vl (.int 1)))) asInt)) (m2 oIx (mv 1) (mv 2))) tb) (mv 2) [2]
def c__law_same_1 (sf : FM) : M FT := mLc (bd (aCons (mCa bLenU (aCons (mv 1) aNil)) aNil) mRng1) (.nm 2) (tNotM (bd (mCallB 2 sf (aCons (m2 oIx (mv 0) (mv 2)) (aCons (m2 oIx (mv 1) (mv 2)) aNil))) tru)) (mv 2) [2]
def m__law_same (sf : FM) : M Fl :=
  (sq (bd (bd (m2 oIsN (mv 1) (rt (vl .non))) tb) fun k => if k = true then (bd (m2 oIsN (mv 0) (rt (vl .non))) fun f => rt (.rt f)) else sNext)
  (sq (bd (bd (mIsi .bl (mv 1)) tru) fun k => if k = true then (bd (mAnd (mIsi .bl (mv 0)) (m2 oEq (m2 oIsB (mv 0) (rt (vl (.bl true)))) (m2 oIsB (mv 1) (rt (vl (.bl true)))))) fun f => rt (.rt f)) else sNext)
  (sq (bd (bd (mIsi .int (mv 1)) tru) fun k => if k = true then (bd (mAnd (mIsi .int (mv 0)) (mAnd (mNot (mIsi .bl (mv 0))) (m2 oEq (m2 oSub (mCa bInt (aCons (mv 0) aNil)) (mv 1)) (rt (vl (.int 0)))))) fun f => rt (.rt f)) else sNext)
  (sq (bd (bd (mIsi .str (mv 1)) tru) fun k => if k = true then (bd (mAnd (mIsi .str (mv 0)) (mAnd (m2 oEq (mCa bLenU (aCons (mv 0) aNil)) (mCa bLenU (aCons (mv 1) aNil))) (m2 oEq c__law_same_0 (mLst aNil)))) fun f => rt (.rt f)) else sNext)
  (sq (bd (bd (mIsi .dct (mv 1)) tru) fun k => if k = true then (bd (mAnd (mIsi .dct (mv 0)) (mAnd (m2 oEq (mCa bLenU (aCons (mv 0) aNil)) (mCa bLenU (aCons (mv 1) aNil))) (m2 oEq (mLcD 1) (mLst aNil)))) fun f => rt (.rt f)) else sNext)
  (sq (bd (tOrM (tNotM (bd (mIsiT [.lst, .tup] (mv 1)) tru)) (tNotM (bd (mIsiT [.lst, .tup] (mv 0)) tru))) fun k => if k = true then (bd (rt (vl (.bl false))) fun f => rt (.rt f)) else sNext)
  (sq (bd (tOrM (bd (m2 oNe (mIsi .lst (mv 0)) (mIsi .lst (mv 1))) tb) (bd (m2 oNe (mCa bLenU (aCons (mv 0) aNil)) (mCa bLenU (aCons (mv 1) aNil))) tb)) fun k => if k = true then (bd (rt (vl (.bl false))) fun f => rt (.rt f)) else sNext)
  (bd (m2 oEq (c__law_same_1 sf) (mLst aNil)) fun f => rt (.rt f)))))))))
def f__law_same : Nat → FM
  | 0 => fm0
  | n + 1 => fnM 4 (m__law_same (f__law_same n))
def m__law_copy : M Fl :=
  (bd (mIf (bd (mIsi .lst (mv 0)) tru) (mCa bListU (aCons (mv 0) aNil)) (mv 0)) fun f => rt (.rt f))
def f__law_copy : FM := fnM 1 m__law_copy
def m__law_blamed : M Fl :=
  (sq (bd (tNotM (bd (mCallB 2 (f__law_same 4) (aCons (mv 0) (aCons (mv 1) aNil))) tru)) fun k => if k = true then (bd (rt (vl (.bl false))) fun f => rt (.rt f)) else sNext)
  (sq (bd (bd (mIsi .lst (mv 1)) tru) fun k => if k = true then (bd (mCm (oApp 0) (mv 1) (aCons (rt (vl (.int 7))) aNil)) fun _ => sNext) else sNext)
  (bd (mCallB 2 (f__law_same 4) (aCons (mv 0) (aCons (mv 1) aNil))) fun f => rt (.rt f))))
def f__law_blamed : FM := fnM 2 m__law_blamed
def c__law_row_0 : M FT := mLc (bd (aCons (mv 1) aNil) mRng1) (.nm 2) (rt true) (m2 oIx (rt (vl (.str [43, 45, 48]))) (mCall 2 f__law_take (aCons (mv 0) (aCons (rt (vl (.int 3))) aNil)))) [2]
def m__law_row : M Fl :=
  (bd (mMs oJoin (rt (vl (.str []))) (aCons c__law_row_0 aNil)) fun f => rt (.rt f))
def f__law_row : FM := fnM 3 m__law_row
def c__law_product_0 : M FT := mLc (bd (aCons (mv 0) (aCons (mv 1) aNil)) mZip) (.tup [2, 3]) (rt true) (m2 oMul (m2 oSub (mMs oIdx (rt (vl (.str [45, 48, 43]))) (aCons (mv 2) aNil)) (rt (vl (.int 1)))) (m2 oSub (mMs oIdx (rt (vl (.str [45, 48, 43]))) (aCons (mv 3) aNil)) (rt (vl (.int 1))))) [2, 3]
def m__law_product : M Fl :=
  (bd c__law_product_0 fun f => rt (.rt f))
def f__law_product : FM := fnM 4 m__law_product
def c__law_drawn_0 : M FT := mLc (bd (aCons (mv 1) aNil) mRng1) (.nm 3) (rt true) (m2 oIx (m2 oIx (mLst (aCons (rt (vl (.str [43, 45]))) (aCons (rt (vl (.str [43, 45, 48]))) (aCons (rt (vl (.str [48, 43, 48, 45, 48, 48]))) aNil)))) (m2 oSub (mv 2) (rt (vl (.int 2))))) (mCall 2 f__law_take (aCons (mv 0) (aCons (m2 oIx (mLst (aCons (rt (vl (.int 2))) (aCons (rt (vl (.int 3))) (aCons (rt (vl (.int 6))) aNil)))) (m2 oSub (mv 2) (rt (vl (.int 2))))) aNil)))) [3]
def m__law_drawn : M Fl :=
  (sq (mUnp (.tup [1, 2]) (mTup (aCons (m2 oAdd (rt (vl (.int 1))) (mCall 2 f__law_take (aCons (mv 0) (aCons (rt (vl (.int 8))) aNil)))) (aCons (mCall 2 f__law_take (aCons (mv 0) (aCons (rt (vl (.int 5))) aNil))) aNil))))
  (sq (bd (bd (m2 oLtI (mv 2) (rt (vl (.int 2)))) tb) fun k => if k = true then (bd (m2 oMul (m2 oIx (mLst (aCons (rt (vl (.str [43]))) (aCons (rt (vl (.str [45]))) (aCons (rt (vl (.str [48]))) aNil)))) (mCall 2 f__law_take (aCons (mv 0) (aCons (rt (vl (.int 3))) aNil)))) (mv 1)) fun f => rt (.rt f)) else sNext)
  (bd (mMs oJoin (rt (vl (.str []))) (aCons c__law_drawn_0 aNil)) fun f => rt (.rt f))))
def f__law_drawn : FM := fnM 4 m__law_drawn
def c__law_second_0 : M FT := mLc (bd (mv 1) mOne) (.nm 4) (rt true) (m2 oIx (rt (vl (.str [45, 48, 43]))) (mMs oIdx (rt (vl (.str [43, 48, 45]))) (aCons (mv 4) aNil))) [4]
def c__law_second_1 : M FT := mLc (bd (mv 1) mOne) (.nm 4) (rt true) (mIf (bd (m2 oGtI (mCall 2 f__law_take (aCons (mv 0) (aCons (rt (vl (.int 3))) aNil))) (rt (vl (.int 0)))) tb) (mv 4) (m2 oIx (rt (vl (.str [43, 45, 48]))) (mCall 2 f__law_take (aCons (mv 0) (aCons (rt (vl (.int 3))) aNil))))) [4]
def m__law_second : M Fl :=
  (sq (mSet 0 2 (mCall 2 f__law_take (aCons (mv 0) (aCons (rt (vl (.int 5))) aNil))))
  (sq (bd (bd (m2 oEq (mv 2) (rt (vl (.int 0)))) tb) fun k => if k = true then (bd (mv 1) fun f => rt (.rt f)) else sNext)
  (sq (bd (bd (m2 oEq (mv 2) (rt (vl (.int 1)))) tb) fun k => if k = true then (bd (mMs oJoin (rt (vl (.str []))) (aCons c__law_second_0 aNil)) fun f => rt (.rt f)) else sNext)
  (sq (bd (bd (m2 oEq (mv 2) (rt (vl (.int 2)))) tb) fun k => if k = true then (sq (mSet 0 3 (mCall 2 f__law_take (aCons (mv 0) (aCons (mCa bLenU (aCons (mv 1) aNil)) aNil))))
  (bd (m2 oAdd (m2 oAdd (mSl (mv 1) pNone (bd (mv 3) asInt)) (m2 oIx (rt (vl (.str [43, 45, 48]))) (mCall 2 f__law_take (aCons (mv 0) (aCons (rt (vl (.int 3))) aNil))))) (mSl (mv 1) (bd (m2 oAdd (mv 3) (rt (vl (.int 1)))) asInt) pNone)) fun f => rt (.rt f))) else sNext)
  (sq (bd (bd (m2 oEq (mv 2) (rt (vl (.int 3)))) tb) fun k => if k = true then (bd (mMs oJoin (rt (vl (.str []))) (aCons c__law_second_1 aNil)) fun f => rt (.rt f)) else sNext)
  (bd (mCall 2 f__law_row (aCons (mv 0) (aCons (mCa bLenU (aCons (mv 1) aNil)) aNil))) fun f => rt (.rt f)))))))
def f__law_second : FM := fnM 5 m__law_second
def c__law_at_0 : M FT := mLc (bd (aCons (mCa bLenU (aCons (mv 0) aNil)) aNil) mRng1) (.nm 2) (bd (m2 (oIn false) (m2 oIx (mv 0) (mv 2)) (mv 1)) tb) (mv 2) [2]
def m__law_at : M Fl :=
  (bd (mCa bTup (aCons c__law_at_0 aNil)) fun f => rt (.rt f))
def f__law_at : FM := fnM 3 m__law_at
def c__law_is_row_0 : M FT := mLc (bd (mv 0) mOne) (.nm 1) (bd (m2 (oIn true) (mv 1) (rt (vl (.str [43, 45, 48])))) tb) (mv 1) [1]
def m__law_is_row : M Fl :=
  (bd (mAnd (mIsi .str (mv 0)) (mAnd (m3 oLeI oLeI (rt (vl (.int 1))) (mCa bLenU (aCons (mv 0) aNil)) (rt (vl (.int 8)))) (m2 oEq c__law_is_row_0 (mLst aNil)))) fun f => rt (.rt f))
def f__law_is_row : FM := fnM 2 m__law_is_row
def m__law_odd_rows : M Fl :=
  (bd (mLst (aCons (rt (vl .non)) (aCons (rt (vl (.int 5))) (aCons (rt (vl (.str []))) (aCons (rt (vl (.str [120]))) (aCons (m2 oAdd (mSl (mv 0) pNone (bd (m1 oNeg (rt (vl (.int 1)))) asInt)) (rt (vl (.str [120])))) (aCons (m2 oAdd (mv 0) (m2 oMul (rt (vl (.str [43]))) (m2 oSub (rt (vl (.int 9))) (mCa bLenU (aCons (mv 0) aNil))))) (aCons (mLst (aCons (mv 0) aNil)) (aCons (mTup (aCons (mv 0) aNil)) (aCons (rt (vl (.dct [] []))) (aCons (rt (vl (.bl true))) (aCons (m2 oAdd (rt (vl (.str [32]))) (mSl (mv 0) (bd (rt (vl (.int 1))) asInt) pNone)) (aCons (mCa bListU (aCons (mv 0) aNil)) (aCons (rt (vl (.str [43, 32]))) (aCons (rt (vl (.str [43, 43, 10]))) (aCons (m2 oMul (rt (vl (.str [112]))) (mCa bLenU (aCons (mv 0) aNil))) aNil)))))))))))))))) fun f => rt (.rt f))
def f__law_odd_rows : FM := fnM 1 m__law_odd_rows
def c__law_one_right_0 : M FT := mLc (bd (mv 1) mOne) (.nm 10) (rt true) (m2 oIx (rt (vl (.str [45, 48, 43]))) (mMs oIdx (rt (vl (.str [43, 48, 45]))) (aCons (mv 10) aNil))) [10]
def c__law_one_right_1 : M FT := mLc (bd (aCons (mv 5) aNil) mRng1) (.nm 11) (bd (m2 oEq (mCall 2 f__law_take (aCons (mv 0) (aCons (rt (vl (.int 2))) aNil))) (rt (vl (.int 0)))) tb) (mv 11) [11]
def c__law_one_right_2 : M FT := mLc (bd (aCons (mv 5) aNil) mRng1) (.nm 11) (rt true) (mIf (bd (m2 (oIn false) (mv 11) (mv 7)) tb) (m2 oIx (rt (vl (.str [45, 48, 43]))) (mMs oIdx (rt (vl (.str [43, 48, 45]))) (aCons (m2 oIx (mv 1) (mv 11)) aNil))) (m2 oIx (mv 1) (mv 11))) [11]
def c__law_one_right_3 : M FT := mLc (bd (mv 7) mOne) (.nm 11) (rt true) (m2 oIx (mv 1) (mv 11)) [11]
def m__law_one_right : M Fl :=
  (sq (mSet 0 3 (mLst (aCons (mCall 2 f__law_at (aCons (mv 1) (aCons (rt (vl (.str [43]))) aNil))) (aCons (mCall 2 f__law_at (aCons (mv 1) (aCons (rt (vl (.str [45]))) aNil))) (aCons (mCall 2 f__law_at (aCons (mv 1) (aCons (rt (vl (.str [48]))) aNil))) (aCons (mCall 2 f__law_at (aCons (mv 1) (aCons (rt (vl (.str [43, 45]))) aNil))) (aCons (mMs oJoin (rt (vl (.str []))) (aCons c__law_one_right_0 aNil)) aNil)))))))
  (sq (mSet 0 4 (mLst (aCons (mCall 1 f_plus_set (aCons (mv 1) aNil)) (aCons (mCall 1 f_minus_set (aCons (mv 1) aNil)) (aCons (mCall 1 f_zero_set (aCons (mv 1) aNil)) (aCons (mCall 1 f_support (aCons (mv 1) aNil)) (aCons (mCall 1 f_opposite (aCons (mv 1) aNil)) aNil)))))))
  (sq (bd (bd (mv 2) tru) fun k => if k = true then (mSet 0 4 (mLst (aCons (mCallK 1 1 [0] f_plus_set (aCons (mv 1) aNil)) (aCons (mCallK 1 1 [0] f_minus_set (aCons (mv 1) aNil)) (aCons (mCallK 1 1 [0] f_zero_set (aCons (mv 1) aNil)) (aCons (mCallK 1 1 [0] f_support (aCons (mv 1) aNil)) (aCons (mCallK 1 1 [0] f_opposite (aCons (mv 1) aNil)) aNil))))))) else sNext)
  (sq (bd (tNotM (bd (mCallB 2 (f__law_same 4) (aCons (mv 4) (aCons (mv 3) aNil))) tru)) fun k => if k = true then (bd (rt (vl (.bl false))) fun f => rt (.rt f)) else sNext)
  (sq (mSet 0 5 (mCa bLenU (aCons (mv 1) aNil)))
  (sq (mSet 0 6 (mIf (bd (mv 2) tru) (mCallK 3 3 [2, 1, 0] f_row_of (aCons (m2 oIx (mv 3) (rt (vl (.int 1)))) (aCons (m2 oIx (mv 3) (rt (vl (.int 0)))) (aCons (mv 5) aNil)))) (mCall 3 f_row_of (aCons (mv 5) (aCons (m2 oIx (mv 3) (rt (vl (.int 0)))) (aCons (m2 oIx (mv 3) (rt (vl (.int 1)))) aNil))))))
  (sq (bd (tNotM (bd (mCallB 2 (f__law_same 4) (aCons (mv 6) (aCons (mv 1) aNil))) tru)) fun k => if k = true then (bd (rt (vl (.bl false))) fun f => rt (.rt f)) else sNext)
  (sq (mSet 0 7 (mCa bTup (aCons c__law_one_right_1 aNil)))
  (sq (mSet 0 8 (mMs oJoin (rt (vl (.str []))) (aCons c__law_one_right_2 aNil)))
  (sq (mSet 0 9 (mMs oJoin (rt (vl (.str []))) (aCons c__law_one_right_3 aNil)))
  (sq (mSet 0 4 (mIf (bd (mv 2) tru) (mLst (aCons (mCallK 2 2 [1, 0] f_turned_row (aCons (mv 7) (aCons (mv 1) aNil))) (aCons (mCallK 2 2 [1, 0] f_part_of (aCons (mv 7) (aCons (mv 1) aNil))) aNil))) (mLst (aCons (mCall 2 f_turned_row (aCons (mv 1) (aCons (mv 7) aNil))) (aCons (mCall 2 f_part_of (aCons (mv 1) (aCons (mv 7) aNil))) aNil)))))
  (bd (mCallB 2 (f__law_same 4) (aCons (mv 4) (aCons (mLst (aCons (mv 8) (aCons (mv 9) aNil))) aNil))) fun f => rt (.rt f)))))))))))))
def f__law_one_right : FM := fnM 12 m__law_one_right
def c__law_two_right_0 : M FT := mLc (bd (mv 3) mOne) (.nm 6) (rt true) (m2 oIx (rt (vl (.str [45, 48, 43]))) (m2 oAdd (mv 6) (rt (vl (.int 1))))) [6]
def c__law_two_right_1 : M FT := mLc (bd (aCons (mv 0) (aCons (mv 1) aNil)) mZip) (.tup [6, 7]) (rt true) (mIf (bd (m2 oNe (mv 6) (rt (vl (.str [48])))) tb) (mv 6) (mv 7)) [6, 7]
def c__law_two_right_2 : M FT := mLc (bd (aCons (mv 0) (aCons (mv 1) aNil)) mZip) (.tup [6, 7]) (rt true) (mIf (bd (m2 oEq (mv 6) (mv 7)) tb) (mv 6) (rt (vl (.str [48])))) [6, 7]
def c__law_two_right_3 : M FT := mLc (bd (aCons (mCa bLenU (aCons (mv 0) aNil)) aNil) mRng1) (.nm 8) (bd (m2 oLtI (m2 oIx (mv 3) (mv 8)) (rt (vl (.int 0)))) tb) (mv 8) [8]
def c__law_two_right_4 : M FT := mLc (bd (aCons (mCa bLenU (aCons (mv 0) aNil)) aNil) mRng1) (.nm 8) (tAndM (bd (m2 oNe (m2 oIx (mv 0) (mv 8)) (rt (vl (.str [48])))) tb) (bd (m2 oNe (m2 oIx (mv 0) (mv 8)) (m2 oIx (mv 1) (mv 8))) tb)) (mv 8) [8]
def m__law_two_right : M Fl :=
  (sq (mSet 0 3 (mCall 2 f__law_product (aCons (mv 0) (aCons (mv 1) aNil))))
  (sq (mSet 0 4 (mLst (aCons (mMs oJoin (rt (vl (.str []))) (aCons c__law_two_right_1 aNil)) (aCons (mMs oJoin (rt (vl (.str []))) (aCons c__law_two_right_0 aNil)) aNil))))
  (sq (mSet 0 4 (m2 oAdd (mv 4) (mLst (aCons (mCa bTup (aCons c__law_two_right_3 aNil)) (aCons (mMs oJoin (rt (vl (.str []))) (aCons c__law_two_right_2 aNil)) aNil)))))
  (sq (mSet 0 4 (m2 oAdd (mv 4) (mLst (aCons (m2 oEq (m2 (oIn false) (rt (vl (.int 1))) (mv 3)) (m2 (oIn false) (m1 oNeg (rt (vl (.int 1)))) (mv 3))) (aCons (m2 oEq c__law_two_right_4 (mLst aNil)) aNil)))))
  (sq (mSet 0 5 (mLst (aCons (mCall 2 f_composed (aCons (mv 0) (aCons (mv 1) aNil))) (aCons (mCall 2 f_product_row (aCons (mv 0) (aCons (mv 1) aNil))) (aCons (mCall 2 f_parted_set (aCons (mv 0) (aCons (mv 1) aNil))) (aCons (mCall 2 f_meets_of (aCons (mv 0) (aCons (mv 1) aNil))) (aCons (mCall 2 f_are_orthogonal (aCons (mv 0) (aCons (mv 1) aNil))) (aCons (mCall 2 f_lies_below (aCons (mv 0) (aCons (mv 1) aNil))) aNil))))))))
  (sq (bd (bd (mv 2) tru) fun k => if k = true then (sq (mSet 0 5 (mLst (aCons (mCallK 2 2 [1, 0] f_composed (aCons (mv 1) (aCons (mv 0) aNil))) (aCons (mCallK 2 2 [1, 0] f_product_row (aCons (mv 1) (aCons (mv 0) aNil))) (aCons (mCallK 2 2 [1, 0] f_parted_set (aCons (mv 1) (aCons (mv 0) aNil))) (aCons (mCallK 2 2 [1, 0] f_meets_of (aCons (mv 1) (aCons (mv 0) aNil))) aNil))))))
  (mSet 0 5 (m2 oAdd (mv 5) (mLst (aCons (mCallK 2 2 [1, 0] f_are_orthogonal (aCons (mv 1) (aCons (mv 0) aNil))) (aCons (mCallK 2 2 [1, 0] f_lies_below (aCons (mv 1) (aCons (mv 0) aNil))) aNil)))))) else sNext)
  (bd (mCallB 2 (f__law_same 4) (aCons (mv 5) (aCons (mv 4) aNil))) fun f => rt (.rt f))))))))
def f__law_two_right : FM := fnM 9 m__law_two_right
def m__law_call : M Fl :=
  (bd (bd (m2 oEq (mv 0) (rt (vl (.int 0)))) tb) fun k => if k = true then (bd (mCall 1 f_plus_set (aCons (mv 1) aNil)) fun _ => sNext) else (bd (bd (m2 oEq (mv 0) (rt (vl (.int 1)))) tb) fun k => if k = true then (bd (mCallK 1 1 [0] f_minus_set (aCons (mv 1) aNil)) fun _ => sNext) else (bd (bd (m2 oEq (mv 0) (rt (vl (.int 2)))) tb) fun k => if k = true then (bd (mCall 1 f_zero_set (aCons (mv 1) aNil)) fun _ => sNext) else (bd (bd (m2 oEq (mv 0) (rt (vl (.int 3)))) tb) fun k => if k = true then (bd (mCallK 1 1 [0] f_support (aCons (mv 1) aNil)) fun _ => sNext) else (bd (bd (m2 oEq (mv 0) (rt (vl (.int 4)))) tb) fun k => if k = true then (bd (mCall 1 f_opposite (aCons (mv 1) aNil)) fun _ => sNext) else (bd (bd (m2 oEq (mv 0) (rt (vl (.int 5)))) tb) fun k => if k = true then (bd (mCallK 2 2 [1, 0] f_turned_row (aCons (mv 2) (aCons (mv 1) aNil))) fun _ => sNext) else (bd (bd (m2 oEq (mv 0) (rt (vl (.int 6)))) tb) fun k => if k = true then (bd (mCall 2 f_part_of (aCons (mv 1) (aCons (mv 2) aNil))) fun _ => sNext) else (bd (bd (m2 oEq (mv 0) (rt (vl (.int 7)))) tb) fun k => if k = true then (bd (mCall 2 f_composed (aCons (mv 1) (aCons (mv 2) aNil))) fun _ => sNext) else (bd (bd (m2 oEq (mv 0) (rt (vl (.int 8)))) tb) fun k => if k = true then (bd (mCallK 2 2 [1, 0] f_product_row (aCons (mv 2) (aCons (mv 1) aNil))) fun _ => sNext) else (bd (bd (m2 oEq (mv 0) (rt (vl (.int 9)))) tb) fun k => if k = true then (bd (mCall 2 f_parted_set (aCons (mv 1) (aCons (mv 2) aNil))) fun _ => sNext) else (bd (bd (m2 oEq (mv 0) (rt (vl (.int 10)))) tb) fun k => if k = true then (bd (mCallK 2 2 [1, 0] f_meets_of (aCons (mv 2) (aCons (mv 1) aNil))) fun _ => sNext) else (bd (bd (m2 oEq (mv 0) (rt (vl (.int 11)))) tb) fun k => if k = true then (bd (mCall 2 f_are_orthogonal (aCons (mv 1) (aCons (mv 2) aNil))) fun _ => sNext) else (bd (bd (m2 oEq (mv 0) (rt (vl (.int 12)))) tb) fun k => if k = true then (bd (mCallK 2 2 [1, 0] f_lies_below (aCons (mv 2) (aCons (mv 1) aNil))) fun _ => sNext) else (bd (mCall 3 f_row_of (aCons (mv 1) (aCons (mv 2) (aCons (mv 3) aNil)))) fun _ => sNext))))))))))))))
def f__law_call : FM := fnM 4 m__law_call
def m__law_asked : M Fl :=
  (sq (mTry (bd (mCall 4 f__law_call (aCons (mv 0) (aCons (mv 1) (aCons (mv 2) (aCons (mv 3) aNil))))) fun _ => sNext) [⟨[("InvalidCount", false), ("InvalidRow", true), ("InvalidSet", false)], "given", 4, (bd (mLst (aCons (rt (vl (.str [114, 111, 119]))) (aCons mErr aNil))) fun f => rt (.rt f))⟩,
  ⟨[("InvalidCount", false), ("InvalidRow", false), ("InvalidSet", true)], "given", 4, (bd (mLst (aCons (rt (vl (.str [115, 101, 116]))) (aCons mErr aNil))) fun f => rt (.rt f))⟩,
  ⟨[("InvalidCount", true), ("InvalidRow", false), ("InvalidSet", false)], "given", 4, (bd (mIf (bd (rt (vl (.bl true))) tru) (mLst (aCons (rt (vl (.str [99, 111, 117, 110, 116]))) (aCons mErr aNil))) (mLst (aCons (rt (vl (.str [116, 111, 108, 100]))) (aCons (rt (vl .non)) aNil)))) fun f => rt (.rt f))⟩])
  (bd (mLst (aCons (rt (vl (.str [116, 111, 108, 100]))) (aCons (rt (vl .non)) aNil))) fun f => rt (.rt f)))
def f__law_asked : FM := fnM 5 m__law_asked
def c__law_refused_right_0 : M FT := mLc (bd (mCall 1 f__law_odd_rows (aCons (mv 1) aNil)) mOne) (.nm 17) (tNotM (bd (mCall 1 f__law_is_row (aCons (mv 17) aNil)) tru)) (mv 17) [17]
def l__law_refused_right_0_b : M Fl := (bd (mCm (oApp 0) (mv 4) (aCons (mLst (aCons (mv 5) (aCons (m2 oIx (mv 2) (mCall 2 f__law_take (aCons (mv 0) (aCons (mCa bLenU (aCons (mv 2) aNil)) aNil)))) (aCons (m2 oIx (mv 2) (mCall 2 f__law_take (aCons (mv 0) (aCons (mCa bLenU (aCons (mv 2) aNil)) aNil)))) (aCons (rt (vl .non)) (aCons (rt (vl (.str [114, 111, 119]))) (aCons (rt (vl (.int 0))) aNil))))))) aNil)) fun _ => sNext)
def l__law_refused_right_0 : M Fl := mFor (bd (aCons (rt (vl (.int 13))) aNil) mRng1) (.nm 5) [] l__law_refused_right_0_b
def l__law_refused_right_1_b : M Fl := (sq (mSet 0 6 (m2 oIx (mLst (aCons (m2 oIx (mv 2) (mCall 2 f__law_take (aCons (mv 0) (aCons (mCa bLenU (aCons (mv 2) aNil)) aNil)))) (aCons (mIf (bd (m2 oLtI (mv 3) (rt (vl (.int 8)))) tb) (m2 oMul (rt (vl (.str [43]))) (m2 oAdd (mv 3) (rt (vl (.int 1))))) (rt (vl (.str [43])))) (aCons (mIf (bd (m2 oGtI (mv 3) (rt (vl (.int 1)))) tb) (m2 oMul (rt (vl (.str [48]))) (m2 oSub (mv 3) (rt (vl (.int 1))))) (rt (vl (.str [45, 45])))) aNil)))) (mCall 2 f__law_take (aCons (mv 0) (aCons (rt (vl (.int 3))) aNil)))))
  (bd (mCm (oApp 0) (mv 4) (aCons (mLst (aCons (mv 5) (aCons (mv 1) (aCons (mv 6) (aCons (rt (vl .non)) (aCons (rt (vl (.str [114, 111, 119]))) (aCons (rt (vl (.int 1))) aNil))))))) aNil)) fun _ => sNext))
def l__law_refused_right_1 : M Fl := mFor (bd (aCons (rt (vl (.int 7))) (aCons (rt (vl (.int 13))) aNil)) mRng2) (.nm 5) [] l__law_refused_right_1_b
def l__law_refused_right_2_b : M Fl := (sq (mSet 2 15 (mLst (aCons (mCall 1 f__law_copy (aCons (mv 10) aNil)) (aCons (mCall 1 f__law_copy (aCons (mv 11) aNil)) (aCons (mCall 1 f__law_copy (aCons (mv 12) aNil)) aNil)))))
  (sq (mSet 0 16 (mCall 4 f__law_asked (aCons (mv 5) (aCons (m2 oIx (mv 15) (rt (vl (.int 0)))) (aCons (m2 oIx (mv 15) (rt (vl (.int 1)))) (aCons (m2 oIx (mv 15) (rt (vl (.int 2)))) aNil))))))
  (bd (tOrM (bd (m2 oNe (m2 oIx (mv 16) (rt (vl (.int 0)))) (mv 13)) tb) (tNotM (bd (mCall 2 f__law_blamed (aCons (m2 oIx (mv 16) (rt (vl (.int 1)))) (aCons (m2 oIx (mv 15) (mv 14)) aNil))) tru))) fun k => if k = true then (bd (rt (vl (.bl false))) fun f => rt (.rt f)) else sNext)))
def l__law_refused_right_2 : M Fl := mFor (bd (mv 4) mOne) (.tup [5, 10, 11, 12, 13, 14]) [15, 16] l__law_refused_right_2_b
def m__law_refused_right : M Fl :=
  (sq (mSet 0 2 c__law_refused_right_0)
  (sq (mPar 1 3 4 (aCons (mCa bLenU (aCons (mv 1) aNil)) (aCons (mLst aNil) aNil)))
  (sq l__law_refused_right_0
  (sq l__law_refused_right_1
  (sq (mSet 0 7 (mLst (aCons (rt (vl .non)) (aCons (rt (vl (.int 5))) (aCons (rt (vl (.str []))) (aCons (mLst (aCons (rt (vl (.int 0))) aNil)) (aCons (mTup (aCons (rt (vl (.int 0))) (aCons (rt (vl (.int 0))) aNil))) (aCons (mTup (aCons (mv 3) aNil)) (aCons (mTup (aCons (m1 oNeg (rt (vl (.int 1)))) aNil)) (aCons (mTup (aCons (rt (vl (.bl true))) aNil)) (aCons (mTup (aCons (rt (vl (.str [48]))) aNil)) (aCons (rt (vl (.dct [] []))) (aCons (mTup (aCons (rt (vl (.int 1))) (aCons (rt (vl (.int 0))) aNil))) (aCons (mTup (aCons (rt (vl (.int 0))) (aCons (mv 3) aNil))) (aCons (mTup (aCons (rt (vl .non)) aNil)) (aCons (mLst aNil) (aCons (mTup (aCons (rt (vl (.int 0))) (aCons (rt (vl (.int 1))) (aCons (rt (vl (.int 1))) aNil)))) aNil)))))))))))))))))
  (sq (mSet 0 8 (m2 oIx (mv 7) (mCall 2 f__law_take (aCons (mv 0) (aCons (mCa bLenU (aCons (mv 7) aNil)) aNil)))))
  (sq (mSet 1 4 (m2 oAdd (mv 4) (mLst (aCons (mLst (aCons (rt (vl (.int 5))) (aCons (mv 1) (aCons (mv 8) (aCons (rt (vl .non)) (aCons (rt (vl (.str [115, 101, 116]))) (aCons (rt (vl (.int 1))) aNil))))))) (aCons (mLst (aCons (rt (vl (.int 6))) (aCons (mv 1) (aCons (mv 8) (aCons (rt (vl .non)) (aCons (rt (vl (.str [115, 101, 116]))) (aCons (rt (vl (.int 1))) aNil))))))) (aCons (mLst (aCons (rt (vl (.int 13))) (aCons (mv 3) (aCons (mv 8) (aCons (rt (vl .non)) (aCons (rt (vl (.str [115, 101, 116]))) (aCons (rt (vl (.int 1))) aNil))))))) (aCons (mLst (aCons (rt (vl (.int 13))) (aCons (mv 3) (aCons (mTup aNil) (aCons (mv 8) (aCons (rt (vl (.str [115, 101, 116]))) (aCons (rt (vl (.int 2))) aNil))))))) aNil)))))))
  (sq (mSet 1 4 (m2 oAdd (mv 4) (mLst (aCons (mLst (aCons (rt (vl (.int 13))) (aCons (mv 3) (aCons (mTup (aCons (rt (vl (.int 0))) aNil)) (aCons (mTup (aCons (rt (vl (.int 0))) aNil)) (aCons (rt (vl (.str [115, 101, 116]))) (aCons (rt (vl (.int 2))) aNil))))))) (aCons (mLst (aCons (rt (vl (.int 13))) (aCons (mv 3) (aCons (bd (mv 3) mTupR) (aCons (mTup (aCons (m2 oSub (mv 3) (rt (vl (.int 1)))) aNil)) (aCons (rt (vl (.str [115, 101, 116]))) (aCons (rt (vl (.int 2))) aNil))))))) aNil)))))
  (sq (mSet 0 9 (mLst (aCons (rt (vl .non)) (aCons (rt (vl (.int 0))) (aCons (rt (vl (.int 9))) (aCons (m1 oNeg (rt (vl (.int 1)))) (aCons (rt (vl (.bl true))) (aCons (rt (vl (.str [51]))) (aCons (mLst (aCons (rt (vl (.int 3))) aNil)) (aCons (mTup (aCons (rt (vl (.int 3))) aNil)) (aCons (rt (vl (.dct [] []))) (aCons (m2 oPow (rt (vl (.int 10))) (rt (vl (.int 19)))) aNil))))))))))))
  (sq (bd (mCm (oApp 0) (mv 4) (aCons (mLst (aCons (rt (vl (.int 13))) (aCons (m2 oIx (mv 9) (mCall 2 f__law_take (aCons (mv 0) (aCons (rt (vl (.int 10))) aNil)))) (aCons (mv 8) (aCons (mv 8) (aCons (rt (vl (.str [99, 111, 117, 110, 116]))) (aCons (rt (vl (.int 0))) aNil))))))) aNil)) fun _ => sNext)
  (sq l__law_refused_right_2
  (bd (rt (vl (.bl true))) fun f => rt (.rt f)))))))))))))
def f__law_refused_right : FM := fnM 18 m__law_refused_right
def l_law_1_b : M Fl := (sq (mSet 0 6 (mCall 2 f__law_second (aCons (mv 2) (aCons (mv 4) aNil))))
  (sq (bd (tOrM (tNotM (bd (mCall 3 f__law_one_right (aCons (mv 2) (aCons (mv 6) (aCons (mv 3) aNil)))) tru)) (tOrM (tNotM (bd (mCall 3 f__law_two_right (aCons (mv 4) (aCons (mv 6) (aCons (mv 3) aNil)))) tru)) (tNotM (bd (mCall 3 f__law_two_right (aCons (mv 6) (aCons (mv 4) (aCons (mNot (mv 3)) aNil)))) tru)))) fun k => if k = true then (bd (rt (vl (.bl false))) fun f => rt (.rt f)) else sNext)
  (mSet 0 3 (mNot (mv 3)))))
def l_law_1 : M Fl := mFor (bd (aCons (rt (vl (.int 3))) aNil) mRng1) (.nm 5) [] l_law_1_b
def l_law_2_b : M Fl := (sq (mSet 0 8 (mCall 1 f__law_is_row (aCons (mv 7) aNil)))
  (bd (tNotM (bd (mCallB 2 (f__law_same 4) (aCons (mIf (bd (mv 3) tru) (mCallK 1 1 [0] f_is_row (aCons (mv 7) aNil)) (mCall 1 f_is_row (aCons (mv 7) aNil))) (aCons (mv 8) aNil))) tru)) fun k => if k = true then (bd (rt (vl (.bl false))) fun f => rt (.rt f)) else sNext))
def l_law_2 : M Fl := mFor (bd (m2 oAdd (mCall 1 f__law_odd_rows (aCons (mv 4) aNil)) (mLst (aCons (mv 4) (aCons (m1 oRevS (mv 4)) (aCons (mSl (mv 4) pNone (bd (rt (vl (.int 1))) asInt)) aNil))))) mOne) (.nm 7) [] l_law_2_b
def l_law_0_b : M Fl := (sq (mSet 1 2 (mCall 1 f__law_box (aCons (mCall 2 f__law_cell (aCons (mv 0) (aCons (mv 1) aNil))) aNil)))
  (sq (mPar 0 3 4 (aCons (m2 oEq (mCall 2 f__law_take (aCons (mv 2) (aCons (rt (vl (.int 2))) aNil))) (rt (vl (.int 1)))) (aCons (mCall 1 f__law_drawn (aCons (mv 2) aNil)) aNil)))
  (sq l_law_1
  (sq l_law_2
  (bd (tNotM (bd (mCall 2 f__law_refused_right (aCons (mv 2) (aCons (mv 4) aNil))) tru)) fun k => if k = true then (bd (rt (vl (.bl false))) fun f => rt (.rt f)) else sNext)))))
def l_law_0 : M Fl := mFor (bd (aCons (mCa bMax (aCons (rt (vl (.int 4))) (aCons (mCa bMin (aCons (rt (vl (.int 8))) (aCons (mCa bLenU (aCons (mv 0) aNil)) aNil))) aNil))) aNil) mRng1) (.nm 1) [2] l_law_0_b
def m_law : M Fl :=
  (sq l_law_0
  (bd (rt (vl (.bl true))) fun f => rt (.rt f)))
def f_law : FM := fnM 9 m_law
/-! what the text says besides -/
structure Glob (w : World) (K : PySem.W.Frag) (mg : Str → Option Value) : Prop where
  z_abs : mg "abs" = none
  z_all : mg "all" = none
  z_any : mg "any" = none
  z_bool : mg "bool" = none
  z_dict : mg "dict" = none
  z_enumerate : mg "enumerate" = none
  z_int : mg "int" = none
  z_isinstance : mg "isinstance" = none
  z_len : mg "len" = none
  z_list : mg "list" = none
  z_max : mg "max" = none
  z_min : mg "min" = none
  z_range : mg "range" = none
  z_str : mg "str" = none
  z_sum : mg "sum" = none
  z_tuple : mg "tuple" = none
  z_zip : mg "zip" = none
  c_MOST_ELEMENTS : ∃ t, mg "MOST_ELEMENTS" = some (.int 8 t)
  c_SIGNS : ∃ t, mg "SIGNS" = some (.str ⟨[43, 45, 48].toArray⟩ t)
  d_NUMBERS : ∃ q, mg "NUMBERS" = some (.ref q) ∧ ∀ s t, tab_NUMBERS.lookup s = some t → ∃ v, KDct K w q ⟨s.toArray⟩ v ∧ ∀ F, RepT K F v t
  b_OrientError : ∃ C, mg "OrientError" = some (.ref C) ∧ ∀ D, mg "InvalidCount" = some (.ref D) → PySem.W.kitOne K (.ref D) (.ref C) = some true
  x_InvalidCount_InvalidCount : ∀ D C, mg "InvalidCount" = some (.ref D) → mg "InvalidCount" = some (.ref C) → PySem.W.exmOne K (.ref D) (.ref C) = some true
  x_InvalidCount_InvalidRow : ∀ D C, mg "InvalidCount" = some (.ref D) → mg "InvalidRow" = some (.ref C) → PySem.W.exmOne K (.ref D) (.ref C) = some false
  x_InvalidCount_InvalidSet : ∀ D C, mg "InvalidCount" = some (.ref D) → mg "InvalidSet" = some (.ref C) → PySem.W.exmOne K (.ref D) (.ref C) = some false
  x_InvalidRow_InvalidCount : ∀ D C, mg "InvalidRow" = some (.ref D) → mg "InvalidCount" = some (.ref C) → PySem.W.exmOne K (.ref D) (.ref C) = some false
  x_InvalidRow_InvalidRow : ∀ D C, mg "InvalidRow" = some (.ref D) → mg "InvalidRow" = some (.ref C) → PySem.W.exmOne K (.ref D) (.ref C) = some true
  x_InvalidRow_InvalidSet : ∀ D C, mg "InvalidRow" = some (.ref D) → mg "InvalidSet" = some (.ref C) → PySem.W.exmOne K (.ref D) (.ref C) = some false
  x_InvalidSet_InvalidCount : ∀ D C, mg "InvalidSet" = some (.ref D) → mg "InvalidCount" = some (.ref C) → PySem.W.exmOne K (.ref D) (.ref C) = some false
  x_InvalidSet_InvalidRow : ∀ D C, mg "InvalidSet" = some (.ref D) → mg "InvalidRow" = some (.ref C) → PySem.W.exmOne K (.ref D) (.ref C) = some false
  x_InvalidSet_InvalidSet : ∀ D C, mg "InvalidSet" = some (.ref D) → mg "InvalidSet" = some (.ref C) → PySem.W.exmOne K (.ref D) (.ref C) = some true
end Ob.K00
namespace Ob.K00
open PySem PySem.Spec PyProof.Rows L2 Ob
section
variable {P : Program} {w : World} {K : PySem.W.Frag} {mg : Str → Option Value} {base : Heap}
theorem X_bool {X : Cx} {w : World} {K : PySem.W.Frag} (Z : Glob w K X.mg) (h : Gl X "bool") : TyNm X "bool" .bl := ⟨h, Z.z_bool, by decide +kernel, by decide, by decide, by simp⟩
theorem X_dict {X : Cx} {w : World} {K : PySem.W.Frag} (Z : Glob w K X.mg) (h : Gl X "dict") : TyNm X "dict" .dct := ⟨h, Z.z_dict, by decide +kernel, by decide, by decide, by simp⟩
theorem X_int {X : Cx} {w : World} {K : PySem.W.Frag} (Z : Glob w K X.mg) (h : Gl X "int") : TyNm X "int" .int := ⟨h, Z.z_int, by decide +kernel, by decide, by decide, by simp⟩
theorem X_list {X : Cx} {w : World} {K : PySem.W.Frag} (Z : Glob w K X.mg) (h : Gl X "list") : TyNm X "list" .lst := ⟨h, Z.z_list, by decide +kernel, by decide, by decide, by simp⟩
theorem X_str {X : Cx} {w : World} {K : PySem.W.Frag} (Z : Glob w K X.mg) (h : Gl X "str") : TyNm X "str" .str := ⟨h, Z.z_str, by decide +kernel, by decide, by decide, by simp⟩
theorem X_tuple {X : Cx} {w : World} {K : PySem.W.Frag} (Z : Glob w K X.mg) (h : Gl X "tuple") : TyNm X "tuple" .tup := ⟨h, Z.z_tuple, by decide +kernel, by decide, by decide, by simp⟩
theorem in_InvalidCount {C fI : Addr} {fd : FuncData} (E : Er K mg "InvalidCount" "InvalidCount.__init__" i_InvalidCount C fI fd) : OkE P w K mg base "InvalidCount" "InvalidCount.__init__" i_InvalidCount := E.ok sI_InvalidCount fun cdv A outer s H E => by exact pss_one (ps_ost (pv 0) (pv 1))
theorem in_InvalidRow {C fI : Addr} {fd : FuncData} (E : Er K mg "InvalidRow" "InvalidRow.__init__" i_InvalidRow C fI fd) : OkE P w K mg base "InvalidRow" "InvalidRow.__init__" i_InvalidRow := E.ok sI_InvalidRow fun cdv A outer s H E => by exact pss_one (ps_ost (pv 0) (pv 1))
theorem in_InvalidSet {C fI : Addr} {fd : FuncData} (E : Er K mg "InvalidSet" "InvalidSet.__init__" i_InvalidSet C fI fd) : OkE P w K mg base "InvalidSet" "InvalidSet.__init__" i_InvalidSet := E.ok sI_InvalidSet fun cdv A outer s H E => by exact pss_one (ps_ost (pv 0) (pv 1))
theorem kw_are_orthogonal_other_one {a : Addr} {fd : FuncData} (d : Df K mg "are_orthogonal" s_are_orthogonal ["one", "other"] a fd) : KwB K fd ["one", "other"] ["other", "one"] [1, 0] := kwb_of d.fn fun _ _ _ _ _ _ ws hl => match ws, hl with | [_, _], _ => rfl
theorem kw_composed_other_one {a : Addr} {fd : FuncData} (d : Df K mg "composed" s_composed ["one", "other"] a fd) : KwB K fd ["one", "other"] ["other", "one"] [1, 0] := kwb_of d.fn fun _ _ _ _ _ _ ws hl => match ws, hl with | [_, _], _ => rfl
theorem kw_is_row_value {a : Addr} {fd : FuncData} (d : Df K mg "is_row" s_is_row ["value"] a fd) : KwB K fd ["value"] ["value"] [0] := kwb_of d.fn fun _ _ _ _ _ _ ws hl => match ws, hl with | [_], _ => rfl
theorem kw_lies_below_other_one {a : Addr} {fd : FuncData} (d : Df K mg "lies_below" s_lies_below ["one", "other"] a fd) : KwB K fd ["one", "other"] ["other", "one"] [1, 0] := kwb_of d.fn fun _ _ _ _ _ _ ws hl => match ws, hl with | [_, _], _ => rfl
theorem kw_meets_of_other_one {a : Addr} {fd : FuncData} (d : Df K mg "meets_of" s_meets_of ["one", "other"] a fd) : KwB K fd ["one", "other"] ["other", "one"] [1, 0] := kwb_of d.fn fun _ _ _ _ _ _ ws hl => match ws, hl with | [_, _], _ => rfl
theorem kw_minus_set_row {a : Addr} {fd : FuncData} (d : Df K mg "minus_set" s_minus_set ["row"] a fd) : KwB K fd ["row"] ["row"] [0] := kwb_of d.fn fun _ _ _ _ _ _ ws hl => match ws, hl with | [_], _ => rfl
theorem kw_opposite_row {a : Addr} {fd : FuncData} (d : Df K mg "opposite" s_opposite ["row"] a fd) : KwB K fd ["row"] ["row"] [0] := kwb_of d.fn fun _ _ _ _ _ _ ws hl => match ws, hl with | [_], _ => rfl
theorem kw_part_of_members_row {a : Addr} {fd : FuncData} (d : Df K mg "part_of" s_part_of ["row", "members"] a fd) : KwB K fd ["row", "members"] ["members", "row"] [1, 0] := kwb_of d.fn fun _ _ _ _ _ _ ws hl => match ws, hl with | [_, _], _ => rfl
theorem kw_parted_set_other_one {a : Addr} {fd : FuncData} (d : Df K mg "parted_set" s_parted_set ["one", "other"] a fd) : KwB K fd ["one", "other"] ["other", "one"] [1, 0] := kwb_of d.fn fun _ _ _ _ _ _ ws hl => match ws, hl with | [_, _], _ => rfl
theorem kw_plus_set_row {a : Addr} {fd : FuncData} (d : Df K mg "plus_set" s_plus_set ["row"] a fd) : KwB K fd ["row"] ["row"] [0] := kwb_of d.fn fun _ _ _ _ _ _ ws hl => match ws, hl with | [_], _ => rfl
theorem kw_product_row_other_one {a : Addr} {fd : FuncData} (d : Df K mg "product_row" s_product_row ["one", "other"] a fd) : KwB K fd ["one", "other"] ["other", "one"] [1, 0] := kwb_of d.fn fun _ _ _ _ _ _ ws hl => match ws, hl with | [_, _], _ => rfl
theorem kw_row_of_minus_plus_count {a : Addr} {fd : FuncData} (d : Df K mg "row_of" s_row_of ["count", "plus", "minus"] a fd) : KwB K fd ["count", "plus", "minus"] ["minus", "plus", "count"] [2, 1, 0] := kwb_of d.fn fun _ _ _ _ _ _ ws hl => match ws, hl with | [_, _, _], _ => rfl
theorem kw_support_row {a : Addr} {fd : FuncData} (d : Df K mg "support" s_support ["row"] a fd) : KwB K fd ["row"] ["row"] [0] := kwb_of d.fn fun _ _ _ _ _ _ ws hl => match ws, hl with | [_], _ => rfl
theorem kw_turned_row_members_row {a : Addr} {fd : FuncData} (d : Df K mg "turned_row" s_turned_row ["row", "members"] a fd) : KwB K fd ["row", "members"] ["members", "row"] [1, 0] := kwb_of d.fn fun _ _ _ _ _ _ ws hl => match ws, hl with | [_, _], _ => rfl
theorem kw_zero_set_row {a : Addr} {fd : FuncData} (d : Df K mg "zero_set" s_zero_set ["row"] a fd) : KwB K fd ["row"] ["row"] [0] := kwb_of d.fn fun _ _ _ _ _ _ ws hl => match ws, hl with | [_], _ => rfl
theorem ok_is_integer (Z : Glob w K mg) (h0 : ∃ a fd, Df K mg "is_integer" s_is_integer ["value"] a fd) : OkD P w K mg base "is_integer" s_is_integer ["value"] 1 1 f_is_integer := by
  obtain ⟨a_is_integer, fd_is_integer, d_is_integer⟩ := h0
  exact ⟨a_is_integer, fd_is_integer, d_is_integer, ok_fn d_is_integer.fn sc_is_integer fun cdv A outer s H E hr => by
    exact (ss_one (ss_ret (se_and (se_isi (by rfl) Z.z_isinstance (X_int Z (by rfl)) (se_var (pv 0))) (se_one (se_not (se_isi (by rfl) Z.z_isinstance (X_bool Z (by rfl)) (se_var (pv 0))))))))⟩
theorem ok_is_between (Z : Glob w K mg) (k_is_integer : OkD P w K mg base "is_integer" s_is_integer ["value"] 1 1 f_is_integer) (h0 : ∃ a fd, Df K mg "is_between" s_is_between ["value", "least", "most"] a fd) : OkD P w K mg base "is_between" s_is_between ["value", "least", "most"] 2 3 f_is_between := by
  obtain ⟨a_is_between, fd_is_between, d_is_between⟩ := h0
  obtain ⟨a_is_integer, fd_is_integer, d_is_integer, F_is_integer⟩ := k_is_integer
  exact ⟨a_is_between, fd_is_between, d_is_between, ok_fn d_is_between.fn sc_is_between fun cdv A outer s H E hr => by
    exact (ss_one (ss_ret (se_and (se_call F_is_integer (hr.mono (by decide)) (by rfl) d_is_integer.g d_is_integer.fn.kp d_is_integer.b (takes_of rfl rfl rfl rfl) (sa_cons (se_var (pv 0)) sa_nil)) (se_one (se_chain op_le os_le op_le os_le (se_var (pv 1)) (se_var (pv 0)) (se_var (pv 2)))))))⟩
theorem ok_is_rising (Z : Glob w K mg) (h0 : ∃ a fd, Df K mg "is_rising" s_is_rising ["items"] a fd) : OkD P w K mg base "is_rising" s_is_rising ["items"] 1 1 f_is_rising := by
  obtain ⟨a_is_rising, fd_is_rising, d_is_rising⟩ := h0
  exact ⟨a_is_rising, fd_is_rising, d_is_rising, ok_fn d_is_rising.fn sc_is_rising fun cdv A outer s H E hr => by
    exact (ss_one (ss_ret (se_callB (cr_all rfl) ca_all (by rfl) Z.z_all bt_all (sa_cons (se_lc rfl sc_is_rising.nd (si_rng1 (by rfl) Z.z_range (sa_cons (se_sub (se_callB call_lenU ca_lenU (by rfl) Z.z_len bt_len (sa_cons (se_var (pv 0)) sa_nil)) se_int) sa_nil)) (blk_by (M := ["items", "at"]) (sc := defScope s_is_rising) (own := [("at", 1)]) rfl rfl (by decide +kernel)) (fun _ _ _ _ _ => by exact (sg_name sc_is_rising.nd rfl (.inl rfl) .none (.inr rfl))) (fun _ _ _ _ _ => by exact sts_nil) (fun _ _ _ _ _ => by exact (se_cmp op_lt os_lt (se_ix (se_var (pv 0)) (se_var (pv 1))) (se_ix (se_var (pv 0)) (se_add (se_var (pv 1)) se_int)) (nomark _))) (by decide) .none) sa_nil))))⟩
theorem ok_are_between (Z : Glob w K mg) (k_is_between : OkD P w K mg base "is_between" s_is_between ["value", "least", "most"] 2 3 f_is_between) (h0 : ∃ a fd, Df K mg "are_between" s_are_between ["values", "least", "most"] a fd) : OkD P w K mg base "are_between" s_are_between ["values", "least", "most"] 3 3 f_are_between := by
  obtain ⟨a_are_between, fd_are_between, d_are_between⟩ := h0
  obtain ⟨a_is_between, fd_is_between, d_is_between, F_is_between⟩ := k_is_between
  exact ⟨a_are_between, fd_are_between, d_are_between, ok_fn d_are_between.fn sc_are_between fun cdv A outer s H E hr => by
    exact (ss_one (ss_ret (se_callB (cr_all rfl) ca_all (by rfl) Z.z_all bt_all (sa_cons (se_lc rfl sc_are_between.nd (si_one (se_var (pv 0))) (blk_by (M := ["values", "least", "most", "value"]) (sc := defScope s_are_between) (own := [("value", 3)]) rfl rfl (by decide +kernel)) (fun _ _ _ _ _ => by exact (sg_name sc_are_between.nd rfl (.inl rfl) .none (.inr rfl))) (fun _ _ _ _ _ => by exact sts_nil) (fun _ _ _ _ _ => by exact (se_call F_is_between (hr.mono (by decide)) (by rfl) d_is_between.g d_is_between.fn.kp d_is_between.b takes0 (sa_cons (se_var (pv 3)) (sa_cons (se_var (pv 1)) (sa_cons (se_var (pv 2)) sa_nil))))) (by decide) .none) sa_nil))))⟩
theorem ok_is_elements (Z : Glob w K mg) (k_is_rising : OkD P w K mg base "is_rising" s_is_rising ["items"] 1 1 f_is_rising) (k_are_between : OkD P w K mg base "are_between" s_are_between ["values", "least", "most"] 3 3 f_are_between) (h0 : ∃ a fd, Df K mg "is_elements" s_is_elements ["count", "value"] a fd) : OkD P w K mg base "is_elements" s_is_elements ["count", "value"] 4 2 f_is_elements := by
  obtain ⟨a_is_elements, fd_is_elements, d_is_elements⟩ := h0
  obtain ⟨a_is_rising, fd_is_rising, d_is_rising, F_is_rising⟩ := k_is_rising
  obtain ⟨a_are_between, fd_are_between, d_are_between, F_are_between⟩ := k_are_between
  exact ⟨a_is_elements, fd_is_elements, d_is_elements, ok_fn d_is_elements.fn sc_is_elements fun cdv A outer s H E hr => by
    exact (ss_one (ss_ret (se_and (se_isi (by rfl) Z.z_isinstance (X_tuple Z (by rfl)) (se_var (pv 1))) (se_and (se_call F_are_between (hr.mono (by decide)) (by rfl) d_are_between.g d_are_between.fn.kp d_are_between.b (takes_of rfl rfl rfl rfl) (sa_cons (se_var (pv 1)) (sa_cons se_int (sa_cons (se_sub (se_var (pv 0)) se_int) sa_nil)))) (se_one (se_call F_is_rising (hr.mono (by decide)) (by rfl) d_is_rising.g d_is_rising.fn.kp d_is_rising.b (takes_of rfl rfl rfl rfl) (sa_cons (se_var (pv 1)) sa_nil)))))))⟩
theorem ok_is_signs (Z : Glob w K mg) (h0 : ∃ a fd, Df K mg "is_signs" s_is_signs ["value", "many"] a fd) : OkD P w K mg base "is_signs" s_is_signs ["value", "many"] 1 2 f_is_signs := by
  obtain ⟨a_is_signs, fd_is_signs, d_is_signs⟩ := h0
  obtain ⟨_, zc_SIGNS⟩ := Z.c_SIGNS
  exact ⟨a_is_signs, fd_is_signs, d_is_signs, ok_fn d_is_signs.fn sc_is_signs fun cdv A outer s H E hr => by
    exact (ss_one (ss_ret (se_and (se_isi (by rfl) Z.z_isinstance (X_str Z (by rfl)) (se_var (pv 0))) (se_and (se_cmp (op_eqD hr.units) os_eq (se_callB call_lenU ca_lenU (by rfl) Z.z_len bt_len (sa_cons (se_var (pv 0)) sa_nil)) (se_var (pv 1)) (nomark _)) (se_one (se_callB (cr_all rfl) ca_all (by rfl) Z.z_all bt_all (sa_cons (se_lc rfl sc_is_signs.nd (si_one (se_var (pv 0))) (blk_by (M := ["value", "many", "sign"]) (sc := defScope s_is_signs) (own := [("sign", 2)]) rfl rfl (by decide +kernel)) (fun _ _ _ _ _ => by exact (sg_name sc_is_signs.nd rfl (.inl rfl) .none (.inr rfl))) (fun _ _ _ _ _ => by exact sts_nil) (fun _ _ _ _ _ => by exact (se_in (se_var (pv 2)) (se_glob (v := .str ⟨[43, 45, 48].toArray⟩) (by rfl) zc_SIGNS ⟨_, rfl⟩ (fun _ => RepT.str [43, 45, 48] (by decide) (by decide))) (by with_unfolding_all rfl))) (by decide) .none) sa_nil)))))))⟩
theorem ok_is_row_of (Z : Glob w K mg) (k_is_signs : OkD P w K mg base "is_signs" s_is_signs ["value", "many"] 1 2 f_is_signs) (h0 : ∃ a fd, Df K mg "is_row_of" s_is_row_of ["count", "value"] a fd) : OkD P w K mg base "is_row_of" s_is_row_of ["count", "value"] 2 2 f_is_row_of := by
  obtain ⟨a_is_row_of, fd_is_row_of, d_is_row_of⟩ := h0
  obtain ⟨a_is_signs, fd_is_signs, d_is_signs, F_is_signs⟩ := k_is_signs
  exact ⟨a_is_row_of, fd_is_row_of, d_is_row_of, ok_fn d_is_row_of.fn sc_is_row_of fun cdv A outer s H E hr => by
    exact (ss_one (ss_ret (se_call F_is_signs (hr.mono (by decide)) (by rfl) d_is_signs.g d_is_signs.fn.kp d_is_signs.b (takes_of rfl rfl rfl rfl) (sa_cons (se_var (pv 1)) (sa_cons (se_var (pv 0)) sa_nil)))))⟩
theorem ok_sign_of (Z : Glob w K mg) (h0 : ∃ a fd, Df K mg "sign_of" s_sign_of ["number"] a fd) : OkD P w K mg base "sign_of" s_sign_of ["number"] 1 1 f_sign_of := by
  obtain ⟨a_sign_of, fd_sign_of, d_sign_of⟩ := h0
  exact ⟨a_sign_of, fd_sign_of, d_sign_of, ok_fn d_sign_of.fn sc_sign_of fun cdv A outer s H E hr => by
    exact (ss_cons (ss_if (st_cmp (op_eqD hr.units) os_eq (se_var (pv 0)) se_int (nomark _)) (ss_one (ss_ret (se_str (s := [48]) rfl (by decide) (by decide)))) ss_nil)
    (ss_one (ss_ret (se_if (st_cmp op_gt os_gt (se_var (pv 0)) se_int (nomark _)) (se_str (s := [43]) rfl (by decide) (by decide)) (se_str (s := [45]) rfl (by decide) (by decide))))))⟩
theorem ok_row_of_numbers (Z : Glob w K mg) (k_sign_of : OkD P w K mg base "sign_of" s_sign_of ["number"] 1 1 f_sign_of) (h0 : ∃ a fd, Df K mg "row_of_numbers" s_row_of_numbers ["numbers"] a fd) : OkD P w K mg base "row_of_numbers" s_row_of_numbers ["numbers"] 2 1 f_row_of_numbers := by
  obtain ⟨a_row_of_numbers, fd_row_of_numbers, d_row_of_numbers⟩ := h0
  obtain ⟨a_sign_of, fd_sign_of, d_sign_of, F_sign_of⟩ := k_sign_of
  exact ⟨a_row_of_numbers, fd_row_of_numbers, d_row_of_numbers, ok_fn d_row_of_numbers.fn sc_row_of_numbers fun cdv A outer s H E hr => by
    exact (ss_one (ss_ret (se_join (se_str (s := []) rfl (by decide) (by decide)) (sa_cons (se_lc rfl sc_row_of_numbers.nd (si_one (se_var (pv 0))) (blk_by (M := ["numbers", "number"]) (sc := defScope s_row_of_numbers) (own := [("number", 1)]) rfl rfl (by decide +kernel)) (fun _ _ _ _ _ => by exact (sg_name sc_row_of_numbers.nd rfl (.inl rfl) .none (.inr rfl))) (fun _ _ _ _ _ => by exact sts_nil) (fun _ _ _ _ _ => by exact (se_call F_sign_of (hr.mono (by decide)) (by rfl) d_sign_of.g d_sign_of.fn.kp d_sign_of.b takes0 (sa_cons (se_var (pv 1)) sa_nil))) (by decide) .none) sa_nil))))⟩
theorem ok_numbers_of (Z : Glob w K mg) (h0 : ∃ a fd, Df K mg "numbers_of" s_numbers_of ["row"] a fd) : OkD P w K mg base "numbers_of" s_numbers_of ["row"] 1 1 f_numbers_of := by
  obtain ⟨a_numbers_of, fd_numbers_of, d_numbers_of⟩ := h0
  obtain ⟨_, zd_NUMBERS, zt_NUMBERS⟩ := Z.d_NUMBERS
  exact ⟨a_numbers_of, fd_numbers_of, d_numbers_of, ok_fn d_numbers_of.fn sc_numbers_of fun cdv A outer s H E hr => by
    exact (ss_one (ss_ret (se_lc rfl sc_numbers_of.nd (si_one (se_var (pv 0))) (blk_by (M := ["row", "sign"]) (sc := defScope s_numbers_of) (own := [("sign", 1)]) rfl rfl (by decide +kernel)) (fun _ _ _ _ _ => by exact (sg_name sc_numbers_of.nd rfl (.inl rfl) .none (.inr rfl))) (fun _ _ _ _ _ => by exact sts_nil) (fun _ _ _ _ _ => by exact (se_kget (by rfl) zd_NUMBERS ⟨zt_NUMBERS⟩ (se_var (pv 1)))) (by decide) .none)))⟩
theorem ok_turned_signs (Z : Glob w K mg) (k_row_of_numbers : OkD P w K mg base "row_of_numbers" s_row_of_numbers ["numbers"] 2 1 f_row_of_numbers) (k_numbers_of : OkD P w K mg base "numbers_of" s_numbers_of ["row"] 1 1 f_numbers_of) (h0 : ∃ a fd, Df K mg "turned_signs" s_turned_signs ["row"] a fd) : OkD P w K mg base "turned_signs" s_turned_signs ["row"] 3 1 f_turned_signs := by
  obtain ⟨a_turned_signs, fd_turned_signs, d_turned_signs⟩ := h0
  obtain ⟨a_row_of_numbers, fd_row_of_numbers, d_row_of_numbers, F_row_of_numbers⟩ := k_row_of_numbers
  obtain ⟨a_numbers_of, fd_numbers_of, d_numbers_of, F_numbers_of⟩ := k_numbers_of
  exact ⟨a_turned_signs, fd_turned_signs, d_turned_signs, ok_fn d_turned_signs.fn sc_turned_signs fun cdv A outer s H E hr => by
    exact (ss_one (ss_ret (se_call F_row_of_numbers (hr.mono (by decide)) (by rfl) d_row_of_numbers.g d_row_of_numbers.fn.kp d_row_of_numbers.b (takes_of rfl rfl rfl rfl) (sa_cons (se_lc rfl sc_turned_signs.nd (si_one (se_call F_numbers_of (hr.mono (by decide)) (by rfl) d_numbers_of.g d_numbers_of.fn.kp d_numbers_of.b (takes_of rfl rfl rfl rfl) (sa_cons (se_var (pv 0)) sa_nil))) (blk_by (M := ["row", "number"]) (sc := defScope s_turned_signs) (own := [("number", 1)]) rfl rfl (by decide +kernel)) (fun _ _ _ _ _ => by exact (sg_name sc_turned_signs.nd rfl (.inl rfl) .none (.inr rfl))) (fun _ _ _ _ _ => by exact sts_nil) (fun _ _ _ _ _ => by exact (se_neg (se_var (pv 1)))) (by decide) .none) sa_nil))))⟩
theorem ok_is_row (Z : Glob w K mg) (k_is_row_of : OkD P w K mg base "is_row_of" s_is_row_of ["count", "value"] 2 2 f_is_row_of) (h0 : ∃ a fd, Df K mg "is_row" s_is_row ["value"] a fd) : OkD P w K mg base "is_row" s_is_row ["value"] 3 1 f_is_row := by
  obtain ⟨a_is_row, fd_is_row, d_is_row⟩ := h0
  obtain ⟨a_is_row_of, fd_is_row_of, d_is_row_of, F_is_row_of⟩ := k_is_row_of
  obtain ⟨_, zc_MOST_ELEMENTS⟩ := Z.c_MOST_ELEMENTS
  exact ⟨a_is_row, fd_is_row, d_is_row, ok_fn d_is_row.fn sc_is_row fun cdv A outer s H E hr => by
    exact (ss_one (ss_ret (se_and (se_isi (by rfl) Z.z_isinstance (X_str Z (by rfl)) (se_var (pv 0))) (se_and (se_chain op_le os_le op_le os_le se_int (se_callB call_lenU ca_lenU (by rfl) Z.z_len bt_len (sa_cons (se_var (pv 0)) sa_nil)) (se_glob (v := .int 8) (by rfl) zc_MOST_ELEMENTS ⟨_, rfl⟩ (fun _ => .int 8))) (se_one (se_call F_is_row_of (hr.mono (by decide)) (by rfl) d_is_row_of.g d_is_row_of.fn.kp d_is_row_of.b (takes_of rfl rfl rfl rfl) (sa_cons (se_callB call_lenU ca_lenU (by rfl) Z.z_len bt_len (sa_cons (se_var (pv 0)) sa_nil)) (sa_cons (se_var (pv 0)) sa_nil))))))))⟩
theorem ok_check_some_row (Z : Glob w K mg) (k_is_row : OkD P w K mg base "is_row" s_is_row ["value"] 3 1 f_is_row) (x_InvalidRow : OkE P w K mg base "InvalidRow" "InvalidRow.__init__" i_InvalidRow) (h0 : ∃ a fd, Df K mg "check_some_row" s_check_some_row ["row"] a fd) : OkD P w K mg base "check_some_row" s_check_some_row ["row"] 4 1 f_check_some_row := by
  obtain ⟨a_check_some_row, fd_check_some_row, d_check_some_row⟩ := h0
  obtain ⟨a_is_row, fd_is_row, d_is_row, F_is_row⟩ := k_is_row
  obtain ⟨C_InvalidRow, fI_InvalidRow, fdI_InvalidRow, E_InvalidRow, I_InvalidRow⟩ := x_InvalidRow
  exact ⟨a_check_some_row, fd_check_some_row, d_check_some_row, ok_fn d_check_some_row.fn sc_check_some_row fun cdv A outer s H E hr => by
    exact (ss_one (ss_if (st_not (st_tru (se_call F_is_row (hr.mono (by decide)) (by rfl) d_is_row.g d_is_row.fn.kp d_is_row.b (takes_of rfl rfl rfl rfl) (sa_cons (se_var (pv 0)) sa_nil)))) (ss_one (ss_raise rfl (takes_of rfl rfl rfl rfl) E_InvalidRow.T E_InvalidRow.iC E_InvalidRow.tI E_InvalidRow.er.no I_InvalidRow (hr.mono (by decide)) E_InvalidRow.b (by rfl) E_InvalidRow.g (sa_cons (se_var (pv 0)) sa_nil))) ss_nil))⟩
theorem ok_check_two (Z : Glob w K mg) (k_is_row_of : OkD P w K mg base "is_row_of" s_is_row_of ["count", "value"] 2 2 f_is_row_of) (k_check_some_row : OkD P w K mg base "check_some_row" s_check_some_row ["row"] 4 1 f_check_some_row) (x_InvalidRow : OkE P w K mg base "InvalidRow" "InvalidRow.__init__" i_InvalidRow) (h0 : ∃ a fd, Df K mg "check_two" s_check_two ["one", "other"] a fd) : OkD P w K mg base "check_two" s_check_two ["one", "other"] 5 2 f_check_two := by
  obtain ⟨a_check_two, fd_check_two, d_check_two⟩ := h0
  obtain ⟨a_is_row_of, fd_is_row_of, d_is_row_of, F_is_row_of⟩ := k_is_row_of
  obtain ⟨a_check_some_row, fd_check_some_row, d_check_some_row, F_check_some_row⟩ := k_check_some_row
  obtain ⟨C_InvalidRow, fI_InvalidRow, fdI_InvalidRow, E_InvalidRow, I_InvalidRow⟩ := x_InvalidRow
  exact ⟨a_check_two, fd_check_two, d_check_two, ok_fn d_check_two.fn sc_check_two fun cdv A outer s H E hr => by
    exact (ss_cons (ss_expr (se_call F_check_some_row (hr.mono (by decide)) (by rfl) d_check_some_row.g d_check_some_row.fn.kp d_check_some_row.b (takes_of rfl rfl rfl rfl) (sa_cons (se_var (pv 0)) sa_nil)))
    (ss_one (ss_if (st_not (st_tru (se_call F_is_row_of (hr.mono (by decide)) (by rfl) d_is_row_of.g d_is_row_of.fn.kp d_is_row_of.b (takes_of rfl rfl rfl rfl) (sa_cons (se_callB call_lenU ca_lenU (by rfl) Z.z_len bt_len (sa_cons (se_var (pv 0)) sa_nil)) (sa_cons (se_var (pv 1)) sa_nil))))) (ss_one (ss_raise rfl (takes_of rfl rfl rfl rfl) E_InvalidRow.T E_InvalidRow.iC E_InvalidRow.tI E_InvalidRow.er.no I_InvalidRow (hr.mono (by decide)) E_InvalidRow.b (by rfl) E_InvalidRow.g (sa_cons (se_var (pv 1)) sa_nil))) ss_nil)))⟩
theorem ok_places_with (Z : Glob w K mg) (h0 : ∃ a fd, Df K mg "places_with" s_places_with ["row", "signs"] a fd) : OkD P w K mg base "places_with" s_places_with ["row", "signs"] 1 2 f_places_with := by
  obtain ⟨a_places_with, fd_places_with, d_places_with⟩ := h0
  exact ⟨a_places_with, fd_places_with, d_places_with, ok_fn d_places_with.fn sc_places_with fun cdv A outer s H E hr => by
    exact (ss_one (ss_ret (se_callTy call_tuple_of ca_tup (by rfl) Z.z_tuple bt_tuple (sa_cons (se_lc rfl sc_places_with.nd (si_enu (by rfl) Z.z_enumerate (sa_cons (se_var (pv 0)) sa_nil)) (blk_by (M := ["row", "signs", "element", "sign"]) (sc := defScope s_places_with) (own := [("element", 2), ("sign", 3)]) rfl rfl (by decide +kernel)) (fun _ _ _ _ _ => by exact (sg_tup rfl (sgs_cons (sg_name sc_places_with.nd rfl (.inl rfl) .none (.inr rfl)) (sgs_cons (sg_name sc_places_with.nd rfl (.inl rfl) .none (.inr rfl)) sgs_nil)))) (fun _ _ _ _ _ => by exact (sts_one (st_in (se_var (pv 3)) (se_var (pv 1)) (by with_unfolding_all rfl)))) (fun _ _ _ _ _ => by exact (se_var (pv 2))) (by decide) .none) sa_nil))))⟩
theorem ok_plus_set (Z : Glob w K mg) (k_check_some_row : OkD P w K mg base "check_some_row" s_check_some_row ["row"] 4 1 f_check_some_row) (k_places_with : OkD P w K mg base "places_with" s_places_with ["row", "signs"] 1 2 f_places_with) (h0 : ∃ a fd, Df K mg "plus_set" s_plus_set ["row"] a fd) : OkD P w K mg base "plus_set" s_plus_set ["row"] 5 1 f_plus_set := by
  obtain ⟨a_plus_set, fd_plus_set, d_plus_set⟩ := h0
  obtain ⟨a_check_some_row, fd_check_some_row, d_check_some_row, F_check_some_row⟩ := k_check_some_row
  obtain ⟨a_places_with, fd_places_with, d_places_with, F_places_with⟩ := k_places_with
  exact ⟨a_plus_set, fd_plus_set, d_plus_set, ok_fn d_plus_set.fn sc_plus_set fun cdv A outer s H E hr => by
    exact (ss_cons (ss_expr (se_call F_check_some_row (hr.mono (by decide)) (by rfl) d_check_some_row.g d_check_some_row.fn.kp d_check_some_row.b (takes_of rfl rfl rfl rfl) (sa_cons (se_var (pv 0)) sa_nil)))
    (ss_one (ss_ret (se_call F_places_with (hr.mono (by decide)) (by rfl) d_places_with.g d_places_with.fn.kp d_places_with.b (takes_of rfl rfl rfl rfl) (sa_cons (se_var (pv 0)) (sa_cons (se_str (s := [43]) rfl (by decide) (by decide)) sa_nil))))))⟩
theorem ok_minus_set (Z : Glob w K mg) (k_check_some_row : OkD P w K mg base "check_some_row" s_check_some_row ["row"] 4 1 f_check_some_row) (k_places_with : OkD P w K mg base "places_with" s_places_with ["row", "signs"] 1 2 f_places_with) (h0 : ∃ a fd, Df K mg "minus_set" s_minus_set ["row"] a fd) : OkD P w K mg base "minus_set" s_minus_set ["row"] 5 1 f_minus_set := by
  obtain ⟨a_minus_set, fd_minus_set, d_minus_set⟩ := h0
  obtain ⟨a_check_some_row, fd_check_some_row, d_check_some_row, F_check_some_row⟩ := k_check_some_row
  obtain ⟨a_places_with, fd_places_with, d_places_with, F_places_with⟩ := k_places_with
  exact ⟨a_minus_set, fd_minus_set, d_minus_set, ok_fn d_minus_set.fn sc_minus_set fun cdv A outer s H E hr => by
    exact (ss_cons (ss_expr (se_call F_check_some_row (hr.mono (by decide)) (by rfl) d_check_some_row.g d_check_some_row.fn.kp d_check_some_row.b (takes_of rfl rfl rfl rfl) (sa_cons (se_var (pv 0)) sa_nil)))
    (ss_one (ss_ret (se_call F_places_with (hr.mono (by decide)) (by rfl) d_places_with.g d_places_with.fn.kp d_places_with.b (takes_of rfl rfl rfl rfl) (sa_cons (se_var (pv 0)) (sa_cons (se_str (s := [45]) rfl (by decide) (by decide)) sa_nil))))))⟩
theorem ok_zero_set (Z : Glob w K mg) (k_check_some_row : OkD P w K mg base "check_some_row" s_check_some_row ["row"] 4 1 f_check_some_row) (k_places_with : OkD P w K mg base "places_with" s_places_with ["row", "signs"] 1 2 f_places_with) (h0 : ∃ a fd, Df K mg "zero_set" s_zero_set ["row"] a fd) : OkD P w K mg base "zero_set" s_zero_set ["row"] 5 1 f_zero_set := by
  obtain ⟨a_zero_set, fd_zero_set, d_zero_set⟩ := h0
  obtain ⟨a_check_some_row, fd_check_some_row, d_check_some_row, F_check_some_row⟩ := k_check_some_row
  obtain ⟨a_places_with, fd_places_with, d_places_with, F_places_with⟩ := k_places_with
  exact ⟨a_zero_set, fd_zero_set, d_zero_set, ok_fn d_zero_set.fn sc_zero_set fun cdv A outer s H E hr => by
    exact (ss_cons (ss_expr (se_call F_check_some_row (hr.mono (by decide)) (by rfl) d_check_some_row.g d_check_some_row.fn.kp d_check_some_row.b (takes_of rfl rfl rfl rfl) (sa_cons (se_var (pv 0)) sa_nil)))
    (ss_one (ss_ret (se_call F_places_with (hr.mono (by decide)) (by rfl) d_places_with.g d_places_with.fn.kp d_places_with.b (takes_of rfl rfl rfl rfl) (sa_cons (se_var (pv 0)) (sa_cons (se_str (s := [48]) rfl (by decide) (by decide)) sa_nil))))))⟩
theorem ok_support (Z : Glob w K mg) (k_check_some_row : OkD P w K mg base "check_some_row" s_check_some_row ["row"] 4 1 f_check_some_row) (k_places_with : OkD P w K mg base "places_with" s_places_with ["row", "signs"] 1 2 f_places_with) (h0 : ∃ a fd, Df K mg "support" s_support ["row"] a fd) : OkD P w K mg base "support" s_support ["row"] 5 1 f_support := by
  obtain ⟨a_support, fd_support, d_support⟩ := h0
  obtain ⟨a_check_some_row, fd_check_some_row, d_check_some_row, F_check_some_row⟩ := k_check_some_row
  obtain ⟨a_places_with, fd_places_with, d_places_with, F_places_with⟩ := k_places_with
  exact ⟨a_support, fd_support, d_support, ok_fn d_support.fn sc_support fun cdv A outer s H E hr => by
    exact (ss_cons (ss_expr (se_call F_check_some_row (hr.mono (by decide)) (by rfl) d_check_some_row.g d_check_some_row.fn.kp d_check_some_row.b (takes_of rfl rfl rfl rfl) (sa_cons (se_var (pv 0)) sa_nil)))
    (ss_one (ss_ret (se_call F_places_with (hr.mono (by decide)) (by rfl) d_places_with.g d_places_with.fn.kp d_places_with.b (takes_of rfl rfl rfl rfl) (sa_cons (se_var (pv 0)) (sa_cons (se_str (s := [43, 45]) rfl (by decide) (by decide)) sa_nil))))))⟩
theorem ok_opposite (Z : Glob w K mg) (k_turned_signs : OkD P w K mg base "turned_signs" s_turned_signs ["row"] 3 1 f_turned_signs) (k_check_some_row : OkD P w K mg base "check_some_row" s_check_some_row ["row"] 4 1 f_check_some_row) (h0 : ∃ a fd, Df K mg "opposite" s_opposite ["row"] a fd) : OkD P w K mg base "opposite" s_opposite ["row"] 5 1 f_opposite := by
  obtain ⟨a_opposite, fd_opposite, d_opposite⟩ := h0
  obtain ⟨a_turned_signs, fd_turned_signs, d_turned_signs, F_turned_signs⟩ := k_turned_signs
  obtain ⟨a_check_some_row, fd_check_some_row, d_check_some_row, F_check_some_row⟩ := k_check_some_row
  exact ⟨a_opposite, fd_opposite, d_opposite, ok_fn d_opposite.fn sc_opposite fun cdv A outer s H E hr => by
    exact (ss_cons (ss_expr (se_call F_check_some_row (hr.mono (by decide)) (by rfl) d_check_some_row.g d_check_some_row.fn.kp d_check_some_row.b (takes_of rfl rfl rfl rfl) (sa_cons (se_var (pv 0)) sa_nil)))
    (ss_one (ss_ret (se_call F_turned_signs (hr.mono (by decide)) (by rfl) d_turned_signs.g d_turned_signs.fn.kp d_turned_signs.b (takes_of rfl rfl rfl rfl) (sa_cons (se_var (pv 0)) sa_nil)))))⟩
theorem ok_row_of (Z : Glob w K mg) (k_is_between : OkD P w K mg base "is_between" s_is_between ["value", "least", "most"] 2 3 f_is_between) (k_is_elements : OkD P w K mg base "is_elements" s_is_elements ["count", "value"] 4 2 f_is_elements) (k_row_of_numbers : OkD P w K mg base "row_of_numbers" s_row_of_numbers ["numbers"] 2 1 f_row_of_numbers) (x_InvalidCount : OkE P w K mg base "InvalidCount" "InvalidCount.__init__" i_InvalidCount) (x_InvalidSet : OkE P w K mg base "InvalidSet" "InvalidSet.__init__" i_InvalidSet) (h0 : ∃ a fd, Df K mg "row_of" s_row_of ["count", "plus", "minus"] a fd) : OkD P w K mg base "row_of" s_row_of ["count", "plus", "minus"] 5 3 f_row_of := by
  obtain ⟨a_row_of, fd_row_of, d_row_of⟩ := h0
  obtain ⟨a_is_between, fd_is_between, d_is_between, F_is_between⟩ := k_is_between
  obtain ⟨a_is_elements, fd_is_elements, d_is_elements, F_is_elements⟩ := k_is_elements
  obtain ⟨a_row_of_numbers, fd_row_of_numbers, d_row_of_numbers, F_row_of_numbers⟩ := k_row_of_numbers
  obtain ⟨C_InvalidCount, fI_InvalidCount, fdI_InvalidCount, E_InvalidCount, I_InvalidCount⟩ := x_InvalidCount
  obtain ⟨C_InvalidSet, fI_InvalidSet, fdI_InvalidSet, E_InvalidSet, I_InvalidSet⟩ := x_InvalidSet
  obtain ⟨_, zc_MOST_ELEMENTS⟩ := Z.c_MOST_ELEMENTS
  exact ⟨a_row_of, fd_row_of, d_row_of, ok_fn d_row_of.fn sc_row_of fun cdv A outer s H E hr => by
    exact (ss_cons (ss_if (st_not (st_tru (se_call F_is_between (hr.mono (by decide)) (by rfl) d_is_between.g d_is_between.fn.kp d_is_between.b (takes_of rfl rfl rfl rfl) (sa_cons (se_var (pv 0)) (sa_cons se_int (sa_cons (se_glob (v := .int 8) (by rfl) zc_MOST_ELEMENTS ⟨_, rfl⟩ (fun _ => .int 8)) sa_nil)))))) (ss_one (ss_raise rfl (takes_of rfl rfl rfl rfl) E_InvalidCount.T E_InvalidCount.iC E_InvalidCount.tI E_InvalidCount.er.no I_InvalidCount (hr.mono (by decide)) E_InvalidCount.b (by rfl) E_InvalidCount.g (sa_cons (se_var (pv 0)) sa_nil))) ss_nil)
    (ss_cons (ss_if (st_not (st_tru (se_call F_is_elements (hr.mono (by decide)) (by rfl) d_is_elements.g d_is_elements.fn.kp d_is_elements.b (takes_of rfl rfl rfl rfl) (sa_cons (se_var (pv 0)) (sa_cons (se_var (pv 1)) sa_nil))))) (ss_one (ss_raise rfl (takes_of rfl rfl rfl rfl) E_InvalidSet.T E_InvalidSet.iC E_InvalidSet.tI E_InvalidSet.er.no I_InvalidSet (hr.mono (by decide)) E_InvalidSet.b (by rfl) E_InvalidSet.g (sa_cons (se_var (pv 1)) sa_nil))) ss_nil)
    (ss_cons (ss_if (st_w (sw_or (st_not (st_tru (se_call F_is_elements (hr.mono (by decide)) (by rfl) d_is_elements.g d_is_elements.fn.kp d_is_elements.b (takes_of rfl rfl rfl rfl) (sa_cons (se_var (pv 0)) (sa_cons (se_var (pv 2)) sa_nil))))) (sw_or1 (st_tru (se_callB (cr_any rfl) ca_any (by rfl) Z.z_any bt_any (sa_cons (se_lc rfl sc_row_of.nd (si_one (se_var (pv 2))) (blk_by (M := ["count", "plus", "minus", "element"]) (sc := defScope s_row_of) (own := [("element", 3)]) rfl rfl (by decide +kernel)) (fun _ _ _ _ _ => by exact (sg_name sc_row_of.nd rfl (.inl rfl) .none (.inr rfl))) (fun _ _ _ _ _ => by exact sts_nil) (fun _ _ _ _ _ => by exact (se_in (se_var (pv 3)) (se_var (pv 1)) (by with_unfolding_all rfl))) (by decide) .none) sa_nil)))))) (ss_one (ss_raise rfl (takes_of rfl rfl rfl rfl) E_InvalidSet.T E_InvalidSet.iC E_InvalidSet.tI E_InvalidSet.er.no I_InvalidSet (hr.mono (by decide)) E_InvalidSet.b (by rfl) E_InvalidSet.g (sa_cons (se_var (pv 2)) sa_nil))) ss_nil)
    (ss_one (ss_ret (se_call F_row_of_numbers (hr.mono (by decide)) (by rfl) d_row_of_numbers.g d_row_of_numbers.fn.kp d_row_of_numbers.b (takes_of rfl rfl rfl rfl) (sa_cons (se_lc rfl sc_row_of.nd (si_rng1 (by rfl) Z.z_range (sa_cons (se_var (pv 0)) sa_nil)) (blk_by (M := ["count", "plus", "minus", "element"]) (sc := defScope s_row_of) (own := [("element", 3)]) rfl rfl (by decide +kernel)) (fun _ _ _ _ _ => by exact (sg_name sc_row_of.nd rfl (.inl rfl) .none (.inr rfl))) (fun _ _ _ _ _ => by exact sts_nil) (fun _ _ _ _ _ => by exact (se_sub (se_callTy call_int1 ca_int (by rfl) Z.z_int bt_int (sa_cons (se_in (se_var (pv 3)) (se_var (pv 1)) (by with_unfolding_all rfl)) sa_nil)) (se_callTy call_int1 ca_int (by rfl) Z.z_int bt_int (sa_cons (se_in (se_var (pv 3)) (se_var (pv 2)) (by with_unfolding_all rfl)) sa_nil)))) (by decide) .none) sa_nil)))))))⟩
theorem ok_check_members (Z : Glob w K mg) (k_is_elements : OkD P w K mg base "is_elements" s_is_elements ["count", "value"] 4 2 f_is_elements) (k_check_some_row : OkD P w K mg base "check_some_row" s_check_some_row ["row"] 4 1 f_check_some_row) (x_InvalidSet : OkE P w K mg base "InvalidSet" "InvalidSet.__init__" i_InvalidSet) (h0 : ∃ a fd, Df K mg "check_members" s_check_members ["row", "members"] a fd) : OkD P w K mg base "check_members" s_check_members ["row", "members"] 5 2 f_check_members := by
  obtain ⟨a_check_members, fd_check_members, d_check_members⟩ := h0
  obtain ⟨a_is_elements, fd_is_elements, d_is_elements, F_is_elements⟩ := k_is_elements
  obtain ⟨a_check_some_row, fd_check_some_row, d_check_some_row, F_check_some_row⟩ := k_check_some_row
  obtain ⟨C_InvalidSet, fI_InvalidSet, fdI_InvalidSet, E_InvalidSet, I_InvalidSet⟩ := x_InvalidSet
  exact ⟨a_check_members, fd_check_members, d_check_members, ok_fn d_check_members.fn sc_check_members fun cdv A outer s H E hr => by
    exact (ss_cons (ss_expr (se_call F_check_some_row (hr.mono (by decide)) (by rfl) d_check_some_row.g d_check_some_row.fn.kp d_check_some_row.b (takes_of rfl rfl rfl rfl) (sa_cons (se_var (pv 0)) sa_nil)))
    (ss_one (ss_if (st_not (st_tru (se_call F_is_elements (hr.mono (by decide)) (by rfl) d_is_elements.g d_is_elements.fn.kp d_is_elements.b (takes_of rfl rfl rfl rfl) (sa_cons (se_callB call_lenU ca_lenU (by rfl) Z.z_len bt_len (sa_cons (se_var (pv 0)) sa_nil)) (sa_cons (se_var (pv 1)) sa_nil))))) (ss_one (ss_raise rfl (takes_of rfl rfl rfl rfl) E_InvalidSet.T E_InvalidSet.iC E_InvalidSet.tI E_InvalidSet.er.no I_InvalidSet (hr.mono (by decide)) E_InvalidSet.b (by rfl) E_InvalidSet.g (sa_cons (se_var (pv 1)) sa_nil))) ss_nil)))⟩
theorem ok_turned_at (Z : Glob w K mg) (k_row_of_numbers : OkD P w K mg base "row_of_numbers" s_row_of_numbers ["numbers"] 2 1 f_row_of_numbers) (k_numbers_of : OkD P w K mg base "numbers_of" s_numbers_of ["row"] 1 1 f_numbers_of) (h0 : ∃ a fd, Df K mg "turned_at" s_turned_at ["row", "members"] a fd) : OkD P w K mg base "turned_at" s_turned_at ["row", "members"] 3 2 f_turned_at := by
  obtain ⟨a_turned_at, fd_turned_at, d_turned_at⟩ := h0
  obtain ⟨a_row_of_numbers, fd_row_of_numbers, d_row_of_numbers, F_row_of_numbers⟩ := k_row_of_numbers
  obtain ⟨a_numbers_of, fd_numbers_of, d_numbers_of, F_numbers_of⟩ := k_numbers_of
  exact ⟨a_turned_at, fd_turned_at, d_turned_at, ok_fn d_turned_at.fn sc_turned_at fun cdv A outer s H E hr => by
    exact (ss_one (ss_ret (se_call F_row_of_numbers (hr.mono (by decide)) (by rfl) d_row_of_numbers.g d_row_of_numbers.fn.kp d_row_of_numbers.b (takes_of rfl rfl rfl rfl) (sa_cons (se_lc rfl sc_turned_at.nd (si_enu (by rfl) Z.z_enumerate (sa_cons (se_call F_numbers_of (hr.mono (by decide)) (by rfl) d_numbers_of.g d_numbers_of.fn.kp d_numbers_of.b (takes_of rfl rfl rfl rfl) (sa_cons (se_var (pv 0)) sa_nil)) sa_nil)) (blk_by (M := ["row", "members", "element", "n"]) (sc := defScope s_turned_at) (own := [("element", 2), ("n", 3)]) rfl rfl (by decide +kernel)) (fun _ _ _ _ _ => by exact (sg_tup rfl (sgs_cons (sg_name sc_turned_at.nd rfl (.inl rfl) .none (.inr rfl)) (sgs_cons (sg_name sc_turned_at.nd rfl (.inl rfl) .none (.inr rfl)) sgs_nil)))) (fun _ _ _ _ _ => by exact sts_nil) (fun _ _ _ _ _ => by exact (se_if (st_in (se_var (pv 2)) (se_var (pv 1)) (by with_unfolding_all rfl)) (se_neg (se_var (pv 3))) (se_var (pv 3)))) (by decide) .none) sa_nil))))⟩
theorem ok_turned_row (Z : Glob w K mg) (k_check_members : OkD P w K mg base "check_members" s_check_members ["row", "members"] 5 2 f_check_members) (k_turned_at : OkD P w K mg base "turned_at" s_turned_at ["row", "members"] 3 2 f_turned_at) (h0 : ∃ a fd, Df K mg "turned_row" s_turned_row ["row", "members"] a fd) : OkD P w K mg base "turned_row" s_turned_row ["row", "members"] 6 2 f_turned_row := by
  obtain ⟨a_turned_row, fd_turned_row, d_turned_row⟩ := h0
  obtain ⟨a_check_members, fd_check_members, d_check_members, F_check_members⟩ := k_check_members
  obtain ⟨a_turned_at, fd_turned_at, d_turned_at, F_turned_at⟩ := k_turned_at
  exact ⟨a_turned_row, fd_turned_row, d_turned_row, ok_fn d_turned_row.fn sc_turned_row fun cdv A outer s H E hr => by
    exact (ss_cons (ss_expr (se_call F_check_members (hr.mono (by decide)) (by rfl) d_check_members.g d_check_members.fn.kp d_check_members.b (takes_of rfl rfl rfl rfl) (sa_cons (se_var (pv 0)) (sa_cons (se_var (pv 1)) sa_nil))))
    (ss_one (ss_ret (se_call F_turned_at (hr.mono (by decide)) (by rfl) d_turned_at.g d_turned_at.fn.kp d_turned_at.b (takes_of rfl rfl rfl rfl) (sa_cons (se_var (pv 0)) (sa_cons (se_var (pv 1)) sa_nil))))))⟩
theorem ok_part_of (Z : Glob w K mg) (k_check_members : OkD P w K mg base "check_members" s_check_members ["row", "members"] 5 2 f_check_members) (h0 : ∃ a fd, Df K mg "part_of" s_part_of ["row", "members"] a fd) : OkD P w K mg base "part_of" s_part_of ["row", "members"] 6 2 f_part_of := by
  obtain ⟨a_part_of, fd_part_of, d_part_of⟩ := h0
  obtain ⟨a_check_members, fd_check_members, d_check_members, F_check_members⟩ := k_check_members
  exact ⟨a_part_of, fd_part_of, d_part_of, ok_fn d_part_of.fn sc_part_of fun cdv A outer s H E hr => by
    exact (ss_cons (ss_expr (se_call F_check_members (hr.mono (by decide)) (by rfl) d_check_members.g d_check_members.fn.kp d_check_members.b (takes_of rfl rfl rfl rfl) (sa_cons (se_var (pv 0)) (sa_cons (se_var (pv 1)) sa_nil))))
    (ss_one (ss_ret (se_join (se_str (s := []) rfl (by decide) (by decide)) (sa_cons (se_lc rfl sc_part_of.nd (si_one (se_var (pv 1))) (blk_by (M := ["row", "members", "element"]) (sc := defScope s_part_of) (own := [("element", 2)]) rfl rfl (by decide +kernel)) (fun _ _ _ _ _ => by exact (sg_name sc_part_of.nd rfl (.inl rfl) .none (.inr rfl))) (fun _ _ _ _ _ => by exact sts_nil) (fun _ _ _ _ _ => by exact (se_ix (se_var (pv 0)) (se_var (pv 2)))) (by decide) .none) sa_nil)))))⟩
theorem ok_composition (Z : Glob w K mg) (h0 : ∃ a fd, Df K mg "composition" s_composition ["one", "other"] a fd) : OkD P w K mg base "composition" s_composition ["one", "other"] 1 2 f_composition := by
  obtain ⟨a_composition, fd_composition, d_composition⟩ := h0
  exact ⟨a_composition, fd_composition, d_composition, ok_fn d_composition.fn sc_composition fun cdv A outer s H E hr => by
    exact (ss_one (ss_ret (se_join (se_str (s := []) rfl (by decide) (by decide)) (sa_cons (se_lc rfl sc_composition.nd (si_zip (by rfl) Z.z_zip (sa_cons (se_var (pv 0)) (sa_cons (se_var (pv 1)) sa_nil))) (blk_by (M := ["one", "other", "sign", "more"]) (sc := defScope s_composition) (own := [("sign", 2), ("more", 3)]) rfl rfl (by decide +kernel)) (fun _ _ _ _ _ => by exact (sg_tup rfl (sgs_cons (sg_name sc_composition.nd rfl (.inl rfl) .none (.inr rfl)) (sgs_cons (sg_name sc_composition.nd rfl (.inl rfl) .none (.inr rfl)) sgs_nil)))) (fun _ _ _ _ _ => by exact sts_nil) (fun _ _ _ _ _ => by exact (se_if (st_cmp (op_neD hr.units) os_ne (se_var (pv 2)) (se_str (s := [48]) rfl (by decide) (by decide)) (nomark _)) (se_var (pv 2)) (se_var (pv 3)))) (by decide) .none) sa_nil))))⟩
theorem ok_composed (Z : Glob w K mg) (k_check_two : OkD P w K mg base "check_two" s_check_two ["one", "other"] 5 2 f_check_two) (k_composition : OkD P w K mg base "composition" s_composition ["one", "other"] 1 2 f_composition) (h0 : ∃ a fd, Df K mg "composed" s_composed ["one", "other"] a fd) : OkD P w K mg base "composed" s_composed ["one", "other"] 6 2 f_composed := by
  obtain ⟨a_composed, fd_composed, d_composed⟩ := h0
  obtain ⟨a_check_two, fd_check_two, d_check_two, F_check_two⟩ := k_check_two
  obtain ⟨a_composition, fd_composition, d_composition, F_composition⟩ := k_composition
  exact ⟨a_composed, fd_composed, d_composed, ok_fn d_composed.fn sc_composed fun cdv A outer s H E hr => by
    exact (ss_cons (ss_expr (se_call F_check_two (hr.mono (by decide)) (by rfl) d_check_two.g d_check_two.fn.kp d_check_two.b (takes_of rfl rfl rfl rfl) (sa_cons (se_var (pv 0)) (sa_cons (se_var (pv 1)) sa_nil))))
    (ss_one (ss_ret (se_call F_composition (hr.mono (by decide)) (by rfl) d_composition.g d_composition.fn.kp d_composition.b (takes_of rfl rfl rfl rfl) (sa_cons (se_var (pv 0)) (sa_cons (se_var (pv 1)) sa_nil))))))⟩
theorem ok_products (Z : Glob w K mg) (k_numbers_of : OkD P w K mg base "numbers_of" s_numbers_of ["row"] 1 1 f_numbers_of) (h0 : ∃ a fd, Df K mg "products" s_products ["one", "other"] a fd) : OkD P w K mg base "products" s_products ["one", "other"] 2 2 f_products := by
  obtain ⟨a_products, fd_products, d_products⟩ := h0
  obtain ⟨a_numbers_of, fd_numbers_of, d_numbers_of, F_numbers_of⟩ := k_numbers_of
  exact ⟨a_products, fd_products, d_products, ok_fn d_products.fn sc_products fun cdv A outer s H E hr => by
    exact (ss_one (ss_ret (se_lc rfl sc_products.nd (si_zip (by rfl) Z.z_zip (sa_cons (se_call F_numbers_of (hr.mono (by decide)) (by rfl) d_numbers_of.g d_numbers_of.fn.kp d_numbers_of.b (takes_of rfl rfl rfl rfl) (sa_cons (se_var (pv 0)) sa_nil)) (sa_cons (se_call F_numbers_of (hr.mono (by decide)) (by rfl) d_numbers_of.g d_numbers_of.fn.kp d_numbers_of.b (takes_of rfl rfl rfl rfl) (sa_cons (se_var (pv 1)) sa_nil)) sa_nil))) (blk_by (M := ["one", "other", "first", "second"]) (sc := defScope s_products) (own := [("first", 2), ("second", 3)]) rfl rfl (by decide +kernel)) (fun _ _ _ _ _ => by exact (sg_tup rfl (sgs_cons (sg_name sc_products.nd rfl (.inl rfl) .none (.inr rfl)) (sgs_cons (sg_name sc_products.nd rfl (.inl rfl) .none (.inr rfl)) sgs_nil)))) (fun _ _ _ _ _ => by exact sts_nil) (fun _ _ _ _ _ => by exact (se_mul (se_var (pv 2)) (se_var (pv 3)))) (by decide) .none)))⟩
theorem ok_product_row (Z : Glob w K mg) (k_row_of_numbers : OkD P w K mg base "row_of_numbers" s_row_of_numbers ["numbers"] 2 1 f_row_of_numbers) (k_check_two : OkD P w K mg base "check_two" s_check_two ["one", "other"] 5 2 f_check_two) (k_products : OkD P w K mg base "products" s_products ["one", "other"] 2 2 f_products) (h0 : ∃ a fd, Df K mg "product_row" s_product_row ["one", "other"] a fd) : OkD P w K mg base "product_row" s_product_row ["one", "other"] 6 2 f_product_row := by
  obtain ⟨a_product_row, fd_product_row, d_product_row⟩ := h0
  obtain ⟨a_row_of_numbers, fd_row_of_numbers, d_row_of_numbers, F_row_of_numbers⟩ := k_row_of_numbers
  obtain ⟨a_check_two, fd_check_two, d_check_two, F_check_two⟩ := k_check_two
  obtain ⟨a_products, fd_products, d_products, F_products⟩ := k_products
  exact ⟨a_product_row, fd_product_row, d_product_row, ok_fn d_product_row.fn sc_product_row fun cdv A outer s H E hr => by
    exact (ss_cons (ss_expr (se_call F_check_two (hr.mono (by decide)) (by rfl) d_check_two.g d_check_two.fn.kp d_check_two.b (takes_of rfl rfl rfl rfl) (sa_cons (se_var (pv 0)) (sa_cons (se_var (pv 1)) sa_nil))))
    (ss_one (ss_ret (se_call F_row_of_numbers (hr.mono (by decide)) (by rfl) d_row_of_numbers.g d_row_of_numbers.fn.kp d_row_of_numbers.b (takes_of rfl rfl rfl rfl) (sa_cons (se_call F_products (hr.mono (by decide)) (by rfl) d_products.g d_products.fn.kp d_products.b (takes_of rfl rfl rfl rfl) (sa_cons (se_var (pv 0)) (sa_cons (se_var (pv 1)) sa_nil))) sa_nil)))))⟩
theorem ok_parted_of (Z : Glob w K mg) (k_products : OkD P w K mg base "products" s_products ["one", "other"] 2 2 f_products) (h0 : ∃ a fd, Df K mg "parted_of" s_parted_of ["one", "other"] a fd) : OkD P w K mg base "parted_of" s_parted_of ["one", "other"] 3 2 f_parted_of := by
  obtain ⟨a_parted_of, fd_parted_of, d_parted_of⟩ := h0
  obtain ⟨a_products, fd_products, d_products, F_products⟩ := k_products
  exact ⟨a_parted_of, fd_parted_of, d_parted_of, ok_fn d_parted_of.fn sc_parted_of fun cdv A outer s H E hr => by
    exact (ss_one (ss_ret (se_callTy call_tuple_of ca_tup (by rfl) Z.z_tuple bt_tuple (sa_cons (se_lc rfl sc_parted_of.nd (si_enu (by rfl) Z.z_enumerate (sa_cons (se_call F_products (hr.mono (by decide)) (by rfl) d_products.g d_products.fn.kp d_products.b (takes_of rfl rfl rfl rfl) (sa_cons (se_var (pv 0)) (sa_cons (se_var (pv 1)) sa_nil))) sa_nil)) (blk_by (M := ["one", "other", "element", "number"]) (sc := defScope s_parted_of) (own := [("element", 2), ("number", 3)]) rfl rfl (by decide +kernel)) (fun _ _ _ _ _ => by exact (sg_tup rfl (sgs_cons (sg_name sc_parted_of.nd rfl (.inl rfl) .none (.inr rfl)) (sgs_cons (sg_name sc_parted_of.nd rfl (.inl rfl) .none (.inr rfl)) sgs_nil)))) (fun _ _ _ _ _ => by exact (sts_one (st_cmp op_lt os_lt (se_var (pv 3)) se_int (nomark _)))) (fun _ _ _ _ _ => by exact (se_var (pv 2))) (by decide) .none) sa_nil))))⟩
theorem ok_parted_set (Z : Glob w K mg) (k_check_two : OkD P w K mg base "check_two" s_check_two ["one", "other"] 5 2 f_check_two) (k_parted_of : OkD P w K mg base "parted_of" s_parted_of ["one", "other"] 3 2 f_parted_of) (h0 : ∃ a fd, Df K mg "parted_set" s_parted_set ["one", "other"] a fd) : OkD P w K mg base "parted_set" s_parted_set ["one", "other"] 6 2 f_parted_set := by
  obtain ⟨a_parted_set, fd_parted_set, d_parted_set⟩ := h0
  obtain ⟨a_check_two, fd_check_two, d_check_two, F_check_two⟩ := k_check_two
  obtain ⟨a_parted_of, fd_parted_of, d_parted_of, F_parted_of⟩ := k_parted_of
  exact ⟨a_parted_set, fd_parted_set, d_parted_set, ok_fn d_parted_set.fn sc_parted_set fun cdv A outer s H E hr => by
    exact (ss_cons (ss_expr (se_call F_check_two (hr.mono (by decide)) (by rfl) d_check_two.g d_check_two.fn.kp d_check_two.b (takes_of rfl rfl rfl rfl) (sa_cons (se_var (pv 0)) (sa_cons (se_var (pv 1)) sa_nil))))
    (ss_one (ss_ret (se_call F_parted_of (hr.mono (by decide)) (by rfl) d_parted_of.g d_parted_of.fn.kp d_parted_of.b (takes_of rfl rfl rfl rfl) (sa_cons (se_var (pv 0)) (sa_cons (se_var (pv 1)) sa_nil))))))⟩
theorem ok_fit_together (Z : Glob w K mg) (k_products : OkD P w K mg base "products" s_products ["one", "other"] 2 2 f_products) (h0 : ∃ a fd, Df K mg "fit_together" s_fit_together ["one", "other"] a fd) : OkD P w K mg base "fit_together" s_fit_together ["one", "other"] 3 2 f_fit_together := by
  obtain ⟨a_fit_together, fd_fit_together, d_fit_together⟩ := h0
  obtain ⟨a_products, fd_products, d_products, F_products⟩ := k_products
  exact ⟨a_fit_together, fd_fit_together, d_fit_together, ok_fn d_fit_together.fn sc_fit_together fun cdv A outer s H E hr => by
    exact (ss_cons (ss_set (i := 2) (n := 0) sc_fit_together.nd rfl (.inl rfl) .none (.inl rfl) (se_call F_products (hr.mono (by decide)) (by rfl) d_products.g d_products.fn.kp d_products.b (takes_of rfl rfl rfl rfl) (sa_cons (se_var (pv 0)) (sa_cons (se_var (pv 1)) sa_nil))))
    (ss_one (ss_ret (se_cmp (op_eqD hr.units) os_eq (se_in se_int (se_var (pv 2)) (by with_unfolding_all rfl)) (se_in (se_neg se_int) (se_var (pv 2)) (by with_unfolding_all rfl)) (nomark _)))))⟩
theorem ok_are_orthogonal (Z : Glob w K mg) (k_check_two : OkD P w K mg base "check_two" s_check_two ["one", "other"] 5 2 f_check_two) (k_fit_together : OkD P w K mg base "fit_together" s_fit_together ["one", "other"] 3 2 f_fit_together) (h0 : ∃ a fd, Df K mg "are_orthogonal" s_are_orthogonal ["one", "other"] a fd) : OkD P w K mg base "are_orthogonal" s_are_orthogonal ["one", "other"] 6 2 f_are_orthogonal := by
  obtain ⟨a_are_orthogonal, fd_are_orthogonal, d_are_orthogonal⟩ := h0
  obtain ⟨a_check_two, fd_check_two, d_check_two, F_check_two⟩ := k_check_two
  obtain ⟨a_fit_together, fd_fit_together, d_fit_together, F_fit_together⟩ := k_fit_together
  exact ⟨a_are_orthogonal, fd_are_orthogonal, d_are_orthogonal, ok_fn d_are_orthogonal.fn sc_are_orthogonal fun cdv A outer s H E hr => by
    exact (ss_cons (ss_expr (se_call F_check_two (hr.mono (by decide)) (by rfl) d_check_two.g d_check_two.fn.kp d_check_two.b (takes_of rfl rfl rfl rfl) (sa_cons (se_var (pv 0)) (sa_cons (se_var (pv 1)) sa_nil))))
    (ss_one (ss_ret (se_call F_fit_together (hr.mono (by decide)) (by rfl) d_fit_together.g d_fit_together.fn.kp d_fit_together.b (takes_of rfl rfl rfl rfl) (sa_cons (se_var (pv 0)) (sa_cons (se_var (pv 1)) sa_nil))))))⟩
theorem ok_is_under (Z : Glob w K mg) (h0 : ∃ a fd, Df K mg "is_under" s_is_under ["one", "other"] a fd) : OkD P w K mg base "is_under" s_is_under ["one", "other"] 1 2 f_is_under := by
  obtain ⟨a_is_under, fd_is_under, d_is_under⟩ := h0
  exact ⟨a_is_under, fd_is_under, d_is_under, ok_fn d_is_under.fn sc_is_under fun cdv A outer s H E hr => by
    exact (ss_one (ss_ret (se_callB (cr_all rfl) ca_all (by rfl) Z.z_all bt_all (sa_cons (se_lc rfl sc_is_under.nd (si_zip (by rfl) Z.z_zip (sa_cons (se_var (pv 0)) (sa_cons (se_var (pv 1)) sa_nil))) (blk_by (M := ["one", "other", "sign", "more"]) (sc := defScope s_is_under) (own := [("sign", 2), ("more", 3)]) rfl rfl (by decide +kernel)) (fun _ _ _ _ _ => by exact (sg_tup rfl (sgs_cons (sg_name sc_is_under.nd rfl (.inl rfl) .none (.inr rfl)) (sgs_cons (sg_name sc_is_under.nd rfl (.inl rfl) .none (.inr rfl)) sgs_nil)))) (fun _ _ _ _ _ => by exact sts_nil) (fun _ _ _ _ _ => by exact (se_in (se_var (pv 2)) (se_tup (sa_cons (se_str (s := [48]) rfl (by decide) (by decide)) (sa_cons (se_var (pv 3)) sa_nil))) (by with_unfolding_all rfl))) (by decide) .none) sa_nil))))⟩
theorem ok_lies_below (Z : Glob w K mg) (k_check_two : OkD P w K mg base "check_two" s_check_two ["one", "other"] 5 2 f_check_two) (k_is_under : OkD P w K mg base "is_under" s_is_under ["one", "other"] 1 2 f_is_under) (h0 : ∃ a fd, Df K mg "lies_below" s_lies_below ["one", "other"] a fd) : OkD P w K mg base "lies_below" s_lies_below ["one", "other"] 6 2 f_lies_below := by
  obtain ⟨a_lies_below, fd_lies_below, d_lies_below⟩ := h0
  obtain ⟨a_check_two, fd_check_two, d_check_two, F_check_two⟩ := k_check_two
  obtain ⟨a_is_under, fd_is_under, d_is_under, F_is_under⟩ := k_is_under
  exact ⟨a_lies_below, fd_lies_below, d_lies_below, ok_fn d_lies_below.fn sc_lies_below fun cdv A outer s H E hr => by
    exact (ss_cons (ss_expr (se_call F_check_two (hr.mono (by decide)) (by rfl) d_check_two.g d_check_two.fn.kp d_check_two.b (takes_of rfl rfl rfl rfl) (sa_cons (se_var (pv 0)) (sa_cons (se_var (pv 1)) sa_nil))))
    (ss_one (ss_ret (se_call F_is_under (hr.mono (by decide)) (by rfl) d_is_under.g d_is_under.fn.kp d_is_under.b (takes_of rfl rfl rfl rfl) (sa_cons (se_var (pv 0)) (sa_cons (se_var (pv 1)) sa_nil))))))⟩
theorem ok_meets_of (Z : Glob w K mg) (k_check_two : OkD P w K mg base "check_two" s_check_two ["one", "other"] 5 2 f_check_two) (h0 : ∃ a fd, Df K mg "meets_of" s_meets_of ["one", "other"] a fd) : OkD P w K mg base "meets_of" s_meets_of ["one", "other"] 6 2 f_meets_of := by
  obtain ⟨a_meets_of, fd_meets_of, d_meets_of⟩ := h0
  obtain ⟨a_check_two, fd_check_two, d_check_two, F_check_two⟩ := k_check_two
  exact ⟨a_meets_of, fd_meets_of, d_meets_of, ok_fn d_meets_of.fn sc_meets_of fun cdv A outer s H E hr => by
    exact (ss_cons (ss_expr (se_call F_check_two (hr.mono (by decide)) (by rfl) d_check_two.g d_check_two.fn.kp d_check_two.b (takes_of rfl rfl rfl rfl) (sa_cons (se_var (pv 0)) (sa_cons (se_var (pv 1)) sa_nil))))
    (ss_one (ss_ret (se_join (se_str (s := []) rfl (by decide) (by decide)) (sa_cons (se_lc rfl sc_meets_of.nd (si_zip (by rfl) Z.z_zip (sa_cons (se_var (pv 0)) (sa_cons (se_var (pv 1)) sa_nil))) (blk_by (M := ["one", "other", "sign", "more"]) (sc := defScope s_meets_of) (own := [("sign", 2), ("more", 3)]) rfl rfl (by decide +kernel)) (fun _ _ _ _ _ => by exact (sg_tup rfl (sgs_cons (sg_name sc_meets_of.nd rfl (.inl rfl) .none (.inr rfl)) (sgs_cons (sg_name sc_meets_of.nd rfl (.inl rfl) .none (.inr rfl)) sgs_nil)))) (fun _ _ _ _ _ => by exact sts_nil) (fun _ _ _ _ _ => by exact (se_if (st_cmp (op_eqD hr.units) os_eq (se_var (pv 2)) (se_var (pv 3)) (nomark _)) (se_var (pv 2)) (se_str (s := [48]) rfl (by decide) (by decide)))) (by decide) .none) sa_nil)))))⟩
theorem ok__law_cell (Z : Glob w K mg) (h0 : ∃ a fd, Df K mg "_law_cell" s__law_cell ["script", "k"] a fd) : OkD P w K mg base "_law_cell" s__law_cell ["script", "k"] 1 2 f__law_cell := by
  obtain ⟨a__law_cell, fd__law_cell, d__law_cell⟩ := h0
  exact ⟨a__law_cell, fd__law_cell, d__law_cell, ok_fn d__law_cell.fn sc__law_cell fun cdv A outer s H E hr => by
    exact (ss_one (ss_ret (se_if (st_cmp op_lt os_lt (se_var (pv 1)) (se_callB call_lenU ca_lenU (by rfl) Z.z_len bt_len (sa_cons (se_var (pv 0)) sa_nil)) (nomark _)) (se_ix (se_var (pv 0)) (se_var (pv 1))) (se_add (se_mul se_int (se_var (pv 1))) (se_mod (se_callTy call_int1 ca_int (by rfl) Z.z_int bt_int (sa_cons (se_callB (cr_sum rfl) ca_sum (by rfl) Z.z_sum bt_sum (sa_cons (se_sl (se_var (pv 0)) so_none (so_some se_int)) sa_nil)) sa_nil)) se_int)))))⟩
theorem ok__law_box (Z : Glob w K mg) (h0 : ∃ a fd, Df K mg "_law_box" s__law_box ["great"] a fd) : OkD P w K mg base "_law_box" s__law_box ["great"] 1 1 f__law_box := by
  obtain ⟨a__law_box, fd__law_box, d__law_box⟩ := h0
  exact ⟨a__law_box, fd__law_box, d__law_box, ok_fn d__law_box.fn sc__law_box fun cdv A outer s H E hr => by
    exact (ss_one (ss_ret (se_lst (sa_cons (se_callB call_abs ca_abs (by rfl) Z.z_abs bt_abs (sa_cons (se_var (pv 0)) sa_nil)) (sa_cons (se_cmp op_ge os_ge (se_callB call_abs ca_abs (by rfl) Z.z_abs bt_abs (sa_cons (se_var (pv 0)) sa_nil)) (se_pow se_int se_int) (nomark _)) (sa_cons (se_mod (se_callTy call_int1 ca_int (by rfl) Z.z_int bt_int (sa_cons (se_callB call_abs ca_abs (by rfl) Z.z_abs bt_abs (sa_cons (se_var (pv 0)) sa_nil)) sa_nil)) se_int) (sa_cons se_int sa_nil)))))))⟩
theorem ok__law_take (Z : Glob w K mg) (h0 : ∃ a fd, Df K mg "_law_take" s__law_take ["box", "many"] a fd) : OkD P w K mg base "_law_take" s__law_take ["box", "many"] 1 2 f__law_take := by
  obtain ⟨a__law_take, fd__law_take, d__law_take⟩ := h0
  exact ⟨a__law_take, fd__law_take, d__law_take, ok_fn d__law_take.fn sc__law_take fun cdv A outer s H E hr => by
    exact (ss_cons (ss_if (st_w (sw_and (st_tru (se_ix (se_var (pv 0)) se_int)) (sw_and1 (st_cmp op_gt os_gt (se_ix (se_var (pv 0)) se_int) se_int (nomark _))))) (ss_cons (ss_set (i := 2) (n := 0) sc__law_take.nd rfl (.inl rfl) .none (.inl rfl) (se_mod (se_callTy call_int1 ca_int (by rfl) Z.z_int bt_int (sa_cons (se_ix (se_var (pv 0)) se_int) sa_nil)) (se_var (pv 1))))
    (ss_cons (ss_setI (n := 0) (se_div (se_ix (se_var (pv 0)) se_int) (se_var (pv 1))) (se_var (pv 0)) se_int)
    (ss_one (ss_ret (se_var (pv 2)))))) ss_nil)
    (ss_cons (ss_setI (n := 0) (se_add (se_ix (se_var (pv 0)) se_int) se_int) (se_var (pv 0)) se_int)
    (ss_cons (ss_set (i := 3) (n := 0) sc__law_take.nd rfl (.inl rfl) .none (.inl rfl) (se_mod (se_callTy call_int1 ca_int (by rfl) Z.z_int bt_int (sa_cons (se_pow (se_add (se_add (se_ix (se_var (pv 0)) se_int) (se_mul se_int (se_ix (se_var (pv 0)) se_int))) se_int) se_int) sa_nil)) se_int))
    (ss_one (ss_ret (se_mod (se_callTy call_int1 ca_int (by rfl) Z.z_int bt_int (sa_cons (se_div (se_mod (se_callTy call_int1 ca_int (by rfl) Z.z_int bt_int (sa_cons (se_pow (se_add (se_mul (se_var (pv 3)) se_int) (se_mul se_int (se_ix (se_var (pv 0)) se_int))) se_int) sa_nil)) se_int) se_int) sa_nil)) (se_var (pv 1))))))))⟩
theorem ok__law_same (Z : Glob w K mg) (h0 : ∃ a fd, Df K mg "_law_same" s__law_same ["told", "due"] a fd) : ∀ n, OkD P w K mg base "_law_same" s__law_same ["told", "due"] (1 + n) 2 (f__law_same n) := by
  obtain ⟨a__law_same, fd__law_same, d__law_same⟩ := h0
  have key : ∀ n, FnOk P w K mg base (L2.CX P w) (1 + n) a__law_same fd__law_same ["told", "due"] (spD K mg 2 (f__law_same n)) := by
    intro n
    induction n with
    | zero => exact ok_fn0
    | succ n F__law_same =>
      exact ok_fn d__law_same.fn sc__law_same fun cdv A outer s H E hr => by
        exact (ss_cons (ss_if (st_cmp op_isN os_isN (se_var (pv 1)) se_non (nomark _)) (ss_one (ss_ret (se_cmp op_isN os_isN (se_var (pv 0)) se_non (nomark _)))) ss_nil)
    (ss_cons (ss_if (st_tru (se_isi (by rfl) Z.z_isinstance (X_bool Z (by rfl)) (se_var (pv 1)))) (ss_one (ss_ret (se_and (se_isi (by rfl) Z.z_isinstance (X_bool Z (by rfl)) (se_var (pv 0))) (se_one (se_cmp (op_eqD hr.units) os_eq (se_cmp op_isBl os_isB (se_var (pv 0)) se_bl (nomark _)) (se_cmp op_isBl os_isB (se_var (pv 1)) se_bl (nomark _)) (nomark _)))))) ss_nil)
    (ss_cons (ss_if (st_tru (se_isi (by rfl) Z.z_isinstance (X_int Z (by rfl)) (se_var (pv 1)))) (ss_one (ss_ret (se_and (se_isi (by rfl) Z.z_isinstance (X_int Z (by rfl)) (se_var (pv 0))) (se_and (se_not (se_isi (by rfl) Z.z_isinstance (X_bool Z (by rfl)) (se_var (pv 0)))) (se_one (se_cmp (op_eqD hr.units) os_eq (se_sub (se_callTy call_int1 ca_int (by rfl) Z.z_int bt_int (sa_cons (se_var (pv 0)) sa_nil)) (se_var (pv 1))) se_int (nomark _))))))) ss_nil)
    (ss_cons (ss_if (st_tru (se_isi (by rfl) Z.z_isinstance (X_str Z (by rfl)) (se_var (pv 1)))) (ss_one (ss_ret (se_and (se_isi (by rfl) Z.z_isinstance (X_str Z (by rfl)) (se_var (pv 0))) (se_and (se_cmp (op_eqD hr.units) os_eq (se_callB call_lenU ca_lenU (by rfl) Z.z_len bt_len (sa_cons (se_var (pv 0)) sa_nil)) (se_callB call_lenU ca_lenU (by rfl) Z.z_len bt_len (sa_cons (se_var (pv 1)) sa_nil)) (nomark _)) (se_one (se_cmp (op_eqD hr.units) os_eq (se_lc rfl sc__law_same.nd (si_rng1 (by rfl) Z.z_range (sa_cons (se_callB call_lenU ca_lenU (by rfl) Z.z_len bt_len (sa_cons (se_var (pv 1)) sa_nil)) sa_nil)) (blk_by (M := ["told", "due", "k", "key"]) (sc := defScope s__law_same) (own := [("k", 2)]) rfl rfl (by decide +kernel)) (fun _ _ _ _ _ => by exact (sg_name sc__law_same.nd rfl (.inl rfl) .none (.inr rfl))) (fun _ _ _ _ _ => by exact (sts_one (st_cmp (op_neD hr.units) os_ne (se_sl (se_var (pv 0)) (so_some (se_var (pv 2))) (so_some (se_add (se_var (pv 2)) se_int))) (se_ix (se_var (pv 1)) (se_var (pv 2))) (nomark _)))) (fun _ _ _ _ _ => by exact (se_var (pv 2))) (by decide) .none) (se_lst sa_nil) (nomark _))))))) ss_nil)
    (ss_cons (ss_if (st_tru (se_isi (by rfl) Z.z_isinstance (X_dict Z (by rfl)) (se_var (pv 1)))) (ss_one (ss_ret (se_and (se_isi (by rfl) Z.z_isinstance (X_dict Z (by rfl)) (se_var (pv 0))) (se_and (se_cmp (op_eqD hr.units) os_eq (se_callB call_lenU ca_lenU (by rfl) Z.z_len bt_len (sa_cons (se_var (pv 0)) sa_nil)) (se_callB call_lenU ca_lenU (by rfl) Z.z_len bt_len (sa_cons (se_var (pv 1)) sa_nil)) (nomark _)) (se_one (se_cmp (op_eqD hr.units) os_eq (se_lcD rfl sc__law_same.nd (pv 1) (blk_by (M := ["told", "due", "k", "key"]) (sc := defScope s__law_same) (own := [("key", 3)]) rfl rfl (by decide +kernel))) (se_lst sa_nil) (nomark _))))))) ss_nil)
    (ss_cons (ss_if (st_w (sw_or (st_not (st_tru (se_isiT2 (by rfl) Z.z_isinstance (X_list Z (by rfl)) (X_tuple Z (by rfl)) (se_var (pv 1))))) (sw_or1 (st_not (st_tru (se_isiT2 (by rfl) Z.z_isinstance (X_list Z (by rfl)) (X_tuple Z (by rfl)) (se_var (pv 0)))))))) (ss_one (ss_ret se_bl)) ss_nil)
    (ss_cons (ss_if (st_w (sw_or (st_cmp (op_neD hr.units) os_ne (se_isi (by rfl) Z.z_isinstance (X_list Z (by rfl)) (se_var (pv 0))) (se_isi (by rfl) Z.z_isinstance (X_list Z (by rfl)) (se_var (pv 1))) (nomark _)) (sw_or1 (st_cmp (op_neD hr.units) os_ne (se_callB call_lenU ca_lenU (by rfl) Z.z_len bt_len (sa_cons (se_var (pv 0)) sa_nil)) (se_callB call_lenU ca_lenU (by rfl) Z.z_len bt_len (sa_cons (se_var (pv 1)) sa_nil)) (nomark _))))) (ss_one (ss_ret se_bl)) ss_nil)
    (ss_one (ss_ret (se_cmp (op_eqD hr.units) os_eq (se_lc rfl sc__law_same.nd (si_rng1 (by rfl) Z.z_range (sa_cons (se_callB call_lenU ca_lenU (by rfl) Z.z_len bt_len (sa_cons (se_var (pv 1)) sa_nil)) sa_nil)) (blk_by (M := ["told", "due", "k", "key"]) (sc := defScope s__law_same) (own := [("k", 2)]) rfl rfl (by decide +kernel)) (fun _ _ _ _ _ => by exact (sg_name sc__law_same.nd rfl (.inl rfl) .none (.inr rfl))) (fun _ _ _ _ _ => by exact (sts_one (st_not (st_tru (se_callR F__law_same hr (by rfl) d__law_same.g d__law_same.fn.kp d__law_same.b takes0 (sa_cons (se_ix (se_var (pv 0)) (se_var (pv 2))) (sa_cons (se_ix (se_var (pv 1)) (se_var (pv 2))) sa_nil))))))) (fun _ _ _ _ _ => by exact (se_var (pv 2))) (by decide) .none) (se_lst sa_nil) (nomark _)))))))))))
  exact fun n => ⟨a__law_same, fd__law_same, d__law_same, key n⟩
theorem ok__law_copy (Z : Glob w K mg) (h0 : ∃ a fd, Df K mg "_law_copy" s__law_copy ["value"] a fd) : OkD P w K mg base "_law_copy" s__law_copy ["value"] 1 1 f__law_copy := by
  obtain ⟨a__law_copy, fd__law_copy, d__law_copy⟩ := h0
  exact ⟨a__law_copy, fd__law_copy, d__law_copy, ok_fn d__law_copy.fn sc__law_copy fun cdv A outer s H E hr => by
    exact (ss_one (ss_ret (se_if (st_tru (se_isi (by rfl) Z.z_isinstance (X_list Z (by rfl)) (se_var (pv 0)))) (se_callTy (call_listU rfl) ca_listU (by rfl) Z.z_list bt_list (sa_cons (se_var (pv 0)) sa_nil)) (se_var (pv 0)))))⟩
theorem ok__law_blamed (Z : Glob w K mg) (k__law_same : OkD P w K mg base "_law_same" s__law_same ["told", "due"] 5 2 (f__law_same 4)) (h0 : ∃ a fd, Df K mg "_law_blamed" s__law_blamed ["given", "value"] a fd) : OkD P w K mg base "_law_blamed" s__law_blamed ["given", "value"] 6 2 f__law_blamed := by
  obtain ⟨a__law_blamed, fd__law_blamed, d__law_blamed⟩ := h0
  obtain ⟨a__law_same, fd__law_same, d__law_same, F__law_same⟩ := k__law_same
  exact ⟨a__law_blamed, fd__law_blamed, d__law_blamed, ok_fn d__law_blamed.fn sc__law_blamed fun cdv A outer s H E hr => by
    exact (ss_cons (ss_if (st_not (st_tru (se_callR F__law_same (hr.mono (by decide)) (by rfl) d__law_same.g d__law_same.fn.kp d__law_same.b (takes_of rfl rfl rfl rfl) (sa_cons (se_var (pv 0)) (sa_cons (se_var (pv 1)) sa_nil))))) (ss_one (ss_ret se_bl)) ss_nil)
    (ss_cons (ss_if (st_tru (se_isi (by rfl) Z.z_isinstance (X_list Z (by rfl)) (se_var (pv 1)))) (ss_one (ss_expr (se_cm slot_app PySem.F.type_list_append mt_append (cm_app (n := 0)) (se_var (pv 1)) (sa_cons se_int sa_nil)))) ss_nil)
    (ss_one (ss_ret (se_callR F__law_same (hr.mono (by decide)) (by rfl) d__law_same.g d__law_same.fn.kp d__law_same.b (takes_of rfl rfl rfl rfl) (sa_cons (se_var (pv 0)) (sa_cons (se_var (pv 1)) sa_nil)))))))⟩
theorem ok__law_row (Z : Glob w K mg) (k__law_take : OkD P w K mg base "_law_take" s__law_take ["box", "many"] 1 2 f__law_take) (h0 : ∃ a fd, Df K mg "_law_row" s__law_row ["box", "count"] a fd) : OkD P w K mg base "_law_row" s__law_row ["box", "count"] 2 2 f__law_row := by
  obtain ⟨a__law_row, fd__law_row, d__law_row⟩ := h0
  obtain ⟨a__law_take, fd__law_take, d__law_take, F__law_take⟩ := k__law_take
  exact ⟨a__law_row, fd__law_row, d__law_row, ok_fn d__law_row.fn sc__law_row fun cdv A outer s H E hr => by
    exact (ss_one (ss_ret (se_join (se_str (s := []) rfl (by decide) (by decide)) (sa_cons (se_lc rfl sc__law_row.nd (si_rng1 (by rfl) Z.z_range (sa_cons (se_var (pv 1)) sa_nil)) (blk_by (M := ["box", "count", "x"]) (sc := defScope s__law_row) (own := [("x", 2)]) rfl rfl (by decide +kernel)) (fun _ _ _ _ _ => by exact (sg_name sc__law_row.nd rfl (.inl rfl) .none (.inr rfl))) (fun _ _ _ _ _ => by exact sts_nil) (fun _ _ _ _ _ => by exact (se_ix (se_str (s := [43, 45, 48]) rfl (by decide) (by decide)) (se_call F__law_take (hr.mono (by decide)) (by rfl) d__law_take.g d__law_take.fn.kp d__law_take.b takes0 (sa_cons (se_var (pv 0)) (sa_cons se_int sa_nil))))) (by decide) .none) sa_nil))))⟩
theorem ok__law_product (Z : Glob w K mg) (h0 : ∃ a fd, Df K mg "_law_product" s__law_product ["one", "other"] a fd) : OkD P w K mg base "_law_product" s__law_product ["one", "other"] 1 2 f__law_product := by
  obtain ⟨a__law_product, fd__law_product, d__law_product⟩ := h0
  exact ⟨a__law_product, fd__law_product, d__law_product, ok_fn d__law_product.fn sc__law_product fun cdv A outer s H E hr => by
    exact (ss_one (ss_ret (se_lc rfl sc__law_product.nd (si_zip (by rfl) Z.z_zip (sa_cons (se_var (pv 0)) (sa_cons (se_var (pv 1)) sa_nil))) (blk_by (M := ["one", "other", "x", "y"]) (sc := defScope s__law_product) (own := [("x", 2), ("y", 3)]) rfl rfl (by decide +kernel)) (fun _ _ _ _ _ => by exact (sg_tup rfl (sgs_cons (sg_name sc__law_product.nd rfl (.inl rfl) .none (.inr rfl)) (sgs_cons (sg_name sc__law_product.nd rfl (.inl rfl) .none (.inr rfl)) sgs_nil)))) (fun _ _ _ _ _ => by exact sts_nil) (fun _ _ _ _ _ => by exact (se_mul (se_sub (se_idx (se_str (s := [45, 48, 43]) rfl (by decide) (by decide)) (sa_cons (se_var (pv 2)) sa_nil)) se_int) (se_sub (se_idx (se_str (s := [45, 48, 43]) rfl (by decide) (by decide)) (sa_cons (se_var (pv 3)) sa_nil)) se_int))) (by decide) .none)))⟩
theorem ok__law_drawn (Z : Glob w K mg) (k__law_take : OkD P w K mg base "_law_take" s__law_take ["box", "many"] 1 2 f__law_take) (h0 : ∃ a fd, Df K mg "_law_drawn" s__law_drawn ["box"] a fd) : OkD P w K mg base "_law_drawn" s__law_drawn ["box"] 2 1 f__law_drawn := by
  obtain ⟨a__law_drawn, fd__law_drawn, d__law_drawn⟩ := h0
  obtain ⟨a__law_take, fd__law_take, d__law_take, F__law_take⟩ := k__law_take
  exact ⟨a__law_drawn, fd__law_drawn, d__law_drawn, ok_fn d__law_drawn.fn sc__law_drawn fun cdv A outer s H E hr => by
    exact (ss_cons (ss_unp (sg_tup rfl (sgs_cons (sg_name sc__law_drawn.nd rfl (.inl rfl) .none (.inl rfl)) (sgs_cons (sg_name sc__law_drawn.nd rfl (.inr rfl) .none (.inl rfl)) sgs_nil))) (se_tup (sa_cons (se_add se_int (se_call F__law_take (hr.mono (by decide)) (by rfl) d__law_take.g d__law_take.fn.kp d__law_take.b (takes_of rfl rfl rfl rfl) (sa_cons (se_var (pv 0)) (sa_cons se_int sa_nil)))) (sa_cons (se_call F__law_take (hr.mono (by decide)) (by rfl) d__law_take.g d__law_take.fn.kp d__law_take.b (takes_of rfl rfl rfl rfl) (sa_cons (se_var (pv 0)) (sa_cons se_int sa_nil))) sa_nil))))
    (ss_cons (ss_if (st_cmp op_lt os_lt (se_var (pv 2)) se_int (nomark _)) (ss_one (ss_ret (se_mul (se_ix (se_lst (sa_cons (se_str (s := [43]) rfl (by decide) (by decide)) (sa_cons (se_str (s := [45]) rfl (by decide) (by decide)) (sa_cons (se_str (s := [48]) rfl (by decide) (by decide)) sa_nil)))) (se_call F__law_take (hr.mono (by decide)) (by rfl) d__law_take.g d__law_take.fn.kp d__law_take.b (takes_of rfl rfl rfl rfl) (sa_cons (se_var (pv 0)) (sa_cons se_int sa_nil)))) (se_var (pv 1))))) ss_nil)
    (ss_one (ss_ret (se_join (se_str (s := []) rfl (by decide) (by decide)) (sa_cons (se_lc rfl sc__law_drawn.nd (si_rng1 (by rfl) Z.z_range (sa_cons (se_var (pv 1)) sa_nil)) (blk_by (M := ["box", "count", "way", "k"]) (sc := defScope s__law_drawn) (own := [("k", 3)]) rfl rfl (by decide +kernel)) (fun _ _ _ _ _ => by exact (sg_name sc__law_drawn.nd rfl (.inl rfl) .none (.inr rfl))) (fun _ _ _ _ _ => by exact sts_nil) (fun _ _ _ _ _ => by exact (se_ix (se_ix (se_lst (sa_cons (se_str (s := [43, 45]) rfl (by decide) (by decide)) (sa_cons (se_str (s := [43, 45, 48]) rfl (by decide) (by decide)) (sa_cons (se_str (s := [48, 43, 48, 45, 48, 48]) rfl (by decide) (by decide)) sa_nil)))) (se_sub (se_var (pv 2)) se_int)) (se_call F__law_take (hr.mono (by decide)) (by rfl) d__law_take.g d__law_take.fn.kp d__law_take.b takes0 (sa_cons (se_var (pv 0)) (sa_cons (se_ix (se_lst (sa_cons se_int (sa_cons se_int (sa_cons se_int sa_nil)))) (se_sub (se_var (pv 2)) se_int)) sa_nil))))) (by decide) .none) sa_nil))))))⟩
theorem ok__law_second (Z : Glob w K mg) (k__law_take : OkD P w K mg base "_law_take" s__law_take ["box", "many"] 1 2 f__law_take) (k__law_row : OkD P w K mg base "_law_row" s__law_row ["box", "count"] 2 2 f__law_row) (h0 : ∃ a fd, Df K mg "_law_second" s__law_second ["box", "row"] a fd) : OkD P w K mg base "_law_second" s__law_second ["box", "row"] 3 2 f__law_second := by
  obtain ⟨a__law_second, fd__law_second, d__law_second⟩ := h0
  obtain ⟨a__law_take, fd__law_take, d__law_take, F__law_take⟩ := k__law_take
  obtain ⟨a__law_row, fd__law_row, d__law_row, F__law_row⟩ := k__law_row
  exact ⟨a__law_second, fd__law_second, d__law_second, ok_fn d__law_second.fn sc__law_second fun cdv A outer s H E hr => by
    exact (ss_cons (ss_set (i := 2) (n := 0) sc__law_second.nd rfl (.inl rfl) .none (.inl rfl) (se_call F__law_take (hr.mono (by decide)) (by rfl) d__law_take.g d__law_take.fn.kp d__law_take.b (takes_of rfl rfl rfl rfl) (sa_cons (se_var (pv 0)) (sa_cons se_int sa_nil))))
    (ss_cons (ss_if (st_cmp (op_eqD hr.units) os_eq (se_var (pv 2)) se_int (nomark _)) (ss_one (ss_ret (se_var (pv 1)))) ss_nil)
    (ss_cons (ss_if (st_cmp (op_eqD hr.units) os_eq (se_var (pv 2)) se_int (nomark _)) (ss_one (ss_ret (se_join (se_str (s := []) rfl (by decide) (by decide)) (sa_cons (se_lc rfl sc__law_second.nd (si_one (se_var (pv 1))) (blk_by (M := ["box", "row", "way", "at", "sign"]) (sc := defScope s__law_second) (own := [("sign", 4)]) rfl rfl (by decide +kernel)) (fun _ _ _ _ _ => by exact (sg_name sc__law_second.nd rfl (.inl rfl) .none (.inr rfl))) (fun _ _ _ _ _ => by exact sts_nil) (fun _ _ _ _ _ => by exact (se_ix (se_str (s := [45, 48, 43]) rfl (by decide) (by decide)) (se_idx (se_str (s := [43, 48, 45]) rfl (by decide) (by decide)) (sa_cons (se_var (pv 4)) sa_nil)))) (by decide) .none) sa_nil)))) ss_nil)
    (ss_cons (ss_if (st_cmp (op_eqD hr.units) os_eq (se_var (pv 2)) se_int (nomark _)) (ss_cons (ss_set (i := 3) (n := 0) sc__law_second.nd rfl (.inl rfl) .none (.inl rfl) (se_call F__law_take (hr.mono (by decide)) (by rfl) d__law_take.g d__law_take.fn.kp d__law_take.b (takes_of rfl rfl rfl rfl) (sa_cons (se_var (pv 0)) (sa_cons (se_callB call_lenU ca_lenU (by rfl) Z.z_len bt_len (sa_cons (se_var (pv 1)) sa_nil)) sa_nil))))
    (ss_one (ss_ret (se_add (se_add (se_sl (se_var (pv 1)) so_none (so_some (se_var (pv 3)))) (se_ix (se_str (s := [43, 45, 48]) rfl (by decide) (by decide)) (se_call F__law_take (hr.mono (by decide)) (by rfl) d__law_take.g d__law_take.fn.kp d__law_take.b (takes_of rfl rfl rfl rfl) (sa_cons (se_var (pv 0)) (sa_cons se_int sa_nil))))) (se_sl (se_var (pv 1)) (so_some (se_add (se_var (pv 3)) se_int)) so_none))))) ss_nil)
    (ss_cons (ss_if (st_cmp (op_eqD hr.units) os_eq (se_var (pv 2)) se_int (nomark _)) (ss_one (ss_ret (se_join (se_str (s := []) rfl (by decide) (by decide)) (sa_cons (se_lc rfl sc__law_second.nd (si_one (se_var (pv 1))) (blk_by (M := ["box", "row", "way", "at", "sign"]) (sc := defScope s__law_second) (own := [("sign", 4)]) rfl rfl (by decide +kernel)) (fun _ _ _ _ _ => by exact (sg_name sc__law_second.nd rfl (.inl rfl) .none (.inr rfl))) (fun _ _ _ _ _ => by exact sts_nil) (fun _ _ _ _ _ => by exact (se_if (st_cmp op_gt os_gt (se_call F__law_take (hr.mono (by decide)) (by rfl) d__law_take.g d__law_take.fn.kp d__law_take.b takes0 (sa_cons (se_var (pv 0)) (sa_cons se_int sa_nil))) se_int (nomark _)) (se_var (pv 4)) (se_ix (se_str (s := [43, 45, 48]) rfl (by decide) (by decide)) (se_call F__law_take (hr.mono (by decide)) (by rfl) d__law_take.g d__law_take.fn.kp d__law_take.b takes0 (sa_cons (se_var (pv 0)) (sa_cons se_int sa_nil)))))) (by decide) .none) sa_nil)))) ss_nil)
    (ss_one (ss_ret (se_call F__law_row (hr.mono (by decide)) (by rfl) d__law_row.g d__law_row.fn.kp d__law_row.b (takes_of rfl rfl rfl rfl) (sa_cons (se_var (pv 0)) (sa_cons (se_callB call_lenU ca_lenU (by rfl) Z.z_len bt_len (sa_cons (se_var (pv 1)) sa_nil)) sa_nil))))))))))⟩
theorem ok__law_at (Z : Glob w K mg) (h0 : ∃ a fd, Df K mg "_law_at" s__law_at ["row", "signs"] a fd) : OkD P w K mg base "_law_at" s__law_at ["row", "signs"] 1 2 f__law_at := by
  obtain ⟨a__law_at, fd__law_at, d__law_at⟩ := h0
  exact ⟨a__law_at, fd__law_at, d__law_at, ok_fn d__law_at.fn sc__law_at fun cdv A outer s H E hr => by
    exact (ss_one (ss_ret (se_callTy call_tuple_of ca_tup (by rfl) Z.z_tuple bt_tuple (sa_cons (se_lc rfl sc__law_at.nd (si_rng1 (by rfl) Z.z_range (sa_cons (se_callB call_lenU ca_lenU (by rfl) Z.z_len bt_len (sa_cons (se_var (pv 0)) sa_nil)) sa_nil)) (blk_by (M := ["row", "signs", "k"]) (sc := defScope s__law_at) (own := [("k", 2)]) rfl rfl (by decide +kernel)) (fun _ _ _ _ _ => by exact (sg_name sc__law_at.nd rfl (.inl rfl) .none (.inr rfl))) (fun _ _ _ _ _ => by exact (sts_one (st_in (se_ix (se_var (pv 0)) (se_var (pv 2))) (se_var (pv 1)) (by with_unfolding_all rfl)))) (fun _ _ _ _ _ => by exact (se_var (pv 2))) (by decide) .none) sa_nil))))⟩
theorem ok__law_is_row (Z : Glob w K mg) (h0 : ∃ a fd, Df K mg "_law_is_row" s__law_is_row ["value"] a fd) : OkD P w K mg base "_law_is_row" s__law_is_row ["value"] 1 1 f__law_is_row := by
  obtain ⟨a__law_is_row, fd__law_is_row, d__law_is_row⟩ := h0
  exact ⟨a__law_is_row, fd__law_is_row, d__law_is_row, ok_fn d__law_is_row.fn sc__law_is_row fun cdv A outer s H E hr => by
    exact (ss_one (ss_ret (se_and (se_isi (by rfl) Z.z_isinstance (X_str Z (by rfl)) (se_var (pv 0))) (se_and (se_chain op_le os_le op_le os_le se_int (se_callB call_lenU ca_lenU (by rfl) Z.z_len bt_len (sa_cons (se_var (pv 0)) sa_nil)) se_int) (se_one (se_cmp (op_eqD hr.units) os_eq (se_lc rfl sc__law_is_row.nd (si_one (se_var (pv 0))) (blk_by (M := ["value", "sign"]) (sc := defScope s__law_is_row) (own := [("sign", 1)]) rfl rfl (by decide +kernel)) (fun _ _ _ _ _ => by exact (sg_name sc__law_is_row.nd rfl (.inl rfl) .none (.inr rfl))) (fun _ _ _ _ _ => by exact (sts_one (st_notIn (se_var (pv 1)) (se_str (s := [43, 45, 48]) rfl (by decide) (by decide)) (by with_unfolding_all rfl)))) (fun _ _ _ _ _ => by exact (se_var (pv 1))) (by decide) .none) (se_lst sa_nil) (nomark _)))))))⟩
theorem ok__law_odd_rows (Z : Glob w K mg) (h0 : ∃ a fd, Df K mg "_law_odd_rows" s__law_odd_rows ["row"] a fd) : OkD P w K mg base "_law_odd_rows" s__law_odd_rows ["row"] 1 1 f__law_odd_rows := by
  obtain ⟨a__law_odd_rows, fd__law_odd_rows, d__law_odd_rows⟩ := h0
  exact ⟨a__law_odd_rows, fd__law_odd_rows, d__law_odd_rows, ok_fn d__law_odd_rows.fn sc__law_odd_rows fun cdv A outer s H E hr => by
    exact (ss_one (ss_ret (se_lst (sa_cons se_non (sa_cons se_int (sa_cons (se_str (s := []) rfl (by decide) (by decide)) (sa_cons (se_str (s := [120]) rfl (by decide) (by decide)) (sa_cons (se_add (se_sl (se_var (pv 0)) so_none (so_some (se_neg se_int))) (se_str (s := [120]) rfl (by decide) (by decide))) (sa_cons (se_add (se_var (pv 0)) (se_mul (se_str (s := [43]) rfl (by decide) (by decide)) (se_sub se_int (se_callB call_lenU ca_lenU (by rfl) Z.z_len bt_len (sa_cons (se_var (pv 0)) sa_nil))))) (sa_cons (se_lst (sa_cons (se_var (pv 0)) sa_nil)) (sa_cons (se_tup (sa_cons (se_var (pv 0)) sa_nil)) (sa_cons se_dnil (sa_cons se_bl (sa_cons (se_add (se_str (s := [32]) rfl (by decide) (by decide)) (se_sl (se_var (pv 0)) (so_some se_int) so_none)) (sa_cons (se_callTy (call_listU rfl) ca_listU (by rfl) Z.z_list bt_list (sa_cons (se_var (pv 0)) sa_nil)) (sa_cons (se_str (s := [43, 32]) rfl (by decide) (by decide)) (sa_cons (se_str (s := [43, 43, 10]) rfl (by decide) (by decide)) (sa_cons (se_mul (se_str (s := [112]) rfl (by decide) (by decide)) (se_callB call_lenU ca_lenU (by rfl) Z.z_len bt_len (sa_cons (se_var (pv 0)) sa_nil))) sa_nil))))))))))))))))))⟩
theorem ok__law_one_right (Z : Glob w K mg) (k_plus_set : OkD P w K mg base "plus_set" s_plus_set ["row"] 5 1 f_plus_set) (k_minus_set : OkD P w K mg base "minus_set" s_minus_set ["row"] 5 1 f_minus_set) (k_zero_set : OkD P w K mg base "zero_set" s_zero_set ["row"] 5 1 f_zero_set) (k_support : OkD P w K mg base "support" s_support ["row"] 5 1 f_support) (k_opposite : OkD P w K mg base "opposite" s_opposite ["row"] 5 1 f_opposite) (k_row_of : OkD P w K mg base "row_of" s_row_of ["count", "plus", "minus"] 5 3 f_row_of) (k_turned_row : OkD P w K mg base "turned_row" s_turned_row ["row", "members"] 6 2 f_turned_row) (k_part_of : OkD P w K mg base "part_of" s_part_of ["row", "members"] 6 2 f_part_of) (k__law_take : OkD P w K mg base "_law_take" s__law_take ["box", "many"] 1 2 f__law_take) (k__law_same : OkD P w K mg base "_law_same" s__law_same ["told", "due"] 5 2 (f__law_same 4)) (k__law_at : OkD P w K mg base "_law_at" s__law_at ["row", "signs"] 1 2 f__law_at) (h0 : ∃ a fd, Df K mg "_law_one_right" s__law_one_right ["box", "row", "by_name"] a fd) : OkD P w K mg base "_law_one_right" s__law_one_right ["box", "row", "by_name"] 7 3 f__law_one_right := by
  obtain ⟨a__law_one_right, fd__law_one_right, d__law_one_right⟩ := h0
  obtain ⟨a_plus_set, fd_plus_set, d_plus_set, F_plus_set⟩ := k_plus_set
  obtain ⟨a_minus_set, fd_minus_set, d_minus_set, F_minus_set⟩ := k_minus_set
  obtain ⟨a_zero_set, fd_zero_set, d_zero_set, F_zero_set⟩ := k_zero_set
  obtain ⟨a_support, fd_support, d_support, F_support⟩ := k_support
  obtain ⟨a_opposite, fd_opposite, d_opposite, F_opposite⟩ := k_opposite
  obtain ⟨a_row_of, fd_row_of, d_row_of, F_row_of⟩ := k_row_of
  obtain ⟨a_turned_row, fd_turned_row, d_turned_row, F_turned_row⟩ := k_turned_row
  obtain ⟨a_part_of, fd_part_of, d_part_of, F_part_of⟩ := k_part_of
  obtain ⟨a__law_take, fd__law_take, d__law_take, F__law_take⟩ := k__law_take
  obtain ⟨a__law_same, fd__law_same, d__law_same, F__law_same⟩ := k__law_same
  obtain ⟨a__law_at, fd__law_at, d__law_at, F__law_at⟩ := k__law_at
  exact ⟨a__law_one_right, fd__law_one_right, d__law_one_right, ok_fn d__law_one_right.fn sc__law_one_right fun cdv A outer s H E hr => by
    exact (ss_cons (ss_set (i := 3) (n := 0) sc__law_one_right.nd rfl (.inl rfl) .none (.inl rfl) (se_lst (sa_cons (se_call F__law_at (hr.mono (by decide)) (by rfl) d__law_at.g d__law_at.fn.kp d__law_at.b (takes_of rfl rfl rfl rfl) (sa_cons (se_var (pv 1)) (sa_cons (se_str (s := [43]) rfl (by decide) (by decide)) sa_nil))) (sa_cons (se_call F__law_at (hr.mono (by decide)) (by rfl) d__law_at.g d__law_at.fn.kp d__law_at.b (takes_of rfl rfl rfl rfl) (sa_cons (se_var (pv 1)) (sa_cons (se_str (s := [45]) rfl (by decide) (by decide)) sa_nil))) (sa_cons (se_call F__law_at (hr.mono (by decide)) (by rfl) d__law_at.g d__law_at.fn.kp d__law_at.b (takes_of rfl rfl rfl rfl) (sa_cons (se_var (pv 1)) (sa_cons (se_str (s := [48]) rfl (by decide) (by decide)) sa_nil))) (sa_cons (se_call F__law_at (hr.mono (by decide)) (by rfl) d__law_at.g d__law_at.fn.kp d__law_at.b (takes_of rfl rfl rfl rfl) (sa_cons (se_var (pv 1)) (sa_cons (se_str (s := [43, 45]) rfl (by decide) (by decide)) sa_nil))) (sa_cons (se_join (se_str (s := []) rfl (by decide) (by decide)) (sa_cons (se_lc rfl sc__law_one_right.nd (si_one (se_var (pv 1))) (blk_by (M := ["box", "row", "by_name", "due", "told", "count", "made", "members", "turned", "part", "sign", "k"]) (sc := defScope s__law_one_right) (own := [("sign", 10)]) rfl rfl (by decide +kernel)) (fun _ _ _ _ _ => by exact (sg_name sc__law_one_right.nd rfl (.inl rfl) .none (.inr rfl))) (fun _ _ _ _ _ => by exact sts_nil) (fun _ _ _ _ _ => by exact (se_ix (se_str (s := [45, 48, 43]) rfl (by decide) (by decide)) (se_idx (se_str (s := [43, 48, 45]) rfl (by decide) (by decide)) (sa_cons (se_var (pv 10)) sa_nil)))) (by decide) .none) sa_nil)) sa_nil)))))))
    (ss_cons (ss_set (i := 4) (n := 0) sc__law_one_right.nd rfl (.inl rfl) .none (.inl rfl) (se_lst (sa_cons (se_call F_plus_set (hr.mono (by decide)) (by rfl) d_plus_set.g d_plus_set.fn.kp d_plus_set.b (takes_of rfl rfl rfl rfl) (sa_cons (se_var (pv 1)) sa_nil)) (sa_cons (se_call F_minus_set (hr.mono (by decide)) (by rfl) d_minus_set.g d_minus_set.fn.kp d_minus_set.b (takes_of rfl rfl rfl rfl) (sa_cons (se_var (pv 1)) sa_nil)) (sa_cons (se_call F_zero_set (hr.mono (by decide)) (by rfl) d_zero_set.g d_zero_set.fn.kp d_zero_set.b (takes_of rfl rfl rfl rfl) (sa_cons (se_var (pv 1)) sa_nil)) (sa_cons (se_call F_support (hr.mono (by decide)) (by rfl) d_support.g d_support.fn.kp d_support.b (takes_of rfl rfl rfl rfl) (sa_cons (se_var (pv 1)) sa_nil)) (sa_cons (se_call F_opposite (hr.mono (by decide)) (by rfl) d_opposite.g d_opposite.fn.kp d_opposite.b (takes_of rfl rfl rfl rfl) (sa_cons (se_var (pv 1)) sa_nil)) sa_nil)))))))
    (ss_cons (ss_if (st_tru (se_var (pv 2))) (ss_one (ss_set (i := 4) (n := 0) sc__law_one_right.nd rfl (.inl rfl) .none (.inl rfl) (se_lst (sa_cons (se_callK F_plus_set (hr.mono (by decide)) (by rfl) d_plus_set.g d_plus_set.fn.kp (kw_plus_set_row d_plus_set) (takes_of rfl rfl rfl rfl) (sk_cons (se_var (pv 1)) sk_nil)) (sa_cons (se_callK F_minus_set (hr.mono (by decide)) (by rfl) d_minus_set.g d_minus_set.fn.kp (kw_minus_set_row d_minus_set) (takes_of rfl rfl rfl rfl) (sk_cons (se_var (pv 1)) sk_nil)) (sa_cons (se_callK F_zero_set (hr.mono (by decide)) (by rfl) d_zero_set.g d_zero_set.fn.kp (kw_zero_set_row d_zero_set) (takes_of rfl rfl rfl rfl) (sk_cons (se_var (pv 1)) sk_nil)) (sa_cons (se_callK F_support (hr.mono (by decide)) (by rfl) d_support.g d_support.fn.kp (kw_support_row d_support) (takes_of rfl rfl rfl rfl) (sk_cons (se_var (pv 1)) sk_nil)) (sa_cons (se_callK F_opposite (hr.mono (by decide)) (by rfl) d_opposite.g d_opposite.fn.kp (kw_opposite_row d_opposite) (takes_of rfl rfl rfl rfl) (sk_cons (se_var (pv 1)) sk_nil)) sa_nil)))))))) ss_nil)
    (ss_cons (ss_if (st_not (st_tru (se_callR F__law_same (hr.mono (by decide)) (by rfl) d__law_same.g d__law_same.fn.kp d__law_same.b (takes_of rfl rfl rfl rfl) (sa_cons (se_var (pv 4)) (sa_cons (se_var (pv 3)) sa_nil))))) (ss_one (ss_ret se_bl)) ss_nil)
    (ss_cons (ss_set (i := 5) (n := 0) sc__law_one_right.nd rfl (.inl rfl) .none (.inl rfl) (se_callB call_lenU ca_lenU (by rfl) Z.z_len bt_len (sa_cons (se_var (pv 1)) sa_nil)))
    (ss_cons (ss_set (i := 6) (n := 0) sc__law_one_right.nd rfl (.inl rfl) .none (.inl rfl) (se_if (st_tru (se_var (pv 2))) (se_callK F_row_of (hr.mono (by decide)) (by rfl) d_row_of.g d_row_of.fn.kp (kw_row_of_minus_plus_count d_row_of) (takes_of rfl rfl rfl rfl) (sk_cons (se_ix (se_var (pv 3)) se_int) (sk_cons (se_ix (se_var (pv 3)) se_int) (sk_cons (se_var (pv 5)) sk_nil)))) (se_call F_row_of (hr.mono (by decide)) (by rfl) d_row_of.g d_row_of.fn.kp d_row_of.b (takes_of rfl rfl rfl rfl) (sa_cons (se_var (pv 5)) (sa_cons (se_ix (se_var (pv 3)) se_int) (sa_cons (se_ix (se_var (pv 3)) se_int) sa_nil))))))
    (ss_cons (ss_if (st_not (st_tru (se_callR F__law_same (hr.mono (by decide)) (by rfl) d__law_same.g d__law_same.fn.kp d__law_same.b (takes_of rfl rfl rfl rfl) (sa_cons (se_var (pv 6)) (sa_cons (se_var (pv 1)) sa_nil))))) (ss_one (ss_ret se_bl)) ss_nil)
    (ss_cons (ss_set (i := 7) (n := 0) sc__law_one_right.nd rfl (.inr rfl) .none (.inl rfl) (se_callTy call_tuple_of ca_tup (by rfl) Z.z_tuple bt_tuple (sa_cons (se_lc rfl sc__law_one_right.nd (si_rng1 (by rfl) Z.z_range (sa_cons (se_var (pv 5)) sa_nil)) (blk_by (M := ["box", "row", "by_name", "due", "told", "count", "made", "members", "turned", "part", "sign", "k"]) (sc := defScope s__law_one_right) (own := [("k", 11)]) rfl rfl (by decide +kernel)) (fun _ _ _ _ _ => by exact (sg_name sc__law_one_right.nd rfl (.inl rfl) .none (.inr rfl))) (fun _ _ _ _ _ => by exact (sts_one (st_cmp (op_eqD hr.units) os_eq (se_call F__law_take (hr.mono (by decide)) (by rfl) d__law_take.g d__law_take.fn.kp d__law_take.b takes0 (sa_cons (se_var (pv 0)) (sa_cons se_int sa_nil))) se_int (nomark _)))) (fun _ _ _ _ _ => by exact (se_var (pv 11))) (by decide) .none) sa_nil)))
    (ss_cons (ss_set (i := 8) (n := 0) sc__law_one_right.nd rfl (.inl rfl) .none (.inl rfl) (se_join (se_str (s := []) rfl (by decide) (by decide)) (sa_cons (se_lc rfl sc__law_one_right.nd (si_rng1 (by rfl) Z.z_range (sa_cons (se_var (pv 5)) sa_nil)) (blk_by (M := ["box", "row", "by_name", "due", "told", "count", "made", "members", "turned", "part", "sign", "k"]) (sc := defScope s__law_one_right) (own := [("k", 11)]) rfl rfl (by decide +kernel)) (fun _ _ _ _ _ => by exact (sg_name sc__law_one_right.nd rfl (.inl rfl) .none (.inr rfl))) (fun _ _ _ _ _ => by exact sts_nil) (fun _ _ _ _ _ => by exact (se_if (st_in (se_var (pv 11)) (se_var (pv 7)) (by with_unfolding_all rfl)) (se_ix (se_str (s := [45, 48, 43]) rfl (by decide) (by decide)) (se_idx (se_str (s := [43, 48, 45]) rfl (by decide) (by decide)) (sa_cons (se_ix (se_var (pv 1)) (se_var (pv 11))) sa_nil))) (se_ix (se_var (pv 1)) (se_var (pv 11))))) (by decide) .none) sa_nil)))
    (ss_cons (ss_set (i := 9) (n := 0) sc__law_one_right.nd rfl (.inl rfl) .none (.inl rfl) (se_join (se_str (s := []) rfl (by decide) (by decide)) (sa_cons (se_lc rfl sc__law_one_right.nd (si_one (se_var (pv 7))) (blk_by (M := ["box", "row", "by_name", "due", "told", "count", "made", "members", "turned", "part", "sign", "k"]) (sc := defScope s__law_one_right) (own := [("k", 11)]) rfl rfl (by decide +kernel)) (fun _ _ _ _ _ => by exact (sg_name sc__law_one_right.nd rfl (.inl rfl) .none (.inr rfl))) (fun _ _ _ _ _ => by exact sts_nil) (fun _ _ _ _ _ => by exact (se_ix (se_var (pv 1)) (se_var (pv 11)))) (by decide) .none) sa_nil)))
    (ss_cons (ss_set (i := 4) (n := 0) sc__law_one_right.nd rfl (.inl rfl) .none (.inl rfl) (se_if (st_tru (se_var (pv 2))) (se_lst (sa_cons (se_callK F_turned_row (hr.mono (by decide)) (by rfl) d_turned_row.g d_turned_row.fn.kp (kw_turned_row_members_row d_turned_row) (takes_of rfl rfl rfl rfl) (sk_cons (se_var (pv 7)) (sk_cons (se_var (pv 1)) sk_nil))) (sa_cons (se_callK F_part_of (hr.mono (by decide)) (by rfl) d_part_of.g d_part_of.fn.kp (kw_part_of_members_row d_part_of) (takes_of rfl rfl rfl rfl) (sk_cons (se_var (pv 7)) (sk_cons (se_var (pv 1)) sk_nil))) sa_nil))) (se_lst (sa_cons (se_call F_turned_row (hr.mono (by decide)) (by rfl) d_turned_row.g d_turned_row.fn.kp d_turned_row.b (takes_of rfl rfl rfl rfl) (sa_cons (se_var (pv 1)) (sa_cons (se_var (pv 7)) sa_nil))) (sa_cons (se_call F_part_of (hr.mono (by decide)) (by rfl) d_part_of.g d_part_of.fn.kp d_part_of.b (takes_of rfl rfl rfl rfl) (sa_cons (se_var (pv 1)) (sa_cons (se_var (pv 7)) sa_nil))) sa_nil)))))
    (ss_one (ss_ret (se_callR F__law_same (hr.mono (by decide)) (by rfl) d__law_same.g d__law_same.fn.kp d__law_same.b (takes_of rfl rfl rfl rfl) (sa_cons (se_var (pv 4)) (sa_cons (se_lst (sa_cons (se_var (pv 8)) (sa_cons (se_var (pv 9)) sa_nil))) sa_nil))))))))))))))))⟩
theorem ok__law_two_right (Z : Glob w K mg) (k_composed : OkD P w K mg base "composed" s_composed ["one", "other"] 6 2 f_composed) (k_product_row : OkD P w K mg base "product_row" s_product_row ["one", "other"] 6 2 f_product_row) (k_parted_set : OkD P w K mg base "parted_set" s_parted_set ["one", "other"] 6 2 f_parted_set) (k_are_orthogonal : OkD P w K mg base "are_orthogonal" s_are_orthogonal ["one", "other"] 6 2 f_are_orthogonal) (k_lies_below : OkD P w K mg base "lies_below" s_lies_below ["one", "other"] 6 2 f_lies_below) (k_meets_of : OkD P w K mg base "meets_of" s_meets_of ["one", "other"] 6 2 f_meets_of) (k__law_same : OkD P w K mg base "_law_same" s__law_same ["told", "due"] 5 2 (f__law_same 4)) (k__law_product : OkD P w K mg base "_law_product" s__law_product ["one", "other"] 1 2 f__law_product) (h0 : ∃ a fd, Df K mg "_law_two_right" s__law_two_right ["one", "other", "by_name"] a fd) : OkD P w K mg base "_law_two_right" s__law_two_right ["one", "other", "by_name"] 7 3 f__law_two_right := by
  obtain ⟨a__law_two_right, fd__law_two_right, d__law_two_right⟩ := h0
  obtain ⟨a_composed, fd_composed, d_composed, F_composed⟩ := k_composed
  obtain ⟨a_product_row, fd_product_row, d_product_row, F_product_row⟩ := k_product_row
  obtain ⟨a_parted_set, fd_parted_set, d_parted_set, F_parted_set⟩ := k_parted_set
  obtain ⟨a_are_orthogonal, fd_are_orthogonal, d_are_orthogonal, F_are_orthogonal⟩ := k_are_orthogonal
  obtain ⟨a_lies_below, fd_lies_below, d_lies_below, F_lies_below⟩ := k_lies_below
  obtain ⟨a_meets_of, fd_meets_of, d_meets_of, F_meets_of⟩ := k_meets_of
  obtain ⟨a__law_same, fd__law_same, d__law_same, F__law_same⟩ := k__law_same
  obtain ⟨a__law_product, fd__law_product, d__law_product, F__law_product⟩ := k__law_product
  exact ⟨a__law_two_right, fd__law_two_right, d__law_two_right, ok_fn d__law_two_right.fn sc__law_two_right fun cdv A outer s H E hr => by
    exact (ss_cons (ss_set (i := 3) (n := 0) sc__law_two_right.nd rfl (.inr rfl) .none (.inl rfl) (se_call F__law_product (hr.mono (by decide)) (by rfl) d__law_product.g d__law_product.fn.kp d__law_product.b (takes_of rfl rfl rfl rfl) (sa_cons (se_var (pv 0)) (sa_cons (se_var (pv 1)) sa_nil))))
    (ss_cons (ss_set (i := 4) (n := 0) sc__law_two_right.nd rfl (.inl rfl) .none (.inl rfl) (se_lst (sa_cons (se_join (se_str (s := []) rfl (by decide) (by decide)) (sa_cons (se_lc rfl sc__law_two_right.nd (si_zip (by rfl) Z.z_zip (sa_cons (se_var (pv 0)) (sa_cons (se_var (pv 1)) sa_nil))) (blk_by (M := ["one", "other", "by_name", "products_v", "due", "told", "x", "y", "k"]) (sc := defScope s__law_two_right) (own := [("x", 6), ("y", 7)]) rfl rfl (by decide +kernel)) (fun _ _ _ _ _ => by exact (sg_tup rfl (sgs_cons (sg_name sc__law_two_right.nd rfl (.inl rfl) .none (.inr rfl)) (sgs_cons (sg_name sc__law_two_right.nd rfl (.inl rfl) .none (.inr rfl)) sgs_nil)))) (fun _ _ _ _ _ => by exact sts_nil) (fun _ _ _ _ _ => by exact (se_if (st_cmp (op_neD hr.units) os_ne (se_var (pv 6)) (se_str (s := [48]) rfl (by decide) (by decide)) (nomark _)) (se_var (pv 6)) (se_var (pv 7)))) (by decide) .none) sa_nil)) (sa_cons (se_join (se_str (s := []) rfl (by decide) (by decide)) (sa_cons (se_lc rfl sc__law_two_right.nd (si_one (se_var (pv 3))) (blk_by (M := ["one", "other", "by_name", "products_v", "due", "told", "x", "y", "k"]) (sc := defScope s__law_two_right) (own := [("x", 6)]) rfl rfl (by decide +kernel)) (fun _ _ _ _ _ => by exact (sg_name sc__law_two_right.nd rfl (.inl rfl) .none (.inr rfl))) (fun _ _ _ _ _ => by exact sts_nil) (fun _ _ _ _ _ => by exact (se_ix (se_str (s := [45, 48, 43]) rfl (by decide) (by decide)) (se_add (se_var (pv 6)) se_int))) (by decide) .none) sa_nil)) sa_nil))))
    (ss_cons (ss_set (i := 4) (n := 0) sc__law_two_right.nd rfl (.inl rfl) .none (.inl rfl) (se_add (se_var (pv 4)) (se_lst (sa_cons (se_callTy call_tuple_of ca_tup (by rfl) Z.z_tuple bt_tuple (sa_cons (se_lc rfl sc__law_two_right.nd (si_rng1 (by rfl) Z.z_range (sa_cons (se_callB call_lenU ca_lenU (by rfl) Z.z_len bt_len (sa_cons (se_var (pv 0)) sa_nil)) sa_nil)) (blk_by (M := ["one", "other", "by_name", "products_v", "due", "told", "x", "y", "k"]) (sc := defScope s__law_two_right) (own := [("k", 8)]) rfl rfl (by decide +kernel)) (fun _ _ _ _ _ => by exact (sg_name sc__law_two_right.nd rfl (.inl rfl) .none (.inr rfl))) (fun _ _ _ _ _ => by exact (sts_one (st_cmp op_lt os_lt (se_ix (se_var (pv 3)) (se_var (pv 8))) se_int (nomark _)))) (fun _ _ _ _ _ => by exact (se_var (pv 8))) (by decide) .none) sa_nil)) (sa_cons (se_join (se_str (s := []) rfl (by decide) (by decide)) (sa_cons (se_lc rfl sc__law_two_right.nd (si_zip (by rfl) Z.z_zip (sa_cons (se_var (pv 0)) (sa_cons (se_var (pv 1)) sa_nil))) (blk_by (M := ["one", "other", "by_name", "products_v", "due", "told", "x", "y", "k"]) (sc := defScope s__law_two_right) (own := [("x", 6), ("y", 7)]) rfl rfl (by decide +kernel)) (fun _ _ _ _ _ => by exact (sg_tup rfl (sgs_cons (sg_name sc__law_two_right.nd rfl (.inl rfl) .none (.inr rfl)) (sgs_cons (sg_name sc__law_two_right.nd rfl (.inl rfl) .none (.inr rfl)) sgs_nil)))) (fun _ _ _ _ _ => by exact sts_nil) (fun _ _ _ _ _ => by exact (se_if (st_cmp (op_eqD hr.units) os_eq (se_var (pv 6)) (se_var (pv 7)) (nomark _)) (se_var (pv 6)) (se_str (s := [48]) rfl (by decide) (by decide)))) (by decide) .none) sa_nil)) sa_nil)))))
    (ss_cons (ss_set (i := 4) (n := 0) sc__law_two_right.nd rfl (.inl rfl) .none (.inl rfl) (se_add (se_var (pv 4)) (se_lst (sa_cons (se_cmp (op_eqD hr.units) os_eq (se_in se_int (se_var (pv 3)) (by with_unfolding_all rfl)) (se_in (se_neg se_int) (se_var (pv 3)) (by with_unfolding_all rfl)) (nomark _)) (sa_cons (se_cmp (op_eqD hr.units) os_eq (se_lc rfl sc__law_two_right.nd (si_rng1 (by rfl) Z.z_range (sa_cons (se_callB call_lenU ca_lenU (by rfl) Z.z_len bt_len (sa_cons (se_var (pv 0)) sa_nil)) sa_nil)) (blk_by (M := ["one", "other", "by_name", "products_v", "due", "told", "x", "y", "k"]) (sc := defScope s__law_two_right) (own := [("k", 8)]) rfl rfl (by decide +kernel)) (fun _ _ _ _ _ => by exact (sg_name sc__law_two_right.nd rfl (.inl rfl) .none (.inr rfl))) (fun _ _ _ _ _ => by exact (sts_one (st_w (sw_and (st_cmp (op_neD hr.units) os_ne (se_ix (se_var (pv 0)) (se_var (pv 8))) (se_str (s := [48]) rfl (by decide) (by decide)) (nomark _)) (sw_and1 (st_cmp (op_neD hr.units) os_ne (se_ix (se_var (pv 0)) (se_var (pv 8))) (se_ix (se_var (pv 1)) (se_var (pv 8))) (nomark _))))))) (fun _ _ _ _ _ => by exact (se_var (pv 8))) (by decide) .none) (se_lst sa_nil) (nomark _)) sa_nil)))))
    (ss_cons (ss_set (i := 5) (n := 0) sc__law_two_right.nd rfl (.inl rfl) .none (.inl rfl) (se_lst (sa_cons (se_call F_composed (hr.mono (by decide)) (by rfl) d_composed.g d_composed.fn.kp d_composed.b (takes_of rfl rfl rfl rfl) (sa_cons (se_var (pv 0)) (sa_cons (se_var (pv 1)) sa_nil))) (sa_cons (se_call F_product_row (hr.mono (by decide)) (by rfl) d_product_row.g d_product_row.fn.kp d_product_row.b (takes_of rfl rfl rfl rfl) (sa_cons (se_var (pv 0)) (sa_cons (se_var (pv 1)) sa_nil))) (sa_cons (se_call F_parted_set (hr.mono (by decide)) (by rfl) d_parted_set.g d_parted_set.fn.kp d_parted_set.b (takes_of rfl rfl rfl rfl) (sa_cons (se_var (pv 0)) (sa_cons (se_var (pv 1)) sa_nil))) (sa_cons (se_call F_meets_of (hr.mono (by decide)) (by rfl) d_meets_of.g d_meets_of.fn.kp d_meets_of.b (takes_of rfl rfl rfl rfl) (sa_cons (se_var (pv 0)) (sa_cons (se_var (pv 1)) sa_nil))) (sa_cons (se_call F_are_orthogonal (hr.mono (by decide)) (by rfl) d_are_orthogonal.g d_are_orthogonal.fn.kp d_are_orthogonal.b (takes_of rfl rfl rfl rfl) (sa_cons (se_var (pv 0)) (sa_cons (se_var (pv 1)) sa_nil))) (sa_cons (se_call F_lies_below (hr.mono (by decide)) (by rfl) d_lies_below.g d_lies_below.fn.kp d_lies_below.b (takes_of rfl rfl rfl rfl) (sa_cons (se_var (pv 0)) (sa_cons (se_var (pv 1)) sa_nil))) sa_nil))))))))
    (ss_cons (ss_if (st_tru (se_var (pv 2))) (ss_cons (ss_set (i := 5) (n := 0) sc__law_two_right.nd rfl (.inl rfl) .none (.inl rfl) (se_lst (sa_cons (se_callK F_composed (hr.mono (by decide)) (by rfl) d_composed.g d_composed.fn.kp (kw_composed_other_one d_composed) (takes_of rfl rfl rfl rfl) (sk_cons (se_var (pv 1)) (sk_cons (se_var (pv 0)) sk_nil))) (sa_cons (se_callK F_product_row (hr.mono (by decide)) (by rfl) d_product_row.g d_product_row.fn.kp (kw_product_row_other_one d_product_row) (takes_of rfl rfl rfl rfl) (sk_cons (se_var (pv 1)) (sk_cons (se_var (pv 0)) sk_nil))) (sa_cons (se_callK F_parted_set (hr.mono (by decide)) (by rfl) d_parted_set.g d_parted_set.fn.kp (kw_parted_set_other_one d_parted_set) (takes_of rfl rfl rfl rfl) (sk_cons (se_var (pv 1)) (sk_cons (se_var (pv 0)) sk_nil))) (sa_cons (se_callK F_meets_of (hr.mono (by decide)) (by rfl) d_meets_of.g d_meets_of.fn.kp (kw_meets_of_other_one d_meets_of) (takes_of rfl rfl rfl rfl) (sk_cons (se_var (pv 1)) (sk_cons (se_var (pv 0)) sk_nil))) sa_nil))))))
    (ss_one (ss_set (i := 5) (n := 0) sc__law_two_right.nd rfl (.inl rfl) .none (.inl rfl) (se_add (se_var (pv 5)) (se_lst (sa_cons (se_callK F_are_orthogonal (hr.mono (by decide)) (by rfl) d_are_orthogonal.g d_are_orthogonal.fn.kp (kw_are_orthogonal_other_one d_are_orthogonal) (takes_of rfl rfl rfl rfl) (sk_cons (se_var (pv 1)) (sk_cons (se_var (pv 0)) sk_nil))) (sa_cons (se_callK F_lies_below (hr.mono (by decide)) (by rfl) d_lies_below.g d_lies_below.fn.kp (kw_lies_below_other_one d_lies_below) (takes_of rfl rfl rfl rfl) (sk_cons (se_var (pv 1)) (sk_cons (se_var (pv 0)) sk_nil))) sa_nil))))))) ss_nil)
    (ss_one (ss_ret (se_callR F__law_same (hr.mono (by decide)) (by rfl) d__law_same.g d__law_same.fn.kp d__law_same.b (takes_of rfl rfl rfl rfl) (sa_cons (se_var (pv 5)) (sa_cons (se_var (pv 4)) sa_nil)))))))))))⟩
theorem ok__law_call (Z : Glob w K mg) (k_plus_set : OkD P w K mg base "plus_set" s_plus_set ["row"] 5 1 f_plus_set) (k_minus_set : OkD P w K mg base "minus_set" s_minus_set ["row"] 5 1 f_minus_set) (k_zero_set : OkD P w K mg base "zero_set" s_zero_set ["row"] 5 1 f_zero_set) (k_support : OkD P w K mg base "support" s_support ["row"] 5 1 f_support) (k_opposite : OkD P w K mg base "opposite" s_opposite ["row"] 5 1 f_opposite) (k_row_of : OkD P w K mg base "row_of" s_row_of ["count", "plus", "minus"] 5 3 f_row_of) (k_turned_row : OkD P w K mg base "turned_row" s_turned_row ["row", "members"] 6 2 f_turned_row) (k_part_of : OkD P w K mg base "part_of" s_part_of ["row", "members"] 6 2 f_part_of) (k_composed : OkD P w K mg base "composed" s_composed ["one", "other"] 6 2 f_composed) (k_product_row : OkD P w K mg base "product_row" s_product_row ["one", "other"] 6 2 f_product_row) (k_parted_set : OkD P w K mg base "parted_set" s_parted_set ["one", "other"] 6 2 f_parted_set) (k_are_orthogonal : OkD P w K mg base "are_orthogonal" s_are_orthogonal ["one", "other"] 6 2 f_are_orthogonal) (k_lies_below : OkD P w K mg base "lies_below" s_lies_below ["one", "other"] 6 2 f_lies_below) (k_meets_of : OkD P w K mg base "meets_of" s_meets_of ["one", "other"] 6 2 f_meets_of) (h0 : ∃ a fd, Df K mg "_law_call" s__law_call ["kind", "first", "second", "third"] a fd) : OkD P w K mg base "_law_call" s__law_call ["kind", "first", "second", "third"] 7 4 f__law_call := by
  obtain ⟨a__law_call, fd__law_call, d__law_call⟩ := h0
  obtain ⟨a_plus_set, fd_plus_set, d_plus_set, F_plus_set⟩ := k_plus_set
  obtain ⟨a_minus_set, fd_minus_set, d_minus_set, F_minus_set⟩ := k_minus_set
  obtain ⟨a_zero_set, fd_zero_set, d_zero_set, F_zero_set⟩ := k_zero_set
  obtain ⟨a_support, fd_support, d_support, F_support⟩ := k_support
  obtain ⟨a_opposite, fd_opposite, d_opposite, F_opposite⟩ := k_opposite
  obtain ⟨a_row_of, fd_row_of, d_row_of, F_row_of⟩ := k_row_of
  obtain ⟨a_turned_row, fd_turned_row, d_turned_row, F_turned_row⟩ := k_turned_row
  obtain ⟨a_part_of, fd_part_of, d_part_of, F_part_of⟩ := k_part_of
  obtain ⟨a_composed, fd_composed, d_composed, F_composed⟩ := k_composed
  obtain ⟨a_product_row, fd_product_row, d_product_row, F_product_row⟩ := k_product_row
  obtain ⟨a_parted_set, fd_parted_set, d_parted_set, F_parted_set⟩ := k_parted_set
  obtain ⟨a_are_orthogonal, fd_are_orthogonal, d_are_orthogonal, F_are_orthogonal⟩ := k_are_orthogonal
  obtain ⟨a_lies_below, fd_lies_below, d_lies_below, F_lies_below⟩ := k_lies_below
  obtain ⟨a_meets_of, fd_meets_of, d_meets_of, F_meets_of⟩ := k_meets_of
  exact ⟨a__law_call, fd__law_call, d__law_call, ok_fn d__law_call.fn sc__law_call fun cdv A outer s H E hr => by
    exact (ss_one (ss_if (st_cmp (op_eqD hr.units) os_eq (se_var (pv 0)) se_int (nomark _)) (ss_one (ss_expr (se_call F_plus_set (hr.mono (by decide)) (by rfl) d_plus_set.g d_plus_set.fn.kp d_plus_set.b (takes_of rfl rfl rfl rfl) (sa_cons (se_var (pv 1)) sa_nil)))) (ss_one (ss_if (st_cmp (op_eqD hr.units) os_eq (se_var (pv 0)) se_int (nomark _)) (ss_one (ss_expr (se_callK F_minus_set (hr.mono (by decide)) (by rfl) d_minus_set.g d_minus_set.fn.kp (kw_minus_set_row d_minus_set) (takes_of rfl rfl rfl rfl) (sk_cons (se_var (pv 1)) sk_nil)))) (ss_one (ss_if (st_cmp (op_eqD hr.units) os_eq (se_var (pv 0)) se_int (nomark _)) (ss_one (ss_expr (se_call F_zero_set (hr.mono (by decide)) (by rfl) d_zero_set.g d_zero_set.fn.kp d_zero_set.b (takes_of rfl rfl rfl rfl) (sa_cons (se_var (pv 1)) sa_nil)))) (ss_one (ss_if (st_cmp (op_eqD hr.units) os_eq (se_var (pv 0)) se_int (nomark _)) (ss_one (ss_expr (se_callK F_support (hr.mono (by decide)) (by rfl) d_support.g d_support.fn.kp (kw_support_row d_support) (takes_of rfl rfl rfl rfl) (sk_cons (se_var (pv 1)) sk_nil)))) (ss_one (ss_if (st_cmp (op_eqD hr.units) os_eq (se_var (pv 0)) se_int (nomark _)) (ss_one (ss_expr (se_call F_opposite (hr.mono (by decide)) (by rfl) d_opposite.g d_opposite.fn.kp d_opposite.b (takes_of rfl rfl rfl rfl) (sa_cons (se_var (pv 1)) sa_nil)))) (ss_one (ss_if (st_cmp (op_eqD hr.units) os_eq (se_var (pv 0)) se_int (nomark _)) (ss_one (ss_expr (se_callK F_turned_row (hr.mono (by decide)) (by rfl) d_turned_row.g d_turned_row.fn.kp (kw_turned_row_members_row d_turned_row) (takes_of rfl rfl rfl rfl) (sk_cons (se_var (pv 2)) (sk_cons (se_var (pv 1)) sk_nil))))) (ss_one (ss_if (st_cmp (op_eqD hr.units) os_eq (se_var (pv 0)) se_int (nomark _)) (ss_one (ss_expr (se_call F_part_of (hr.mono (by decide)) (by rfl) d_part_of.g d_part_of.fn.kp d_part_of.b (takes_of rfl rfl rfl rfl) (sa_cons (se_var (pv 1)) (sa_cons (se_var (pv 2)) sa_nil))))) (ss_one (ss_if (st_cmp (op_eqD hr.units) os_eq (se_var (pv 0)) se_int (nomark _)) (ss_one (ss_expr (se_call F_composed (hr.mono (by decide)) (by rfl) d_composed.g d_composed.fn.kp d_composed.b (takes_of rfl rfl rfl rfl) (sa_cons (se_var (pv 1)) (sa_cons (se_var (pv 2)) sa_nil))))) (ss_one (ss_if (st_cmp (op_eqD hr.units) os_eq (se_var (pv 0)) se_int (nomark _)) (ss_one (ss_expr (se_callK F_product_row (hr.mono (by decide)) (by rfl) d_product_row.g d_product_row.fn.kp (kw_product_row_other_one d_product_row) (takes_of rfl rfl rfl rfl) (sk_cons (se_var (pv 2)) (sk_cons (se_var (pv 1)) sk_nil))))) (ss_one (ss_if (st_cmp (op_eqD hr.units) os_eq (se_var (pv 0)) se_int (nomark _)) (ss_one (ss_expr (se_call F_parted_set (hr.mono (by decide)) (by rfl) d_parted_set.g d_parted_set.fn.kp d_parted_set.b (takes_of rfl rfl rfl rfl) (sa_cons (se_var (pv 1)) (sa_cons (se_var (pv 2)) sa_nil))))) (ss_one (ss_if (st_cmp (op_eqD hr.units) os_eq (se_var (pv 0)) se_int (nomark _)) (ss_one (ss_expr (se_callK F_meets_of (hr.mono (by decide)) (by rfl) d_meets_of.g d_meets_of.fn.kp (kw_meets_of_other_one d_meets_of) (takes_of rfl rfl rfl rfl) (sk_cons (se_var (pv 2)) (sk_cons (se_var (pv 1)) sk_nil))))) (ss_one (ss_if (st_cmp (op_eqD hr.units) os_eq (se_var (pv 0)) se_int (nomark _)) (ss_one (ss_expr (se_call F_are_orthogonal (hr.mono (by decide)) (by rfl) d_are_orthogonal.g d_are_orthogonal.fn.kp d_are_orthogonal.b (takes_of rfl rfl rfl rfl) (sa_cons (se_var (pv 1)) (sa_cons (se_var (pv 2)) sa_nil))))) (ss_one (ss_if (st_cmp (op_eqD hr.units) os_eq (se_var (pv 0)) se_int (nomark _)) (ss_one (ss_expr (se_callK F_lies_below (hr.mono (by decide)) (by rfl) d_lies_below.g d_lies_below.fn.kp (kw_lies_below_other_one d_lies_below) (takes_of rfl rfl rfl rfl) (sk_cons (se_var (pv 2)) (sk_cons (se_var (pv 1)) sk_nil))))) (ss_one (ss_expr (se_call F_row_of (hr.mono (by decide)) (by rfl) d_row_of.g d_row_of.fn.kp d_row_of.b (takes_of rfl rfl rfl rfl) (sa_cons (se_var (pv 1)) (sa_cons (se_var (pv 2)) (sa_cons (se_var (pv 3)) sa_nil))))))))))))))))))))))))))))))))⟩
theorem ok__law_asked (Z : Glob w K mg) (k__law_call : OkD P w K mg base "_law_call" s__law_call ["kind", "first", "second", "third"] 7 4 f__law_call) (x_InvalidCount : OkE P w K mg base "InvalidCount" "InvalidCount.__init__" i_InvalidCount) (x_InvalidRow : OkE P w K mg base "InvalidRow" "InvalidRow.__init__" i_InvalidRow) (x_InvalidSet : OkE P w K mg base "InvalidSet" "InvalidSet.__init__" i_InvalidSet) (h0 : ∃ a fd, Df K mg "_law_asked" s__law_asked ["kind", "first", "second", "third"] a fd) : OkD P w K mg base "_law_asked" s__law_asked ["kind", "first", "second", "third"] 8 4 f__law_asked := by
  obtain ⟨a__law_asked, fd__law_asked, d__law_asked⟩ := h0
  obtain ⟨a__law_call, fd__law_call, d__law_call, F__law_call⟩ := k__law_call
  obtain ⟨C_InvalidCount, fI_InvalidCount, fdI_InvalidCount, E_InvalidCount, I_InvalidCount⟩ := x_InvalidCount
  obtain ⟨C_InvalidRow, fI_InvalidRow, fdI_InvalidRow, E_InvalidRow, I_InvalidRow⟩ := x_InvalidRow
  obtain ⟨C_InvalidSet, fI_InvalidSet, fdI_InvalidSet, E_InvalidSet, I_InvalidSet⟩ := x_InvalidSet
  obtain ⟨C_OrientError, zb_OrientError, zk_OrientError⟩ := Z.b_OrientError
  have TB_InvalidCount : TabOk K mg (.ref C_InvalidCount) "given" (fun cls => PySem.W.kitOne K cls (.ref C_OrientError) = some true) [("InvalidCount", true), ("InvalidRow", false), ("InvalidSet", false)] :=
    (tab_yes E_InvalidCount.g (Z.x_InvalidCount_InvalidCount _ _ E_InvalidCount.g E_InvalidCount.g) E_InvalidCount.er (zk_OrientError _ E_InvalidCount.g) (tab_no E_InvalidRow.g (Z.x_InvalidRow_InvalidCount _ _ E_InvalidRow.g E_InvalidCount.g) (tab_no E_InvalidSet.g (Z.x_InvalidSet_InvalidCount _ _ E_InvalidSet.g E_InvalidCount.g) tab_nil)))
  have TB_InvalidRow : TabOk K mg (.ref C_InvalidRow) "given" (fun _ => True) [("InvalidCount", false), ("InvalidRow", true), ("InvalidSet", false)] :=
    (tab_no E_InvalidCount.g (Z.x_InvalidCount_InvalidRow _ _ E_InvalidCount.g E_InvalidRow.g) (tab_yes E_InvalidRow.g (Z.x_InvalidRow_InvalidRow _ _ E_InvalidRow.g E_InvalidRow.g) E_InvalidRow.er trivial (tab_no E_InvalidSet.g (Z.x_InvalidSet_InvalidRow _ _ E_InvalidSet.g E_InvalidRow.g) tab_nil)))
  have TB_InvalidSet : TabOk K mg (.ref C_InvalidSet) "given" (fun _ => True) [("InvalidCount", false), ("InvalidRow", false), ("InvalidSet", true)] :=
    (tab_no E_InvalidCount.g (Z.x_InvalidCount_InvalidSet _ _ E_InvalidCount.g E_InvalidSet.g) (tab_no E_InvalidRow.g (Z.x_InvalidRow_InvalidSet _ _ E_InvalidRow.g E_InvalidSet.g) (tab_yes E_InvalidSet.g (Z.x_InvalidSet_InvalidSet _ _ E_InvalidSet.g E_InvalidSet.g) E_InvalidSet.er trivial tab_nil)))
  exact ⟨a__law_asked, fd__law_asked, d__law_asked, ok_fn d__law_asked.fn sc__law_asked fun cdv A outer s H E hr => by
    exact (ss_cons (ss_try rfl rfl sc__law_asked.nd (takes_of rfl rfl rfl rfl) (fun W pn xe h1 h2 => by exact (ss_one (ss_expr (se_call F__law_call (hr.mono (by decide)) (by rfl) d__law_call.g d__law_call.fn.kp d__law_call.b h1 (sa_cons (se_var (pv 0)) (sa_cons (se_var (pv 1)) (sa_cons (se_var (pv 2)) (sa_cons (se_var (pv 3)) sa_nil)))))))) (.cons (q := ⟨[("InvalidCount", false), ("InvalidRow", true), ("InvalidSet", false)], "given", 4, (bd (mLst (aCons (rt (vl (.str [114, 111, 119]))) (aCons mErr aNil))) fun f => rt (.rt f))⟩) (Pc := (fun _ => True)) ⟨by rfl, by decide, .inl E_InvalidRow.g⟩ rfl rfl TB_InvalidRow (fun a oe cls dd pn hl pc => by exact (ss_one (ss_ret (se_lst (sa_cons (se_str (s := [114, 111, 119]) rfl (by decide) (by decide)) (sa_cons (se_err hl (pv 4)) sa_nil)))))) (.cons (q := ⟨[("InvalidCount", false), ("InvalidRow", false), ("InvalidSet", true)], "given", 4, (bd (mLst (aCons (rt (vl (.str [115, 101, 116]))) (aCons mErr aNil))) fun f => rt (.rt f))⟩) (Pc := (fun _ => True)) ⟨by rfl, by decide, .inl E_InvalidSet.g⟩ rfl rfl TB_InvalidSet (fun a oe cls dd pn hl pc => by exact (ss_one (ss_ret (se_lst (sa_cons (se_str (s := [115, 101, 116]) rfl (by decide) (by decide)) (sa_cons (se_err hl (pv 4)) sa_nil)))))) (.cons (q := ⟨[("InvalidCount", true), ("InvalidRow", false), ("InvalidSet", false)], "given", 4, (bd (mIf (bd (rt (vl (.bl true))) tru) (mLst (aCons (rt (vl (.str [99, 111, 117, 110, 116]))) (aCons mErr aNil))) (mLst (aCons (rt (vl (.str [116, 111, 108, 100]))) (aCons (rt (vl .non)) aNil)))) fun f => rt (.rt f))⟩) (Pc := (fun cls => PySem.W.kitOne K cls (.ref C_OrientError) = some true)) ⟨by rfl, by decide, .inl E_InvalidCount.g⟩ rfl rfl TB_InvalidCount (fun a oe cls dd pn hl pc => by exact (ss_one (ss_ret (se_if (st_tru (se_isH hl pc (by rfl) Z.z_isinstance (by rfl) zb_OrientError (pv 4))) (se_lst (sa_cons (se_str (s := [99, 111, 117, 110, 116]) rfl (by decide) (by decide)) (sa_cons (se_err hl (pv 4)) sa_nil))) (se_lst (sa_cons (se_str (s := [116, 111, 108, 100]) rfl (by decide) (by decide)) (sa_cons se_non sa_nil))))))) .nil))))
    (ss_one (ss_ret (se_lst (sa_cons (se_str (s := [116, 111, 108, 100]) rfl (by decide) (by decide)) (sa_cons se_non sa_nil))))))⟩
theorem ok__law_refused_right (Z : Glob w K mg) (k__law_take : OkD P w K mg base "_law_take" s__law_take ["box", "many"] 1 2 f__law_take) (k__law_copy : OkD P w K mg base "_law_copy" s__law_copy ["value"] 1 1 f__law_copy) (k__law_blamed : OkD P w K mg base "_law_blamed" s__law_blamed ["given", "value"] 6 2 f__law_blamed) (k__law_is_row : OkD P w K mg base "_law_is_row" s__law_is_row ["value"] 1 1 f__law_is_row) (k__law_odd_rows : OkD P w K mg base "_law_odd_rows" s__law_odd_rows ["row"] 1 1 f__law_odd_rows) (k__law_asked : OkD P w K mg base "_law_asked" s__law_asked ["kind", "first", "second", "third"] 8 4 f__law_asked) (h0 : ∃ a fd, Df K mg "_law_refused_right" s__law_refused_right ["box", "row"] a fd) : OkD P w K mg base "_law_refused_right" s__law_refused_right ["box", "row"] 9 2 f__law_refused_right := by
  obtain ⟨a__law_refused_right, fd__law_refused_right, d__law_refused_right⟩ := h0
  obtain ⟨a__law_take, fd__law_take, d__law_take, F__law_take⟩ := k__law_take
  obtain ⟨a__law_copy, fd__law_copy, d__law_copy, F__law_copy⟩ := k__law_copy
  obtain ⟨a__law_blamed, fd__law_blamed, d__law_blamed, F__law_blamed⟩ := k__law_blamed
  obtain ⟨a__law_is_row, fd__law_is_row, d__law_is_row, F__law_is_row⟩ := k__law_is_row
  obtain ⟨a__law_odd_rows, fd__law_odd_rows, d__law_odd_rows, F__law_odd_rows⟩ := k__law_odd_rows
  obtain ⟨a__law_asked, fd__law_asked, d__law_asked, F__law_asked⟩ := k__law_asked
  exact ⟨a__law_refused_right, fd__law_refused_right, d__law_refused_right, ok_fn d__law_refused_right.fn sc__law_refused_right fun cdv A outer s H E hr => by
    exact (ss_cons (ss_setLc (i := 2) (n := 0) rfl sc__law_refused_right.nd rfl rfl .none (sw_true rfl rfl (by decide) (by decide)) (si_one (se_call F__law_odd_rows (hr.mono (by decide)) (by rfl) d__law_odd_rows.g d__law_odd_rows.fn.kp d__law_odd_rows.b (takes_of rfl rfl rfl rfl) (sa_cons (se_var (pv 1)) sa_nil))) (blk_by (M := ["box", "row", "bad", "count", "asks", "kind", "other", "sets", "odd", "counts", "first", "second", "third", "word", "at", "given", "told", "value"]) (sc := defScope s__law_refused_right) (own := [("value", 17)]) rfl rfl (by decide +kernel)) (fun _ _ _ _ _ => by exact (sg_name sc__law_refused_right.nd rfl (.inl rfl) .none (.inr rfl))) (fun _ _ _ _ _ => by exact (sts_one (st_not (st_tru (se_call F__law_is_row (hr.mono (by decide)) (by rfl) d__law_is_row.g d__law_is_row.fn.kp d__law_is_row.b takes0 (sa_cons (se_var (pv 17)) sa_nil)))))) (fun _ _ _ _ _ => by exact (se_var (pv 17))) (by decide) .none)
    (ss_cons (ss_par (i := 3) (j := 4) (n := 1) rfl sc__law_refused_right.nd rfl rfl (by decide) .none .none rfl rfl (sa_cons (se_callB call_lenU ca_lenU (by rfl) Z.z_len bt_len (sa_cons (se_var (pv 1)) sa_nil)) (sa_cons (se_lst sa_nil) sa_nil)) rfl)
    (ss_cons (ss_for (kl := []) (passes_of rfl) rfl (si_rng1 (by rfl) Z.z_range (sa_cons se_int sa_nil)) (sg_name sc__law_refused_right.nd rfl (.inl rfl) .none (.inl rfl)) (ss_one (ss_expr (se_cm slot_app PySem.F.type_list_append mt_append (cm_app (n := 0)) (se_var (pv 4)) (sa_cons (se_lst (sa_cons (se_var (pv 5)) (sa_cons (se_ix (se_var (pv 2)) (se_call F__law_take (hr.mono (by decide)) (by rfl) d__law_take.g d__law_take.fn.kp d__law_take.b (takes_of rfl rfl rfl rfl) (sa_cons (se_var (pv 0)) (sa_cons (se_callB call_lenU ca_lenU (by rfl) Z.z_len bt_len (sa_cons (se_var (pv 2)) sa_nil)) sa_nil)))) (sa_cons (se_ix (se_var (pv 2)) (se_call F__law_take (hr.mono (by decide)) (by rfl) d__law_take.g d__law_take.fn.kp d__law_take.b (takes_of rfl rfl rfl rfl) (sa_cons (se_var (pv 0)) (sa_cons (se_callB call_lenU ca_lenU (by rfl) Z.z_len bt_len (sa_cons (se_var (pv 2)) sa_nil)) sa_nil)))) (sa_cons se_non (sa_cons (se_str (s := [114, 111, 119]) rfl (by decide) (by decide)) (sa_cons se_int sa_nil))))))) sa_nil)))))
    (ss_cons (ss_for (kl := []) (passes_of rfl) rfl (si_rng2 (by rfl) Z.z_range (sa_cons se_int (sa_cons se_int sa_nil))) (sg_name sc__law_refused_right.nd rfl (.inl rfl) .none (.inl rfl)) (ss_cons (ss_set (i := 6) (n := 0) sc__law_refused_right.nd rfl (.inl rfl) .none (.inl rfl) (se_ix (se_lst (sa_cons (se_ix (se_var (pv 2)) (se_call F__law_take (hr.mono (by decide)) (by rfl) d__law_take.g d__law_take.fn.kp d__law_take.b (takes_of rfl rfl rfl rfl) (sa_cons (se_var (pv 0)) (sa_cons (se_callB call_lenU ca_lenU (by rfl) Z.z_len bt_len (sa_cons (se_var (pv 2)) sa_nil)) sa_nil)))) (sa_cons (se_if (st_cmp op_lt os_lt (se_var (pv 3)) se_int (nomark _)) (se_mul (se_str (s := [43]) rfl (by decide) (by decide)) (se_add (se_var (pv 3)) se_int)) (se_str (s := [43]) rfl (by decide) (by decide))) (sa_cons (se_if (st_cmp op_gt os_gt (se_var (pv 3)) se_int (nomark _)) (se_mul (se_str (s := [48]) rfl (by decide) (by decide)) (se_sub (se_var (pv 3)) se_int)) (se_str (s := [45, 45]) rfl (by decide) (by decide))) sa_nil)))) (se_call F__law_take (hr.mono (by decide)) (by rfl) d__law_take.g d__law_take.fn.kp d__law_take.b (takes_of rfl rfl rfl rfl) (sa_cons (se_var (pv 0)) (sa_cons se_int sa_nil)))))
    (ss_one (ss_expr (se_cm slot_app PySem.F.type_list_append mt_append (cm_app (n := 0)) (se_var (pv 4)) (sa_cons (se_lst (sa_cons (se_var (pv 5)) (sa_cons (se_var (pv 1)) (sa_cons (se_var (pv 6)) (sa_cons se_non (sa_cons (se_str (s := [114, 111, 119]) rfl (by decide) (by decide)) (sa_cons se_int sa_nil))))))) sa_nil))))))
    (ss_cons (ss_set (i := 7) (n := 0) sc__law_refused_right.nd rfl (.inl rfl) .none (.inl rfl) (se_lst (sa_cons se_non (sa_cons se_int (sa_cons (se_str (s := []) rfl (by decide) (by decide)) (sa_cons (se_lst (sa_cons se_int sa_nil)) (sa_cons (se_tup (sa_cons se_int (sa_cons se_int sa_nil))) (sa_cons (se_tup (sa_cons (se_var (pv 3)) sa_nil)) (sa_cons (se_tup (sa_cons (se_neg se_int) sa_nil)) (sa_cons (se_tup (sa_cons se_bl sa_nil)) (sa_cons (se_tup (sa_cons (se_str (s := [48]) rfl (by decide) (by decide)) sa_nil)) (sa_cons se_dnil (sa_cons (se_tup (sa_cons se_int (sa_cons se_int sa_nil))) (sa_cons (se_tup (sa_cons se_int (sa_cons (se_var (pv 3)) sa_nil))) (sa_cons (se_tup (sa_cons se_non sa_nil)) (sa_cons (se_lst sa_nil) (sa_cons (se_tup (sa_cons se_int (sa_cons se_int (sa_cons se_int sa_nil)))) sa_nil)))))))))))))))))
    (ss_cons (ss_set (i := 8) (n := 0) sc__law_refused_right.nd rfl (.inl rfl) .none (.inl rfl) (se_ix (se_var (pv 7)) (se_call F__law_take (hr.mono (by decide)) (by rfl) d__law_take.g d__law_take.fn.kp d__law_take.b (takes_of rfl rfl rfl rfl) (sa_cons (se_var (pv 0)) (sa_cons (se_callB call_lenU ca_lenU (by rfl) Z.z_len bt_len (sa_cons (se_var (pv 7)) sa_nil)) sa_nil)))))
    (ss_cons (ss_set (i := 4) (n := 1) sc__law_refused_right.nd rfl (.inl rfl) .none (.inl rfl) (se_add (se_var (pv 4)) (se_lst (sa_cons (se_lst (sa_cons se_int (sa_cons (se_var (pv 1)) (sa_cons (se_var (pv 8)) (sa_cons se_non (sa_cons (se_str (s := [115, 101, 116]) rfl (by decide) (by decide)) (sa_cons se_int sa_nil))))))) (sa_cons (se_lst (sa_cons se_int (sa_cons (se_var (pv 1)) (sa_cons (se_var (pv 8)) (sa_cons se_non (sa_cons (se_str (s := [115, 101, 116]) rfl (by decide) (by decide)) (sa_cons se_int sa_nil))))))) (sa_cons (se_lst (sa_cons se_int (sa_cons (se_var (pv 3)) (sa_cons (se_var (pv 8)) (sa_cons se_non (sa_cons (se_str (s := [115, 101, 116]) rfl (by decide) (by decide)) (sa_cons se_int sa_nil))))))) (sa_cons (se_lst (sa_cons se_int (sa_cons (se_var (pv 3)) (sa_cons (se_tup sa_nil) (sa_cons (se_var (pv 8)) (sa_cons (se_str (s := [115, 101, 116]) rfl (by decide) (by decide)) (sa_cons se_int sa_nil))))))) sa_nil)))))))
    (ss_cons (ss_set (i := 4) (n := 1) sc__law_refused_right.nd rfl (.inl rfl) .none (.inl rfl) (se_add (se_var (pv 4)) (se_lst (sa_cons (se_lst (sa_cons se_int (sa_cons (se_var (pv 3)) (sa_cons (se_tup (sa_cons se_int sa_nil)) (sa_cons (se_tup (sa_cons se_int sa_nil)) (sa_cons (se_str (s := [115, 101, 116]) rfl (by decide) (by decide)) (sa_cons se_int sa_nil))))))) (sa_cons (se_lst (sa_cons se_int (sa_cons (se_var (pv 3)) (sa_cons (se_tupR rfl (by rfl) Z.z_tuple (by rfl) Z.z_range (se_var (pv 3))) (sa_cons (se_tup (sa_cons (se_sub (se_var (pv 3)) se_int) sa_nil)) (sa_cons (se_str (s := [115, 101, 116]) rfl (by decide) (by decide)) (sa_cons se_int sa_nil))))))) sa_nil)))))
    (ss_cons (ss_set (i := 9) (n := 0) sc__law_refused_right.nd rfl (.inl rfl) .none (.inl rfl) (se_lst (sa_cons se_non (sa_cons se_int (sa_cons se_int (sa_cons (se_neg se_int) (sa_cons se_bl (sa_cons (se_str (s := [51]) rfl (by decide) (by decide)) (sa_cons (se_lst (sa_cons se_int sa_nil)) (sa_cons (se_tup (sa_cons se_int sa_nil)) (sa_cons se_dnil (sa_cons (se_pow se_int se_int) sa_nil))))))))))))
    (ss_cons (ss_expr (se_cm slot_app PySem.F.type_list_append mt_append (cm_app (n := 0)) (se_var (pv 4)) (sa_cons (se_lst (sa_cons se_int (sa_cons (se_ix (se_var (pv 9)) (se_call F__law_take (hr.mono (by decide)) (by rfl) d__law_take.g d__law_take.fn.kp d__law_take.b (takes_of rfl rfl rfl rfl) (sa_cons (se_var (pv 0)) (sa_cons se_int sa_nil)))) (sa_cons (se_var (pv 8)) (sa_cons (se_var (pv 8)) (sa_cons (se_str (s := [99, 111, 117, 110, 116]) rfl (by decide) (by decide)) (sa_cons se_int sa_nil))))))) sa_nil)))
    (ss_cons (ss_for (kl := [15, 16]) (passes_of rfl) rfl (si_one (se_var (pv 4))) (sg_tup rfl (sgs_cons (sg_name sc__law_refused_right.nd rfl (.inl rfl) .none (.inl rfl)) (sgs_cons (sg_name sc__law_refused_right.nd rfl (.inl rfl) .none (.inl rfl)) (sgs_cons (sg_name sc__law_refused_right.nd rfl (.inl rfl) .none (.inl rfl)) (sgs_cons (sg_name sc__law_refused_right.nd rfl (.inl rfl) .none (.inl rfl)) (sgs_cons (sg_name sc__law_refused_right.nd rfl (.inl rfl) .none (.inl rfl)) (sgs_cons (sg_name sc__law_refused_right.nd rfl (.inl rfl) .none (.inl rfl)) sgs_nil))))))) (ss_cons (ss_set (i := 15) (n := 2) sc__law_refused_right.nd rfl (.inl rfl) .none (.inl rfl) (se_lst (sa_cons (se_call F__law_copy (hr.mono (by decide)) (by rfl) d__law_copy.g d__law_copy.fn.kp d__law_copy.b (takes_of rfl rfl rfl rfl) (sa_cons (se_var (pv 10)) sa_nil)) (sa_cons (se_call F__law_copy (hr.mono (by decide)) (by rfl) d__law_copy.g d__law_copy.fn.kp d__law_copy.b (takes_of rfl rfl rfl rfl) (sa_cons (se_var (pv 11)) sa_nil)) (sa_cons (se_call F__law_copy (hr.mono (by decide)) (by rfl) d__law_copy.g d__law_copy.fn.kp d__law_copy.b (takes_of rfl rfl rfl rfl) (sa_cons (se_var (pv 12)) sa_nil)) sa_nil)))))
    (ss_cons (ss_set (i := 16) (n := 0) sc__law_refused_right.nd rfl (.inl rfl) .none (.inl rfl) (se_call F__law_asked (hr.mono (by decide)) (by rfl) d__law_asked.g d__law_asked.fn.kp d__law_asked.b (takes_of rfl rfl rfl rfl) (sa_cons (se_var (pv 5)) (sa_cons (se_ix (se_var (pv 15)) se_int) (sa_cons (se_ix (se_var (pv 15)) se_int) (sa_cons (se_ix (se_var (pv 15)) se_int) sa_nil))))))
    (ss_one (ss_if (st_w (sw_or (st_cmp (op_neD hr.units) os_ne (se_ix (se_var (pv 16)) se_int) (se_var (pv 13)) (nomark _)) (sw_or1 (st_not (st_tru (se_call F__law_blamed (hr.mono (by decide)) (by rfl) d__law_blamed.g d__law_blamed.fn.kp d__law_blamed.b (takes_of rfl rfl rfl rfl) (sa_cons (se_ix (se_var (pv 16)) se_int) (sa_cons (se_ix (se_var (pv 15)) (se_var (pv 14))) sa_nil)))))))) (ss_one (ss_ret se_bl)) ss_nil)))))
    (ss_one (ss_ret se_bl)))))))))))))⟩
theorem ok_law (Z : Glob w K mg) (k_is_row : OkD P w K mg base "is_row" s_is_row ["value"] 3 1 f_is_row) (k__law_cell : OkD P w K mg base "_law_cell" s__law_cell ["script", "k"] 1 2 f__law_cell) (k__law_box : OkD P w K mg base "_law_box" s__law_box ["great"] 1 1 f__law_box) (k__law_take : OkD P w K mg base "_law_take" s__law_take ["box", "many"] 1 2 f__law_take) (k__law_same : OkD P w K mg base "_law_same" s__law_same ["told", "due"] 5 2 (f__law_same 4)) (k__law_drawn : OkD P w K mg base "_law_drawn" s__law_drawn ["box"] 2 1 f__law_drawn) (k__law_second : OkD P w K mg base "_law_second" s__law_second ["box", "row"] 3 2 f__law_second) (k__law_is_row : OkD P w K mg base "_law_is_row" s__law_is_row ["value"] 1 1 f__law_is_row) (k__law_odd_rows : OkD P w K mg base "_law_odd_rows" s__law_odd_rows ["row"] 1 1 f__law_odd_rows) (k__law_one_right : OkD P w K mg base "_law_one_right" s__law_one_right ["box", "row", "by_name"] 7 3 f__law_one_right) (k__law_two_right : OkD P w K mg base "_law_two_right" s__law_two_right ["one", "other", "by_name"] 7 3 f__law_two_right) (k__law_refused_right : OkD P w K mg base "_law_refused_right" s__law_refused_right ["box", "row"] 9 2 f__law_refused_right) (h0 : ∃ a fd, Df K mg "law" s_law ["script"] a fd) : OkD P w K mg base "law" s_law ["script"] 10 1 f_law := by
  obtain ⟨a_law, fd_law, d_law⟩ := h0
  obtain ⟨a_is_row, fd_is_row, d_is_row, F_is_row⟩ := k_is_row
  obtain ⟨a__law_cell, fd__law_cell, d__law_cell, F__law_cell⟩ := k__law_cell
  obtain ⟨a__law_box, fd__law_box, d__law_box, F__law_box⟩ := k__law_box
  obtain ⟨a__law_take, fd__law_take, d__law_take, F__law_take⟩ := k__law_take
  obtain ⟨a__law_same, fd__law_same, d__law_same, F__law_same⟩ := k__law_same
  obtain ⟨a__law_drawn, fd__law_drawn, d__law_drawn, F__law_drawn⟩ := k__law_drawn
  obtain ⟨a__law_second, fd__law_second, d__law_second, F__law_second⟩ := k__law_second
  obtain ⟨a__law_is_row, fd__law_is_row, d__law_is_row, F__law_is_row⟩ := k__law_is_row
  obtain ⟨a__law_odd_rows, fd__law_odd_rows, d__law_odd_rows, F__law_odd_rows⟩ := k__law_odd_rows
  obtain ⟨a__law_one_right, fd__law_one_right, d__law_one_right, F__law_one_right⟩ := k__law_one_right
  obtain ⟨a__law_two_right, fd__law_two_right, d__law_two_right, F__law_two_right⟩ := k__law_two_right
  obtain ⟨a__law_refused_right, fd__law_refused_right, d__law_refused_right, F__law_refused_right⟩ := k__law_refused_right
  exact ⟨a_law, fd_law, d_law, ok_fn d_law.fn sc_law fun cdv A outer s H E hr => by
    exact (ss_cons (ss_for (kl := [2]) (passes_of rfl) rfl (si_rng1 (by rfl) Z.z_range (sa_cons (se_callB (call_max2 rfl) ca_max (by rfl) Z.z_max bt_max (sa_cons se_int (sa_cons (se_callB (call_min2 rfl) ca_min (by rfl) Z.z_min bt_min (sa_cons se_int (sa_cons (se_callB call_lenU ca_lenU (by rfl) Z.z_len bt_len (sa_cons (se_var (pv 0)) sa_nil)) sa_nil))) sa_nil))) sa_nil)) (sg_name sc_law.nd rfl (.inl rfl) .none (.inl rfl)) (ss_cons (ss_set (i := 2) (n := 1) sc_law.nd rfl (.inl rfl) .none (.inl rfl) (se_call F__law_box (hr.mono (by decide)) (by rfl) d__law_box.g d__law_box.fn.kp d__law_box.b (takes_of rfl rfl rfl rfl) (sa_cons (se_call F__law_cell (hr.mono (by decide)) (by rfl) d__law_cell.g d__law_cell.fn.kp d__law_cell.b (takes_of rfl rfl rfl rfl) (sa_cons (se_var (pv 0)) (sa_cons (se_var (pv 1)) sa_nil))) sa_nil)))
    (ss_cons (ss_par (i := 3) (j := 4) (n := 0) rfl sc_law.nd rfl rfl (by decide) .none .none rfl rfl (sa_cons (se_cmp (op_eqD hr.units) os_eq (se_call F__law_take (hr.mono (by decide)) (by rfl) d__law_take.g d__law_take.fn.kp d__law_take.b (takes_of rfl rfl rfl rfl) (sa_cons (se_var (pv 2)) (sa_cons se_int sa_nil))) se_int (nomark _)) (sa_cons (se_call F__law_drawn (hr.mono (by decide)) (by rfl) d__law_drawn.g d__law_drawn.fn.kp d__law_drawn.b (takes_of rfl rfl rfl rfl) (sa_cons (se_var (pv 2)) sa_nil)) sa_nil)) rfl)
    (ss_cons (ss_for (kl := []) (passes_of rfl) rfl (si_rng1 (by rfl) Z.z_range (sa_cons se_int sa_nil)) (sg_name sc_law.nd rfl (.inl rfl) .none (.inl rfl)) (ss_cons (ss_set (i := 6) (n := 0) sc_law.nd rfl (.inl rfl) .none (.inl rfl) (se_call F__law_second (hr.mono (by decide)) (by rfl) d__law_second.g d__law_second.fn.kp d__law_second.b (takes_of rfl rfl rfl rfl) (sa_cons (se_var (pv 2)) (sa_cons (se_var (pv 4)) sa_nil))))
    (ss_cons (ss_if (st_w (sw_or (st_not (st_tru (se_call F__law_one_right (hr.mono (by decide)) (by rfl) d__law_one_right.g d__law_one_right.fn.kp d__law_one_right.b (takes_of rfl rfl rfl rfl) (sa_cons (se_var (pv 2)) (sa_cons (se_var (pv 6)) (sa_cons (se_var (pv 3)) sa_nil)))))) (sw_or (st_not (st_tru (se_call F__law_two_right (hr.mono (by decide)) (by rfl) d__law_two_right.g d__law_two_right.fn.kp d__law_two_right.b (takes_of rfl rfl rfl rfl) (sa_cons (se_var (pv 4)) (sa_cons (se_var (pv 6)) (sa_cons (se_var (pv 3)) sa_nil)))))) (sw_or1 (st_not (st_tru (se_call F__law_two_right (hr.mono (by decide)) (by rfl) d__law_two_right.g d__law_two_right.fn.kp d__law_two_right.b (takes_of rfl rfl rfl rfl) (sa_cons (se_var (pv 6)) (sa_cons (se_var (pv 4)) (sa_cons (se_not (se_var (pv 3))) sa_nil)))))))))) (ss_one (ss_ret se_bl)) ss_nil)
    (ss_one (ss_set (i := 3) (n := 0) sc_law.nd rfl (.inl rfl) .none (.inl rfl) (se_not (se_var (pv 3))))))))
    (ss_cons (ss_for (kl := []) (passes_of rfl) rfl (si_one (se_add (se_call F__law_odd_rows (hr.mono (by decide)) (by rfl) d__law_odd_rows.g d__law_odd_rows.fn.kp d__law_odd_rows.b (takes_of rfl rfl rfl rfl) (sa_cons (se_var (pv 4)) sa_nil)) (se_lst (sa_cons (se_var (pv 4)) (sa_cons (se_revS (se_var (pv 4))) (sa_cons (se_sl (se_var (pv 4)) so_none (so_some se_int)) sa_nil)))))) (sg_name sc_law.nd rfl (.inl rfl) .none (.inl rfl)) (ss_cons (ss_set (i := 8) (n := 0) sc_law.nd rfl (.inl rfl) .none (.inl rfl) (se_call F__law_is_row (hr.mono (by decide)) (by rfl) d__law_is_row.g d__law_is_row.fn.kp d__law_is_row.b (takes_of rfl rfl rfl rfl) (sa_cons (se_var (pv 7)) sa_nil)))
    (ss_one (ss_if (st_not (st_tru (se_callR F__law_same (hr.mono (by decide)) (by rfl) d__law_same.g d__law_same.fn.kp d__law_same.b (takes_of rfl rfl rfl rfl) (sa_cons (se_if (st_tru (se_var (pv 3))) (se_callK F_is_row (hr.mono (by decide)) (by rfl) d_is_row.g d_is_row.fn.kp (kw_is_row_value d_is_row) (takes_of rfl rfl rfl rfl) (sk_cons (se_var (pv 7)) sk_nil)) (se_call F_is_row (hr.mono (by decide)) (by rfl) d_is_row.g d_is_row.fn.kp d_is_row.b (takes_of rfl rfl rfl rfl) (sa_cons (se_var (pv 7)) sa_nil))) (sa_cons (se_var (pv 8)) sa_nil))))) (ss_one (ss_ret se_bl)) ss_nil))))
    (ss_one (ss_if (st_not (st_tru (se_call F__law_refused_right (hr.mono (by decide)) (by rfl) d__law_refused_right.g d__law_refused_right.fn.kp d__law_refused_right.b (takes_of rfl rfl rfl rfl) (sa_cons (se_var (pv 2)) (sa_cons (se_var (pv 4)) sa_nil))))) (ss_one (ss_ret se_bl)) ss_nil)))))))
    (ss_one (ss_ret se_bl)))⟩
end
end Ob.K00
/-! # Kc: what the defs of the program compute -/
namespace Ob.K00
open PySem PySem.Spec PyProof.Rows L2 Ob

abbrev Store := List (Option Cell)
theorem fm_some {α : Type} (h : α → FT) (l : List α) : l.filterMap (fun x => some (h x)) = l.map h := by
  rw [show (fun x => some (h x)) = some ∘ h from rfl, List.filterMap_eq_map]
theorem fm_if {α β : Type} (p : α → Bool) (h : α → β) : ∀ l : List α, l.filterMap (fun x => if p x = true then some (h x) else none) = (l.filter p).map h
  | [] => rfl
  | x :: r => by
    cases e : p x with
    | true => rw [List.filter_cons_of_pos e, List.map_cons, List.filterMap_cons_some (b := h x) (by simp [e]), fm_if p h r]
    | false => rw [List.filter_cons_of_neg (by simp [e]), List.filterMap_cons_none (by simp [e]), fm_if p h r]
def isI : T → Bool
  | .int _ => true
  | _ => false
def isB (a b : Int) : T → Bool
  | .int i => decide (a ≤ i) && decide (i ≤ b)
  | _ => false
theorem e_is_integer (t : T) (s : Store) : f_is_integer [.pure t] s = .ok (vl (.bl (isI t))) s := by
  cases t <;> simp [f_is_integer, m_is_integer, isI, fnM, entry, bd, rt, sq, sNext, mv, m1, m2, m3, tb, tru, aCons, aNil, mCall, mAnd, mOr, mNot, mIf, tAndM, tOrM, tNotM, mIsi, mTy, tyT, isa, fz, fin, cutS, rlF, rl, mRaise, finE, vl, mCa, goC, allT, oEq, oNe, rd, rsF, rsV, okT, nd, dep, eqT, Ob.guard, i2, oLeI, oLtI, oGtI, oGeI, oSub, oNeg, Ob.mo, lcBody, mTg, SS.put, putAll, wipeL, itm, knd]
theorem e_is_between (t : T) (a b : Int) (s : Store) : f_is_between [.pure t, .pure (.int a), .pure (.int b)] s = .ok (vl (.bl (isB a b t))) s := by
  cases t with
  | int i => by_cases h : a ≤ i <;> simp [f_is_between, m_is_between, e_is_integer, isI, isB, h, fnM, entry, bd, rt, sq, sNext, mv, m1, m2, m3, tb, tru, aCons, aNil, mCall, mAnd, mOr, mNot, mIf, tAndM, tOrM, tNotM, mIsi, mTy, tyT, isa, fz, fin, cutS, rlF, rl, mRaise, finE, vl, mCa, goC, allT, oEq, oNe, rd, rsF, rsV, okT, nd, dep, eqT, Ob.guard, i2, oLeI, oLtI, oGtI, oGeI, oSub, oNeg, Ob.mo, lcBody, mTg, SS.put, putAll, wipeL, itm, knd]
  | _ => simp [f_is_between, m_is_between, e_is_integer, isI, isB, fnM, entry, bd, rt, sq, sNext, mv, m1, m2, m3, tb, tru, aCons, aNil, mCall, mAnd, mOr, mNot, mIf, tAndM, tOrM, tNotM, mIsi, mTy, tyT, isa, fz, fin, cutS, rlF, rl, mRaise, finE, vl, mCa, goC, allT, oEq, oNe, rd, rsF, rsV, okT, nd, dep, eqT, Ob.guard, i2, oLeI, oLtI, oGtI, oGeI, oSub, oNeg, Ob.mo, lcBody, mTg, SS.put, putAll, wipeL, itm, knd]
/-! signs -/
def sgn (c : Nat) : Bool := decide (c ∈ [43, 45, 48])
def isSg (many : Int) : T → Bool
  | .str r => decide ((r.length : Int) = many) && r.all sgn
  | _ => false
theorem bols_m {α : Type} (g : α → Bool) (l : List α) : bols (l.map fun x => T.bl (g x)) = some (l.map g) := by
  have := bols_map (l.map g)
  rw [List.map_map] at this
  exact this
theorem nums_m {α : Type} (g : α → Int) (l : List α) : nums (l.map fun x => T.int (g x)) = some (l.map g) := by
  have := nums_map (l.map g)
  rw [List.map_map] at this
  exact this
theorem strs_m {α : Type} (g : α → List Nat) (l : List α) : strs' (l.map fun x => T.str (g x)) = some (l.map g) := by
  have := strs_map (l.map g)
  rw [List.map_map] at this
  exact this
theorem all_bl {α : Type} (g : α → Bool) (l : List α) (s : SS) : bAll false [.new (l.map fun x => FT.val (.pure (.bl (g x))))] s = .ok (vl (.bl (l.all g))) s := by
  have e2 : purs (l.map fun x => FT.val (.pure (.bl (g x)))) = some (l.map fun x => T.bl (g x)) := purs_fm _ l
  simp [bAll, bd, lsqOf, seqOf, lstOf, mpurs, e2, bols_m, Ob.mo, rt, List.all_map]
theorem any_bl {α : Type} (g : α → Bool) (l : List α) (s : SS) : bAll true [.new (l.map fun x => FT.val (.pure (.bl (g x))))] s = .ok (vl (.bl (l.any g))) s := by
  have e2 : purs (l.map fun x => FT.val (.pure (.bl (g x)))) = some (l.map fun x => T.bl (g x)) := purs_fm _ l
  simp [bAll, bd, lsqOf, seqOf, lstOf, mpurs, e2, bols_m, Ob.mo, rt, List.any_map]
def chs (r : List Nat) : List T := r.map fun c => .str [c]
theorem c_is_signs {r : List Nat} {u : T} {s : Store} {x : Option VD} (hl : r.length ≤ lim) : c_is_signs_0 ⟨[some (.pure (.str r)), some (.pure u), none], s, x⟩ = .ok (.new (r.map fun c => FT.val (.pure (.bl (sgn c))))) ⟨[some (.pure (.str r)), some (.pure u), none], s, x⟩ := by
  unfold c_is_signs_0
  rw [lc_one (u := .str r) (ts := chs r) (fun x => match x with | .str [c] => some (vl (.bl (sgn c))) | _ => none) (by simp [mv]) rfl (fun x hx => ?_) (by simpa [chs] using hl), chs, filterMap_map', fm_some]
  obtain ⟨c, hc, rfl⟩ := List.mem_map.mp hx
  simp [oIn, sgn, fnM, entry, bd, rt, sq, sNext, mv, m1, m2, m3, tb, tru, aCons, aNil, mCall, mAnd, mOr, mNot, mIf, tAndM, tOrM, tNotM, mIsi, mTy, tyT, isa, fz, fin, cutS, rlF, rl, mRaise, finE, vl, mCa, goC, allT, oEq, oNe, rd, rsF, rsV, okT, nd, dep, eqT, Ob.guard, i2, oLeI, oLtI, oGtI, oGeI, oSub, oNeg, Ob.mo, lcBody, mTg, SS.put, putAll, wipeL, itm, knd]
theorem e_is_signs (t : T) (n : Int) (s : Store) (hz : ∀ r, t = .str r → r.length ≤ lim) : f_is_signs [.pure t, .pure (.int n)] s = .ok (vl (.bl (isSg n t))) s := by
  cases t with
  | str r =>
    by_cases h : (r.length : Int) = n <;> simp [f_is_signs, m_is_signs, isSg, h, bLenU, bLen, c_is_signs, hz r rfl, all_bl, fnM, entry, bd, rt, sq, sNext, mv, m1, m2, m3, tb, tru, aCons, aNil, mCall, mAnd, mOr, mNot, mIf, tAndM, tOrM, tNotM, mIsi, mTy, tyT, isa, fz, fin, cutS, rlF, rl, mRaise, finE, vl, mCa, goC, allT, oEq, oNe, rd, rsF, rsV, okT, nd, dep, eqT, Ob.guard, i2, oLeI, oLtI, oGtI, oGeI, oSub, oNeg, Ob.mo, lcBody, mTg, SS.put, putAll, wipeL, itm, knd]
  | _ => simp [f_is_signs, m_is_signs, isSg, fnM, entry, bd, rt, sq, sNext, mv, m1, m2, m3, tb, tru, aCons, aNil, mCall, mAnd, mOr, mNot, mIf, tAndM, tOrM, tNotM, mIsi, mTy, tyT, isa, fz, fin, cutS, rlF, rl, mRaise, finE, vl, mCa, goC, allT, oEq, oNe, rd, rsF, rsV, okT, nd, dep, eqT, Ob.guard, i2, oLeI, oLtI, oGtI, oGeI, oSub, oNeg, Ob.mo, lcBody, mTg, SS.put, putAll, wipeL, itm, knd]
theorem e_is_row_of (t : T) (n : Int) (s : Store) (hz : ∀ r, t = .str r → r.length ≤ lim) : f_is_row_of [.pure (.int n), .pure t] s = .ok (vl (.bl (isSg n t))) s := by
  simp [f_is_row_of, m_is_row_of, e_is_signs t n _ hz, fnM, entry, bd, rt, sq, sNext, mv, m1, m2, m3, tb, tru, aCons, aNil, mCall, mAnd, mOr, mNot, mIf, tAndM, tOrM, tNotM, mIsi, mTy, tyT, isa, fz, fin, cutS, rlF, rl, mRaise, finE, vl, mCa, goC, allT, oEq, oNe, rd, rsF, rsV, okT, nd, dep, eqT, Ob.guard, i2, oLeI, oLtI, oGtI, oGeI, oSub, oNeg, Ob.mo, lcBody, mTg, SS.put, putAll, wipeL, itm, knd]
def isRow : T → Bool
  | .str r => decide (1 ≤ r.length) && decide (r.length ≤ 8) && r.all sgn
  | _ => false
theorem e_is_row (t : T) (s : Store) (hz : ∀ r, t = .str r → r.length ≤ lim) : f_is_row [.pure t] s = .ok (vl (.bl (isRow t))) s := by
  cases t with
  | str r =>
    have e := e_is_row_of (.str r) (r.length : Nat) [] hz
    by_cases h1 : 1 ≤ r.length
    · by_cases h2 : r.length ≤ 8
      · have h1' : (1 : Int) ≤ (r.length : Int) := by omega
        have h2' : (r.length : Int) ≤ 8 := by omega
        simp [f_is_row, m_is_row, isRow, h1, h2, h1', h2', bLenU, bLen, e, isSg, fnM, entry, bd, rt, sq, sNext, mv, m1, m2, m3, tb, tru, aCons, aNil, mCall, mAnd, mOr, mNot, mIf, tAndM, tOrM, tNotM, mIsi, mTy, tyT, isa, fz, fin, cutS, rlF, rl, mRaise, finE, vl, mCa, goC, allT, oEq, oNe, rd, rsF, rsV, okT, nd, dep, eqT, Ob.guard, i2, oLeI, oLtI, oGtI, oGeI, oSub, oNeg, Ob.mo, lcBody, mTg, SS.put, putAll, wipeL, itm, knd]
      · have h1' : (1 : Int) ≤ (r.length : Int) := by omega
        have h2' : ¬ (r.length : Int) ≤ 8 := by omega
        simp [f_is_row, m_is_row, isRow, h1, h2, h1', h2', bLenU, bLen, fnM, entry, bd, rt, sq, sNext, mv, m1, m2, m3, tb, tru, aCons, aNil, mCall, mAnd, mOr, mNot, mIf, tAndM, tOrM, tNotM, mIsi, mTy, tyT, isa, fz, fin, cutS, rlF, rl, mRaise, finE, vl, mCa, goC, allT, oEq, oNe, rd, rsF, rsV, okT, nd, dep, eqT, Ob.guard, i2, oLeI, oLtI, oGtI, oGeI, oSub, oNeg, Ob.mo, lcBody, mTg, SS.put, putAll, wipeL, itm, knd]
    · have h1' : ¬ (1 : Int) ≤ (r.length : Int) := by omega
      simp [f_is_row, m_is_row, isRow, h1, h1', bLenU, bLen, fnM, entry, bd, rt, sq, sNext, mv, m1, m2, m3, tb, tru, aCons, aNil, mCall, mAnd, mOr, mNot, mIf, tAndM, tOrM, tNotM, mIsi, mTy, tyT, isa, fz, fin, cutS, rlF, rl, mRaise, finE, vl, mCa, goC, allT, oEq, oNe, rd, rsF, rsV, okT, nd, dep, eqT, Ob.guard, i2, oLeI, oLtI, oGtI, oGeI, oSub, oNeg, Ob.mo, lcBody, mTg, SS.put, putAll, wipeL, itm, knd]
  | _ => simp [f_is_row, m_is_row, isRow, fnM, entry, bd, rt, sq, sNext, mv, m1, m2, m3, tb, tru, aCons, aNil, mCall, mAnd, mOr, mNot, mIf, tAndM, tOrM, tNotM, mIsi, mTy, tyT, isa, fz, fin, cutS, rlF, rl, mRaise, finE, vl, mCa, goC, allT, oEq, oNe, rd, rsF, rsV, okT, nd, dep, eqT, Ob.guard, i2, oLeI, oLtI, oGtI, oGeI, oSub, oNeg, Ob.mo, lcBody, mTg, SS.put, putAll, wipeL, itm, knd]
end Ob.K00
/-! # Kd: what the defs of the program compute, second part -/
namespace Ob.K00
open PySem PySem.Spec PyProof.Rows L2 Ob

theorem atI_get {α : Type} (xs : List α) (j : Nat) : atI xs (j : Int) = xs[j]? := by
  cases e : xs[j]? with
  | some v => exact atI_nat e
  | none =>
    unfold atI ixN
    rw [List.getElem?_eq_none_iff] at e
    rw [if_pos (by omega), if_neg (by omega)]
    rfl
theorem atI_get1 {α : Type} (xs : List α) (j : Nat) : atI xs ((j : Int) + 1) = xs[j + 1]? := atI_get xs (j + 1)
/-! ### sets of elements -/
theorem c_are_between {ts : List T} {a b : Int} {s : Store} {x : Option VD} (hl : ts.length ≤ lim) : c_are_between_0 ⟨[some (.pure (.tup ts)), some (.pure (.int a)), some (.pure (.int b)), none], s, x⟩ = .ok (.new (ts.map fun t => FT.val (.pure (.bl (isB a b t))))) ⟨[some (.pure (.tup ts)), some (.pure (.int a)), some (.pure (.int b)), none], s, x⟩ := by
  unfold c_are_between_0
  rw [lc_one (u := .tup ts) (ts := ts) (fun t => some (vl (.bl (isB a b t)))) (by simp [mv]) rfl (fun t ht => ?_) hl, fm_some]
  simp [e_is_between, fnM, entry, bd, rt, sq, sNext, mv, m1, m2, m3, tb, tru, aCons, aNil, mCall, mAnd, mOr, mNot, mIf, tAndM, tOrM, tNotM, mIsi, mTy, tyT, isa, fz, fin, cutS, rlF, rl, mRaise, finE, vl, mCa, goC, allT, oEq, oNe, rd, rsF, rsV, okT, nd, dep, eqT, Ob.guard, i2, oLeI, oLtI, oGtI, oGeI, oSub, oNeg, Ob.mo, lcBody, mTg, SS.put, putAll, wipeL, itm, knd]
theorem e_are_between (ts : List T) (a b : Int) (s : Store) (hl : ts.length ≤ lim) : f_are_between [.pure (.tup ts), .pure (.int a), .pure (.int b)] s = .ok (vl (.bl (ts.all (isB a b)))) s := by
  simp [f_are_between, m_are_between, c_are_between hl, all_bl, fnM, entry, bd, rt, sq, sNext, mv, m1, m2, m3, tb, tru, aCons, aNil, mCall, mAnd, mOr, mNot, mIf, tAndM, tOrM, tNotM, mIsi, mTy, tyT, isa, fz, fin, cutS, rlF, rl, mRaise, finE, vl, mCa, goC, allT, oEq, oNe, rd, rsF, rsV, okT, nd, dep, eqT, Ob.guard, i2, oLeI, oLtI, oGtI, oGeI, oSub, oNeg, Ob.mo, lcBody, mTg, SS.put, putAll, wipeL, itm, knd]
def rising (ns : List Int) : Bool := (List.range (ns.length - 1)).all fun i => decide (ns.getD i 0 < ns.getD (i + 1) 0)
theorem c_is_rising {ns : List Int} {s : Store} {x : Option VD} (hl : ns.length ≤ 1000000) : c_is_rising_0 ⟨[some (.pure (.tup (ns.map .int))), none], s, x⟩ = .ok (.new ((List.range (ns.length - 1)).map fun i => FT.val (.pure (.bl (decide (ns.getD i 0 < ns.getD (i + 1) 0)))))) ⟨[some (.pure (.tup (ns.map .int))), none], s, x⟩ := by
  unfold c_is_rising_0
  rw [lc_rng (n := (ns.length : Int) - 1) (fun i => some (vl (.bl (decide (ns.getD i 0 < ns.getD (i + 1) 0))))) ?_ (by omega) (by omega) (fun i hi => ?_), fm_some]
  · rw [show ((ns.length : Int) - 1).toNat = ns.length - 1 by omega]
  · simp [bLenU, bLen, seqOf, fnM, entry, bd, rt, sq, sNext, mv, m1, m2, m3, tb, tru, aCons, aNil, mCall, mAnd, mOr, mNot, mIf, tAndM, tOrM, tNotM, mIsi, mTy, tyT, isa, fz, fin, cutS, rlF, rl, mRaise, finE, vl, mCa, goC, allT, oEq, oNe, rd, rsF, rsV, okT, nd, dep, eqT, Ob.guard, i2, oLeI, oLtI, oGtI, oGeI, oSub, oNeg, Ob.mo, lcBody, mTg, SS.put, putAll, wipeL, itm, knd]
  · have h1 : i < ns.length := by omega
    have h2 : i + 1 < ns.length := by omega
    simp [oIx, oAdd, seqOf, atI_get, atI_get1, h1, h2, fnM, entry, bd, rt, sq, sNext, mv, m1, m2, m3, tb, tru, aCons, aNil, mCall, mAnd, mOr, mNot, mIf, tAndM, tOrM, tNotM, mIsi, mTy, tyT, isa, fz, fin, cutS, rlF, rl, mRaise, finE, vl, mCa, goC, allT, oEq, oNe, rd, rsF, rsV, okT, nd, dep, eqT, Ob.guard, i2, oLeI, oLtI, oGtI, oGeI, oSub, oNeg, Ob.mo, lcBody, mTg, SS.put, putAll, wipeL, itm, knd]
theorem e_is_rising (ns : List Int) (s : Store) (hl : ns.length ≤ 1000000) : f_is_rising [.pure (.tup (ns.map .int))] s = .ok (vl (.bl (rising ns))) s := by
  simp [f_is_rising, m_is_rising, c_is_rising hl, all_bl, rising, fnM, entry, bd, rt, sq, sNext, mv, m1, m2, m3, tb, tru, aCons, aNil, mCall, mAnd, mOr, mNot, mIf, tAndM, tOrM, tNotM, mIsi, mTy, tyT, isa, fz, fin, cutS, rlF, rl, mRaise, finE, vl, mCa, goC, allT, oEq, oNe, rd, rsF, rsV, okT, nd, dep, eqT, Ob.guard, i2, oLeI, oLtI, oGtI, oGeI, oSub, oNeg, Ob.mo, lcBody, mTg, SS.put, putAll, wipeL, itm, knd]
def toI : T → Int
  | .int i => i
  | _ => 0
def isEl (n : Int) : T → Bool
  | .tup ts => ts.all (isB 0 (n - 1)) && rising (ts.map toI)
  | _ => false
theorem isB_int {a b : Int} {t : T} (h : isB a b t = true) : t = .int (toI t) := by
  cases t <;> first | rfl | simp [isB] at h
theorem map_toI {a b : Int} : ∀ {ts : List T}, ts.all (isB a b) = true → ts = (ts.map toI).map .int
  | [], _ => rfl
  | t :: r, h => by
    rw [List.all_cons, Bool.and_eq_true] at h
    rw [List.map_cons, List.map_cons, ← map_toI h.2, ← isB_int h.1]
theorem e_is_elements (t : T) (n : Int) (s : Store) (hz : ∀ ts, t = .tup ts → ts.length ≤ 1000000) : f_is_elements [.pure (.int n), .pure t] s = .ok (vl (.bl (isEl n t))) s := by
  cases t with
  | tup ts =>
    have hl := hz ts rfl
    have e1 := e_are_between ts 0 (n - 1) [] hl
    by_cases h : ts.all (isB 0 (n - 1)) = true
    · have e2 := e_is_rising (ts.map toI) [] (by rw [List.length_map]; exact hl)
      rw [← map_toI h] at e2
      simp [f_is_elements, m_is_elements, e1, e2, isEl, h, fnM, entry, bd, rt, sq, sNext, mv, m1, m2, m3, tb, tru, aCons, aNil, mCall, mAnd, mOr, mNot, mIf, tAndM, tOrM, tNotM, mIsi, mTy, tyT, isa, fz, fin, cutS, rlF, rl, mRaise, finE, vl, mCa, goC, allT, oEq, oNe, rd, rsF, rsV, okT, nd, dep, eqT, Ob.guard, i2, oLeI, oLtI, oGtI, oGeI, oSub, oNeg, Ob.mo, lcBody, mTg, SS.put, putAll, wipeL, itm, knd]
    · have h' : ts.all (isB 0 (n - 1)) = false := by simpa using h
      simp [f_is_elements, m_is_elements, e1, isEl, h', fnM, entry, bd, rt, sq, sNext, mv, m1, m2, m3, tb, tru, aCons, aNil, mCall, mAnd, mOr, mNot, mIf, tAndM, tOrM, tNotM, mIsi, mTy, tyT, isa, fz, fin, cutS, rlF, rl, mRaise, finE, vl, mCa, goC, allT, oEq, oNe, rd, rsF, rsV, okT, nd, dep, eqT, Ob.guard, i2, oLeI, oLtI, oGtI, oGeI, oSub, oNeg, Ob.mo, lcBody, mTg, SS.put, putAll, wipeL, itm, knd]
  | _ => simp [f_is_elements, m_is_elements, isEl, fnM, entry, bd, rt, sq, sNext, mv, m1, m2, m3, tb, tru, aCons, aNil, mCall, mAnd, mOr, mNot, mIf, tAndM, tOrM, tNotM, mIsi, mTy, tyT, isa, fz, fin, cutS, rlF, rl, mRaise, finE, vl, mCa, goC, allT, oEq, oNe, rd, rsF, rsV, okT, nd, dep, eqT, Ob.guard, i2, oLeI, oLtI, oGtI, oGeI, oSub, oNeg, Ob.mo, lcBody, mTg, SS.put, putAll, wipeL, itm, knd]
/-! ### signs and numbers -/
def vs (c : Nat) : Int := if c = 43 then 1 else if c = 45 then -1 else 0
def sg (n : Int) : Nat := if n = 0 then 48 else if n > 0 then 43 else 45
def ng (c : Nat) : Nat := if c = 43 then 45 else if c = 45 then 43 else c
theorem sgn_or {c : Nat} (h : sgn c = true) : c = 43 ∨ c = 45 ∨ c = 48 := by
  unfold sgn at h
  simpa using of_decide_eq_true h
theorem sg_vs {c : Nat} (h : sgn c = true) : sg (vs c) = c := by rcases sgn_or h with rfl | rfl | rfl <;> rfl
theorem sg_neg {c : Nat} (h : sgn c = true) : sg (-(vs c)) = ng c := by rcases sgn_or h with rfl | rfl | rfl <;> rfl
theorem e_sign_of (n : Int) (s : Store) : f_sign_of [.pure (.int n)] s = .ok (vl (.str [sg n])) s := by
  by_cases h : n = 0
  · subst h; simp [f_sign_of, m_sign_of, sg, fnM, entry, bd, rt, sq, sNext, mv, m1, m2, m3, tb, tru, aCons, aNil, mCall, mAnd, mOr, mNot, mIf, tAndM, tOrM, tNotM, mIsi, mTy, tyT, isa, fz, fin, cutS, rlF, rl, mRaise, finE, vl, mCa, goC, allT, oEq, oNe, rd, rsF, rsV, okT, nd, dep, eqT, Ob.guard, i2, oLeI, oLtI, oGtI, oGeI, oSub, oNeg, Ob.mo, lcBody, mTg, SS.put, putAll, wipeL, itm, knd]
  · by_cases h2 : 0 < n <;> simp [f_sign_of, m_sign_of, sg, h, h2, fnM, entry, bd, rt, sq, sNext, mv, m1, m2, m3, tb, tru, aCons, aNil, mCall, mAnd, mOr, mNot, mIf, tAndM, tOrM, tNotM, mIsi, mTy, tyT, isa, fz, fin, cutS, rlF, rl, mRaise, finE, vl, mCa, goC, allT, oEq, oNe, rd, rsF, rsV, okT, nd, dep, eqT, Ob.guard, i2, oLeI, oLtI, oGtI, oGeI, oSub, oNeg, Ob.mo, lcBody, mTg, SS.put, putAll, wipeL, itm, knd]
theorem join1 {α : Type} (f : α → Nat) (l : List α) : TL.joinL [] (l.map fun x => [f x]) = l.map f := by
  induction l with
  | nil => rfl
  | cons x r ih =>
    cases r with
    | nil => rfl
    | cons y r =>
      rw [List.map_cons, List.map_cons] at ih ⊢
      show [f x] ++ [] ++ TL.joinL [] ([f y] :: r.map fun x => [f x]) = _
      rw [ih]
      rfl
theorem sum1 {α : Type} (f : α → Nat) (l : List α) : ((l.map fun x => [f x]).map List.length).sum = l.length := by
  induction l with
  | nil => rfl
  | cons x r ih => rw [List.map_cons, List.map_cons, List.sum_cons, ih, List.length_cons, List.length_cons, List.length_nil]; omega
/-- ''.join of single signs -/
theorem join_new {α : Type} (f : α → Nat) (l : List α) (s : SS) (hl : l.length ≤ lim) : oJoin (vl (.str [])) [.new (l.map fun x => FT.val (.pure (.str [f x])))] s = .ok (vl (.str (l.map f))) s := by
  have e2 : purs (l.map fun x => FT.val (.pure (.str [f x]))) = some (l.map fun x => T.str [f x]) := purs_fm _ l
  have e3 := strs_m (fun x => [f x]) l
  have h1 := sum1 f l
  have h2 := join1 f l
  simp only [oJoin, bd, seqOf, lstOf, mpurs, e2, Ob.mo, e3, Ob.guard, h1, h2, vl, List.length_nil, Nat.mul_zero, Nat.add_zero, decide_eq_true hl, if_true, rt]
theorem c_row_of_numbers {ns : List Int} {s : Store} {x : Option VD} (hl : ns.length ≤ lim) : c_row_of_numbers_0 ⟨[some (.pure (.lst (ns.map .int))), none], s, x⟩ = .ok (.new (ns.map fun n => FT.val (.pure (.str [sg n])))) ⟨[some (.pure (.lst (ns.map .int))), none], s, x⟩ := by
  unfold c_row_of_numbers_0
  rw [lc_one (u := .lst (ns.map .int)) (ts := ns.map .int) (fun t => some (vl (.str [sg (toI t)]))) (by simp [mv]) rfl (fun t ht => ?_) (by simpa using hl), filterMap_map', fm_some]
  · rfl
  · obtain ⟨n, _, rfl⟩ := List.mem_map.mp ht
    simp [e_sign_of, toI, fnM, entry, bd, rt, sq, sNext, mv, m1, m2, m3, tb, tru, aCons, aNil, mCall, mAnd, mOr, mNot, mIf, tAndM, tOrM, tNotM, mIsi, mTy, tyT, isa, fz, fin, cutS, rlF, rl, mRaise, finE, vl, mCa, goC, allT, oEq, oNe, rd, rsF, rsV, okT, nd, dep, eqT, Ob.guard, i2, oLeI, oLtI, oGtI, oGeI, oSub, oNeg, Ob.mo, lcBody, mTg, SS.put, putAll, wipeL, itm, knd]
theorem e_row_of_numbers (ns : List Int) (s : Store) (hl : ns.length ≤ lim) : f_row_of_numbers [.pure (.lst (ns.map .int))] s = .ok (vl (.str (ns.map sg))) s := by
  simp [f_row_of_numbers, m_row_of_numbers, c_row_of_numbers hl, mMs, isStr, join_new _ _ _ hl, fnM, entry, bd, rt, sq, sNext, mv, m1, m2, m3, tb, tru, aCons, aNil, mCall, mAnd, mOr, mNot, mIf, tAndM, tOrM, tNotM, mIsi, mTy, tyT, isa, fz, fin, cutS, rlF, rl, mRaise, finE, vl, mCa, goC, allT, oEq, oNe, rd, rsF, rsV, okT, nd, dep, eqT, Ob.guard, i2, oLeI, oLtI, oGtI, oGeI, oSub, oNeg, Ob.mo, lcBody, mTg, SS.put, putAll, wipeL, itm, knd]
theorem kget {c : Nat} (h : sgn c = true) (s : SS) : kGet tab_NUMBERS (vl (.str [c])) s = .ok (vl (.int (vs c))) s := by
  rcases sgn_or h with rfl | rfl | rfl <;> rfl
theorem c_numbers_of {r : List Nat} {s : Store} {x : Option VD} (hl : r.length ≤ lim) (h : r.all sgn = true) : c_numbers_of_0 ⟨[some (.pure (.str r)), none], s, x⟩ = .ok (.new (r.map fun c => FT.val (.pure (.int (vs c))))) ⟨[some (.pure (.str r)), none], s, x⟩ := by
  unfold c_numbers_of_0
  rw [lc_one (u := .str r) (ts := chs r) (fun x => match x with | .str [c] => some (vl (.int (vs c))) | _ => none) (by simp [mv]) rfl (fun x hx => ?_) (by simpa [chs] using hl), chs, filterMap_map', fm_some]
  obtain ⟨c, hc, rfl⟩ := List.mem_map.mp hx
  have k := kget (List.all_eq_true.mp h c hc)
  simp [k, fnM, entry, bd, rt, sq, sNext, mv, m1, m2, m3, tb, tru, aCons, aNil, mCall, mAnd, mOr, mNot, mIf, tAndM, tOrM, tNotM, mIsi, mTy, tyT, isa, fz, fin, cutS, rlF, rl, mRaise, finE, vl, mCa, goC, allT, oEq, oNe, rd, rsF, rsV, okT, nd, dep, eqT, Ob.guard, i2, oLeI, oLtI, oGtI, oGeI, oSub, oNeg, Ob.mo, lcBody, mTg, SS.put, putAll, wipeL, itm, knd]
theorem rlFs_val (n : Nat) {α : Type} (g : α → T) : ∀ l : List α, rlFs n (l.map fun x => FT.val (.pure (g x))) = true
  | [] => rfl
  | x :: r => by
    rw [List.map_cons, rlFs, rlFs_val n g r, rlF, rl]
    rfl
theorem e_numbers_of (r : List Nat) (s : Store) (hl : r.length ≤ lim) (h : r.all sgn = true) : f_numbers_of [.pure (.str r)] s = .ok (.new (r.map fun c => FT.val (.pure (.int (vs c))))) s := by
  simp [f_numbers_of, m_numbers_of, c_numbers_of hl h, rlFs_val s.length (fun c => T.int (vs c)) r, fnM, entry, bd, rt, sq, sNext, mv, m1, m2, m3, tb, tru, aCons, aNil, mCall, mAnd, mOr, mNot, mIf, tAndM, tOrM, tNotM, mIsi, mTy, tyT, isa, fz, fin, cutS, rlF, rl, mRaise, finE, vl, mCa, goC, allT, oEq, oNe, rd, rsF, rsV, okT, nd, dep, eqT, Ob.guard, i2, oLeI, oLtI, oGtI, oGeI, oSub, oNeg, Ob.mo, lcBody, mTg, SS.put, putAll, wipeL, itm, knd]
end Ob.K00
/-! # Ke: what the defs of the program compute, third part: sets of signs, checks -/
namespace Ob.K00
open PySem PySem.Spec PyProof.Rows L2 Ob

theorem mkL_map {α : Type} (g : α → T) (l : List α) : mkL (fzs (l.map fun x => FT.val (.pure (g x)))) = .pure (.lst (l.map g)) := by
  have := fz_nw (l.map g)
  rw [nw, List.map_map, fz] at this
  exact this
theorem allT_map {α : Type} (g : α → T) (l : List α) : allT (l.map fun x => VD.pure (g x)) = some (l.map g) := by
  have := allT_pure (l.map g)
  rw [List.map_map] at this
  exact this
theorem bTup_map {α : Type} (g : α → T) (l : List α) (s : SS) : bTup [.new (l.map fun x => FT.val (.pure (g x)))] s = .ok (vl (.tup (l.map g))) s := by
  have e : (l.map fun x => FT.val (.pure (g x))).map fz = l.map fun x => VD.pure (g x) := by
    rw [List.map_map]
    apply List.map_congr_left
    intro x _
    simp [fz]
  have e2 : mkTup (l.map fun x => VD.pure (g x)) = .pure (.tup (l.map g)) := by
    unfold mkTup; rw [allT_map]
  simp [bTup, bd, lstOf, rt, e, e2]
theorem e_rows (α : Type) (h : α → Int) (l : List α) (s : Store) (hl : l.length ≤ lim) : f_row_of_numbers [.pure (.lst (l.map fun x => T.int (h x)))] s = .ok (vl (.str (l.map fun x => sg (h x)))) s := by
  have := e_row_of_numbers (l.map h) s (by simpa using hl)
  rw [List.map_map, List.map_map] at this
  exact this
/-! ### opposite rows -/
theorem c_turned_signs {r : List Nat} {s : Store} {x : Option VD} (hl : r.length ≤ lim) (h : r.all sgn = true) : c_turned_signs_0 ⟨[some (.pure (.str r)), none], s, x⟩ = .ok (.new (r.map fun c => FT.val (.pure (.int (-(vs c)))))) ⟨[some (.pure (.str r)), none], s, x⟩ := by
  unfold c_turned_signs_0
  rw [lc_new (ts := r.map fun c => .int (vs c)) (fun t => some (vl (.int (-(toI t))))) ?_ (fun t ht => ?_) (by simpa using hl), filterMap_map', fm_some]
  · rfl
  · have e := e_numbers_of r [] hl h
    simp [e, nw, List.map_map, fnM, entry, bd, rt, sq, sNext, mv, m1, m2, m3, tb, tru, aCons, aNil, mCall, mAnd, mOr, mNot, mIf, tAndM, tOrM, tNotM, mIsi, mTy, tyT, isa, fz, fin, cutS, rlF, rl, mRaise, finE, vl, mCa, goC, allT, oEq, oNe, rd, rsF, rsV, okT, nd, dep, eqT, Ob.guard, i2, oLeI, oLtI, oGtI, oGeI, oSub, oNeg, Ob.mo, lcBody, mTg, SS.put, putAll, wipeL, itm, knd]
  · obtain ⟨c, _, rfl⟩ := List.mem_map.mp ht
    simp [toI, fnM, entry, bd, rt, sq, sNext, mv, m1, m2, m3, tb, tru, aCons, aNil, mCall, mAnd, mOr, mNot, mIf, tAndM, tOrM, tNotM, mIsi, mTy, tyT, isa, fz, fin, cutS, rlF, rl, mRaise, finE, vl, mCa, goC, allT, oEq, oNe, rd, rsF, rsV, okT, nd, dep, eqT, Ob.guard, i2, oLeI, oLtI, oGtI, oGeI, oSub, oNeg, Ob.mo, lcBody, mTg, SS.put, putAll, wipeL, itm, knd]
theorem map_sg {r : List Nat} (h : r.all sgn = true) : (r.map fun c => sg (-(vs c))) = r.map ng := by
  apply List.map_congr_left
  intro c hc
  exact sg_neg (List.all_eq_true.mp h c hc)
theorem e_turned_signs (r : List Nat) (s : Store) (hl : r.length ≤ lim) (h : r.all sgn = true) : f_turned_signs [.pure (.str r)] s = .ok (vl (.str (r.map ng))) s := by
  have e := e_rows Nat (fun c => -(vs c)) r [] hl
  rw [map_sg h] at e
  simp [f_turned_signs, m_turned_signs, c_turned_signs hl h, mkL_map, e, fnM, entry, bd, rt, sq, sNext, mv, m1, m2, m3, tb, tru, aCons, aNil, mCall, mAnd, mOr, mNot, mIf, tAndM, tOrM, tNotM, mIsi, mTy, tyT, isa, fz, fin, cutS, rlF, rl, mRaise, finE, vl, mCa, goC, allT, oEq, oNe, rd, rsF, rsV, okT, nd, dep, eqT, Ob.guard, i2, oLeI, oLtI, oGtI, oGeI, oSub, oNeg, Ob.mo, lcBody, mTg, SS.put, putAll, wipeL, itm, knd]
/-! ### places -/
def places (r q : List Nat) : List T := (r.zipIdx.filter fun p => decide (p.1 ∈ q)).map fun p => T.int (p.2 : Nat)
theorem zip_chs (r : List Nat) : (chs r).zipIdx = r.zipIdx.map fun p => (T.str [p.1], p.2) := by
  unfold chs
  rw [List.zipIdx_map]
  rfl
theorem c_places_with {r q : List Nat} {s : Store} {x : Option VD} (hl : r.length ≤ lim) : c_places_with_0 ⟨[some (.pure (.str r)), some (.pure (.str q)), none, none], s, x⟩ =
    .ok (.new ((r.zipIdx.filter fun p => decide (p.1 ∈ q)).map fun p => FT.val (.pure (.int (p.2 : Nat))))) ⟨[some (.pure (.str r)), some (.pure (.str q)), none, none], s, x⟩ := by
  unfold c_places_with_0
  rw [lc_en (u := .str r) (ts := chs r) (fun i t => match t with | .str [c] => if decide (c ∈ q) = true then some (vl (.int (i : Nat))) else none | _ => none) ?_ rfl (by simp [knd]) (fun i t ht => ?_) (by simpa [chs] using hl), zip_chs, filterMap_map', ← fm_if]
  · simp [fnM, entry, bd, rt, sq, sNext, mv, m1, m2, m3, tb, tru, aCons, aNil, mCall, mAnd, mOr, mNot, mIf, tAndM, tOrM, tNotM, mIsi, mTy, tyT, isa, fz, fin, cutS, rlF, rl, mRaise, finE, vl, mCa, goC, allT, oEq, oNe, rd, rsF, rsV, okT, nd, dep, eqT, Ob.guard, i2, oLeI, oLtI, oGtI, oGeI, oSub, oNeg, Ob.mo, lcBody, mTg, SS.put, putAll, wipeL, itm, knd]
  · have hm := List.mem_of_getElem? ht
    obtain ⟨c, _, rfl⟩ := List.mem_map.mp hm
    by_cases hq : c ∈ q <;> simp [oIn, hq, itm, knd, fnM, entry, bd, rt, sq, sNext, mv, m1, m2, m3, tb, tru, aCons, aNil, mCall, mAnd, mOr, mNot, mIf, tAndM, tOrM, tNotM, mIsi, mTy, tyT, isa, fz, fin, cutS, rlF, rl, mRaise, finE, vl, mCa, goC, allT, oEq, oNe, rd, rsF, rsV, okT, nd, dep, eqT, Ob.guard, i2, oLeI, oLtI, oGtI, oGeI, oSub, oNeg, Ob.mo, lcBody, mTg, SS.put, putAll, wipeL, itm, knd]
theorem e_places (r q : List Nat) (s : Store) (hl : r.length ≤ lim) : f_places_with [.pure (.str r), .pure (.str q)] s = .ok (vl (.tup (places r q))) s := by
  simp [f_places_with, m_places_with, c_places_with hl, bTup_map, places, fnM, entry, bd, rt, sq, sNext, mv, m1, m2, m3, tb, tru, aCons, aNil, mCall, mAnd, mOr, mNot, mIf, tAndM, tOrM, tNotM, mIsi, mTy, tyT, isa, fz, fin, cutS, rlF, rl, mRaise, finE, vl, mCa, goC, allT, oEq, oNe, rd, rsF, rsV, okT, nd, dep, eqT, Ob.guard, i2, oLeI, oLtI, oGtI, oGeI, oSub, oNeg, Ob.mo, lcBody, mTg, SS.put, putAll, wipeL, itm, knd]
/-! ### checks -/
def BadRow (d : VD) : Prop := (∃ t, d = .pure t ∧ isRow t = false ∧ ∀ r, t = .str r → r.length ≤ lim) ∨ ∃ k, d = .cell k
theorem rl_ok {s : Store} {d : VD} (o : okD s d) : rl s.length d = true := by
  rcases o with ⟨t, rfl⟩ | ⟨k, c, rfl, h⟩
  · rw [rl]
  · rw [rl]; exact decide_eq_true (List.getElem?_eq_some_iff.mp h).1
theorem isrow_bad {d : VD} {s : Store} (o : okD s d) (b : BadRow d) : f_is_row [d] s = .ok (vl (.bl false)) s := by
  rcases b with ⟨t, rfl, h, hz⟩ | ⟨k, rfl⟩
  · rw [e_is_row t s hz, h]
  · rcases o with ⟨t, e⟩ | ⟨k', c, e, h⟩
    · cases e
    · cases e
      simp [f_is_row, m_is_row, h, fnM, entry, bd, rt, sq, sNext, mv, m1, m2, m3, tb, tru, aCons, aNil, mCall, mAnd, mOr, mNot, mIf, tAndM, tOrM, tNotM, mIsi, mTy, tyT, isa, fz, fin, cutS, rlF, rl, mRaise, finE, vl, mCa, goC, allT, oEq, oNe, rd, rsF, rsV, okT, nd, dep, eqT, Ob.guard, i2, oLeI, oLtI, oGtI, oGeI, oSub, oNeg, Ob.mo, lcBody, mTg, SS.put, putAll, wipeL, itm, knd]
theorem goC_row_bad {d : VD} {st : SS} (o : okD st.s d) (b : BadRow d) : goC 1 f_is_row [d] st = .ok (vl (.bl false)) st := goC_ok' rfl (fun s hs => isrow_bad (hs d (by simp)) b) (fun e he => by rw [List.mem_singleton.mp he]; exact o)
theorem check_bad {d : VD} {s : Store} (o : okD s d) (b : BadRow d) : f_check_some_row [d] s = .err ⟨"InvalidRow", "given", d⟩ s := by
  have g := goC_row_bad (st := ⟨[some d], s, none⟩) o b
  have r := rl_ok o
  simp [f_check_some_row, m_check_some_row, fnM, entry, bd, rt, tNotM, tru, mCall, aCons, aNil, mv, fz, g, vl, mRaise, finE, cutS, r]
theorem check_ok {t : T} {s : Store} (h : isRow t = true) (hz : ∀ r, t = .str r → r.length ≤ lim) : f_check_some_row [.pure t] s = .ok (vl .non) s := by
  have e := e_is_row t [] hz
  rw [h] at e
  simp [f_check_some_row, m_check_some_row, e, fnM, entry, bd, rt, sq, sNext, mv, m1, m2, m3, tb, tru, aCons, aNil, mCall, mAnd, mOr, mNot, mIf, tAndM, tOrM, tNotM, mIsi, mTy, tyT, isa, fz, fin, cutS, rlF, rl, mRaise, finE, vl, mCa, goC, allT, oEq, oNe, rd, rsF, rsV, okT, nd, dep, eqT, Ob.guard, i2, oLeI, oLtI, oGtI, oGeI, oSub, oNeg, Ob.mo, lcBody, mTg, SS.put, putAll, wipeL, itm, knd]
theorem row_str {t : T} (h : isRow t = true) : ∃ r, t = .str r ∧ 1 ≤ r.length ∧ r.length ≤ 8 ∧ r.all sgn = true := by
  cases t with
  | str r =>
    simp only [isRow, Bool.and_eq_true, decide_eq_true_eq] at h
    exact ⟨r, rfl, h.1.1, h.1.2, h.2⟩
  | _ => simp [isRow] at h
/-- a row -/
structure Row (r : List Nat) : Prop where
  a : 1 ≤ r.length
  b : r.length ≤ 8
  c : r.all sgn = true
theorem Row.is {r : List Nat} (h : Row r) : isRow (.str r) = true := by simp [isRow, h.a, h.b, h.c]
theorem Row.lim {r : List Nat} (h : Row r) : r.length ≤ lim := Nat.le_trans h.b (by decide)
theorem Row.z {r : List Nat} (h : Row r) : ∀ q, T.str r = .str q → q.length ≤ Ob.lim := fun q e => by cases e; exact h.lim
theorem goC_chk_bad {d : VD} {st : SS} (o : okD st.s d) (b : BadRow d) : goC 1 f_check_some_row [d] st = .err ⟨"InvalidRow", "given", d⟩ st := goC_err rfl (fun s hs => check_bad (hs d (by simp)) b) (fun e he => by rw [List.mem_singleton.mp he]; exact o)
theorem goC_chk_ok {r : List Nat} {st : SS} (h : Row r) : goC 1 f_check_some_row [.pure (.str r)] st = .ok (vl .non) st := goC_ok' rfl (fun s hs => check_ok h.is h.z) (fun e he => by rw [List.mem_singleton.mp he]; exact .t)
/-- a def that checks its first argument first -/
abbrev chk1 : M Fl := bd (mCall 1 f_check_some_row (aCons (mv 0) aNil)) fun _ => sNext
theorem chk1_bad {N : Nat} {k : M Fl} {d : VD} {ds : List VD} {s : Store} (o : okD s d) (b : BadRow d) : fnM N (sq chk1 k) (d :: ds) s = .err ⟨"InvalidRow", "given", d⟩ s := by
  have g := goC_chk_bad (st := entry N (d :: ds) s) o b
  have r := rl_ok o
  have e : sq chk1 k (entry N (d :: ds) s) = .err ⟨"InvalidRow", "given", d⟩ (entry N (d :: ds) s) := by
    simp only [sq, chk1, bd, mCall, aCons, aNil, mv, rt, List.map_cons, List.map_nil, fz]
    have e0 : (entry N (d :: ds) s).d[0]? = some (some d) := rfl
    simp only [e0, List.map_cons, List.map_nil, fz, g]
  unfold fnM
  rw [e]
  show finE s.length _ s = _
  simp [finE, cutS, r]
theorem chk1_ok {N : Nat} {k : M Fl} {r : List Nat} {ds : List VD} {s : Store} (h : Row r) : fnM N (sq chk1 k) (.pure (.str r) :: ds) s = fnM N k (.pure (.str r) :: ds) s := by
  have g := goC_chk_ok (st := entry N (.pure (.str r) :: ds) s) h
  have e : sq chk1 k (entry N (.pure (.str r) :: ds) s) = k (entry N (.pure (.str r) :: ds) s) := by
    simp only [sq, chk1, bd, mCall, aCons, aNil, mv, rt, List.map_cons, List.map_nil, fz]
    have e0 : (entry N (.pure (.str r) :: ds) s).d[0]? = some (some (.pure (.str r))) := rfl
    simp only [e0, List.map_cons, List.map_nil, fz, g, sNext, rt]
  unfold fnM
  rw [e]
theorem plus_bad {d : VD} {s : Store} (o : okD s d) (b : BadRow d) : f_plus_set [d] s = .err ⟨"InvalidRow", "given", d⟩ s := chk1_bad o b
theorem minus_bad {d : VD} {s : Store} (o : okD s d) (b : BadRow d) : f_minus_set [d] s = .err ⟨"InvalidRow", "given", d⟩ s := chk1_bad o b
theorem zero_bad {d : VD} {s : Store} (o : okD s d) (b : BadRow d) : f_zero_set [d] s = .err ⟨"InvalidRow", "given", d⟩ s := chk1_bad o b
theorem supp_bad {d : VD} {s : Store} (o : okD s d) (b : BadRow d) : f_support [d] s = .err ⟨"InvalidRow", "given", d⟩ s := chk1_bad o b
theorem opp_bad {d : VD} {s : Store} (o : okD s d) (b : BadRow d) : f_opposite [d] s = .err ⟨"InvalidRow", "given", d⟩ s := chk1_bad o b
theorem plus_ok {r : List Nat} {s : Store} (h : Row r) : f_plus_set [.pure (.str r)] s = .ok (vl (.tup (places r [43]))) s := by
  unfold f_plus_set m_plus_set
  rw [chk1_ok h]
  simp [e_places r [43] [] h.lim, fnM, entry, bd, rt, sq, sNext, mv, m1, m2, m3, tb, tru, aCons, aNil, mCall, mAnd, mOr, mNot, mIf, tAndM, tOrM, tNotM, mIsi, mTy, tyT, isa, fz, fin, cutS, rlF, rl, mRaise, finE, vl, mCa, goC, allT, oEq, oNe, rd, rsF, rsV, okT, nd, dep, eqT, Ob.guard, i2, oLeI, oLtI, oGtI, oGeI, oSub, oNeg, Ob.mo, lcBody, mTg, SS.put, putAll, wipeL, itm, knd]
theorem minus_ok {r : List Nat} {s : Store} (h : Row r) : f_minus_set [.pure (.str r)] s = .ok (vl (.tup (places r [45]))) s := by
  unfold f_minus_set m_minus_set
  rw [chk1_ok h]
  simp [e_places r [45] [] h.lim, fnM, entry, bd, rt, sq, sNext, mv, m1, m2, m3, tb, tru, aCons, aNil, mCall, mAnd, mOr, mNot, mIf, tAndM, tOrM, tNotM, mIsi, mTy, tyT, isa, fz, fin, cutS, rlF, rl, mRaise, finE, vl, mCa, goC, allT, oEq, oNe, rd, rsF, rsV, okT, nd, dep, eqT, Ob.guard, i2, oLeI, oLtI, oGtI, oGeI, oSub, oNeg, Ob.mo, lcBody, mTg, SS.put, putAll, wipeL, itm, knd]
theorem zero_ok {r : List Nat} {s : Store} (h : Row r) : f_zero_set [.pure (.str r)] s = .ok (vl (.tup (places r [48]))) s := by
  unfold f_zero_set m_zero_set
  rw [chk1_ok h]
  simp [e_places r [48] [] h.lim, fnM, entry, bd, rt, sq, sNext, mv, m1, m2, m3, tb, tru, aCons, aNil, mCall, mAnd, mOr, mNot, mIf, tAndM, tOrM, tNotM, mIsi, mTy, tyT, isa, fz, fin, cutS, rlF, rl, mRaise, finE, vl, mCa, goC, allT, oEq, oNe, rd, rsF, rsV, okT, nd, dep, eqT, Ob.guard, i2, oLeI, oLtI, oGtI, oGeI, oSub, oNeg, Ob.mo, lcBody, mTg, SS.put, putAll, wipeL, itm, knd]
theorem supp_ok {r : List Nat} {s : Store} (h : Row r) : f_support [.pure (.str r)] s = .ok (vl (.tup (places r [43, 45]))) s := by
  unfold f_support m_support
  rw [chk1_ok h]
  simp [e_places r [43, 45] [] h.lim, fnM, entry, bd, rt, sq, sNext, mv, m1, m2, m3, tb, tru, aCons, aNil, mCall, mAnd, mOr, mNot, mIf, tAndM, tOrM, tNotM, mIsi, mTy, tyT, isa, fz, fin, cutS, rlF, rl, mRaise, finE, vl, mCa, goC, allT, oEq, oNe, rd, rsF, rsV, okT, nd, dep, eqT, Ob.guard, i2, oLeI, oLtI, oGtI, oGeI, oSub, oNeg, Ob.mo, lcBody, mTg, SS.put, putAll, wipeL, itm, knd]
theorem opp_ok {r : List Nat} {s : Store} (h : Row r) : f_opposite [.pure (.str r)] s = .ok (vl (.str (r.map ng))) s := by
  unfold f_opposite m_opposite
  rw [chk1_ok h]
  simp [e_turned_signs r [] h.lim h.c, fnM, entry, bd, rt, sq, sNext, mv, m1, m2, m3, tb, tru, aCons, aNil, mCall, mAnd, mOr, mNot, mIf, tAndM, tOrM, tNotM, mIsi, mTy, tyT, isa, fz, fin, cutS, rlF, rl, mRaise, finE, vl, mCa, goC, allT, oEq, oNe, rd, rsF, rsV, okT, nd, dep, eqT, Ob.guard, i2, oLeI, oLtI, oGtI, oGeI, oSub, oNeg, Ob.mo, lcBody, mTg, SS.put, putAll, wipeL, itm, knd]
end Ob.K00
/-! # Kf: what the defs of the program compute, fourth part: two arguments -/
namespace Ob.K00
open PySem PySem.Spec PyProof.Rows L2 Ob

def BadOf (n : Int) (d : VD) : Prop := (∃ t, d = .pure t ∧ isSg n t = false ∧ ∀ r, t = .str r → r.length ≤ lim) ∨ ∃ k, d = .cell k
def BadSet (n : Int) (d : VD) : Prop := (∃ t, d = .pure t ∧ isEl n t = false ∧ ∀ ts, t = .tup ts → ts.length ≤ 1000000) ∨ ∃ k, d = .cell k
def BadCount (d : VD) : Prop := (∃ t, d = .pure t ∧ isB 1 8 t = false) ∨ ∃ k, d = .cell k
theorem two_ok {s : Store} {d e : VD} (h : okD s d) (k : okD s e) : ∀ x ∈ [d, e], okD s x := fun x hx => by
  rcases List.mem_cons.mp hx with rfl | hx
  · exact h
  · rw [List.mem_singleton.mp hx]; exact k
theorem of_bad {n : Int} {d : VD} {s : Store} (o : okD s d) (b : BadOf n d) : f_is_row_of [.pure (.int n), d] s = .ok (vl (.bl false)) s := by
  rcases b with ⟨t, rfl, h, hz⟩ | ⟨k, rfl⟩
  · rw [e_is_row_of t n s hz, h]
  · rcases o with ⟨t, e⟩ | ⟨k', c, e, h⟩
    · cases e
    · cases e
      have e1 : f_is_signs [.cell k, .pure (.int n)] s = .ok (vl (.bl false)) s := by simp [f_is_signs, m_is_signs, h, fnM, entry, bd, rt, sq, sNext, mv, m1, m2, m3, tb, tru, aCons, aNil, mCall, mAnd, mOr, mNot, mIf, tAndM, tOrM, tNotM, mIsi, mTy, tyT, isa, fz, fin, cutS, rlF, rl, mRaise, finE, vl, mCa, goC, allT, oEq, oNe, rd, rsF, rsV, okT, nd, dep, eqT, Ob.guard, i2, oLeI, oLtI, oGtI, oGeI, oSub, oNeg, Ob.mo, lcBody, mTg, SS.put, putAll, wipeL, itm, knd]
      simp [f_is_row_of, m_is_row_of, e1, fnM, entry, bd, rt, sq, sNext, mv, m1, m2, m3, tb, tru, aCons, aNil, mCall, mAnd, mOr, mNot, mIf, tAndM, tOrM, tNotM, mIsi, mTy, tyT, isa, fz, fin, cutS, rlF, rl, mRaise, finE, vl, mCa, goC, allT, oEq, oNe, rd, rsF, rsV, okT, nd, dep, eqT, Ob.guard, i2, oLeI, oLtI, oGtI, oGeI, oSub, oNeg, Ob.mo, lcBody, mTg, SS.put, putAll, wipeL, itm, knd]
theorem set_bad {n : Int} {d : VD} {s : Store} (o : okD s d) (b : BadSet n d) : f_is_elements [.pure (.int n), d] s = .ok (vl (.bl false)) s := by
  rcases b with ⟨t, rfl, h, hz⟩ | ⟨k, rfl⟩
  · rw [e_is_elements t n s hz, h]
  · rcases o with ⟨t, e⟩ | ⟨k', c, e, h⟩
    · cases e
    · cases e
      simp [f_is_elements, m_is_elements, h, fnM, entry, bd, rt, sq, sNext, mv, m1, m2, m3, tb, tru, aCons, aNil, mCall, mAnd, mOr, mNot, mIf, tAndM, tOrM, tNotM, mIsi, mTy, tyT, isa, fz, fin, cutS, rlF, rl, mRaise, finE, vl, mCa, goC, allT, oEq, oNe, rd, rsF, rsV, okT, nd, dep, eqT, Ob.guard, i2, oLeI, oLtI, oGtI, oGeI, oSub, oNeg, Ob.mo, lcBody, mTg, SS.put, putAll, wipeL, itm, knd]
theorem count_bad {d : VD} {s : Store} (o : okD s d) (b : BadCount d) : f_is_between [d, .pure (.int 1), .pure (.int 8)] s = .ok (vl (.bl false)) s := by
  rcases b with ⟨t, rfl, h⟩ | ⟨k, rfl⟩
  · rw [e_is_between t 1 8 s, h]
  · rcases o with ⟨t, e⟩ | ⟨k', c, e, h⟩
    · cases e
    · cases e
      have e1 : f_is_integer [.cell k] s = .ok (vl (.bl false)) s := by simp [f_is_integer, m_is_integer, h, fnM, entry, bd, rt, sq, sNext, mv, m1, m2, m3, tb, tru, aCons, aNil, mCall, mAnd, mOr, mNot, mIf, tAndM, tOrM, tNotM, mIsi, mTy, tyT, isa, fz, fin, cutS, rlF, rl, mRaise, finE, vl, mCa, goC, allT, oEq, oNe, rd, rsF, rsV, okT, nd, dep, eqT, Ob.guard, i2, oLeI, oLtI, oGtI, oGeI, oSub, oNeg, Ob.mo, lcBody, mTg, SS.put, putAll, wipeL, itm, knd]
      simp [f_is_between, m_is_between, e1, fnM, entry, bd, rt, sq, sNext, mv, m1, m2, m3, tb, tru, aCons, aNil, mCall, mAnd, mOr, mNot, mIf, tAndM, tOrM, tNotM, mIsi, mTy, tyT, isa, fz, fin, cutS, rlF, rl, mRaise, finE, vl, mCa, goC, allT, oEq, oNe, rd, rsF, rsV, okT, nd, dep, eqT, Ob.guard, i2, oLeI, oLtI, oGtI, oGeI, oSub, oNeg, Ob.mo, lcBody, mTg, SS.put, putAll, wipeL, itm, knd]
theorem goC_of_bad {n : Int} {d : VD} {st : SS} (o : okD st.s d) (b : BadOf n d) : goC 2 f_is_row_of [.pure (.int n), d] st = .ok (vl (.bl false)) st := goC_ok' rfl (fun s hs => of_bad (hs d (by simp)) b) (two_ok .t o)
theorem goC_of_ok {n : Int} {t : T} {st : SS} (h : isSg n t = true) (hz : ∀ r, t = .str r → r.length ≤ lim) : goC 2 f_is_row_of [.pure (.int n), .pure t] st = .ok (vl (.bl true)) st := goC_ok' rfl (fun s hs => by rw [e_is_row_of t n s hz, h]) (two_ok .t .t)
theorem goC_set_bad {n : Int} {d : VD} {st : SS} (o : okD st.s d) (b : BadSet n d) : goC 2 f_is_elements [.pure (.int n), d] st = .ok (vl (.bl false)) st := goC_ok' rfl (fun s hs => set_bad (hs d (by simp)) b) (two_ok .t o)
theorem goC_set_ok {n : Int} {t : T} {st : SS} (h : isEl n t = true) (hz : ∀ ts, t = .tup ts → ts.length ≤ 1000000) : goC 2 f_is_elements [.pure (.int n), .pure t] st = .ok (vl (.bl true)) st := goC_ok' rfl (fun s hs => by rw [e_is_elements t n s hz, h]) (two_ok .t .t)
theorem goC_cnt_bad {d : VD} {st : SS} (o : okD st.s d) (b : BadCount d) : goC 3 f_is_between [d, .pure (.int 1), .pure (.int 8)] st = .ok (vl (.bl false)) st := goC_ok' rfl (fun s hs => count_bad (hs d (by simp)) b) (fun e he => by
  rcases List.mem_cons.mp he with rfl | he
  · exact o
  · exact two_ok .t .t e he)
theorem goC_cnt_ok {n : Int} {st : SS} (h1 : 1 ≤ n) (h2 : n ≤ 8) : goC 3 f_is_between [.pure (.int n), .pure (.int 1), .pure (.int 8)] st = .ok (vl (.bl true)) st := goC_ok' rfl (fun s hs => by rw [e_is_between]; simp [isB, h1, h2]) (fun e he => by
  rcases List.mem_cons.mp he with rfl | he
  · exact .t
  · exact two_ok .t .t e he)
/-! ### the checks of two -/
theorem two_bad1 {d e : VD} {s : Store} (o : okD s d) (b : BadRow d) : f_check_two [d, e] s = .err ⟨"InvalidRow", "given", d⟩ s := chk1_bad o b
theorem two_bad2 {r : List Nat} {e : VD} {s : Store} (h : Row r) (o : okD s e) (b : BadOf r.length e) : f_check_two [.pure (.str r), e] s = .err ⟨"InvalidRow", "given", e⟩ s := by
  unfold f_check_two m_check_two
  rw [chk1_ok h]
  have g := goC_of_bad (st := ⟨[some (.pure (.str r)), some e], s, none⟩) o b
  have q := rl_ok o
  simp [fnM, entry, bd, rt, tNotM, tru, mCall, mCa, aCons, aNil, mv, fz, bLenU, bLen, g, vl, mRaise, finE, cutS, q]
theorem two_good {r q : List Nat} {s : Store} (h : Row r) (k : Row q) (e : r.length = q.length) : f_check_two [.pure (.str r), .pure (.str q)] s = .ok (vl .non) s := by
  unfold f_check_two m_check_two
  rw [chk1_ok h]
  have g := goC_of_ok (n := r.length) (t := .str q) (st := ⟨[some (.pure (.str r)), some (.pure (.str q))], s, none⟩) (by simp [isSg, e, k.c]) k.z
  simp [fnM, entry, bd, rt, tNotM, tru, mCall, mCa, aCons, aNil, mv, fz, bLenU, bLen, g, vl, sNext, fin, cutS, rlF, rl]
theorem mem_bad1 {d e : VD} {s : Store} (o : okD s d) (b : BadRow d) : f_check_members [d, e] s = .err ⟨"InvalidRow", "given", d⟩ s := chk1_bad o b
theorem mem_bad2 {r : List Nat} {e : VD} {s : Store} (h : Row r) (o : okD s e) (b : BadSet r.length e) : f_check_members [.pure (.str r), e] s = .err ⟨"InvalidSet", "given", e⟩ s := by
  unfold f_check_members m_check_members
  rw [chk1_ok h]
  have g := goC_set_bad (st := ⟨[some (.pure (.str r)), some e], s, none⟩) o b
  have q := rl_ok o
  simp [fnM, entry, bd, rt, tNotM, tru, mCall, mCa, aCons, aNil, mv, fz, bLenU, bLen, g, vl, mRaise, finE, cutS, q]
theorem mem_good {r : List Nat} {t : T} {s : Store} (h : Row r) (k : isEl r.length t = true) (hz : ∀ ts, t = .tup ts → ts.length ≤ 1000000) : f_check_members [.pure (.str r), .pure t] s = .ok (vl .non) s := by
  unfold f_check_members m_check_members
  rw [chk1_ok h]
  have g := goC_set_ok (st := ⟨[some (.pure (.str r)), some (.pure t)], s, none⟩) k hz
  simp [fnM, entry, bd, rt, tNotM, tru, mCall, mCa, aCons, aNil, mv, fz, bLenU, bLen, g, vl, sNext, fin, cutS, rlF, rl]
/-- a def that begins with a check of its first two arguments -/
abbrev chk2 (fm : FM) : M Fl := bd (mCall 2 fm (aCons (mv 0) (aCons (mv 1) aNil))) fun _ => sNext
theorem chk2_err {N : Nat} {fm : FM} {k : M Fl} {d e : VD} {ds : List VD} {s : Store} {x : XD} (h : ∀ s, okD s d → okD s e → fm [d, e] s = .err x s) (od : okD s d) (oe : okD s e) (hx : okD s x.v) : fnM N (sq (chk2 fm) k) (d :: e :: ds) s = .err x s := by
  have g : goC 2 fm [d, e] (entry N (d :: e :: ds) s) = .err x (entry N (d :: e :: ds) s) := goC_err rfl (fun s hs => h s (hs d (by simp)) (hs e (by simp))) (two_ok od oe)
  have r := rl_ok hx
  have e1 : sq (chk2 fm) k (entry N (d :: e :: ds) s) = .err x (entry N (d :: e :: ds) s) := by
    simp only [sq, chk2, bd, mCall, aCons, aNil, mv, rt, List.map_cons, List.map_nil, fz]
    have e0 : (entry N (d :: e :: ds) s).d[0]? = some (some d) := rfl
    have e2 : (entry N (d :: e :: ds) s).d[1]? = some (some e) := rfl
    simp only [e0, e2, List.map_cons, List.map_nil, fz, g]
  unfold fnM
  rw [e1]
  show finE s.length _ s = _
  simp [finE, cutS, r]
theorem chk2_ok {N : Nat} {fm : FM} {k : M Fl} {d e : VD} {ds : List VD} {s : Store} {f : FT} (h : ∀ s, okD s d → okD s e → fm [d, e] s = .ok f s) (od : okD s d) (oe : okD s e) : fnM N (sq (chk2 fm) k) (d :: e :: ds) s = fnM N k (d :: e :: ds) s := by
  have g : goC 2 fm [d, e] (entry N (d :: e :: ds) s) = .ok f (entry N (d :: e :: ds) s) := goC_ok' rfl (fun s hs => h s (hs d (by simp)) (hs e (by simp))) (two_ok od oe)
  have e1 : sq (chk2 fm) k (entry N (d :: e :: ds) s) = k (entry N (d :: e :: ds) s) := by
    simp only [sq, chk2, bd, mCall, aCons, aNil, mv, rt, List.map_cons, List.map_nil, fz]
    have e0 : (entry N (d :: e :: ds) s).d[0]? = some (some d) := rfl
    have e2 : (entry N (d :: e :: ds) s).d[1]? = some (some e) := rfl
    simp only [e0, e2, List.map_cons, List.map_nil, fz, g, sNext, rt]
  unfold fnM
  rw [e1]
/-! errors of the defs of two rows; of a row and members -/
section
variable {d e : VD} {s : Store} {r : List Nat}
theorem composed_b1 (o : okD s d) (oe : okD s e) (b : BadRow d) : f_composed [d, e] s = .err ⟨"InvalidRow", "given", d⟩ s := chk2_err (fun s o _ => two_bad1 o b) o oe o
theorem product_b1 (o : okD s d) (oe : okD s e) (b : BadRow d) : f_product_row [d, e] s = .err ⟨"InvalidRow", "given", d⟩ s := chk2_err (fun s o _ => two_bad1 o b) o oe o
theorem parted_b1 (o : okD s d) (oe : okD s e) (b : BadRow d) : f_parted_set [d, e] s = .err ⟨"InvalidRow", "given", d⟩ s := chk2_err (fun s o _ => two_bad1 o b) o oe o
theorem meets_b1 (o : okD s d) (oe : okD s e) (b : BadRow d) : f_meets_of [d, e] s = .err ⟨"InvalidRow", "given", d⟩ s := chk2_err (fun s o _ => two_bad1 o b) o oe o
theorem orth_b1 (o : okD s d) (oe : okD s e) (b : BadRow d) : f_are_orthogonal [d, e] s = .err ⟨"InvalidRow", "given", d⟩ s := chk2_err (fun s o _ => two_bad1 o b) o oe o
theorem below_b1 (o : okD s d) (oe : okD s e) (b : BadRow d) : f_lies_below [d, e] s = .err ⟨"InvalidRow", "given", d⟩ s := chk2_err (fun s o _ => two_bad1 o b) o oe o
theorem turned_b1 (o : okD s d) (oe : okD s e) (b : BadRow d) : f_turned_row [d, e] s = .err ⟨"InvalidRow", "given", d⟩ s := chk2_err (fun s o _ => mem_bad1 o b) o oe o
theorem part_b1 (o : okD s d) (oe : okD s e) (b : BadRow d) : f_part_of [d, e] s = .err ⟨"InvalidRow", "given", d⟩ s := chk2_err (fun s o _ => mem_bad1 o b) o oe o
theorem composed_b2 (h : Row r) (oe : okD s e) (b : BadOf r.length e) : f_composed [.pure (.str r), e] s = .err ⟨"InvalidRow", "given", e⟩ s := chk2_err (fun s _ o => two_bad2 h o b) .t oe oe
theorem product_b2 (h : Row r) (oe : okD s e) (b : BadOf r.length e) : f_product_row [.pure (.str r), e] s = .err ⟨"InvalidRow", "given", e⟩ s := chk2_err (fun s _ o => two_bad2 h o b) .t oe oe
theorem parted_b2 (h : Row r) (oe : okD s e) (b : BadOf r.length e) : f_parted_set [.pure (.str r), e] s = .err ⟨"InvalidRow", "given", e⟩ s := chk2_err (fun s _ o => two_bad2 h o b) .t oe oe
theorem meets_b2 (h : Row r) (oe : okD s e) (b : BadOf r.length e) : f_meets_of [.pure (.str r), e] s = .err ⟨"InvalidRow", "given", e⟩ s := chk2_err (fun s _ o => two_bad2 h o b) .t oe oe
theorem orth_b2 (h : Row r) (oe : okD s e) (b : BadOf r.length e) : f_are_orthogonal [.pure (.str r), e] s = .err ⟨"InvalidRow", "given", e⟩ s := chk2_err (fun s _ o => two_bad2 h o b) .t oe oe
theorem below_b2 (h : Row r) (oe : okD s e) (b : BadOf r.length e) : f_lies_below [.pure (.str r), e] s = .err ⟨"InvalidRow", "given", e⟩ s := chk2_err (fun s _ o => two_bad2 h o b) .t oe oe
theorem turned_b2 (h : Row r) (oe : okD s e) (b : BadSet r.length e) : f_turned_row [.pure (.str r), e] s = .err ⟨"InvalidSet", "given", e⟩ s := chk2_err (fun s _ o => mem_bad2 h o b) .t oe oe
theorem part_b2 (h : Row r) (oe : okD s e) (b : BadSet r.length e) : f_part_of [.pure (.str r), e] s = .err ⟨"InvalidSet", "given", e⟩ s := chk2_err (fun s _ o => mem_bad2 h o b) .t oe oe
end
end Ob.K00
/-! # Kg: sets of elements as lists of places; row_of, turned rows, parts -/
namespace Ob.K00
open PySem PySem.Spec PyProof.Rows L2 Ob

abbrev nT (k : Nat) : T := .int (k : Int)
abbrev el (l : List Nat) : T := .tup (l.map nT)
theorem purs_t (ts : List T) : purs (ts.map fun t => FT.val (.pure t)) = some ts := purs_map ts
theorem flat_n : ∀ l : List Nat, (l.map nT).all flat = true
  | [] => rfl
  | x :: r => by rw [List.map_cons, List.all_cons, flat_n r]; rfl
theorem any_n (k : Nat) : ∀ l : List Nat, ((l.map nT).any fun u => eqT u (.int (k : Int))) = decide (k ∈ l)
  | [] => by simp
  | x :: r => by
    rw [List.map_cons, List.any_cons, any_n k r]
    by_cases e : x = k
    · subst e; simp [nT, eqT]
    · have e2 : ¬ ((x : Int) = (k : Int)) := by omega
      have e3 : ¬ k = x := fun h => e h.symm
      simp [nT, eqT, e2, e3]
theorem oIn_n (k : Nat) (l : List Nat) (s : SS) : oIn false (vl (.int (k : Int))) (vl (el l)) s = .ok (vl (.bl (decide (k ∈ l)))) s := by
  simp only [oIn, vl, bd, seqOf, mpurs, purs_t, Ob.guard, flat, flat_n, Bool.and_self, if_true, rt, any_n]
  rfl
theorem isB_n {n k : Nat} (h : k < n) : isB 0 ((n : Int) - 1) (nT k) = true := by
  simp only [isB, Bool.and_eq_true, decide_eq_true_eq]; omega
theorem rising_n {l : List Nat} (h : l.Pairwise (· < ·)) : rising ((l.map nT).map toI) = true := by
  unfold rising
  rw [List.all_eq_true]
  intro i hi
  have hi' := List.mem_range.mp hi
  simp only [List.length_map] at hi'
  have h1 : i < l.length := by omega
  have h2 : i + 1 < l.length := by omega
  have := List.pairwise_iff_getElem.mp h i (i + 1) h1 h2 (by omega)
  simp [h1, h2, toI]
  exact this
theorem isEl_el {n : Nat} {l : List Nat} (h : ∀ k ∈ l, k < n) (p : l.Pairwise (· < ·)) : isEl n (el l) = true := by
  unfold isEl
  rw [Bool.and_eq_true]
  refine ⟨?_, rising_n p⟩
  rw [List.all_eq_true]
  intro t ht
  obtain ⟨k, hk, rfl⟩ := List.mem_map.mp ht
  exact isB_n (h k hk)
theorem len_pw {n : Nat} : ∀ (l : List Nat) (lo : Nat), l.Pairwise (· < ·) → (∀ k ∈ l, lo ≤ k ∧ k < n) → lo ≤ n → l.length + lo ≤ n
  | [], _, _, _, h => by simpa using h
  | x :: r, lo, p, h, _ => by
    obtain ⟨p1, p2⟩ := List.pairwise_cons.mp p
    have hx := h x (by simp)
    have := len_pw r (x + 1) p2 (fun k hk => ⟨p1 k hk, (h k (List.mem_cons_of_mem _ hk)).2⟩) hx.2
    rw [List.length_cons]
    omega
theorem len_el {n : Nat} {l : List Nat} (h : ∀ k ∈ l, k < n) (p : l.Pairwise (· < ·)) : l.length ≤ n := len_pw l 0 p (fun k hk => ⟨Nat.zero_le _, h k hk⟩) (Nat.zero_le _)
def plR (r q : List Nat) : List Nat := (List.range r.length).filter fun k => decide (r.getD k 0 ∈ q)
theorem places_el (r q : List Nat) : T.tup (places r q) = el (plR r q) := by
  unfold places plR
  rw [zipIdx_range 0 r, List.filter_map, List.map_map]
  rfl
theorem mem_plR {r q : List Nat} {k : Nat} : k ∈ plR r q ↔ k < r.length ∧ r.getD k 0 ∈ q := by
  unfold plR
  rw [List.mem_filter, List.mem_range, decide_eq_true_eq]
theorem plR_lt {r q : List Nat} : ∀ k ∈ plR r q, k < r.length := fun k h => (mem_plR.mp h).1
theorem range_pw (n : Nat) : (List.range n).Pairwise (· < ·) := List.pairwise_lt_range
theorem plR_pw (r q : List Nat) : (plR r q).Pairwise (· < ·) := (range_pw _).filter _
theorem filt_pw {n : Nat} (p : Nat → Bool) : ((List.range n).filter p).Pairwise (· < ·) := (range_pw _).filter _
theorem bd_ok {α β : Type} {m : M α} {k : α → M β} {st st' : SS} {a : α} (h : m st = .ok a st') : bd m k st = k a st' := by
  unfold bd
  rw [h]
theorem aNil_ok {st : SS} : aNil st = .ok [] st := rfl
theorem aCons_ok {m : M FT} {ms : M (List FT)} {st st1 st2 : SS} {f : FT} {fs : List FT} (h : m st = .ok f st1) (k : ms st1 = .ok fs st2) : aCons m ms st = .ok (f :: fs) st2 := by
  unfold aCons
  rw [bd_ok h, bd_ok k]
  rfl
theorem mCall_ok {n : Nat} {fm : FM} {ms : M (List FT)} {st st1 : SS} {fs : List FT} {r : Res FT} (h : ms st = .ok fs st1) (g : goC n fm (fs.map fz) st1 = r) : mCall n fm ms st = r := by
  unfold mCall
  rw [bd_ok h]
  exact g
theorem mCa_ok {op : List FT → M FT} {ms : M (List FT)} {st st1 : SS} {fs : List FT} {r : Res FT} (h : ms st = .ok fs st1) (g : op fs st1 = r) : mCa op ms st = r := by
  unfold mCa
  rw [bd_ok h]
  exact g
theorem sq_nx {m k : M Fl} {st st' : SS} (h : m st = .ok .nx st') : sq m k st = k st' := by
  unfold sq bd
  rw [h]
theorem sq_rt {m k : M Fl} {st st' : SS} {f : FT} (h : m st = .ok (.rt f) st') : sq m k st = .ok (.rt f) st' := by
  unfold sq bd
  rw [h]
  rfl
theorem sq_err {m k : M Fl} {st st' : SS} {x : XD} (h : m st = .err x st') : sq m k st = .err x st' := by
  unfold sq bd
  rw [h]
theorem if_t {α : Type} {c : M Bool} {a b : M α} {st st' : SS} (h : c st = .ok true st') : (bd c fun k => if k = true then a else b) st = a st' := by rw [bd_ok h]; rfl
theorem if_f {α : Type} {c : M Bool} {a b : M α} {st st' : SS} (h : c st = .ok false st') : (bd c fun k => if k = true then a else b) st = b st' := by rw [bd_ok h]; rfl
theorem if_fn {c : M Bool} {a : M Fl} {st st' : SS} (h : c st = .ok false st') : (bd c fun k => if k = true then a else sNext) st = .ok .nx st' := by rw [bd_ok h]; rfl
theorem fnM_rt {N : Nat} {m : M Fl} {ds : List VD} {s : Store} {f : FT} {st : SS} (h : m (entry N ds s) = .ok (.rt f) st) (hs : st.s = s) (hf : rlF s.length f = true) : fnM N m ds s = .ok f s := by
  unfold fnM
  rw [h]
  show fin s.length f st.s = _
  rw [hs]
  simp [fin, cutS, hf]
theorem lim8 {n : Nat} (h : n ≤ 8) : n ≤ lim := Nat.le_trans h (by decide)
/-! ### row_of -/
abbrev rowS (n p m : VD) (s : Store) : SS := ⟨[some n, some p, some m, none], s, none⟩
theorem c_row_of0 {n : VD} {p m : List Nat} {s : Store} (hl : m.length ≤ lim) : c_row_of_0 (rowS n (.pure (el p)) (.pure (el m)) s) = .ok (.new (m.map fun k => FT.val (.pure (.bl (decide (k ∈ p)))))) (rowS n (.pure (el p)) (.pure (el m)) s) := by
  unfold c_row_of_0
  rw [lc_one (u := el m) (ts := m.map nT) (fun t => some (vl (.bl (decide ((toI t).toNat ∈ p))))) (by simp [mv]) rfl (fun t ht => ?_) (by simpa using hl), filterMap_map', fm_some]
  · rfl
  · obtain ⟨k, _, rfl⟩ := List.mem_map.mp ht
    have := oIn_n k p
    simp [this, toI, mv, m2, bd, rt, lcBody, mTg, SS.put, wipeL, nT]
    rfl
theorem c_row_of1 {n : Nat} {p m : List Nat} {s : Store} (hn : n ≤ 8) : c_row_of_1 (rowS (.pure (.int n)) (.pure (el p)) (.pure (el m)) s) =
    .ok (.new ((List.range n).map fun k => FT.val (.pure (.int ((if k ∈ p then 1 else 0) - (if k ∈ m then 1 else 0)))))) (rowS (.pure (.int n)) (.pure (el p)) (.pure (el m)) s) := by
  unfold c_row_of_1
  rw [lc_rng (n := (n : Int)) (fun k => some (vl (.int ((if k ∈ p then 1 else 0) - (if k ∈ m then 1 else 0))))) (by simp [mv, aCons, aNil, bd, rt]) (by omega) (by omega) (fun k hk => ?_), fm_some]
  · rfl
  · have h1 := oIn_n k p
    have h2 := oIn_n k m
    simp [h1, h2, mv, m2, bd, rt, lcBody, mTg, SS.put, wipeL, nT, mCa, aCons, aNil, bInt, oSub, i2]
theorem any_n2 {p m : List Nat} (h : ∀ k ∈ m, k ∉ p) : (m.any fun k => decide (k ∈ p)) = false := by
  rw [List.any_eq_false]
  exact fun k hk => by simpa using h k hk
theorem row_of_ok {n : Nat} {p m : List Nat} {s : Store} (h1 : 1 ≤ n) (h8 : n ≤ 8) (hp : ∀ k ∈ p, k < n) (pp : p.Pairwise (· < ·)) (hm : ∀ k ∈ m, k < n) (pm : m.Pairwise (· < ·)) (dj : ∀ k ∈ m, k ∉ p) :
    f_row_of [.pure (.int n), .pure (el p), .pure (el m)] s = .ok (vl (.str ((List.range n).map fun k => sg ((if k ∈ p then 1 else 0) - (if k ∈ m then 1 else 0))))) s := by
  have lp := len_el hp pp
  have lm := len_el hm pm
  have g1 := goC_cnt_ok (n := n) (st := rowS (.pure (.int n)) (.pure (el p)) (.pure (el m)) s) (by omega) (by omega)
  have g2 := goC_set_ok (n := n) (t := el p) (st := rowS (.pure (.int n)) (.pure (el p)) (.pure (el m)) s) (isEl_el hp pp) (fun ts e => by cases e; rw [List.length_map]; omega)
  have g3 := goC_set_ok (n := n) (t := el m) (st := rowS (.pure (.int n)) (.pure (el p)) (.pure (el m)) s) (isEl_el hm pm) (fun ts e => by cases e; rw [List.length_map]; omega)
  have g4 := c_row_of0 (n := .pure (.int n)) (p := p) (m := m) (s := s) (lim8 (by omega))
  have g5 := c_row_of1 (n := n) (p := p) (m := m) (s := s) h8
  have g6 := e_rows Nat (fun k => (if k ∈ p then 1 else 0) - (if k ∈ m then 1 else 0)) (List.range n) [] (lim8 (by rw [List.length_range]; exact h8))
  have g7 := any_bl (fun k => decide (k ∈ p)) m (rowS (.pure (.int n)) (.pure (el p)) (.pure (el m)) s)
  rw [any_n2 dj] at g7
  refine fnM_rt (st := rowS (.pure (.int n)) (.pure (el p)) (.pure (el m)) s) ?_ rfl (by rw [vl, rlF, rl])
  show m_row_of (rowS (.pure (.int n)) (.pure (el p)) (.pure (el m)) s) = _
  unfold m_row_of
  rw [sq_nx (st' := rowS (.pure (.int n)) (.pure (el p)) (.pure (el m)) s), sq_nx (st' := rowS (.pure (.int n)) (.pure (el p)) (.pure (el m)) s), sq_nx (st' := rowS (.pure (.int n)) (.pure (el p)) (.pure (el m)) s)]
  · have g8 : goC 1 f_row_of_numbers [.pure (.lst ((List.range n).map fun k => .int ((if k ∈ p then 1 else 0) - (if k ∈ m then 1 else 0))))] (rowS (.pure (.int n)) (.pure (el p)) (.pure (el m)) s) = .ok (vl (.str ((List.range n).map fun k => sg ((if k ∈ p then 1 else 0) - (if k ∈ m then 1 else 0))))) (rowS (.pure (.int n)) (.pure (el p)) (.pure (el m)) s) :=
      goC_pure (ts := [.lst ((List.range n).map fun k => .int ((if k ∈ p then 1 else 0) - (if k ∈ m then 1 else 0)))]) rfl g6
    rw [bd_ok (mCall_ok (aCons_ok g5 aNil_ok) (by rw [List.map_cons, List.map_nil, fz, mkL_map]; exact g8))]
    rfl
  · simp [bd, rt, sNext, tNotM, tOrM, tru, mCall, mCa, aCons, aNil, mv, fz, g3, g4, g7, vl]
  · simp [bd, rt, sNext, tNotM, tru, mCall, aCons, aNil, mv, fz, g2, vl]
  · simp [bd, rt, sNext, tNotM, tru, mCall, aCons, aNil, mv, fz, g1, vl]
theorem row_of_b0 {d e f : VD} {s : Store} (o : okD s d) (b : BadCount d) : f_row_of [d, e, f] s = .err ⟨"InvalidCount", "given", d⟩ s := by
  have g1 := goC_cnt_bad (st := rowS d e f s) o b
  have q := rl_ok o
  simp [f_row_of, m_row_of, fnM, entry, bd, rt, sq, sNext, tNotM, tru, mCall, aCons, aNil, mv, fz, g1, vl, mRaise, finE, cutS, q]
theorem row_of_b1 {n : Nat} {e f : VD} {s : Store} (h1 : 1 ≤ n) (h8 : n ≤ 8) (o : okD s e) (b : BadSet n e) : f_row_of [.pure (.int n), e, f] s = .err ⟨"InvalidSet", "given", e⟩ s := by
  have g1 := goC_cnt_ok (n := n) (st := rowS (.pure (.int n)) e f s) (by omega) (by omega)
  have g2 := goC_set_bad (n := n) (st := rowS (.pure (.int n)) e f s) o b
  have q := rl_ok o
  simp [f_row_of, m_row_of, fnM, entry, bd, rt, sq, sNext, tNotM, tru, mCall, aCons, aNil, mv, fz, g1, g2, vl, mRaise, finE, cutS, q]
theorem row_of_b2 {n : Nat} {p : List Nat} {f : VD} {s : Store} (h1 : 1 ≤ n) (h8 : n ≤ 8) (hp : ∀ k ∈ p, k < n) (pp : p.Pairwise (· < ·)) (o : okD s f) (b : BadSet n f) : f_row_of [.pure (.int n), .pure (el p), f] s = .err ⟨"InvalidSet", "given", f⟩ s := by
  have lp := len_el hp pp
  have g1 := goC_cnt_ok (n := n) (st := rowS (.pure (.int n)) (.pure (el p)) f s) (by omega) (by omega)
  have g2 := goC_set_ok (n := n) (t := el p) (st := rowS (.pure (.int n)) (.pure (el p)) f s) (isEl_el hp pp) (fun ts e => by cases e; rw [List.length_map]; omega)
  have g3 := goC_set_bad (n := n) (st := rowS (.pure (.int n)) (.pure (el p)) f s) o b
  have q := rl_ok o
  simp [f_row_of, m_row_of, fnM, entry, bd, rt, sq, sNext, tNotM, tOrM, tru, mCall, aCons, aNil, mv, fz, g1, g2, g3, vl, mRaise, finE, cutS, q]
theorem row_of_b3 {n : Nat} {p m : List Nat} {s : Store} (h1 : 1 ≤ n) (h8 : n ≤ 8) (hp : ∀ k ∈ p, k < n) (pp : p.Pairwise (· < ·)) (hm : ∀ k ∈ m, k < n) (pm : m.Pairwise (· < ·)) (c : ∃ k ∈ m, k ∈ p) :
    f_row_of [.pure (.int n), .pure (el p), .pure (el m)] s = .err ⟨"InvalidSet", "given", .pure (el m)⟩ s := by
  have lp := len_el hp pp
  have lm := len_el hm pm
  have g1 := goC_cnt_ok (n := n) (st := rowS (.pure (.int n)) (.pure (el p)) (.pure (el m)) s) (by omega) (by omega)
  have g2 := goC_set_ok (n := n) (t := el p) (st := rowS (.pure (.int n)) (.pure (el p)) (.pure (el m)) s) (isEl_el hp pp) (fun ts e => by cases e; rw [List.length_map]; omega)
  have g3 := goC_set_ok (n := n) (t := el m) (st := rowS (.pure (.int n)) (.pure (el p)) (.pure (el m)) s) (isEl_el hm pm) (fun ts e => by cases e; rw [List.length_map]; omega)
  have g4 := c_row_of0 (n := .pure (.int n)) (p := p) (m := m) (s := s) (lim8 (by omega))
  have g7 := any_bl (fun k => decide (k ∈ p)) m (rowS (.pure (.int n)) (.pure (el p)) (.pure (el m)) s)
  have c' : (m.any fun k => decide (k ∈ p)) = true := by
    obtain ⟨k, h, h2⟩ := c
    exact List.any_eq_true.mpr ⟨k, h, decide_eq_true h2⟩
  rw [c'] at g7
  simp [f_row_of, m_row_of, fnM, entry, bd, rt, sq, sNext, tNotM, tOrM, tru, mCall, mCa, aCons, aNil, mv, fz, g1, g2, g3, g4, g7, vl, mRaise, finE, cutS, rl]
end Ob.K00
/-! # Kh: turned rows, parts, two rows -/
namespace Ob.K00
open PySem PySem.Spec PyProof.Rows L2 Ob

theorem ret_ok {m : M FT} {st st' : SS} {f : FT} (h : m st = .ok f st') : (bd m fun f => rt (Fl.rt f)) st = .ok (.rt f) st' := by rw [bd_ok h]; rfl
theorem mv_ok {i : Nat} {st : SS} {d : VD} (h : st.d[i]? = some (some d)) : mv i st = .ok (.val d) st := by unfold mv; rw [h]
theorem fz_new {α : Type} (g : α → T) (l : List α) : fz (.new (l.map fun x => FT.val (.pure (g x)))) = .pure (.lst (l.map g)) := by rw [fz, mkL_map]
theorem map_fz1 {α : Type} (g : α → T) (l : List α) : [FT.new (l.map fun x => FT.val (.pure (g x)))].map fz = [.pure (.lst (l.map g))] := by rw [List.map_cons, List.map_nil, fz_new]
/-! ### turned rows -/
theorem c_turned_at {r l : List Nat} {s : Store} (h : Row r) : c_turned_at_0 ⟨[some (.pure (.str r)), some (.pure (el l)), none, none], s, none⟩ =
    .ok (.new (r.zipIdx.map fun p => FT.val (.pure (.int (if p.2 ∈ l then -(vs p.1) else vs p.1))))) ⟨[some (.pure (.str r)), some (.pure (el l)), none, none], s, none⟩ := by
  unfold c_turned_at_0
  have g : goC 1 f_numbers_of [.pure (.str r)] ⟨[some (.pure (.str r)), some (.pure (el l)), none, none], s, none⟩ = .ok (.new (r.map fun c => FT.val (.pure (.int (vs c))))) ⟨[some (.pure (.str r)), some (.pure (el l)), none, none], s, none⟩ :=
    goC_pure (ts := [.str r]) rfl (e_numbers_of r [] h.lim h.c)
  have e0 : nw (r.map fun c => T.int (vs c)) = .new (r.map fun c => FT.val (.pure (.int (vs c)))) := by rw [nw, List.map_map]; rfl
  rw [lc_enw (ts := r.map fun c => .int (vs c)) (fun i t => some (vl (.int (if i ∈ l then -(toI t) else toI t)))) ?_ (fun i t ht => ?_) (by rw [List.length_map]; exact h.lim), List.zipIdx_map, filterMap_map', fm_some]
  · rfl
  · rw [e0]
    exact aCons_ok (mCall_ok (aCons_ok (mv_ok rfl) aNil_ok) g) aNil_ok
  · have hm := List.mem_of_getElem? ht
    obtain ⟨c, _, rfl⟩ := List.mem_map.mp hm
    have := oIn_n i l
    by_cases hi : i ∈ l <;> simp [this, hi, toI, itm, knd, mv, m2, m1, bd, rt, tb, lcBody, mTg, SS.put, putAll, wipeL, mIf, oNeg]
theorem zip_rng {α : Type} (r : List Nat) (f : Nat → Nat → α) : (r.zipIdx.map fun p => f p.1 p.2) = (List.range r.length).map fun k => f (r.getD k 0) k := by
  rw [zipIdx_range 0 r, List.map_map]
  rfl
theorem Row.at {r : List Nat} (h : Row r) {k : Nat} (hk : k < r.length) : sgn (r.getD k 0) = true := by
  have e : r.getD k 0 = r[k] := by simp [hk]
  rw [e]
  exact List.all_eq_true.mp h.c _ (List.getElem_mem hk)
def tuR (r l : List Nat) : List Nat := (List.range r.length).map fun k => if k ∈ l then ng (r.getD k 0) else r.getD k 0
theorem e_turned_at {r l : List Nat} {s : Store} (h : Row r) : f_turned_at [.pure (.str r), .pure (el l)] s = .ok (vl (.str (tuR r l))) s := by
  refine fnM_rt (st := ⟨[some (.pure (.str r)), some (.pure (el l)), none, none], s, none⟩) ?_ rfl (by rw [vl, rlF, rl])
  have g6 := e_rows (Nat × Nat) (fun p => if p.2 ∈ l then -(vs p.1) else vs p.1) r.zipIdx [] (by rw [List.length_zipIdx]; exact h.lim)
  have e : (r.zipIdx.map fun p => sg (if p.2 ∈ l then -(vs p.1) else vs p.1)) = tuR r l := by
    rw [zip_rng r fun c k => sg (if k ∈ l then -(vs c) else vs c)]
    unfold tuR
    apply List.map_congr_left
    intro k hk
    have hs := h.at (List.mem_range.mp hk)
    by_cases hl : k ∈ l
    · rw [if_pos hl, if_pos hl, sg_neg hs]
    · rw [if_neg hl, if_neg hl, sg_vs hs]
  rw [e] at g6
  refine ret_ok (mCall_ok (aCons_ok (c_turned_at h) aNil_ok) ?_)
  rw [map_fz1]
  exact goC_pure (ts := [.lst (r.zipIdx.map fun p => .int (if p.2 ∈ l then -(vs p.1) else vs p.1))]) rfl g6
theorem el_z {n : Nat} {l : List Nat} (h : ∀ k ∈ l, k < n) (p : l.Pairwise (· < ·)) (hn : n ≤ 8) : ∀ ts, el l = .tup ts → ts.length ≤ 1000000 := fun ts e => by
  cases e
  rw [List.length_map]
  have := len_el h p
  omega
theorem turned_ok {r l : List Nat} {s : Store} (h : Row r) (hl : ∀ k ∈ l, k < r.length) (p : l.Pairwise (· < ·)) : f_turned_row [.pure (.str r), .pure (el l)] s = .ok (vl (.str (tuR r l))) s := by
  have e : f_turned_row [.pure (.str r), .pure (el l)] s = _ := chk2_ok (fun s _ _ => mem_good h (isEl_el hl p) (el_z hl p h.b)) .t .t
  rw [e]
  refine fnM_rt (st := ⟨[some (.pure (.str r)), some (.pure (el l))], s, none⟩) ?_ rfl (by rw [vl, rlF, rl])
  exact ret_ok (mCall_ok (aCons_ok (mv_ok rfl) (aCons_ok (mv_ok rfl) aNil_ok)) (goC_pure (ts := [.str r, el l]) rfl (e_turned_at h)))
/-! ### parts -/
def paR (r l : List Nat) : List Nat := l.map fun k => r.getD k 0
theorem c_part_of {r l : List Nat} {s : Store} (h : Row r) (hl : ∀ k ∈ l, k < r.length) (hz : l.length ≤ 8) : c_part_of_0 ⟨[some (.pure (.str r)), some (.pure (el l)), none], s, none⟩ =
    .ok (.new (l.map fun k => FT.val (.pure (.str [r.getD k 0])))) ⟨[some (.pure (.str r)), some (.pure (el l)), none], s, none⟩ := by
  unfold c_part_of_0
  rw [lc_one (u := el l) (ts := l.map nT) (fun t => some (vl (.str [r.getD (toI t).toNat 0]))) (mv_ok rfl) rfl (fun t ht => ?_) (by rw [List.length_map]; exact lim8 hz), filterMap_map', fm_some]
  · rfl
  · obtain ⟨k, hk, rfl⟩ := List.mem_map.mp ht
    have hk' := hl k hk
    simp [oIx, atI_get, hk', toI, mv, m2, bd, rt, lcBody, mTg, SS.put, wipeL, nT, Ob.mo]
theorem mMs_ok {op : FT → List FT → M FT} {mo : M FT} {ms : M (List FT)} {st st1 st2 : SS} {x : FT} {fs : List FT} {r : Res FT} (h : mo st = .ok x st1) (hx : isStr x = true) (k : ms st1 = .ok fs st2) (g : op x fs st2 = r) : mMs op mo ms st = r := by
  unfold mMs
  rw [bd_ok h]
  have e : Ob.guard (isStr x) st1 = .ok () st1 := by unfold Ob.guard; rw [if_pos hx]
  rw [bd_ok e, bd_ok k]
  exact g
theorem part_ok {r l : List Nat} {s : Store} (h : Row r) (hl : ∀ k ∈ l, k < r.length) (p : l.Pairwise (· < ·)) : f_part_of [.pure (.str r), .pure (el l)] s = .ok (vl (.str (paR r l))) s := by
  have hz := len_el hl p
  have hb := h.b
  have e : f_part_of [.pure (.str r), .pure (el l)] s = _ := chk2_ok (fun s _ _ => mem_good h (isEl_el hl p) (el_z hl p h.b)) .t .t
  rw [e]
  refine fnM_rt (st := ⟨[some (.pure (.str r)), some (.pure (el l)), none], s, none⟩) ?_ rfl (by rw [vl, rlF, rl])
  exact ret_ok (mMs_ok rfl rfl (aCons_ok (c_part_of h hl (by omega)) aNil_ok) (join_new _ l _ (lim8 (by omega))))
/-! ### two rows -/
abbrev twoS (r q : List Nat) (s : Store) : SS := ⟨[some (.pure (.str r)), some (.pure (.str q)), none, none], s, none⟩
theorem zip_chs2 (r q : List Nat) : List.zip (chs r) (chs q) = (List.zip r q).map fun p => (T.str [p.1], T.str [p.2]) := by
  unfold chs
  rw [List.zip_map]
  rfl
theorem mArg2 {r q : List Nat} {s : Store} : aCons (mv 0) (aCons (mv 1) aNil) (twoS r q s) = .ok [vl (.str r), vl (.str q)] (twoS r q s) := aCons_ok (mv_ok rfl) (aCons_ok (mv_ok rfl) aNil_ok)
/-- over two rows, sign by sign -/
theorem lc_two {r q : List Nat} {s : Store} {tt : M Bool} {te : M FT} (g : Nat → Nat → FT) (h : Row r) (hb : ∀ a b : Nat, sgn a = true → lcBody (.tup [2, 3]) tt te [2, 3] (.pure (.tup [.str [a], .str [b]])) (twoS r q s) = .ok (some (g a b)) (twoS r q s)) :
    mLc (bd (aCons (mv 0) (aCons (mv 1) aNil)) mZip) (.tup [2, 3]) tt te [2, 3] (twoS r q s) = .ok (.new ((List.zip r q).map fun p => g p.1 p.2)) (twoS r q s) := by
  rw [lc_zp (u1 := .str r) (u2 := .str q) (xs := chs r) (ys := chs q) (fun x y => match x, y with | .str [a], .str [b] => some (g a b) | _, _ => none) mArg2 (.inl rfl) (.inl rfl) rfl rfl (fun i x y hx hy => ?_) (by rw [chs, List.length_map]; exact h.lim), zip_chs2, filterMap_map', fm_some]
  obtain ⟨a, ha, rfl⟩ := List.mem_map.mp (List.mem_of_getElem? hx)
  obtain ⟨b, _, rfl⟩ := List.mem_map.mp (List.mem_of_getElem? hy)
  exact hb a b (List.all_eq_true.mp h.c a ha)
def coR (r q : List Nat) : List Nat := (List.zip r q).map fun p => if p.1 = 48 then p.2 else p.1
def meR (r q : List Nat) : List Nat := (List.zip r q).map fun p => if p.1 = p.2 then p.1 else 48
def prI (r q : List Nat) : List Int := (List.zip r q).map fun p => vs p.1 * vs p.2
def unB (r q : List Nat) : Bool := (List.zip r q).all fun p => decide (p.1 = 48) || decide (p.1 = p.2)
theorem zip_lim {r q : List Nat} (h : Row r) : (List.zip r q).length ≤ lim := by
  rw [List.length_zip]
  exact Nat.le_trans (Nat.min_le_left _ _) h.lim
theorem c_comp {r q : List Nat} {s : Store} (h : Row r) : c_composition_0 (twoS r q s) = .ok (.new ((List.zip r q).map fun p => FT.val (.pure (.str [if p.1 = 48 then p.2 else p.1])))) (twoS r q s) := by
  unfold c_composition_0
  exact lc_two (fun a b => vl (.str [if a = 48 then b else a])) h fun a b ha => by
    by_cases e : a = 48 <;> simp [e, itm, knd, mv, m2, bd, rt, tb, lcBody, mTg, SS.put, putAll, wipeL, mIf, oNe, rd, rsF, rsV, okT, nd, dep, eqT, Ob.guard]
theorem e_comp {r q : List Nat} {s : Store} (h : Row r) : f_composition [.pure (.str r), .pure (.str q)] s = .ok (vl (.str (coR r q))) s :=
  fnM_rt (st := twoS r q s) (ret_ok (mMs_ok rfl rfl (aCons_ok (c_comp h) aNil_ok) (join_new _ _ _ (zip_lim h)))) rfl (by rw [vl, rlF, rl])
/-- a def of two rows that checks them and then calls a def of both -/
theorem two_call {N : Nat} {fm f2 : FM} {r q : List Nat} {s : Store} {f : FT} (h : Row r) (k : Row q) (e : r.length = q.length) (he : ∀ ds s, f2 ds s = fnM 2 (sq (chk2 f_check_two) (bd (mCall 2 fm (aCons (mv 0) (aCons (mv 1) aNil))) fun f => rt (.rt f))) ds s) (g : fm [.pure (.str r), .pure (.str q)] [] = .ok f []) (hf : rlF s.length f = true) :
    f2 [.pure (.str r), .pure (.str q)] s = .ok f s := by
  rw [he, chk2_ok (fun s _ _ => two_good h k e) .t .t]
  refine fnM_rt (st := ⟨[some (.pure (.str r)), some (.pure (.str q))], s, none⟩) ?_ rfl hf
  exact ret_ok (mCall_ok (aCons_ok (mv_ok rfl) (aCons_ok (mv_ok rfl) aNil_ok)) (goC_pure (ts := [.str r, .str q]) rfl g))
theorem composed_ok {r q : List Nat} {s : Store} (h : Row r) (k : Row q) (e : r.length = q.length) : f_composed [.pure (.str r), .pure (.str q)] s = .ok (vl (.str (coR r q))) s :=
  two_call (N := 0) h k e (fun _ _ => rfl) (e_comp h) (by rw [vl, rlF, rl])
theorem c_under {r q : List Nat} {s : Store} (h : Row r) : c_is_under_0 (twoS r q s) = .ok (.new ((List.zip r q).map fun p => FT.val (.pure (.bl (decide (p.1 = 48) || decide (p.1 = p.2)))))) (twoS r q s) := by
  unfold c_is_under_0
  exact lc_two (fun a b => vl (.bl (decide (a = 48) || decide (a = b)))) h fun a b ha => by
    have e1 : decide (a = 48) = decide (48 = a) := by simp [eq_comm]
    have e2 : decide (a = b) = decide (b = a) := by simp [eq_comm]
    simp [itm, knd, mv, m2, bd, rt, lcBody, mTg, SS.put, putAll, wipeL, mTup, aCons, aNil, Ob.guard, fz, mkTup, allT, oIn, seqOf, mpurs, purs, flat, eqT, e1, e2, lim]
theorem below_ok {r q : List Nat} {s : Store} (h : Row r) (k : Row q) (e : r.length = q.length) : f_lies_below [.pure (.str r), .pure (.str q)] s = .ok (vl (.bl (unB r q))) s :=
  two_call (N := 0) h k e (fun _ _ => rfl) (fnM_rt (st := twoS r q []) (ret_ok (mCa_ok (aCons_ok (c_under h) aNil_ok) (all_bl _ _ _))) rfl (by rw [vl, rlF, rl])) (by rw [vl, rlF, rl])
theorem c_meets {r q : List Nat} {s : Store} (h : Row r) : c_meets_of_0 (twoS r q s) = .ok (.new ((List.zip r q).map fun p => FT.val (.pure (.str [if p.1 = p.2 then p.1 else 48])))) (twoS r q s) := by
  unfold c_meets_of_0
  exact lc_two (fun a b => vl (.str [if a = b then a else 48])) h fun a b ha => by
    by_cases e : a = b <;> simp [e, itm, knd, mv, m2, bd, rt, tb, lcBody, mTg, SS.put, putAll, wipeL, mIf, oEq, rd, rsF, rsV, okT, nd, dep, eqT, Ob.guard]
theorem meets_ok {r q : List Nat} {s : Store} (h : Row r) (k : Row q) (e : r.length = q.length) : f_meets_of [.pure (.str r), .pure (.str q)] s = .ok (vl (.str (meR r q))) s := by
  have e1 : f_meets_of [.pure (.str r), .pure (.str q)] s = _ := chk2_ok (fun s _ _ => two_good h k e) .t .t
  rw [e1]
  exact fnM_rt (st := twoS r q s) (ret_ok (mMs_ok rfl rfl (aCons_ok (c_meets h) aNil_ok) (join_new _ _ _ (zip_lim h)))) rfl (by rw [vl, rlF, rl])
end Ob.K00
/-! # Ki: products of signs -/
namespace Ob.K00
open PySem PySem.Spec PyProof.Rows L2 Ob

theorem vs_or (c : Nat) : vs c = 1 ∨ vs c = -1 ∨ vs c = 0 := by
  unfold vs
  by_cases h : c = 43
  · exact .inl (if_pos h)
  · rw [if_neg h]
    by_cases h2 : c = 45
    · exact .inr (.inl (if_pos h2))
    · exact .inr (.inr (if_neg h2))
theorem cMul_vs (a b : Nat) : cMul (vs a) (vs b) = true := by
  rcases vs_or a with h | h | h <;> rw [h] <;> simp [cMul]
theorem mul_ok {i j : Int} (h : cMul i j = true) (s : SS) : oMul (vl (.int i)) (vl (.int j)) s = .ok (vl (.int (i * j))) s := by
  simp [oMul, bd, Ob.guard, h, rt]
theorem purs_i {α : Type} (g : α → Int) (l : List α) : purs (l.map fun x => FT.val (.pure (.int (g x)))) = some (l.map fun x => T.int (g x)) := purs_fm _ l
theorem num_call {r : List Nat} {st : SS} (h : Row r) : goC 1 f_numbers_of [.pure (.str r)] st = .ok (.new (r.map fun c => FT.val (.pure (.int (vs c))))) st := goC_pure (ts := [.str r]) rfl (e_numbers_of r [] h.lim h.c)
theorem num_stands (r : List Nat) : stands (.new (r.map fun c => FT.val (.pure (.int (vs c))))) (.lst (r.map fun c => .int (vs c))) := .inr ⟨_, rfl, by rw [nw, List.map_map]; rfl⟩
theorem c_prods {r q : List Nat} {s : Store} (h : Row r) (k : Row q) : c_products_0 (twoS r q s) = .ok (.new ((List.zip r q).map fun p => FT.val (.pure (.int (vs p.1 * vs p.2))))) (twoS r q s) := by
  unfold c_products_0
  rw [lc_zp (u1 := .lst (r.map fun c => .int (vs c))) (u2 := .lst (q.map fun c => .int (vs c))) (fun x y => some (vl (.int (toI x * toI y))))
    (aCons_ok (mCall_ok (aCons_ok (mv_ok rfl) aNil_ok) (num_call h)) (aCons_ok (mCall_ok (aCons_ok (mv_ok rfl) aNil_ok) (num_call k)) aNil_ok)) (num_stands r) (num_stands q) rfl rfl (fun i x y hx hy => ?_) (by rw [List.length_map]; exact h.lim), List.zip_map, filterMap_map', fm_some]
  · rfl
  · obtain ⟨a, _, rfl⟩ := List.mem_map.mp (List.mem_of_getElem? hx)
    obtain ⟨b, _, rfl⟩ := List.mem_map.mp (List.mem_of_getElem? hy)
    have g := mul_ok (cMul_vs a b)
    simp [g, itm, knd, mv, m2, bd, rt, lcBody, mTg, putAll, SS.put, wipeL, toI]
theorem rlF_new {α : Type} (n : Nat) (g : α → T) (l : List α) : rlF n (.new (l.map fun x => FT.val (.pure (g x)))) = true := by rw [rlF, rlFs_val]
theorem e_prods {r q : List Nat} {s : Store} (h : Row r) (k : Row q) : f_products [.pure (.str r), .pure (.str q)] s = .ok (.new ((List.zip r q).map fun p => FT.val (.pure (.int (vs p.1 * vs p.2))))) s :=
  fnM_rt (st := twoS r q s) (ret_ok (c_prods h k)) rfl (rlF_new _ (fun p : Nat × Nat => T.int (vs p.1 * vs p.2)) _)
theorem prod_call {r q : List Nat} {st : SS} (h : Row r) (k : Row q) : goC 2 f_products [.pure (.str r), .pure (.str q)] st = .ok (.new ((List.zip r q).map fun p => FT.val (.pure (.int (vs p.1 * vs p.2))))) st := goC_pure (ts := [.str r, .str q]) rfl (e_prods h k)
def prR (r q : List Nat) : List Nat := (prI r q).map sg
theorem product_ok {r q : List Nat} {s : Store} (h : Row r) (k : Row q) (e : r.length = q.length) : f_product_row [.pure (.str r), .pure (.str q)] s = .ok (vl (.str (prR r q))) s := by
  have e1 : f_product_row [.pure (.str r), .pure (.str q)] s = _ := chk2_ok (fun s _ _ => two_good h k e) .t .t
  rw [e1]
  refine fnM_rt (st := ⟨[some (.pure (.str r)), some (.pure (.str q))], s, none⟩) (ret_ok (mCall_ok (aCons_ok (mCall_ok (aCons_ok (mv_ok rfl) (aCons_ok (mv_ok rfl) aNil_ok)) (prod_call h k)) aNil_ok) ?_)) rfl (by rw [vl, rlF, rl])
  rw [map_fz1]
  have g6 := e_rows (Nat × Nat) (fun p => vs p.1 * vs p.2) (List.zip r q) [] (zip_lim h)
  have e2 : ((List.zip r q).map fun p => sg (vs p.1 * vs p.2)) = prR r q := by unfold prR prI; rw [List.map_map]; rfl
  rw [e2] at g6
  exact goC_pure (ts := [.lst ((List.zip r q).map fun p => .int (vs p.1 * vs p.2))]) rfl g6
/-- the places with a negative number -/
def paS (z : List Int) : List Nat := (List.range z.length).filter fun k => decide (z.getD k 0 < 0)
theorem c_parted {r q : List Nat} {s : Store} (h : Row r) (k : Row q) : c_parted_of_0 (twoS r q s) = .ok (.new ((paS (prI r q)).map fun k => FT.val (.pure (nT k)))) (twoS r q s) := by
  unfold c_parted_of_0
  have e0 : nw ((prI r q).map T.int) = .new ((List.zip r q).map fun p => FT.val (.pure (.int (vs p.1 * vs p.2)))) := by
    unfold nw prI; rw [List.map_map, List.map_map]; rfl
  rw [lc_enw (ts := (prI r q).map T.int) (fun i t => if decide (toI t < 0) = true then some (vl (nT i)) else none) ?_ (fun i t ht => ?_) (by rw [List.length_map, prI, List.length_map]; exact zip_lim h), List.zipIdx_map, filterMap_map', zipIdx_range 0, filterMap_map', paS, ← fm_if]
  · rfl
  · rw [e0]
    exact aCons_ok (mCall_ok (aCons_ok (mv_ok rfl) (aCons_ok (mv_ok rfl) aNil_ok)) (prod_call h k)) aNil_ok
  · obtain ⟨z, _, rfl⟩ := List.mem_map.mp (List.mem_of_getElem? ht)
    by_cases hz : z < 0 <;> simp [hz, itm, knd, mv, m2, bd, rt, tb, lcBody, mTg, SS.put, putAll, wipeL, oLtI, i2, toI]
theorem parted_ok {r q : List Nat} {s : Store} (h : Row r) (k : Row q) (e : r.length = q.length) : f_parted_set [.pure (.str r), .pure (.str q)] s = .ok (vl (el (paS (prI r q)))) s :=
  two_call (N := 0) h k e (fun _ _ => rfl) (fnM_rt (st := twoS r q []) (ret_ok (mCa_ok (aCons_ok (c_parted h k) aNil_ok) (bTup_map nT _ _))) rfl (by rw [vl, rlF, rl])) (by rw [vl, rlF, rl])
def fiB (z : List Int) : Bool := decide (1 ∈ z) == decide (-1 ∈ z)
theorem flat_i : ∀ z : List Int, (z.map T.int).all flat = true
  | [] => rfl
  | x :: r => by rw [List.map_cons, List.all_cons, flat_i r]; rfl
theorem any_i (i : Int) : ∀ z : List Int, ((z.map T.int).any fun u => eqT u (.int i)) = decide (i ∈ z)
  | [] => by simp
  | x :: r => by
    rw [List.map_cons, List.any_cons, any_i i r]
    by_cases e : x = i
    · subst e; simp [eqT]
    · have e3 : ¬ i = x := fun h => e h.symm
      simp [eqT, e, e3]
theorem oIn_i (i : Int) (z : List Int) (s : SS) : oIn false (vl (.int i)) (vl (.lst (z.map T.int))) s = .ok (vl (.bl (decide (i ∈ z)))) s := by
  simp only [oIn, vl, bd, seqOf, lstOf, mpurs, purs_t, Ob.guard, flat, flat_i, Bool.and_self, if_true, rt, any_i]
  rfl
theorem m2_ok {op : FT → FT → M FT} {a b : M FT} {st st1 st2 : SS} {x y : FT} {r : Res FT} (h : a st = .ok x st1) (k : b st1 = .ok y st2) (g : op x y st2 = r) : m2 op a b st = r := by
  unfold m2
  rw [bd_ok h, bd_ok k]
  exact g
theorem eq_bl (a b : Bool) (s : SS) : oEq (vl (.bl a)) (vl (.bl b)) s = .ok (vl (.bl (a == b))) s := by
  simp [oEq, bd, rd, rsF, rsV, okT, nd, dep, eqT, Ob.guard, rt]
theorem neg1 {st : SS} : m1 oNeg (rt (vl (.int 1))) st = .ok (vl (.int (-1))) st := rfl
theorem e_fit {r q : List Nat} {s : Store} (h : Row r) (k : Row q) : f_fit_together [.pure (.str r), .pure (.str q)] s = .ok (vl (.bl (fiB (prI r q)))) s := by
  refine fnM_rt (st := ⟨[some (.pure (.str r)), some (.pure (.str q)), some (.pure (.lst ((prI r q).map T.int)))], s, none⟩) ?_ rfl (by rw [vl, rlF, rl])
  unfold m_fit_together
  rw [sq_nx (st' := ⟨[some (.pure (.str r)), some (.pure (.str q)), some (.pure (.lst ((prI r q).map T.int)))], s, none⟩)]
  · exact ret_ok (m2_ok (m2_ok rfl (mv_ok rfl) (oIn_i 1 _ _)) (m2_ok neg1 (mv_ok rfl) (oIn_i (-1) _ _)) (eq_bl _ _ _))
  · unfold mSet
    have e : mCall 2 f_products (aCons (mv 0) (aCons (mv 1) aNil)) ⟨[some (.pure (.str r)), some (.pure (.str q)), none], s, none⟩ = _ := mCall_ok (aCons_ok (mv_ok rfl) (aCons_ok (mv_ok rfl) aNil_ok)) (prod_call h k)
    show bd _ _ ⟨[some (.pure (.str r)), some (.pure (.str q)), none], s, none⟩ = _
    rw [bd_ok e]
    have e2 : (List.zip r q).map (fun p => T.int (vs p.1 * vs p.2)) = (prI r q).map T.int := by unfold prI; rw [List.map_map]; rfl
    simp only [mAl, alF, bd, fz_new, SS.put]
    rw [e2]
    rfl
theorem orth_ok {r q : List Nat} {s : Store} (h : Row r) (k : Row q) (e : r.length = q.length) : f_are_orthogonal [.pure (.str r), .pure (.str q)] s = .ok (vl (.bl (fiB (prI r q)))) s :=
  two_call (N := 0) h k e (fun _ _ => rfl) (e_fit h k) (by rw [vl, rlF, rl])
end Ob.K00
/-! # Kj: the law's draws -/
namespace Ob.K00
open PySem PySem.Spec PyProof.Rows L2 Ob

abbrev pI (i : Int) : VD := .pure (.int i)
abbrev bxC (g : Int) (q : Bool) (m j : Int) : Cell := [pI g, .pure (.bl q), pI m, pI j]
/-- a box whose counter is at most c -/
def Bx (c : Nat) (x : Cell) : Prop := ∃ g q m j, x = bxC g q m j ∧ 0 ≤ m ∧ m < 2147483629 ∧ 0 ≤ j ∧ j ≤ (c : Int)
abbrev tkS (g : Int) (q : Bool) (m j n : Int) (a b : Option VD) (r : Store) : SS := ⟨[some (.cell 0), some (pI n), a, b], some (bxC g q m j) :: r, none⟩
section
variable {g m j n : Int} {q : Bool} {a b : Option VD} {r : Store}
theorem bx0 : m2 oIx (mv 0) (rt (vl (.int 0))) (tkS g q m j n a b r) = .ok (vl (.int g)) (tkS g q m j n a b r) := rfl
theorem bx1 : m2 oIx (mv 0) (rt (vl (.int 1))) (tkS g q m j n a b r) = .ok (vl (.bl q)) (tkS g q m j n a b r) := rfl
theorem bx2 : m2 oIx (mv 0) (rt (vl (.int 2))) (tkS g q m j n a b r) = .ok (vl (.int m)) (tkS g q m j n a b r) := rfl
theorem bx3 : m2 oIx (mv 0) (rt (vl (.int 3))) (tkS g q m j n a b r) = .ok (vl (.int j)) (tkS g q m j n a b r) := rfl
theorem bxG : m2 oGtI (m2 oIx (mv 0) (rt (vl (.int 0)))) (rt (vl (.int 0))) (tkS g q m j n a b r) = .ok (vl (.bl (decide (0 < g)))) (tkS g q m j n a b r) := rfl
theorem int_ok {m : M FT} {st st' : SS} {i : Int} (h : m st = .ok (vl (.int i)) st') : mCa bInt (aCons m aNil) st = .ok (vl (.int i)) st' := mCa_ok (aCons_ok h aNil_ok) rfl
theorem mod_ok {i k : Int} (h : 0 < k) (s : SS) : oMod (vl (.int i)) (vl (.int k)) s = .ok (vl (.int (i % k))) s := by
  simp [oMod, i2c, bd, Ob.guard, h, rt]
theorem div_ok {i k : Int} (h : 0 < k) (h2 : k < 1073741824) (s : SS) : oDiv (vl (.int i)) (vl (.int k)) s = .ok (vl (.int (i / k))) s := by
  simp [oDiv, i2c, bd, Ob.guard, h, h2, rt]
theorem pow_ok {i : Int} {k : Nat} (h : i.natAbs < 2 ^ 64) (h2 : k ≤ 1000000) (s : SS) : oPow (vl (.int i)) (vl (.int (k : Int))) s = .ok (vl (.int (i ^ k))) s := by
  have h3 : (k : Int) ≤ 1000000 := by omega
  have h4 : (0 : Int) ≤ k := by omega
  have c : (decide ((0 : Int) ≤ (k : Int)) && decide ((k : Int) ≤ 1000000) && decide (i.natAbs < 2 ^ 64)) = true := by
    rw [Bool.and_eq_true, Bool.and_eq_true]
    exact ⟨⟨decide_eq_true h4, decide_eq_true h3⟩, decide_eq_true h⟩
  unfold oPow i2c
  show bd (Ob.guard _) _ s = _
  unfold bd Ob.guard
  rw [if_pos c]
  rfl
theorem add_ok {i k : Int} (s : SS) : oAdd (vl (.int i)) (vl (.int k)) s = .ok (vl (.int (i + k))) s := rfl
theorem cMul_l {i k : Int} (h : i.natAbs < 2 ^ 64) : cMul i k = true := by
  unfold cMul
  rw [decide_eq_true h]
  rfl
theorem set_ok {n i : Nat} {me : M FT} {st st1 : SS} {t : T} (h : me st = .ok (vl t) st1) : mSet n i me st = .ok .nx (st1.put i (.pure t)) := by
  unfold mSet
  rw [bd_ok h]
  cases n <;> rfl
theorem setI_ok {i : Nat} {me : M FT} {z : Int} (h : me (tkS g q m j n a b r) = .ok (vl (.int z)) (tkS g q m j n a b r)) (hi : i < 4) :
    mSetI 0 me (mv 0) (rt (vl (.int (i : Nat)))) (tkS g q m j n a b r) = .ok .nx ⟨[some (.cell 0), some (pI n), a, b], some ((bxC g q m j).set i (pI z)) :: r, none⟩ := by
  unfold mSetI
  rw [bd_ok h]
  match i, hi with
  | 0, _ => rfl
  | 1, _ => rfl
  | 2, _ => rfl
  | 3, _ => rfl
end
theorem take_ok {c : Nat} {x : Cell} {n : Int} {r : Store} (hb : Bx c x) (hc : c ≤ 1000000) (h1 : 1 ≤ n) (h2 : n < 1073741824) :
    ∃ d y, 0 ≤ d ∧ d < n ∧ Bx (c + 1) y ∧ f__law_take [.cell 0, pI n] (some x :: r) = .ok (vl (.int d)) (some y :: r) := by
  obtain ⟨g, q, m, j, rfl, m0, m1, j0, j1⟩ := hb
  have hn : (0 : Int) < n := by omega
  by_cases hq : q = true ∧ 0 < g
  · obtain ⟨rfl, hg⟩ := hq
    refine ⟨g % n, bxC (g / n) true m j, Int.emod_nonneg _ (by omega), Int.emod_lt_of_pos _ hn, ⟨_, _, _, _, rfl, m0, m1, j0, by omega⟩, ?_⟩
    unfold f__law_take
    unfold fnM
    have e : m__law_take (entry 4 [.cell 0, pI n] (some (bxC g true m j) :: r)) = .ok (.rt (vl (.int (g % n)))) ⟨[some (.cell 0), some (pI n), some (pI (g % n)), none], some (bxC (g / n) true m j) :: r, none⟩ := by
      show m__law_take (tkS g true m j n none none r) = _
      unfold m__law_take
      have t : (tAndM (bd (m2 oIx (mv 0) (rt (vl (.int 1)))) tru) (bd (m2 oGtI (m2 oIx (mv 0) (rt (vl (.int 0)))) (rt (vl (.int 0)))) tb)) (tkS g true m j n none none r) = .ok true (tkS g true m j n none none r) := by
        unfold tAndM
        rw [bd_ok (a := true) (st' := tkS g true m j n none none r) (by rw [bd_ok bx1]; rfl), if_pos rfl, bd_ok bxG]
        rw [decide_eq_true hg]
        rfl
      have s1 : mSet 0 2 (m2 oMod (mCa bInt (aCons (m2 oIx (mv 0) (rt (vl (.int 0)))) aNil)) (mv 1)) (tkS g true m j n none none r) = .ok .nx (tkS g true m j n (some (pI (g % n))) none r) := set_ok (m2_ok (int_ok bx0) (mv_ok rfl) (mod_ok hn _))
      have s2 : mSetI 0 (m2 oDiv (m2 oIx (mv 0) (rt (vl (.int 0)))) (mv 1)) (mv 0) (rt (vl (.int 0))) (tkS g true m j n (some (pI (g % n))) none r) = .ok .nx (tkS (g / n) true m j n (some (pI (g % n))) none r) := setI_ok (i := 0) (m2_ok bx0 (mv_ok rfl) (div_ok hn h2 _)) (by omega)
      refine sq_rt ?_
      rw [if_t t, sq_nx s1, sq_nx s2]
      rfl
    rw [e]
    show fin _ _ _ = _
    simp [fin, cutS, rlF, rl]
  · refine ⟨((((m + 15491109 * (j + 1) + 179424691) ^ 5 % 2147483647) * 48271 + 104743 * (j + 1)) ^ 3 % 2147483587 / 64) % n, bxC g q m (j + 1), Int.emod_nonneg _ (by omega), Int.emod_lt_of_pos _ hn, ⟨_, _, _, _, rfl, m0, m1, by omega, by omega⟩, ?_⟩
    have b1 : (m + 15491109 * (j + 1) + 179424691).natAbs < 2 ^ 64 := by
      have : (2 : Nat) ^ 64 = 18446744073709551616 := by decide
      rw [this]
      omega
    generalize hz : (m + 15491109 * (j + 1) + 179424691) ^ 5 % 2147483647 = z
    have z0 : 0 ≤ z := by rw [← hz]; exact Int.emod_nonneg _ (by omega)
    have z1 : z < 2147483647 := by rw [← hz]; exact Int.emod_lt_of_pos _ (by omega)
    have b2 : (z * 48271 + 104743 * (j + 1)).natAbs < 2 ^ 64 := by
      have : (2 : Nat) ^ 64 = 18446744073709551616 := by decide
      rw [this]
      omega
    have b3 : z.natAbs < 2 ^ 64 := by
      have : (2 : Nat) ^ 64 = 18446744073709551616 := by decide
      rw [this]
      omega
    unfold f__law_take
    unfold fnM
    have e : m__law_take (entry 4 [.cell 0, pI n] (some (bxC g q m j) :: r)) = .ok (.rt (vl (.int (((z * 48271 + 104743 * (j + 1)) ^ 3 % 2147483587 / 64) % n)))) ⟨[some (.cell 0), some (pI n), none, some (pI z)], some (bxC g q m (j + 1)) :: r, none⟩ := by
      show m__law_take (tkS g q m j n none none r) = _
      unfold m__law_take
      have t : (tAndM (bd (m2 oIx (mv 0) (rt (vl (.int 1)))) tru) (bd (m2 oGtI (m2 oIx (mv 0) (rt (vl (.int 0)))) (rt (vl (.int 0)))) tb)) (tkS g q m j n none none r) = .ok false (tkS g q m j n none none r) := by
        unfold tAndM
        rw [bd_ok (a := q) (st' := tkS g q m j n none none r) (by rw [bd_ok bx1]; rfl)]
        cases q with
        | false => rfl
        | true =>
          have hg : ¬ 0 < g := fun h => hq ⟨rfl, h⟩
          rw [if_pos rfl, bd_ok bxG, decide_eq_false hg]
          rfl
      have s1 : mSetI 0 (m2 oAdd (m2 oIx (mv 0) (rt (vl (.int 3)))) (rt (vl (.int 1)))) (mv 0) (rt (vl (.int 3))) (tkS g q m j n none none r) = .ok .nx (tkS g q m (j + 1) n none none r) := setI_ok (i := 3) (m2_ok bx3 rfl (add_ok _)) (by omega)
      have s2 := set_ok (n := 0) (i := 3) (m2_ok (int_ok (m2_ok (m2_ok (m2_ok (bx2 (g := g) (q := q) (m := m) (j := j + 1) (n := n) (a := none) (b := none) (r := r)) (m2_ok (a := rt (vl (.int 15491109))) rfl bx3 (mul_ok (cMul_l (by decide)) _)) (add_ok _)) (b := rt (vl (.int 179424691))) rfl (add_ok _)) (b := rt (vl (.int 5))) rfl (pow_ok (k := 5) b1 (by omega) _))) (b := rt (vl (.int 2147483647))) rfl (mod_ok (by omega) _))
      rw [hz] at s2
      have s3 := m2_ok (int_ok (m2_ok (m2_ok (int_ok (m2_ok (m2_ok (m2_ok (a := mv 3) (st := tkS g q m (j + 1) n none (some (pI z)) r) (mv_ok rfl) (b := rt (vl (.int 48271))) rfl (mul_ok (cMul_l b3) _)) (m2_ok (a := rt (vl (.int 104743))) rfl bx3 (mul_ok (cMul_l (by decide)) _)) (add_ok _)) (b := rt (vl (.int 3))) rfl (pow_ok (k := 3) b2 (by omega) _))) (b := rt (vl (.int 2147483587))) rfl (mod_ok (by omega) _)) (b := rt (vl (.int 64))) rfl (div_ok (by omega) (by omega) _))) (b := mv 1) (mv_ok rfl) (mod_ok hn _)
      rw [sq_nx (if_fn t), sq_nx s1, sq_nx s2]
      exact ret_ok s3
    rw [e]
    show fin _ _ _ = _
    simp [fin, cutS, rlF, rl]
end Ob.K00
/-! # Kk: drawn rows -/
namespace Ob.K00
open PySem PySem.Spec PyProof.Rows L2 Ob

abbrev boxSt (D : List (Option VD)) (y : Cell) (r : Store) : SS := ⟨D, some y :: r, none⟩
theorem Bx.mono {c c' : Nat} {x : Cell} (h : Bx c x) (l : c ≤ c') : Bx c' x := by
  obtain ⟨g, q, m, j, e, h1, h2, h3, h4⟩ := h
  exact ⟨g, q, m, j, e, h1, h2, h3, by omega⟩
section
variable {D : List (Option VD)} {x y : Cell} {r : Store} {c n w : Nat}
theorem take_call {i : Nat} {k : Int} {me : M FT} (hD : D[i]? = some (some (.cell 0))) (he : me (boxSt D x r) = .ok (vl (.int k)) (boxSt D x r)) (hb : Bx c x) (hc : c ≤ 1000000) (h1 : 1 ≤ k) (h2 : k < 1073741824) :
    ∃ d y, 0 ≤ d ∧ d < k ∧ Bx (c + 1) y ∧ mCall 2 f__law_take (aCons (mv i) (aCons me aNil)) (boxSt D x r) = .ok (vl (.int d)) (boxSt D y r) := by
  obtain ⟨d, y, d0, d1, hy, e⟩ := take_ok (r := r) hb hc h1 h2
  refine ⟨d, y, d0, d1, hy, mCall_ok (aCons_ok (mv_ok hD) (aCons_ok he aNil_ok)) ?_⟩
  exact goC_cell (s' := some y :: r) rfl rfl e
theorem pick3 {d : Int} (h0 : 0 ≤ d) (h1 : d < 3) : ∃ a, sgn a = true ∧ ∀ s, oIx (vl (.str [43, 45, 48])) (vl (.int d)) s = .ok (vl (.str [a])) s := by
  have : d = 0 ∨ d = 1 ∨ d = 2 := by omega
  rcases this with rfl | rfl | rfl
  · exact ⟨43, rfl, fun _ => rfl⟩
  · exact ⟨45, rfl, fun _ => rfl⟩
  · exact ⟨48, rfl, fun _ => rfl⟩
theorem body_nm {i : Nat} {te : M FT} {vv : List Nat} {d : VD} {st st' : SS} {f : FT} (h : te (({ st with d := wipeL st.d vv } : SS).put i d) = .ok f st') : lcBody (.nm i) (rt true) te vv d st = .ok (some f) { st' with d := st.d, x := st.x } := by
  unfold lcBody
  show (match te (({ st with d := wipeL st.d vv } : SS).put i d) with | .ok f st4 => Res.ok (some f) { st4 with d := st.d, x := st.x } | _ => .stuck) = _
  rw [h]
/-- signs drawn one after another -/
theorem lc_draw {src : M Sr} {t : Tgt} {tt : M Bool} {te : M FT} {vv : List Nat} {sr : Sr} {ds : List VD} (hs : src (boxSt D x r) = .ok sr (boxSt D x r)) (hi : ∀ y, sr.items (some y :: r) = some ds) (hl : ds.length ≤ 100)
    (hb : ∀ d ∈ ds, ∀ c y, Bx c y → c + w ≤ 1000000 → ∃ a y', sgn a = true ∧ Bx (c + w) y' ∧ lcBody t tt te vv d (boxSt D y r) = .ok (some (vl (.str [a]))) (boxSt D y' r)) (hx : Bx c x) (hc : c + ds.length * w ≤ 1000000) :
    ∃ (q : List Nat) (y : Cell), q.length = ds.length ∧ q.all sgn = true ∧ Bx (c + ds.length * w) y ∧ mLc src t tt te vv (boxSt D x r) = .ok (.new (q.map fun a => FT.val (.pure (.str [a])))) (boxSt D y r) := by
  obtain ⟨acc, st', e, hI⟩ := lc_inv (t := t) (tt := tt) (te := te) (vs := vv) (sr := sr) (ds := ds) (I := fun (i : Nat) (st : SS) (acc : List FT) => i ≤ ds.length ∧ ∃ (q : List Nat) (y : Cell), st = boxSt D y r ∧ q.length = i ∧ q.all sgn = true ∧ Bx (c + i * w) y ∧ acc = q.map fun a => FT.val (.pure (.str [a]))) hs
    ⟨Nat.zero_le _, [], x, rfl, rfl, rfl, by simpa using hx, rfl⟩ (Nat.le_trans hl (by decide)) (fun i st acc ⟨_, q, y, e1, e2, _, _, e3⟩ => ⟨by rw [e1]; exact hi y, by rw [e3, List.length_map, e2]; exact Nat.le_refl _⟩)
    (fun i st acc d hd ⟨hle, q, y, e1, e2, e3, e4, e5⟩ => by
      have hlt := get_lt hd
      have hm : i * w + w ≤ ds.length * w := by
        have : (i + 1) * w ≤ ds.length * w := Nat.mul_le_mul_right w hlt
        rw [Nat.add_mul, Nat.one_mul] at this
        exact this
      obtain ⟨a, y', ha, hy, eb⟩ := hb d (List.mem_of_getElem? hd) (c + i * w) y e4 (by omega)
      refine ⟨some (vl (.str [a])), boxSt D y' r, by rw [e1]; exact eb, hlt, q ++ [a], y', rfl, by simp [e2], ?_, ?_, ?_⟩
      · rw [List.all_append, e3]
        simp [ha]
      · rw [Nat.add_mul, Nat.one_mul, ← Nat.add_assoc]; exact hy
      · rw [e5, List.map_append]; rfl)
  obtain ⟨_, q, y, e1, e2, e3, e4, e5⟩ := hI
  exact ⟨q, y, e2, e3, e4, by rw [e, e1, e5]⟩
theorem rng_srcI {ms : M (List FT)} {n : Int} {st : SS} (hm : ms st = .ok [vl (.int n)] st) (h1 : -1000000 ≤ n) (h2 : n ≤ 1000000) : bd ms mRng1 st = .ok (.rng 0 n.toNat) st := by
  rw [bd_ok hm]
  have c : (decide (-(2 ^ 62) ≤ n) && decide (n < 2 ^ 62)) = true := by
    rw [Bool.and_eq_true]
    exact ⟨decide_eq_true (by omega), decide_eq_true (by omega)⟩
  simp only [mRng1, vl, bd, Ob.guard, if_pos c, rt]
theorem rng_src {me : M FT} {k : Nat} {st : SS} (h : me st = .ok (vl (.int (k : Int))) st) (hk : k ≤ 100) : bd (aCons me aNil) mRng1 st = .ok (.rng 0 k) st := by
  have := rng_srcI (aCons_ok h aNil_ok) (by omega) (by omega)
  rw [Int.toNat_natCast] at this
  exact this
end
theorem fnM_box {N : Nat} {m : M Fl} {ds : List VD} {s s' : Store} {f : FT} {st : SS} (h : m (entry N ds s) = .ok (.rt f) st) (hs : st.s = s') (hl : s'.length = s.length) (hf : rlF s.length f = true) : fnM N m ds s = .ok f s' := by
  unfold fnM
  rw [h]
  show fin s.length f st.s = _
  rw [hs]
  unfold fin cutS
  rw [if_pos hl]
  simp only [hf, if_true]
theorem rlF_v (n : Nat) (t : T) : rlF n (vl t) = true := by rw [vl, rlF, rl]
theorem row_mk {q : List Nat} {k : Nat} (h1 : 1 ≤ k) (h8 : k ≤ 8) (e : q.length = k) (h : q.all sgn = true) : Row q := ⟨by omega, by omega, h⟩
/-! ### _law_row -/
theorem law_row_ok {c k : Nat} {x : Cell} {r : Store} (hx : Bx c x) (hc : c + k ≤ 1000000) (h1 : 1 ≤ k) (h8 : k ≤ 8) : ∃ (q : List Nat) (y : Cell), Row q ∧ q.length = k ∧ Bx (c + k) y ∧ f__law_row [.cell 0, .pure (.int (k : Int))] (some x :: r) = .ok (vl (.str q)) (some y :: r) := by
  obtain ⟨q, y, e1, e2, e3, e4⟩ := lc_draw (D := [some (.cell 0), some (.pure (.int (k : Int))), none]) (x := x) (r := r) (c := c) (w := 1) (t := .nm 2) (tt := rt true) (te := m2 oIx (rt (vl (.str [43, 45, 48]))) (mCall 2 f__law_take (aCons (mv 0) (aCons (rt (vl (.int 3))) aNil)))) (vv := [2])
    (rng_src (me := mv 1) (k := k) (mv_ok rfl) (by omega)) (fun y => rfl) (by simp; omega) (fun d hd c y hy hc => by
      obtain ⟨z, y', z0, z1, hy', et⟩ := take_call (D := [some (.cell 0), some (.pure (.int (k : Int))), some d]) (i := 0) (r := r) rfl (me := rt (vl (.int 3))) rfl hy (by omega) (by omega) (by omega)
      obtain ⟨a, ha, ea⟩ := pick3 z0 z1
      refine ⟨a, y', ha, hy', ?_⟩
      have e := m2_ok (op := oIx) (a := rt (vl (.str [43, 45, 48]))) (st := boxSt [some (.cell 0), some (.pure (.int (k : Int))), some d] y r) rfl et (ea _)
      exact body_nm (i := 2) (vv := [2]) (d := d) (st := boxSt [some (.cell 0), some (.pure (.int (k : Int))), none] y r) e) hx (by simpa using hc)
  rw [List.length_map, List.length_range] at e1 e3
  rw [Nat.mul_one] at e3
  refine ⟨q, y, row_mk h1 h8 e1 e2, e1, e3, ?_⟩
  have hq : q.length ≤ lim := lim8 (by omega)
  have e5 : m__law_row (entry 3 [.cell 0, .pure (.int (k : Int))] (some x :: r)) = .ok (.rt (vl (.str q))) (boxSt [some (.cell 0), some (.pure (.int (k : Int))), none] y r) := by
    unfold m__law_row
    have := join_new (fun a => a) q (boxSt [some (.cell 0), some (.pure (.int (k : Int))), none] y r) hq
    rw [List.map_id'] at this
    exact ret_ok (mMs_ok rfl rfl (aCons_ok e4 aNil_ok) this)
  exact fnM_box e5 rfl rfl (rlF_v _ _)
end Ob.K00
/-! # Kl: drawn rows, second part -/
namespace Ob.K00
open PySem PySem.Spec PyProof.Rows L2 Ob

theorem pick {S : List Nat} {d : Int} (hS : S.all sgn = true) (h0 : 0 ≤ d) (h1 : d < (S.length : Int)) : ∃ a, sgn a = true ∧ ∀ s, oIx (vl (.str S)) (vl (.int d)) s = .ok (vl (.str [a])) s := by
  obtain ⟨j, rfl⟩ : ∃ j : Nat, d = (j : Int) := ⟨d.toNat, by omega⟩
  have hj : j < S.length := by omega
  refine ⟨S[j], List.all_eq_true.mp hS _ (List.getElem_mem hj), fun s => ?_⟩
  have e : atI S (j : Int) = some S[j] := by rw [atI_get, List.getElem?_eq_getElem hj]
  unfold oIx
  show bd (Ob.mo (atI S (j : Int))) _ s = _
  rw [e]
  rfl
theorem idx_a {c : Nat} (h : sgn c = true) (s : SS) : ∃ k : Nat, oIdx (vl (.str [43, 48, 45])) [vl (.str [c])] s = .ok (vl (.int (k : Int))) s ∧ ∀ s, oIx (vl (.str [45, 48, 43])) (vl (.int (k : Int))) s = .ok (vl (.str [ng c])) s := by
  rcases sgn_or h with rfl | rfl | rfl
  · exact ⟨0, by simp [oIdx, show idxS [43, 48, 45] [43] = some 0 by decide +kernel, bd, Ob.mo, rt], fun _ => rfl⟩
  · exact ⟨2, by simp [oIdx, show idxS [43, 48, 45] [45] = some 2 by decide +kernel, bd, Ob.mo, rt], fun _ => rfl⟩
  · exact ⟨1, by simp [oIdx, show idxS [43, 48, 45] [48] = some 1 by decide +kernel, bd, Ob.mo, rt], fun _ => rfl⟩
theorem idx_b {c : Nat} (h : sgn c = true) (s : SS) : oIdx (vl (.str [45, 48, 43])) [vl (.str [c])] s = .ok (vl (.int (vs c + 1))) s := by
  rcases sgn_or h with rfl | rfl | rfl
  · simp [oIdx, show idxS [45, 48, 43] [43] = some 2 by decide +kernel, bd, Ob.mo, rt, vs]
  · simp [oIdx, show idxS [45, 48, 43] [45] = some 0 by decide +kernel, bd, Ob.mo, rt, vs]
  · simp [oIdx, show idxS [45, 48, 43] [48] = some 1 by decide +kernel, bd, Ob.mo, rt, vs]
/-- '-0+'['+0-'.index(sign)] -/
theorem neg_pick {m : M FT} {st st' : SS} {c : Nat} (h : sgn c = true) (e : m st = .ok (vl (.str [c])) st') : m2 oIx (rt (vl (.str [45, 48, 43]))) (mMs oIdx (rt (vl (.str [43, 48, 45]))) (aCons m aNil)) st = .ok (vl (.str [ng c])) st' := by
  obtain ⟨k, h1, h2⟩ := idx_a h st'
  exact m2_ok rfl (mMs_ok rfl rfl (aCons_ok e aNil_ok) h1) (h2 _)
/-- signs over a row that leave the state -/
theorem lc_sg {e : M FT} {i : Nat} {te : M FT} {vv : List Nat} {st : SS} {r : List Nat} (f : Nat → Nat) (h : Row r) (he : e st = .ok (vl (.str r)) st) (hb : ∀ c, sgn c = true → te (({ st with d := wipeL st.d vv } : SS).put i (.pure (.str [c]))) = .ok (vl (.str [f c])) (({ st with d := wipeL st.d vv } : SS).put i (.pure (.str [c])))) :
    mLc (bd e mOne) (.nm i) (rt true) te vv st = .ok (.new (r.map fun c => FT.val (.pure (.str [f c])))) st := by
  rw [lc_one (u := .str r) (ts := chs r) (fun x => match x with | .str [c] => some (vl (.str [f c])) | _ => none) he rfl (fun x hx => ?_) (by rw [chs, List.length_map]; exact h.lim), chs, filterMap_map', fm_some]
  obtain ⟨c, hc, rfl⟩ := List.mem_map.mp hx
  rw [body_nm (hb c (List.all_eq_true.mp h.c c hc))]
  rfl
theorem Row.ng {r : List Nat} (h : Row r) : Row (r.map Ob.K00.ng) := by
  refine ⟨by rw [List.length_map]; exact h.a, by rw [List.length_map]; exact h.b, ?_⟩
  rw [List.all_eq_true]
  intro c hc
  obtain ⟨a, ha, rfl⟩ := List.mem_map.mp hc
  rcases sgn_or (List.all_eq_true.mp h.c a ha) with rfl | rfl | rfl <;> rfl
theorem eq_i (a b : Int) (s : SS) : oEq (vl (.int a)) (vl (.int b)) s = .ok (vl (.bl (a == b))) s := by
  simp [oEq, bd, rd, rsF, rsV, okT, nd, dep, eqT, Ob.guard, rt]
theorem tb_ok {m : M FT} {st st' : SS} {b : Bool} (h : m st = .ok (vl (.bl b)) st') : bd m tb st = .ok b st' := by rw [bd_ok h]; rfl
theorem tru_b {m : M FT} {st st' : SS} {b : Bool} (h : m st = .ok (vl (.bl b)) st') : bd m tru st = .ok b st' := by rw [bd_ok h]; rfl
theorem str_app {a b : List Nat} (h : a.length + b.length ≤ 1000000) (s : SS) : oAdd (vl (.str a)) (vl (.str b)) s = .ok (vl (.str (a ++ b))) s := by
  have c : decide (a.length + b.length ≤ lim) = true := decide_eq_true h
  unfold oAdd
  show bd (Ob.guard _) _ s = _
  unfold bd Ob.guard
  rw [if_pos c]
  rfl
theorem cut_to {α : Type} (xs : List α) (j : Nat) (h : j ≤ xs.length) : cutL xs none (some (j : Int)) = xs.take j := by
  unfold cutL
  rw [HT.sIx_none, HT.sIx_nat]
  simp
theorem cut_from {α : Type} (xs : List α) (j : Nat) (h : j ≤ xs.length) : cutL xs (some (j : Int)) none = xs.drop j := by
  unfold cutL
  rw [HT.sIx_none, HT.sIx_nat, Nat.min_eq_left h]
  apply List.take_of_length_le
  simp
theorem sl_to {ma mi : M FT} {st st1 st2 : SS} {r : List Nat} {j : Nat} (h : ma st = .ok (vl (.str r)) st1) (k : mi st1 = .ok (vl (.int (j : Int))) st2) (hj : j ≤ r.length) : mSl ma pNone (bd mi asInt) st = .ok (vl (.str (r.take j))) st2 := by
  unfold mSl
  rw [bd_ok h, bd_ok (m := pNone) (a := none) (st' := st1) rfl, bd_ok (a := some (j : Int)) (st' := st2) (by rw [bd_ok k]; rfl)]
  show rt (vl (.str (cutL r none (some (j : Int))))) st2 = _
  rw [cut_to r j hj]
  rfl
theorem sl_from {ma mi : M FT} {st st1 st2 : SS} {r : List Nat} {j : Nat} (h : ma st = .ok (vl (.str r)) st1) (k : mi st1 = .ok (vl (.int (j : Int))) st2) (hj : j ≤ r.length) : mSl ma (bd mi asInt) pNone st = .ok (vl (.str (r.drop j))) st2 := by
  unfold mSl
  rw [bd_ok h, bd_ok (a := some (j : Int)) (st' := st2) (by rw [bd_ok k]; rfl), bd_ok (m := pNone) (a := none) (st' := st2) rfl]
  show rt (vl (.str (cutL r (some (j : Int)) none))) st2 = _
  rw [cut_from r j hj]
  rfl
theorem len_s {m : M FT} {st st' : SS} {r : List Nat} (h : m st = .ok (vl (.str r)) st') : mCa bLenU (aCons m aNil) st = .ok (vl (.int (r.length : Int))) st' := mCa_ok (aCons_ok h aNil_ok) rfl
/-! ### _law_second -/
abbrev seS (y : Cell) (row : List Nat) (a b : Option VD) (r : Store) : SS := boxSt [some (.cell 0), some (.pure (.str row)), a, b, none] y r
theorem second_ok {c : Nat} {x : Cell} {r : Store} {row : List Nat} (h : Row row) (hx : Bx c x) (hc : c + 100 ≤ 1000000) : ∃ (q : List Nat) (y : Cell), Row q ∧ q.length = row.length ∧ Bx (c + 20) y ∧ f__law_second [.cell 0, .pure (.str row)] (some x :: r) = .ok (vl (.str q)) (some y :: r) := by
  have hb := h.b
  have ha := h.a
  obtain ⟨d, y, d0, d1, hy, e1⟩ := take_call (D := [some (.cell 0), some (.pure (.str row)), none, none, none]) (i := 0) (r := r) (k := 5) (me := rt (vl (.int 5))) rfl rfl hx (by omega) (by omega) (by omega)
  have s1 : mSet 0 2 (mCall 2 f__law_take (aCons (mv 0) (aCons (rt (vl (.int 5))) aNil))) (seS x row none none r) = .ok .nx (seS y row (some (pI d)) none r) := set_ok e1
  have cmp : ∀ (i : Int), bd (m2 oEq (mv 2) (rt (vl (.int i)))) tb (seS y row (some (pI d)) none r) = .ok (d == i) (seS y row (some (pI d)) none r) := fun i => tb_ok (m2_ok (mv_ok rfl) rfl (eq_i _ _ _))
  have fin : ∀ (q : List Nat) (z : Cell) (st : SS), m__law_second (seS x row none none r) = .ok (.rt (vl (.str q))) st → st.s = some z :: r → f__law_second [.cell 0, .pure (.str row)] (some x :: r) = .ok (vl (.str q)) (some z :: r) := fun q z st e es => fnM_box e es rfl (rlF_v _ _)
  have dd : d = 0 ∨ d = 1 ∨ d = 2 ∨ d = 3 ∨ d = 4 := by omega
  rcases dd with rfl | rfl | rfl | rfl | rfl
  · refine ⟨row, y, h, rfl, hy.mono (by omega), fin row y (seS y row (some (pI 0)) none r) ?_ rfl⟩
    unfold m__law_second
    rw [sq_nx s1]
    refine sq_rt ?_
    rw [if_t (cmp 0)]
    exact ret_ok (mv_ok rfl)
  · refine ⟨row.map ng, y, h.ng, by rw [List.length_map], hy.mono (by omega), fin (row.map ng) y (seS y row (some (pI 1)) none r) ?_ rfl⟩
    unfold m__law_second
    rw [sq_nx s1, sq_nx (if_fn (cmp 0))]
    refine sq_rt ?_
    rw [if_t (cmp 1)]
    have cc : c__law_second_0 (seS y row (some (pI 1)) none r) = .ok (.new (row.map fun c => FT.val (.pure (.str [ng c])))) (seS y row (some (pI 1)) none r) := lc_sg ng h (mv_ok rfl) fun c hc => neg_pick hc (mv_ok rfl)
    exact ret_ok (mMs_ok rfl rfl (aCons_ok cc aNil_ok) (join_new _ _ _ h.lim))
  · obtain ⟨p, z, p0, p1, hz, e2⟩ := take_call (D := [some (.cell 0), some (.pure (.str row)), some (pI 2), none, none]) (i := 0) (r := r) (k := (row.length : Int)) (me := mCa bLenU (aCons (mv 1) aNil)) rfl (len_s (mv_ok rfl)) hy (by omega) (by omega) (by omega)
    obtain ⟨j, rfl⟩ : ∃ j : Nat, p = (j : Int) := ⟨p.toNat, by omega⟩
    obtain ⟨u, w, u0, u1, hw, e3⟩ := take_call (D := [some (.cell 0), some (.pure (.str row)), some (pI 2), some (pI (j : Int)), none]) (i := 0) (r := r) (k := 3) (me := rt (vl (.int 3))) rfl rfl hz (by omega) (by omega) (by omega)
    obtain ⟨a, ga, ea⟩ := pick3 u0 u1
    have hj : j < row.length := by omega
    have hl : (row.take j ++ [a] ++ row.drop (j + 1)).length = row.length := by simp; omega
    refine ⟨row.take j ++ [a] ++ row.drop (j + 1), w, ⟨by rw [hl]; exact ha, by rw [hl]; exact hb, ?_⟩, hl, hw.mono (by omega), fin _ w (seS w row (some (pI 2)) (some (pI (j : Int))) r) ?_ rfl⟩
    · rw [List.all_append, List.all_append, Bool.and_eq_true, Bool.and_eq_true]
      refine ⟨⟨?_, by simp [ga]⟩, ?_⟩
      · rw [List.all_eq_true]; exact fun c hc => List.all_eq_true.mp h.c c (List.mem_of_mem_take hc)
      · rw [List.all_eq_true]; exact fun c hc => List.all_eq_true.mp h.c c (List.mem_of_mem_drop hc)
    · unfold m__law_second
      rw [sq_nx s1, sq_nx (if_fn (cmp 0)), sq_nx (if_fn (cmp 1))]
      refine sq_rt ?_
      rw [if_t (cmp 2)]
      have s2 : mSet 0 3 (mCall 2 f__law_take (aCons (mv 0) (aCons (mCa bLenU (aCons (mv 1) aNil)) aNil))) (seS y row (some (pI 2)) none r) = .ok .nx (seS z row (some (pI 2)) (some (pI (j : Int))) r) := set_ok e2
      rw [sq_nx s2]
      have t1 : (row.take j).length + [a].length ≤ 1000000 := by simp; omega
      have t2 : (row.take j ++ [a]).length + (row.drop (j + 1)).length ≤ 1000000 := by simp; omega
      exact ret_ok (m2_ok (m2_ok (sl_to (mv_ok rfl) (mv_ok rfl) (by omega)) (m2_ok (a := rt (vl (.str [43, 45, 48]))) rfl e3 (ea _)) (str_app t1 _)) (sl_from (j := j + 1) (mv_ok rfl) (m2_ok (b := rt (vl (.int 1))) (mv_ok rfl) rfl (add_ok _)) (by omega)) (str_app t2 _))
  · obtain ⟨q, z, e2, e3, hz, e4⟩ := lc_draw (D := [some (.cell 0), some (.pure (.str row)), some (pI 3), none, none]) (x := y) (r := r) (c := c + 1) (w := 2) (t := .nm 4) (tt := rt true) (te := mIf (bd (m2 oGtI (mCall 2 f__law_take (aCons (mv 0) (aCons (rt (vl (.int 3))) aNil))) (rt (vl (.int 0)))) tb) (mv 4) (m2 oIx (rt (vl (.str [43, 45, 48]))) (mCall 2 f__law_take (aCons (mv 0) (aCons (rt (vl (.int 3))) aNil))))) (vv := [4])
      (sr := .one (.pure (.str row))) (src := bd (mv 1) mOne) (ds := row.map fun c => .pure (.str [c])) (by rw [bd_ok (mv_ok rfl)]; rfl) (fun y => rfl) (by rw [List.length_map]; omega) (fun d hd c y hy hc => by
        obtain ⟨s0, hs0, rfl⟩ := List.mem_map.mp hd
        have hsg := List.all_eq_true.mp h.c s0 hs0
        obtain ⟨u, y', u0, u1, hy', et⟩ := take_call (D := [some (.cell 0), some (.pure (.str row)), some (pI 3), none, some (.pure (.str [s0]))]) (i := 0) (r := r) rfl (me := rt (vl (.int 3))) rfl hy (by omega) (by omega) (by omega)
        have tt := tb_ok (m2_ok (op := oGtI) (b := rt (vl (.int 0))) (r := .ok (vl (.bl (decide (0 < u)))) _) et rfl rfl)
        by_cases hu : 0 < u
        · rw [decide_eq_true hu] at tt
          refine ⟨s0, y', hsg, hy'.mono (by omega), ?_⟩
          have e := if_t (a := mv 4) (b := m2 oIx (rt (vl (.str [43, 45, 48]))) (mCall 2 f__law_take (aCons (mv 0) (aCons (rt (vl (.int 3))) aNil)))) tt
          rw [mv_ok (i := 4) (d := .pure (.str [s0])) rfl] at e
          exact body_nm (i := 4) (vv := [4]) (d := .pure (.str [s0])) (st := boxSt [some (.cell 0), some (.pure (.str row)), some (pI 3), none, none] y r) e
        · rw [decide_eq_false hu] at tt
          obtain ⟨v, y2, v0, v1, hy2, ev⟩ := take_call (D := [some (.cell 0), some (.pure (.str row)), some (pI 3), none, some (.pure (.str [s0]))]) (i := 0) (r := r) rfl (me := rt (vl (.int 3))) rfl hy' (by omega) (by omega) (by omega)
          obtain ⟨a, ga, ea⟩ := pick3 v0 v1
          refine ⟨a, y2, ga, hy2, ?_⟩
          have e := if_f (a := mv 4) (b := m2 oIx (rt (vl (.str [43, 45, 48]))) (mCall 2 f__law_take (aCons (mv 0) (aCons (rt (vl (.int 3))) aNil)))) tt
          rw [m2_ok (a := rt (vl (.str [43, 45, 48]))) rfl ev (ea _)] at e
          exact body_nm (i := 4) (vv := [4]) (d := .pure (.str [s0])) (st := boxSt [some (.cell 0), some (.pure (.str row)), some (pI 3), none, none] y r) e) hy (by rw [List.length_map]; omega)
    rw [List.length_map] at e2 hz
    refine ⟨q, z, row_mk ha hb e2 e3, e2, hz.mono (by omega), fin q z (seS z row (some (pI 3)) none r) ?_ rfl⟩
    unfold m__law_second
    rw [sq_nx s1, sq_nx (if_fn (cmp 0)), sq_nx (if_fn (cmp 1)), sq_nx (if_fn (cmp 2))]
    refine sq_rt ?_
    rw [if_t (cmp 3)]
    have := join_new (fun a => a) q (seS z row (some (pI 3)) none r) (lim8 (by omega))
    rw [List.map_id'] at this
    exact ret_ok (mMs_ok rfl rfl (aCons_ok e4 aNil_ok) this)
  · obtain ⟨q, z, hq, hl, hz, e2⟩ := law_row_ok (r := r) hy (by omega) ha hb
    refine ⟨q, z, hq, hl, hz.mono (by omega), fin q z (seS z row (some (pI 4)) none r) ?_ rfl⟩
    unfold m__law_second
    rw [sq_nx s1, sq_nx (if_fn (cmp 0)), sq_nx (if_fn (cmp 1)), sq_nx (if_fn (cmp 2)), sq_nx (if_fn (cmp 3))]
    refine ret_ok (mCall_ok (aCons_ok (mv_ok rfl) (aCons_ok (len_s (mv_ok rfl)) aNil_ok)) ?_)
    exact goC_cell (s' := some z :: r) rfl rfl e2
end Ob.K00
/-! # Km: cells, boxes, the first drawn row -/
namespace Ob.K00
open PySem PySem.Spec PyProof.Rows L2 Ob

/-! ### _law_drawn -/
theorem replicate_row {a k : Nat} (ga : sgn a = true) (h1 : 1 ≤ k) (h8 : k ≤ 8) : Row (List.replicate k [a]).flatten := by
  have e : (List.replicate k [a]).flatten = List.replicate k a := by
    clear h1 h8
    induction k with
    | zero => rfl
    | succ k ih => rw [List.replicate_succ, List.flatten_cons, ih, List.replicate_succ]; rfl
  rw [e]
  refine ⟨by rw [List.length_replicate]; exact h1, by rw [List.length_replicate]; exact h8, ?_⟩
  rw [List.all_eq_true]
  intro c hc
  rw [(List.mem_replicate.mp hc).2]
  exact ga
theorem rep_ok {a k : Nat} (h : k ≤ 8) (s : SS) : oMul (vl (.str [a])) (vl (.int (k : Int))) s = .ok (vl (.str (List.replicate k [a]).flatten)) s := by
  have c : (decide (-1000000 ≤ (k : Int)) && decide ((k : Int) ≤ 1000000) && decide ([a].length * (k : Int).toNat ≤ 1000000)) = true := by
    rw [Bool.and_eq_true, Bool.and_eq_true]
    refine ⟨⟨decide_eq_true (by omega), decide_eq_true (by omega)⟩, decide_eq_true ?_⟩
    rw [Int.toNat_natCast]
    show 1 * k ≤ 1000000
    omega
  unfold oMul
  show bd (Ob.guard _) _ s = _
  unfold bd Ob.guard
  rw [if_pos c]
  rfl
abbrev drS (y : Cell) (k w : Option VD) (r : Store) : SS := boxSt [some (.cell 0), k, w, none] y r
theorem pickL {d : Int} (h0 : 0 ≤ d) (h1 : d < 3) (st : SS) : ∃ a, sgn a = true ∧ oIx (.new [vl (.str [43]), vl (.str [45]), vl (.str [48])]) (vl (.int d)) st = .ok (vl (.str [a])) st := by
  have : d = 0 ∨ d = 1 ∨ d = 2 := by omega
  rcases this with rfl | rfl | rfl
  · exact ⟨43, rfl, rfl⟩
  · exact ⟨45, rfl, rfl⟩
  · exact ⟨48, rfl, rfl⟩
theorem drawn_loop {S : List Nat} {L : Int} {k : Nat} {way : Int} {c : Nat} {x : Cell} {r : Store} (hS : S.all sgn = true) (hL : L = (S.length : Int)) (h2 : 1 ≤ L) (h6 : L ≤ 6) (hk : k ≤ 8) (hx : Bx c x) (hc : c + 100 ≤ 1000000)
    (e1 : ∀ (d : Option VD) (y : Cell), m2 oIx (mLst (aCons (rt (vl (.str [43, 45]))) (aCons (rt (vl (.str [43, 45, 48]))) (aCons (rt (vl (.str [48, 43, 48, 45, 48, 48]))) aNil)))) (m2 oSub (mv 2) (rt (vl (.int 2)))) (boxSt [some (.cell 0), some (pI k), some (pI way), d] y r) = .ok (vl (.str S)) (boxSt [some (.cell 0), some (pI k), some (pI way), d] y r))
    (e2 : ∀ (d : Option VD) (y : Cell), m2 oIx (mLst (aCons (rt (vl (.int 2))) (aCons (rt (vl (.int 3))) (aCons (rt (vl (.int 6))) aNil)))) (m2 oSub (mv 2) (rt (vl (.int 2)))) (boxSt [some (.cell 0), some (pI k), some (pI way), d] y r) = .ok (vl (.int L)) (boxSt [some (.cell 0), some (pI k), some (pI way), d] y r)) :
    ∃ (q : List Nat) (y : Cell), q.length = k ∧ q.all sgn = true ∧ Bx (c + 8) y ∧ c__law_drawn_0 (drS x (some (pI k)) (some (pI way)) r) = .ok (.new (q.map fun a => FT.val (.pure (.str [a])))) (drS y (some (pI k)) (some (pI way)) r) := by
  obtain ⟨q, y, e3, e4, hy, e5⟩ := lc_draw (D := [some (.cell 0), some (pI k), some (pI way), none]) (x := x) (r := r) (c := c) (w := 1) (t := .nm 3) (tt := rt true)
    (te := m2 oIx (m2 oIx (mLst (aCons (rt (vl (.str [43, 45]))) (aCons (rt (vl (.str [43, 45, 48]))) (aCons (rt (vl (.str [48, 43, 48, 45, 48, 48]))) aNil)))) (m2 oSub (mv 2) (rt (vl (.int 2))))) (mCall 2 f__law_take (aCons (mv 0) (aCons (m2 oIx (mLst (aCons (rt (vl (.int 2))) (aCons (rt (vl (.int 3))) (aCons (rt (vl (.int 6))) aNil)))) (m2 oSub (mv 2) (rt (vl (.int 2))))) aNil)))) (vv := [3])
    (rng_src (me := mv 1) (k := k) (mv_ok rfl) (by omega)) (fun y => rfl) (by simp; omega) (fun d hd c y hy hc => by
      obtain ⟨z, y', z0, z1, hy', et⟩ := take_call (D := [some (.cell 0), some (pI k), some (pI way), some d]) (i := 0) (r := r) rfl (e2 (some d) y) hy (by omega) (by omega) (by omega)
      obtain ⟨a, ha, ea⟩ := pick hS z0 (by omega)
      exact ⟨a, y', ha, hy', body_nm (i := 3) (vv := [3]) (d := d) (st := boxSt [some (.cell 0), some (pI k), some (pI way), none] y r) (m2_ok (e1 (some d) y) et (ea _))⟩) hx (by rw [List.length_map, List.length_range]; omega)
  rw [List.length_map, List.length_range] at e3 hy
  exact ⟨q, y, e3, e4, hy.mono (by omega), e5⟩
theorem drawn_ok {c : Nat} {x : Cell} {r : Store} (hx : Bx c x) (hc : c + 200 ≤ 1000000) : ∃ (q : List Nat) (y : Cell), Row q ∧ Bx (c + 20) y ∧ f__law_drawn [.cell 0] (some x :: r) = .ok (vl (.str q)) (some y :: r) := by
  obtain ⟨d, y, d0, d1, hy, e1⟩ := take_call (D := [some (.cell 0), none, none, none]) (i := 0) (r := r) (k := 8) (me := rt (vl (.int 8))) rfl rfl hx (by omega) (by omega) (by omega)
  obtain ⟨w, z, w0, w1, hz, e2⟩ := take_call (D := [some (.cell 0), none, none, none]) (i := 0) (r := r) (k := 5) (me := rt (vl (.int 5))) rfl rfl hy (by omega) (by omega) (by omega)
  obtain ⟨k, hk⟩ : ∃ k : Nat, 1 + d = (k : Int) := ⟨(1 + d).toNat, by omega⟩
  have k1 : 1 ≤ k := by omega
  have k8 : k ≤ 8 := by omega
  have s1 : mUnp (.tup [1, 2]) (mTup (aCons (m2 oAdd (rt (vl (.int 1))) (mCall 2 f__law_take (aCons (mv 0) (aCons (rt (vl (.int 8))) aNil)))) (aCons (mCall 2 f__law_take (aCons (mv 0) (aCons (rt (vl (.int 5))) aNil))) aNil))) (drS x none none r) = .ok .nx (drS z (some (pI k)) (some (pI w)) r) := by
    have ea := aCons_ok (m2_ok (op := oAdd) (a := rt (vl (.int 1))) rfl e1 (add_ok _)) (aCons_ok e2 aNil_ok)
    unfold mUnp mTup
    have eb : bd (aCons (m2 oAdd (rt (vl (.int 1))) (mCall 2 f__law_take (aCons (mv 0) (aCons (rt (vl (.int 8))) aNil)))) (aCons (mCall 2 f__law_take (aCons (mv 0) (aCons (rt (vl (.int 5))) aNil))) aNil)) (fun xs => bd (Ob.guard (decide (xs.length ≤ lim))) fun _ => rt (FT.val (mkTup (xs.map fz)))) (drS x none none r) = .ok (FT.val (.pure (.tup [.int (1 + d), .int w]))) (drS z none none r) := by
      rw [bd_ok ea]
      rfl
    rw [bd_ok eb, hk]
    rfl
  have fin : ∀ (q : List Nat) (v : Cell) (st : SS), m__law_drawn (drS x none none r) = .ok (.rt (vl (.str q))) st → st.s = some v :: r → f__law_drawn [.cell 0] (some x :: r) = .ok (vl (.str q)) (some v :: r) := fun q v st e es => fnM_box e es rfl (rlF_v _ _)
  have cmp : bd (m2 oLtI (mv 2) (rt (vl (.int 2)))) tb (drS z (some (pI k)) (some (pI w)) r) = .ok (decide (w < 2)) (drS z (some (pI k)) (some (pI w)) r) := rfl
  by_cases hw : w < 2
  · rw [decide_eq_true hw] at cmp
    obtain ⟨u, v, u0, u1, hv, e3⟩ := take_call (D := [some (.cell 0), some (pI k), some (pI w), none]) (i := 0) (r := r) (k := 3) (me := rt (vl (.int 3))) rfl rfl hz (by omega) (by omega) (by omega)
    obtain ⟨a, ga, ea⟩ := pickL u0 u1 (drS v (some (pI k)) (some (pI w)) r)
    refine ⟨_, v, replicate_row ga k1 k8, hv.mono (by omega), fin _ v (drS v (some (pI k)) (some (pI w)) r) ?_ rfl⟩
    unfold m__law_drawn
    rw [sq_nx s1]
    refine sq_rt ?_
    rw [if_t cmp]
    exact ret_ok (m2_ok (m2_ok (a := mLst (aCons (rt (vl (.str [43]))) (aCons (rt (vl (.str [45]))) (aCons (rt (vl (.str [48]))) aNil)))) rfl e3 ea) (mv_ok rfl) (rep_ok k8 _))
  · rw [decide_eq_false hw] at cmp
    have rest : ∀ (q : List Nat) (v : Cell), q.length = k → q.all sgn = true → Bx (c + 2 + 8) v → c__law_drawn_0 (drS z (some (pI k)) (some (pI w)) r) = .ok (.new (q.map fun a => FT.val (.pure (.str [a])))) (drS v (some (pI k)) (some (pI w)) r) →
        ∃ (q : List Nat) (y : Cell), Row q ∧ Bx (c + 20) y ∧ f__law_drawn [.cell 0] (some x :: r) = .ok (vl (.str q)) (some y :: r) := by
      intro q v h1 h2 h3 h4
      refine ⟨q, v, row_mk k1 k8 h1 h2, h3.mono (by omega), fin q v (drS v (some (pI k)) (some (pI w)) r) ?_ rfl⟩
      unfold m__law_drawn
      rw [sq_nx s1, sq_nx (if_fn cmp)]
      have := join_new (fun a => a) q (drS v (some (pI k)) (some (pI w)) r) (lim8 (by omega))
      rw [List.map_id'] at this
      exact ret_ok (mMs_ok rfl rfl (aCons_ok h4 aNil_ok) this)
    have ww : w = 2 ∨ w = 3 ∨ w = 4 := by omega
    rcases ww with rfl | rfl | rfl
    · obtain ⟨q, v, h1, h2, h3, h4⟩ := drawn_loop (S := [43, 45]) (L := 2) (way := 2) rfl rfl (by omega) (by omega) k8 hz (by omega) (fun _ _ => rfl) (fun _ _ => rfl)
      exact rest q v h1 h2 h3 h4
    · obtain ⟨q, v, h1, h2, h3, h4⟩ := drawn_loop (S := [43, 45, 48]) (L := 3) (way := 3) rfl rfl (by omega) (by omega) k8 hz (by omega) (fun _ _ => rfl) (fun _ _ => rfl)
      exact rest q v h1 h2 h3 h4
    · obtain ⟨q, v, h1, h2, h3, h4⟩ := drawn_loop (S := [48, 43, 48, 45, 48, 48]) (L := 6) (way := 4) rfl rfl (by omega) (by omega) k8 hz (by omega) (fun _ _ => rfl) (fun _ _ => rfl)
      exact rest q v h1 h2 h3 h4
/-! ### _law_cell, _law_box -/
theorem cell_ok {ns : List Int} {k : Nat} (s : Store) : ∃ g, f__law_cell [.pure (.xl (ns.map .int)), pI k] s = .ok (vl (.int g)) s := by
  have e1 : ∀ st : SS, st = ⟨[some (.pure (.xl (ns.map .int))), some (pI k)], s, none⟩ → mCa bLenU (aCons (mv 0) aNil) st = .ok (vl (.int (ns.length : Int))) st := by
    rintro st rfl
    refine mCa_ok (aCons_ok (mv_ok rfl) aNil_ok) ?_
    simp [bLenU, bLen, bd, seqOf, rt]
  have t : bd (m2 oLtI (mv 1) (mCa bLenU (aCons (mv 0) aNil))) tb ⟨[some (.pure (.xl (ns.map .int))), some (pI k)], s, none⟩ = .ok (decide ((k : Int) < (ns.length : Int))) ⟨[some (.pure (.xl (ns.map .int))), some (pI k)], s, none⟩ :=
    tb_ok (m2_ok (mv_ok rfl) (e1 _ rfl) rfl)
  have fin : ∀ g, m__law_cell ⟨[some (.pure (.xl (ns.map .int))), some (pI k)], s, none⟩ = .ok (.rt (vl (.int g))) ⟨[some (.pure (.xl (ns.map .int))), some (pI k)], s, none⟩ → f__law_cell [.pure (.xl (ns.map .int)), pI k] s = .ok (vl (.int g)) s := fun g e => fnM_rt e rfl (rlF_v _ _)
  by_cases h : (k : Int) < (ns.length : Int)
  · rw [decide_eq_true h] at t
    have hk : k < ns.length := by omega
    refine ⟨ns[k], fin _ ?_⟩
    refine ret_ok ?_
    unfold mIf
    rw [if_t t]
    refine m2_ok (mv_ok rfl) (mv_ok rfl) ?_
    simp [oIx, bd, seqOf, Ob.mo, atI_get, hk]
  · rw [decide_eq_false h] at t
    refine ⟨8111 * k + (cutL ns none (some 1)).sum % 1000003, fin _ ?_⟩
    refine ret_ok ?_
    unfold mIf
    rw [if_f t]
    have e2 : mSl (mv 0) pNone (bd (rt (vl (.int 1))) asInt) ⟨[some (.pure (.xl (ns.map .int))), some (pI k)], s, none⟩ = .ok (.new ((cutL ns none (some 1)).map fun i => FT.val (.pure (.int i)))) ⟨[some (.pure (.xl (ns.map .int))), some (pI k)], s, none⟩ := by
      unfold mSl
      rw [bd_ok (mv_ok rfl), bd_ok (m := pNone) (a := none) rfl, bd_ok (m := bd (rt (vl (.int 1))) asInt) (a := some 1) (st' := ⟨[some (.pure (.xl (ns.map .int))), some (pI k)], s, none⟩) rfl]
      show rt (nw (cutL (ns.map T.int) none (some 1))) _ = _
      rw [cutL_map, nw, List.map_map]
      rfl
    have e3 : bSum [.new ((cutL ns none (some 1)).map fun i => FT.val (.pure (.int i)))] ⟨[some (.pure (.xl (ns.map .int))), some (pI k)], s, none⟩ = .ok (vl (.int (cutL ns none (some 1)).sum)) ⟨[some (.pure (.xl (ns.map .int))), some (pI k)], s, none⟩ := by
      have p := purs_i (fun i => i) (cutL ns none (some 1))
      have n := nums_m (fun i => i) (cutL ns none (some 1))
      rw [List.map_id'] at n
      simp only [bSum, bd, lsqOf, lstOf, mpurs, p, n, Ob.mo, rt]
    exact m2_ok (m2_ok (a := rt (vl (.int 8111))) rfl (mv_ok rfl) (mul_ok (cMul_l (by decide)) _)) (m2_ok (int_ok (mCa_ok (aCons_ok e2 aNil_ok) e3)) rfl (mod_ok (by omega) _)) (add_ok _)
theorem box_ok {g : Int} (s : Store) : ∃ x, Bx 0 x ∧ f__law_box [pI g] s = .ok (.new (x.map FT.val)) s := by
  have ab : ∀ st : SS, st = ⟨[some (pI g)], s, none⟩ → mCa bAbs (aCons (mv 0) aNil) st = .ok (vl (.int (if g < 0 then -g else g))) st := by
    rintro st rfl
    exact mCa_ok (aCons_ok (mv_ok rfl) aNil_ok) rfl
  generalize ha : (if g < 0 then -g else g) = a at ab
  refine ⟨bxC a (decide ((10 : Int) ^ 18 ≤ a)) (a % 2147483629) 0, ⟨_, _, _, _, rfl, Int.emod_nonneg _ (by omega), Int.emod_lt_of_pos _ (by omega), by omega, by omega⟩, ?_⟩
  refine fnM_rt (st := ⟨[some (pI g)], s, none⟩) (ret_ok ?_) rfl (by simp [bxC, rlF, rlFs, rl])
  have pw : m2 oPow (rt (vl (.int 10))) (rt (vl (.int 18))) ⟨[some (pI g)], s, none⟩ = .ok (vl (.int ((10 : Int) ^ 18))) ⟨[some (pI g)], s, none⟩ := m2_ok rfl rfl (pow_ok (i := 10) (k := 18) (by decide) (by omega) _)
  have e := aCons_ok (ab _ rfl) (aCons_ok (m2_ok (op := oGeI) (ab _ rfl) pw rfl) (aCons_ok (m2_ok (int_ok (ab _ rfl)) (b := rt (vl (.int 2147483629))) rfl (mod_ok (by omega) _)) (aCons_ok (m := rt (vl (.int 0))) rfl aNil_ok)))
  unfold mLst
  show bd _ _ ⟨[some (pI g)], s, none⟩ = _
  rw [bd_ok e]
  rfl
end Ob.K00
/-! # Kn: the same values are the same -/
namespace Ob.K00
open PySem PySem.Spec PyProof.Rows L2 Ob

/-- values that _law_same serves, n levels deep -/
def okS : Nat → T → Bool
  | 0, _ => false
  | n + 1, .lst ts => decide (ts.length ≤ 1000) && ts.all (okS n)
  | n + 1, .tup ts => decide (ts.length ≤ 1000) && ts.all (okS n)
  | _ + 1, .str r => decide (r.length ≤ 1000)
  | _ + 1, .dct [] [] => true
  | _ + 1, .dct _ _ => false
  | _ + 1, .xl _ => false
  | _ + 1, _ => true
abbrev smS (t : T) (a b : Option VD) : SS := ⟨[some (.pure t), some (.pure t), a, b], [], none⟩
section
variable {t : T} {a b : Option VD}
theorem isi0 (c : Ty) : mIsi c (mv 0) (smS t a b) = .ok (vl (.bl (isa (tyT t) c))) (smS t a b) := rfl
theorem isi1 (c : Ty) : mIsi c (mv 1) (smS t a b) = .ok (vl (.bl (isa (tyT t) c))) (smS t a b) := rfl
theorem isn1 (h : t ≠ .non) : bd (m2 oIsN (mv 1) (rt (vl .non))) tb (smS t a b) = .ok false (smS t a b) := by
  cases t <;> first | rfl | exact absurd rfl h
theorem isT (i : Nat) (hi : i < 2) (cs : List Ty) : bd (mIsiT cs (mv i)) tru (smS t a b) = .ok (cs.any (isa (tyT t))) (smS t a b) := by
  match i, hi with
  | 0, _ => rfl
  | 1, _ => rfl
end
theorem same_go {n : Nat} {t : T} (h : m__law_same (f__law_same n) (smS t none none) = .ok (.rt (vl (.bl true))) (smS t none none)) : f__law_same (n + 1) [.pure t, .pure t] [] = .ok (vl (.bl true)) [] := by
  show fnM 4 (m__law_same (f__law_same n)) [.pure t, .pure t] [] = _
  exact fnM_rt h rfl (rlF_v _ _)
theorem eq_nil (s : SS) : oEq (.new []) (.new []) s = .ok (vl (.bl true)) s := rfl
theorem mAnd_t {ma mb : M FT} {st st1 : SS} (h : ma st = .ok (vl (.bl true)) st1) : mAnd ma mb st = mb st1 := by
  unfold mAnd
  rw [bd_ok h, bd_ok (m := tb (vl (.bl true))) (a := true) rfl, if_pos rfl]
theorem cut_one {r : List Nat} {k : Nat} (h : k < r.length) : cutL r (some (k : Int)) (some ((k : Int) + 1)) = [r.getD k 0] := by
  unfold cutL
  have e : ((k : Int) + 1) = ((k + 1 : Nat) : Int) := rfl
  rw [e, HT.sIx_nat, HT.sIx_nat, Nat.min_eq_left (by omega), Nat.min_eq_left (by omega), show k + 1 - k = 1 by omega, List.drop_eq_getElem_cons h, List.take_succ_cons, List.take_zero]
  simp [h]
theorem ne_s (x : List Nat) (s : SS) : oNe (vl (.str x)) (vl (.str x)) s = .ok (vl (.bl false)) s := by
  simp [oNe, bd, rd, rsF, rsV, okT, nd, dep, eqT, Ob.guard, rt]
theorem ne_i (x : Int) (s : SS) : oNe (vl (.int x)) (vl (.int x)) s = .ok (vl (.bl false)) s := by
  simp [oNe, bd, rd, rsF, rsV, okT, nd, dep, eqT, Ob.guard, rt]
theorem ne_b (x : Bool) (s : SS) : oNe (vl (.bl x)) (vl (.bl x)) s = .ok (vl (.bl false)) s := by
  simp [oNe, bd, rd, rsF, rsV, okT, nd, dep, eqT, Ob.guard, rt]
/-- a body whose test fails -/
theorem body_no {i : Nat} {tt : M Bool} {te : M FT} {vv : List Nat} {d : VD} {st st' : SS} (h : tt (({ st with d := wipeL st.d vv } : SS).put i d) = .ok false st') : lcBody (.nm i) tt te vv d st = .ok none { st' with d := st.d, x := st.x } := by
  unfold lcBody
  show (match tt (({ st with d := wipeL st.d vv } : SS).put i d) with | .ok false st3 => Res.ok none { st3 with d := st.d, x := st.x } | .ok true st3 => _ | _ => .stuck) = _
  rw [h]
theorem fm_none {α : Type} (l : List α) : l.filterMap (fun _ => (none : Option FT)) = [] := by
  induction l with
  | nil => rfl
  | cons x r ih => rw [List.filterMap_cons_none rfl, ih]
theorem c_same0 {r : List Nat} (h : r.length ≤ 1000) : c__law_same_0 (smS (.str r) none none) = .ok (.new []) (smS (.str r) none none) := by
  unfold c__law_same_0
  rw [lc_rng (n := (r.length : Int)) (fun _ => none) (aCons_ok (len_s (mv_ok rfl)) aNil_ok) (by omega) (by omega) (fun k hk => ?_), fm_none]
  have hk' : k < r.length := by omega
  have e1 : mSl (mv 0) (bd (mv 2) asInt) (bd (m2 oAdd (mv 2) (rt (vl (.int 1)))) asInt) (smS (.str r) (some (pI k)) none) = .ok (vl (.str [r.getD k 0])) (smS (.str r) (some (pI k)) none) := by
    unfold mSl
    rw [bd_ok (mv_ok rfl), bd_ok (m := bd (mv 2) asInt) (a := some (k : Int)) (st' := smS (.str r) (some (pI k)) none) rfl, bd_ok (m := bd (m2 oAdd (mv 2) (rt (vl (.int 1)))) asInt) (a := some ((k : Int) + 1)) (st' := smS (.str r) (some (pI k)) none) rfl]
    show rt (vl (.str (cutL r (some (k : Int)) (some ((k : Int) + 1))))) _ = _
    rw [cut_one hk']
    rfl
  have e2 : m2 oIx (mv 1) (mv 2) (smS (.str r) (some (pI k)) none) = .ok (vl (.str [r.getD k 0])) (smS (.str r) (some (pI k)) none) := by
    refine m2_ok (mv_ok rfl) (mv_ok rfl) ?_
    have e : atI r (k : Int) = some (r.getD k 0) := by rw [atI_get]; simp [hk']
    show bd (Ob.mo (atI r (k : Int))) _ _ = _
    rw [e]
    rfl
  rw [body_no (i := 2) (vv := [2]) (st := smS (.str r) none none) (tb_ok (m2_ok e1 e2 (ne_s _ _)))]
theorem rds2 (x y : T) (st : SS) (k : List T → M FT) : bd (rds [vl x, vl y]) k st = k [x, y] st := rfl
theorem goB_t {n : Nat} {x : T} {st : SS} (h : f__law_same n [.pure x, .pure x] [] = .ok (vl (.bl true)) []) : goB 2 (f__law_same n) [x, x] st = .ok (vl (.bl true)) st := by
  unfold goB
  rw [if_pos (show [x, x].length = 2 from rfl)]
  show (match f__law_same n [.pure x, .pure x] [] with | .ok f [] => if sfree f = true then Res.ok f st else .stuck | _ => .stuck) = _
  rw [h]
  rfl
theorem c_same1 {n : Nat} {t : T} {ts : List T} (ht : t = .lst ts ∨ t = .tup ts) (hz : ts.length ≤ 1000) (ih : ∀ x ∈ ts, f__law_same n [.pure x, .pure x] [] = .ok (vl (.bl true)) []) : c__law_same_1 (f__law_same n) (smS t none none) = .ok (.new []) (smS t none none) := by
  unfold c__law_same_1
  have hl : mCa bLenU (aCons (mv 1) aNil) (smS t none none) = .ok (vl (.int (ts.length : Int))) (smS t none none) := by
    refine mCa_ok (aCons_ok (mv_ok rfl) aNil_ok) ?_
    rcases ht with rfl | rfl <;> simp [bLenU, bLen, bd, seqOf, lstOf, rt]
  rw [lc_rng (n := (ts.length : Int)) (fun _ => none) (aCons_ok hl aNil_ok) (by omega) (by omega) (fun k hk => ?_), fm_none]
  have hk' : k < ts.length := by omega
  have at_ : ∀ i, (mv i (smS t (some (pI k)) none) = .ok (.val (.pure t)) (smS t (some (pI k)) none)) → m2 oIx (mv i) (mv 2) (smS t (some (pI k)) none) = .ok (vl ts[k]) (smS t (some (pI k)) none) := by
    intro i hi
    refine m2_ok hi (mv_ok rfl) ?_
    rcases ht with rfl | rfl <;> simp [oIx, bd, seqOf, lstOf, Ob.mo, atI_get, hk']
  have e : mCallB 2 (f__law_same n) (aCons (m2 oIx (mv 0) (mv 2)) (aCons (m2 oIx (mv 1) (mv 2)) aNil)) (smS t (some (pI k)) none) = .ok (vl (.bl true)) (smS t (some (pI k)) none) := by
    unfold mCallB
    rw [bd_ok (aCons_ok (at_ 0 (mv_ok rfl)) (aCons_ok (at_ 1 (mv_ok rfl)) aNil_ok)), rds2]
    exact goB_t (ih _ (List.getElem_mem hk'))
  have e2 : tNotM (bd (mCallB 2 (f__law_same n) (aCons (m2 oIx (mv 0) (mv 2)) (aCons (m2 oIx (mv 1) (mv 2)) aNil))) tru) (smS t (some (pI k)) none) = .ok false (smS t (some (pI k)) none) := by
    unfold tNotM
    rw [bd_ok (tru_b e)]
    rfl
  rw [body_no (i := 2) (vv := [2]) (st := smS t none none) e2]
theorem same_refl : ∀ (n : Nat) (t : T), okS n t = true → f__law_same n [.pure t, .pure t] [] = .ok (vl (.bl true)) []
  | 0, t, h => by unfold okS at h; cases h
  | n + 1, .non, h => same_go rfl
  | n + 1, .bl b, h => same_go (by cases b <;> rfl)
  | n + 1, .int i, h => same_go (by
    unfold m__law_same
    rw [sq_nx (if_fn (isn1 (by simp))), sq_nx (if_fn (tru_b (isi1 .bl)))]
    refine sq_rt ?_
    rw [if_t (tru_b (isi1 .int))]
    refine ret_ok ?_
    rw [mAnd_t (isi0 .int), mAnd_t (ma := mNot (mIsi .bl (mv 0))) (st1 := smS (.int i) none none) rfl]
    refine m2_ok (m2_ok (int_ok (mv_ok rfl)) (mv_ok rfl) (r := .ok (vl (.int (i - i))) _) rfl) rfl ?_
    rw [eq_i]
    simp)
  | n + 1, .str r, h => same_go (by
    have hr : r.length ≤ 1000 := of_decide_eq_true h
    unfold m__law_same
    rw [sq_nx (if_fn (isn1 (by simp))), sq_nx (if_fn (tru_b (isi1 .bl))), sq_nx (if_fn (tru_b (isi1 .int)))]
    refine sq_rt ?_
    rw [if_t (tru_b (isi1 .str))]
    refine ret_ok ?_
    have el : m2 oEq (mCa bLenU (aCons (mv 0) aNil)) (mCa bLenU (aCons (mv 1) aNil)) (smS (.str r) none none) = .ok (vl (.bl true)) (smS (.str r) none none) := by
      refine m2_ok (len_s (mv_ok rfl)) (len_s (mv_ok rfl)) ?_
      rw [eq_i]
      simp
    rw [mAnd_t (isi0 .str), mAnd_t el]
    exact m2_ok (c_same0 hr) (b := mLst aNil) rfl (eq_nil _))
  | n + 1, .dct [] [], h => same_go rfl
  | n + 1, .dct (_ :: _) _, h => by unfold okS at h; cases h
  | n + 1, .dct [] (_ :: _), h => by unfold okS at h; cases h
  | n + 1, .xl _, h => by unfold okS at h; cases h
  | n + 1, .lst ts, h => by
    unfold okS at h
    rw [Bool.and_eq_true] at h
    exact same_seq (.inl rfl) (of_decide_eq_true h.1) fun x hx => same_refl n x (List.all_eq_true.mp h.2 x hx)
  | n + 1, .tup ts, h => by
    unfold okS at h
    rw [Bool.and_eq_true] at h
    exact same_seq (.inr rfl) (of_decide_eq_true h.1) fun x hx => same_refl n x (List.all_eq_true.mp h.2 x hx)
where
  same_seq {n : Nat} {t : T} {ts : List T} (ht : t = .lst ts ∨ t = .tup ts) (hz : ts.length ≤ 1000) (ih : ∀ x ∈ ts, f__law_same n [.pure x, .pure x] [] = .ok (vl (.bl true)) []) : f__law_same (n + 1) [.pure t, .pure t] [] = .ok (vl (.bl true)) [] := same_go (by
    have nn : t ≠ .non := by rcases ht with rfl | rfl <;> simp
    have ty : ∀ c, c ≠ .lst → c ≠ .tup → isa (tyT t) c = false := by
      intro c h1 h2
      rcases ht with rfl | rfl <;> cases c <;> first | rfl | exact absurd rfl h1 | exact absurd rfl h2
    have is1 : ∀ c, c ≠ .lst → c ≠ .tup → bd (mIsi c (mv 1)) tru (smS t none none) = .ok false (smS t none none) := fun c h1 h2 => by rw [tru_b (isi1 c), ty c h1 h2]
    have tt : ([Ty.lst, Ty.tup].any (isa (tyT t))) = true := by rcases ht with rfl | rfl <;> rfl
    have hl : ∀ i, (mv i (smS t none none) = .ok (.val (.pure t)) (smS t none none)) → mCa bLenU (aCons (mv i) aNil) (smS t none none) = .ok (vl (.int (ts.length : Int))) (smS t none none) := by
      intro i hi
      refine mCa_ok (aCons_ok hi aNil_ok) ?_
      rcases ht with rfl | rfl <;> simp [bLenU, bLen, bd, seqOf, lstOf, rt]
    unfold m__law_same
    rw [sq_nx (if_fn (isn1 nn)), sq_nx (if_fn (is1 .bl (by simp) (by simp))), sq_nx (if_fn (is1 .int (by simp) (by simp))), sq_nx (if_fn (is1 .str (by simp) (by simp))), sq_nx (if_fn (is1 .dct (by simp) (by simp)))]
    have g1 : tOrM (tNotM (bd (mIsiT [.lst, .tup] (mv 1)) tru)) (tNotM (bd (mIsiT [.lst, .tup] (mv 0)) tru)) (smS t none none) = .ok false (smS t none none) := by
      have a1 := isT (t := t) (a := none) (b := none) 1 (by omega) [.lst, .tup]
      have a0 := isT (t := t) (a := none) (b := none) 0 (by omega) [.lst, .tup]
      rw [tt] at a1 a0
      have n1 : tNotM (bd (mIsiT [.lst, .tup] (mv 1)) tru) (smS t none none) = .ok false (smS t none none) := by unfold tNotM; rw [bd_ok a1]; rfl
      have n0 : tNotM (bd (mIsiT [.lst, .tup] (mv 0)) tru) (smS t none none) = .ok false (smS t none none) := by unfold tNotM; rw [bd_ok a0]; rfl
      unfold tOrM
      rw [bd_ok n1]
      exact n0
    have g2 : tOrM (bd (m2 oNe (mIsi .lst (mv 0)) (mIsi .lst (mv 1))) tb) (bd (m2 oNe (mCa bLenU (aCons (mv 0) aNil)) (mCa bLenU (aCons (mv 1) aNil))) tb) (smS t none none) = .ok false (smS t none none) := by
      unfold tOrM
      rw [bd_ok (tb_ok (m2_ok (isi0 .lst) (isi1 .lst) (ne_b _ _)))]
      exact tb_ok (m2_ok (hl 0 (mv_ok rfl)) (hl 1 (mv_ok rfl)) (ne_i _ _))
    rw [sq_nx (if_fn g1), sq_nx (if_fn g2)]
    exact ret_ok (m2_ok (c_same1 ht hz ih) (b := mLst aNil) rfl (eq_nil _)))
end Ob.K00
/-! # Ko: one row -/
namespace Ob.K00
open PySem PySem.Spec PyProof.Rows L2 Ob

theorem mCallK_ok {n nk : Nat} {pm : List Nat} {fm : FM} {ms : M (List FT)} {st st1 : SS} {fs : List FT} {r : Res FT} (h : ms st = .ok fs st1) (hl : fs.length = nk) (g : goC n fm (perm pm (fs.map fz)) st1 = r) : mCallK n nk pm fm ms st = r := by
  unfold mCallK
  have e : Ob.guard (decide (fs.length = nk)) st1 = .ok () st1 := by unfold Ob.guard; rw [if_pos (decide_eq_true hl)]
  rw [bd_ok h, bd_ok e]
  exact g
theorem set_new {i : Nat} {me : M FT} {st st1 : SS} {f : FT} {t : T} (h : me st = .ok f st1) (e : fz f = .pure t) : mSet 0 i me st = .ok .nx (st1.put i (.pure t)) := by
  unfold mSet
  rw [bd_ok h]
  show (bd (mAl 0 f) fun d st => Res.ok Fl.nx (st.put i d)) st1 = _
  unfold bd mAl alF
  simp only [e]
theorem callB_same {i j : Nat} {st : SS} {t : T} (hi : mv i st = .ok (vl t) st) (hj : mv j st = .ok (vl t) st) (ok : okS 4 t = true) : mCallB 2 (f__law_same 4) (aCons (mv i) (aCons (mv j) aNil)) st = .ok (vl (.bl true)) st := by
  unfold mCallB
  rw [bd_ok (aCons_ok hi (aCons_ok hj aNil_ok)), rds2]
  exact goB_t (same_refl 4 t ok)
theorem not_same {i j : Nat} {st : SS} {t : T} (hi : mv i st = .ok (vl t) st) (hj : mv j st = .ok (vl t) st) (ok : okS 4 t = true) : tNotM (bd (mCallB 2 (f__law_same 4) (aCons (mv i) (aCons (mv j) aNil))) tru) st = .ok false st := by
  unfold tNotM
  rw [bd_ok (tru_b (callB_same hi hj ok))]
  rfl
theorem okS_n : ∀ (n : Nat) (l : List Nat), (l.map nT).all (okS (n + 1)) = true
  | n, [] => rfl
  | n, x :: r => by rw [List.map_cons, List.all_cons, okS_n n r]; rfl
theorem okS_el {n : Nat} {l : List Nat} (h : l.length ≤ 8) : okS (n + 2) (el l) = true := by
  have h' : decide ((l.map nT).length ≤ 1000) = true := decide_eq_true (by rw [List.length_map]; omega)
  unfold okS
  rw [h', okS_n n l]
  rfl
theorem okS_s {n : Nat} {r : List Nat} (h : r.length ≤ 8) : okS (n + 1) (.str r) = true := by
  unfold okS
  exact decide_eq_true (by omega)
theorem plR_len {r q : List Nat} (h : r.length ≤ 8) : (plR r q).length ≤ 8 := Nat.le_trans (len_el plR_lt (plR_pw r q)) h
/-! ### _law_at -/
theorem c_at {r q : List Nat} {s : Store} (h : r.length ≤ 8) : c__law_at_0 ⟨[some (.pure (.str r)), some (.pure (.str q)), none], s, none⟩ = .ok (.new ((plR r q).map fun k => FT.val (.pure (nT k)))) ⟨[some (.pure (.str r)), some (.pure (.str q)), none], s, none⟩ := by
  unfold c__law_at_0
  rw [lc_rng (n := (r.length : Int)) (fun k => if decide (r.getD k 0 ∈ q) = true then some (vl (nT k)) else none) (aCons_ok (len_s (mv_ok rfl)) aNil_ok) (by omega) (by omega) (fun k hk => ?_), plR, ← fm_if]
  · rfl
  · have hk' : k < r.length := by omega
    have e1 : m2 oIx (mv 0) (mv 2) ⟨[some (.pure (.str r)), some (.pure (.str q)), some (pI k)], s, none⟩ = .ok (vl (.str [r.getD k 0])) ⟨[some (.pure (.str r)), some (.pure (.str q)), some (pI k)], s, none⟩ := by
      refine m2_ok (mv_ok rfl) (mv_ok rfl) ?_
      have e : atI r (k : Int) = some (r.getD k 0) := by rw [atI_get]; simp [hk']
      show bd (Ob.mo (atI r (k : Int))) _ _ = _
      rw [e]
      rfl
    have e2 : bd (m2 (oIn false) (m2 oIx (mv 0) (mv 2)) (mv 1)) tb ⟨[some (.pure (.str r)), some (.pure (.str q)), some (pI k)], s, none⟩ = .ok (decide (r.getD k 0 ∈ q)) ⟨[some (.pure (.str r)), some (.pure (.str q)), some (pI k)], s, none⟩ := tb_ok (m2_ok e1 (mv_ok rfl) rfl)
    unfold lcBody
    show (match bd (m2 (oIn false) (m2 oIx (mv 0) (mv 2)) (mv 1)) tb ⟨[some (.pure (.str r)), some (.pure (.str q)), some (pI k)], s, none⟩ with | .ok false st3 => _ | .ok true st3 => _ | _ => _) = _
    rw [e2]
    by_cases hq : r.getD k 0 ∈ q
    · rw [decide_eq_true hq]; rfl
    · rw [decide_eq_false hq]; rfl
theorem at_ok {r q : List Nat} {s : Store} (h : r.length ≤ 8) : f__law_at [.pure (.str r), .pure (.str q)] s = .ok (vl (el (plR r q))) s :=
  fnM_rt (st := ⟨[some (.pure (.str r)), some (.pure (.str q)), none], s, none⟩) (ret_ok (mCa_ok (aCons_ok (c_at h) aNil_ok) (bTup_map nT _ _))) rfl (rlF_v _ _)
/-! ### _law_one_right -/
abbrev orS (y : Cell) (row : List Nat) (b : Bool) (a3 a4 a5 a6 a7 a8 a9 : Option VD) (r : Store) : SS := boxSt [some (.cell 0), some (.pure (.str row)), some (.pure (.bl b)), a3, a4, a5, a6, a7, a8, a9, none, none] y r
def due1 (row : List Nat) : T := .lst [el (plR row [43]), el (plR row [45]), el (plR row [48]), el (plR row [43, 45]), .str (row.map ng)]
theorem okS_due1 {row : List Nat} (h : Row row) : okS 4 (due1 row) = true := by
  have l := h.b
  have e : ∀ q, okS 3 (el (plR row q)) = true := fun q => okS_el (n := 1) (plR_len l)
  have e2 : okS 3 (.str (row.map ng)) = true := okS_s (n := 2) (by rw [List.length_map]; exact l)
  unfold due1 okS
  simp only [List.all_cons, List.all_nil, e, e2, List.length_cons, List.length_nil]
  rfl
/-- members drawn -/
theorem sel_ok {x : Cell} {row : List Nat} {b : Bool} {a3 a4 a6 : Option VD} {r : Store} {c k : Nat} (hk : k ≤ 8) (hx : Bx c x) (hc : c + 100 ≤ 1000000) :
    ∃ (l : List Nat) (y : Cell), l.Pairwise (· < ·) ∧ (∀ j ∈ l, j < k) ∧ Bx (c + 8) y ∧ c__law_one_right_1 (orS x row b a3 a4 (some (pI k)) a6 none none none r) = .ok (.new (l.map fun k => FT.val (.pure (nT k)))) (orS y row b a3 a4 (some (pI k)) a6 none none none r) := by
  obtain ⟨acc, st', e, hI⟩ := lc_inv (src := bd (aCons (mv 5) aNil) mRng1) (t := .nm 11) (tt := bd (m2 oEq (mCall 2 f__law_take (aCons (mv 0) (aCons (rt (vl (.int 2))) aNil))) (rt (vl (.int 0)))) tb) (te := mv 11) (vs := [11]) (sr := .rng 0 k) (ds := (List.range k).map fun i => .pure (.int (0 + (i : Nat)))) (st := orS x row b a3 a4 (some (pI k)) a6 none none none r) (st1 := orS x row b a3 a4 (some (pI k)) a6 none none none r)
    (I := fun (i : Nat) (st : SS) (acc : List FT) => i ≤ k ∧ ∃ (l : List Nat) (y : Cell), st = orS y row b a3 a4 (some (pI k)) a6 none none none r ∧ acc = l.map (fun k => FT.val (.pure (nT k))) ∧ l.Pairwise (· < ·) ∧ (∀ j ∈ l, j < i) ∧ Bx (c + i) y)
    (rng_src (me := mv 5) (mv_ok rfl) (by omega)) ⟨Nat.zero_le _, [], x, rfl, rfl, .nil, by simp, by simpa using hx⟩ (by simp; exact lim8 hk)
    (fun i st acc ⟨_, l, y, e1, e2, e3, e4, _⟩ => ⟨by rw [e1]; rfl, by rw [e2, List.length_map]; exact len_el e4 e3⟩)
    (fun i st acc d hd ⟨hle, l, y, e1, e2, e3, e4, e5⟩ => by
      have hlt := get_lt hd
      rw [List.length_map, List.length_range] at hlt
      rw [List.getElem?_map, List.getElem?_range hlt] at hd
      have hd' : d = .pure (.int (i : Int)) := by
        have := Option.some.inj hd
        rw [← this]
        show VD.pure (.int (0 + (i : Int))) = _
        rw [Int.zero_add]
      subst hd' e1
      obtain ⟨u, y', u0, u1, hy', et⟩ := take_call (D := [some (.cell 0), some (.pure (.str row)), some (.pure (.bl b)), a3, a4, some (pI k), a6, none, none, none, none, some (pI i)]) (i := 0) (r := r) (k := 2) (me := rt (vl (.int 2))) rfl rfl e5 (by omega) (by omega) (by omega)
      have tt := tb_ok (m2_ok (b := rt (vl (.int 0))) et rfl (eq_i _ _ _))
      by_cases hu : u = 0
      · subst hu
        refine ⟨some (vl (nT i)), orS y' row b a3 a4 (some (pI k)) a6 none none none r, ?_, hlt, l ++ [i], y', rfl, by rw [e2, List.map_append]; rfl, ?_, ?_, hy'⟩
        · unfold lcBody
          show (match bd (m2 oEq (mCall 2 f__law_take (aCons (mv 0) (aCons (rt (vl (.int 2))) aNil))) (rt (vl (.int 0)))) tb (boxSt [some (.cell 0), some (.pure (.str row)), some (.pure (.bl b)), a3, a4, some (pI k), a6, none, none, none, none, some (pI i)] y r) with | .ok false st3 => _ | .ok true st3 => _ | _ => _) = _
          rw [tt]
          rfl
        · rw [List.pairwise_append]
          exact ⟨e3, by simp, fun a ha b hb => by rw [List.mem_singleton.mp hb]; exact e4 a ha⟩
        · intro j hj
          rcases List.mem_append.mp hj with h | h
          · have := e4 j h; omega
          · rw [List.mem_singleton.mp h]; omega
      · have hf : (u == 0) = false := by simpa using hu
        rw [hf] at tt
        refine ⟨none, orS y' row b a3 a4 (some (pI k)) a6 none none none r, ?_, hlt, l, y', rfl, by rw [e2]; simp, e3, fun j hj => by have := e4 j hj; omega, hy'⟩
        rw [body_no (i := 11) (vv := [11]) (d := .pure (.int (i : Int))) (st := orS y row b a3 a4 (some (pI k)) a6 none none none r) tt])
  obtain ⟨_, l, y, e1, e2, e3, e4, e5⟩ := hI
  rw [List.length_map, List.length_range] at e4 e5
  exact ⟨l, y, e3, e4, e5.mono (by omega), by unfold c__law_one_right_1; rw [e, e1, e2]⟩
theorem ix_str {m mi : M FT} {st st1 st2 : SS} {row : List Nat} {k : Nat} (h : m st = .ok (vl (.str row)) st1) (hi : mi st1 = .ok (vl (.int (k : Int))) st2) (hk : k < row.length) : m2 oIx m mi st = .ok (vl (.str [row.getD k 0])) st2 := by
  refine m2_ok h hi ?_
  have e : atI row (k : Int) = some (row.getD k 0) := by rw [atI_get]; simp [hk]
  show bd (Ob.mo (atI row (k : Int))) _ _ = _
  rw [e]
  rfl
section
variable {y : Cell} {row l : List Nat} {b : Bool} {a3 a4 a6 a8 a9 : Option VD} {r : Store}
theorem c_one2 (h : Row row) : c__law_one_right_2 (orS y row b a3 a4 (some (pI (row.length : Nat))) a6 (some (.pure (el l))) none none r) = .ok (.new ((List.range row.length).map fun k => FT.val (.pure (.str [if k ∈ l then ng (row.getD k 0) else row.getD k 0])))) (orS y row b a3 a4 (some (pI (row.length : Nat))) a6 (some (.pure (el l))) none none r) := by
  unfold c__law_one_right_2
  have hb := h.b
  rw [lc_rng (n := (row.length : Int)) (fun k => some (vl (.str [if k ∈ l then ng (row.getD k 0) else row.getD k 0]))) (aCons_ok (mv_ok rfl) aNil_ok) (by omega) (by omega) (fun k hk => ?_), fm_some]
  · rfl
  · have hk' : k < row.length := by omega
    have e1 : m2 oIx (mv 1) (mv 11) (boxSt [some (.cell 0), some (.pure (.str row)), some (.pure (.bl b)), a3, a4, some (pI (row.length : Nat)), a6, some (.pure (el l)), none, none, none, some (pI k)] y r) = _ := ix_str (mv_ok rfl) (mv_ok rfl) hk'
    have e2 : bd (m2 (oIn false) (mv 11) (mv 7)) tb (boxSt [some (.cell 0), some (.pure (.str row)), some (.pure (.bl b)), a3, a4, some (pI (row.length : Nat)), a6, some (.pure (el l)), none, none, none, some (pI k)] y r) = .ok (decide (k ∈ l)) _ := tb_ok (m2_ok (mv_ok rfl) (mv_ok rfl) (oIn_n k l _))
    refine body_nm (i := 11) (vv := [11]) (d := pI k) (st := orS y row b a3 a4 (some (pI (row.length : Nat))) a6 (some (.pure (el l))) none none r) (f := vl (.str [if k ∈ l then ng (row.getD k 0) else row.getD k 0])) (st' := boxSt [some (.cell 0), some (.pure (.str row)), some (.pure (.bl b)), a3, a4, some (pI (row.length : Nat)), a6, some (.pure (el l)), none, none, none, some (pI k)] y r) ?_
    show mIf _ _ _ (boxSt [some (.cell 0), some (.pure (.str row)), some (.pure (.bl b)), a3, a4, some (pI (row.length : Nat)), a6, some (.pure (el l)), none, none, none, some (pI k)] y r) = _
    unfold mIf
    by_cases hl : k ∈ l
    · rw [decide_eq_true hl] at e2
      rw [if_t e2, if_pos hl]
      exact neg_pick (h.at hk') e1
    · rw [decide_eq_false hl] at e2
      rw [if_f e2, if_neg hl]
      exact e1
theorem c_one3 (h : Row row) (hl : ∀ k ∈ l, k < row.length) (hz : l.length ≤ 8) : c__law_one_right_3 (orS y row b a3 a4 (some (pI (row.length : Nat))) a6 (some (.pure (el l))) a8 none r) = .ok (.new (l.map fun k => FT.val (.pure (.str [row.getD k 0])))) (orS y row b a3 a4 (some (pI (row.length : Nat))) a6 (some (.pure (el l))) a8 none r) := by
  unfold c__law_one_right_3
  rw [lc_one (u := el l) (ts := l.map nT) (fun t => some (vl (.str [row.getD (toI t).toNat 0]))) (mv_ok rfl) rfl (fun t ht => ?_) (by rw [List.length_map]; exact lim8 hz), filterMap_map', fm_some]
  · rfl
  · obtain ⟨k, hk, rfl⟩ := List.mem_map.mp ht
    exact body_nm (i := 11) (vv := [11]) (d := pI k) (st := orS y row b a3 a4 (some (pI (row.length : Nat))) a6 (some (.pure (el l))) a8 none r) (ix_str (mv_ok rfl) (mv_ok rfl) (hl k hk))
end
theorem row_back {row : List Nat} (h : Row row) : ((List.range row.length).map fun k => sg ((if k ∈ plR row [43] then 1 else 0) - (if k ∈ plR row [45] then 1 else 0))) = row := by
  have e : row = (List.range row.length).map fun k => row.getD k 0 := by
    apply List.ext_getElem
    · simp
    · intro i h1 h2
      simp [h1]
  conv => rhs; rw [e]
  apply List.map_congr_left
  intro k hk
  have hk' := List.mem_range.mp hk
  have hs := sgn_or (h.at hk')
  have m1 : k ∈ plR row [43] ↔ row.getD k 0 = 43 := by rw [mem_plR]; simp [hk']
  have m2 : k ∈ plR row [45] ↔ row.getD k 0 = 45 := by rw [mem_plR]; simp [hk']
  rcases hs with e | e | e
  · rw [if_pos (m1.mpr e), if_neg fun z => by have := m2.mp z; omega, e]; rfl
  · rw [if_neg fun z => by have := m1.mp z; omega, if_pos (m2.mpr e), e]; rfl
  · rw [if_neg fun z => by have := m1.mp z; omega, if_neg fun z => by have := m2.mp z; omega, e]; rfl
theorem row_of_row {row : List Nat} {s : Store} (h : Row row) : f_row_of [pI (row.length : Nat), .pure (el (plR row [43])), .pure (el (plR row [45]))] s = .ok (vl (.str row)) s := by
  have := row_of_ok (s := s) h.a h.b (p := plR row [43]) (m := plR row [45]) plR_lt (plR_pw _ _) plR_lt (plR_pw _ _) fun k h1 h2 => by
    have e1 := (mem_plR.mp h1).2
    have e2 := (mem_plR.mp h2).2
    simp at e1 e2
    omega
  rw [row_back h] at this
  exact this
theorem to_st {m : M Fl} {st st1 : SS} (st2 : SS) (h : m st = .ok .nx st1) (e : st1 = st2) : m st = .ok .nx st2 := e ▸ h
theorem rt_ok {α : Type} {f : α} {st : SS} : (rt f : M α) st = .ok f st := rfl
theorem one_ok {c : Nat} {x : Cell} {row : List Nat} {b : Bool} {r : Store} (h : Row row) (hx : Bx c x) (hc : c + 200 ≤ 1000000) : ∃ y : Cell, Bx (c + 8) y ∧ f__law_one_right [.cell 0, .pure (.str row), .pure (.bl b)] (some x :: r) = .ok (vl (.bl true)) (some y :: r) := by
  have hb := h.b
  obtain ⟨l, y, lp, ll, hy, el1⟩ := sel_ok (x := x) (row := row) (b := b) (a3 := some (.pure (due1 row))) (a4 := some (.pure (due1 row))) (a6 := some (.pure (.str row))) (r := r) (k := row.length) hb hx (by omega)
  have lz : l.length ≤ 8 := Nat.le_trans (len_el ll lp) hb
  refine ⟨y, hy, ?_⟩
  have pc : ∀ {fm : FM} {st : SS} {ms : M (List FT)} {q : List Nat} {f : FT}, ms st = .ok [vl (.str row), vl (.str q)] st → fm [.pure (.str row), .pure (.str q)] [] = .ok f [] → mCall 2 fm ms st = .ok f st := fun h g => mCall_ok h (goC_pure (ts := [.str row, .str _]) rfl g)
  have p1 : ∀ {fm : FM} {st : SS} {f : FT}, mv 1 st = .ok (vl (.str row)) st → fm [.pure (.str row)] [] = .ok f [] → mCall 1 fm (aCons (mv 1) aNil) st = .ok f st := fun h g => mCall_ok (aCons_ok h aNil_ok) (goC_pure (ts := [.str row]) rfl g)
  have k1 : ∀ {fm : FM} {st : SS} {f : FT}, mv 1 st = .ok (vl (.str row)) st → fm [.pure (.str row)] [] = .ok f [] → mCallK 1 1 [0] fm (aCons (mv 1) aNil) st = .ok f st := fun h g => mCallK_ok (aCons_ok h aNil_ok) rfl (goC_pure (ts := [.str row]) rfl g)
  have t : ∀ q, T.tup (places row q) = el (plR row q) := places_el row
  let S0 := orS x row b none none none none none none none r
  let S1 := orS x row b (some (.pure (due1 row))) none none none none none none r
  let S2 := orS x row b (some (.pure (due1 row))) (some (.pure (due1 row))) none none none none none r
  let S3 := orS x row b (some (.pure (due1 row))) (some (.pure (due1 row))) (some (pI (row.length : Nat))) none none none none r
  let S4 := orS x row b (some (.pure (due1 row))) (some (.pure (due1 row))) (some (pI (row.length : Nat))) (some (.pure (.str row))) none none none r
  let S5 := orS y row b (some (.pure (due1 row))) (some (.pure (due1 row))) (some (pI (row.length : Nat))) (some (.pure (.str row))) (some (.pure (el l))) none none r
  let S6 := orS y row b (some (.pure (due1 row))) (some (.pure (due1 row))) (some (pI (row.length : Nat))) (some (.pure (.str row))) (some (.pure (el l))) (some (.pure (.str (tuR row l)))) none r
  let S7 := orS y row b (some (.pure (due1 row))) (some (.pure (due1 row))) (some (pI (row.length : Nat))) (some (.pure (.str row))) (some (.pure (el l))) (some (.pure (.str (tuR row l)))) (some (.pure (.str (paR row l)))) r
  let D2 : T := .lst [.str (tuR row l), .str (paR row l)]
  let S8 := orS y row b (some (.pure (due1 row))) (some (.pure D2)) (some (pI (row.length : Nat))) (some (.pure (.str row))) (some (.pure (el l))) (some (.pure (.str (tuR row l)))) (some (.pure (.str (paR row l)))) r
  have c0 : c__law_one_right_0 S0 = .ok (.new (row.map fun c => FT.val (.pure (.str [ng c])))) S0 := lc_sg ng h (mv_ok rfl) fun c hc => neg_pick hc (mv_ok rfl)
  have lst : ∀ {ms : M (List FT)} {st : SS} {fs : List FT}, ms st = .ok fs st → decide (fs.length ≤ lim) = true → mLst ms st = .ok (.new fs) st := fun h g => by
    unfold mLst
    rw [bd_ok h]
    unfold bd Ob.guard
    rw [if_pos g]
    rfl
  have s1 := to_st S1 (set_new (i := 3) (t := due1 row) (lst (aCons_ok (pc (q := [43]) (aCons_ok (mv_ok (i := 1) (st := S0) rfl) (aCons_ok rt_ok aNil_ok)) (at_ok hb)) (aCons_ok (pc (q := [45]) (aCons_ok (mv_ok (i := 1) rfl) (aCons_ok rt_ok aNil_ok)) (at_ok hb)) (aCons_ok (pc (q := [48]) (aCons_ok (mv_ok (i := 1) rfl) (aCons_ok rt_ok aNil_ok)) (at_ok hb)) (aCons_ok (pc (q := [43, 45]) (aCons_ok (mv_ok (i := 1) rfl) (aCons_ok rt_ok aNil_ok)) (at_ok hb)) (aCons_ok (mMs_ok rt_ok rfl (aCons_ok c0 aNil_ok) (join_new _ _ _ h.lim)) aNil_ok))))) rfl) rfl) rfl
  have e4 : fz (.new [vl (.tup (places row [43])), vl (.tup (places row [45])), vl (.tup (places row [48])), vl (.tup (places row [43, 45])), vl (.str (row.map ng))]) = .pure (due1 row) := by
    rw [t, t, t, t]
    rfl
  have s2 := to_st S2 (set_new (i := 4) (lst (aCons_ok (p1 (mv_ok (i := 1) (st := S1) rfl) (plus_ok h)) (aCons_ok (p1 (mv_ok (i := 1) rfl) (minus_ok h)) (aCons_ok (p1 (mv_ok (i := 1) rfl) (zero_ok h)) (aCons_ok (p1 (mv_ok (i := 1) rfl) (supp_ok h)) (aCons_ok (p1 (mv_ok (i := 1) rfl) (opp_ok h)) aNil_ok))))) rfl) e4) rfl
  have s3 := to_st S2 (set_new (i := 4) (lst (aCons_ok (k1 (mv_ok (i := 1) (st := S2) rfl) (plus_ok h)) (aCons_ok (k1 (mv_ok (i := 1) rfl) (minus_ok h)) (aCons_ok (k1 (mv_ok (i := 1) rfl) (zero_ok h)) (aCons_ok (k1 (mv_ok (i := 1) rfl) (supp_ok h)) (aCons_ok (k1 (mv_ok (i := 1) rfl) (opp_ok h)) aNil_ok))))) rfl) e4) rfl
  have s3' : (bd (bd (mv 2) tru) fun k => if k = true then (mSet 0 4 (mLst (aCons (mCallK 1 1 [0] f_plus_set (aCons (mv 1) aNil)) (aCons (mCallK 1 1 [0] f_minus_set (aCons (mv 1) aNil)) (aCons (mCallK 1 1 [0] f_zero_set (aCons (mv 1) aNil)) (aCons (mCallK 1 1 [0] f_support (aCons (mv 1) aNil)) (aCons (mCallK 1 1 [0] f_opposite (aCons (mv 1) aNil)) aNil))))))) else sNext) S2 = .ok .nx S2 := by
    have tb : bd (mv 2) tru S2 = .ok b S2 := rfl
    rw [bd_ok tb]
    cases b with
    | true => exact s3
    | false => rfl
  have s4 : mSet 0 5 (mCa bLenU (aCons (mv 1) aNil)) S2 = .ok .nx S3 := set_ok (len_s (mv_ok rfl))
  have i0 : m2 oIx (mv 3) (rt (vl (.int 0))) S3 = .ok (vl (el (plR row [43]))) S3 := rfl
  have i1 : m2 oIx (mv 3) (rt (vl (.int 1))) S3 = .ok (vl (el (plR row [45]))) S3 := rfl
  have gr : ∀ st : SS, goC 3 f_row_of [pI (row.length : Nat), .pure (el (plR row [43])), .pure (el (plR row [45]))] st = .ok (vl (.str row)) st := fun st => goC_pure (ts := [.int (row.length : Nat), el (plR row [43]), el (plR row [45])]) rfl (row_of_row h)
  have s5 : mSet 0 6 (mIf (bd (mv 2) tru) (mCallK 3 3 [2, 1, 0] f_row_of (aCons (m2 oIx (mv 3) (rt (vl (.int 1)))) (aCons (m2 oIx (mv 3) (rt (vl (.int 0)))) (aCons (mv 5) aNil)))) (mCall 3 f_row_of (aCons (mv 5) (aCons (m2 oIx (mv 3) (rt (vl (.int 0)))) (aCons (m2 oIx (mv 3) (rt (vl (.int 1)))) aNil))))) S3 = .ok .nx S4 := by
    refine set_ok (st1 := S3) (t := .str row) ?_
    have tb : bd (mv 2) tru S3 = .ok b S3 := rfl
    unfold mIf
    rw [bd_ok tb]
    cases b with
    | true => exact mCallK_ok (aCons_ok i1 (aCons_ok i0 (aCons_ok (mv_ok rfl) aNil_ok))) rfl (gr _)
    | false => exact mCall_ok (aCons_ok (mv_ok rfl) (aCons_ok i0 (aCons_ok i1 aNil_ok))) (gr _)
  have s6 : mSet 0 7 (mCa bTup (aCons c__law_one_right_1 aNil)) S4 = .ok .nx S5 := set_ok (mCa_ok (aCons_ok el1 aNil_ok) (bTup_map nT _ _))
  have s7 : mSet 0 8 (mMs oJoin (rt (vl (.str []))) (aCons c__law_one_right_2 aNil)) S5 = .ok .nx S6 := set_ok (mMs_ok rt_ok rfl (aCons_ok (c_one2 h) aNil_ok) (join_new _ _ _ (by rw [List.length_range]; exact h.lim)))
  have s8 : mSet 0 9 (mMs oJoin (rt (vl (.str []))) (aCons c__law_one_right_3 aNil)) S6 = .ok .nx S7 := set_ok (mMs_ok rt_ok rfl (aCons_ok (c_one3 h ll lz) aNil_ok) (join_new _ _ _ (lim8 lz)))
  have gt : ∀ st : SS, goC 2 f_turned_row [.pure (.str row), .pure (el l)] st = .ok (vl (.str (tuR row l))) st := fun st => goC_pure (ts := [.str row, el l]) rfl (turned_ok h ll lp)
  have gp : ∀ st : SS, goC 2 f_part_of [.pure (.str row), .pure (el l)] st = .ok (vl (.str (paR row l))) st := fun st => goC_pure (ts := [.str row, el l]) rfl (part_ok h ll lp)
  have s9 : mSet 0 4 (mIf (bd (mv 2) tru) (mLst (aCons (mCallK 2 2 [1, 0] f_turned_row (aCons (mv 7) (aCons (mv 1) aNil))) (aCons (mCallK 2 2 [1, 0] f_part_of (aCons (mv 7) (aCons (mv 1) aNil))) aNil))) (mLst (aCons (mCall 2 f_turned_row (aCons (mv 1) (aCons (mv 7) aNil))) (aCons (mCall 2 f_part_of (aCons (mv 1) (aCons (mv 7) aNil))) aNil)))) S7 = .ok .nx S8 := by
    refine set_new (st1 := S7) (f := .new [vl (.str (tuR row l)), vl (.str (paR row l))]) ?_ rfl
    have tb : bd (mv 2) tru S7 = .ok b S7 := rfl
    unfold mIf
    rw [bd_ok tb]
    cases b with
    | true => exact lst (aCons_ok (mCallK_ok (aCons_ok (mv_ok rfl) (aCons_ok (mv_ok rfl) aNil_ok)) rfl (gt _)) (aCons_ok (mCallK_ok (aCons_ok (mv_ok rfl) (aCons_ok (mv_ok rfl) aNil_ok)) rfl (gp _)) aNil_ok)) rfl
    | false => exact lst (aCons_ok (mCall_ok (aCons_ok (mv_ok rfl) (aCons_ok (mv_ok rfl) aNil_ok)) (gt _)) (aCons_ok (mCall_ok (aCons_ok (mv_ok rfl) (aCons_ok (mv_ok rfl) aNil_ok)) (gp _)) aNil_ok)) rfl
  have okD2 : okS 4 D2 = true := by
    have e1 : okS 3 (.str (tuR row l)) = true := okS_s (n := 2) (by unfold tuR; rw [List.length_map, List.length_range]; exact hb)
    have e2 : okS 3 (.str (paR row l)) = true := okS_s (n := 2) (by unfold paR; rw [List.length_map]; exact lz)
    show (decide _ && List.all _ (okS 3)) = true
    simp only [List.all_cons, List.all_nil, e1, e2, List.length_cons, List.length_nil]
    rfl
  have e9 : mCallB 2 (f__law_same 4) (aCons (mv 4) (aCons (mLst (aCons (mv 8) (aCons (mv 9) aNil))) aNil)) S8 = .ok (vl (.bl true)) S8 := by
    unfold mCallB
    rw [bd_ok (aCons_ok (mv_ok (d := .pure D2) rfl) (aCons_ok (lst (aCons_ok (mv_ok rfl) (aCons_ok (mv_ok rfl) aNil_ok)) rfl) aNil_ok))]
    have e : ∀ k : List T → M FT, bd (rds [vl D2, .new [vl (.str (tuR row l)), vl (.str (paR row l))]]) k S8 = k [D2, D2] S8 := fun k => rfl
    rw [e]
    exact goB_t (same_refl 4 D2 okD2)
  refine fnM_box (st := S8) ?_ rfl rfl (rlF_v _ _)
  show m__law_one_right S0 = _
  unfold m__law_one_right
  rw [sq_nx s1, sq_nx s2, sq_nx s3', sq_nx (if_fn (not_same (mv_ok rfl) (mv_ok rfl) (okS_due1 h))), sq_nx s4, sq_nx s5, sq_nx (if_fn (not_same (mv_ok rfl) (mv_ok rfl) (okS_s hb))), sq_nx s6, sq_nx s7, sq_nx s8, sq_nx s9]
  exact ret_ok e9
end Ob.K00
/-! # Kp: two rows -/
namespace Ob.K00
open PySem PySem.Spec PyProof.Rows L2 Ob

theorem body_tp {i j : Nat} {te : M FT} {vv : List Nat} {x y : T} {st st' : SS} {f : FT} (h : te (putAll [i, j] [.pure x, .pure y] ({ st with d := wipeL st.d vv } : SS)) = .ok f st') : lcBody (.tup [i, j]) (rt true) te vv (.pure (.tup [x, y])) st = .ok (some f) { st' with d := st.d, x := st.x } := by
  unfold lcBody
  show (match te (putAll [i, j] [.pure x, .pure y] ({ st with d := wipeL st.d vv } : SS)) with | .ok f st4 => Res.ok (some f) { st4 with d := st.d, x := st.x } | _ => .stuck) = _
  rw [h]
theorem body_tq {i j : Nat} {te : M FT} {vv : List Nat} {x y : T} {st : SS} {f : FT} (h : te (putAll [i, j] [.pure x, .pure y] ({ st with d := wipeL st.d vv } : SS)) = .ok f (putAll [i, j] [.pure x, .pure y] ({ st with d := wipeL st.d vv } : SS))) : lcBody (.tup [i, j]) (rt true) te vv (.pure (.tup [x, y])) st = .ok (some f) st := (body_tp h).trans rfl
theorem lc_two2 {r q : List Nat} {i j : Nat} {tt : M Bool} {te : M FT} {vv : List Nat} {st : SS} (m0 : mv 0 st = .ok (vl (.str r)) st) (m1 : mv 1 st = .ok (vl (.str q)) st) (g : Nat → Nat → FT) (h : Row r) (k : Row q) (hb : ∀ a b : Nat, sgn a = true → sgn b = true → lcBody (.tup [i, j]) tt te vv (.pure (.tup [.str [a], .str [b]])) st = .ok (some (g a b)) st) :
    mLc (bd (aCons (mv 0) (aCons (mv 1) aNil)) mZip) (.tup [i, j]) tt te vv st = .ok (.new ((List.zip r q).map fun p => g p.1 p.2)) st := by
  rw [lc_zp (u1 := .str r) (u2 := .str q) (xs := chs r) (ys := chs q) (fun x y => match x, y with | .str [a], .str [b] => some (g a b) | _, _ => none) (aCons_ok m0 (aCons_ok m1 aNil_ok)) (.inl rfl) (.inl rfl) rfl rfl (fun i x y hx hy => ?_) (by rw [chs, List.length_map]; exact h.lim), zip_chs2, filterMap_map', fm_some]
  obtain ⟨a, ha, rfl⟩ := List.mem_map.mp (List.mem_of_getElem? hx)
  obtain ⟨b, hb2, rfl⟩ := List.mem_map.mp (List.mem_of_getElem? hy)
  exact hb a b (List.all_eq_true.mp h.c a ha) (List.all_eq_true.mp k.c b hb2)
theorem sub_ok {i k : Int} (s : SS) : oSub (vl (.int i)) (vl (.int k)) s = .ok (vl (.int (i - k))) s := rfl
theorem idx1 {m : M FT} {st st' : SS} {c : Nat} (h : sgn c = true) (e : m st = .ok (vl (.str [c])) st') : m2 oSub (mMs oIdx (rt (vl (.str [45, 48, 43]))) (aCons m aNil)) (rt (vl (.int 1))) st = .ok (vl (.int (vs c))) st' := by
  refine m2_ok (mMs_ok rt_ok rfl (aCons_ok e aNil_ok) (idx_b h _)) rt_ok ?_
  rw [sub_ok]
  congr 3
  omega
theorem lawprod_ok {r q : List Nat} {s : Store} (h : Row r) (k : Row q) : f__law_product [.pure (.str r), .pure (.str q)] s = .ok (.new ((List.zip r q).map fun p => FT.val (.pure (.int (vs p.1 * vs p.2))))) s := by
  have c : c__law_product_0 (twoS r q s) = .ok (.new ((List.zip r q).map fun p => FT.val (.pure (.int (vs p.1 * vs p.2))))) (twoS r q s) :=
    lc_two2 (mv_ok rfl) (mv_ok rfl) (fun a b => vl (.int (vs a * vs b))) h k fun a b ha hb => by
      rw [body_tp (m2_ok (idx1 ha (mv_ok rfl)) (idx1 hb (mv_ok rfl)) (mul_ok (cMul_vs a b) _))]
      rfl
  exact fnM_rt (st := twoS r q s) (ret_ok c) rfl (rlF_new _ (fun p : Nat × Nat => T.int (vs p.1 * vs p.2)) _)
abbrev twR (r q : List Nat) (b : Bool) (a3 a4 a5 : Option VD) : SS := ⟨[some (.pure (.str r)), some (.pure (.str q)), some (.pure (.bl b)), a3, a4, a5, none, none, none], [], none⟩
abbrev prT (r q : List Nat) : T := .lst ((prI r q).map .int)
theorem prI_len {r q : List Nat} (e : r.length = q.length) : (prI r q).length = r.length := by rw [prI, List.length_map, List.length_zip, ← e, Nat.min_self]
theorem prI_three {r q : List Nat} {z : Int} (h : z ∈ prI r q) : z = 1 ∨ z = -1 ∨ z = 0 := by
  obtain ⟨p, _, rfl⟩ := List.mem_map.mp h
  rcases vs_or p.1 with e | e | e <;> rcases vs_or p.2 with e2 | e2 | e2 <;> rw [e, e2] <;> simp
theorem atI_z (z : List Int) {k : Nat} (h : k < z.length) : atI (z.map T.int) (k : Int) = some (.int (z.getD k 0)) := by
  rw [atI_get, List.getElem?_map, List.getElem?_eq_getElem h]
  simp [h]
theorem oIx_z {z : List Int} {k : Nat} (h : k < z.length) (s : SS) : oIx (vl (.lst (z.map T.int))) (vl (.int (k : Int))) s = .ok (vl (.int (z.getD k 0))) s := by
  have e : atI ((z.map T.int).map fun t => FT.val (.pure t)) (k : Int) = some (.val (.pure (.int (z.getD k 0)))) := by
    rw [atI_get, List.getElem?_map, List.getElem?_map, List.getElem?_eq_getElem h]
    simp [h]
  show bd (seqOf (vl (.lst (z.map T.int)))) (fun fs => Ob.mo (atI fs (k : Int))) s = _
  have e2 : seqOf (vl (.lst (z.map T.int))) s = .ok ((z.map T.int).map fun t => FT.val (.pure t)) s := rfl
  rw [bd_ok e2, e]
  rfl
theorem sgn_pick {z : Int} (h : z = 1 ∨ z = -1 ∨ z = 0) (s : SS) : oIx (vl (.str [45, 48, 43])) (vl (.int (z + 1))) s = .ok (vl (.str [sg z])) s := by
  rcases h with rfl | rfl | rfl <;> rfl
theorem lc_nums {e : M FT} {i : Nat} {te : M FT} {vv : List Nat} {st : SS} {z : List Int} (f : Int → Nat) (he : e st = .ok (vl (.lst (z.map .int))) st) (hl : z.length ≤ lim) (hb : ∀ c, c ∈ z → te (({ st with d := wipeL st.d vv } : SS).put i (.pure (.int c))) = .ok (vl (.str [f c])) (({ st with d := wipeL st.d vv } : SS).put i (.pure (.int c)))) :
    mLc (bd e mOne) (.nm i) (rt true) te vv st = .ok (.new (z.map fun c => FT.val (.pure (.str [f c])))) st := by
  rw [lc_one (u := .lst (z.map .int)) (ts := z.map .int) (fun x => some (vl (.str [f (toI x)]))) he rfl (fun x hx => ?_) (by rw [List.length_map]; exact hl), filterMap_map', fm_some]
  · rfl
  obtain ⟨c, hc, rfl⟩ := List.mem_map.mp hx
  rw [body_nm (hb c hc)]
  rfl
theorem c_two0 {r q : List Nat} {b : Bool} {a4 a5 : Option VD} (h : Row r) (k : Row q) (e : r.length = q.length) : c__law_two_right_0 (twR r q b (some (.pure (prT r q))) a4 a5) = .ok (.new ((prI r q).map fun c => FT.val (.pure (.str [sg c])))) (twR r q b (some (.pure (prT r q))) a4 a5) :=
  lc_nums sg (mv_ok rfl) (by rw [prI_len e]; exact h.lim) fun c hc => m2_ok rt_ok (m2_ok (mv_ok rfl) rt_ok (add_ok _)) (sgn_pick (prI_three hc) _)
theorem ne_1 (a b : Nat) (s : SS) : oNe (vl (.str [a])) (vl (.str [b])) s = .ok (vl (.bl (!decide (a = b)))) s := by
  by_cases e : a = b <;> simp [e, oNe, bd, rd, rsF, rsV, okT, nd, dep, eqT, Ob.guard, rt, vl]
theorem eq_1 (a b : Nat) (s : SS) : oEq (vl (.str [a])) (vl (.str [b])) s = .ok (vl (.bl (decide (a = b)))) s := by
  by_cases e : a = b <;> simp [e, oEq, bd, rd, rsF, rsV, okT, nd, dep, eqT, Ob.guard, rt, vl]
theorem mIf_ok {mc : M Bool} {x y : M FT} {st st1 : SS} {c : Bool} {r : Res FT} (h : mc st = .ok c st1) (g : (if c = true then x else y) st1 = r) : mIf mc x y st = r := by
  unfold mIf
  rw [bd_ok h]
  cases c <;> exact g
theorem c_two1 {r q : List Nat} {b : Bool} {a3 a4 a5 : Option VD} (h : Row r) (k : Row q) : c__law_two_right_1 (twR r q b a3 a4 a5) = .ok (.new ((List.zip r q).map fun p => FT.val (.pure (.str [if p.1 = 48 then p.2 else p.1])))) (twR r q b a3 a4 a5) :=
  lc_two2 (mv_ok rfl) (mv_ok rfl) (fun a b => vl (.str [if a = 48 then b else a])) h k fun a b ha hb => by
    refine body_tq (mIf_ok (tb_ok (m2_ok (mv_ok rfl) rt_ok (ne_1 a 48 _))) ?_)
    by_cases e : a = 48
    · rw [decide_eq_true e, if_pos e]; rfl
    · rw [decide_eq_false e, if_neg e]; rfl
theorem c_two2 {r q : List Nat} {b : Bool} {a3 a4 a5 : Option VD} (h : Row r) (k : Row q) : c__law_two_right_2 (twR r q b a3 a4 a5) = .ok (.new ((List.zip r q).map fun p => FT.val (.pure (.str [if p.1 = p.2 then p.1 else 48])))) (twR r q b a3 a4 a5) :=
  lc_two2 (mv_ok rfl) (mv_ok rfl) (fun a b => vl (.str [if a = b then a else 48])) h k fun a b ha hb => by
    refine body_tq (mIf_ok (tb_ok (m2_ok (mv_ok rfl) (mv_ok rfl) (eq_1 a b _))) ?_)
    by_cases e : a = b
    · rw [decide_eq_true e, if_pos e]; rfl
    · rw [decide_eq_false e, if_neg e]; rfl
theorem body_yes {i : Nat} {tt : M Bool} {te : M FT} {vv : List Nat} {d : VD} {st st' : SS} {f : FT} (h : tt (({ st with d := wipeL st.d vv } : SS).put i d) = .ok true (({ st with d := wipeL st.d vv } : SS).put i d)) (g : te (({ st with d := wipeL st.d vv } : SS).put i d) = .ok f st') : lcBody (.nm i) tt te vv d st = .ok (some f) { st' with d := st.d, x := st.x } := by
  unfold lcBody
  show (match tt (({ st with d := wipeL st.d vv } : SS).put i d) with | .ok false st3 => _ | .ok true st3 => _ | _ => _) = _
  rw [h]
  show (match te (({ st with d := wipeL st.d vv } : SS).put i d) with | .ok f st4 => Res.ok (some f) { st4 with d := st.d, x := st.x } | _ => .stuck) = _
  rw [g]
theorem c_two3 {r q : List Nat} {b : Bool} {a4 a5 : Option VD} (h : Row r) (k : Row q) (e : r.length = q.length) : c__law_two_right_3 (twR r q b (some (.pure (prT r q))) a4 a5) = .ok (.new ((paS (prI r q)).map fun k => FT.val (.pure (nT k)))) (twR r q b (some (.pure (prT r q))) a4 a5) := by
  have hb := h.b
  have hl := prI_len e
  unfold c__law_two_right_3
  rw [lc_rng (n := (r.length : Int)) (fun k => if decide ((prI r q).getD k 0 < 0) = true then some (vl (nT k)) else none) (aCons_ok (len_s (mv_ok rfl)) aNil_ok) (by omega) (by omega) (fun i hi => ?_), paS, ← fm_if, hl]
  · rfl
  · have hi' : i < (prI r q).length := by omega
    have lt : ∀ st' : SS, mv 3 st' = .ok (vl (prT r q)) st' → mv 8 st' = .ok (vl (nT i)) st' → bd (m2 oLtI (m2 oIx (mv 3) (mv 8)) (rt (vl (.int 0)))) tb st' = .ok (decide ((prI r q).getD i 0 < 0)) st' := fun st' e3 e8 => by
      refine tb_ok (m2_ok (x := vl (.int ((prI r q).getD i 0))) (m2_ok e3 e8 ?_) rt_ok rfl)
      exact oIx_z hi' _
    by_cases c : (prI r q).getD i 0 < 0
    · rw [body_yes (f := vl (nT i)) ((lt _ (mv_ok rfl) (mv_ok rfl)).trans (by rw [decide_eq_true c])) (mv_ok rfl), decide_eq_true c]
      rfl
    · rw [body_no ((lt _ (mv_ok rfl) (mv_ok rfl)).trans (by rw [decide_eq_false c])), decide_eq_false c]
      rfl
theorem oIx_s {r : List Nat} {k : Nat} (h : k < r.length) (s : SS) : oIx (vl (.str r)) (vl (.int (k : Int))) s = .ok (vl (.str [r.getD k 0])) s := by
  have e : atI r (k : Int) = some (r.getD k 0) := by rw [atI_get]; simp [h]
  show bd (Ob.mo (atI r (k : Int))) _ _ = _
  rw [e]
  rfl
def unS (r q : List Nat) : List Nat := (List.range r.length).filter fun k => !decide (r.getD k 0 = 48) && !decide (r.getD k 0 = q.getD k 0)
theorem c_two4 {r q : List Nat} {b : Bool} {a3 a4 a5 : Option VD} (h : Row r) (k : Row q) (e : r.length = q.length) : c__law_two_right_4 (twR r q b a3 a4 a5) = .ok (.new ((unS r q).map fun k => FT.val (.pure (nT k)))) (twR r q b a3 a4 a5) := by
  have hb := h.b
  unfold c__law_two_right_4
  rw [lc_rng (n := (r.length : Int)) (fun k => if (!decide (r.getD k 0 = 48) && !decide (r.getD k 0 = q.getD k 0)) = true then some (vl (nT k)) else none) (aCons_ok (len_s (mv_ok rfl)) aNil_ok) (by omega) (by omega) (fun i hi => ?_), unS, ← fm_if]
  · rfl
  · have hi' : i < r.length := by omega
    have lt : ∀ st' : SS, mv 0 st' = .ok (vl (.str r)) st' → mv 1 st' = .ok (vl (.str q)) st' → mv 8 st' = .ok (vl (nT i)) st' → tAndM (bd (m2 oNe (m2 oIx (mv 0) (mv 8)) (rt (vl (.str [48])))) tb) (bd (m2 oNe (m2 oIx (mv 0) (mv 8)) (m2 oIx (mv 1) (mv 8))) tb) st' = .ok (!decide (r.getD i 0 = 48) && !decide (r.getD i 0 = q.getD i 0)) st' := fun st' e0 e1 e8 => by
      have t1 := tb_ok (m2_ok (m2_ok e0 e8 (oIx_s hi' _)) rt_ok (ne_1 (r.getD i 0) 48 st'))
      have t2 := tb_ok (m2_ok (m2_ok e0 e8 (oIx_s hi' _)) (m2_ok e1 e8 (oIx_s (by omega) _)) (ne_1 (r.getD i 0) (q.getD i 0) st'))
      unfold tAndM
      rw [bd_ok t1]
      by_cases c : r.getD i 0 = 48
      · rw [decide_eq_true c]; rfl
      · rw [decide_eq_false c]
        exact t2
    have lt' := lt _ (mv_ok (st := (({ twR r q b a3 a4 a5 with d := wipeL (twR r q b a3 a4 a5).d [8] } : SS).put 8 (.pure (nT i)))) rfl) (mv_ok rfl) (mv_ok rfl)
    by_cases c : (!decide (r.getD i 0 = 48) && !decide (r.getD i 0 = q.getD i 0)) = true
    · rw [c] at lt'
      rw [body_yes (f := vl (nT i)) lt' (mv_ok rfl), if_pos c]
      rfl
    · rw [Bool.not_eq_true] at c
      rw [c] at lt'
      rw [body_no lt', if_neg (by rw [c]; decide)]
      rfl
theorem unS_nil {r q : List Nat} (e : r.length = q.length) : (unS r q).isEmpty = unB r q := by
  rw [Bool.eq_iff_iff, List.isEmpty_iff, unS, List.filter_eq_nil_iff, unB, List.all_eq_true]
  constructor
  · intro h p hp
    obtain ⟨i, hi, rfl⟩ := List.mem_iff_getElem.mp hp
    rw [List.length_zip] at hi
    have h1 : i < r.length := by omega
    have h2 : i < q.length := by omega
    have := h i (List.mem_range.mpr h1)
    simp [h1, h2] at this
    simp
    by_cases c : r[i] = 48
    · exact .inl c
    · exact .inr (this c)
  · intro h i hi
    have h1 : i < r.length := List.mem_range.mp hi
    have h2 : i < q.length := by omega
    have := h (r[i], q[i]) (List.mem_iff_getElem.mpr ⟨i, by rw [List.length_zip]; omega, by simp⟩)
    simp [h1, h2] at this ⊢
    intro c
    exact this.resolve_left c
end Ob.K00
/-! # Kq: two rows, the def itself -/
namespace Ob.K00
open PySem PySem.Spec PyProof.Rows L2 Ob

theorem rsF_map {α : Type} (s : Store) (n : Nat) (g : α → T) : ∀ l : List α, (l.map fun x => FT.val (.pure (g x))).mapM (rsF s n) = some (l.map g)
  | [] => rfl
  | x :: r => by
    rw [List.map_cons, List.mapM_cons, rsF_map s n g r]
    cases n <;> rfl
theorem rd_map {α : Type} (g : α → T) (l : List α) (s : SS) : rd (.new (l.map fun x => FT.val (.pure (g x)))) s = .ok (.lst (l.map g)) s := by
  unfold rd
  rw [rsF, rsF_map]
  rfl
/-- trees that have no trees below -/
def leafy : T → Bool
  | .non => true
  | .bl _ => true
  | .int _ => true
  | .str _ => true
  | _ => false
theorem leaf_nd : ∀ {ts : List T}, ts.all leafy = true → nds ts = true ∧ deps ts = 0
  | [], _ => ⟨rfl, rfl⟩
  | t :: r, h => by
    rw [List.all_cons, Bool.and_eq_true] at h
    obtain ⟨a, b⟩ := leaf_nd h.2
    have c : nd t = true ∧ dep t = 0 := by
      cases t <;> first | exact ⟨rfl, rfl⟩ | cases h.1
    exact ⟨by rw [nds, c.1, a]; rfl, by rw [deps, c.2, b]; rfl⟩
theorem leaf_map {α : Type} {g : α → T} (hg : ∀ x, leafy (g x) = true) (l : List α) : (l.map g).all leafy = true := by
  rw [List.all_eq_true]
  intro t h
  obtain ⟨x, _, rfl⟩ := List.mem_map.mp h
  exact hg x
theorem eq_new_nil {α : Type} {g : α → T} (hg : ∀ x, leafy (g x) = true) (l : List α) (s : SS) : oEq (.new (l.map fun x => FT.val (.pure (g x)))) (.new []) s = .ok (vl (.bl l.isEmpty)) s := by
  have e0 : rd (.new []) s = .ok (.lst []) s := rfl
  have e1 := leaf_nd (leaf_map hg l)
  have e2 : okT (.lst (l.map g)) = true := by
    unfold okT
    rw [nd, dep, e1.1, e1.2]
    rfl
  have e3 : (okT (.lst (l.map g)) && okT (.lst [])) = true := by rw [e2]; rfl
  unfold oEq
  rw [bd_ok (rd_map g l s), bd_ok e0]
  unfold Ob.guard
  rw [e3]
  cases l <;> rfl
theorem lst_ok {ms : M (List FT)} {st st1 : SS} {fs : List FT} (h : ms st = .ok fs st1) (g : decide (fs.length ≤ lim) = true) : mLst ms st = .ok (.new fs) st1 := by
  unfold mLst
  rw [bd_ok h]
  unfold bd Ob.guard
  rw [if_pos g]
  rfl
theorem cat_ok {xs : List T} {fs : List FT} (h : xs.length + fs.length ≤ 1000) (s : SS) : oAdd (vl (.lst xs)) (.new fs) s = .ok (.new ((xs.map fun t => FT.val (.pure t)) ++ fs)) s := by
  show (bd (lstOf (vl (.lst xs))) fun a => bd (lstOf (.new fs)) fun b => bd (Ob.guard (decide (a.length + b.length ≤ lim))) fun _ => (rt (FT.new (a ++ b)) : M FT)) s = _
  have e1 : lstOf (vl (.lst xs)) s = .ok (xs.map fun t => FT.val (.pure t)) s := rfl
  have e2 : lstOf (.new fs) s = .ok fs s := rfl
  have e3 : (xs.map fun t => FT.val (.pure t)).length + fs.length ≤ lim := by rw [List.length_map]; exact Nat.le_trans h (by decide)
  rw [bd_ok e1, bd_ok e2]
  unfold bd Ob.guard
  rw [if_pos (decide_eq_true e3)]
  rfl
def D2 (r q : List Nat) : T := .lst [.str (coR r q), .str (prR r q)]
def D4 (r q : List Nat) : T := .lst [.str (coR r q), .str (prR r q), el (paS (prI r q)), .str (meR r q)]
def D6 (r q : List Nat) : T := .lst [.str (coR r q), .str (prR r q), el (paS (prI r q)), .str (meR r q), .bl (fiB (prI r q)), .bl (unB r q)]
theorem paS_len (z : List Int) : (paS z).length ≤ z.length := by
  have := List.length_filter_le (fun k => decide (z.getD k 0 < 0)) (List.range z.length)
  rw [List.length_range] at this
  exact this
theorem okS_D6 {r q : List Nat} (h : Row r) (e : r.length = q.length) : okS 4 (D6 r q) = true := by
  have hb := h.b
  have lz : (List.zip r q).length ≤ 8 := by rw [List.length_zip]; omega
  have e1 : okS 3 (.str (coR r q)) = true := okS_s (n := 2) (by rw [coR, List.length_map]; exact lz)
  have e2 : okS 3 (.str (prR r q)) = true := okS_s (n := 2) (by rw [prR, prI, List.length_map, List.length_map]; exact lz)
  have e3 : okS 3 (el (paS (prI r q))) = true := okS_el (n := 1) (Nat.le_trans (paS_len _) (by rw [prI_len e]; exact hb))
  have e4 : okS 3 (.str (meR r q)) = true := okS_s (n := 2) (by rw [meR, List.length_map]; exact lz)
  show (decide _ && List.all _ (okS 3)) = true
  simp only [List.all_cons, List.all_nil, e1, e2, e3, e4, List.length_cons, List.length_nil]
  rfl
theorem fz_lst {fs : List FT} {ts : List T} (h : fs = ts.map fun t => FT.val (.pure t)) : fz (.new fs) = .pure (.lst ts) := by
  subst h
  have := fz_new (fun t : T => t) ts
  rw [List.map_id'] at this
  exact this
theorem two_right_ok {r q : List Nat} {b : Bool} (h : Row r) (k : Row q) (e : r.length = q.length) : f__law_two_right [.pure (.str r), .pure (.str q), .pure (.bl b)] [] = .ok (vl (.bl true)) [] := by
  have hb := h.b
  have lz : (List.zip r q).length ≤ lim := zip_lim h
  let S0 := twR r q b none none none
  let S1 := twR r q b (some (.pure (prT r q))) none none
  let S2 := twR r q b (some (.pure (prT r q))) (some (.pure (D2 r q))) none
  let S3 := twR r q b (some (.pure (prT r q))) (some (.pure (D4 r q))) none
  let S4 := twR r q b (some (.pure (prT r q))) (some (.pure (D6 r q))) none
  let S5 := twR r q b (some (.pure (prT r q))) (some (.pure (D6 r q))) (some (.pure (D6 r q)))
  let S6 := twR r q b (some (.pure (prT r q))) (some (.pure (D6 r q))) (some (.pure (D4 r q)))
  have g0 : ∀ st : SS, goC 2 f__law_product [.pure (.str r), .pure (.str q)] st = .ok (.new ((List.zip r q).map fun p => FT.val (.pure (.int (vs p.1 * vs p.2))))) st := fun st => goC_pure (ts := [.str r, .str q]) rfl (lawprod_ok h k)
  have s1 := to_st S1 (set_new (i := 3) (t := prT r q) (st := S0) (mCall_ok (aCons_ok (mv_ok (i := 0) rfl) (aCons_ok (mv_ok (i := 1) rfl) aNil_ok)) (g0 _)) (by rw [fz_new, prT, prI, List.map_map]; rfl)) rfl
  have j1 : ∀ st : SS, c__law_two_right_1 S1 = .ok (.new ((List.zip r q).map fun p => FT.val (.pure (.str [if p.1 = 48 then p.2 else p.1])))) S1 := fun _ => c_two1 h k
  have s2 := to_st S2 (set_new (i := 4) (t := D2 r q) (st := S1) (lst_ok (aCons_ok (mMs_ok (op := oJoin) rt_ok rfl (aCons_ok (c_two1 (b := b) (a3 := some (.pure (prT r q))) (a4 := none) (a5 := none) h k) aNil_ok) (join_new _ _ _ lz)) (aCons_ok (mMs_ok (op := oJoin) rt_ok rfl (aCons_ok (c_two0 (b := b) (a4 := none) (a5 := none) h k e) aNil_ok) (join_new _ _ _ (by rw [prI_len e]; exact h.lim))) aNil_ok)) rfl) rfl) rfl
  have s3 := to_st S3 (set_new (i := 4) (t := D4 r q) (st := S2) (m2_ok (mv_ok (i := 4) rfl) (lst_ok (aCons_ok (mCa_ok (aCons_ok (c_two3 (b := b) (a4 := some (.pure (D2 r q))) (a5 := none) h k e) aNil_ok) (bTup_map nT _ _)) (aCons_ok (mMs_ok (op := oJoin) rt_ok rfl (aCons_ok (c_two2 (b := b) (a3 := some (.pure (prT r q))) (a4 := some (.pure (D2 r q))) (a5 := none) h k) aNil_ok) (join_new _ _ _ lz)) aNil_ok)) rfl) (cat_ok (xs := [.str (coR r q), .str (prR r q)]) (by simp) _)) rfl) rfl
  have s4 := to_st S4 (set_new (i := 4) (t := D6 r q) (st := S3) (m2_ok (mv_ok (i := 4) rfl) (lst_ok (aCons_ok (m2_ok (m2_ok rt_ok (mv_ok (i := 3) rfl) (oIn_i 1 (prI r q) _)) (m2_ok (neg1 (st := S3)) (mv_ok (i := 3) rfl) (oIn_i (-1) (prI r q) _)) (eq_bl _ _ _)) (aCons_ok (m2_ok (c_two4 (b := b) (a3 := some (.pure (prT r q))) (a4 := some (.pure (D4 r q))) (a5 := none) h k e) (lst_ok (aNil_ok) rfl) ((eq_new_nil (g := nT) (fun _ => rfl) _ _).trans (by rw [unS_nil e]))) aNil_ok)) rfl) (cat_ok (xs := [.str (coR r q), .str (prR r q), el (paS (prI r q)), .str (meR r q)]) (by simp) _)) rfl) rfl
  have pc : ∀ {fm : FM} {st : SS} {f : FT}, mv 0 st = .ok (vl (.str r)) st → mv 1 st = .ok (vl (.str q)) st → fm [.pure (.str r), .pure (.str q)] [] = .ok f [] → mCall 2 fm (aCons (mv 0) (aCons (mv 1) aNil)) st = .ok f st := fun h0 h1 g => mCall_ok (aCons_ok h0 (aCons_ok h1 aNil_ok)) (goC_pure (ts := [.str r, .str q]) rfl g)
  have kc : ∀ {fm : FM} {st : SS} {f : FT}, mv 0 st = .ok (vl (.str r)) st → mv 1 st = .ok (vl (.str q)) st → fm [.pure (.str r), .pure (.str q)] [] = .ok f [] → mCallK 2 2 [1, 0] fm (aCons (mv 1) (aCons (mv 0) aNil)) st = .ok f st := fun h0 h1 g => mCallK_ok (aCons_ok h1 (aCons_ok h0 aNil_ok)) rfl (goC_pure (ts := [.str r, .str q]) rfl g)
  have s5 := to_st S5 (set_new (i := 5) (t := D6 r q) (st := S4) (lst_ok (aCons_ok (pc (mv_ok rfl) (mv_ok rfl) (composed_ok h k e)) (aCons_ok (pc (mv_ok rfl) (mv_ok rfl) (product_ok h k e)) (aCons_ok (pc (mv_ok rfl) (mv_ok rfl) (parted_ok h k e)) (aCons_ok (pc (mv_ok rfl) (mv_ok rfl) (meets_ok h k e)) (aCons_ok (pc (mv_ok rfl) (mv_ok rfl) (orth_ok h k e)) (aCons_ok (pc (mv_ok rfl) (mv_ok rfl) (below_ok h k e)) aNil_ok)))))) rfl) rfl) rfl
  have s6 := to_st S6 (set_new (i := 5) (t := D4 r q) (st := S5) (lst_ok (aCons_ok (kc (mv_ok rfl) (mv_ok rfl) (composed_ok h k e)) (aCons_ok (kc (mv_ok rfl) (mv_ok rfl) (product_ok h k e)) (aCons_ok (kc (mv_ok rfl) (mv_ok rfl) (parted_ok h k e)) (aCons_ok (kc (mv_ok rfl) (mv_ok rfl) (meets_ok h k e)) aNil_ok)))) rfl) rfl) rfl
  have s7 := to_st S5 (set_new (i := 5) (t := D6 r q) (st := S6) (m2_ok (mv_ok (i := 5) rfl) (lst_ok (aCons_ok (kc (mv_ok rfl) (mv_ok rfl) (orth_ok h k e)) (aCons_ok (kc (mv_ok rfl) (mv_ok rfl) (below_ok h k e)) aNil_ok)) rfl) (cat_ok (xs := [.str (coR r q), .str (prR r q), el (paS (prI r q)), .str (meR r q)]) (by simp) _)) rfl) rfl
  have tb : bd (mv 2) tru S5 = .ok b S5 := rfl
  have s8 : (bd (bd (mv 2) tru) fun k => if k = true then (sq (mSet 0 5 (mLst (aCons (mCallK 2 2 [1, 0] f_composed (aCons (mv 1) (aCons (mv 0) aNil))) (aCons (mCallK 2 2 [1, 0] f_product_row (aCons (mv 1) (aCons (mv 0) aNil))) (aCons (mCallK 2 2 [1, 0] f_parted_set (aCons (mv 1) (aCons (mv 0) aNil))) (aCons (mCallK 2 2 [1, 0] f_meets_of (aCons (mv 1) (aCons (mv 0) aNil))) aNil))))))
      (mSet 0 5 (m2 oAdd (mv 5) (mLst (aCons (mCallK 2 2 [1, 0] f_are_orthogonal (aCons (mv 1) (aCons (mv 0) aNil))) (aCons (mCallK 2 2 [1, 0] f_lies_below (aCons (mv 1) (aCons (mv 0) aNil))) aNil)))))) else sNext) S5 = .ok .nx S5 := by
    rw [bd_ok tb]
    cases b with
    | true =>
      rw [if_pos rfl, sq_nx s6]
      exact s7
    | false => rfl
  refine fnM_rt (st := S5) ?_ rfl (rlF_v _ _)
  show m__law_two_right S0 = _
  unfold m__law_two_right
  rw [sq_nx s1, sq_nx s2, sq_nx s3, sq_nx s4, sq_nx s5, sq_nx s8]
  exact ret_ok (callB_same (t := D6 r q) (mv_ok rfl) (mv_ok rfl) (okS_D6 h e))
end Ob.K00
/-! # Kr: what is refused -/
namespace Ob.K00
open PySem PySem.Spec PyProof.Rows L2 Ob

theorem sk_f {i j : Int} {st : SS} {a b : M Fl} (h : mv 0 st = .ok (vl (.int i)) st) (ne : (i == j) = false) : (bd (bd (m2 oEq (mv 0) (rt (vl (.int j)))) tb) fun k => if k = true then a else b) st = b st :=
  if_f ((tb_ok (m2_ok h rt_ok (eq_i _ _ _))).trans (by rw [ne]))
theorem sk_t {i j : Int} {st : SS} {a b : M Fl} (h : mv 0 st = .ok (vl (.int i)) st) (ne : (i == j) = true) : (bd (bd (m2 oEq (mv 0) (rt (vl (.int j)))) tb) fun k => if k = true then a else b) st = a st :=
  if_t ((tb_ok (m2_ok h rt_ok (eq_i _ _ _))).trans (by rw [ne]))
theorem bd_err {α β : Type} {m : M α} {k : α → M β} {st st' : SS} {x : XD} (h : m st = .err x st') : bd m k st = .err x st' := by
  unfold bd
  rw [h]
theorem fnM_err {N : Nat} {m : M Fl} {ds : List VD} {s : Store} {x : XD} {st : SS} (h : m (entry N ds s) = .err x st) (hs : st.s = s) (hx : rl s.length x.v = true) : fnM N m ds s = .err x s := by
  unfold fnM
  rw [h]
  show finE s.length x st.s = _
  rw [hs]
  simp [finE, cutS, hx]
theorem three_ok {s : Store} {d e f : VD} (h : okD s d) (k : okD s e) (l : okD s f) : ∀ x ∈ [d, e, f], okD s x := fun x hx => by
  rcases List.mem_cons.mp hx with rfl | hx
  · exact h
  · exact two_ok k l x hx
theorem four_ok {s : Store} {i : Int} {d e f : VD} (h : okD s d) (k : okD s e) (l : okD s f) : ∀ x ∈ [pI i, d, e, f], okD s x := fun x hx => by
  rcases List.mem_cons.mp hx with rfl | hx
  · exact .t
  · exact three_ok h k l x hx
section
variable {fm : FM} {st : SS} {x : XD} {d e f : VD}
theorem ge1 (h : ∀ s, okD s d → fm [d] s = .err x s) (od : okD st.s d) : goC 1 fm [d] st = .err x st := goC_err rfl (fun s hs => h s (hs d (by simp))) (fun e he => by rw [List.mem_singleton.mp he]; exact od)
theorem ge2 (h : ∀ s, okD s d → okD s e → fm [d, e] s = .err x s) (od : okD st.s d) (oe : okD st.s e) : goC 2 fm [d, e] st = .err x st := goC_err rfl (fun s hs => h s (hs d (by simp)) (hs e (by simp))) (two_ok od oe)
theorem ge3 (h : ∀ s, okD s d → okD s e → okD s f → fm [d, e, f] s = .err x s) (od : okD st.s d) (oe : okD st.s e) (of : okD st.s f) : goC 3 fm [d, e, f] st = .err x st := goC_err rfl (fun s hs => h s (hs d (by simp)) (hs e (by simp)) (hs f (by simp))) (three_ok od oe of)
theorem ge4 {k : Int} (h : ∀ s, okD s d → okD s e → okD s f → fm [pI k, d, e, f] s = .err x s) (od : okD st.s d) (oe : okD st.s e) (of : okD st.s f) : goC 4 fm [pI k, d, e, f] st = .err x st := goC_err rfl (fun s hs => h s (hs d (by simp)) (hs e (by simp)) (hs f (by simp))) (four_ok od oe of)
end
theorem call0 {d e f : VD} {s : Store} {x : XD} (h : ∀ s, okD s d → f_plus_set [d] s = .err x s) (od : okD s d) (ox : okD s x.v) : f__law_call [pI 0, d, e, f] s = .err x s := by
  refine fnM_err (st := entry 4 [pI 0, d, e, f] s) ?_ rfl (rl_ok ox)
  have z : mv 0 (entry 4 [pI 0, d, e, f] s) = .ok (vl (.int 0)) (entry 4 [pI 0, d, e, f] s) := mv_ok rfl
  unfold m__law_call
  rw [sk_t (i := 0) (j := 0) z rfl]
  exact bd_err (mCall_ok (aCons_ok (mv_ok (i := 1) (d := d) rfl) aNil_ok) (ge1 h od))
theorem call1 {d e f : VD} {s : Store} {x : XD} (h : ∀ s, okD s d → f_minus_set [d] s = .err x s) (od : okD s d) (ox : okD s x.v) : f__law_call [pI 1, d, e, f] s = .err x s := by
  refine fnM_err (st := entry 4 [pI 1, d, e, f] s) ?_ rfl (rl_ok ox)
  have z : mv 0 (entry 4 [pI 1, d, e, f] s) = .ok (vl (.int 1)) (entry 4 [pI 1, d, e, f] s) := mv_ok rfl
  unfold m__law_call
  rw [sk_f (i := 1) (j := 0) z rfl, sk_t (i := 1) (j := 1) z rfl]
  exact bd_err (mCallK_ok (aCons_ok (mv_ok (i := 1) (d := d) rfl) aNil_ok) rfl (ge1 h od))
theorem call2 {d e f : VD} {s : Store} {x : XD} (h : ∀ s, okD s d → f_zero_set [d] s = .err x s) (od : okD s d) (ox : okD s x.v) : f__law_call [pI 2, d, e, f] s = .err x s := by
  refine fnM_err (st := entry 4 [pI 2, d, e, f] s) ?_ rfl (rl_ok ox)
  have z : mv 0 (entry 4 [pI 2, d, e, f] s) = .ok (vl (.int 2)) (entry 4 [pI 2, d, e, f] s) := mv_ok rfl
  unfold m__law_call
  rw [sk_f (i := 2) (j := 0) z rfl, sk_f (i := 2) (j := 1) z rfl, sk_t (i := 2) (j := 2) z rfl]
  exact bd_err (mCall_ok (aCons_ok (mv_ok (i := 1) (d := d) rfl) aNil_ok) (ge1 h od))
theorem call3 {d e f : VD} {s : Store} {x : XD} (h : ∀ s, okD s d → f_support [d] s = .err x s) (od : okD s d) (ox : okD s x.v) : f__law_call [pI 3, d, e, f] s = .err x s := by
  refine fnM_err (st := entry 4 [pI 3, d, e, f] s) ?_ rfl (rl_ok ox)
  have z : mv 0 (entry 4 [pI 3, d, e, f] s) = .ok (vl (.int 3)) (entry 4 [pI 3, d, e, f] s) := mv_ok rfl
  unfold m__law_call
  rw [sk_f (i := 3) (j := 0) z rfl, sk_f (i := 3) (j := 1) z rfl, sk_f (i := 3) (j := 2) z rfl, sk_t (i := 3) (j := 3) z rfl]
  exact bd_err (mCallK_ok (aCons_ok (mv_ok (i := 1) (d := d) rfl) aNil_ok) rfl (ge1 h od))
theorem call4 {d e f : VD} {s : Store} {x : XD} (h : ∀ s, okD s d → f_opposite [d] s = .err x s) (od : okD s d) (ox : okD s x.v) : f__law_call [pI 4, d, e, f] s = .err x s := by
  refine fnM_err (st := entry 4 [pI 4, d, e, f] s) ?_ rfl (rl_ok ox)
  have z : mv 0 (entry 4 [pI 4, d, e, f] s) = .ok (vl (.int 4)) (entry 4 [pI 4, d, e, f] s) := mv_ok rfl
  unfold m__law_call
  rw [sk_f (i := 4) (j := 0) z rfl, sk_f (i := 4) (j := 1) z rfl, sk_f (i := 4) (j := 2) z rfl, sk_f (i := 4) (j := 3) z rfl, sk_t (i := 4) (j := 4) z rfl]
  exact bd_err (mCall_ok (aCons_ok (mv_ok (i := 1) (d := d) rfl) aNil_ok) (ge1 h od))
theorem call5 {d e f : VD} {s : Store} {x : XD} (h : ∀ s, okD s d → okD s e → f_turned_row [d, e] s = .err x s) (od : okD s d) (oe : okD s e) (ox : okD s x.v) : f__law_call [pI 5, d, e, f] s = .err x s := by
  refine fnM_err (st := entry 4 [pI 5, d, e, f] s) ?_ rfl (rl_ok ox)
  have z : mv 0 (entry 4 [pI 5, d, e, f] s) = .ok (vl (.int 5)) (entry 4 [pI 5, d, e, f] s) := mv_ok rfl
  unfold m__law_call
  rw [sk_f (i := 5) (j := 0) z rfl, sk_f (i := 5) (j := 1) z rfl, sk_f (i := 5) (j := 2) z rfl, sk_f (i := 5) (j := 3) z rfl, sk_f (i := 5) (j := 4) z rfl, sk_t (i := 5) (j := 5) z rfl]
  exact bd_err (mCallK_ok (aCons_ok (mv_ok (i := 2) (d := e) rfl) (aCons_ok (mv_ok (i := 1) (d := d) rfl) aNil_ok)) rfl (ge2 h od oe))
theorem call6 {d e f : VD} {s : Store} {x : XD} (h : ∀ s, okD s d → okD s e → f_part_of [d, e] s = .err x s) (od : okD s d) (oe : okD s e) (ox : okD s x.v) : f__law_call [pI 6, d, e, f] s = .err x s := by
  refine fnM_err (st := entry 4 [pI 6, d, e, f] s) ?_ rfl (rl_ok ox)
  have z : mv 0 (entry 4 [pI 6, d, e, f] s) = .ok (vl (.int 6)) (entry 4 [pI 6, d, e, f] s) := mv_ok rfl
  unfold m__law_call
  rw [sk_f (i := 6) (j := 0) z rfl, sk_f (i := 6) (j := 1) z rfl, sk_f (i := 6) (j := 2) z rfl, sk_f (i := 6) (j := 3) z rfl, sk_f (i := 6) (j := 4) z rfl, sk_f (i := 6) (j := 5) z rfl, sk_t (i := 6) (j := 6) z rfl]
  exact bd_err (mCall_ok (aCons_ok (mv_ok (i := 1) (d := d) rfl) (aCons_ok (mv_ok (i := 2) (d := e) rfl) aNil_ok)) (ge2 h od oe))
theorem call7 {d e f : VD} {s : Store} {x : XD} (h : ∀ s, okD s d → okD s e → f_composed [d, e] s = .err x s) (od : okD s d) (oe : okD s e) (ox : okD s x.v) : f__law_call [pI 7, d, e, f] s = .err x s := by
  refine fnM_err (st := entry 4 [pI 7, d, e, f] s) ?_ rfl (rl_ok ox)
  have z : mv 0 (entry 4 [pI 7, d, e, f] s) = .ok (vl (.int 7)) (entry 4 [pI 7, d, e, f] s) := mv_ok rfl
  unfold m__law_call
  rw [sk_f (i := 7) (j := 0) z rfl, sk_f (i := 7) (j := 1) z rfl, sk_f (i := 7) (j := 2) z rfl, sk_f (i := 7) (j := 3) z rfl, sk_f (i := 7) (j := 4) z rfl, sk_f (i := 7) (j := 5) z rfl, sk_f (i := 7) (j := 6) z rfl, sk_t (i := 7) (j := 7) z rfl]
  exact bd_err (mCall_ok (aCons_ok (mv_ok (i := 1) (d := d) rfl) (aCons_ok (mv_ok (i := 2) (d := e) rfl) aNil_ok)) (ge2 h od oe))
theorem call8 {d e f : VD} {s : Store} {x : XD} (h : ∀ s, okD s d → okD s e → f_product_row [d, e] s = .err x s) (od : okD s d) (oe : okD s e) (ox : okD s x.v) : f__law_call [pI 8, d, e, f] s = .err x s := by
  refine fnM_err (st := entry 4 [pI 8, d, e, f] s) ?_ rfl (rl_ok ox)
  have z : mv 0 (entry 4 [pI 8, d, e, f] s) = .ok (vl (.int 8)) (entry 4 [pI 8, d, e, f] s) := mv_ok rfl
  unfold m__law_call
  rw [sk_f (i := 8) (j := 0) z rfl, sk_f (i := 8) (j := 1) z rfl, sk_f (i := 8) (j := 2) z rfl, sk_f (i := 8) (j := 3) z rfl, sk_f (i := 8) (j := 4) z rfl, sk_f (i := 8) (j := 5) z rfl, sk_f (i := 8) (j := 6) z rfl, sk_f (i := 8) (j := 7) z rfl, sk_t (i := 8) (j := 8) z rfl]
  exact bd_err (mCallK_ok (aCons_ok (mv_ok (i := 2) (d := e) rfl) (aCons_ok (mv_ok (i := 1) (d := d) rfl) aNil_ok)) rfl (ge2 h od oe))
theorem call9 {d e f : VD} {s : Store} {x : XD} (h : ∀ s, okD s d → okD s e → f_parted_set [d, e] s = .err x s) (od : okD s d) (oe : okD s e) (ox : okD s x.v) : f__law_call [pI 9, d, e, f] s = .err x s := by
  refine fnM_err (st := entry 4 [pI 9, d, e, f] s) ?_ rfl (rl_ok ox)
  have z : mv 0 (entry 4 [pI 9, d, e, f] s) = .ok (vl (.int 9)) (entry 4 [pI 9, d, e, f] s) := mv_ok rfl
  unfold m__law_call
  rw [sk_f (i := 9) (j := 0) z rfl, sk_f (i := 9) (j := 1) z rfl, sk_f (i := 9) (j := 2) z rfl, sk_f (i := 9) (j := 3) z rfl, sk_f (i := 9) (j := 4) z rfl, sk_f (i := 9) (j := 5) z rfl, sk_f (i := 9) (j := 6) z rfl, sk_f (i := 9) (j := 7) z rfl, sk_f (i := 9) (j := 8) z rfl, sk_t (i := 9) (j := 9) z rfl]
  exact bd_err (mCall_ok (aCons_ok (mv_ok (i := 1) (d := d) rfl) (aCons_ok (mv_ok (i := 2) (d := e) rfl) aNil_ok)) (ge2 h od oe))
theorem call10 {d e f : VD} {s : Store} {x : XD} (h : ∀ s, okD s d → okD s e → f_meets_of [d, e] s = .err x s) (od : okD s d) (oe : okD s e) (ox : okD s x.v) : f__law_call [pI 10, d, e, f] s = .err x s := by
  refine fnM_err (st := entry 4 [pI 10, d, e, f] s) ?_ rfl (rl_ok ox)
  have z : mv 0 (entry 4 [pI 10, d, e, f] s) = .ok (vl (.int 10)) (entry 4 [pI 10, d, e, f] s) := mv_ok rfl
  unfold m__law_call
  rw [sk_f (i := 10) (j := 0) z rfl, sk_f (i := 10) (j := 1) z rfl, sk_f (i := 10) (j := 2) z rfl, sk_f (i := 10) (j := 3) z rfl, sk_f (i := 10) (j := 4) z rfl, sk_f (i := 10) (j := 5) z rfl, sk_f (i := 10) (j := 6) z rfl, sk_f (i := 10) (j := 7) z rfl, sk_f (i := 10) (j := 8) z rfl, sk_f (i := 10) (j := 9) z rfl, sk_t (i := 10) (j := 10) z rfl]
  exact bd_err (mCallK_ok (aCons_ok (mv_ok (i := 2) (d := e) rfl) (aCons_ok (mv_ok (i := 1) (d := d) rfl) aNil_ok)) rfl (ge2 h od oe))
theorem call11 {d e f : VD} {s : Store} {x : XD} (h : ∀ s, okD s d → okD s e → f_are_orthogonal [d, e] s = .err x s) (od : okD s d) (oe : okD s e) (ox : okD s x.v) : f__law_call [pI 11, d, e, f] s = .err x s := by
  refine fnM_err (st := entry 4 [pI 11, d, e, f] s) ?_ rfl (rl_ok ox)
  have z : mv 0 (entry 4 [pI 11, d, e, f] s) = .ok (vl (.int 11)) (entry 4 [pI 11, d, e, f] s) := mv_ok rfl
  unfold m__law_call
  rw [sk_f (i := 11) (j := 0) z rfl, sk_f (i := 11) (j := 1) z rfl, sk_f (i := 11) (j := 2) z rfl, sk_f (i := 11) (j := 3) z rfl, sk_f (i := 11) (j := 4) z rfl, sk_f (i := 11) (j := 5) z rfl, sk_f (i := 11) (j := 6) z rfl, sk_f (i := 11) (j := 7) z rfl, sk_f (i := 11) (j := 8) z rfl, sk_f (i := 11) (j := 9) z rfl, sk_f (i := 11) (j := 10) z rfl, sk_t (i := 11) (j := 11) z rfl]
  exact bd_err (mCall_ok (aCons_ok (mv_ok (i := 1) (d := d) rfl) (aCons_ok (mv_ok (i := 2) (d := e) rfl) aNil_ok)) (ge2 h od oe))
theorem call12 {d e f : VD} {s : Store} {x : XD} (h : ∀ s, okD s d → okD s e → f_lies_below [d, e] s = .err x s) (od : okD s d) (oe : okD s e) (ox : okD s x.v) : f__law_call [pI 12, d, e, f] s = .err x s := by
  refine fnM_err (st := entry 4 [pI 12, d, e, f] s) ?_ rfl (rl_ok ox)
  have z : mv 0 (entry 4 [pI 12, d, e, f] s) = .ok (vl (.int 12)) (entry 4 [pI 12, d, e, f] s) := mv_ok rfl
  unfold m__law_call
  rw [sk_f (i := 12) (j := 0) z rfl, sk_f (i := 12) (j := 1) z rfl, sk_f (i := 12) (j := 2) z rfl, sk_f (i := 12) (j := 3) z rfl, sk_f (i := 12) (j := 4) z rfl, sk_f (i := 12) (j := 5) z rfl, sk_f (i := 12) (j := 6) z rfl, sk_f (i := 12) (j := 7) z rfl, sk_f (i := 12) (j := 8) z rfl, sk_f (i := 12) (j := 9) z rfl, sk_f (i := 12) (j := 10) z rfl, sk_f (i := 12) (j := 11) z rfl, sk_t (i := 12) (j := 12) z rfl]
  exact bd_err (mCallK_ok (aCons_ok (mv_ok (i := 2) (d := e) rfl) (aCons_ok (mv_ok (i := 1) (d := d) rfl) aNil_ok)) rfl (ge2 h od oe))
theorem call13 {d e f : VD} {s : Store} {x : XD} (h : ∀ s, okD s d → okD s e → okD s f → f_row_of [d, e, f] s = .err x s) (od : okD s d) (oe : okD s e) (of : okD s f) (ox : okD s x.v) : f__law_call [pI 13, d, e, f] s = .err x s := by
  refine fnM_err (st := entry 4 [pI 13, d, e, f] s) ?_ rfl (rl_ok ox)
  have z : mv 0 (entry 4 [pI 13, d, e, f] s) = .ok (vl (.int 13)) (entry 4 [pI 13, d, e, f] s) := mv_ok rfl
  unfold m__law_call
  rw [sk_f (i := 13) (j := 0) z rfl, sk_f (i := 13) (j := 1) z rfl, sk_f (i := 13) (j := 2) z rfl, sk_f (i := 13) (j := 3) z rfl, sk_f (i := 13) (j := 4) z rfl, sk_f (i := 13) (j := 5) z rfl, sk_f (i := 13) (j := 6) z rfl, sk_f (i := 13) (j := 7) z rfl, sk_f (i := 13) (j := 8) z rfl, sk_f (i := 13) (j := 9) z rfl, sk_f (i := 13) (j := 10) z rfl, sk_f (i := 13) (j := 11) z rfl, sk_f (i := 13) (j := 12) z rfl]
  exact bd_err (mCall_ok (aCons_ok (mv_ok (i := 1) (d := d) rfl) (aCons_ok (mv_ok (i := 2) (d := e) rfl) (aCons_ok (mv_ok (i := 3) (d := f) rfl) aNil_ok))) (ge3 h od oe of))

/-! ### asked -/
theorem fnM_new {N : Nat} {m : M Fl} {ds : List VD} {s : Store} {f : FT} {st : SS} (h : m (entry N ds s) = .ok (.rt f) st) (hs : st.s = s) (hf : rlF s.length f = true) : fnM N m ds s = .ok f s := fnM_rt h hs hf
/-- the class of an error and the word that tells it -/
def Told (n : String) (w : List Nat) : Prop := (n = "InvalidRow" ∧ w = [114, 111, 119]) ∨ (n = "InvalidSet" ∧ w = [115, 101, 116]) ∨ (n = "InvalidCount" ∧ w = [99, 111, 117, 110, 116])
theorem asked_ok {k : Int} {d e f v : VD} {s : Store} {n : String} {w : List Nat} (hw : Told n w) (h : ∀ s, okD s d → okD s e → okD s f → f__law_call [pI k, d, e, f] s = .err ⟨n, "given", v⟩ s) (od : okD s d) (oe : okD s e) (of : okD s f) (ov : okD s v) :
    f__law_asked [pI k, d, e, f] s = .ok (.new [vl (.str w), .val v]) s := by
  have e1 : (bd (mCall 4 f__law_call (aCons (mv 0) (aCons (mv 1) (aCons (mv 2) (aCons (mv 3) aNil))))) fun _ => sNext) (entry 5 [pI k, d, e, f] s) = .err ⟨n, "given", v⟩ (entry 5 [pI k, d, e, f] s) :=
    bd_err (mCall_ok (aCons_ok (mv_ok (i := 0) (d := pI k) rfl) (aCons_ok (mv_ok (i := 1) (d := d) rfl) (aCons_ok (mv_ok (i := 2) (d := e) rfl) (aCons_ok (mv_ok (i := 3) (d := f) rfl) aNil_ok)))) (ge4 h od oe of))
  have hr : rlF s.length (.new [vl (.str w), .val v]) = true := by
    rw [rlF, rlFs, rlFs, rlFs, vl, rlF, rlF, rl_ok ov, rl]
    rfl
  refine fnM_rt (st := ⟨[some (pI k), some d, some e, some f, none], s, none⟩) ?_ rfl hr
  unfold m__law_asked
  refine sq_rt ?_
  unfold mTry
  rw [e1]
  rcases hw with ⟨rfl, rfl⟩ | ⟨rfl, rfl⟩ | ⟨rfl, rfl⟩
  · rfl
  · rfl
  · rfl
/-! ### blamed -/
theorem blamed_pure {t : T} (h : okS 4 t = true) (hl : isa (tyT t) .lst = false) : f__law_blamed [.pure t, .pure t] [] = .ok (vl (.bl true)) [] := by
  have c : mCallB 2 (f__law_same 4) (aCons (mv 0) (aCons (mv 1) aNil)) ⟨[some (.pure t), some (.pure t)], [], none⟩ = .ok (vl (.bl true)) ⟨[some (.pure t), some (.pure t)], [], none⟩ := callB_same (t := t) (mv_ok rfl) (mv_ok rfl) h
  have i : bd (mIsi .lst (mv 1)) tru ⟨[some (.pure t), some (.pure t)], [], none⟩ = .ok false ⟨[some (.pure t), some (.pure t)], [], none⟩ := by
    have e : mIsi .lst (mv 1) ⟨[some (.pure t), some (.pure t)], [], none⟩ = .ok (vl (.bl (isa (tyT t) .lst))) ⟨[some (.pure t), some (.pure t)], [], none⟩ := rfl
    rw [hl] at e
    exact tru_b e
  have n : tNotM (bd (mCallB 2 (f__law_same 4) (aCons (mv 0) (aCons (mv 1) aNil))) tru) ⟨[some (.pure t), some (.pure t)], [], none⟩ = .ok false ⟨[some (.pure t), some (.pure t)], [], none⟩ := by
    unfold tNotM
    rw [bd_ok (tru_b c)]
    rfl
  refine fnM_rt (st := ⟨[some (.pure t), some (.pure t)], [], none⟩) ?_ rfl (rlF_v _ _)
  show m__law_blamed ⟨[some (.pure t), some (.pure t)], [], none⟩ = _
  unfold m__law_blamed
  rw [sq_nx (if_fn n), sq_nx (if_fn i)]
  exact ret_ok c
theorem rsV_cell {s : Store} {k : Nat} {ts : List T} (h : s[k]? = some (some (ts.map VD.pure))) : rd (.val (.cell k)) ⟨ds, s, x⟩ = .ok (.lst ts) ⟨ds, s, x⟩ := by
  have e : ∀ ts : List T, (ts.map VD.pure).mapM (rsV s 4) = some ts := fun ts => by
    induction ts with
    | nil => rfl
    | cons a r ih => rw [List.map_cons, List.mapM_cons, ih]; rfl
  unfold rd
  rw [rsF, rsV, h]
  simp only [e]
  rfl
theorem callB_cell {i j k : Nat} {st : SS} {ts : List T} (hi : mv i st = .ok (.val (.cell k)) st) (hj : mv j st = .ok (.val (.cell k)) st) (hs : st.s[k]? = some (some (ts.map VD.pure))) (ok : okS 4 (.lst ts) = true) : mCallB 2 (f__law_same 4) (aCons (mv i) (aCons (mv j) aNil)) st = .ok (vl (.bl true)) st := by
  unfold mCallB
  rw [bd_ok (aCons_ok hi (aCons_ok hj aNil_ok))]
  have e : rds [.val (.cell k), .val (.cell k)] st = .ok [.lst ts, .lst ts] st := by
    have r : rd (.val (.cell k)) st = .ok (.lst ts) st := rsV_cell hs
    unfold rds
    rw [bd_ok r]
    unfold rds
    rw [bd_ok (bd_ok r |>.trans rfl : (bd (rd (.val (.cell k))) fun t => bd (rds []) fun ts => rt (t :: ts)) st = .ok [.lst ts] st)]
    rfl
  rw [bd_ok e]
  exact goB_t (same_refl 4 _ ok)
theorem blamed_cell {k : Nat} {s : Store} {ts : List T} (hs : s[k]? = some (some (ts.map VD.pure))) (ok : okS 4 (.lst ts) = true) (ok2 : okS 4 (.lst (ts ++ [T.int 7])) = true) : f__law_blamed [.cell k, .cell k] s = .ok (vl (.bl true)) (s.set k (some ((ts ++ [T.int 7]).map VD.pure))) := by
  have hk : k < s.length := (List.getElem?_eq_some_iff.mp hs).1
  have hs2 : (s.set k (some ((ts ++ [T.int 7]).map VD.pure)))[k]? = some (some ((ts ++ [T.int 7]).map VD.pure)) := by simp [hk]
  let A : SS := ⟨[some (.cell k), some (.cell k)], s, none⟩
  let B : SS := ⟨[some (.cell k), some (.cell k)], s.set k (some ((ts ++ [T.int 7]).map VD.pure)), none⟩
  have hz : ts.length ≤ 1000 := by
    unfold okS at ok
    rw [Bool.and_eq_true, decide_eq_true_eq] at ok
    exact ok.1
  have c1 : mCallB 2 (f__law_same 4) (aCons (mv 0) (aCons (mv 1) aNil)) A = .ok (vl (.bl true)) A := callB_cell (mv_ok rfl) (mv_ok rfl) hs ok
  have c2 : mCallB 2 (f__law_same 4) (aCons (mv 0) (aCons (mv 1) aNil)) B = .ok (vl (.bl true)) B := callB_cell (mv_ok rfl) (mv_ok rfl) hs2 ok2
  have n : tNotM (bd (mCallB 2 (f__law_same 4) (aCons (mv 0) (aCons (mv 1) aNil))) tru) A = .ok false A := by
    unfold tNotM
    rw [bd_ok (tru_b c1)]
    rfl
  have i : bd (mIsi .lst (mv 1)) tru A = .ok true A := by
    refine tru_b ?_
    unfold mIsi
    rw [bd_ok (mv_ok (i := 1) (st := A) (d := .cell k) rfl)]
    have : mTy (.val (.cell k)) A = .ok .lst A := by simp [mTy, A, hs]
    rw [bd_ok this]
    rfl
  have ap : mCm (oApp 0) (mv 1) (aCons (rt (vl (.int 7))) aNil) A = .ok (vl .non) B := by
    unfold mCm
    rw [bd_ok (mv_ok (i := 1) (st := A) (d := .cell k) rfl)]
    have e1 : kOf (.val (.cell k)) A = .ok k A := by simp [kOf, A, hs]
    rw [bd_ok e1, bd_ok (aCons_ok rt_ok aNil_ok)]
    unfold oApp
    have e2 : mAl 0 (vl (.int 7)) A = .ok (pI 7) A := rfl
    have e3 : cel k A = .ok (ts.map VD.pure) A := by simp [cel, A, hs]
    have e4 : Ob.guard (decide ((ts.map VD.pure).length < lim)) A = .ok () A := by
      unfold Ob.guard
      rw [if_pos (decide_eq_true (by rw [List.length_map]; exact Nat.lt_of_le_of_lt hz (by decide)))]
    show (bd (mAl 0 (vl (.int 7))) fun d => bd (cel k) fun c => bd (Ob.guard (decide (c.length < lim))) fun _ => bd (wrc k (c ++ [d])) fun _ => rt (vl .non)) A = _
    rw [bd_ok e2, bd_ok e3, bd_ok e4]
    have e5 : ts.map VD.pure ++ [pI 7] = (ts ++ [T.int 7]).map VD.pure := by rw [List.map_append]; rfl
    show Res.ok (vl .non) (⟨A.d, A.s.set k (some (ts.map VD.pure ++ [pI 7])), A.x⟩ : SS) = _
    rw [e5]
  refine fnM_box (st := B) ?_ rfl (by simp) (rlF_v _ _)
  show m__law_blamed A = _
  unfold m__law_blamed
  rw [sq_nx (if_fn n), sq_nx ((if_t i).trans (by rw [bd_ok ap]; rfl))]
  exact ret_ok c2
end Ob.K00
/-! # Ks: values that are no rows -/
namespace Ob.K00
open PySem PySem.Spec PyProof.Rows L2 Ob

theorem mAnd_f {ma mb : M FT} {st st1 : SS} (h : ma st = .ok (vl (.bl false)) st1) : mAnd ma mb st = .ok (vl (.bl false)) st1 := by
  unfold mAnd
  rw [bd_ok h]
  rfl
theorem ch_ok {a b : Int} {m : M FT} {i : Int} {st : SS} (h : m st = .ok (vl (.int i)) st) : m3 oLeI oLeI (rt (vl (.int a))) m (rt (vl (.int b))) st = .ok (vl (.bl (decide (a ≤ i) && decide (i ≤ b)))) st := by
  unfold m3
  rw [bd_ok (rt_ok (f := vl (.int a))), bd_ok h]
  have e : oLeI (vl (.int a)) (vl (.int i)) st = .ok (vl (.bl (decide (a ≤ i)))) st := rfl
  have e2 : oLeI (vl (.int i)) (vl (.int b)) st = .ok (vl (.bl (decide (i ≤ b)))) st := rfl
  rw [bd_ok e]
  by_cases c : a ≤ i
  · have t1 : tb (vl (.bl true)) st = .ok true st := rfl
    rw [decide_eq_true c, bd_ok t1, if_pos rfl, bd_ok (rt_ok (f := vl (.int b))), e2]
    rfl
  · have t1 : tb (vl (.bl false)) st = .ok false st := rfl
    rw [decide_eq_false c, bd_ok t1, if_neg (by decide)]
    rfl
abbrev liS (t : T) (s : Store) : SS := ⟨[some (.pure t), none], s, none⟩
theorem c_li {r : List Nat} {s : Store} (h : r.length ≤ lim) : c__law_is_row_0 (liS (.str r) s) = .ok (.new ((r.filter fun c => !sgn c).map fun c => FT.val (.pure (.str [c])))) (liS (.str r) s) := by
  unfold c__law_is_row_0
  rw [lc_one (u := .str r) (ts := chs r) (fun x => match x with | .str [c] => if (!sgn c) = true then some (vl (.str [c])) else none | _ => none) (mv_ok rfl) rfl (fun x hx => ?_) (by rw [chs, List.length_map]; exact h), chs, filterMap_map', ← fm_if]
  obtain ⟨c, hc, rfl⟩ := List.mem_map.mp hx
  have e : bd (m2 (oIn true) (mv 1) (rt (vl (.str [43, 45, 48])))) tb (({ liS (.str r) s with d := wipeL (liS (.str r) s).d [1] } : SS).put 1 (.pure (.str [c]))) = .ok (!sgn c) (({ liS (.str r) s with d := wipeL (liS (.str r) s).d [1] } : SS).put 1 (.pure (.str [c]))) := tb_ok (m2_ok (mv_ok (i := 1) rfl) rt_ok rfl)
  by_cases g : sgn c = true
  · rw [g] at e
    rw [body_no e]
    show _ = Res.ok (if (!sgn c) = true then some (vl (.str [c])) else none) _
    rw [g]
    rfl
  · rw [Bool.not_eq_true] at g
    rw [g] at e
    rw [body_yes (f := vl (.str [c])) e (mv_ok rfl)]
    show _ = Res.ok (if (!sgn c) = true then some (vl (.str [c])) else none) _
    rw [g]
    rfl
theorem e_law_is_row (t : T) (s : Store) (hz : ∀ r, t = .str r → r.length ≤ lim) : f__law_is_row [.pure t] s = .ok (vl (.bl (isRow t))) s := by
  refine fnM_rt (st := liS t s) ?_ rfl (rlF_v _ _)
  show m__law_is_row (liS t s) = _
  have i : mIsi .str (mv 0) (liS t s) = .ok (vl (.bl (isa (tyT t) .str))) (liS t s) := rfl
  by_cases hs : ∃ r, t = .str r
  · obtain ⟨r, rfl⟩ := hs
    refine ret_ok ((mAnd_t i).trans ?_)
    have c := ch_ok (a := 1) (b := 8) (len_s (m := mv 0) (st := liS (.str r) s) (r := r) (mv_ok rfl))
    by_cases b : (decide (1 ≤ (r.length : Int)) && decide ((r.length : Int) ≤ 8)) = true
    · rw [b] at c
      rw [mAnd_t c]
      refine m2_ok (c_li (hz r rfl)) (lst_ok aNil_ok rfl) ((eq_new_nil (g := fun c => T.str [c]) (fun _ => rfl) _ _).trans ?_)
      rw [Bool.and_eq_true, decide_eq_true_eq, decide_eq_true_eq] at b
      have e : isRow (.str r) = r.all sgn := by
        show (decide (1 ≤ r.length) && decide (r.length ≤ 8) && r.all sgn) = _
        rw [decide_eq_true (by omega), decide_eq_true (by omega)]
        rfl
      rw [e]
      congr 4
      rw [Bool.eq_iff_iff, List.isEmpty_iff, List.filter_eq_nil_iff, List.all_eq_true]
      simp
    · rw [Bool.not_eq_true] at b
      rw [b] at c
      rw [mAnd_f c]
      have e : isRow (.str r) = false := by
        show (decide (1 ≤ r.length) && decide (r.length ≤ 8) && r.all sgn) = _
        rw [Bool.and_eq_false_iff] at b
        rcases b with b | b
        · rw [decide_eq_false_iff_not] at b
          rw [decide_eq_false (by omega : ¬1 ≤ r.length)]
          rfl
        · rw [decide_eq_false_iff_not] at b
          rw [decide_eq_false (by omega : ¬r.length ≤ 8)]
          simp
      rw [e]
  · have e : isa (tyT t) .str = false ∧ isRow t = false := by
      cases t <;> first | exact absurd ⟨_, rfl⟩ hs | exact ⟨rfl, rfl⟩
    rw [e.1] at i
    rw [e.2]
    exact ret_ok (mAnd_f i)
/-! ### _law_odd_rows -/
def odd (r : List Nat) : List T := [.non, .int 5, .str [], .str [120], .str (cutL r none (some (-1)) ++ [120]), .str (r ++ (List.replicate (9 - r.length) [43]).flatten), .lst [.str r], .tup [.str r], .dct [] [], .bl true, .str ([32] ++ r.drop 1), .lst (chs r), .str [43, 32], .str [43, 43, 10], .str (List.replicate r.length [112]).flatten]
theorem flat_rep (k a : Nat) : (List.replicate k [a]).flatten.length = k := by
  induction k with
  | zero => rfl
  | succ n ih => rw [List.replicate_succ, List.flatten_cons, List.length_append, ih]; simp; omega
def okB (t : T) : Bool := okS 4 t && match t with
  | .lst ts => okS 4 (.lst (ts ++ [.int 7]))
  | _ => true
def nx : T → Bool
  | .xl _ => false
  | _ => true
/-- no row, or a row, but a value that can be looked at -/
structure Ok1 (t : T) : Prop where
  z : ∀ r, t = .str r → r.length ≤ lim
  b : okB t = true
  x : nx t = true
theorem ok1_s {r : List Nat} (h : r.length ≤ 20) : Ok1 (.str r) := ⟨fun q e => by cases e; exact Nat.le_trans h (by decide), by
  have : okS 4 (.str r) = true := by unfold okS; exact decide_eq_true (by omega)
  unfold okB
  rw [this]
  rfl, rfl⟩
theorem chs_ok {r : List Nat} (n : Nat) : (chs r).all (okS (n + 1)) = true := by
  rw [List.all_eq_true]
  intro t h
  obtain ⟨c, _, rfl⟩ := List.mem_map.mp h
  rfl
theorem ok1_odd {r : List Nat} (h : Row r) : ∀ t ∈ odd r, Ok1 t := by
  have hb := h.b
  have s1 : Ok1 (.str (cutL r none (some (-1)) ++ [120])) := ok1_s (by
    have := cutL_len r none (some (-1))
    rw [List.length_append]
    show _ + 1 ≤ 20
    omega)
  have s2 : Ok1 (.str (r ++ (List.replicate (9 - r.length) [43]).flatten)) := ok1_s (by
    rw [List.length_append, flat_rep]; omega)
  have s3 : Ok1 (.str ([32] ++ r.drop 1)) := ok1_s (by
    rw [List.length_append, List.length_drop]
    show 1 + _ ≤ 20
    omega)
  have s4 : Ok1 (.str (List.replicate r.length [112]).flatten) := ok1_s (by rw [flat_rep]; omega)
  have r3 : okS 3 (.str r) = true := okS_s (n := 2) hb
  have l1 : Ok1 (.lst [.str r]) := ⟨(fun _ e => by cases e), by
    unfold okB
    have e1 : okS 4 (.lst [.str r]) = true := by
      show (decide _ && List.all _ (okS 3)) = true
      simp only [List.all_cons, List.all_nil, r3]
      rfl
    have e2 : okS 4 (.lst ([.str r] ++ [.int 7])) = true := by
      show (decide _ && List.all ([.str r] ++ [.int 7]) (okS 3)) = true
      simp only [List.all_cons, List.all_nil, List.all_append, r3]
      rfl
    simp only [e1, e2]
    rfl, rfl⟩
  have l2 : Ok1 (.tup [.str r]) := ⟨(fun _ e => by cases e), by
    unfold okB
    have e1 : okS 4 (.tup [.str r]) = true := by
      show (decide _ && List.all _ (okS 3)) = true
      simp only [List.all_cons, List.all_nil, r3]
      rfl
    simp only [e1]
    rfl, rfl⟩
  have l3 : Ok1 (.lst (chs r)) := ⟨(fun _ e => by cases e), by
    unfold okB
    have z : (chs r).length ≤ 8 := by rw [chs, List.length_map]; exact hb
    have e1 : okS 4 (.lst (chs r)) = true := by
      show (decide _ && List.all _ (okS 3)) = true
      rw [chs_ok, decide_eq_true (by omega)]
      rfl
    have e2 : okS 4 (.lst (chs r ++ [.int 7])) = true := by
      show (decide _ && List.all (chs r ++ [.int 7]) (okS 3)) = true
      rw [List.all_append, chs_ok, decide_eq_true (by rw [List.length_append]; show _ + 1 ≤ 1000; omega)]
      rfl
    simp only [e1, e2]
    rfl, rfl⟩
  have k : ∀ t, nx t = true → okB t = true → (∀ q, t ≠ .str q) → Ok1 t := fun t a b c => ⟨fun q e => absurd e (c q), b, a⟩
  intro t ht
  simp only [odd, List.mem_cons, List.not_mem_nil, or_false] at ht
  rcases ht with rfl | rfl | rfl | rfl | rfl | rfl | rfl | rfl | rfl | rfl | rfl | rfl | rfl | rfl | rfl
  · exact k _ rfl rfl (fun _ e => by cases e)
  · exact k _ rfl rfl (fun _ e => by cases e)
  · exact ok1_s (by decide)
  · exact ok1_s (by decide)
  · exact s1
  · exact s2
  · exact l1
  · exact l2
  · exact k _ rfl rfl (fun _ e => by cases e)
  · exact k _ rfl rfl (fun _ e => by cases e)
  · exact s3
  · exact l3
  · exact ok1_s (by decide)
  · exact ok1_s (by decide)
  · exact s4
theorem rlFs_v : ∀ {fs : List FT}, (∀ f ∈ fs, ∀ n, rlF n f = true) → ∀ n, rlFs n fs = true
  | [], _, n => by rw [rlFs]
  | f :: r, h, n => by rw [rlFs, h f (.head _) n, rlFs_v (fun g hg => h g (.tail _ hg)) n]; rfl
theorem tup_ok {ms : M (List FT)} {st st1 : SS} {fs : List FT} (h : ms st = .ok fs st1) (g : decide (fs.length ≤ lim) = true) : mTup ms st = .ok (.val (mkTup (fs.map fz))) st1 := by
  unfold mTup
  rw [bd_ok h]
  unfold bd Ob.guard
  rw [if_pos g]
  rfl
def oddF (r : List Nat) : FT := .new [vl .non, vl (.int 5), vl (.str []), vl (.str [120]), vl (.str (cutL r none (some (-1)) ++ [120])), vl (.str (r ++ (List.replicate (9 - r.length) [43]).flatten)), .new [vl (.str r)], vl (.tup [.str r]), vl (.dct [] []), vl (.bl true), vl (.str ([32] ++ r.drop 1)), .new ((chs r).map fun t => FT.val (.pure t)), vl (.str [43, 32]), vl (.str [43, 43, 10]), vl (.str (List.replicate r.length [112]).flatten)]
theorem fz_odd (r : List Nat) : fz (oddF r) = .pure (.lst (odd r)) := by
  have e : fz (.new ((chs r).map fun t => FT.val (.pure t))) = .pure (.lst (chs r)) := fz_lst rfl
  unfold oddF
  rw [fz]
  simp only [fzs, e]
  rfl
theorem e_odd {r : List Nat} {s : Store} (h : Row r) : f__law_odd_rows [.pure (.str r)] s = .ok (oddF r) s := by
  have hb := h.b
  let S : SS := ⟨[some (.pure (.str r))], s, none⟩
  have m0 : mv 0 S = .ok (vl (.str r)) S := mv_ok rfl
  have x4 : m2 oAdd (mSl (mv 0) pNone (bd (m1 oNeg (rt (vl (.int 1)))) asInt)) (rt (vl (.str [120]))) S = .ok (vl (.str (cutL r none (some (-1)) ++ [120]))) S := by
    have e : mSl (mv 0) pNone (bd (m1 oNeg (rt (vl (.int 1)))) asInt) S = .ok (vl (.str (cutL r none (some (-1))))) S := by
      unfold mSl
      have e0 : bd (m1 oNeg (rt (vl (.int 1)))) asInt S = .ok (some (-1)) S := rfl
      rw [bd_ok m0, bd_ok (m := pNone) (a := none) (st' := S) rfl, bd_ok e0]
      rfl
    refine m2_ok e rt_ok (str_app ?_ _)
    have := cutL_len r none (some (-1))
    show _ + 1 ≤ 1000000
    omega
  have x5 : m2 oAdd (mv 0) (m2 oMul (rt (vl (.str [43]))) (m2 oSub (rt (vl (.int 9))) (mCa bLenU (aCons (mv 0) aNil)))) S = .ok (vl (.str (r ++ (List.replicate (9 - r.length) [43]).flatten))) S := by
    have e : ((9 : Int) - (r.length : Int)) = ((9 - r.length : Nat) : Int) := by omega
    have e1 : m2 oSub (rt (vl (.int 9))) (mCa bLenU (aCons (mv 0) aNil)) S = .ok (vl (.int ((9 - r.length : Nat) : Int))) S := by
      rw [← e]
      exact m2_ok rt_ok (len_s m0) (sub_ok _)
    refine m2_ok m0 (m2_ok rt_ok e1 (rep_ok (by have := h.a; omega) _)) (str_app ?_ _)
    rw [flat_rep]
    omega
  have x6 : mLst (aCons (mv 0) aNil) S = .ok (.new [vl (.str r)]) S := lst_ok (aCons_ok m0 aNil_ok) rfl
  have x7 : mTup (aCons (mv 0) aNil) S = .ok (vl (.tup [.str r])) S := tup_ok (aCons_ok m0 aNil_ok) rfl
  have x10 : m2 oAdd (rt (vl (.str [32]))) (mSl (mv 0) (bd (rt (vl (.int 1))) asInt) pNone) S = .ok (vl (.str ([32] ++ r.drop 1))) S := by
    refine m2_ok rt_ok (sl_from (j := 1) m0 rt_ok h.a) (str_app ?_ _)
    rw [List.length_drop]
    show 1 + _ ≤ 1000000
    omega
  have x11 : mCa bListU (aCons (mv 0) aNil) S = .ok (.new ((chs r).map fun t => FT.val (.pure t))) S := by
    refine mCa_ok (aCons_ok m0 aNil_ok) ?_
    rw [chs, List.map_map]
    rfl
  have x14 : m2 oMul (rt (vl (.str [112]))) (mCa bLenU (aCons (mv 0) aNil)) S = .ok (vl (.str (List.replicate r.length [112]).flatten)) S := m2_ok rt_ok (len_s m0) (rep_ok hb _)
  have hr : rlF s.length (oddF r) = true := by
    unfold oddF
    rw [rlF]
    refine rlFs_v (fun f hf n => ?_) _
    have v : ∀ t, rlF n (vl t) = true := fun t => rlF_v n t
    have q : rlF n (.new ((chs r).map fun t => FT.val (.pure t))) = true := rlF_new n (fun t => t) _
    have q2 : rlF n (.new [vl (.str r)]) = true := by rw [rlF, rlFs, v, rlFs]; rfl
    simp only [List.mem_cons, List.not_mem_nil, or_false] at hf
    rcases hf with rfl | rfl | rfl | rfl | rfl | rfl | rfl | rfl | rfl | rfl | rfl | rfl | rfl | rfl | rfl <;> first | exact v _ | exact q | exact q2
  refine fnM_rt (st := S) (ret_ok (lst_ok (aCons_ok rt_ok (aCons_ok rt_ok (aCons_ok rt_ok (aCons_ok rt_ok (aCons_ok x4 (aCons_ok x5 (aCons_ok x6 (aCons_ok x7 (aCons_ok rt_ok (aCons_ok rt_ok (aCons_ok x10 (aCons_ok x11 (aCons_ok rt_ok (aCons_ok rt_ok (aCons_ok x14 aNil_ok))))))))))))))) rfl)) rfl hr
end Ob.K00
/-! # Kt: the refusals, one by one -/
namespace Ob.K00
open PySem PySem.Spec PyProof.Rows L2 Ob

def isL : T → Bool
  | .lst _ => true
  | _ => false
/-- the shape of a copy -/
def Sh (t : T) (d : VD) : Prop := (isL t = false ∧ d = .pure t) ∨ (isL t = true ∧ ∃ k, d = .cell k)
/-- a copy of a value; new cells lie from lo on -/
def Cp (lo : Nat) (s : Store) (t : T) (d : VD) : Prop := (isL t = false ∧ d = .pure t) ∨ ∃ xs k, t = .lst xs ∧ d = .cell k ∧ lo ≤ k ∧ s[k]? = some (some (xs.map VD.pure))
theorem Cp.ok {lo : Nat} {s : Store} {t : T} {d : VD} (h : Cp lo s t d) : okD s d := by
  rcases h with ⟨_, e⟩ | ⟨xs, k, _, e, _, g⟩
  · exact .inl ⟨t, e⟩
  · exact .inr ⟨k, _, e, g⟩
theorem Cp.sh {lo : Nat} {s : Store} {t : T} {d : VD} (h : Cp lo s t d) : Sh t d := by
  rcases h with h | ⟨xs, k, e, e2, _, _⟩
  · exact .inl h
  · subst e; exact .inr ⟨rfl, k, e2⟩
theorem Cp.mono {lo : Nat} {s : Store} {t : T} {d : VD} (h : Cp lo s t d) (ex : Store) : Cp lo (s ++ ex) t d := by
  rcases h with h | ⟨xs, k, e, e2, l, g⟩
  · exact .inl h
  · exact .inr ⟨xs, k, e, e2, l, by rw [List.getElem?_append_left (List.getElem?_eq_some_iff.mp g).1]; exact g⟩
theorem sh_pure {t : T} {d : VD} (h : isL t = false) (s : Sh t d) : d = .pure t := by
  rcases s with ⟨_, e⟩ | ⟨c, _⟩
  · exact e
  · rw [h] at c; cases c
theorem sh_row {t : T} {d : VD} (h : isRow t = false) (z : ∀ r, t = .str r → r.length ≤ lim) (s : Sh t d) : BadRow d := by
  rcases s with ⟨_, e⟩ | ⟨_, k, e⟩
  · exact .inl ⟨t, e, h, z⟩
  · exact .inr ⟨k, e⟩
theorem sh_of {n : Int} {t : T} {d : VD} (h : isSg n t = false) (z : ∀ r, t = .str r → r.length ≤ lim) (s : Sh t d) : BadOf n d := by
  rcases s with ⟨_, e⟩ | ⟨_, k, e⟩
  · exact .inl ⟨t, e, h, z⟩
  · exact .inr ⟨k, e⟩
theorem sh_set {n : Int} {t : T} {d : VD} (h : isEl n t = false) (z : ∀ ts, t = .tup ts → ts.length ≤ 1000000) (s : Sh t d) : BadSet n d := by
  rcases s with ⟨_, e⟩ | ⟨_, k, e⟩
  · exact .inl ⟨t, e, h, z⟩
  · exact .inr ⟨k, e⟩
theorem sh_cnt {t : T} {d : VD} (h : isB 1 8 t = false) (s : Sh t d) : BadCount d := by
  rcases s with ⟨_, e⟩ | ⟨_, k, e⟩
  · exact .inl ⟨t, e, h⟩
  · exact .inr ⟨k, e⟩
def pickD : Nat → VD → VD → VD → VD
  | 0, a, _, _ => a
  | 1, _, b, _ => b
  | _, _, _, c => c
def pickT : Nat → T → T → T → T
  | 0, a, _, _ => a
  | 1, _, b, _ => b
  | _, _, _, c => c
structure Ask (kind : Int) (a b c : T) (w : List Nat) (at_ : Nat) : Prop where
  na : nx a = true
  nb : nx b = true
  nc : nx c = true
  ob : okB (pickT at_ a b c) = true
  er : ∃ n, Told n w ∧ ∀ d0 d1 d2, Sh a d0 → Sh b d1 → Sh c d2 → ∀ s, okD s d0 → okD s d1 → okD s d2 → f__law_call [pI kind, d0, d1, d2] s = .err ⟨n, "given", pickD at_ d0 d1 d2⟩ s
theorem ask_a {i : Nat} (hi : i < 13) {a b : T} (ha : Ok1 a) (ra : isRow a = false) (hb : Ok1 b) : Ask (i : Nat) a b .non [114, 111, 119] 0 := by
  refine ⟨ha.x, hb.x, rfl, ha.b, "InvalidRow", .inl ⟨rfl, rfl⟩, fun d0 d1 d2 h0 h1 h2 s o0 o1 o2 => ?_⟩
  have bad : BadRow d0 := sh_row ra ha.z h0
  match i, hi with
  | 0, _ => exact call0 (fun s o => plus_bad o bad) o0 o0
  | 1, _ => exact call1 (fun s o => minus_bad o bad) o0 o0
  | 2, _ => exact call2 (fun s o => zero_bad o bad) o0 o0
  | 3, _ => exact call3 (fun s o => supp_bad o bad) o0 o0
  | 4, _ => exact call4 (fun s o => opp_bad o bad) o0 o0
  | 5, _ => exact call5 (fun s o p => turned_b1 o p bad) o0 o1 o0
  | 6, _ => exact call6 (fun s o p => part_b1 o p bad) o0 o1 o0
  | 7, _ => exact call7 (fun s o p => composed_b1 o p bad) o0 o1 o0
  | 8, _ => exact call8 (fun s o p => product_b1 o p bad) o0 o1 o0
  | 9, _ => exact call9 (fun s o p => parted_b1 o p bad) o0 o1 o0
  | 10, _ => exact call10 (fun s o p => meets_b1 o p bad) o0 o1 o0
  | 11, _ => exact call11 (fun s o p => orth_b1 o p bad) o0 o1 o0
  | 12, _ => exact call12 (fun s o p => below_b1 o p bad) o0 o1 o0
theorem ask_b {i : Nat} (h7 : 7 ≤ i) (hi : i < 13) {r : List Nat} {b : T} (h : Row r) (hb : Ok1 b) (rb : isSg (r.length : Nat) b = false) : Ask (i : Nat) (.str r) b .non [114, 111, 119] 1 := by
  refine ⟨rfl, hb.x, rfl, hb.b, "InvalidRow", .inl ⟨rfl, rfl⟩, fun d0 d1 d2 h0 h1 h2 s o0 o1 o2 => ?_⟩
  have bad : BadOf (r.length : Nat) d1 := sh_of rb hb.z h1
  have e0 : d0 = .pure (.str r) := sh_pure rfl h0
  subst e0
  match i, h7, hi with
  | 7, _, _ => exact call7 (fun s _ p => composed_b2 h p bad) o0 o1 o1
  | 8, _, _ => exact call8 (fun s _ p => product_b2 h p bad) o0 o1 o1
  | 9, _, _ => exact call9 (fun s _ p => parted_b2 h p bad) o0 o1 o1
  | 10, _, _ => exact call10 (fun s _ p => meets_b2 h p bad) o0 o1 o1
  | 11, _, _ => exact call11 (fun s _ p => orth_b2 h p bad) o0 o1 o1
  | 12, _, _ => exact call12 (fun s _ p => below_b2 h p bad) o0 o1 o1
/-- a value that is no set of elements -/
structure OkS (n : Nat) (t : T) : Prop where
  e : isEl n t = false
  z : ∀ ts, t = .tup ts → ts.length ≤ 1000000
  b : okB t = true
  x : nx t = true
theorem ask_5 {r : List Nat} {b : T} (h : Row r) (hb : OkS r.length b) : Ask 5 (.str r) b .non [115, 101, 116] 1 := by
  refine ⟨rfl, hb.x, rfl, hb.b, "InvalidSet", .inr (.inl ⟨rfl, rfl⟩), fun d0 d1 d2 h0 h1 h2 s o0 o1 o2 => ?_⟩
  have e0 : d0 = .pure (.str r) := sh_pure rfl h0
  subst e0
  exact call5 (fun s _ p => turned_b2 h p (sh_set hb.e hb.z h1)) o0 o1 o1
theorem ask_6 {r : List Nat} {b : T} (h : Row r) (hb : OkS r.length b) : Ask 6 (.str r) b .non [115, 101, 116] 1 := by
  refine ⟨rfl, hb.x, rfl, hb.b, "InvalidSet", .inr (.inl ⟨rfl, rfl⟩), fun d0 d1 d2 h0 h1 h2 s o0 o1 o2 => ?_⟩
  have e0 : d0 = .pure (.str r) := sh_pure rfl h0
  subst e0
  exact call6 (fun s _ p => part_b2 h p (sh_set hb.e hb.z h1)) o0 o1 o1
theorem ask_13a {n : Nat} {b : T} (l1 : 1 ≤ n) (l8 : n ≤ 8) (hb : OkS n b) : Ask 13 (nT n) b .non [115, 101, 116] 1 := by
  refine ⟨rfl, hb.x, rfl, hb.b, "InvalidSet", .inr (.inl ⟨rfl, rfl⟩), fun d0 d1 d2 h0 h1 h2 s o0 o1 o2 => ?_⟩
  have e0 : d0 = .pure (nT n) := sh_pure rfl h0
  subst e0
  exact call13 (fun s _ p _ => row_of_b1 l1 l8 p (sh_set hb.e hb.z h1)) o0 o1 o2 o1
theorem ask_13b {n : Nat} {b : T} (l1 : 1 ≤ n) (l8 : n ≤ 8) (hb : OkS n b) : Ask 13 (nT n) (.tup []) b [115, 101, 116] 2 := by
  refine ⟨rfl, rfl, hb.x, hb.b, "InvalidSet", .inr (.inl ⟨rfl, rfl⟩), fun d0 d1 d2 h0 h1 h2 s o0 o1 o2 => ?_⟩
  have e0 : d0 = .pure (nT n) := sh_pure rfl h0
  have e1 : d1 = .pure (.tup []) := sh_pure rfl h1
  subst e0 e1
  exact call13 (fun s _ _ p => row_of_b2 (p := []) l1 l8 (by simp) .nil p (sh_set hb.e hb.z h2)) o0 o1 o2 o2
theorem ask_13c {n : Nat} {p m : List Nat} (l1 : 1 ≤ n) (l8 : n ≤ 8) (hp : ∀ k ∈ p, k < n) (pp : p.Pairwise (· < ·)) (hm : ∀ k ∈ m, k < n) (pm : m.Pairwise (· < ·)) (c : ∃ k ∈ m, k ∈ p) : Ask 13 (nT n) (el p) (el m) [115, 101, 116] 2 := by
  refine ⟨rfl, rfl, rfl, ?_, "InvalidSet", .inr (.inl ⟨rfl, rfl⟩), fun d0 d1 d2 h0 h1 h2 s o0 o1 o2 => ?_⟩
  · have : okS 4 (el m) = true := okS_el (n := 2) (Nat.le_trans (len_el hm pm) l8)
    show (okS 4 (el m) && true) = true
    rw [this]
    rfl
  have e0 : d0 = .pure (nT n) := sh_pure rfl h0
  have e1 : d1 = .pure (el p) := sh_pure rfl h1
  have e2 : d2 = .pure (el m) := sh_pure rfl h2
  subst e0 e1 e2
  exact call13 (fun s _ _ _ => row_of_b3 l1 l8 hp pp hm pm c) o0 o1 o2 o2
theorem ask_13n {a b c : T} (ha : isB 1 8 a = false) (ob : okB a = true) (na : nx a = true) (nb : nx b = true) (nc : nx c = true) : Ask 13 a b c [99, 111, 117, 110, 116] 0 := by
  refine ⟨na, nb, nc, ob, "InvalidCount", .inr (.inr ⟨rfl, rfl⟩), fun d0 d1 d2 h0 h1 h2 s o0 o1 o2 => ?_⟩
  exact call13 (fun s p _ _ => row_of_b0 p (sh_cnt ha h0)) o0 o1 o2 o0
/-! ### copies -/
def cpF : T → FT
  | .lst xs => .new (xs.map fun t => .val (.pure t))
  | t => vl t
theorem copy_ok {t : T} (h : nx t = true) : f__law_copy [.pure t] [] = .ok (cpF t) [] := by
  have i : bd (mIsi .lst (mv 0)) tru ⟨[some (.pure t)], [], none⟩ = .ok (isL t) ⟨[some (.pure t)], [], none⟩ := by
    have e : mIsi .lst (mv 0) ⟨[some (.pure t)], [], none⟩ = .ok (vl (.bl (isa (tyT t) .lst))) ⟨[some (.pure t)], [], none⟩ := rfl
    have e2 : isa (tyT t) .lst = isL t := by cases t <;> first | rfl | cases h
    rw [e2] at e
    exact tru_b e
  refine fnM_rt (st := ⟨[some (.pure t)], [], none⟩) (ret_ok (mIf_ok i ?_)) rfl ?_
  · cases t <;> rfl
  · cases t <;> first | exact rlF_v _ _ | exact rlF_new _ (fun t => t) _
theorem fold0 : ∀ (xs : List T) (acc : List VD) (s : Store), (xs.map fun t => FT.val (.pure t)).foldl (fun q f => let z := alF 0 f q.2; (q.1 ++ [z.1], z.2)) (acc, s) = (acc ++ xs.map VD.pure, s)
  | [], acc, s => by simp
  | x :: r, acc, s => by
    rw [List.map_cons, List.foldl_cons]
    show List.foldl _ (acc ++ [VD.pure x], s) _ = _
    rw [fold0 r, List.map_cons, List.append_assoc]
    rfl
theorem alc {t : T} {lo : Nat} (s : Store) (hl : lo ≤ s.length) : ∃ d ex, alF 1 (cpF t) s = (d, s ++ ex) ∧ Cp lo (s ++ ex) t d := by
  by_cases c : ∃ xs, t = .lst xs
  · obtain ⟨xs, rfl⟩ := c
    refine ⟨.cell s.length, [some (xs.map VD.pure)], ?_, .inr ⟨xs, _, rfl, rfl, hl, by simp⟩⟩
    show (let r := (xs.map fun t => FT.val (.pure t)).foldl (fun q f => let z := alF 0 f q.2; (q.1 ++ [z.1], z.2)) (([] : List VD), s); (VD.cell r.2.length, r.2 ++ [some r.1])) = _
    rw [fold0]
    rfl
  · have e : cpF t = vl t ∧ isL t = false := by cases t <;> first | exact ⟨rfl, rfl⟩ | exact absurd ⟨_, rfl⟩ c
    refine ⟨.pure t, [], ?_, .inl ⟨e.2, rfl⟩⟩
    rw [e.1, List.append_nil]
    rfl
theorem alc3 {a b c : T} {lo : Nat} (s : Store) (hl : lo ≤ s.length) : ∃ d0 d1 d2 ex, alF 2 (.new [cpF a, cpF b, cpF c]) s = (.cell (s ++ ex).length, s ++ ex ++ [some [d0, d1, d2]]) ∧ Cp lo (s ++ ex) a d0 ∧ Cp lo (s ++ ex) b d1 ∧ Cp lo (s ++ ex) c d2 := by
  obtain ⟨d0, x0, e0, c0⟩ := alc (t := a) s hl
  obtain ⟨d1, x1, e1, c1⟩ := alc (t := b) (s ++ x0) (Nat.le_trans hl (by rw [List.length_append]; omega))
  obtain ⟨d2, x2, e2, c2⟩ := alc (t := c) (s ++ x0 ++ x1) (Nat.le_trans hl (by rw [List.length_append, List.length_append]; omega))
  refine ⟨d0, d1, d2, x0 ++ (x1 ++ x2), ?_, ?_, ?_, ?_⟩
  · show (let r := [cpF a, cpF b, cpF c].foldl (fun q f => let z := alF 1 f q.2; (q.1 ++ [z.1], z.2)) (([] : List VD), s); (VD.cell r.2.length, r.2 ++ [some r.1])) = _
    have q : s ++ (x0 ++ (x1 ++ x2)) = s ++ x0 ++ x1 ++ x2 := by simp only [List.append_assoc]
    rw [q]
    simp only [List.foldl_cons, List.foldl_nil, e0, e1, e2, List.nil_append, List.cons_append]
  · rw [← List.append_assoc]; exact c0.mono _
  · rw [← List.append_assoc, ← List.append_assoc]; exact c1.mono _
  · rw [← List.append_assoc, ← List.append_assoc]; exact c2
end Ob.K00
/-! # Ku: the refusals, the loop over them -/
namespace Ob.K00
open PySem PySem.Spec PyProof.Rows L2 Ob

abbrev loS (row bad cnt oth sets od cts : T) (a5 a10 a11 a12 a13 a14 a15 a16 : Option VD) (s : Store) : SS := ⟨[some (.cell 0), some (.pure row), some (.pure bad), some (.pure cnt), some (.cell 3), a5, some (.pure oth), some (.pure sets), some (.pure od), some (.pure cts), a10, a11, a12, a13, a14, a15, a16, none], s, none⟩
theorem oIxc {N : Nat} {st : SS} {ds : List VD} (h : st.s[N]? = some (some ds)) {j : Nat} {d : VD} (hd : ds[j]? = some d) : oIx (.val (.cell N)) (vl (.int (j : Nat))) st = .ok (.val d) st := by
  show bd (seqOf (.val (.cell N))) (fun fs => Ob.mo (atI fs (j : Int))) st = _
  have e : seqOf (.val (.cell N)) st = .ok (ds.map FT.val) st := by
    show lstOf (.val (.cell N)) st = _
    unfold lstOf
    simp only [h]
  rw [bd_ok e, atI_get, List.getElem?_map, hd]
  rfl
theorem ga4 {fm : FM} {st : SS} {g : FT} {k : Int} {d e f : VD} (h : ∀ s, okD s d → okD s e → okD s f → fm [pI k, d, e, f] s = .ok g s) (od : okD st.s d) (oe : okD st.s e) (of : okD st.s f) : goC 4 fm [pI k, d, e, f] st = .ok g st := goC_ok' rfl (fun s hs => h s (hs d (by simp)) (hs e (by simp)) (hs f (by simp))) (four_ok od oe of)
theorem set_n {n i : Nat} {me : M FT} {st st1 : SS} {f : FT} {d : VD} {s : Store} (h : me st = .ok f st1) (e : alF n f st1.s = (d, s)) : mSet n i me st = .ok .nx (({ st1 with s := s } : SS).put i d) := by
  unfold mSet
  rw [bd_ok h]
  unfold bd mAl
  simp only [e]
theorem fz2 (w : List Nat) (v : VD) : fz (.new [vl (.str w), .val v]) = mkL [.pure (.str w), v] := by simp only [fz, fzs, vl]
theorem told0 {w : List Nat} {v : VD} {st : SS} (o : okD st.s v) : oIx (.val (mkL [.pure (.str w), v])) (vl (.int 0)) st = .ok (vl (.str w)) st := by
  rcases o with ⟨t, rfl⟩ | ⟨k, c, rfl, _⟩ <;> rfl
theorem told1 {w : List Nat} {v : VD} {st : SS} (o : okD st.s v) : oIx (.val (mkL [.pure (.str w), v])) (vl (.int 1)) st = .ok (.val v) st := by
  rcases o with ⟨t, rfl⟩ | ⟨k, c, rfl, _⟩ <;> rfl
section
variable {row bad cnt oth sets od cts : T}
theorem cut_lo {a5 a10 a11 a12 a13 a14 : T} {N : Nat} {q : VD} {s s3 : Store} (h4 : s.length = 4) (hs : s.all (rlC 4) = true) (l3 : 4 < s3.length) (t3 : s3.take 4 = s) :
    cut 4 [15, 16] (loS row bad cnt oth sets od cts (some (.pure a5)) (some (.pure a10)) (some (.pure a11)) (some (.pure a12)) (some (.pure a13)) (some (.pure a14)) (some (.cell N)) (some q) s3) =
      some (loS row bad cnt oth sets od cts (some (.pure a5)) (some (.pure a10)) (some (.pure a11)) (some (.pure a12)) (some (.pure a13)) (some (.pure a14)) none none s) := by
  unfold cut
  rw [if_neg (by show ¬s3.length = 4; omega), if_pos ⟨l3, by simp [wipeL, rlO, rl], by rw [show (loS row bad cnt oth sets od cts (some (.pure a5)) (some (.pure a10)) (some (.pure a11)) (some (.pure a12)) (some (.pure a13)) (some (.pure a14)) (some (.cell N)) (some q) s3).s = s3 from rfl, t3]; exact hs, rfl⟩]
  show some (⟨_, s3.take 4, _⟩ : SS) = _
  rw [t3]
  rfl
theorem step_ok {kind : Int} {a b c : T} {w : List Nat} {at_ : Nat} (h : Ask kind a b c w at_) (hat : at_ < 3) {s : Store} (h4 : s.length = 4) (hs : s.all (rlC 4) = true) :
    ∃ st3, l__law_refused_right_2_b (loS row bad cnt oth sets od cts (some (pI kind)) (some (.pure a)) (some (.pure b)) (some (.pure c)) (some (.pure (.str w))) (some (pI (at_ : Nat))) none none s) = .ok .nx st3 ∧
      cut 4 [15, 16] st3 = some (loS row bad cnt oth sets od cts (some (pI kind)) (some (.pure a)) (some (.pure b)) (some (.pure c)) (some (.pure (.str w))) (some (pI (at_ : Nat))) none none s) := by
  obtain ⟨d0, d1, d2, ex, ea, c0, c1, c2⟩ := alc3 (a := a) (b := b) (c := c) (lo := 4) s (by omega)
  obtain ⟨n, hw, er⟩ := h.er
  have at3 : at_ = 0 ∨ at_ = 1 ∨ at_ = 2 := by omega
  let N := (s ++ ex).length
  let s2 : Store := s ++ ex ++ [some [d0, d1, d2]]
  let v := pickD at_ d0 d1 d2
  let S0 := loS row bad cnt oth sets od cts (some (pI kind)) (some (.pure a)) (some (.pure b)) (some (.pure c)) (some (.pure (.str w))) (some (pI (at_ : Nat))) none none s
  let S1 := loS row bad cnt oth sets od cts (some (pI kind)) (some (.pure a)) (some (.pure b)) (some (.pure c)) (some (.pure (.str w))) (some (pI (at_ : Nat))) (some (.cell N)) none s2
  let S2 := loS row bad cnt oth sets od cts (some (pI kind)) (some (.pure a)) (some (.pure b)) (some (.pure c)) (some (.pure (.str w))) (some (pI (at_ : Nat))) (some (.cell N)) (some (mkL [.pure (.str w), v])) s2
  have c0' : Cp 4 s2 a d0 := c0.mono _
  have c1' : Cp 4 s2 b d1 := c1.mono _
  have c2' : Cp 4 s2 c d2 := c2.mono _
  have hN : s2[N]? = some (some [d0, d1, d2]) := by simp [s2, N]
  have hv : Cp 4 s2 (pickT at_ a b c) v := by
    show Cp 4 s2 (pickT at_ a b c) (pickD at_ d0 d1 d2)
    rcases at3 with e | e | e <;> rw [e]
    · exact c0'
    · exact c1'
    · exact c2'
  have hi : [d0, d1, d2][at_]? = some v := by
    show [d0, d1, d2][at_]? = some (pickD at_ d0 d1 d2)
    rcases at3 with e | e | e <;> rw [e] <;> rfl
  have cp : ∀ {i : Nat} {t : T}, mv i S0 = .ok (vl t) S0 → nx t = true → mCall 1 f__law_copy (aCons (mv i) aNil) S0 = .ok (cpF t) S0 := fun hm hn => mCall_ok (aCons_ok hm aNil_ok) (goC_pure (ts := [_]) rfl (copy_ok hn))
  have A : mSet 2 15 (mLst (aCons (mCall 1 f__law_copy (aCons (mv 10) aNil)) (aCons (mCall 1 f__law_copy (aCons (mv 11) aNil)) (aCons (mCall 1 f__law_copy (aCons (mv 12) aNil)) aNil)))) S0 = .ok .nx S1 :=
    set_n (lst_ok (aCons_ok (cp (mv_ok rfl) h.na) (aCons_ok (cp (mv_ok rfl) h.nb) (aCons_ok (cp (mv_ok rfl) h.nc) aNil_ok))) rfl) ea
  have ix : ∀ {S : SS} {j : Nat} {d : VD}, mv 15 S = .ok (.val (.cell N)) S → S.s[N]? = some (some [d0, d1, d2]) → [d0, d1, d2][j]? = some d → m2 oIx (mv 15) (rt (vl (.int (j : Nat)))) S = .ok (.val d) S := fun hm hs hd => m2_ok hm rt_ok (oIxc hs hd)
  have B : mSet 0 16 (mCall 4 f__law_asked (aCons (mv 5) (aCons (m2 oIx (mv 15) (rt (vl (.int 0)))) (aCons (m2 oIx (mv 15) (rt (vl (.int 1)))) (aCons (m2 oIx (mv 15) (rt (vl (.int 2)))) aNil))))) S1 = .ok .nx S2 := by
    refine set_n (s := s2) (d := mkL [.pure (.str w), v]) (st1 := S1) (f := .new [vl (.str w), .val v]) (mCall_ok (aCons_ok (mv_ok (i := 5) rfl) (aCons_ok (ix (j := 0) (mv_ok rfl) hN rfl) (aCons_ok (ix (j := 1) (mv_ok rfl) hN rfl) (aCons_ok (ix (j := 2) (mv_ok rfl) hN rfl) aNil_ok)))) ?_) ?_
    · exact ga4 (k := kind) (d := d0) (e := d1) (f := d2) (fun s' o0 o1 o2 => asked_ok hw (fun s o0 o1 o2 => er d0 d1 d2 c0.sh c1.sh c2.sh s o0 o1 o2) o0 o1 o2 (by
        show okD s' (pickD at_ d0 d1 d2)
        rcases at3 with e | e | e <;> rw [e]
        · exact o0
        · exact o1
        · exact o2)) c0'.ok c1'.ok c2'.ok
    · show (fz _, _) = _
      rw [fz2]
  have okv : okS 4 (pickT at_ a b c) = true ∧ ∀ ts, pickT at_ a b c = .lst ts → okS 4 (.lst (ts ++ [.int 7])) = true := by
    have o := h.ob
    unfold okB at o
    rw [Bool.and_eq_true] at o
    refine ⟨o.1, fun ts e => ?_⟩
    have o2 := o.2
    rw [e] at o2
    exact o2
  have C : ∃ s3 : Store, 4 < s3.length ∧ s3.take 4 = s ∧ mCall 2 f__law_blamed (aCons (m2 oIx (mv 16) (rt (vl (.int 1)))) (aCons (m2 oIx (mv 15) (mv 14)) aNil)) S2 = .ok (vl (.bl true)) { S2 with s := s3 } := by
    have a1 : m2 oIx (mv 16) (rt (vl (.int 1))) S2 = .ok (.val v) S2 := m2_ok (mv_ok (i := 16) rfl) rt_ok (told1 hv.ok)
    have a2 : m2 oIx (mv 15) (mv 14) S2 = .ok (.val v) S2 := m2_ok (mv_ok (i := 15) rfl) (mv_ok (i := 14) rfl) (oIxc hN hi)
    have l2 : 4 < s2.length := by
      show 4 < (s ++ ex ++ [some [d0, d1, d2]]).length
      rw [List.length_append, List.length_append]
      show 4 < s.length + ex.length + 1
      omega
    have t2 : s2.take 4 = s := by
      show (s ++ ex ++ [some [d0, d1, d2]]).take 4 = s
      rw [List.append_assoc]
      exact List.take_left' h4
    rcases hv with ⟨hl, e⟩ | ⟨xs, k, e, e2, lk, hk⟩
    · refine ⟨s2, l2, t2, mCall_ok (aCons_ok a1 (aCons_ok a2 aNil_ok)) ?_⟩
      rw [e]
      refine goC_pure (ts := [pickT at_ a b c, pickT at_ a b c]) rfl (blamed_pure okv.1 ?_)
      have nx' : nx (pickT at_ a b c) = true := by
        rcases at3 with e | e | e <;> rw [e]
        · exact h.na
        · exact h.nb
        · exact h.nc
      generalize pickT at_ a b c = t at hl nx'
      cases t with
      | lst _ => cases hl
      | xl _ => cases nx'
      | _ => rfl
    · have b1 := blamed_cell hk (by rw [← e]; exact okv.1) (okv.2 xs e)
      refine ⟨s2.set k (some ((xs ++ [T.int 7]).map VD.pure)), by rw [List.length_set]; exact l2, ?_, mCall_ok (aCons_ok a1 (aCons_ok a2 aNil_ok)) ?_⟩
      · rw [List.take_set, t2]
        exact List.set_eq_of_length_le (by omega)
      · rw [e2]
        exact goC_cell (ds := [.cell k, .cell k]) rfl rfl b1
  obtain ⟨s3, l3, t3, eC⟩ := C
  refine ⟨{ S2 with s := s3 }, ?_, cut_lo h4 hs l3 t3⟩
  unfold l__law_refused_right_2_b
  show sq _ _ S0 = _
  rw [sq_nx A, sq_nx B]
  refine if_fn ?_
  have n0 : bd (m2 oNe (m2 oIx (mv 16) (rt (vl (.int 0)))) (mv 13)) tb S2 = .ok false S2 := tb_ok (m2_ok (m2_ok (mv_ok (i := 16) rfl) rt_ok (told0 hv.ok)) (mv_ok (i := 13) rfl) (ne_s _ _))
  unfold tOrM
  rw [bd_ok n0]
  unfold tNotM
  show bd _ _ S2 = _
  rw [bd_ok (tru_b eC)]
  rfl
end
end Ob.K00
/-! # Kv: the refusals, all of them -/
namespace Ob.K00
open PySem PySem.Spec PyProof.Rows L2 Ob

def AskT (t : T) : Prop := ∃ (kind : Int) (a b c : T) (w : List Nat) (at_ : Nat), at_ < 3 ∧ Ask kind a b c w at_ ∧ t = .lst [.int kind, a, b, c, .str w, .int (at_ : Nat)]
section
variable {row bad cnt oth sets od cts : T}
theorem loop2 {asks : List T} (hA : ∀ t ∈ asks, AskT t) {s : Store} (h4 : s.length = 4) (hs : s.all (rlC 4) = true) (h3 : s[3]? = some (some (asks.map VD.pure))) (a5 : Option VD) :
    ∃ st', l__law_refused_right_2 (loS row bad cnt oth sets od cts a5 none none none none none none none s) = .ok .nx st' ∧ st'.s = s := by
  have hsrc : (bd (mv 4) mOne) (loS row bad cnt oth sets od cts a5 none none none none none none none s) = .ok (.one (.cell 3)) (loS row bad cnt oth sets od cts a5 none none none none none none none s) := by
    rw [bd_ok (mv_ok (i := 4) (d := .cell 3) rfl)]
    unfold mOne
    rw [show fz (.val (.cell 3)) = VD.cell 3 by rw [fz]]
    have e : itm s (.cell 3) = some (asks.map VD.pure) := by
      simp only [itm, h3]
    show (match itm s (.cell 3) with | some _ => _ | none => _) = _
    rw [e]
  obtain ⟨st', e, a5', a10, a11, a12, a13, a14, rfl⟩ := for_inv (src := bd (mv 4) mOne) (t := .tup [5, 10, 11, 12, 13, 14]) (kl := [15, 16]) (body := l__law_refused_right_2_b) (sr := .one (.cell 3)) (ds := asks.map VD.pure) (st := loS row bad cnt oth sets od cts a5 none none none none none none none s)
    (I := fun _ st => ∃ a5 a10 a11 a12 a13 a14 : Option VD, st = loS row bad cnt oth sets od cts a5 a10 a11 a12 a13 a14 none none s) hsrc ⟨_, _, _, _, _, _, rfl⟩
    (fun i st ⟨a5, a10, a11, a12, a13, a14, e⟩ => by
      subst e
      show itm s (.cell 3) = _
      simp only [itm, h3])
    (fun i st d hd ⟨a5, a10, a11, a12, a13, a14, e⟩ => by
      subst e
      have hm := List.mem_of_getElem? hd
      obtain ⟨t, ht, rfl⟩ := List.mem_map.mp hm
      obtain ⟨kind, a, b, c, w, at_, hat, ask, rfl⟩ := hA t ht
      obtain ⟨st3, e1, e2⟩ := step_ok (row := row) (bad := bad) (cnt := cnt) (oth := oth) (sets := sets) (od := od) (cts := cts) ask hat h4 hs
      exact ⟨_, st3, _, rfl, e1, by rw [show (loS row bad cnt oth sets od cts _ none none none none none none none s).s.length = 4 from h4]; exact e2, _, _, _, _, _, _, rfl⟩)
  exact ⟨_, e, rfl⟩
end
/-! ### asks are gathered -/
theorem app_ok {k : Nat} {mo : M FT} {ms : M (List FT)} {st st1 : SS} {f : FT} {t : T} {l0 l : List T} (ho : mo st = .ok (.val (.cell k)) st) (hs : st.s[k]? = some (some (l0.map VD.pure))) (hm : ms st = .ok [f] st1) (hs1 : st1.s[k]? = some (some (l.map VD.pure))) (hf : fz f = .pure t) (hl : l.length < 1000) :
    mCm (oApp 0) mo ms st = .ok (vl .non) { st1 with s := st1.s.set k (some ((l ++ [t]).map VD.pure)) } := by
  unfold mCm
  rw [bd_ok ho]
  have e1 : kOf (.val (.cell k)) st = .ok k st := by simp [kOf, hs]
  rw [bd_ok e1, bd_ok hm]
  have e2 : mAl 0 f st1 = .ok (.pure t) st1 := by
    show Res.ok (fz f) st1 = _
    rw [hf]
  have e3 : cel k st1 = .ok (l.map .pure) st1 := by simp [cel, hs1]
  have e4 : Ob.guard (decide ((l.map VD.pure).length < lim)) st1 = .ok () st1 := by
    unfold Ob.guard
    rw [if_pos (decide_eq_true (by rw [List.length_map]; exact Nat.lt_trans hl (by decide)))]
  show (bd (mAl 0 f) fun d => bd (cel k) fun c => bd (Ob.guard (decide (c.length < lim))) fun _ => bd (wrc k (c ++ [d])) fun _ => rt (vl .non)) st1 = _
  rw [bd_ok e2, bd_ok e3, bd_ok e4]
  have e5 : l.map VD.pure ++ [VD.pure t] = (l ++ [t]).map VD.pure := by rw [List.map_append]; rfl
  show Res.ok (vl .non) (⟨st1.d, st1.s.set k (some (l.map VD.pure ++ [VD.pure t])), st1.x⟩ : SS) = _
  rw [e5]
theorem oIx_l {ts : List T} {p : Int} (h0 : 0 ≤ p) (h1 : p < (ts.length : Int)) : ∃ t ∈ ts, ∀ st : SS, oIx (vl (.lst ts)) (vl (.int p)) st = .ok (vl t) st := by
  obtain ⟨j, rfl⟩ : ∃ j : Nat, p = (j : Int) := ⟨p.toNat, by omega⟩
  have hj : j < ts.length := by omega
  refine ⟨ts[j], List.getElem_mem hj, fun st => ?_⟩
  show bd (seqOf (vl (.lst ts))) (fun fs => Ob.mo (atI fs (j : Int))) st = _
  have e : seqOf (vl (.lst ts)) st = .ok (ts.map fun t => FT.val (.pure t)) st := rfl
  rw [bd_ok e, atI_get, List.getElem?_map, List.getElem?_eq_getElem hj]
  rfl
theorem len_l {m : M FT} {st st' : SS} {ts : List T} (h : m st = .ok (vl (.lst ts)) st') : mCa bLenU (aCons m aNil) st = .ok (vl (.int (ts.length : Int))) st' := by
  refine mCa_ok (aCons_ok h aNil_ok) ?_
  show bd (seqOf (vl (.lst ts))) (fun fs => rt (vl (.int fs.length))) st' = _
  have e : seqOf (vl (.lst ts)) st' = .ok (ts.map fun t => FT.val (.pure t)) st' := rfl
  rw [bd_ok e, List.length_map]
  rfl
abbrev l0D (row : List Nat) (bl : List T) (cnt : T) (a5 a6 : Option VD) : List (Option VD) := [some (.cell 0), some (.pure (.str row)), some (.pure (.lst bl)), some (.pure cnt), some (.cell 1), a5, a6, none, none, none, none, none, none, none, none, none, none, none]
structure BadL (bl : List T) : Prop where
  a : 1 ≤ bl.length
  b : bl.length ≤ 15
  c : ∀ t ∈ bl, Ok1 t ∧ isRow t = false
theorem loop0 {row : List Nat} {bl : List T} {cnt : T} {c : Nat} {y : Cell} (hb : BadL bl) (hy : Bx c y) (hc : c + 100 ≤ 1000000) :
    ∃ (l : List T) (y' : Cell) (a5 : Option VD), l__law_refused_right_0 (boxSt (l0D row bl cnt none none) y [some []]) = .ok .nx (boxSt (l0D row bl cnt a5 none) y' [some (l.map VD.pure)]) ∧ l.length = 13 ∧ (∀ t ∈ l, AskT t) ∧ Bx (c + 26) y' := by
  obtain ⟨st', e, l, y', a5, rfl, h1, h2, h3⟩ := for_inv (src := bd (aCons (rt (vl (.int 13))) aNil) mRng1) (t := .nm 5) (kl := []) (body := l__law_refused_right_0_b) (sr := .rng 0 13) (ds := (List.range 13).map fun i => .pure (.int (0 + (i : Nat)))) (st := boxSt (l0D row bl cnt none none) y [some []]) (st1 := boxSt (l0D row bl cnt none none) y [some []])
    (I := fun i st => ∃ (l : List T) (y' : Cell) (a5 : Option VD), st = boxSt (l0D row bl cnt a5 none) y' [some (l.map VD.pure)] ∧ l.length = i ∧ (∀ t ∈ l, AskT t) ∧ Bx (c + 2 * i) y')
    (rng_src (me := rt (vl (.int 13))) (k := 13) rt_ok (by decide)) ⟨[], y, none, rfl, rfl, by simp, hy⟩ (fun i st _ => rfl)
    (fun i st d hd ⟨l, z, a5, e, h1, h2, h3⟩ => by
      subst e
      have hi : i < 13 := by
        have := (List.getElem?_eq_some_iff.mp hd).1
        simpa using this
      have ed : d = pI (i : Nat) := by
        rw [List.getElem?_map, List.getElem?_range hi] at hd
        simp at hd
        exact hd.symm
      subst ed
      obtain ⟨p, z1, p0, p1, hz1, t1⟩ := take_call (D := l0D row bl cnt (some (pI (i : Nat))) none) (i := 0) (r := [some (l.map VD.pure)]) (k := (bl.length : Int)) (me := mCa bLenU (aCons (mv 2) aNil)) rfl (len_l (mv_ok rfl)) h3 (by omega) (by have := hb.a; omega) (by have := hb.b; omega)
      obtain ⟨q, z2, q0, q1, hz2, t2⟩ := take_call (D := l0D row bl cnt (some (pI (i : Nat))) none) (i := 0) (r := [some (l.map VD.pure)]) (k := (bl.length : Int)) (me := mCa bLenU (aCons (mv 2) aNil)) rfl (len_l (mv_ok rfl)) hz1 (by omega) (by have := hb.a; omega) (by have := hb.b; omega)
      obtain ⟨a, ha, ea⟩ := oIx_l p0 p1
      obtain ⟨b, hbm, eb⟩ := oIx_l q0 q1
      have ap := app_ok (k := 1) (mo := mv 4) (ms := aCons (mLst (aCons (mv 5) (aCons (m2 oIx (mv 2) (mCall 2 f__law_take (aCons (mv 0) (aCons (mCa bLenU (aCons (mv 2) aNil)) aNil)))) (aCons (m2 oIx (mv 2) (mCall 2 f__law_take (aCons (mv 0) (aCons (mCa bLenU (aCons (mv 2) aNil)) aNil)))) (aCons (rt (vl .non)) (aCons (rt (vl (.str [114, 111, 119]))) (aCons (rt (vl (.int 0))) aNil))))))) aNil)
        (st := boxSt (l0D row bl cnt (some (pI (i : Nat))) none) z [some (l.map VD.pure)]) (st1 := boxSt (l0D row bl cnt (some (pI (i : Nat))) none) z2 [some (l.map VD.pure)]) (f := .new [vl (.int (i : Nat)), vl a, vl b, vl .non, vl (.str [114, 111, 119]), vl (.int 0)]) (t := .lst [.int (i : Nat), a, b, .non, .str [114, 111, 119], .int 0]) (l0 := l) (l := l)
        (mv_ok (i := 4) rfl) rfl (aCons_ok (lst_ok (aCons_ok (mv_ok (i := 5) rfl) (aCons_ok (m2_ok (mv_ok (i := 2) rfl) t1 (ea _)) (aCons_ok (m2_ok (mv_ok (i := 2) rfl) t2 (eb _)) (aCons_ok rt_ok (aCons_ok rt_ok (aCons_ok rt_ok aNil_ok)))))) rfl) aNil_ok) rfl rfl (by omega)
      refine ⟨boxSt (l0D row bl cnt (some (pI (i : Nat))) none) z [some (l.map VD.pure)], boxSt (l0D row bl cnt (some (pI (i : Nat))) none) z2 [some ((l ++ [T.lst [.int (i : Nat), a, b, .non, .str [114, 111, 119], .int 0]]).map VD.pure)], _, rfl, ?_, rfl, l ++ [T.lst [.int (i : Nat), a, b, .non, .str [114, 111, 119], .int 0]], z2, _, rfl, by rw [List.length_append, h1]; rfl, ?_, hz2.mono (by omega)⟩
      · unfold l__law_refused_right_0_b
        rw [bd_ok ap]
        rfl
      · intro t ht
        rcases List.mem_append.mp ht with h | h
        · exact h2 t h
        · rw [List.mem_singleton.mp h]
          exact ⟨_, _, _, _, _, 0, by decide, ask_a hi (hb.c a ha).1 (hb.c a ha).2 (hb.c b hbm).1, rfl⟩)
  refine ⟨l, y', a5, e, ?_, h2, ?_⟩
  · simpa using h1
  · simpa using h3
end Ob.K00
/-! # Kw: rows of another length -/
namespace Ob.K00
open PySem PySem.Spec PyProof.Rows L2 Ob

theorem sg_of_row {n : Nat} {t : T} (h1 : 1 ≤ n) (h8 : n ≤ 8) (h : isRow t = false) : isSg (n : Nat) t = false := by
  cases t with
  | str r =>
    have h' : (decide (1 ≤ r.length) && decide (r.length ≤ 8) && r.all sgn) = false := h
    show (decide ((r.length : Int) = (n : Nat)) && r.all sgn) = false
    by_cases e : (r.length : Int) = (n : Nat)
    · rw [decide_eq_true (by omega), decide_eq_true (by omega)] at h'
      rw [decide_eq_true e]
      exact h'
    · rw [decide_eq_false e]
      rfl
  | _ => rfl
theorem sg_len {n : Nat} {r : List Nat} (h : r.length ≠ n) : isSg (n : Nat) (.str r) = false := by
  show (decide ((r.length : Int) = (n : Nat)) && r.all sgn) = false
  rw [decide_eq_false (by omega)]
  rfl
/-- a value that is no row of n signs -/
structure OkO (n : Nat) (t : T) : Prop where
  o : Ok1 t
  s : isSg (n : Nat) t = false
theorem oIx_n3 {a b c : T} {p : Int} (h0 : 0 ≤ p) (h1 : p < 3) : ∃ t, (t = a ∨ t = b ∨ t = c) ∧ ∀ st : SS, oIx (.new [vl a, vl b, vl c]) (vl (.int p)) st = .ok (vl t) st := by
  have : p = 0 ∨ p = 1 ∨ p = 2 := by omega
  rcases this with rfl | rfl | rfl
  · exact ⟨a, .inl rfl, fun _ => rfl⟩
  · exact ⟨b, .inr (.inl rfl), fun _ => rfl⟩
  · exact ⟨c, .inr (.inr rfl), fun _ => rfl⟩
theorem longer {n : Nat} (h8 : n ≤ 8) {st : SS} (h3 : mv 3 st = .ok (vl (nT n)) st) : ∃ t, OkO n t ∧ mIf (bd (m2 oLtI (mv 3) (rt (vl (.int 8)))) tb) (m2 oMul (rt (vl (.str [43]))) (m2 oAdd (mv 3) (rt (vl (.int 1))))) (rt (vl (.str [43]))) st = .ok (vl t) st := by
  have e : bd (m2 oLtI (mv 3) (rt (vl (.int 8)))) tb st = .ok (decide ((n : Int) < 8)) st := tb_ok (m2_ok h3 rt_ok rfl)
  by_cases c : (n : Int) < 8
  · rw [decide_eq_true c] at e
    refine ⟨.str (List.replicate (n + 1) [43]).flatten, ⟨ok1_s (by rw [flat_rep]; omega), sg_len (by rw [flat_rep]; omega)⟩, mIf_ok e ?_⟩
    exact m2_ok rt_ok (m2_ok h3 rt_ok (add_ok _)) (rep_ok (k := n + 1) (by omega) _)
  · rw [decide_eq_false c] at e
    exact ⟨.str [43], ⟨ok1_s (by decide), sg_len (by show 1 ≠ n; omega)⟩, mIf_ok e rfl⟩
theorem shorter {n : Nat} (h1 : 1 ≤ n) (h8 : n ≤ 8) {st : SS} (h3 : mv 3 st = .ok (vl (nT n)) st) : ∃ t, OkO n t ∧ mIf (bd (m2 oGtI (mv 3) (rt (vl (.int 1)))) tb) (m2 oMul (rt (vl (.str [48]))) (m2 oSub (mv 3) (rt (vl (.int 1))))) (rt (vl (.str [45, 45]))) st = .ok (vl t) st := by
  have e : bd (m2 oGtI (mv 3) (rt (vl (.int 1)))) tb st = .ok (decide ((1 : Int) < n)) st := tb_ok (m2_ok h3 rt_ok rfl)
  by_cases c : (1 : Int) < n
  · rw [decide_eq_true c] at e
    refine ⟨.str (List.replicate (n - 1) [48]).flatten, ⟨ok1_s (by rw [flat_rep]; omega), sg_len (by rw [flat_rep]; omega)⟩, mIf_ok e ?_⟩
    have e1 : m2 oSub (mv 3) (rt (vl (.int 1))) st = .ok (vl (.int ((n - 1 : Nat) : Int))) st := by
      have q : ((n - 1 : Nat) : Int) = (n : Int) - 1 := by omega
      rw [q]
      exact m2_ok h3 rt_ok (sub_ok _)
    exact m2_ok rt_ok e1 (rep_ok (by omega) _)
  · rw [decide_eq_false c] at e
    exact ⟨.str [45, 45], ⟨ok1_s (by decide), sg_len (by show 2 ≠ n; omega)⟩, mIf_ok e rfl⟩
theorem loop1 {row : List Nat} {bl l0 : List T} {c : Nat} {y : Cell} {a5 : Option VD} (h : Row row) (hb : BadL bl) (hy : Bx c y) (hc : c + 100 ≤ 1000000) (hl : l0.length = 13) (hA : ∀ t ∈ l0, AskT t) :
    ∃ (l : List T) (y' : Cell) (a5' a6' : Option VD), l__law_refused_right_1 (boxSt (l0D row bl (nT row.length) a5 none) y [some (l0.map VD.pure)]) = .ok .nx (boxSt (l0D row bl (nT row.length) a5' a6') y' [some (l.map VD.pure)]) ∧ l.length = 19 ∧ (∀ t ∈ l, AskT t) ∧ Bx (c + 12) y' ∧ ∃ t, a6' = some (.pure t) := by
  have hr1 := h.a
  have hr8 := h.b
  obtain ⟨st', e, l, y', a5', a6', rfl, h1, h2, h3, h6⟩ := for_inv (src := bd (aCons (rt (vl (.int 7))) (aCons (rt (vl (.int 13))) aNil)) mRng2) (t := .nm 5) (kl := []) (body := l__law_refused_right_1_b) (sr := .rng 7 6) (ds := (List.range 6).map fun i => .pure (.int (7 + (i : Nat)))) (st := boxSt (l0D row bl (nT row.length) a5 none) y [some (l0.map VD.pure)]) (st1 := boxSt (l0D row bl (nT row.length) a5 none) y [some (l0.map VD.pure)])
    (I := fun i st => ∃ (l : List T) (y' : Cell) (a5 a6 : Option VD), st = boxSt (l0D row bl (nT row.length) a5 a6) y' [some (l.map VD.pure)] ∧ l.length = 13 + i ∧ (∀ t ∈ l, AskT t) ∧ Bx (c + 2 * i) y' ∧ (0 < i → ∃ t, a6 = some (.pure t)))
    rfl ⟨l0, y, a5, none, rfl, hl, hA, hy, fun h => absurd h (by decide)⟩ (fun i st _ => rfl)
    (fun i st d hd ⟨l, z, a5, a6, e, h1, h2, h3, _⟩ => by
      subst e
      have hi : i < 6 := by
        have := (List.getElem?_eq_some_iff.mp hd).1
        simpa using this
      have ed : d = pI ((7 + i : Nat) : Nat) := by
        rw [List.getElem?_map, List.getElem?_range hi] at hd
        simp at hd
        exact hd.symm
      subst ed
      obtain ⟨p, z1, p0, p1, hz1, t1⟩ := take_call (D := l0D row bl (nT row.length) (some (pI (7 + i : Nat))) a6) (i := 0) (r := [some (l.map VD.pure)]) (k := (bl.length : Int)) (me := mCa bLenU (aCons (mv 2) aNil)) rfl (len_l (mv_ok rfl)) h3 (by omega) (by have := hb.a; omega) (by have := hb.b; omega)
      obtain ⟨q, z2, q0, q1, hz2, t2⟩ := take_call (D := l0D row bl (nT row.length) (some (pI (7 + i : Nat))) a6) (i := 0) (r := [some (l.map VD.pure)]) (k := 3) (me := rt (vl (.int 3))) rfl rfl hz1 (by omega) (by omega) (by omega)
      obtain ⟨a, ha, ea⟩ := oIx_l p0 p1
      have oa : OkO row.length a := ⟨(hb.c a ha).1, sg_of_row hr1 hr8 (hb.c a ha).2⟩
      obtain ⟨b, ob, eb⟩ := longer hr8 (st := boxSt (l0D row bl (nT row.length) (some (pI (7 + i : Nat))) a6) z1 [some (l.map VD.pure)]) (mv_ok (i := 3) rfl)
      obtain ⟨g, og, eg⟩ := shorter hr1 hr8 (st := boxSt (l0D row bl (nT row.length) (some (pI (7 + i : Nat))) a6) z1 [some (l.map VD.pure)]) (mv_ok (i := 3) rfl)
      obtain ⟨t, ht, et⟩ := oIx_n3 (a := a) (b := b) (c := g) q0 q1
      have ot : OkO row.length t := by
        rcases ht with rfl | rfl | rfl
        · exact oa
        · exact ob
        · exact og
      have s1 := set_ok (n := 0) (i := 6) (t := t) (m2_ok (lst_ok (aCons_ok (m2_ok (mv_ok (i := 2) (st := boxSt (l0D row bl (nT row.length) (some (pI (7 + i : Nat))) a6) z [some (l.map VD.pure)]) rfl) t1 (ea _)) (aCons_ok eb (aCons_ok eg aNil_ok))) rfl) t2 (et _))
      have ap := app_ok (k := 1) (mo := mv 4) (ms := aCons (mLst (aCons (mv 5) (aCons (mv 1) (aCons (mv 6) (aCons (rt (vl .non)) (aCons (rt (vl (.str [114, 111, 119]))) (aCons (rt (vl (.int 1))) aNil))))))) aNil)
        (st := boxSt (l0D row bl (nT row.length) (some (pI (7 + i : Nat))) (some (.pure t))) z2 [some (l.map VD.pure)]) (st1 := boxSt (l0D row bl (nT row.length) (some (pI (7 + i : Nat))) (some (.pure t))) z2 [some (l.map VD.pure)]) (f := .new [vl (.int (7 + i : Nat)), vl (.str row), vl t, vl .non, vl (.str [114, 111, 119]), vl (.int 1)]) (t := .lst [.int (7 + i : Nat), .str row, t, .non, .str [114, 111, 119], .int 1]) (l0 := l) (l := l)
        (mv_ok (i := 4) rfl) rfl (aCons_ok (lst_ok (aCons_ok (mv_ok (i := 5) rfl) (aCons_ok (mv_ok (i := 1) rfl) (aCons_ok (mv_ok (i := 6) rfl) (aCons_ok rt_ok (aCons_ok rt_ok (aCons_ok rt_ok aNil_ok)))))) rfl) aNil_ok) rfl rfl (by omega)
      refine ⟨boxSt (l0D row bl (nT row.length) (some (pI (7 + i : Nat))) a6) z [some (l.map VD.pure)], boxSt (l0D row bl (nT row.length) (some (pI (7 + i : Nat))) (some (.pure t))) z2 [some ((l ++ [T.lst [.int (7 + i : Nat), .str row, t, .non, .str [114, 111, 119], .int 1]]).map VD.pure)], _, rfl, ?_, rfl, l ++ [T.lst [.int (7 + i : Nat), .str row, t, .non, .str [114, 111, 119], .int 1]], z2, _, _, rfl, by rw [List.length_append, h1]; rfl, ?_, hz2.mono (by omega), fun _ => ⟨t, rfl⟩⟩
      · unfold l__law_refused_right_1_b
        rw [sq_nx (to_st (boxSt (l0D row bl (nT row.length) (some (pI (7 + i : Nat))) (some (.pure t))) z2 [some (l.map VD.pure)]) s1 rfl), bd_ok ap]
        rfl
      · intro x hx
        rcases List.mem_append.mp hx with h' | h'
        · exact h2 x h'
        · rw [List.mem_singleton.mp h']
          exact ⟨_, _, _, _, _, 1, by decide, ask_b (by omega) (by omega) h ot.o ot.s, rfl⟩)
  refine ⟨l, y', a5', a6', e, ?_, h2, ?_⟩
  · simpa using h1
  · exact ⟨by simpa using h3, h6 (by simp)⟩
end Ob.K00
/-! # Kx: the refusals, the def -/
namespace Ob.K00
open PySem PySem.Spec PyProof.Rows L2 Ob

def bads (r : List Nat) : List T := (odd r).filter fun t => !isRow t
theorem badL_of {r : List Nat} (h : Row r) : BadL (bads r) where
  a := by
    have : T.non ∈ bads r := List.mem_filter.mpr ⟨by unfold odd; exact .head _, rfl⟩
    exact List.length_pos_of_mem this
  b := List.length_filter_le _ _
  c := fun t ht => by
    obtain ⟨a, b⟩ := List.mem_filter.mp ht
    exact ⟨ok1_odd h t a, by simpa using b⟩
theorem odd_call {r : List Nat} {st : SS} (h : Row r) {i : Nat} (hm : mv i st = .ok (vl (.str r)) st) : mCall 1 f__law_odd_rows (aCons (mv i) aNil) st = .ok (oddF r) st := mCall_ok (aCons_ok hm aNil_ok) (goC_pure (ts := [.str r]) rfl (e_odd h))
/-- a comprehension over a list whose parts stand for trees -/
theorem lc_fz {e : M FT} {t : Tgt} {tt : M Bool} {te : M FT} {vs : List Nat} {st : SS} {f : FT} {ts : List T} (g : T → Option FT) (he : e st = .ok f st) (hf : fz f = .pure (.lst ts)) (hb : ∀ x ∈ ts, lcBody t tt te vs (.pure x) st = .ok (g x) st) (hl : ts.length ≤ lim) : mLc (bd e mOne) t tt te vs st = .ok (.new (ts.filterMap g)) st := by
  have h1 : (bd e mOne) st = (bd (fun st => .ok (vl (.lst ts)) st : M FT) mOne) st := by
    rw [bd_ok he]
    show mOne f st = mOne (vl (.lst ts)) st
    unfold mOne
    rw [hf, show fz (vl (.lst ts)) = VD.pure (.lst ts) by rw [vl, fz]]
  have h2 := lc_one (e := (fun st => .ok (vl (.lst ts)) st : M FT)) (u := .lst ts) (ts := ts) g rfl rfl hb hl
  unfold mLc at h2 ⊢
  unfold bd at h1 h2 ⊢
  rw [h1]
  exact h2
abbrev rf0 (row : List Nat) (x : Cell) : SS := boxSt [some (.cell 0), some (.pure (.str row)), none, none, none, none, none, none, none, none, none, none, none, none, none, none, none, none] x []
theorem c_bads {row : List Nat} {x : Cell} (h : Row row) : c__law_refused_right_0 (rf0 row x) = .ok (.new ((bads row).map fun t => FT.val (.pure t))) (rf0 row x) := by
  unfold c__law_refused_right_0
  rw [lc_fz (f := oddF row) (ts := odd row) (fun t => if (!isRow t) = true then some (vl t) else none) (odd_call h (mv_ok (i := 1) rfl)) (fz_odd row) (fun t ht => ?_) (by show 15 ≤ lim; decide), bads, ← fm_if]
  have o := ok1_odd h t ht
  have lt : ∀ st' : SS, mv 17 st' = .ok (vl t) st' → tNotM (bd (mCall 1 f__law_is_row (aCons (mv 17) aNil)) tru) st' = .ok (!isRow t) st' := fun st' e => by
    have q : mCall 1 f__law_is_row (aCons (mv 17) aNil) st' = .ok (vl (.bl (isRow t))) st' := mCall_ok (aCons_ok e aNil_ok) (goC_pure (ts := [t]) rfl (e_law_is_row t [] o.z))
    unfold tNotM
    rw [bd_ok (tru_b q)]
    rfl
  have lt' := lt _ (mv_ok (i := 17) (st := (({ rf0 row x with d := wipeL (rf0 row x).d [17] } : SS).put 17 (.pure t))) rfl)
  by_cases c : (!isRow t) = true
  · rw [c] at lt'
    rw [body_yes (f := vl t) lt' (mv_ok rfl), if_pos c]
    rfl
  · rw [Bool.not_eq_true] at c
    rw [c] at lt'
    rw [body_no lt', if_neg (by rw [c]; decide)]
    rfl
/-! ### sets, counts -/
def setsT (n : Nat) : List T := [.non, .int 5, .str [], .lst [.int 0], .tup [.int 0, .int 0], .tup [nT n], .tup [.int (-1)], .tup [.bl true], .tup [.str [48]], .dct [] [], .tup [.int 1, .int 0], .tup [.int 0, nT n], .tup [.non], .lst [], .tup [.int 0, .int 1, .int 1]]
theorem okS_of {n : Nat} {t : T} (e : isEl n t = false) (z : ∀ ts, t = .tup ts → ts.length ≤ 3) (b : okB t = true) (x : nx t = true) : OkS n t := ⟨e, fun ts h => Nat.le_trans (z ts h) (by decide), b, x⟩
theorem isEl_out {n : Nat} {ts : List T} {i : Int} (h : T.int i ∈ ts) (c : i < 0 ∨ (n : Int) ≤ i) : isEl n (.tup ts) = false := by
  show (ts.all (isB 0 ((n : Int) - 1)) && _) = false
  have : ts.all (isB 0 ((n : Int) - 1)) = false := by
    rw [List.all_eq_false]
    refine ⟨_, h, ?_⟩
    show ¬(decide (0 ≤ i) && decide (i ≤ (n : Int) - 1)) = true
    rw [Bool.and_eq_true, decide_eq_true_eq, decide_eq_true_eq]
    omega
  rw [this]
  rfl
theorem isEl_odd {n : Nat} {ts : List T} {t : T} (h : t ∈ ts) (c : ∀ a b, isB a b t = false) : isEl n (.tup ts) = false := by
  show (ts.all (isB 0 ((n : Int) - 1)) && _) = false
  have : ts.all (isB 0 ((n : Int) - 1)) = false := by
    rw [List.all_eq_false]
    exact ⟨_, h, by rw [c]; decide⟩
  rw [this]
  rfl
theorem isEl_down {n : Nat} {ts : List T} (h : rising (ts.map toI) = false) : isEl n (.tup ts) = false := by
  show (_ && rising (ts.map toI)) = false
  rw [h, Bool.and_false]
theorem sets_ok {n : Nat} : ∀ t ∈ setsT n, OkS n t := by
  intro t ht
  simp only [setsT, List.mem_cons, List.not_mem_nil, or_false] at ht
  rcases ht with rfl | rfl | rfl | rfl | rfl | rfl | rfl | rfl | rfl | rfl | rfl | rfl | rfl | rfl | rfl
  · exact okS_of rfl (fun _ e => by cases e) rfl rfl
  · exact okS_of rfl (fun _ e => by cases e) rfl rfl
  · exact okS_of rfl (fun _ e => by cases e) rfl rfl
  · exact okS_of rfl (fun _ e => by cases e) rfl rfl
  · exact okS_of (isEl_down (by decide)) (fun _ e => by cases e; decide) rfl rfl
  · exact okS_of (isEl_out (i := (n : Int)) (.head _) (.inr (Int.le_refl _))) (fun _ e => by cases e; simp) rfl rfl
  · exact okS_of (isEl_out (i := -1) (.head _) (.inl (by decide))) (fun _ e => by cases e; decide) rfl rfl
  · exact okS_of (isEl_odd (.head _) fun _ _ => rfl) (fun _ e => by cases e; decide) rfl rfl
  · exact okS_of (isEl_odd (.head _) fun _ _ => rfl) (fun _ e => by cases e; decide) rfl rfl
  · exact okS_of rfl (fun _ e => by cases e) rfl rfl
  · exact okS_of (isEl_down (by decide)) (fun _ e => by cases e; decide) rfl rfl
  · exact okS_of (isEl_out (i := (n : Int)) (.tail _ (.head _)) (.inr (Int.le_refl _))) (fun _ e => by cases e; simp) rfl rfl
  · exact okS_of (isEl_odd (.head _) fun _ _ => rfl) (fun _ e => by cases e; decide) rfl rfl
  · exact okS_of rfl (fun _ e => by cases e) rfl rfl
  · exact okS_of (isEl_down (by decide)) (fun _ e => by cases e; decide) rfl rfl
def cntsT : List T := [.non, .int 0, .int 9, .int (-1), .bl true, .str [51], .lst [.int 3], .tup [.int 3], .dct [] [], .int (10 ^ 19)]
theorem cnts_ok : ∀ t ∈ cntsT, isB 1 8 t = false ∧ okB t = true ∧ nx t = true := by
  intro t ht
  simp only [cntsT, List.mem_cons, List.not_mem_nil, or_false] at ht
  rcases ht with rfl | rfl | rfl | rfl | rfl | rfl | rfl | rfl | rfl | rfl <;> exact ⟨rfl, rfl, rfl⟩
end Ob.K00
/-! # Ky: _law_refused_right -/
namespace Ob.K00
open PySem PySem.Spec PyProof.Rows L2 Ob

abbrev rfD (row : List Nat) (bl : List T) (cnt : T) (k : Nat) (a5 a6 a7 a8 a9 : Option VD) : List (Option VD) := [some (.cell 0), some (.pure (.str row)), some (.pure (.lst bl)), some (.pure cnt), some (.cell k), a5, a6, a7, a8, a9, none, none, none, none, none, none, none, none]
theorem fzs_v : ∀ ts : List T, fzs (ts.map fun t => FT.val (.pure t)) = ts.map VD.pure
  | [] => rfl
  | t :: r => by rw [List.map_cons, fzs, fzs_v r, fz]; rfl
theorem fold1 : ∀ (fs : List FT) (acc : List VD) (s : Store), fs.foldl (fun q f => let z := alF 0 f q.2; (q.1 ++ [z.1], z.2)) (acc, s) = (acc ++ fs.map fz, s)
  | [], acc, s => by simp
  | x :: r, acc, s => by
    rw [List.foldl_cons]
    show List.foldl _ (acc ++ [fz x], s) _ = _
    rw [fold1 r, List.map_cons, List.append_assoc]
    rfl
theorem alF1 (fs : List FT) (s : Store) : alF 1 (.new fs) s = (.cell s.length, s ++ [some (fs.map fz)]) := by
  show (let r := fs.foldl (fun q f => let z := alF 0 f q.2; (q.1 ++ [z.1], z.2)) (([] : List VD), s); (VD.cell r.2.length, r.2 ++ [some r.1])) = _
  rw [fold1]
  rfl
/-- a list in a cell, and a new one behind it, as a new cell -/
theorem cat_cell {k : Nat} {l m : List T} {st : SS} {me : M (List FT)} {fs : List FT} (h4 : mv 4 st = .ok (.val (.cell k)) st) (hk : st.s[k]? = some (some (l.map VD.pure))) (hm : me st = .ok fs st) (hf : fs.map fz = m.map VD.pure) (hl : l.length + fs.length ≤ 1000) :
    mSet 1 4 (m2 oAdd (mv 4) (mLst me)) st = .ok .nx (({ st with s := st.s ++ [some ((l ++ m).map VD.pure)] } : SS).put 4 (.cell st.s.length)) := by
  refine set_n (f := .new ((l.map fun t => FT.val (.pure t)) ++ fs)) (m2_ok h4 (lst_ok hm (decide_eq_true (Nat.le_trans (by omega : fs.length ≤ 1000) (by decide)))) ?_) ?_
  · show (bd (lstOf (.val (.cell k))) fun a => bd (lstOf (.new fs)) fun b => bd (Ob.guard (decide (a.length + b.length ≤ lim))) fun _ => (rt (FT.new (a ++ b)) : M FT)) st = _
    have e1 : lstOf (.val (.cell k)) st = .ok (l.map fun t => FT.val (.pure t)) st := by
      unfold lstOf
      simp only [hk]
      rw [List.map_map]
      rfl
    have e2 : lstOf (.new fs) st = .ok fs st := rfl
    have e3 : (l.map fun t => FT.val (.pure t)).length + fs.length ≤ lim := by rw [List.length_map]; exact Nat.le_trans hl (by decide)
    rw [bd_ok e1, bd_ok e2]
    unfold bd Ob.guard
    rw [if_pos (decide_eq_true e3)]
    rfl
  · rw [alF1, List.map_append, hf, List.map_map, List.map_append]
    rfl
end Ob.K00
/-! # Kz: _law_refused_right itself -/
namespace Ob.K00
open PySem PySem.Spec PyProof.Rows L2 Ob

def ask6 (k : Int) (a b c : T) (w : List Nat) (at_ : Int) : T := .lst [.int k, a, b, c, .str w, .int at_]
def ask6F (k : Int) (a b c : T) (w : List Nat) (at_ : Int) : FT := .new [vl (.int k), vl a, vl b, vl c, vl (.str w), vl (.int at_)]
theorem fz6 (k : Int) (a b c : T) (w : List Nat) (at_ : Int) : fz (ask6F k a b c w at_) = .pure (ask6 k a b c w at_) := by
  unfold ask6F
  simp only [fz, fzs, vl]
  rfl
theorem refused_ok {c : Nat} {row : List Nat} {x : Cell} (h : Row row) (hx : Bx c x) (hc : c + 200 ≤ 1000000) : ∃ y, Bx (c + 50) y ∧ f__law_refused_right [.cell 0, .pure (.str row)] [some x] = .ok (vl (.bl true)) [some y] := by
  have h1 := h.a
  have h8 := h.b
  have bb := badL_of h
  let bl := bads row
  let n := row.length
  let S0 := rf0 row x
  let S1 := boxSt [some (.cell 0), some (.pure (.str row)), some (.pure (.lst bl)), none, none, none, none, none, none, none, none, none, none, none, none, none, none, none] x []
  let S2 := boxSt (l0D row bl (nT n) none none) x [some []]
  have s1 := to_st S1 (set_new (i := 2) (t := .lst bl) (c_bads (x := x) h) (fz_lst rfl)) rfl
  have s2 : mPar 1 3 4 (aCons (mCa bLenU (aCons (mv 1) aNil)) (aCons (mLst aNil) aNil)) S1 = .ok .nx S2 := by
    unfold mPar
    rw [bd_ok (aCons_ok (len_s (mv_ok (i := 1) (st := S1) rfl)) (aCons_ok (lst_ok aNil_ok rfl) aNil_ok))]
    rfl
  obtain ⟨l0, y0, a5, e0, n0, A0, hy0⟩ := loop0 (row := row) (cnt := nT n) bb hx (by omega)
  obtain ⟨l1, y1, b5, _, e1, n1, A1, hy1, ot, rfl⟩ := loop1 (a5 := a5) h bb hy0 (by omega) n0 A0
  let S3 := boxSt (rfD row bl (nT n) 1 b5 (some (.pure ot)) none none none) y1 [some (l1.map VD.pure)]
  let S4 := boxSt (rfD row bl (nT n) 1 b5 (some (.pure ot)) (some (.pure (.lst (setsT n)))) none none) y1 [some (l1.map VD.pure)]
  have m3 : mv 3 S3 = .ok (vl (nT n)) S3 := mv_ok rfl
  have i0 : mTup (aCons (mv 3) aNil) S3 = .ok (vl (.tup [nT n])) S3 := tup_ok (aCons_ok m3 aNil_ok) rfl
  have i1 : mTup (aCons (rt (vl (.int 0))) (aCons (mv 3) aNil)) S3 = .ok (vl (.tup [.int 0, nT n])) S3 := tup_ok (aCons_ok rt_ok (aCons_ok m3 aNil_ok)) rfl
  have s3 : mSet 0 7 (mLst (aCons (rt (vl .non)) (aCons (rt (vl (.int 5))) (aCons (rt (vl (.str []))) (aCons (mLst (aCons (rt (vl (.int 0))) aNil)) (aCons (mTup (aCons (rt (vl (.int 0))) (aCons (rt (vl (.int 0))) aNil))) (aCons (mTup (aCons (mv 3) aNil)) (aCons (mTup (aCons (m1 oNeg (rt (vl (.int 1)))) aNil)) (aCons (mTup (aCons (rt (vl (.bl true))) aNil)) (aCons (mTup (aCons (rt (vl (.str [48]))) aNil)) (aCons (rt (vl (.dct [] []))) (aCons (mTup (aCons (rt (vl (.int 1))) (aCons (rt (vl (.int 0))) aNil))) (aCons (mTup (aCons (rt (vl (.int 0))) (aCons (mv 3) aNil))) (aCons (mTup (aCons (rt (vl .non)) aNil)) (aCons (mLst aNil) (aCons (mTup (aCons (rt (vl (.int 0))) (aCons (rt (vl (.int 1))) (aCons (rt (vl (.int 1))) aNil)))) aNil)))))))))))))))) S3 = .ok .nx S4 := by
    refine to_st S4 (set_new (i := 7) (t := .lst (setsT n)) (lst_ok (aCons_ok rt_ok (aCons_ok rt_ok (aCons_ok rt_ok (aCons_ok (lst_ok (aCons_ok rt_ok aNil_ok) rfl) (aCons_ok (tup_ok (aCons_ok rt_ok (aCons_ok rt_ok aNil_ok)) rfl) (aCons_ok i0 (aCons_ok (tup_ok (aCons_ok neg1 aNil_ok) rfl) (aCons_ok (tup_ok (aCons_ok rt_ok aNil_ok) rfl) (aCons_ok (tup_ok (aCons_ok rt_ok aNil_ok) rfl) (aCons_ok rt_ok (aCons_ok (tup_ok (aCons_ok rt_ok (aCons_ok rt_ok aNil_ok)) rfl) (aCons_ok i1 (aCons_ok (tup_ok (aCons_ok rt_ok aNil_ok) rfl) (aCons_ok (lst_ok aNil_ok rfl) (aCons_ok (tup_ok (aCons_ok rt_ok (aCons_ok rt_ok (aCons_ok rt_ok aNil_ok))) rfl) aNil_ok))))))))))))))) rfl) ?_) rfl
    rfl
  obtain ⟨p, y2, p0, p1, hy2, t1⟩ := take_call (D := rfD row bl (nT n) 1 b5 (some (.pure ot)) (some (.pure (.lst (setsT n)))) none none) (x := y1) (i := 0) (r := [some (l1.map VD.pure)]) (k := ((setsT n).length : Int)) (me := mCa bLenU (aCons (mv 7) aNil)) rfl (len_l (mv_ok rfl)) hy1 (by omega) (by show (1 : Int) ≤ 15; decide) (by show (15 : Int) < 1073741824; decide)
  obtain ⟨od, hod, eo⟩ := oIx_l p0 p1
  have ood : OkS n od := sets_ok od hod
  let D5 := fun k => rfD row bl (nT n) k b5 (some (.pure ot)) (some (.pure (.lst (setsT n)))) (some (.pure od)) none
  let S5 := boxSt (D5 1) y2 [some (l1.map VD.pure)]
  have s5 := to_st S5 (set_ok (n := 0) (i := 8) (t := od) (m2_ok (mv_ok (i := 7) (st := S4) rfl) t1 (eo _))) rfl
  let m4 : List T := [ask6 5 (.str row) od .non [115, 101, 116] 1, ask6 6 (.str row) od .non [115, 101, 116] 1, ask6 13 (nT n) od .non [115, 101, 116] 1, ask6 13 (nT n) (.tup []) od [115, 101, 116] 2]
  let S6 := boxSt (D5 2) y2 [some (l1.map VD.pure), some ((l1 ++ m4).map VD.pure)]
  have v1 : ∀ {S : SS}, S = S5 → mv 1 S = .ok (vl (.str row)) S ∧ mv 3 S = .ok (vl (nT n)) S ∧ mv 8 S = .ok (vl od) S := fun e => by subst e; exact ⟨mv_ok rfl, mv_ok rfl, mv_ok rfl⟩
  obtain ⟨w1, w3, w8⟩ := v1 (S := S5) rfl
  have s6 := to_st S6 (cat_cell (k := 1) (l := l1) (m := m4) (st := S5) (mv_ok (i := 4) rfl) rfl
    (aCons_ok (lst_ok (aCons_ok (rt_ok (f := vl (.int 5))) (aCons_ok w1 (aCons_ok w8 (aCons_ok (rt_ok (f := vl .non)) (aCons_ok (rt_ok (f := vl (.str [115, 101, 116]))) (aCons_ok (rt_ok (f := vl (.int 1))) aNil_ok)))))) rfl)
    (aCons_ok (lst_ok (aCons_ok (rt_ok (f := vl (.int 6))) (aCons_ok w1 (aCons_ok w8 (aCons_ok (rt_ok (f := vl .non)) (aCons_ok (rt_ok (f := vl (.str [115, 101, 116]))) (aCons_ok (rt_ok (f := vl (.int 1))) aNil_ok)))))) rfl)
    (aCons_ok (lst_ok (aCons_ok (rt_ok (f := vl (.int 13))) (aCons_ok w3 (aCons_ok w8 (aCons_ok (rt_ok (f := vl .non)) (aCons_ok (rt_ok (f := vl (.str [115, 101, 116]))) (aCons_ok (rt_ok (f := vl (.int 1))) aNil_ok)))))) rfl)
    (aCons_ok (lst_ok (aCons_ok (rt_ok (f := vl (.int 13))) (aCons_ok w3 (aCons_ok (tup_ok aNil_ok rfl) (aCons_ok w8 (aCons_ok (rt_ok (f := vl (.str [115, 101, 116]))) (aCons_ok (rt_ok (f := vl (.int 2))) aNil_ok)))))) rfl) aNil_ok))))
    rfl (by rw [n1]; show 19 + 4 ≤ 1000; decide)) rfl
  let m2' : List T := [ask6 13 (nT n) (.tup [.int 0]) (.tup [.int 0]) [115, 101, 116] 2, ask6 13 (nT n) (.tup (rgT 0 (n : Nat))) (.tup [.int ((n : Int) - 1)]) [115, 101, 116] 2]
  let l3 : List T := l1 ++ m4 ++ m2'
  let r3 : Store := [some (l1.map VD.pure), some ((l1 ++ m4).map VD.pure), some (l3.map VD.pure)]
  let S7 := boxSt (D5 3) y2 r3
  have u1 : mv 1 S6 = .ok (vl (.str row)) S6 := mv_ok rfl
  have u3 : mv 3 S6 = .ok (vl (nT n)) S6 := mv_ok rfl
  have tr : bd (mv 3) mTupR S6 = .ok (vl (.tup (rgT 0 (n : Nat)))) S6 := by
    rw [bd_ok u3]
    have g : (decide ((0 : Int) ≤ (n : Nat)) && decide ((n : Int) ≤ 1000000)) = true := by
      rw [Bool.and_eq_true]
      exact ⟨decide_eq_true (by omega), decide_eq_true (by omega)⟩
    show (bd (Ob.guard (decide ((0 : Int) ≤ (n : Nat)) && decide ((n : Int) ≤ 1000000))) fun _ => rt (vl (.tup (rgT 0 (n : Nat))))) S6 = _
    unfold bd Ob.guard
    rw [if_pos g]
    rfl
  have s7 := to_st S7 (cat_cell (k := 2) (l := l1 ++ m4) (m := m2') (st := S6) (mv_ok (i := 4) rfl) rfl
    (aCons_ok (lst_ok (aCons_ok (rt_ok (f := vl (.int 13))) (aCons_ok u3 (aCons_ok (tup_ok (aCons_ok (rt_ok (f := vl (.int 0))) aNil_ok) rfl) (aCons_ok (tup_ok (aCons_ok (rt_ok (f := vl (.int 0))) aNil_ok) rfl) (aCons_ok (rt_ok (f := vl (.str [115, 101, 116]))) (aCons_ok (rt_ok (f := vl (.int 2))) aNil_ok)))))) rfl)
    (aCons_ok (lst_ok (aCons_ok (rt_ok (f := vl (.int 13))) (aCons_ok u3 (aCons_ok tr (aCons_ok (tup_ok (aCons_ok (m2_ok u3 (rt_ok (f := vl (.int 1))) (sub_ok _)) aNil_ok) rfl) (aCons_ok (rt_ok (f := vl (.str [115, 101, 116]))) (aCons_ok (rt_ok (f := vl (.int 2))) aNil_ok)))))) rfl) aNil_ok))
    rfl (by rw [List.length_append, n1]; show 19 + 4 + 2 ≤ 1000; decide)) rfl
  let D8 := rfD row bl (nT n) 3 b5 (some (.pure ot)) (some (.pure (.lst (setsT n)))) (some (.pure od)) (some (.pure (.lst cntsT)))
  let S8 := boxSt D8 y2 r3
  have tc : mTup (aCons (rt (vl (.int 3))) aNil) S7 = .ok (vl (.tup [.int 3])) S7 := tup_ok (aCons_ok rt_ok aNil_ok) rfl
  have pw : m2 oPow (rt (vl (.int 10))) (rt (vl (.int 19))) S7 = .ok (vl (.int (10 ^ 19))) S7 := m2_ok rt_ok rt_ok (pow_ok (k := 19) (by decide) (by decide) _)
  have s8 := to_st S8 (set_new (i := 9) (t := .lst cntsT) (st := S7) (lst_ok (aCons_ok (rt_ok (f := vl .non)) (aCons_ok (rt_ok (f := vl (.int 0))) (aCons_ok (rt_ok (f := vl (.int 9))) (aCons_ok neg1 (aCons_ok (rt_ok (f := vl (.bl true))) (aCons_ok (rt_ok (f := vl (.str [51]))) (aCons_ok (lst_ok (aCons_ok (rt_ok (f := vl (.int 3))) aNil_ok) rfl) (aCons_ok tc (aCons_ok (rt_ok (f := vl (.dct [] []))) (aCons_ok pw aNil_ok)))))))))) rfl) rfl) rfl
  obtain ⟨q, y3, q0, q1, hy3, t2⟩ := take_call (D := D8) (x := y2) (i := 0) (r := r3) (k := 10) (me := rt (vl (.int 10))) rfl rfl hy2 (by omega) (by decide) (by decide)
  obtain ⟨ct, hct, ec⟩ := oIx_l (ts := cntsT) q0 q1
  obtain ⟨ct1, ct2, ct3⟩ := cnts_ok ct hct
  let asks : List T := l3 ++ [ask6 13 ct od od [99, 111, 117, 110, 116] 0]
  let s9 : Store := [some y3, some (l1.map VD.pure), some ((l1 ++ m4).map VD.pure), some (asks.map VD.pure)]
  let S9 : SS := ⟨D8, s9, none⟩
  have z8 : ∀ y, mv 8 (boxSt D8 y r3) = .ok (vl od) (boxSt D8 y r3) := fun y => mv_ok rfl
  have ap := app_ok (k := 3) (mo := mv 4) (st := S8) (st1 := boxSt D8 y3 r3) (f := ask6F 13 ct od od [99, 111, 117, 110, 116] 0) (t := ask6 13 ct od od [99, 111, 117, 110, 116] 0) (l0 := l3) (l := l3) (mv_ok (i := 4) rfl) rfl
    (aCons_ok (lst_ok (aCons_ok (rt_ok (f := vl (.int 13))) (aCons_ok (m2_ok (mv_ok (i := 9) rfl) t2 (ec _)) (aCons_ok (z8 y3) (aCons_ok (z8 y3) (aCons_ok (rt_ok (f := vl (.str [99, 111, 117, 110, 116]))) (aCons_ok (rt_ok (f := vl (.int 0))) aNil_ok)))))) rfl) aNil_ok) rfl (fz6 _ _ _ _ _ _) (by rw [List.length_append, List.length_append, n1]; show 19 + 4 + 2 < 1000; decide)
  have hA : ∀ t ∈ asks, AskT t := by
    intro t ht
    have en : T.int ((n : Int) - 1) = nT (n - 1) := by
      show T.int _ = T.int _
      congr 1
      omega
    have er : T.tup (rgT 0 (n : Nat)) = el (List.range n) := by
      show T.tup ((List.range (((n : Nat) : Int) - 0).toNat).map _) = T.tup _
      congr 1
      rw [show (((n : Nat) : Int) - 0).toNat = n by omega]
      apply List.map_congr_left
      intro a _
      show T.int (0 + (a : Int)) = T.int (a : Int)
      rw [Int.zero_add]
    rcases List.mem_append.mp ht with h' | h'
    · rcases List.mem_append.mp h' with h' | h'
      · rcases List.mem_append.mp h' with h' | h'
        · exact A1 t h'
        · simp only [m4, List.mem_cons, List.not_mem_nil, or_false] at h'
          rcases h' with rfl | rfl | rfl | rfl
          · exact ⟨_, _, _, _, _, 1, by decide, ask_5 h ood, rfl⟩
          · exact ⟨_, _, _, _, _, 1, by decide, ask_6 h ood, rfl⟩
          · exact ⟨_, _, _, _, _, 1, by decide, ask_13a h1 h8 ood, rfl⟩
          · exact ⟨_, _, _, _, _, 2, by decide, ask_13b h1 h8 ood, rfl⟩
      · simp only [m2', List.mem_cons, List.not_mem_nil, or_false] at h'
        rcases h' with rfl | rfl
        · exact ⟨_, _, _, _, _, 2, by decide, ask_13c (n := n) (p := [0]) (m := [0]) h1 h8 (by simp; omega) (by simp) (by simp; omega) (by simp) ⟨0, by simp, by simp⟩, rfl⟩
        · rw [en, er]
          exact ⟨_, _, _, _, _, 2, by decide, ask_13c (n := n) (p := List.range n) (m := [n - 1]) h1 h8 (fun k hk => List.mem_range.mp hk) (range_pw n) (by simp; omega) (by simp) ⟨n - 1, by simp, List.mem_range.mpr (by omega)⟩, rfl⟩
    · rw [List.mem_singleton.mp h']
      exact ⟨_, _, _, _, _, 0, by decide, ask_13n ct1 ct2 ct3 ood.x ood.x, rfl⟩
  have box : rlC 4 (some y3) = true ∧ rlC 1 (some y3) = true := by
    obtain ⟨g, b, m, j, rfl, _⟩ := hy3
    constructor <;> simp [rlC, rls, rl]
  have pl : ∀ (k : Nat) (l : List T), rlC k (some (l.map VD.pure)) = true := fun k l => by
    show rls k (l.map VD.pure) = true
    induction l with
    | nil => rfl
    | cons a r ih => rw [List.map_cons, rls, rl, ih]; rfl
  obtain ⟨st', e2, e3⟩ := loop2 (row := .str row) (bad := .lst bl) (cnt := nT n) (oth := ot) (sets := .lst (setsT n)) (od := od) (cts := .lst cntsT) (s := s9) hA rfl (by
    show (rlC 4 (some y3) && (rlC 4 _ && (rlC 4 _ && (rlC 4 _ && true)))) = true
    rw [box.1, pl, pl, pl]
    rfl) rfl b5
  refine ⟨y3, hy3.mono (by omega), ?_⟩
  have e1' : l__law_refused_right_1 (boxSt (l0D row bl (nT n) a5 none) y0 [some (l0.map VD.pure)]) = .ok .nx S3 := e1
  have e2' : l__law_refused_right_2 S9 = .ok .nx st' := e2
  have fin1 : fin 1 (vl (.bl true)) s9 = .ok (vl (.bl true)) [some y3] := by
    have g : cutS 1 s9 = some [some y3] := by
      unfold cutS
      rw [if_neg (by show ¬4 = 1; decide), if_pos ⟨by show 1 < 4; decide, by show (rlC 1 (some y3) && true) = true; rw [box.2]; rfl⟩]
      rfl
    unfold fin
    rw [g]
    show (if rlF 1 (vl (.bl true)) = true then _ else _) = _
    rw [if_pos (rlF_v _ _)]
  unfold f__law_refused_right fnM
  have run : m__law_refused_right (entry 18 [.cell 0, .pure (.str row)] [some x]) = .ok (.rt (vl (.bl true))) st' := by
    show m__law_refused_right S0 = _
    unfold m__law_refused_right
    rw [sq_nx s1, sq_nx s2, sq_nx e0, sq_nx e1', sq_nx s3, sq_nx s5, sq_nx s6, sq_nx s7, sq_nx s8, sq_nx (st' := S9) (by rw [bd_ok ap]; rfl), sq_nx e2']
    exact ret_ok rt_ok
  rw [run]
  show fin 1 (vl (.bl true)) st'.s = _
  rw [e3]
  exact fin1
end Ob.K00
/-! # Kza: law, the loop over second rows -/
namespace Ob.K00
open PySem PySem.Spec PyProof.Rows L2 Ob

abbrev laD (sc : T) (k : Int) (b : Bool) (row : List Nat) (a5 a6 a7 a8 : Option VD) : List (Option VD) := [some (.pure sc), some (pI k), some (.cell 0), some (.pure (.bl b)), some (.pure (.str row)), a5, a6, a7, a8]
section
variable {sc : T} {k : Int} {row : List Nat}
theorem law1 {c : Nat} {x : Cell} {b : Bool} {p5 p6 p7 p8 : Option VD} (h : Row row) (hx : Bx c x) (hc : c + 1000 ≤ 1000000) :
    ∃ (y : Cell) (b' : Bool) (a5 a6 : Option VD), l_law_1 (boxSt (laD sc k b row p5 p6 p7 p8) x []) = .ok .nx (boxSt (laD sc k b' row a5 a6 p7 p8) y []) ∧ Bx (c + 90) y ∧ (∃ t, a5 = some (.pure t)) ∧ (∃ t, a6 = some (.pure t)) := by
  obtain ⟨st', e, y, b', a5, a6, rfl, h2, h3⟩ := for_inv (src := bd (aCons (rt (vl (.int 3))) aNil) mRng1) (t := .nm 5) (kl := []) (body := l_law_1_b) (sr := .rng 0 3) (ds := (List.range 3).map fun i => .pure (.int (0 + (i : Nat)))) (st := boxSt (laD sc k b row p5 p6 p7 p8) x []) (st1 := boxSt (laD sc k b row p5 p6 p7 p8) x [])
    (I := fun i st => ∃ (y : Cell) (b' : Bool) (a5 a6 : Option VD), st = boxSt (laD sc k b' row a5 a6 p7 p8) y [] ∧ Bx (c + 30 * i) y ∧ (0 < i → (∃ t, a5 = some (.pure t)) ∧ (∃ t, a6 = some (.pure t))))
    (rng_src (me := rt (vl (.int 3))) (k := 3) rt_ok (by decide)) ⟨x, b, p5, p6, rfl, hx, fun h => absurd h (by decide)⟩ (fun i st _ => rfl)
    (fun i st d hd ⟨z, b, a5, a6, e, hz, _⟩ => by
      subst e
      have hi : i < 3 := by
        have := (List.getElem?_eq_some_iff.mp hd).1
        simpa using this
      have ed : d = pI (i : Nat) := by
        rw [List.getElem?_map, List.getElem?_range hi] at hd
        simp at hd
        exact hd.symm
      subst ed
      obtain ⟨q, z1, hq, lq, hz1, e1⟩ := second_ok (r := []) h hz (by omega)
      obtain ⟨z2, hz2, e2⟩ := one_ok (b := b) (r := []) hq hz1 (by omega)
      let S0 := boxSt (laD sc k b row (some (pI (i : Nat))) a6 p7 p8) z []
      let S1 := boxSt (laD sc k b row (some (pI (i : Nat))) (some (.pure (.str q))) p7 p8) z1 []
      let S2 := boxSt (laD sc k b row (some (pI (i : Nat))) (some (.pure (.str q))) p7 p8) z2 []
      let S3 := boxSt (laD sc k (!b) row (some (pI (i : Nat))) (some (.pure (.str q))) p7 p8) z2 []
      have m2' : ∀ {S : SS}, S = S0 → mv 2 S = .ok (.val (.cell 0)) S ∧ mv 4 S = .ok (vl (.str row)) S := fun e => by subst e; exact ⟨mv_ok rfl, mv_ok rfl⟩
      obtain ⟨v2, v4⟩ := m2' rfl
      have c1 : mCall 2 f__law_second (aCons (mv 2) (aCons (mv 4) aNil)) S0 = .ok (vl (.str q)) (boxSt (laD sc k b row (some (pI (i : Nat))) a6 p7 p8) z1 []) := mCall_ok (aCons_ok v2 (aCons_ok v4 aNil_ok)) (goC_cell (ds := [.cell 0, .pure (.str row)]) rfl rfl e1)
      have s1 := to_st S1 (set_ok (n := 0) (i := 6) (t := .str q) c1) rfl
      have c2 : mCall 3 f__law_one_right (aCons (mv 2) (aCons (mv 6) (aCons (mv 3) aNil))) S1 = .ok (vl (.bl true)) S2 := mCall_ok (aCons_ok (mv_ok (i := 2) (st := S1) (d := .cell 0) rfl) (aCons_ok (mv_ok (i := 6) (d := .pure (.str q)) rfl) (aCons_ok (mv_ok (i := 3) (d := .pure (.bl b)) rfl) aNil_ok))) (goC_cell (ds := [.cell 0, .pure (.str q), .pure (.bl b)]) rfl rfl e2)
      have c3 : mCall 3 f__law_two_right (aCons (mv 4) (aCons (mv 6) (aCons (mv 3) aNil))) S2 = .ok (vl (.bl true)) S2 := mCall_ok (aCons_ok (mv_ok (i := 4) (st := S2) (d := .pure (.str row)) rfl) (aCons_ok (mv_ok (i := 6) (d := .pure (.str q)) rfl) (aCons_ok (mv_ok (i := 3) (d := .pure (.bl b)) rfl) aNil_ok))) (goC_pure (ts := [.str row, .str q, .bl b]) rfl (two_right_ok h hq lq.symm))
      have nb : mNot (mv 3) S2 = .ok (vl (.bl (!b))) S2 := rfl
      have c4 : mCall 3 f__law_two_right (aCons (mv 6) (aCons (mv 4) (aCons (mNot (mv 3)) aNil))) S2 = .ok (vl (.bl true)) S2 := mCall_ok (aCons_ok (mv_ok (i := 6) (st := S2) (d := .pure (.str q)) rfl) (aCons_ok (mv_ok (i := 4) (d := .pure (.str row)) rfl) (aCons_ok nb aNil_ok))) (goC_pure (ts := [.str q, .str row, .bl (!b)]) rfl (two_right_ok hq h lq))
      have no : ∀ {m : M FT} {st st' : SS}, m st = .ok (vl (.bl true)) st' → tNotM (bd m tru) st = .ok false st' := fun e => by
        unfold tNotM
        rw [bd_ok (tru_b e)]
        rfl
      have or : ∀ {a b : M Bool} {st st' : SS}, a st = .ok false st' → tOrM a b st = b st' := fun e => by
        unfold tOrM
        rw [bd_ok e]
        rfl
      have s2 := (or (no c2)).trans ((or (b := tNotM (bd (mCall 3 f__law_two_right (aCons (mv 6) (aCons (mv 4) (aCons (mNot (mv 3)) aNil)))) tru)) (no c3)).trans (no c4))
      have s3 := to_st S3 (set_ok (n := 0) (i := 3) (t := .bl (!b)) nb) rfl
      refine ⟨S0, S3, S3, rfl, ?_, rfl, z2, _, _, _, rfl, hz2.mono (by omega), fun _ => ⟨⟨_, rfl⟩, ⟨_, rfl⟩⟩⟩
      unfold l_law_1_b
      rw [sq_nx s1, sq_nx (if_fn s2)]
      exact s3)
  rw [List.length_map, List.length_range] at h2 h3
  exact ⟨y, b', a5, a6, e, h2.mono (by omega), (h3 (by decide)).1, (h3 (by decide)).2⟩
end
end Ob.K00
/-! # Kzb: law, the loop over values -/
namespace Ob.K00
open PySem PySem.Spec PyProof.Rows L2 Ob

def looks (row : List Nat) : List T := odd row ++ [.str row, .str row.reverse, .str (row.take 1)]
theorem looks_ok {row : List Nat} (h : Row row) : ∀ t ∈ looks row, ∀ r, t = .str r → r.length ≤ lim := by
  have hb := h.b
  intro t ht
  rcases List.mem_append.mp ht with h' | h'
  · exact (ok1_odd h t h').z
  · simp only [List.mem_cons, List.not_mem_nil, or_false] at h'
    rcases h' with rfl | rfl | rfl
    · exact (ok1_s (by omega)).z
    · exact (ok1_s (by rw [List.length_reverse]; omega)).z
    · exact (ok1_s (by rw [List.length_take]; omega)).z
def oddL (r : List Nat) : List FT := [vl .non, vl (.int 5), vl (.str []), vl (.str [120]), vl (.str (cutL r none (some (-1)) ++ [120])), vl (.str (r ++ (List.replicate (9 - r.length) [43]).flatten)), .new [vl (.str r)], vl (.tup [.str r]), vl (.dct [] []), vl (.bl true), vl (.str ([32] ++ r.drop 1)), .new ((chs r).map fun t => FT.val (.pure t)), vl (.str [43, 32]), vl (.str [43, 43, 10]), vl (.str (List.replicate r.length [112]).flatten)]
section
variable {sc : T} {k : Int} {row : List Nat}
theorem law2 {y : Cell} {b : Bool} {a5 a6 p7 p8 : Option VD} (h : Row row) :
    ∃ a7 a8 : T, l_law_2 (boxSt (laD sc k b row a5 a6 p7 p8) y []) = .ok .nx (boxSt (laD sc k b row a5 a6 (some (.pure a7)) (some (.pure a8))) y []) := by
  let S := boxSt (laD sc k b row a5 a6 p7 p8) y []
  have v4 : mv 4 S = .ok (vl (.str row)) S := mv_ok rfl
  have rv : m1 oRevS (mv 4) S = .ok (vl (.str row.reverse)) S := by
    unfold m1
    rw [bd_ok v4]
    rfl
  have tk : mSl (mv 4) pNone (bd (rt (vl (.int 1))) asInt) S = .ok (vl (.str (row.take 1))) S := sl_to (j := 1) v4 rt_ok h.a
  have src : m2 oAdd (mCall 1 f__law_odd_rows (aCons (mv 4) aNil)) (mLst (aCons (mv 4) (aCons (m1 oRevS (mv 4)) (aCons (mSl (mv 4) pNone (bd (rt (vl (.int 1))) asInt)) aNil)))) S = .ok (.new (oddL row ++ [vl (.str row), vl (.str row.reverse), vl (.str (row.take 1))])) S :=
    m2_ok (odd_call h v4) (lst_ok (aCons_ok v4 (aCons_ok rv (aCons_ok tk aNil_ok))) rfl) rfl
  have hf : fz (.new (oddL row ++ [vl (.str row), vl (.str row.reverse), vl (.str (row.take 1))])) = .pure (.lst (looks row)) := by
    have e : fz (.new ((chs row).map fun t => FT.val (.pure t))) = .pure (.lst (chs row)) := fz_lst rfl
    show fz (.new [vl .non, vl (.int 5), vl (.str []), vl (.str [120]), vl (.str (cutL row none (some (-1)) ++ [120])), vl (.str (row ++ (List.replicate (9 - row.length) [43]).flatten)), .new [vl (.str row)], vl (.tup [.str row]), vl (.dct [] []), vl (.bl true), vl (.str ([32] ++ row.drop 1)), .new ((chs row).map fun t => FT.val (.pure t)), vl (.str [43, 32]), vl (.str [43, 43, 10]), vl (.str (List.replicate row.length [112]).flatten), vl (.str row), vl (.str row.reverse), vl (.str (row.take 1))]) = _
    rw [fz]
    simp only [fzs, e]
    rfl
  have hsrc : (bd (m2 oAdd (mCall 1 f__law_odd_rows (aCons (mv 4) aNil)) (mLst (aCons (mv 4) (aCons (m1 oRevS (mv 4)) (aCons (mSl (mv 4) pNone (bd (rt (vl (.int 1))) asInt)) aNil))))) mOne) S = .ok (.one (.pure (.lst (looks row)))) S := by
    rw [bd_ok src]
    unfold mOne
    rw [hf]
    rfl
  obtain ⟨st', e, a7, a8, rfl, h2⟩ := for_inv (t := .nm 7) (kl := []) (body := l_law_2_b) (ds := (looks row).map VD.pure) (st := S)
    (I := fun i st => ∃ a7 a8 : Option VD, st = boxSt (laD sc k b row a5 a6 a7 a8) y [] ∧ (0 < i → (∃ t, a7 = some (.pure t)) ∧ (∃ t, a8 = some (.pure t)))) hsrc ⟨p7, p8, rfl, fun h => absurd h (by decide)⟩ (fun i st _ => rfl)
    (fun i st d hd ⟨a7, a8, e, _⟩ => by
      subst e
      obtain ⟨t, ht, rfl⟩ := List.mem_map.mp (List.mem_of_getElem? hd)
      have z := looks_ok h t ht
      let S0 := boxSt (laD sc k b row a5 a6 (some (.pure t)) a8) y []
      let S1 := boxSt (laD sc k b row a5 a6 (some (.pure t)) (some (.pure (.bl (isRow t))))) y []
      have v7 : ∀ {S : SS}, S = S1 → mv 7 S = .ok (vl t) S := fun e => by subst e; exact mv_ok rfl
      have s1 := to_st S1 (set_ok (n := 0) (i := 8) (t := .bl (isRow t)) (mCall_ok (n := 1) (aCons_ok (mv_ok (i := 7) (st := S0) (d := .pure t) rfl) aNil_ok) (goC_pure (ts := [t]) rfl (e_law_is_row t [] z)))) rfl
      have g : ∀ st : SS, goC 1 f_is_row [.pure t] st = .ok (vl (.bl (isRow t))) st := fun st => goC_pure (ts := [t]) rfl (e_is_row t [] z)
      have c1 : mIf (bd (mv 3) tru) (mCallK 1 1 [0] f_is_row (aCons (mv 7) aNil)) (mCall 1 f_is_row (aCons (mv 7) aNil)) S1 = .ok (vl (.bl (isRow t))) S1 := by
        refine mIf_ok (c := b) (st1 := S1) rfl ?_
        cases b with
        | true => exact mCallK_ok (aCons_ok (v7 rfl) aNil_ok) rfl (g _)
        | false => exact mCall_ok (aCons_ok (v7 rfl) aNil_ok) (g _)
      have c2 : mCallB 2 (f__law_same 4) (aCons (mIf (bd (mv 3) tru) (mCallK 1 1 [0] f_is_row (aCons (mv 7) aNil)) (mCall 1 f_is_row (aCons (mv 7) aNil))) (aCons (mv 8) aNil)) S1 = .ok (vl (.bl true)) S1 := by
        unfold mCallB
        rw [bd_ok (aCons_ok c1 (aCons_ok (mv_ok (i := 8) (d := .pure (.bl (isRow t))) rfl) aNil_ok))]
        have e : ∀ k : List T → M FT, bd (rds [vl (.bl (isRow t)), vl (.bl (isRow t))]) k S1 = k [.bl (isRow t), .bl (isRow t)] S1 := fun k => rfl
        refine (e _).trans ?_
        exact goB_t (same_refl 4 _ rfl)
      have no : tNotM (bd (mCallB 2 (f__law_same 4) (aCons (mIf (bd (mv 3) tru) (mCallK 1 1 [0] f_is_row (aCons (mv 7) aNil)) (mCall 1 f_is_row (aCons (mv 7) aNil))) (aCons (mv 8) aNil))) tru) S1 = .ok false S1 := by
        unfold tNotM
        rw [bd_ok (tru_b c2)]
        rfl
      refine ⟨S0, S1, S1, rfl, ?_, rfl, _, _, rfl, fun _ => ⟨⟨_, rfl⟩, ⟨_, rfl⟩⟩⟩
      unfold l_law_2_b
      rw [sq_nx s1]
      exact if_fn no)
  obtain ⟨⟨t7, rfl⟩, ⟨t8, rfl⟩⟩ := h2 (by rw [List.length_map]; show 0 < 18; decide)
  exact ⟨t7, t8, e⟩
end
end Ob.K00
/-! # Kzc: law itself -/
namespace Ob.K00
open PySem PySem.Spec PyProof.Rows L2 Ob

theorem fz_vals : ∀ x : Cell, (x.map FT.val).map fz = x
  | [] => rfl
  | a :: r => by rw [List.map_cons, List.map_cons, fz_vals r, fz]
abbrev lwS (sc : T) (a1 a3 a4 a5 a6 a7 a8 : Option VD) : SS := ⟨[some (.pure sc), a1, none, a3, a4, a5, a6, a7, a8], [], none⟩
theorem law0 {ns : List Int} (hn : ns.length ≤ 1000) : ∃ st', l_law_0 (lwS (.xl (ns.map .int)) none none none none none none none) = .ok .nx st' ∧ st'.s = [] := by
  let sc : T := .xl (ns.map .int)
  let st0 := lwS sc none none none none none none none
  let n8 : Int := if (ns.length : Int) < 8 then (ns.length : Int) else 8
  let n4 : Int := if n8 > 4 then n8 else 4
  have hle : mCa bLenU (aCons (mv 0) aNil) st0 = .ok (vl (.int (ns.length : Int))) st0 := by
    refine mCa_ok (aCons_ok (mv_ok (i := 0) (st := st0) (d := .pure sc) rfl) aNil_ok) ?_
    show bLenU [vl (.xl (ns.map .int))] st0 = _
    simp [bLenU, bLen, bd, seqOf, rt]
  have hmin : mCa bMin (aCons (rt (vl (.int 8))) (aCons (mCa bLenU (aCons (mv 0) aNil)) aNil)) st0 = .ok (vl (.int n8)) st0 := mCa_ok (aCons_ok rt_ok (aCons_ok hle aNil_ok)) rfl
  have hmax : mCa bMax (aCons (rt (vl (.int 4))) (aCons (mCa bMin (aCons (rt (vl (.int 8))) (aCons (mCa bLenU (aCons (mv 0) aNil)) aNil))) aNil)) st0 = .ok (vl (.int n4)) st0 := mCa_ok (aCons_ok rt_ok (aCons_ok hmin aNil_ok)) rfl
  have n4a : 0 ≤ n4 := by
    show (0 : Int) ≤ if n8 > 4 then n8 else 4
    split <;> omega
  have n4b : n4 ≤ 1000 := by
    have : n8 ≤ 8 := by
      show (if (ns.length : Int) < 8 then (ns.length : Int) else 8) ≤ 8
      split <;> omega
    show (if n8 > 4 then n8 else 4) ≤ 1000
    split <;> omega
  have hsrc := rng_srcI (aCons_ok hmax aNil_ok) (by omega) (by omega)
  obtain ⟨st', e, a1, a3, a4, a5, a6, a7, a8, rfl⟩ := for_inv (t := .nm 1) (kl := [2]) (body := l_law_0_b) (ds := (List.range n4.toNat).map fun i => .pure (.int (0 + (i : Nat)))) (st := st0) (st1 := st0)
    (I := fun _ st => ∃ a1 a3 a4 a5 a6 a7 a8 : Option VD, st = lwS sc a1 a3 a4 a5 a6 a7 a8)
    hsrc ⟨none, none, none, none, none, none, none, rfl⟩ (fun i st _ => rfl)
    (fun i st d hd ⟨a1, a3, a4, a5, a6, a7, a8, e⟩ => by
      subst e
      have hi : i < n4.toNat := by
        have := (List.getElem?_eq_some_iff.mp hd).1
        simpa using this
      have ed : d = pI (i : Nat) := by
        rw [List.getElem?_map, List.getElem?_range hi] at hd
        simp at hd
        exact hd.symm
      subst ed
      let S0 : SS := lwS sc (some (pI (i : Nat))) a3 a4 a5 a6 a7 a8
      obtain ⟨g, hg⟩ := cell_ok (ns := ns) (k := i) []
      obtain ⟨x, hx, hb⟩ := box_ok (g := g) []
      let S1 : SS := boxSt [some (.pure sc), some (pI (i : Nat)), some (.cell 0), a3, a4, a5, a6, a7, a8] x []
      have c1 : mCall 2 f__law_cell (aCons (mv 0) (aCons (mv 1) aNil)) S0 = .ok (vl (.int g)) S0 := mCall_ok (aCons_ok (mv_ok (i := 0) (st := S0) (d := .pure sc) rfl) (aCons_ok (mv_ok (i := 1) (d := pI (i : Nat)) rfl) aNil_ok)) (goC_pure (ts := [sc, .int (i : Nat)]) rfl hg)
      have c2 : mCall 1 f__law_box (aCons (mCall 2 f__law_cell (aCons (mv 0) (aCons (mv 1) aNil))) aNil) S0 = .ok (.new (x.map FT.val)) S0 := mCall_ok (n := 1) (aCons_ok c1 aNil_ok) (goC_pure (ts := [.int g]) rfl hb)
      have s1 : mSet 1 2 (mCall 1 f__law_box (aCons (mCall 2 f__law_cell (aCons (mv 0) (aCons (mv 1) aNil))) aNil)) S0 = .ok .nx S1 := by
        refine to_st S1 (set_n (i := 2) c2 (alF1 _ _)) ?_
        rw [fz_vals]
        rfl
      obtain ⟨u, y0, u0, u1, hy0, t1⟩ := take_call (D := [some (.pure sc), some (pI (i : Nat)), some (.cell 0), a3, a4, a5, a6, a7, a8]) (x := x) (i := 2) (r := []) (k := 2) (me := rt (vl (.int 2))) rfl rfl hx (by omega) (by decide) (by decide)
      obtain ⟨row, y1, hr, hy1, e2⟩ := drawn_ok (r := []) hy0 (by omega)
      let S2 : SS := boxSt (laD sc (i : Nat) (u == 1) row a5 a6 a7 a8) y1 []
      have c3 : mCall 1 f__law_drawn (aCons (mv 2) aNil) (boxSt [some (.pure sc), some (pI (i : Nat)), some (.cell 0), a3, a4, a5, a6, a7, a8] y0 []) = .ok (vl (.str row)) (boxSt [some (.pure sc), some (pI (i : Nat)), some (.cell 0), a3, a4, a5, a6, a7, a8] y1 []) := mCall_ok (n := 1) (aCons_ok (mv_ok (i := 2) (d := .cell 0) rfl) aNil_ok) (goC_cell (ds := [.cell 0]) rfl rfl e2)
      have s2 : mPar 0 3 4 (aCons (m2 oEq (mCall 2 f__law_take (aCons (mv 2) (aCons (rt (vl (.int 2))) aNil))) (rt (vl (.int 1)))) (aCons (mCall 1 f__law_drawn (aCons (mv 2) aNil)) aNil)) S1 = .ok .nx S2 := by
        unfold mPar
        rw [bd_ok (aCons_ok (m2_ok t1 (rt_ok (f := vl (.int 1))) (eq_i _ _ _)) (aCons_ok c3 aNil_ok))]
        rfl
      obtain ⟨y2, b', b5, b6, e3, hy2, ⟨t5, rfl⟩, ⟨t6, rfl⟩⟩ := law1 (sc := sc) (k := (i : Nat)) (b := (u == 1)) (p5 := a5) (p6 := a6) (p7 := a7) (p8 := a8) hr hy1 (by omega)
      obtain ⟨t7, t8, e4⟩ := law2 (sc := sc) (k := (i : Nat)) (y := y2) (b := b') (a5 := some (.pure t5)) (a6 := some (.pure t6)) (p7 := a7) (p8 := a8) hr
      obtain ⟨y3, hy3, e5⟩ := refused_ok hr hy2 (by omega)
      let D5 := laD sc (i : Nat) b' row (some (.pure t5)) (some (.pure t6)) (some (.pure t7)) (some (.pure t8))
      let S5 : SS := boxSt D5 y3 []
      have c5 : mCall 2 f__law_refused_right (aCons (mv 2) (aCons (mv 4) aNil)) (boxSt D5 y2 []) = .ok (vl (.bl true)) S5 := mCall_ok (aCons_ok (mv_ok (i := 2) (st := boxSt D5 y2 []) (d := .cell 0) rfl) (aCons_ok (mv_ok (i := 4) (d := .pure (.str row)) rfl) aNil_ok)) (goC_cell (ds := [.cell 0, .pure (.str row)]) rfl rfl e5)
      have no : tNotM (bd (mCall 2 f__law_refused_right (aCons (mv 2) (aCons (mv 4) aNil))) tru) (boxSt D5 y2 []) = .ok false S5 := by
        unfold tNotM
        rw [bd_ok (tru_b c5)]
        rfl
      refine ⟨S0, S5, lwS sc (some (pI (i : Nat))) (some (.pure (.bl b'))) (some (.pure (.str row))) (some (.pure t5)) (some (.pure t6)) (some (.pure t7)) (some (.pure t8)), rfl, ?_, ?_, _, _, _, _, _, _, _, rfl⟩
      · unfold l_law_0_b
        rw [sq_nx s1, sq_nx s2, sq_nx e3, sq_nx e4]
        exact if_fn no
      · unfold cut
        rw [if_neg (by show ¬1 = 0; decide), if_pos ⟨by show 0 < 1; decide, rfl, rfl, rfl⟩]
        rfl)
  exact ⟨_, e, rfl⟩
theorem law_ok {ns : List Int} (hn : ns.length ≤ 1000) : f_law [.pure (.xl (ns.map .int))] [] = .ok (vl (.bl true)) [] := by
  obtain ⟨st', e, es⟩ := law0 hn
  refine fnM_rt (st := st') ?_ es (rlF_v _ _)
  show m_law (lwS (.xl (ns.map .int)) none none none none none none none) = _
  unfold m_law
  rw [sq_nx e]
  exact ret_ok rt_ok
end Ob.K00
namespace Ob.K00
open PySem PySem.Spec PyProof.Rows L2 Ob
theorem all_mk {P : Program} {w : World} {K : PySem.W.Frag} {h : Heap} {mg : Str → Option Value} {fa : Addr}
    {C_InvalidCount C_InvalidRow C_InvalidSet C_OrientError : Addr}
    {t_MOST_ELEMENTS t_SIGNS : Tok}
    (X : K.In h) (G : h.Ns mainGlobals mg) (hfa : mg "law" = some (.ref fa))
    (e_InvalidCount : ErF K mg "InvalidCount" "InvalidCount.__init__" i_InvalidCount C_InvalidCount)
    (e_InvalidRow : ErF K mg "InvalidRow" "InvalidRow.__init__" i_InvalidRow C_InvalidRow)
    (e_InvalidSet : ErF K mg "InvalidSet" "InvalidSet.__init__" i_InvalidSet C_InvalidSet)
    (s_InvalidCount_InvalidCount : PySem.W.subIn K (.ref C_InvalidCount) (.ref C_InvalidCount) = some true)
    (s_InvalidCount_InvalidRow : PySem.W.subIn K (.ref C_InvalidCount) (.ref C_InvalidRow) = some false)
    (s_InvalidCount_InvalidSet : PySem.W.subIn K (.ref C_InvalidCount) (.ref C_InvalidSet) = some false)
    (s_InvalidRow_InvalidCount : PySem.W.subIn K (.ref C_InvalidRow) (.ref C_InvalidCount) = some false)
    (s_InvalidRow_InvalidRow : PySem.W.subIn K (.ref C_InvalidRow) (.ref C_InvalidRow) = some true)
    (s_InvalidRow_InvalidSet : PySem.W.subIn K (.ref C_InvalidRow) (.ref C_InvalidSet) = some false)
    (s_InvalidSet_InvalidCount : PySem.W.subIn K (.ref C_InvalidSet) (.ref C_InvalidCount) = some false)
    (s_InvalidSet_InvalidRow : PySem.W.subIn K (.ref C_InvalidSet) (.ref C_InvalidRow) = some false)
    (s_InvalidSet_InvalidSet : PySem.W.subIn K (.ref C_InvalidSet) (.ref C_InvalidSet) = some true)
    (a_OrientError : PySem.W.nsIn K mainGlobals "OrientError" = some (some (.ref C_OrientError))) (i_OrientError : PySem.W.isClsIn K C_OrientError = true) (t_OrientError : PySem.W.typeIn K (.ref C_OrientError) = some (.type "type")) (s_OrientError : PySem.W.subIn K (.ref C_InvalidCount) (.ref C_OrientError) = some true)
    (z_abs : PySem.W.nsIn K mainGlobals "abs" = some none)
    (z_all : PySem.W.nsIn K mainGlobals "all" = some none)
    (z_any : PySem.W.nsIn K mainGlobals "any" = some none)
    (z_bool : PySem.W.nsIn K mainGlobals "bool" = some none)
    (z_dict : PySem.W.nsIn K mainGlobals "dict" = some none)
    (z_enumerate : PySem.W.nsIn K mainGlobals "enumerate" = some none)
    (z_int : PySem.W.nsIn K mainGlobals "int" = some none)
    (z_isinstance : PySem.W.nsIn K mainGlobals "isinstance" = some none)
    (z_len : PySem.W.nsIn K mainGlobals "len" = some none)
    (z_list : PySem.W.nsIn K mainGlobals "list" = some none)
    (z_max : PySem.W.nsIn K mainGlobals "max" = some none)
    (z_min : PySem.W.nsIn K mainGlobals "min" = some none)
    (z_range : PySem.W.nsIn K mainGlobals "range" = some none)
    (z_str : PySem.W.nsIn K mainGlobals "str" = some none)
    (z_sum : PySem.W.nsIn K mainGlobals "sum" = some none)
    (z_tuple : PySem.W.nsIn K mainGlobals "tuple" = some none)
    (z_zip : PySem.W.nsIn K mainGlobals "zip" = some none)
    (c_MOST_ELEMENTS : PySem.W.nsIn K mainGlobals "MOST_ELEMENTS" = some (some (.int 8 t_MOST_ELEMENTS)))
    (c_SIGNS : PySem.W.nsIn K mainGlobals "SIGNS" = some (some (.str ⟨[43, 45, 48].toArray⟩ t_SIGNS)))
    (d_NUMBERS : ∃ q, mg "NUMBERS" = some (.ref q) ∧ ∀ s t, tab_NUMBERS.lookup s = some t → ∃ v, KDct K w q ⟨s.toArray⟩ v ∧ ∀ F, RepT K F v t)
    (d_is_integer : ∃ a fd, Df K mg "is_integer" s_is_integer ["value"] a fd)
    (d_is_between : ∃ a fd, Df K mg "is_between" s_is_between ["value", "least", "most"] a fd)
    (d_is_rising : ∃ a fd, Df K mg "is_rising" s_is_rising ["items"] a fd)
    (d_are_between : ∃ a fd, Df K mg "are_between" s_are_between ["values", "least", "most"] a fd)
    (d_is_elements : ∃ a fd, Df K mg "is_elements" s_is_elements ["count", "value"] a fd)
    (d_is_signs : ∃ a fd, Df K mg "is_signs" s_is_signs ["value", "many"] a fd)
    (d_is_row_of : ∃ a fd, Df K mg "is_row_of" s_is_row_of ["count", "value"] a fd)
    (d_sign_of : ∃ a fd, Df K mg "sign_of" s_sign_of ["number"] a fd)
    (d_row_of_numbers : ∃ a fd, Df K mg "row_of_numbers" s_row_of_numbers ["numbers"] a fd)
    (d_numbers_of : ∃ a fd, Df K mg "numbers_of" s_numbers_of ["row"] a fd)
    (d_turned_signs : ∃ a fd, Df K mg "turned_signs" s_turned_signs ["row"] a fd)
    (d_is_row : ∃ a fd, Df K mg "is_row" s_is_row ["value"] a fd)
    (d_check_some_row : ∃ a fd, Df K mg "check_some_row" s_check_some_row ["row"] a fd)
    (d_check_two : ∃ a fd, Df K mg "check_two" s_check_two ["one", "other"] a fd)
    (d_places_with : ∃ a fd, Df K mg "places_with" s_places_with ["row", "signs"] a fd)
    (d_plus_set : ∃ a fd, Df K mg "plus_set" s_plus_set ["row"] a fd)
    (d_minus_set : ∃ a fd, Df K mg "minus_set" s_minus_set ["row"] a fd)
    (d_zero_set : ∃ a fd, Df K mg "zero_set" s_zero_set ["row"] a fd)
    (d_support : ∃ a fd, Df K mg "support" s_support ["row"] a fd)
    (d_opposite : ∃ a fd, Df K mg "opposite" s_opposite ["row"] a fd)
    (d_row_of : ∃ a fd, Df K mg "row_of" s_row_of ["count", "plus", "minus"] a fd)
    (d_check_members : ∃ a fd, Df K mg "check_members" s_check_members ["row", "members"] a fd)
    (d_turned_at : ∃ a fd, Df K mg "turned_at" s_turned_at ["row", "members"] a fd)
    (d_turned_row : ∃ a fd, Df K mg "turned_row" s_turned_row ["row", "members"] a fd)
    (d_part_of : ∃ a fd, Df K mg "part_of" s_part_of ["row", "members"] a fd)
    (d_composition : ∃ a fd, Df K mg "composition" s_composition ["one", "other"] a fd)
    (d_composed : ∃ a fd, Df K mg "composed" s_composed ["one", "other"] a fd)
    (d_products : ∃ a fd, Df K mg "products" s_products ["one", "other"] a fd)
    (d_product_row : ∃ a fd, Df K mg "product_row" s_product_row ["one", "other"] a fd)
    (d_parted_of : ∃ a fd, Df K mg "parted_of" s_parted_of ["one", "other"] a fd)
    (d_parted_set : ∃ a fd, Df K mg "parted_set" s_parted_set ["one", "other"] a fd)
    (d_fit_together : ∃ a fd, Df K mg "fit_together" s_fit_together ["one", "other"] a fd)
    (d_are_orthogonal : ∃ a fd, Df K mg "are_orthogonal" s_are_orthogonal ["one", "other"] a fd)
    (d_is_under : ∃ a fd, Df K mg "is_under" s_is_under ["one", "other"] a fd)
    (d_lies_below : ∃ a fd, Df K mg "lies_below" s_lies_below ["one", "other"] a fd)
    (d_meets_of : ∃ a fd, Df K mg "meets_of" s_meets_of ["one", "other"] a fd)
    (d__law_cell : ∃ a fd, Df K mg "_law_cell" s__law_cell ["script", "k"] a fd)
    (d__law_box : ∃ a fd, Df K mg "_law_box" s__law_box ["great"] a fd)
    (d__law_take : ∃ a fd, Df K mg "_law_take" s__law_take ["box", "many"] a fd)
    (d__law_same : ∃ a fd, Df K mg "_law_same" s__law_same ["told", "due"] a fd)
    (d__law_copy : ∃ a fd, Df K mg "_law_copy" s__law_copy ["value"] a fd)
    (d__law_blamed : ∃ a fd, Df K mg "_law_blamed" s__law_blamed ["given", "value"] a fd)
    (d__law_row : ∃ a fd, Df K mg "_law_row" s__law_row ["box", "count"] a fd)
    (d__law_product : ∃ a fd, Df K mg "_law_product" s__law_product ["one", "other"] a fd)
    (d__law_drawn : ∃ a fd, Df K mg "_law_drawn" s__law_drawn ["box"] a fd)
    (d__law_second : ∃ a fd, Df K mg "_law_second" s__law_second ["box", "row"] a fd)
    (d__law_at : ∃ a fd, Df K mg "_law_at" s__law_at ["row", "signs"] a fd)
    (d__law_is_row : ∃ a fd, Df K mg "_law_is_row" s__law_is_row ["value"] a fd)
    (d__law_odd_rows : ∃ a fd, Df K mg "_law_odd_rows" s__law_odd_rows ["row"] a fd)
    (d__law_one_right : ∃ a fd, Df K mg "_law_one_right" s__law_one_right ["box", "row", "by_name"] a fd)
    (d__law_two_right : ∃ a fd, Df K mg "_law_two_right" s__law_two_right ["one", "other", "by_name"] a fd)
    (d__law_call : ∃ a fd, Df K mg "_law_call" s__law_call ["kind", "first", "second", "third"] a fd)
    (d__law_asked : ∃ a fd, Df K mg "_law_asked" s__law_asked ["kind", "first", "second", "third"] a fd)
    (d__law_refused_right : ∃ a fd, Df K mg "_law_refused_right" s__law_refused_right ["box", "row"] a fd)
    (d_law : ∃ a fd, Df K mg "law" s_law ["script"] a fd) :
    ∃ fd : FuncData, (∀ (s : Shared) (u : Value), BindsTo s fd ⟨[u], []⟩ [("script", u)]) ∧ ∀ base : Heap, K.In base → base.Ns mainGlobals mg → FnOk P w K mg base (L2.CX P w) 10 fa fd ["script"] (spLaw K) := by
  have Z : Glob w K mg := {
    z_abs := PySem.W.mg_none_of X G z_abs,
    z_all := PySem.W.mg_none_of X G z_all,
    z_any := PySem.W.mg_none_of X G z_any,
    z_bool := PySem.W.mg_none_of X G z_bool,
    z_dict := PySem.W.mg_none_of X G z_dict,
    z_enumerate := PySem.W.mg_none_of X G z_enumerate,
    z_int := PySem.W.mg_none_of X G z_int,
    z_isinstance := PySem.W.mg_none_of X G z_isinstance,
    z_len := PySem.W.mg_none_of X G z_len,
    z_list := PySem.W.mg_none_of X G z_list,
    z_max := PySem.W.mg_none_of X G z_max,
    z_min := PySem.W.mg_none_of X G z_min,
    z_range := PySem.W.mg_none_of X G z_range,
    z_str := PySem.W.mg_none_of X G z_str,
    z_sum := PySem.W.mg_none_of X G z_sum,
    z_tuple := PySem.W.mg_none_of X G z_tuple,
    z_zip := PySem.W.mg_none_of X G z_zip,
    c_MOST_ELEMENTS := ⟨_, PySem.W.mg_of X G c_MOST_ELEMENTS⟩,
    c_SIGNS := ⟨_, PySem.W.mg_of X G c_SIGNS⟩,
    d_NUMBERS := d_NUMBERS,
    b_OrientError := kit_of X G e_InvalidCount a_OrientError i_OrientError t_OrientError s_OrientError,
    x_InvalidCount_InvalidCount := e_InvalidCount.exm e_InvalidCount s_InvalidCount_InvalidCount,
    x_InvalidCount_InvalidRow := e_InvalidCount.exm e_InvalidRow s_InvalidCount_InvalidRow,
    x_InvalidCount_InvalidSet := e_InvalidCount.exm e_InvalidSet s_InvalidCount_InvalidSet,
    x_InvalidRow_InvalidCount := e_InvalidRow.exm e_InvalidCount s_InvalidRow_InvalidCount,
    x_InvalidRow_InvalidRow := e_InvalidRow.exm e_InvalidRow s_InvalidRow_InvalidRow,
    x_InvalidRow_InvalidSet := e_InvalidRow.exm e_InvalidSet s_InvalidRow_InvalidSet,
    x_InvalidSet_InvalidCount := e_InvalidSet.exm e_InvalidCount s_InvalidSet_InvalidCount,
    x_InvalidSet_InvalidRow := e_InvalidSet.exm e_InvalidRow s_InvalidSet_InvalidRow,
    x_InvalidSet_InvalidSet := e_InvalidSet.exm e_InvalidSet s_InvalidSet_InvalidSet }
  obtain ⟨a, fd, dl⟩ := d_law
  have e := hfa.symm.trans dl.g
  cases e
  refine ⟨fd, df_binds1 dl.fn fun _ _ _ _ _ _ _ => rfl, fun base _ _ => FnOk.imp (sp := spD K mg 1 f_law) ?_ (law_imp (mg := mg) (fun ns h => law_ok (Nat.le_trans h (by decide))))⟩
  have x_InvalidCount : OkE P w K mg base "InvalidCount" "InvalidCount.__init__" i_InvalidCount := let ⟨_, _, _, E⟩ := e_InvalidCount.er; in_InvalidCount E
  have x_InvalidRow : OkE P w K mg base "InvalidRow" "InvalidRow.__init__" i_InvalidRow := let ⟨_, _, _, E⟩ := e_InvalidRow.er; in_InvalidRow E
  have x_InvalidSet : OkE P w K mg base "InvalidSet" "InvalidSet.__init__" i_InvalidSet := let ⟨_, _, _, E⟩ := e_InvalidSet.er; in_InvalidSet E
  have k_is_integer := ok_is_integer (P := P) (base := base) Z  d_is_integer
  have k_is_between := ok_is_between (P := P) (base := base) Z k_is_integer d_is_between
  have k_is_rising := ok_is_rising (P := P) (base := base) Z  d_is_rising
  have k_are_between := ok_are_between (P := P) (base := base) Z k_is_between d_are_between
  have k_is_elements := ok_is_elements (P := P) (base := base) Z k_is_rising k_are_between d_is_elements
  have k_is_signs := ok_is_signs (P := P) (base := base) Z  d_is_signs
  have k_is_row_of := ok_is_row_of (P := P) (base := base) Z k_is_signs d_is_row_of
  have k_sign_of := ok_sign_of (P := P) (base := base) Z  d_sign_of
  have k_row_of_numbers := ok_row_of_numbers (P := P) (base := base) Z k_sign_of d_row_of_numbers
  have k_numbers_of := ok_numbers_of (P := P) (base := base) Z  d_numbers_of
  have k_turned_signs := ok_turned_signs (P := P) (base := base) Z k_row_of_numbers k_numbers_of d_turned_signs
  have k_is_row := ok_is_row (P := P) (base := base) Z k_is_row_of d_is_row
  have k_check_some_row := ok_check_some_row (P := P) (base := base) Z k_is_row x_InvalidRow d_check_some_row
  have k_check_two := ok_check_two (P := P) (base := base) Z k_is_row_of k_check_some_row x_InvalidRow d_check_two
  have k_places_with := ok_places_with (P := P) (base := base) Z  d_places_with
  have k_plus_set := ok_plus_set (P := P) (base := base) Z k_check_some_row k_places_with d_plus_set
  have k_minus_set := ok_minus_set (P := P) (base := base) Z k_check_some_row k_places_with d_minus_set
  have k_zero_set := ok_zero_set (P := P) (base := base) Z k_check_some_row k_places_with d_zero_set
  have k_support := ok_support (P := P) (base := base) Z k_check_some_row k_places_with d_support
  have k_opposite := ok_opposite (P := P) (base := base) Z k_turned_signs k_check_some_row d_opposite
  have k_row_of := ok_row_of (P := P) (base := base) Z k_is_between k_is_elements k_row_of_numbers x_InvalidCount x_InvalidSet d_row_of
  have k_check_members := ok_check_members (P := P) (base := base) Z k_is_elements k_check_some_row x_InvalidSet d_check_members
  have k_turned_at := ok_turned_at (P := P) (base := base) Z k_row_of_numbers k_numbers_of d_turned_at
  have k_turned_row := ok_turned_row (P := P) (base := base) Z k_check_members k_turned_at d_turned_row
  have k_part_of := ok_part_of (P := P) (base := base) Z k_check_members d_part_of
  have k_composition := ok_composition (P := P) (base := base) Z  d_composition
  have k_composed := ok_composed (P := P) (base := base) Z k_check_two k_composition d_composed
  have k_products := ok_products (P := P) (base := base) Z k_numbers_of d_products
  have k_product_row := ok_product_row (P := P) (base := base) Z k_row_of_numbers k_check_two k_products d_product_row
  have k_parted_of := ok_parted_of (P := P) (base := base) Z k_products d_parted_of
  have k_parted_set := ok_parted_set (P := P) (base := base) Z k_check_two k_parted_of d_parted_set
  have k_fit_together := ok_fit_together (P := P) (base := base) Z k_products d_fit_together
  have k_are_orthogonal := ok_are_orthogonal (P := P) (base := base) Z k_check_two k_fit_together d_are_orthogonal
  have k_is_under := ok_is_under (P := P) (base := base) Z  d_is_under
  have k_lies_below := ok_lies_below (P := P) (base := base) Z k_check_two k_is_under d_lies_below
  have k_meets_of := ok_meets_of (P := P) (base := base) Z k_check_two d_meets_of
  have k__law_cell := ok__law_cell (P := P) (base := base) Z  d__law_cell
  have k__law_box := ok__law_box (P := P) (base := base) Z  d__law_box
  have k__law_take := ok__law_take (P := P) (base := base) Z  d__law_take
  have k__law_same := ok__law_same (P := P) (base := base) Z  d__law_same
  have k__law_copy := ok__law_copy (P := P) (base := base) Z  d__law_copy
  have k__law_blamed := ok__law_blamed (P := P) (base := base) Z (k__law_same 4) d__law_blamed
  have k__law_row := ok__law_row (P := P) (base := base) Z k__law_take d__law_row
  have k__law_product := ok__law_product (P := P) (base := base) Z  d__law_product
  have k__law_drawn := ok__law_drawn (P := P) (base := base) Z k__law_take d__law_drawn
  have k__law_second := ok__law_second (P := P) (base := base) Z k__law_take k__law_row d__law_second
  have k__law_at := ok__law_at (P := P) (base := base) Z  d__law_at
  have k__law_is_row := ok__law_is_row (P := P) (base := base) Z  d__law_is_row
  have k__law_odd_rows := ok__law_odd_rows (P := P) (base := base) Z  d__law_odd_rows
  have k__law_one_right := ok__law_one_right (P := P) (base := base) Z k_plus_set k_minus_set k_zero_set k_support k_opposite k_row_of k_turned_row k_part_of k__law_take (k__law_same 4) k__law_at d__law_one_right
  have k__law_two_right := ok__law_two_right (P := P) (base := base) Z k_composed k_product_row k_parted_set k_are_orthogonal k_lies_below k_meets_of (k__law_same 4) k__law_product d__law_two_right
  have k__law_call := ok__law_call (P := P) (base := base) Z k_plus_set k_minus_set k_zero_set k_support k_opposite k_row_of k_turned_row k_part_of k_composed k_product_row k_parted_set k_are_orthogonal k_lies_below k_meets_of d__law_call
  have k__law_asked := ok__law_asked (P := P) (base := base) Z k__law_call x_InvalidCount x_InvalidRow x_InvalidSet d__law_asked
  have k__law_refused_right := ok__law_refused_right (P := P) (base := base) Z k__law_take k__law_copy k__law_blamed k__law_is_row k__law_odd_rows k__law_asked d__law_refused_right
  have k_law := ok_law (P := P) (base := base) Z k_is_row k__law_cell k__law_box k__law_take (k__law_same 4) k__law_drawn k__law_second k__law_is_row k__law_odd_rows k__law_one_right k__law_two_right k__law_refused_right ⟨_, _, dl⟩
  exact okD_fn dl k_law
end Ob.K00
open PySem PySem.W PyProof.Rows
set_option maxHeartbeats 0 in
theorem PySem.Challenge.cw_orientbench_k00_rows_holds : PySem.Challenge.rw_orientbench_k00_rows.Holds := by
  w_on; o_law; k_head; (case hw => w_witness2)
  k_fill
  refine L2.walk_of (l := PySem.Challenge.rw_orientbench_k00_rows) (n := 63) (k := 10) (x := "script") (CX := fun w => L2.CX PySem.Challenge.rw_orientbench_k00_rows.prog w) (sp := fun w => Ob.spLaw _) rfl (by decide) rfl ⟨rfl, by decide, by decide⟩ (fun w h Y => PySem.W.kIn_of Y) ?F (fun _ _ a ns hl _ hS => ⟨a, ns, rfl, hl, hS, fun _ => rfl⟩) (fun w H s e s' z => Ob.cx_false z)
  case F =>
    intro w mg fa h KX G hmg
    refine' Ob.K00.all_mk KX G hmg ?e_InvalidCount ?e_InvalidRow ?e_InvalidSet ?s_InvalidCount_InvalidCount ?s_InvalidCount_InvalidRow ?s_InvalidCount_InvalidSet ?s_InvalidRow_InvalidCount ?s_InvalidRow_InvalidRow ?s_InvalidRow_InvalidSet ?s_InvalidSet_InvalidCount ?s_InvalidSet_InvalidRow ?s_InvalidSet_InvalidSet ?a_OrientError ?i_OrientError ?t_OrientError ?s_OrientError ?z_abs ?z_all ?z_any ?z_bool ?z_dict ?z_enumerate ?z_int ?z_isinstance ?z_len ?z_list ?z_max ?z_min ?z_range ?z_str ?z_sum ?z_tuple ?z_zip ?c_MOST_ELEMENTS ?c_SIGNS ?d_NUMBERS ?d_is_integer ?d_is_between ?d_is_rising ?d_are_between ?d_is_elements ?d_is_signs ?d_is_row_of ?d_sign_of ?d_row_of_numbers ?d_numbers_of ?d_turned_signs ?d_is_row ?d_check_some_row ?d_check_two ?d_places_with ?d_plus_set ?d_minus_set ?d_zero_set ?d_support ?d_opposite ?d_row_of ?d_check_members ?d_turned_at ?d_turned_row ?d_part_of ?d_composition ?d_composed ?d_products ?d_product_row ?d_parted_of ?d_parted_set ?d_fit_together ?d_are_orthogonal ?d_is_under ?d_lies_below ?d_meets_of ?d__law_cell ?d__law_box ?d__law_take ?d__law_same ?d__law_copy ?d__law_blamed ?d__law_row ?d__law_product ?d__law_drawn ?d__law_second ?d__law_at ?d__law_is_row ?d__law_odd_rows ?d__law_one_right ?d__law_two_right ?d__law_call ?d__law_asked ?d__law_refused_right ?d_law
    (case e_InvalidCount => (refine' Ob.er_of KX G ?a ?xL ?sa ?ga ?gg ?nb ?a1 ?t1 ?l1 ?c1 ?k1 ?kC ?eC ?tC ?hC ?iC ?cc ?sp ?tk ?mo ?bm ?hb; (case a => k_is); (case xL => k_is); (case sa => k_is); (case ga => k_is); (case gg => k_is); (case nb => k_is); (case a1 => k_is); (case t1 => k_is); (case l1 => k_is); (case c1 => k_is); (case k1 => k_is); (case kC => k_is); (case eC => k_is); (case tC => k_is); (case hC => k_is); (case iC => k_is); (case cc => k_is); (case sp => k_is); (case tk => k_is); (case mo => k_is); (case bm => decide +kernel); (case hb => exact fun _ _ _ _ _ _ us hl => match us, hl with | [_, _], _ => rfl)))
    (case e_InvalidRow => (refine' Ob.er_of KX G ?a ?xL ?sa ?ga ?gg ?nb ?a1 ?t1 ?l1 ?c1 ?k1 ?kC ?eC ?tC ?hC ?iC ?cc ?sp ?tk ?mo ?bm ?hb; (case a => k_is); (case xL => k_is); (case sa => k_is); (case ga => k_is); (case gg => k_is); (case nb => k_is); (case a1 => k_is); (case t1 => k_is); (case l1 => k_is); (case c1 => k_is); (case k1 => k_is); (case kC => k_is); (case eC => k_is); (case tC => k_is); (case hC => k_is); (case iC => k_is); (case cc => k_is); (case sp => k_is); (case tk => k_is); (case mo => k_is); (case bm => decide +kernel); (case hb => exact fun _ _ _ _ _ _ us hl => match us, hl with | [_, _], _ => rfl)))
    (case e_InvalidSet => (refine' Ob.er_of KX G ?a ?xL ?sa ?ga ?gg ?nb ?a1 ?t1 ?l1 ?c1 ?k1 ?kC ?eC ?tC ?hC ?iC ?cc ?sp ?tk ?mo ?bm ?hb; (case a => k_is); (case xL => k_is); (case sa => k_is); (case ga => k_is); (case gg => k_is); (case nb => k_is); (case a1 => k_is); (case t1 => k_is); (case l1 => k_is); (case c1 => k_is); (case k1 => k_is); (case kC => k_is); (case eC => k_is); (case tC => k_is); (case hC => k_is); (case iC => k_is); (case cc => k_is); (case sp => k_is); (case tk => k_is); (case mo => k_is); (case bm => decide +kernel); (case hb => exact fun _ _ _ _ _ _ us hl => match us, hl with | [_, _], _ => rfl)))
    (case s_InvalidCount_InvalidCount => k_is)
    (case s_InvalidCount_InvalidRow => k_is)
    (case s_InvalidCount_InvalidSet => k_is)
    (case s_InvalidRow_InvalidCount => k_is)
    (case s_InvalidRow_InvalidRow => k_is)
    (case s_InvalidRow_InvalidSet => k_is)
    (case s_InvalidSet_InvalidCount => k_is)
    (case s_InvalidSet_InvalidRow => k_is)
    (case s_InvalidSet_InvalidSet => k_is)
    (case a_OrientError => k_is); (case i_OrientError => k_is); (case t_OrientError => k_is); (case s_OrientError => k_is)
    (case z_abs => k_is)
    (case z_all => k_is)
    (case z_any => k_is)
    (case z_bool => k_is)
    (case z_dict => k_is)
    (case z_enumerate => k_is)
    (case z_int => k_is)
    (case z_isinstance => k_is)
    (case z_len => k_is)
    (case z_list => k_is)
    (case z_max => k_is)
    (case z_min => k_is)
    (case z_range => k_is)
    (case z_str => k_is)
    (case z_sum => k_is)
    (case z_tuple => k_is)
    (case z_zip => k_is)
    (case c_MOST_ELEMENTS => k_is)
    (case c_SIGNS => k_is)
    (case d_NUMBERS => (refine' Ob.dct_of KX G ?a ?l ?k ?r; (case a => k_is); (case l => k_is); (case k => exact Ob.kl_cons ⟨_, _, rfl, rfl⟩ (Ob.kl_cons ⟨_, _, rfl, rfl⟩ (Ob.kl_cons ⟨_, _, rfl, rfl⟩ (Ob.kl_nil)))); (case r => (refine' List.forall_mem_cons.mpr ⟨Ob.tb_int ?r0, List.forall_mem_cons.mpr ⟨Ob.tb_int ?r1, List.forall_mem_cons.mpr ⟨Ob.tb_int ?r2, fun _ h => nomatch h⟩⟩⟩; (case r0 => k_is); (case r1 => k_is); (case r2 => k_is)))))
    (case d_is_integer => (refine' Ob.df_of KX G ?a ?l ?c ?k ?b; (case a => k_is); (case l => k_is); (case c => k_is); (case k => k_is); (case b => exact fun _ _ _ _ _ _ us hl => match us, hl with | [_], _ => rfl)))
    (case d_is_between => (refine' Ob.df_of KX G ?a ?l ?c ?k ?b; (case a => k_is); (case l => k_is); (case c => k_is); (case k => k_is); (case b => exact fun _ _ _ _ _ _ us hl => match us, hl with | [_, _, _], _ => rfl)))
    (case d_is_rising => (refine' Ob.df_of KX G ?a ?l ?c ?k ?b; (case a => k_is); (case l => k_is); (case c => k_is); (case k => k_is); (case b => exact fun _ _ _ _ _ _ us hl => match us, hl with | [_], _ => rfl)))
    (case d_are_between => (refine' Ob.df_of KX G ?a ?l ?c ?k ?b; (case a => k_is); (case l => k_is); (case c => k_is); (case k => k_is); (case b => exact fun _ _ _ _ _ _ us hl => match us, hl with | [_, _, _], _ => rfl)))
    (case d_is_elements => (refine' Ob.df_of KX G ?a ?l ?c ?k ?b; (case a => k_is); (case l => k_is); (case c => k_is); (case k => k_is); (case b => exact fun _ _ _ _ _ _ us hl => match us, hl with | [_, _], _ => rfl)))
    (case d_is_signs => (refine' Ob.df_of KX G ?a ?l ?c ?k ?b; (case a => k_is); (case l => k_is); (case c => k_is); (case k => k_is); (case b => exact fun _ _ _ _ _ _ us hl => match us, hl with | [_, _], _ => rfl)))
    (case d_is_row_of => (refine' Ob.df_of KX G ?a ?l ?c ?k ?b; (case a => k_is); (case l => k_is); (case c => k_is); (case k => k_is); (case b => exact fun _ _ _ _ _ _ us hl => match us, hl with | [_, _], _ => rfl)))
    (case d_sign_of => (refine' Ob.df_of KX G ?a ?l ?c ?k ?b; (case a => k_is); (case l => k_is); (case c => k_is); (case k => k_is); (case b => exact fun _ _ _ _ _ _ us hl => match us, hl with | [_], _ => rfl)))
    (case d_row_of_numbers => (refine' Ob.df_of KX G ?a ?l ?c ?k ?b; (case a => k_is); (case l => k_is); (case c => k_is); (case k => k_is); (case b => exact fun _ _ _ _ _ _ us hl => match us, hl with | [_], _ => rfl)))
    (case d_numbers_of => (refine' Ob.df_of KX G ?a ?l ?c ?k ?b; (case a => k_is); (case l => k_is); (case c => k_is); (case k => k_is); (case b => exact fun _ _ _ _ _ _ us hl => match us, hl with | [_], _ => rfl)))
    (case d_turned_signs => (refine' Ob.df_of KX G ?a ?l ?c ?k ?b; (case a => k_is); (case l => k_is); (case c => k_is); (case k => k_is); (case b => exact fun _ _ _ _ _ _ us hl => match us, hl with | [_], _ => rfl)))
    (case d_is_row => (refine' Ob.df_of KX G ?a ?l ?c ?k ?b; (case a => k_is); (case l => k_is); (case c => k_is); (case k => k_is); (case b => exact fun _ _ _ _ _ _ us hl => match us, hl with | [_], _ => rfl)))
    (case d_check_some_row => (refine' Ob.df_of KX G ?a ?l ?c ?k ?b; (case a => k_is); (case l => k_is); (case c => k_is); (case k => k_is); (case b => exact fun _ _ _ _ _ _ us hl => match us, hl with | [_], _ => rfl)))
    (case d_check_two => (refine' Ob.df_of KX G ?a ?l ?c ?k ?b; (case a => k_is); (case l => k_is); (case c => k_is); (case k => k_is); (case b => exact fun _ _ _ _ _ _ us hl => match us, hl with | [_, _], _ => rfl)))
    (case d_places_with => (refine' Ob.df_of KX G ?a ?l ?c ?k ?b; (case a => k_is); (case l => k_is); (case c => k_is); (case k => k_is); (case b => exact fun _ _ _ _ _ _ us hl => match us, hl with | [_, _], _ => rfl)))
    (case d_plus_set => (refine' Ob.df_of KX G ?a ?l ?c ?k ?b; (case a => k_is); (case l => k_is); (case c => k_is); (case k => k_is); (case b => exact fun _ _ _ _ _ _ us hl => match us, hl with | [_], _ => rfl)))
    (case d_minus_set => (refine' Ob.df_of KX G ?a ?l ?c ?k ?b; (case a => k_is); (case l => k_is); (case c => k_is); (case k => k_is); (case b => exact fun _ _ _ _ _ _ us hl => match us, hl with | [_], _ => rfl)))
    (case d_zero_set => (refine' Ob.df_of KX G ?a ?l ?c ?k ?b; (case a => k_is); (case l => k_is); (case c => k_is); (case k => k_is); (case b => exact fun _ _ _ _ _ _ us hl => match us, hl with | [_], _ => rfl)))
    (case d_support => (refine' Ob.df_of KX G ?a ?l ?c ?k ?b; (case a => k_is); (case l => k_is); (case c => k_is); (case k => k_is); (case b => exact fun _ _ _ _ _ _ us hl => match us, hl with | [_], _ => rfl)))
    (case d_opposite => (refine' Ob.df_of KX G ?a ?l ?c ?k ?b; (case a => k_is); (case l => k_is); (case c => k_is); (case k => k_is); (case b => exact fun _ _ _ _ _ _ us hl => match us, hl with | [_], _ => rfl)))
    (case d_row_of => (refine' Ob.df_of KX G ?a ?l ?c ?k ?b; (case a => k_is); (case l => k_is); (case c => k_is); (case k => k_is); (case b => exact fun _ _ _ _ _ _ us hl => match us, hl with | [_, _, _], _ => rfl)))
    (case d_check_members => (refine' Ob.df_of KX G ?a ?l ?c ?k ?b; (case a => k_is); (case l => k_is); (case c => k_is); (case k => k_is); (case b => exact fun _ _ _ _ _ _ us hl => match us, hl with | [_, _], _ => rfl)))
    (case d_turned_at => (refine' Ob.df_of KX G ?a ?l ?c ?k ?b; (case a => k_is); (case l => k_is); (case c => k_is); (case k => k_is); (case b => exact fun _ _ _ _ _ _ us hl => match us, hl with | [_, _], _ => rfl)))
    (case d_turned_row => (refine' Ob.df_of KX G ?a ?l ?c ?k ?b; (case a => k_is); (case l => k_is); (case c => k_is); (case k => k_is); (case b => exact fun _ _ _ _ _ _ us hl => match us, hl with | [_, _], _ => rfl)))
    (case d_part_of => (refine' Ob.df_of KX G ?a ?l ?c ?k ?b; (case a => k_is); (case l => k_is); (case c => k_is); (case k => k_is); (case b => exact fun _ _ _ _ _ _ us hl => match us, hl with | [_, _], _ => rfl)))
    (case d_composition => (refine' Ob.df_of KX G ?a ?l ?c ?k ?b; (case a => k_is); (case l => k_is); (case c => k_is); (case k => k_is); (case b => exact fun _ _ _ _ _ _ us hl => match us, hl with | [_, _], _ => rfl)))
    (case d_composed => (refine' Ob.df_of KX G ?a ?l ?c ?k ?b; (case a => k_is); (case l => k_is); (case c => k_is); (case k => k_is); (case b => exact fun _ _ _ _ _ _ us hl => match us, hl with | [_, _], _ => rfl)))
    (case d_products => (refine' Ob.df_of KX G ?a ?l ?c ?k ?b; (case a => k_is); (case l => k_is); (case c => k_is); (case k => k_is); (case b => exact fun _ _ _ _ _ _ us hl => match us, hl with | [_, _], _ => rfl)))
    (case d_product_row => (refine' Ob.df_of KX G ?a ?l ?c ?k ?b; (case a => k_is); (case l => k_is); (case c => k_is); (case k => k_is); (case b => exact fun _ _ _ _ _ _ us hl => match us, hl with | [_, _], _ => rfl)))
    (case d_parted_of => (refine' Ob.df_of KX G ?a ?l ?c ?k ?b; (case a => k_is); (case l => k_is); (case c => k_is); (case k => k_is); (case b => exact fun _ _ _ _ _ _ us hl => match us, hl with | [_, _], _ => rfl)))
    (case d_parted_set => (refine' Ob.df_of KX G ?a ?l ?c ?k ?b; (case a => k_is); (case l => k_is); (case c => k_is); (case k => k_is); (case b => exact fun _ _ _ _ _ _ us hl => match us, hl with | [_, _], _ => rfl)))
    (case d_fit_together => (refine' Ob.df_of KX G ?a ?l ?c ?k ?b; (case a => k_is); (case l => k_is); (case c => k_is); (case k => k_is); (case b => exact fun _ _ _ _ _ _ us hl => match us, hl with | [_, _], _ => rfl)))
    (case d_are_orthogonal => (refine' Ob.df_of KX G ?a ?l ?c ?k ?b; (case a => k_is); (case l => k_is); (case c => k_is); (case k => k_is); (case b => exact fun _ _ _ _ _ _ us hl => match us, hl with | [_, _], _ => rfl)))
    (case d_is_under => (refine' Ob.df_of KX G ?a ?l ?c ?k ?b; (case a => k_is); (case l => k_is); (case c => k_is); (case k => k_is); (case b => exact fun _ _ _ _ _ _ us hl => match us, hl with | [_, _], _ => rfl)))
    (case d_lies_below => (refine' Ob.df_of KX G ?a ?l ?c ?k ?b; (case a => k_is); (case l => k_is); (case c => k_is); (case k => k_is); (case b => exact fun _ _ _ _ _ _ us hl => match us, hl with | [_, _], _ => rfl)))
    (case d_meets_of => (refine' Ob.df_of KX G ?a ?l ?c ?k ?b; (case a => k_is); (case l => k_is); (case c => k_is); (case k => k_is); (case b => exact fun _ _ _ _ _ _ us hl => match us, hl with | [_, _], _ => rfl)))
    (case d__law_cell => (refine' Ob.df_of KX G ?a ?l ?c ?k ?b; (case a => k_is); (case l => k_is); (case c => k_is); (case k => k_is); (case b => exact fun _ _ _ _ _ _ us hl => match us, hl with | [_, _], _ => rfl)))
    (case d__law_box => (refine' Ob.df_of KX G ?a ?l ?c ?k ?b; (case a => k_is); (case l => k_is); (case c => k_is); (case k => k_is); (case b => exact fun _ _ _ _ _ _ us hl => match us, hl with | [_], _ => rfl)))
    (case d__law_take => (refine' Ob.df_of KX G ?a ?l ?c ?k ?b; (case a => k_is); (case l => k_is); (case c => k_is); (case k => k_is); (case b => exact fun _ _ _ _ _ _ us hl => match us, hl with | [_, _], _ => rfl)))
    (case d__law_same => (refine' Ob.df_of KX G ?a ?l ?c ?k ?b; (case a => k_is); (case l => k_is); (case c => k_is); (case k => k_is); (case b => exact fun _ _ _ _ _ _ us hl => match us, hl with | [_, _], _ => rfl)))
    (case d__law_copy => (refine' Ob.df_of KX G ?a ?l ?c ?k ?b; (case a => k_is); (case l => k_is); (case c => k_is); (case k => k_is); (case b => exact fun _ _ _ _ _ _ us hl => match us, hl with | [_], _ => rfl)))
    (case d__law_blamed => (refine' Ob.df_of KX G ?a ?l ?c ?k ?b; (case a => k_is); (case l => k_is); (case c => k_is); (case k => k_is); (case b => exact fun _ _ _ _ _ _ us hl => match us, hl with | [_, _], _ => rfl)))
    (case d__law_row => (refine' Ob.df_of KX G ?a ?l ?c ?k ?b; (case a => k_is); (case l => k_is); (case c => k_is); (case k => k_is); (case b => exact fun _ _ _ _ _ _ us hl => match us, hl with | [_, _], _ => rfl)))
    (case d__law_product => (refine' Ob.df_of KX G ?a ?l ?c ?k ?b; (case a => k_is); (case l => k_is); (case c => k_is); (case k => k_is); (case b => exact fun _ _ _ _ _ _ us hl => match us, hl with | [_, _], _ => rfl)))
    (case d__law_drawn => (refine' Ob.df_of KX G ?a ?l ?c ?k ?b; (case a => k_is); (case l => k_is); (case c => k_is); (case k => k_is); (case b => exact fun _ _ _ _ _ _ us hl => match us, hl with | [_], _ => rfl)))
    (case d__law_second => (refine' Ob.df_of KX G ?a ?l ?c ?k ?b; (case a => k_is); (case l => k_is); (case c => k_is); (case k => k_is); (case b => exact fun _ _ _ _ _ _ us hl => match us, hl with | [_, _], _ => rfl)))
    (case d__law_at => (refine' Ob.df_of KX G ?a ?l ?c ?k ?b; (case a => k_is); (case l => k_is); (case c => k_is); (case k => k_is); (case b => exact fun _ _ _ _ _ _ us hl => match us, hl with | [_, _], _ => rfl)))
    (case d__law_is_row => (refine' Ob.df_of KX G ?a ?l ?c ?k ?b; (case a => k_is); (case l => k_is); (case c => k_is); (case k => k_is); (case b => exact fun _ _ _ _ _ _ us hl => match us, hl with | [_], _ => rfl)))
    (case d__law_odd_rows => (refine' Ob.df_of KX G ?a ?l ?c ?k ?b; (case a => k_is); (case l => k_is); (case c => k_is); (case k => k_is); (case b => exact fun _ _ _ _ _ _ us hl => match us, hl with | [_], _ => rfl)))
    (case d__law_one_right => (refine' Ob.df_of KX G ?a ?l ?c ?k ?b; (case a => k_is); (case l => k_is); (case c => k_is); (case k => k_is); (case b => exact fun _ _ _ _ _ _ us hl => match us, hl with | [_, _, _], _ => rfl)))
    (case d__law_two_right => (refine' Ob.df_of KX G ?a ?l ?c ?k ?b; (case a => k_is); (case l => k_is); (case c => k_is); (case k => k_is); (case b => exact fun _ _ _ _ _ _ us hl => match us, hl with | [_, _, _], _ => rfl)))
    (case d__law_call => (refine' Ob.df_of KX G ?a ?l ?c ?k ?b; (case a => k_is); (case l => k_is); (case c => k_is); (case k => k_is); (case b => exact fun _ _ _ _ _ _ us hl => match us, hl with | [_, _, _, _], _ => rfl)))
    (case d__law_asked => (refine' Ob.df_of KX G ?a ?l ?c ?k ?b; (case a => k_is); (case l => k_is); (case c => k_is); (case k => k_is); (case b => exact fun _ _ _ _ _ _ us hl => match us, hl with | [_, _, _, _], _ => rfl)))
    (case d__law_refused_right => (refine' Ob.df_of KX G ?a ?l ?c ?k ?b; (case a => k_is); (case l => k_is); (case c => k_is); (case k => k_is); (case b => exact fun _ _ _ _ _ _ us hl => match us, hl with | [_, _], _ => rfl)))
    (case d_law => (refine' Ob.df_of KX G ?a ?l ?c ?k ?b; (case a => k_is); (case l => k_is); (case c => k_is); (case k => k_is); (case b => exact fun _ _ _ _ _ _ us hl => match us, hl with | [_], _ => rfl)))
