import PyProof.Rows.All
import Wide.All
import OpenK.AllK
import Wide.FinOn
import HandS.ForMost
import HandS.Wide
import HandS.Style
import HandS.Flow
import HandS.Zip
import HandS.EndBits
import HandS.IsInst
import PySem.Challenge.RW_breakerrow_k45_logs_of_breakers
set_option Elab.async false
set_option linter.all false
set_option maxRecDepth 100000
set_option maxHeartbeats 4000000
namespace DV
open PySem L2

/-- data: what a Python value says, with its heap read off -/
inductive D where
  | non | bl (b : Bool) | int (i : Int) | str (x : Str) | lst (xs : List D) | tup (xs : List D) | obj (c : Nat) (ks : List Str) (ds : List D) | scr (ns : List Int)

/-- what is static of a text behind its top -/
structure Gx where
  K : PySem.W.Frag
  cl : Nat → Addr

/-! ### what stands for a datum -/
mutual
def Rep (g : Gx) (Av : Addr → Prop) (H : Hp) : D → V → Prop
  | .non, v => v = .non
  | .bl b, v => v = .bl b
  | .int i, v => v = .int i
  | .str x, v => v = .str x
  | .lst ds, v => ∃ a vs, v = .ref a ∧ ¬ Av a ∧ H a = some (.lst vs) ∧ Reps g Av H ds vs
  | .scr ns, v => ∃ a, v = .ref a ∧ ¬ Av a ∧ SqL g.K H a (ns.map V.int)
  | .tup ds, v => ∃ a vs, v = .ref a ∧ ¬ Av a ∧ SqT g.K H a vs ∧ Reps g Av H ds vs
  | .obj c ks ds, v => ∃ a dx vs, v = .ref a ∧ ¬ Av a ∧ ks.length = vs.length ∧ H a = some (.ins (g.cl c) dx (ks.zip vs)) ∧ Reps g Av H ds vs
def Reps (g : Gx) (Av : Addr → Prop) (H : Hp) : List D → List V → Prop
  | [], vs => vs = []
  | d :: ds, vs => ∃ v r, vs = v :: r ∧ Rep g Av H d v ∧ Reps g Av H ds r
end

def kfree (g : Gx) (H : Hp) : Prop := ∀ a o, g.K.lookup a = some o → H a = none

section
variable {g : Gx} {Av Av' : Addr → Prop} {H H' : Hp}
theorem sqL_mono {a : Addr} {vs : List V} (h : SqL g.K H a vs) (k : ∀ o, H a = some o → H' a = some o) : SqL g.K H' a vs := by
  rcases h with (h | ⟨o, h⟩) | h
  · exact .inl (.inl (k _ h))
  · exact .inl (.inr ⟨o, k _ h⟩)
  · exact .inr h
theorem sqT_mono {a : Addr} {vs : List V} (h : SqT g.K H a vs) (k : ∀ o, H a = some o → H' a = some o) : SqT g.K H' a vs := by
  rcases h with (h | ⟨o, h⟩) | h
  · exact .inl (.inl (k _ h))
  · exact .inl (.inr ⟨o, k _ h⟩)
  · exact .inr h
theorem sqL_at {a : Addr} {vs : List V} (h : SqL g.K H a vs) : (∃ o, H a = some o) ∨ ∃ o, g.K.lookup a = some o := by
  rcases h with (h | ⟨o, h⟩) | ⟨o, _, _, h, _⟩
  · exact .inl ⟨_, h⟩
  · exact .inl ⟨_, h⟩
  · exact .inr ⟨_, h⟩
theorem sqT_at {a : Addr} {vs : List V} (h : SqT g.K H a vs) : (∃ o, H a = some o) ∨ ∃ o, g.K.lookup a = some o := by
  rcases h with (h | ⟨o, h⟩) | ⟨o, _, _, h, _⟩
  · exact .inl ⟨_, h⟩
  · exact .inl ⟨_, h⟩
  · exact .inr ⟨_, h⟩
/-- a visited address: one that may not change, and stands in H or in the written part -/
abbrev Vst (g : Gx) (Av : Addr → Prop) (H : Hp) (a : Addr) : Prop := ¬ Av a ∧ ((∃ o, H a = some o) ∨ ∃ o, g.K.lookup a = some o)
mutual
theorem rep_mono (k : ∀ a, Vst g Av H a → (∀ o, H a = some o → H' a = some o) ∧ ¬ Av' a) : ∀ (d : D) (v : V), Rep g Av H d v → Rep g Av' H' d v
  | .non, _, h => by simpa [Rep] using h
  | .bl _, _, h => by simpa [Rep] using h
  | .int _, _, h => by simpa [Rep] using h
  | .str _, _, h => by simpa [Rep] using h
  | .lst ds, v, h => by
    simp only [Rep] at h ⊢
    obtain ⟨a, vs, e, n, s, r⟩ := h
    have q := k a ⟨n, .inl ⟨_, s⟩⟩
    exact ⟨a, vs, e, q.2, q.1 _ s, reps_mono k ds vs r⟩
  | .scr ns, v, h => by
    simp only [Rep] at h ⊢
    obtain ⟨a, e, n, s⟩ := h
    have q := k a ⟨n, sqL_at s⟩
    exact ⟨a, e, q.2, sqL_mono s q.1⟩
  | .tup ds, v, h => by
    simp only [Rep] at h ⊢
    obtain ⟨a, vs, e, n, s, r⟩ := h
    have q := k a ⟨n, sqT_at s⟩
    exact ⟨a, vs, e, q.2, sqT_mono s q.1, reps_mono k ds vs r⟩
  | .obj c ks ds, v, h => by
    simp only [Rep] at h ⊢
    obtain ⟨a, dx, vs, e, n, l, s, r⟩ := h
    have q := k a ⟨n, .inl ⟨_, s⟩⟩
    exact ⟨a, dx, vs, e, q.2, l, q.1 _ s, reps_mono k ds vs r⟩
theorem reps_mono (k : ∀ a, Vst g Av H a → (∀ o, H a = some o → H' a = some o) ∧ ¬ Av' a) : ∀ (ds : List D) (vs : List V), Reps g Av H ds vs → Reps g Av' H' ds vs
  | [], _, h => by simpa [Reps] using h
  | d :: ds, _, h => by
    simp only [Reps] at h ⊢
    obtain ⟨v, r, e, h1, h2⟩ := h
    exact ⟨v, r, e, rep_mono k d v h1, reps_mono k ds r h2⟩
end
theorem Reps.len : ∀ {ds : List D} {vs : List V}, Reps g Av H ds vs → ds.length = vs.length
  | [], _, h => by simp only [Reps] at h; subst h; rfl
  | d :: ds, _, h => by
    simp only [Reps] at h
    obtain ⟨v, r, rfl, _, h2⟩ := h
    rw [List.length_cons, List.length_cons, Reps.len h2]
theorem Reps.get : ∀ {ds : List D} {vs : List V} {i : Nat} {d : D}, Reps g Av H ds vs → ds[i]? = some d → ∃ v, vs[i]? = some v ∧ Rep g Av H d v
  | [], _, i, d, _, e => by simp at e
  | x :: ds, _, 0, d, h, e => by
    simp only [Reps] at h
    obtain ⟨v, r, rfl, h1, _⟩ := h
    simp at e; subst e
    exact ⟨v, rfl, h1⟩
  | x :: ds, _, i + 1, d, h, e => by
    simp only [Reps] at h
    obtain ⟨v, r, rfl, _, h2⟩ := h
    exact Reps.get (i := i) h2 (by simpa using e)
theorem Reps.app : ∀ {ds es : List D} {vs ws : List V}, Reps g Av H ds vs → Reps g Av H es ws → Reps g Av H (ds ++ es) (vs ++ ws)
  | [], _, _, _, h, q => by simp only [Reps] at h; subst h; exact q
  | d :: ds, _, _, _, h, q => by
    simp only [Reps] at h
    obtain ⟨v, r, rfl, h1, h2⟩ := h
    simp only [List.cons_append, Reps]
    exact ⟨v, _, rfl, h1, Reps.app h2 q⟩
theorem Reps.take : ∀ {ds : List D} {vs : List V} (n : Nat), Reps g Av H ds vs → Reps g Av H (ds.take n) (vs.take n)
  | _, _, 0, _ => by simp [Reps]
  | [], _, n + 1, h => by simp only [Reps] at h; subst h; simp [Reps]
  | d :: ds, _, n + 1, h => by
    simp only [Reps] at h
    obtain ⟨v, r, rfl, h1, h2⟩ := h
    simp only [List.take_succ_cons, Reps]
    exact ⟨v, _, rfl, h1, Reps.take n h2⟩
theorem Reps.drop : ∀ {ds : List D} {vs : List V} (n : Nat), Reps g Av H ds vs → Reps g Av H (ds.drop n) (vs.drop n)
  | _, _, 0, h => h
  | [], _, n + 1, h => by simp only [Reps] at h; subst h; simp [Reps]
  | d :: ds, _, n + 1, h => by
    simp only [Reps] at h
    obtain ⟨v, r, rfl, h1, h2⟩ := h
    simpa using Reps.drop n h2
theorem Reps.set {d : D} {v : V} (q : Rep g Av H d v) : ∀ {ds : List D} {vs : List V} (n : Nat), Reps g Av H ds vs → Reps g Av H (ds.set n d) (vs.set n v)
  | [], _, n, h => by simp only [Reps] at h; subst h; simp [Reps]
  | x :: ds, _, 0, h => by
    simp only [Reps] at h
    obtain ⟨w, r, rfl, h1, h2⟩ := h
    simp only [List.set_cons_zero, Reps]
    exact ⟨v, _, rfl, q, h2⟩
  | x :: ds, _, n + 1, h => by
    simp only [Reps] at h
    obtain ⟨w, r, rfl, h1, h2⟩ := h
    simp only [List.set_cons_succ, Reps]
    exact ⟨w, _, rfl, h1, Reps.set q n h2⟩
theorem Reps.one {d : D} {v : V} (q : Rep g Av H d v) : Reps g Av H [d] [v] := by
  simp only [Reps]
  exact ⟨v, [], rfl, q, rfl⟩
theorem Reps.rev : ∀ {ds : List D} {vs : List V}, Reps g Av H ds vs → Reps g Av H ds.reverse vs.reverse
  | [], _, h => by simp only [Reps] at h; subst h; simp [Reps]
  | d :: ds, _, h => by
    simp only [Reps] at h
    obtain ⟨v, r, rfl, h1, h2⟩ := h
    rw [List.reverse_cons, List.reverse_cons]
    exact Reps.app (Reps.rev h2) (Reps.one h1)
theorem Reps.repl {ds : List D} {vs : List V} (h : Reps g Av H ds vs) : ∀ n : Nat, Reps g Av H (List.replicate n ds).flatten (List.replicate n vs).flatten
  | 0 => by simp [Reps]
  | n + 1 => by
    rw [List.replicate_succ, List.replicate_succ, List.flatten_cons, List.flatten_cons]
    exact Reps.app h (Reps.repl h n)
end

/-! ### the frame: slots with data, some of them owned -/
abbrev Sl := Option (D × Bool)
abbrev Ct := List Sl
def Av (Bn : Addr → Prop) (Ow : List Addr) : Addr → Prop := fun a => Bn a ∨ a ∈ Ow
/-- the object at a is the owned datum d -/
def OwnA (g : Gx) (A : Addr → Prop) (H : Hp) (d : D) (a : Addr) : Prop :=
  match d with
  | .lst ds => ∃ vs, H a = some (.lst vs) ∧ Reps g A H ds vs
  | .obj c ks ds => ∃ dx vs, ks.length = vs.length ∧ H a = some (.ins (g.cl c) dx (ks.zip vs)) ∧ Reps g A H ds vs
  | _ => False
structure RS (g : Gx) (Bn : Addr → Prop) (Ow : List Addr) (H : Hp) (σ : St) (Γ : Ct) : Prop where
  len : σ.length = Γ.length
  slot : ∀ (i : Nat) d, Γ[i]? = some (some (d, false)) → ∃ v, σ[i]? = some (some v) ∧ Rep g (Av Bn Ow) H d v
  own : ∀ (i : Nat) d, Γ[i]? = some (some (d, true)) → ∃ a, σ[i]? = some (some (.ref a)) ∧ a ∈ Ow ∧ OwnA g (Av Bn Ow) H d a
  dist : ∀ (i j : Nat) d e a, Γ[i]? = some (some (d, true)) → Γ[j]? = some (some (e, true)) → σ[i]? = some (some (.ref a)) → σ[j]? = some (some (.ref a)) → i = j
  trk : ∀ a, Av Bn Ow a → H a ≠ none
  sep : ∀ a, Bn a → a ∉ Ow
  kf : ∀ a, Av Bn Ow a → g.K.lookup a = none
/-- a step of the frame -/
structure Stp (Ow : List Addr) (H : Hp) (Ow' : List Addr) (H' : Hp) : Prop where
  keep : ∀ a o, H a = some o → a ∉ Ow → H' a = some o
  grow : ∀ a, a ∈ Ow' → a ∈ Ow ∨ H a = none
  stay : ∀ a, H a ≠ none → H' a ≠ none
theorem Stp.refl (Ow : List Addr) (H : Hp) : Stp Ow H Ow H := ⟨fun _ _ h _ => h, fun _ h => .inl h, fun _ h => h⟩
theorem Stp.trans {O1 O2 O3 : List Addr} {H1 H2 H3 : Hp} (a : Stp O1 H1 O2 H2) (b : Stp O2 H2 O3 H3) : Stp O1 H1 O3 H3 where
  keep := fun x o h n => b.keep x o (a.keep x o h n) fun z => by
    rcases a.grow x z with q | q
    · exact n q
    · rw [q] at h; cases h
  grow := fun x h => by
    rcases b.grow x h with q | q
    · exact a.grow x q
    · right
      cases e : H1 x with
      | none => rfl
      | some o => exact absurd q (a.stay x (by rw [e]; simp))
  stay := fun x h => b.stay x (a.stay x h)
section
variable {g : Gx} {Bn : Addr → Prop} {Ow Ow' : List Addr} {H H' : Hp} {σ : St} {Γ Γ' : Ct}
/-- what may be carried over a step -/
theorem step_vst (s : Stp Ow H Ow' H') (kf : ∀ a, a ∈ Ow' → g.K.lookup a = none) : ∀ a, Vst g (Av Bn Ow) H a → (∀ o, H a = some o → H' a = some o) ∧ ¬ Av Bn Ow' a := fun a ⟨n, t⟩ => by
  have n1 : ¬ Bn a := fun z => n (.inl z)
  have n2 : a ∉ Ow := fun z => n (.inr z)
  refine ⟨fun o h => s.keep a o h n2, fun z => ?_⟩
  rcases z with z | z
  · exact n1 z
  · rcases t with ⟨o, t⟩ | ⟨o, t⟩
    · rcases s.grow a z with q | q
      · exact n2 q
      · rw [q] at t; cases t
    · rw [kf a z] at t; cases t
theorem Rep.step {d : D} {v : V} (h : Rep g (Av Bn Ow) H d v) (s : Stp Ow H Ow' H') (r : RS g Bn Ow' H' σ Γ) : Rep g (Av Bn Ow') H' d v :=
  rep_mono (step_vst s fun a h => r.kf a (.inr h)) d v h
theorem Reps.step {d : List D} {v : List V} (h : Reps g (Av Bn Ow) H d v) (s : Stp Ow H Ow' H') (r : RS g Bn Ow' H' σ Γ) : Reps g (Av Bn Ow') H' d v :=
  reps_mono (step_vst s fun a h => r.kf a (.inr h)) d v h
/-- the heap has grown, nothing else -/
theorem same_vst {A : Addr → Prop} (s : Same H H') : ∀ a, Vst g A H a → (∀ o, H a = some o → H' a = some o) ∧ ¬ A a := fun a ⟨n, _⟩ => ⟨fun o h => s a o h, n⟩
theorem Rep.same {A : Addr → Prop} {d : D} {v : V} (h : Rep g A H d v) (s : Same H H') : Rep g A H' d v := rep_mono (same_vst s) d v h
theorem Reps.same {A : Addr → Prop} {d : List D} {v : List V} (h : Reps g A H d v) (s : Same H H') : Reps g A H' d v := reps_mono (same_vst s) d v h
theorem OwnA.same {A : Addr → Prop} {d : D} {a : Addr} (h : OwnA g A H d a) (s : Same H H') : OwnA g A H' d a := by
  cases d with
  | lst ds => obtain ⟨vs, e, r⟩ := h; exact ⟨vs, s _ _ e, r.same s⟩
  | obj c ks ds => obtain ⟨dx, vs, l, e, r⟩ := h; exact ⟨dx, vs, l, s _ _ e, r.same s⟩
  | _ => exact h
theorem RS.same (r : RS g Bn Ow H σ Γ) (s : Same H H') : RS g Bn Ow H' σ Γ where
  len := r.len
  slot := fun i d h => let ⟨v, e, q⟩ := r.slot i d h; ⟨v, e, q.same s⟩
  own := fun i d h => let ⟨a, e, m, q⟩ := r.own i d h; ⟨a, e, m, q.same s⟩
  dist := r.dist
  trk := fun a h => by
    have := r.trk a h
    cases e : H a with
    | none => exact absurd e this
    | some o => rw [s a o e]; simp
  sep := r.sep
  kf := r.kf
theorem Stp.same (s : Same H H') : Stp Ow H Ow H' := ⟨fun a o h _ => s a o h, fun _ h => .inl h, fun a h => by
  cases e : H a with
  | none => exact absurd e h
  | some o => rw [s a o e]; simp⟩
/-- less is avoided -/
theorem rep_less {A A' : Addr → Prop} (k : ∀ a, A' a → A a) {d : D} {v : V} (h : Rep g A H d v) : Rep g A' H d v := rep_mono (fun a ⟨n, _⟩ => ⟨fun _ e => e, fun z => n (k a z)⟩) d v h
theorem reps_less {A A' : Addr → Prop} (k : ∀ a, A' a → A a) {d : List D} {v : List V} (h : Reps g A H d v) : Reps g A' H d v := reps_mono (fun a ⟨n, _⟩ => ⟨fun _ e => e, fun z => n (k a z)⟩) d v h
theorem own_less {A A' : Addr → Prop} (k : ∀ a, A' a → A a) {d : D} {a : Addr} (h : OwnA g A H d a) : OwnA g A' H d a := by
  cases d with
  | lst ds => obtain ⟨vs, e, r⟩ := h; exact ⟨vs, e, reps_less k r⟩
  | obj c ks ds => obtain ⟨dx, vs, l, e, r⟩ := h; exact ⟨dx, vs, l, e, reps_less k r⟩
  | _ => exact h
/-- an owned object becomes a plain one -/
theorem OwnA.rep {A : Addr → Prop} {d : D} {a : Addr} (h : OwnA g A H d a) (n : ¬ A a) : Rep g A H d (.ref a) := by
  cases d with
  | lst ds => obtain ⟨vs, e, r⟩ := h; simp only [Rep]; exact ⟨a, vs, rfl, n, e, r⟩
  | obj c ks ds => obtain ⟨dx, vs, l, e, r⟩ := h; simp only [Rep]; exact ⟨a, dx, vs, rfl, n, l, e, r⟩
  | _ => exact h.elim
end
end DV

namespace DV
open PySem L2

/-! ### data: equality, truth, operations -/
mutual
def eqd : D → D → Bool
  | .non, .non => true
  | .bl a, .bl b => a == b
  | .bl a, .int j => (if a then 1 else 0) == j
  | .int i, .bl b => i == (if b then 1 else 0)
  | .int i, .int j => i == j
  | .str x, .str y => x == y
  | .lst xs, .lst ys => eqds xs ys
  | .tup xs, .tup ys => eqds xs ys
  | _, _ => false
def eqds : List D → List D → Bool
  | [], [] => true
  | x :: xs, y :: ys => eqd x y && eqds xs ys
  | _, _ => false
end
/-- plain data of a depth below n -/
def okB : Nat → D → Bool
  | _, .non => true
  | _, .bl _ => true
  | _, .int _ => true
  | _, .str x => PyData.strOk x
  | n + 1, .lst ds => ds.all (okB n)
  | n + 1, .tup ds => ds.all (okB n)
  | _, _ => false
def flatD : D → Bool
  | .non => true
  | .bl _ => true
  | .int _ => true
  | .str _ => true
  | _ => false
def truthD : D → Option Bool
  | .non => some false
  | .bl b => some b
  | .int i => some (i != 0)
  | .str x => if x.length ≤ sizeLine then some ((x.length : Int) != 0) else none
  | .lst ds => some (!ds.isEmpty)
  | .tup ds => some (!ds.isEmpty)
  | .obj _ _ _ => none
  | .scr ns => some (!ns.isEmpty)

inductive RV where
  | fz (d : D) | nw (d : D) | sl (i : Nat)
inductive BOp where
  | add | sub | mul | fdiv | mod | pow
  deriving DecidableEq
inductive COp where
  | eq | ne | lt | le | gt | ge | is | isnot | inn | notin
  deriving DecidableEq
inductive Ty where
  | int | bool | str | list | tuple
  deriving DecidableEq
inductive Bi where
  | len | int1 | max2 | min2 | maxl | minl | suml | list | tuple | alll | anyl | isi (t : Ty) | abs
  deriving DecidableEq
inductive IK where
  | seq | enum | zip | rng
  deriving DecidableEq
inductive Tg where
  | nm (i : Nat) | tp (ts : List Tg)

def tgIx : Tg → List Nat
  | .nm i => [i]
  | .tp ts => tgIxs ts
where tgIxs : List Tg → List Nat
  | [] => []
  | t :: ts => tgIx t ++ tgIxs ts
def mulOk (i j : Int) : Bool := decide (-(2 ^ 64) < i ∧ i < 2 ^ 64) || decide (-(2 ^ 64) < j ∧ j < 2 ^ 64) || decide (i.natAbs.log2 + j.natAbs.log2 < 1000000)
def binD : BOp → D → D → Option RV
  | .add, .int a, .int b => some (.fz (.int (a + b)))
  | .add, .str a, .str b => if a.length + b.length ≤ sizeLine then some (.fz (.str (a ++ b))) else none
  | .add, .lst a, .lst b => if a.length + b.length ≤ sizeLine then some (.nw (.lst (a ++ b))) else none
  | .add, .tup a, .tup b => if a.length + b.length ≤ sizeLine ∧ a ≠ [] then some (.fz (.tup (a ++ b))) else none
  | .sub, .int a, .int b => some (.fz (.int (a - b)))
  | .mul, .int a, .int b => if mulOk a b then some (.fz (.int (a * b))) else none
  | .mul, .lst a, .int k => if -(2 ^ 63) ≤ k ∧ k < 2 ^ 63 ∧ a.length * k.toNat ≤ sizeLine then some (.nw (.lst (List.replicate k.toNat a).flatten)) else none
  | .fdiv, .int a, .int b => if 0 < b ∧ b.natAbs.log2 < 9000 then some (.fz (.int (a / b))) else none
  | .mod, .int a, .int b => if 0 < b then some (.fz (.int (a % b))) else none
  | .pow, .int a, .int b => if 0 ≤ b ∧ b ≤ 1000000 ∧ a.natAbs < 2 ^ 64 then some (.fz (.int (a ^ b.toNat))) else none
  | _, _, _ => none
def isNonD : D → Bool
  | .non => true
  | _ => false
def cmpD : COp → D → D → Option Bool
  | .eq, a, b => if okB 12 a && okB 12 b then some (eqd a b) else none
  | .ne, a, b => if okB 12 a && okB 12 b then some (!eqd a b) else none
  | .lt, .int a, .int b => some (decide (a < b))
  | .le, .int a, .int b => some (decide (a ≤ b))
  | .gt, .int a, .int b => some (decide (b < a))
  | .ge, .int a, .int b => some (decide (b ≤ a))
  | .is, a, .non => some (isNonD a)
  | .isnot, a, .non => some (!isNonD a)
  | .inn, a, .lst b => if flatD a && b.all flatD then some (b.any fun y => eqd y a) else none
  | .inn, a, .tup b => if flatD a && b.all flatD then some (b.any fun y => eqd y a) else none
  | .notin, a, .lst b => if flatD a && b.all flatD then some (!(b.any fun y => eqd y a)) else none
  | .notin, a, .tup b => if flatD a && b.all flatD then some (!(b.any fun y => eqd y a)) else none
  | _, _, _ => none
def ixN' (n : Nat) (i : Int) : Option Nat := ixN n i
def ixD : D → D → Option D
  | .lst xs, .int i => atI xs i
  | .tup xs, .int i => atI xs i
  | .scr ns, .int i => (atI ns i).map D.int
  | .str z, .int i => if z.length ≤ sizeLine then (atI z.cps.toList i).map fun c => .str ⟨#[c]⟩ else none
  | _, _ => none
def cutD (xs : List D) (lo hi : Option Int) : List D := (xs.drop (HT.sIx xs.length 0 lo)).take (HT.sIx xs.length xs.length hi - HT.sIx xs.length 0 lo)
def slcD : D → Option Int → Option Int → Option RV
  | .lst xs, lo, hi => some (.nw (.lst (cutD xs lo hi)))
  | .scr ns, lo, hi => some (.nw (.lst (cutD (ns.map D.int) lo hi)))
  | .tup xs, lo, hi => if HT.sIx xs.length 0 lo = 0 ∧ HT.sIx xs.length xs.length hi = xs.length then none else some (.fz (.tup (cutD xs lo hi)))
  | _, _, _ => none
def shallow : D → Bool
  | .obj _ _ _ => false
  | .scr _ => false
  | _ => true
def isiD : Ty → D → Bool
  | .int, .int _ => true
  | .int, .bl _ => true
  | .bool, .bl _ => true
  | .str, .str _ => true
  | .list, .lst _ => true
  | .tuple, .tup _ => true
  | _, _ => false
/-- the ints of a list of ints -/
def intsD : List D → Option (List Int)
  | [] => some []
  | .int i :: r => (intsD r).map (i :: ·)
  | _ :: _ => none
def blsD : List D → Option (List Bool)
  | [] => some []
  | .bl i :: r => (blsD r).map (i :: ·)
  | _ :: _ => none
def maxI : List Int → Option Int
  | [] => none
  | x :: r => some (r.foldl (fun a b => if a < b then b else a) x)
def minI : List Int → Option Int
  | [] => none
  | x :: r => some (r.foldl (fun a b => if b < a then b else a) x)
def biD : Bi → List D → Option RV
  | .len, [.lst xs] => some (.fz (.int xs.length))
  | .len, [.tup xs] => some (.fz (.int xs.length))
  | .len, [.scr ns] => some (.fz (.int ns.length))
  | .len, [.str x] => if x.length ≤ sizeLine then some (.fz (.int x.length)) else none
  | .int1, [.int i] => some (.fz (.int i))
  | .int1, [.bl b] => some (.fz (.int (if b then 1 else 0)))
  | .max2, [.int a, .int b] => some (.fz (.int (if b > a then b else a)))
  | .min2, [.int a, .int b] => some (.fz (.int (if b < a then b else a)))
  | .maxl, [.lst xs] => (intsD xs).bind fun ns => (maxI ns).map fun m => .fz (.int m)
  | .minl, [.lst xs] => (intsD xs).bind fun ns => (minI ns).map fun m => .fz (.int m)
  | .suml, [.lst xs] => (intsD xs).map fun ns => .fz (.int ns.sum)
  | .list, [.lst xs] => some (.nw (.lst xs))
  | .list, [.tup xs] => some (.nw (.lst xs))
  | .tuple, [.lst xs] => some (.fz (.tup xs))
  | .tuple, [.tup xs] => some (.fz (.tup xs))
  | .alll, [.lst xs] => (blsD xs).map fun bs => .fz (.bl (bs.all id))
  | .anyl, [.lst xs] => (blsD xs).map fun bs => .fz (.bl (bs.any id))
  | .isi t, [d] => if shallow d then some (.fz (.bl (isiD t d))) else none
  | .abs, [.int i] => some (.fz (.int (if i < 0 then -i else i)))
  | _, _ => none

/-! ### the language -/
inductive E where
  | stuck
  | var (i : Nat)
  | cst (d : D)
  | bin (op : BOp) (a b : E)
  | neg (a : E)
  | cmp (op : COp) (a b : E)
  | chain (o1 o2 : COp) (a b c : E)
  | and (a b : E)
  | or (a b : E)
  | not (a : E)
  | ite (c a b : E)
  | lst (es : List E)
  | tup (es : List E)
  | ix (a b : E)
  | slc (a : E) (lo hi : List E)
  | call (k : Nat) (es : List E)
  | bi (b : Bi) (es : List E)
  | comp (own : List Nat) (tg : Tg) (ik : IK) (its : List E) (cond : List E) (elt : E)

abbrev FS := Ct → Option (RV × Ct)

def datum (Γ : Ct) : RV → Option D
  | .fz d => some d
  | .nw d => some d
  | .sl i => match Γ[i]? with
    | some (some (d, _)) => some d
    | _ => none
/-- the value becomes a plain one -/
def fre (Γ : Ct) : RV → Option (D × Ct)
  | .fz d => some (d, Γ)
  | .nw d => some (d, Γ)
  | .sl i => match Γ[i]? with
    | some (some (d, true)) => some (d, Γ.set i (some (d, false)))
    | some (some (d, false)) => some (d, Γ)
    | _ => none
def fres : List RV → Ct → Option (List D × Ct)
  | [], Γ => some ([], Γ)
  | x :: xs, Γ => (fre Γ x).bind fun (d, Γ1) => (fres xs Γ1).map fun (ds, Γ2) => (d :: ds, Γ2)
def datums (Γ : Ct) : List RV → Option (List D)
  | [] => some []
  | x :: xs => (datum Γ x).bind fun d => (datums Γ xs).map (d :: ·)
/-- an argument's slot for the callee -/
def argS (Γ : Ct) : RV → Option (D × Bool)
  | .fz d => some (d, false)
  | .nw d => some (d, true)
  | .sl i => match Γ[i]? with
    | some (some p) => some p
    | _ => none
def argSs (Γ : Ct) : List RV → Option (List (D × Bool))
  | [] => some []
  | x :: xs => (argS Γ x).bind fun d => (argSs Γ xs).map (d :: ·)
/-- the slots that are handed over -/
def ownIx (Γ : Ct) : List RV → List Nat
  | [] => []
  | .sl i :: xs => match Γ[i]? with
    | some (some (_, true)) => i :: ownIx Γ xs
    | _ => ownIx Γ xs
  | _ :: xs => ownIx Γ xs
def nodupB : List Nat → Bool
  | [] => true
  | x :: xs => !(xs.contains x) && nodupB xs
/-- what comes back at the slots that were handed over -/
def putOuts (Γ0 : Ct) : List RV → Ct → Ct → Ct
  | .sl i :: xs, o :: os, Γ => match Γ0[i]? with
    | some (some (_, true)) => putOuts Γ0 xs os (Γ.set i o)
    | _ => putOuts Γ0 xs os Γ
  | _ :: xs, _ :: os, Γ => putOuts Γ0 xs os Γ
  | _, _, Γ => Γ

def asgT : Tg → D → Ct → Option Ct
  | .nm i, d, Γ => if i < Γ.length then some (Γ.set i (some (d, false))) else none
  | .tp ts, .tup ds, Γ => asgTs ts ds Γ
  | _, _, _ => none
where asgTs : List Tg → List D → Ct → Option Ct
  | [], [], Γ => some Γ
  | t :: ts, d :: ds, Γ => (asgT t d Γ).bind fun Γ1 => asgTs ts ds Γ1
  | _, _, _ => none

/-- what is walked -/
def enumD : Nat → List D → List D
  | _, [] => []
  | n, d :: ds => .tup [.int n, d] :: enumD (n + 1) ds
def zipD : List D → List D → List D
  | a :: as, b :: bs => .tup [a, b] :: zipD as bs
  | _, _ => []
def rngD (lo : Int) (c : Int) : Nat → List D
  | 0 => []
  | n + 1 => .int lo :: rngD (lo + c) c n
@[irreducible] def in62 (i : Int) : Bool := decide (i.natAbs.log2 < 62)
def iterD : IK → List RV → Ct → Option (List D × Ct)
  | .seq, [x], Γ => (fre Γ x).bind fun (d, Γ1) => match d with
    | .lst ds => some (ds, Γ1)
    | .tup ds => some (ds, Γ1)
    | _ => none
  | .enum, [x], Γ => (fre Γ x).bind fun (d, Γ1) => match d with
    | .lst ds => some (enumD 0 ds, Γ1)
    | _ => none
  | .zip, [x, y], Γ => (fre Γ x).bind fun (d, Γ1) => (fre Γ1 y).bind fun (e, Γ2) => match d, e with
    | .lst ds, .lst es => some (zipD ds es, Γ2)
    | _, _ => none
  | .rng, xs, Γ => (datums Γ xs).bind fun ds => match ds with
    | [.int b] => if in62 b then some (rngD 0 1 b.toNat, Γ) else none
    | [.int a, .int b] => if in62 a && in62 b then some (rngD a 1 (b - a).toNat, Γ) else none
    | [.int a, .int b, .int c] => if c ≠ 0 ∧ c.natAbs < 1073741824 ∧ Builtin.Range.small a b c = true ∧ Builtin.Range.rangeSize a b c = ((Builtin.Range.rangeSize a b c).toNat : Nat) then some (rngD a c (Builtin.Range.rangeSize a b c).toNat, Γ) else none
    | _ => none
  | _, _, _ => none
def wipeG (Γ : Ct) : List Nat → Ct
  | [] => Γ
  | v :: vs => (wipeG Γ vs).set v none
def restG (Γ Γ' : Ct) : List Nat → Ct
  | [] => Γ'
  | v :: vs => (restG Γ Γ' vs).set v (Γ.getD v none)
/-- no owned slot among these -/
def plainIx (Γ : Ct) (vs : List Nat) : Bool := vs.all fun v => match Γ[v]? with
  | some (some (_, true)) => false
  | some _ => true
  | none => false
def testD (Γ : Ct) (x : RV) : Option Bool := (datum Γ x).bind truthD
def compLoop (own : List Nat) (tg : Tg) (ct : Ct → Option (Bool × Ct)) (el : Ct → Option (RV × Ct)) : List D → List D → Ct → Option (List D × Ct)
  | [], acc, Γ => some (acc, Γ)
  | d :: ds, acc, Γ => (asgT tg d Γ).bind fun Γ1 => (ct Γ1).bind fun (b, Γ2) =>
    if b then (el Γ2).bind fun (x, Γ3) => (fre Γ3 x).bind fun (e, Γ4) => if plainIx Γ4 own then compLoop own tg ct el ds (acc ++ [e]) (wipeG Γ4 own) else none
    else if plainIx Γ2 own then compLoop own tg ct el ds acc (wipeG Γ2 own) else none

def slO : List D → Option (Option Int)
  | [] => some none
  | [.int i] => some (some i)
  | _ => none
mutual
def ev (fs : List FS) : E → Ct → Option (RV × Ct)
  | .stuck, _ => none
  | .var i, Γ => match Γ[i]? with
    | some (some _) => some (.sl i, Γ)
    | _ => none
  | .cst d, Γ => some (.fz d, Γ)
  | .bin op a b, Γ => (ev fs a Γ).bind fun (x, Γ1) => (ev fs b Γ1).bind fun (y, Γ2) => (datum Γ2 x).bind fun d => (datum Γ2 y).bind fun e => (binD op d e).map fun r => (r, Γ2)
  | .neg a, Γ => (ev fs a Γ).bind fun (x, Γ1) => (datum Γ1 x).bind fun d => match d with
    | .int i => some (.fz (.int (-i)), Γ1)
    | _ => none
  | .cmp op a b, Γ => (ev fs a Γ).bind fun (x, Γ1) => (ev fs b Γ1).bind fun (y, Γ2) => (datum Γ2 x).bind fun d => (datum Γ2 y).bind fun e => (cmpD op d e).map fun r => (.fz (.bl r), Γ2)
  | .chain o1 o2 a b c, Γ => (ev fs a Γ).bind fun (x, Γ1) => (ev fs b Γ1).bind fun (y, Γ2) => (datum Γ2 x).bind fun d => (datum Γ2 y).bind fun e => (cmpD o1 d e).bind fun r =>
      if r then (ev fs c Γ2).bind fun (z, Γ3) => (datum Γ3 y).bind fun e => (datum Γ3 z).bind fun f => (cmpD o2 e f).map fun r => (.fz (.bl r), Γ3)
      else some (.fz (.bl false), Γ2)
  | .and a b, Γ => (ev fs a Γ).bind fun (x, Γ1) => (testD Γ1 x).bind fun t => if t then ev fs b Γ1 else some (x, Γ1)
  | .or a b, Γ => (ev fs a Γ).bind fun (x, Γ1) => (testD Γ1 x).bind fun t => if t then some (x, Γ1) else ev fs b Γ1
  | .not a, Γ => (ev fs a Γ).bind fun (x, Γ1) => (testD Γ1 x).map fun t => (.fz (.bl (!t)), Γ1)
  | .ite c a b, Γ => (ev fs c Γ).bind fun (x, Γ1) => (testD Γ1 x).bind fun t => if t then ev fs a Γ1 else ev fs b Γ1
  | .lst es, Γ => (evs fs es Γ).bind fun (xs, Γ1) => (fres xs Γ1).bind fun (ds, Γ2) => if ds.length ≤ sizeLine then some (.nw (.lst ds), Γ2) else none
  | .tup es, Γ => (evs fs es Γ).bind fun (xs, Γ1) => (fres xs Γ1).bind fun (ds, Γ2) => if ds.length ≤ sizeLine then some (.fz (.tup ds), Γ2) else none
  | .ix a b, Γ => (ev fs a Γ).bind fun (x, Γ1) => (ev fs b Γ1).bind fun (y, Γ2) => (datum Γ2 x).bind fun d => (datum Γ2 y).bind fun e => (ixD d e).map fun r => (.fz r, Γ2)
  | .slc a lo hi, Γ => (ev fs a Γ).bind fun (x, Γ1) => (evs fs lo Γ1).bind fun (ys, Γ2) => (datums Γ2 ys).bind fun l => (evs fs hi Γ2).bind fun (zs, Γ3) => (datum Γ3 x).bind fun d => (datums Γ3 zs).bind fun h =>
      (slO l).bind fun lo' => (slO h).bind fun hi' => (slcD d lo' hi').map fun r => (r, Γ3)
  | .call k es, Γ => (evs fs es Γ).bind fun (xs, Γ1) => (fs[k]?).bind fun F => (argSs Γ1 xs).bind fun as => if nodupB (ownIx Γ1 xs) then (F (as.map some)).bind fun (r, os) => match r with
      | .sl _ => none
      | r => some (r, putOuts Γ1 xs os Γ1)
    else none
  | .bi b es, Γ => (evs fs es Γ).bind fun (xs, Γ1) => (datums Γ1 xs).bind fun ds => (biD b ds).map fun r => (r, Γ1)
  | .comp own tg ik its cond elt, Γ => (evs fs its Γ).bind fun (xs, Γ1) => (iterD ik xs Γ1).bind fun (ds, Γ2) =>
      if plainIx Γ2 own && decide (ds.length ≤ sizeLine) && (tgIx tg).all (fun i => own.contains i) then
        (compLoop own tg (evc fs cond) (ev fs elt) ds [] (wipeG Γ2 own)).map fun (acc, Γ3) => (.nw (.lst acc), restG Γ2 Γ3 own)
      else none
def evs (fs : List FS) : List E → Ct → Option (List RV × Ct)
  | [], Γ => some ([], Γ)
  | e :: es, Γ => (ev fs e Γ).bind fun (x, Γ1) => (evs fs es Γ1).map fun (xs, Γ2) => (x :: xs, Γ2)
def evc (fs : List FS) : List E → Ct → Option (Bool × Ct)
  | [], Γ => some (true, Γ)
  | [e], Γ => (ev fs e Γ).bind fun (x, Γ1) => (testD Γ1 x).map fun t => (t, Γ1)
  | _, _ => none
end

/-! ### statements -/
inductive S where
  | stuck | pass | brk | cont | retN
  | asg (tg : Tg) (e : E)
  | asgO (i : Nat) (e : E)
  | par (is : List (Nat × Bool)) (es : List E)
  | expr (e : E)
  | app (i : Nat) (e : E)
  | ext (i : Nat) (e : E)
  | seti (i : Nat) (k e : E)
  | ret (e : E)
  | ite (c : E) (a b : List S)
  | whl (c : E) (b : List S)
  | for_ (tg : Tg) (ik : IK) (its : List E) (b : List S)
inductive Out where
  | nx (Γ : Ct) | rt (r : RV) (Γ : Ct) | bk (Γ : Ct) | ct (Γ : Ct)

def disjB (xs ys : List Nat) : Bool := xs.all fun x => !(ys.contains x)
def forLoop (tg : Tg) (body : Ct → Option Out) : List D → Ct → Option Out
  | [], Γ => some (.nx Γ)
  | d :: ds, Γ => (asgT tg d Γ).bind fun Γ1 => (body Γ1).bind fun o => match o with
    | .nx Γ2 => forLoop tg body ds Γ2
    | .ct Γ2 => forLoop tg body ds Γ2
    | .bk Γ2 => some (.nx Γ2)
    | .rt r Γ2 => some (.rt r Γ2)
def whlLoop (c : Ct → Option (Bool × Ct)) (body : Ct → Option Out) : Nat → Ct → Option Out
  | 0, _ => none
  | n + 1, Γ => (c Γ).bind fun (b, Γ1) => if b then (body Γ1).bind fun o => match o with
    | .nx Γ2 => whlLoop c body n Γ2
    | .ct Γ2 => whlLoop c body n Γ2
    | .bk Γ2 => some (.nx Γ2)
    | .rt r Γ2 => some (.rt r Γ2)
   else some (.nx Γ1)
def fuel : Nat := 1000000000
/-- the values of a parallel assignment, one after another: plain ones, but for new ones that are to be owned; then they are stored -/
def evn (fs : List FS) : List (Nat × Bool) → List E → Ct → Option (List RV × Ct)
  | [], [], Γ => some ([], Γ)
  | (i, b) :: is, e :: es, Γ => (ev fs e Γ).bind fun (x, Γ1) => match b, x with
    | true, .nw d => (evn fs is es Γ1).map fun (ys, Γ2) => (.nw d :: ys, Γ2)
    | _, x => (fre Γ1 x).bind fun (d, Γ2) => (evn fs is es Γ2).map fun (ys, Γ3) => (.fz d :: ys, Γ3)
  | _, _, _ => none
def parS : List (Nat × Bool) → List RV → Ct → Option Ct
  | [], [], Γ => some Γ
  | (i, _) :: is, .nw d :: xs, Γ => if i < Γ.length then parS is xs (Γ.set i (some (d, true))) else none
  | (i, _) :: is, .fz d :: xs, Γ => if i < Γ.length then parS is xs (Γ.set i (some (d, false))) else none
  | _, _, _ => none
def isLst (Γ : Ct) (i : Nat) : Bool := match Γ[i]? with
  | some (some (.lst _, _)) => true
  | _ => false
def appD : D → D → Option D
  | .lst xs, d => if xs.length < sizeLine then some (.lst (xs ++ [d])) else none
  | _, _ => none
def extD : D → D → Option D
  | .lst xs, .lst ys => if xs.length + ys.length ≤ sizeLine then some (.lst (xs ++ ys)) else none
  | _, _ => none
def setD : D → D → D → Option D
  | .lst xs, .int k, d => (ixN xs.length k).map fun j => .lst (xs.set j d)
  | _, _, _ => none
mutual
def ex (fs : List FS) (pn : List Nat) : S → Ct → Option Out
  | .stuck, _ => none
  | .pass, Γ => some (.nx Γ)
  | .brk, Γ => some (.bk Γ)
  | .cont, Γ => some (.ct Γ)
  | .retN, Γ => some (.rt (.fz .non) Γ)
  | .asg tg e, Γ => (ev fs e Γ).bind fun (x, Γ1) => (fre Γ1 x).bind fun (d, Γ2) => if disjB (tgIx tg) pn then (asgT tg d Γ2).map .nx else none
  | .asgO i e, Γ => (ev fs e Γ).bind fun (x, Γ1) => match x with
    | .nw d => if i < Γ1.length ∧ disjB [i] pn = true then some (.nx (Γ1.set i (some (d, true)))) else none
    | x => (fre Γ1 x).bind fun (d, Γ2) => if i < Γ2.length ∧ disjB [i] pn = true then some (.nx (Γ2.set i (some (d, false)))) else none
  | .par is es, Γ => if disjB (is.map (·.1)) pn then (evn fs is es Γ).bind fun (ys, Γ2) => (parS is ys Γ2).map .nx else none
  | .expr e, Γ => (ev fs e Γ).map fun (_, Γ1) => .nx Γ1
  | .app i e, Γ => if isLst Γ i then (ev fs e Γ).bind fun (x, Γ1) => (fre Γ1 x).bind fun (d, Γ2) => match Γ2[i]? with
    | some (some (c, true)) => (appD c d).map fun c' => .nx (Γ2.set i (some (c', true)))
    | _ => none
   else none
  | .ext i e, Γ => if isLst Γ i then (ev fs e Γ).bind fun (x, Γ1) => (datum Γ1 x).bind fun d => match Γ1[i]? with
    | some (some (c, true)) => (extD c d).map fun c' => .nx (Γ1.set i (some (c', true)))
    | _ => none
   else none
  | .seti i k e, Γ => (ev fs e Γ).bind fun (x, Γ1) => (fre Γ1 x).bind fun (d, Γ2) => if isLst Γ2 i then (ev fs k Γ2).bind fun (y, Γ3) => (datum Γ3 y).bind fun kd => match Γ3[i]? with
    | some (some (c, true)) => (setD c kd d).map fun c' => .nx (Γ3.set i (some (c', true)))
    | _ => none
   else none
  | .ret e, Γ => (ev fs e Γ).map fun (x, Γ1) => .rt x Γ1
  | .ite c a b, Γ => (ev fs c Γ).bind fun (x, Γ1) => (testD Γ1 x).bind fun t => if t then exs fs pn a Γ1 else exs fs pn b Γ1
  | .whl c b, Γ => whlLoop (fun Γ => (ev fs c Γ).bind fun (x, Γ1) => (testD Γ1 x).map fun t => (t, Γ1)) (exs fs pn b) fuel Γ
  | .for_ tg ik its b, Γ => (evs fs its Γ).bind fun (xs, Γ1) => (iterD ik xs Γ1).bind fun (ds, Γ2) => if disjB (tgIx tg) pn then forLoop tg (exs fs pn b) ds Γ2 else none
def exs (fs : List FS) (pn : List Nat) : List S → Ct → Option Out
  | [], Γ => some (.nx Γ)
  | s :: ss, Γ => (ex fs pn s Γ).bind fun o => match o with
    | .nx Γ1 => exs fs pn ss Γ1
    | o => some o
end
/-- the slots of the arguments that are handed over -/
def ownPs : Nat → Ct → List Nat
  | _, [] => []
  | n, some (_, true) :: r => n :: ownPs (n + 1) r
  | n, _ :: r => ownPs (n + 1) r
/-- what comes back at the arguments -/
def outsOf : Ct → Ct → Ct
  | some (_, true) :: r, x :: xs => x :: outsOf r xs
  | y :: r, _ :: xs => y :: outsOf r xs
  | _, _ => []
def finish (np : Nat) (G0 : Ct) : Out → Option (RV × Ct)
  | .nx Γ => some (.fz .non, outsOf G0 Γ)
  | .rt (.fz d) Γ => some (.fz d, outsOf G0 Γ)
  | .rt (.nw d) Γ => some (.nw d, outsOf G0 Γ)
  | .rt (.sl i) Γ => match Γ[i]? with
    | some (some (d, true)) => if i < np then some (.fz d, outsOf G0 (Γ.set i (some (d, false)))) else some (.nw d, outsOf G0 Γ)
    | some (some (d, false)) => some (.fz d, outsOf G0 Γ)
    | _ => none
  | _ => none
/-- a def: np parameters, n slots -/
def runF (fs : List FS) (np n : Nat) (body : List S) : FS := fun G0 =>
  if G0.length = np then (exs fs (ownPs 0 G0) body (G0 ++ List.replicate (n - np) none)).bind (finish np G0) else none
end DV

namespace DV
open PySem L2

/-! ### results -/
def Val (g : Gx) (Bn : Addr → Prop) (Ow : List Addr) (H : Hp) (σ : St) (Γ : Ct) : RV → V → Prop
  | .fz d, v => Rep g (Av Bn Ow) H d v
  | .nw d, v => ∃ a, v = .ref a ∧ a ∈ Ow ∧ OwnA g (Av Bn Ow) H d a ∧ ∀ (i : Nat) e, Γ[i]? = some (some (e, true)) → σ[i]? ≠ some (some (.ref a))
  | .sl i, v => σ[i]? = some (some v)
def RV.dn : RV → RV
  | .nw d => .fz d
  | r => r
theorem datum_dn (Γ : Ct) (r : RV) : datum Γ r.dn = datum Γ r := by cases r <;> rfl
theorem fre_dn (Γ : Ct) (r : RV) : fre Γ r.dn = fre Γ r := by cases r <;> rfl
/-- a value that can be read: its top may be owned -/
def Rdb (g : Gx) (A : Addr → Prop) (H : Hp) (d : D) (v : V) : Prop :=
  match d with
  | .lst ds => ∃ a vs, v = .ref a ∧ H a = some (.lst vs) ∧ Reps g A H ds vs
  | .obj c ks ds => ∃ a dx vs, v = .ref a ∧ ks.length = vs.length ∧ H a = some (.ins (g.cl c) dx (ks.zip vs)) ∧ Reps g A H ds vs
  | d => Rep g A H d v
section
variable {g : Gx} {Bn : Addr → Prop} {Ow Ow' : List Addr} {H H' : Hp} {σ : St} {Γ Γ' : Ct} {A : Addr → Prop}
theorem Rep.rdb {d : D} {v : V} (h : Rep g A H d v) : Rdb g A H d v := by
  cases d with
  | lst ds => simp only [Rep] at h; obtain ⟨a, vs, e, _, s, r⟩ := h; exact ⟨a, vs, e, s, r⟩
  | obj c ks ds => simp only [Rep] at h; obtain ⟨a, dx, vs, e, _, l, s, r⟩ := h; exact ⟨a, dx, vs, e, l, s, r⟩
  | _ => exact h
theorem OwnA.rdb {d : D} {a : Addr} (h : OwnA g A H d a) : Rdb g A H d (.ref a) := by
  cases d with
  | lst ds => obtain ⟨vs, e, r⟩ := h; exact ⟨a, vs, rfl, e, r⟩
  | obj c ks ds => obtain ⟨dx, vs, l, e, r⟩ := h; exact ⟨a, dx, vs, rfl, l, e, r⟩
  | _ => exact h.elim
theorem Rdb.same {d : D} {v : V} (h : Rdb g A H d v) (s : Same H H') : Rdb g A H' d v := by
  cases d with
  | lst ds => obtain ⟨a, vs, e, s1, r⟩ := h; exact ⟨a, vs, e, s _ _ s1, r.same s⟩
  | obj c ks ds => obtain ⟨a, dx, vs, e, l, s1, r⟩ := h; exact ⟨a, dx, vs, e, l, s _ _ s1, r.same s⟩
  | _ => exact Rep.same h s
theorem ct_get {i : Nat} {p : D × Bool} (h : Γ[i]? = some (some p)) : p = (p.1, p.2) := rfl
theorem Val.rdb {r : RV} {v : V} {d : D} (rs : RS g Bn Ow H σ Γ) (h : Val g Bn Ow H σ Γ r v) (e : datum Γ r = some d) : Rdb g (Av Bn Ow) H d v := by
  cases r with
  | fz x => simp only [datum, Option.some.injEq] at e; subst e; exact Rep.rdb h
  | nw x => simp only [datum, Option.some.injEq] at e; subst e; obtain ⟨a, rfl, _, o, _⟩ := h; exact o.rdb
  | sl i =>
    simp only [datum] at e
    have h : σ[i]? = some (some v) := h
    split at e
    · rename_i x b q
      cases e
      cases b with
      | false => obtain ⟨w, e1, r1⟩ := rs.slot i _ q; rw [h] at e1; cases e1; exact r1.rdb
      | true => obtain ⟨a, e1, _, o⟩ := rs.own i _ q; rw [h] at e1; cases e1; exact o.rdb
    · cases e
/-- pending values over a step -/
theorem Val.step {r : RV} {v : V} (h : Val g Bn Ow H σ Γ r.dn v) (s : Stp Ow H Ow' H') (rs : RS g Bn Ow' H' σ Γ') : Val g Bn Ow' H' σ Γ' r.dn v := by
  cases r with
  | fz x => exact Rep.step h s rs
  | nw x => exact Rep.step h s rs
  | sl i => exact h
/-- fewer owned -/
theorem RS.less (rs : RS g Bn Ow H σ Γ) (k : ∀ a, a ∈ Ow' → a ∈ Ow) (ks : ∀ (i : Nat) d a, Γ[i]? = some (some (d, true)) → σ[i]? = some (some (.ref a)) → a ∈ Ow → a ∈ Ow') : RS g Bn Ow' H σ Γ := by
  have kk : ∀ a, Av Bn Ow' a → Av Bn Ow a := fun a h => h.elim .inl fun z => .inr (k a z)
  refine ⟨rs.len, fun i d h => ?_, fun i d h => ?_, rs.dist, fun a h => rs.trk a (kk a h), fun a h z => rs.sep a h (k a z), fun a h => rs.kf a (kk a h)⟩
  · obtain ⟨v, e, r⟩ := rs.slot i d h; exact ⟨v, e, rep_less kk r⟩
  · obtain ⟨a, e, m, r⟩ := rs.own i d h; exact ⟨a, e, ks i d a h e m, own_less kk r⟩
theorem stp_less (k : ∀ a, a ∈ Ow' → a ∈ Ow) : Stp Ow H Ow' H := ⟨fun _ _ h _ => h, fun a h => .inl (k a h), fun _ h => h⟩
theorem mem_ne {a b : Addr} (h : a ∈ Ow.filter (fun x => decide (x ≠ b))) : a ∈ Ow ∧ a ≠ b := by
  have := List.mem_filter.mp h
  exact ⟨this.1, of_decide_eq_true this.2⟩
theorem ne_mem {a b : Addr} (h : a ∈ Ow) (n : a ≠ b) : a ∈ Ow.filter (fun x => decide (x ≠ b)) := List.mem_filter.mpr ⟨h, decide_eq_true n⟩
/-- a value becomes a plain one -/
theorem fre_ok {r : RV} {v : V} {d : D} (rs : RS g Bn Ow H σ Γ) (h : Val g Bn Ow H σ Γ r v) (e : fre Γ r = some (d, Γ')) : ∃ Ow', Stp Ow H Ow' H ∧ RS g Bn Ow' H σ Γ' ∧ Rep g (Av Bn Ow') H d v := by
  cases r with
  | fz x => simp only [fre, Option.some.injEq, Prod.mk.injEq] at e; obtain ⟨rfl, rfl⟩ := e; exact ⟨Ow, .refl _ _, rs, h⟩
  | nw x =>
    simp only [fre, Option.some.injEq, Prod.mk.injEq] at e; obtain ⟨rfl, rfl⟩ := e
    obtain ⟨a, rfl, m, o, no⟩ := h
    have kk : ∀ b, b ∈ Ow.filter (fun x => decide (x ≠ a)) → b ∈ Ow := fun b z => (mem_ne z).1
    refine ⟨Ow.filter (fun x => decide (x ≠ a)), stp_less kk, rs.less kk (fun i d b q1 q2 q3 => ne_mem q3 fun z => ?_), (own_less (fun b z => z.elim .inl fun z => .inr (kk b z)) o).rep fun z => ?_⟩
    · subst z; exact no i d q1 q2
    · rcases z with z | z
      · exact rs.sep a z m
      · exact (mem_ne z).2 rfl
  | sl i =>
    simp only [fre] at e
    have h : σ[i]? = some (some v) := h
    split at e
    · rename_i x q
      simp only [Option.some.injEq, Prod.mk.injEq] at e; obtain ⟨rfl, rfl⟩ := e
      obtain ⟨a, e1, m, o⟩ := rs.own i _ q
      rw [h] at e1; cases e1
      have kk : ∀ b, b ∈ Ow.filter (fun x => decide (x ≠ a)) → b ∈ Ow := fun b z => (mem_ne z).1
      have ka : ∀ b, Av Bn (Ow.filter (fun x => decide (x ≠ a))) b → Av Bn Ow b := fun b z => z.elim .inl fun z => .inr (kk b z)
      have hil : i < Γ.length := (List.getElem?_eq_some_iff.mp q).1
      have rp : Rep g (Av Bn (Ow.filter (fun x => decide (x ≠ a)))) H x (.ref a) := (own_less ka o).rep fun z => by
        rcases z with z | z
        · exact rs.sep a z m
        · exact (mem_ne z).2 rfl
      refine ⟨Ow.filter (fun x => decide (x ≠ a)), stp_less kk, ⟨by rw [List.length_set]; exact rs.len, fun j d' h' => ?_, fun j d' h' => ?_, fun j k d1 d2 b h1 h2 h3 h4 => ?_, fun b z => rs.trk b (ka b z), fun b z w => rs.sep b z (kk b w), fun b z => rs.kf b (ka b z)⟩, rp⟩
      · by_cases hj : i = j
        · subst hj
          rw [List.getElem?_set_self hil] at h'
          cases h'
          exact ⟨_, h, rp⟩
        · rw [List.getElem?_set_ne hj] at h'
          obtain ⟨w, e2, r2⟩ := rs.slot j d' h'
          exact ⟨w, e2, rep_less ka r2⟩
      · by_cases hj : i = j
        · subst hj
          rw [List.getElem?_set_self hil] at h'
          cases h'
        · rw [List.getElem?_set_ne hj] at h'
          obtain ⟨b, e2, m2, r2⟩ := rs.own j d' h'
          exact ⟨b, e2, ne_mem m2 fun z => hj (by subst z; exact rs.dist i j _ _ _ q h' h e2), own_less ka r2⟩
      · have ne1 : i ≠ j := fun z => by subst z; rw [List.getElem?_set_self hil] at h1; cases h1
        have ne2 : i ≠ k := fun z => by subst z; rw [List.getElem?_set_self hil] at h2; cases h2
        rw [List.getElem?_set_ne ne1] at h1
        rw [List.getElem?_set_ne ne2] at h2
        exact rs.dist j k _ _ _ h1 h2 h3 h4
    · rename_i x q
      simp only [Option.some.injEq, Prod.mk.injEq] at e; obtain ⟨rfl, rfl⟩ := e
      obtain ⟨w, e1, r1⟩ := rs.slot i _ q
      rw [h] at e1; cases e1
      exact ⟨Ow, .refl _ _, rs, r1⟩
    · cases e
theorem dn_ok {r : RV} {v : V} (rs : RS g Bn Ow H σ Γ) (h : Val g Bn Ow H σ Γ r v) : ∃ Ow', Stp Ow H Ow' H ∧ RS g Bn Ow' H σ Γ ∧ Val g Bn Ow' H σ Γ r.dn v := by
  cases r with
  | fz x => exact ⟨Ow, .refl _ _, rs, h⟩
  | sl i => exact ⟨Ow, .refl _ _, rs, h⟩
  | nw x => exact fre_ok rs h rfl
/-- a new object is laid, and owned -/
theorem RS.add {p : Addr} (rs : RS g Bn Ow H σ Γ) (s : Same H H') (np : H p = none) (hp : H' p ≠ none) (hk : g.K.lookup p = none) : RS g Bn (p :: Ow) H' σ Γ := by
  have vs : ∀ a, Vst g (Av Bn Ow) H a → (∀ o, H a = some o → H' a = some o) ∧ ¬ Av Bn (p :: Ow) a := fun a ⟨n, t⟩ => by
    refine ⟨fun o h => s a o h, fun z => ?_⟩
    rcases z with z | z
    · exact n (.inl z)
    · rcases List.mem_cons.mp z with z | z
      · subst z
        rcases t with ⟨o, t⟩ | ⟨o, t⟩
        · rw [np] at t; cases t
        · rw [hk] at t; cases t
      · exact n (.inr z)
  refine ⟨rs.len, fun i d h => ?_, fun i d h => ?_, rs.dist, fun a h => ?_, fun a h z => ?_, fun a h => ?_⟩
  · obtain ⟨v, e, r⟩ := rs.slot i d h; exact ⟨v, e, rep_mono vs d v r⟩
  · obtain ⟨a, e, m, r⟩ := rs.own i d h
    refine ⟨a, e, List.mem_cons_of_mem _ m, ?_⟩
    cases d with
    | lst ds => obtain ⟨ws, e1, r1⟩ := r; exact ⟨ws, s _ _ e1, reps_mono vs _ _ r1⟩
    | obj c ks ds => obtain ⟨dx, ws, l, e1, r1⟩ := r; exact ⟨dx, ws, l, s _ _ e1, reps_mono vs _ _ r1⟩
    | _ => exact r
  · rcases h with h | h
    · have := rs.trk a (.inl h)
      cases e : H a with
      | none => exact absurd e this
      | some o => rw [s a o e]; simp
    · rcases List.mem_cons.mp h with h | h
      · subst h; exact hp
      · have := rs.trk a (.inr h)
        cases e : H a with
        | none => exact absurd e this
        | some o => rw [s a o e]; simp
  · rcases List.mem_cons.mp z with z | z
    · subst z; exact rs.trk a (.inl h) np
    · exact rs.sep a h z
  · rcases h with h | h
    · exact rs.kf a (.inl h)
    · rcases List.mem_cons.mp h with h | h
      · subst h; exact hk
      · exact rs.kf a (.inr h)
theorem stp_add {p : Addr} (s : Same H H') (np : H p = none) : Stp Ow H (p :: Ow) H' where
  keep := fun a o h _ => s a o h
  grow := fun a h => by
    rcases List.mem_cons.mp h with h | h
    · subst h; exact .inr np
    · exact .inl h
  stay := (Stp.same (Ow := Ow) s).stay
theorem same_new {p : Addr} {o : HO} (h : H p = none) : Same H (upd H p o) := fun b x e => by
  rw [upd_ne (ne_of_none e h)]
  exact e
/-- the result of an operation that lays at most one object -/
def Res (g : Gx) (A : Addr → Prop) (H H' : Hp) : RV → V → Prop
  | .fz d, v => Rep g A H' d v
  | .nw d, v => ∃ p, v = .ref p ∧ H p = none ∧ g.K.lookup p = none ∧ OwnA g (fun a => A a ∨ a = p) H' d p
  | .sl _, _ => False
theorem Res.val {r : RV} {v : V} (rs : RS g Bn Ow H σ Γ) (s : Same H H') (h : Res g (Av Bn Ow) H H' r v) :
    ∃ Ow', Stp Ow H Ow' H' ∧ RS g Bn Ow' H' σ Γ ∧ Val g Bn Ow' H' σ Γ r v := by
  cases r with
  | fz d => exact ⟨Ow, Stp.same s, rs.same s, h⟩
  | sl i => exact h.elim
  | nw d =>
    obtain ⟨p, rfl, np, hk, o⟩ := h
    have hp : H' p ≠ none := by
      cases d with
      | lst ds => obtain ⟨ws, e1, _⟩ := o; rw [e1]; simp
      | obj c ks ds => obtain ⟨dx, ws, l, e1, _⟩ := o; rw [e1]; simp
      | _ => exact o.elim
    refine ⟨p :: Ow, stp_add s np, rs.add s np hp hk, p, rfl, List.mem_cons_self, own_less (fun a z => ?_) o, fun i e h1 h2 => ?_⟩
    · rcases z with z | z
      · exact .inl (.inl z)
      · rcases List.mem_cons.mp z with z | z
        · exact .inr z
        · exact .inl (.inr z)
    · obtain ⟨a, e2, m, _⟩ := rs.own i e h1
      rw [h2] at e2; cases e2
      exact rs.trk p (.inr m) np
end

/-! ### rules, weakened and with what the state says -/
section
variable {X : Cx}
theorem Inv.kf {pins : List (Addr × Obj)} {σ : St} {H : Hp} {s : Shared} (I : Inv X pins σ H s) : ∀ a o, X.K.lookup a = some o → H a = none := fun a o e => (I.bs a o (I.ok.mod.kin a o e)).2
theorem PE.weak {e : Expr} {t t' : TE} (h : PE X e t) (k : ∀ σ H Q, t' σ H Q → t σ H Q) : PE X e t' := ⟨fun pins s σ H Q I q => h.run pins s σ H Q I (k σ H Q q)⟩
theorem PE.kf {e : Expr} {t : TE} (h : PE X e t) : PE X e (fun σ H Q => t σ H fun v H' => (∀ a o, X.K.lookup a = some o → H' a = none) → Q v H') :=
  ⟨fun pins s σ H Q I q => thn (h.run pins s σ H _ I q) fun u s1 ⟨v, H1, I1, r, q1⟩ => ⟨v, H1, I1, r, q1 (Inv.kf I1)⟩⟩
theorem PT.weak {e : Expr} {t t' : TT} (h : PT X e t) (k : ∀ σ H Q, t' σ H Q → t σ H Q) : PT X e t' := ⟨fun pins s σ H Q I q => h.run pins s σ H Q I (k σ H Q q)⟩
theorem PA.weak {e : List Expr} {t t' : TA} (h : PA X e t) (k : ∀ σ H Q, t' σ H Q → t σ H Q) : PA X e t' := ⟨fun p pins s σ H Q I q => h.run p pins s σ H Q I (k σ H Q q)⟩
theorem OpR.weak {f : Value → Value → Sem Value} {r r' : R2} (h : OpR X f r) (k : ∀ x y H Q, r' x y H Q → r x y H Q) : OpR X f r' := fun pins s σ H x y v u Q I rx ry q => h pins s σ H x y v u Q I rx ry (k x y H Q q)
theorem OpR.kf {f : Value → Value → Sem Value} {r : R2} (h : OpR X f r) : OpR X f (fun x y H Q => r x y H fun v H' => (∀ a o, X.K.lookup a = some o → H' a = none) → Q v H') := fun pins s σ H x y v u Q I rx ry q =>
  thn (h pins s σ H x y v u _ I rx ry q) fun u s1 ⟨v, H1, I1, r, q1⟩ => ⟨v, H1, I1, r, q1 (Inv.kf I1)⟩
theorem CallR.weak {f : Value} {r r' : List V → Hp → VK → Prop} (h : CallR X f r) (k : ∀ x H Q, r' x H Q → r x H Q) : CallR X f r' := fun pins s σ H x v Q I rx q => h pins s σ H x v Q I rx (k x H Q q)
theorem CallR.kf {f : Value} {r : List V → Hp → VK → Prop} (h : CallR X f r) : CallR X f (fun x H Q => r x H fun v H' => (∀ a o, X.K.lookup a = some o → H' a = none) → Q v H') := fun pins s σ H x v Q I rx q =>
  thn (h pins s σ H x v _ I rx q) fun u s1 ⟨v, H1, I1, r, q1⟩ => ⟨v, H1, I1, r, q1 (Inv.kf I1)⟩
theorem kf_new {K : PySem.W.Frag} {H : Hp} {p : Addr} {o : HO} (kf : ∀ a o, K.lookup a = some o → H a = none) (h : H p = some o) : K.lookup p = none := by
  cases e : K.lookup p with
  | none => rfl
  | some x => rw [kf p x e] at h; cases h
theorem IxR.weak {r r' : R2} (h : IxR X r) (k : ∀ x y H Q, r' x y H Q → r x y H Q) : IxR X r' := fun a b pins s σ H x y v u Q I rx ry q => h a b pins s σ H x y v u Q I rx ry (k x y H Q q)
end
end DV

namespace DV
open PySem L2
/-! ### equality of data -/
mutual
def toPy : D → PyData
  | .non => .none
  | .bl b => .bool b
  | .int i => .int i
  | .str x => .str x
  | .lst ds => .list (toPys ds)
  | .tup ds => .tuple (toPys ds)
  | .obj _ _ _ => .none
  | .scr _ => .none
def toPys : List D → List PyData
  | [] => []
  | d :: ds => toPy d :: toPys ds
end
theorem okB_lst {n : Nat} {ds : List D} (h : okB n (.lst ds) = true) : ∃ m, n = m + 1 ∧ ds.all (okB m) = true := by
  cases n with
  | zero => simp [okB] at h
  | succ m => exact ⟨m, rfl, by simpa only [okB] using h⟩
theorem okB_tup {n : Nat} {ds : List D} (h : okB n (.tup ds) = true) : ∃ m, n = m + 1 ∧ ds.all (okB m) = true := by
  cases n with
  | zero => simp [okB] at h
  | succ m => exact ⟨m, rfl, by simpa only [okB] using h⟩
theorem okB_obj {n : Nat} {c : Nat} {ks : List Str} {ds : List D} : okB n (.obj c ks ds) = false := by cases n <;> rfl
theorem okB_scr {n : Nat} {ns : List Int} : okB n (.scr ns) = false := by cases n <;> rfl
mutual
theorem py_lay : ∀ (d : D) (n : Nat), okB n d = true → PyData.canLay0 (toPy d) = true ∧ PyData.depth (toPy d) ≤ n
  | .non, n, h => ⟨rfl, Nat.zero_le _⟩
  | .bl _, n, h => ⟨rfl, Nat.zero_le _⟩
  | .int _, n, h => ⟨rfl, Nat.zero_le _⟩
  | .str x, n, h => by
    have h' : PyData.strOk x = true := by cases n <;> simpa only [okB] using h
    exact ⟨h', Nat.zero_le _⟩
  | .lst ds, n, h => by
    obtain ⟨m, rfl, h⟩ := okB_lst h
    have q := pys_lay ds m h
    exact ⟨by simpa only [toPy, PyData.canLay0] using q.1, by simp only [toPy, PyData.depth]; omega⟩
  | .tup ds, n, h => by
    obtain ⟨m, rfl, h⟩ := okB_tup h
    have q := pys_lay ds m h
    exact ⟨by simpa only [toPy, PyData.canLay0] using q.1, by simp only [toPy, PyData.depth]; omega⟩
  | .obj _ _ _, n, h => by rw [okB_obj] at h; cases h
  | .scr _, n, h => by rw [okB_scr] at h; cases h
theorem pys_lay : ∀ (ds : List D) (n : Nat), ds.all (okB n) = true → PyData.canLayAll0 (toPys ds) = true ∧ PyData.depthAll (toPys ds) ≤ n
  | [], n, h => ⟨rfl, Nat.zero_le _⟩
  | d :: ds, n, h => by
    rw [List.all_cons, Bool.and_eq_true] at h
    have q1 := py_lay d n h.1
    have q2 := pys_lay ds n h.2
    refine ⟨by simp only [toPys, PyData.canLayAll0, q1.1, q2.1]; rfl, ?_⟩
    simp only [toPys, PyData.depthAll]
    omega
end
theorem py_shaped {d : D} (h : okB 12 d = true) : SeqAt.shaped (toPy d) = true := by
  have q := py_lay d 12 h
  unfold SeqAt.shaped
  rw [q.1, decide_eq_true (show PyData.depth (toPy d) ≤ 64 by omega)]
  rfl
mutual
theorem py_eqv : ∀ (d e : D) (n m : Nat), okB n d = true → okB m e = true → PyData.eqv (toPy d) (toPy e) = eqd d e
  | .lst xs, e, n, m, h, h' => by
    obtain ⟨k, rfl, h⟩ := okB_lst h
    cases e with
    | lst ys =>
      obtain ⟨k', rfl, h'⟩ := okB_lst h'
      simp only [toPy, PyData.eqv, eqd]
      exact pys_eqv xs ys k k' h h'
    | obj => rw [okB_obj] at h'; cases h'
    | scr => rw [okB_scr] at h'; cases h'
    | _ => simp only [toPy, PyData.eqv, eqd]
  | .tup xs, e, n, m, h, h' => by
    obtain ⟨k, rfl, h⟩ := okB_tup h
    cases e with
    | tup ys =>
      obtain ⟨k', rfl, h'⟩ := okB_tup h'
      simp only [toPy, PyData.eqv, eqd]
      exact pys_eqv xs ys k k' h h'
    | obj => rw [okB_obj] at h'; cases h'
    | scr => rw [okB_scr] at h'; cases h'
    | _ => simp only [toPy, PyData.eqv, eqd]
  | .non, e, n, m, h, h' => by
    cases e with
    | obj => rw [okB_obj] at h'; cases h'
    | scr => rw [okB_scr] at h'; cases h'
    | _ => simp only [toPy, PyData.eqv, eqd]
  | .bl _, e, n, m, h, h' => by
    cases e with
    | obj => rw [okB_obj] at h'; cases h'
    | scr => rw [okB_scr] at h'; cases h'
    | _ => simp only [toPy, PyData.eqv, eqd]
  | .int _, e, n, m, h, h' => by
    cases e with
    | obj => rw [okB_obj] at h'; cases h'
    | scr => rw [okB_scr] at h'; cases h'
    | _ => simp only [toPy, PyData.eqv, eqd]
  | .str _, e, n, m, h, h' => by
    cases e with
    | obj => rw [okB_obj] at h'; cases h'
    | scr => rw [okB_scr] at h'; cases h'
    | _ => simp only [toPy, PyData.eqv, eqd]
  | .obj _ _ _, e, n, m, h, h' => by rw [okB_obj] at h; cases h
  | .scr _, e, n, m, h, h' => by rw [okB_scr] at h; cases h
theorem pys_eqv : ∀ (xs ys : List D) (n m : Nat), xs.all (okB n) = true → ys.all (okB m) = true → PyData.eqvAll (toPys xs) (toPys ys) = eqds xs ys
  | [], ys, n, m, h, h' => by cases ys <;> simp only [toPys, PyData.eqvAll, eqds]
  | x :: xs, ys, n, m, h, h' => by
    cases ys with
    | nil => simp only [toPys, PyData.eqvAll, eqds]
    | cons y ys =>
      rw [List.all_cons, Bool.and_eq_true] at h h'
      simp only [toPys, PyData.eqvAll, eqds]
      rw [py_eqv x y n m h.1 h'.1, pys_eqv xs ys n m h.2 h'.2]
end
section
variable {g : Gx} {A : Addr → Prop} {H : Hp}
mutual
theorem rep_dp : ∀ (d : D) (n : Nat) (v : V), okB n d = true → Rep g A H d v → Dp g.K H v (toPy d)
  | .non, n, v, _, h => by simp only [Rep] at h; subst h; exact .non
  | .bl b, n, v, _, h => by simp only [Rep] at h; subst h; exact .bl b
  | .int b, n, v, _, h => by simp only [Rep] at h; subst h; exact .int b
  | .str b, n, v, _, h => by simp only [Rep] at h; subst h; exact .str b
  | .lst ds, n, v, k, h => by
    obtain ⟨m, rfl, k⟩ := okB_lst k
    simp only [Rep] at h
    obtain ⟨a, vs, rfl, _, s, r⟩ := h
    exact .lst (.inl (.inl s)) (reps_dp ds m vs k r)
  | .tup ds, n, v, k, h => by
    obtain ⟨m, rfl, k⟩ := okB_tup k
    simp only [Rep] at h
    obtain ⟨a, vs, rfl, _, s, r⟩ := h
    exact .tup s (reps_dp ds m vs k r)
  | .obj _ _ _, n, v, k, _ => by rw [okB_obj] at k; cases k
  | .scr _, n, v, k, _ => by rw [okB_scr] at k; cases k
theorem reps_dp : ∀ (ds : List D) (n : Nat) (vs : List V), ds.all (okB n) = true → Reps g A H ds vs → DpAll g.K H vs (toPys ds)
  | [], n, vs, _, h => by simp only [Reps] at h; subst h; exact .nil
  | d :: ds, n, vs, k, h => by
    rw [List.all_cons, Bool.and_eq_true] at k
    simp only [Reps] at h
    obtain ⟨v, r, rfl, h1, h2⟩ := h
    exact .cons (rep_dp d n v k.1 h1) (reps_dp ds n r k.2 h2)
end
theorem rdb_dp {d : D} {n : Nat} {v : V} (k : okB n d = true) (h : Rdb g A H d v) : Dp g.K H v (toPy d) := by
  cases d with
  | lst ds =>
    obtain ⟨m, rfl, k⟩ := okB_lst k
    obtain ⟨a, vs, rfl, s, r⟩ := h
    exact .lst (.inl (.inl s)) (reps_dp ds m vs k r)
  | obj => rw [okB_obj] at k; cases k
  | scr => rw [okB_scr] at k; cases k
  | non => exact rep_dp (A := A) _ n v k h
  | bl => exact rep_dp (A := A) _ n v k h
  | int => exact rep_dp (A := A) _ n v k h
  | str => exact rep_dp (A := A) _ n v k h
  | tup => exact rep_dp (A := A) _ n v k h
theorem rdb_int {i : Int} {v : V} (h : Rdb g A H (.int i) v) : v = .int i := by simpa only [Rdb, Rep] using h
theorem rdb_str {i : Str} {v : V} (h : Rdb g A H (.str i) v) : v = .str i := by simpa only [Rdb, Rep] using h
theorem rdb_bl {i : Bool} {v : V} (h : Rdb g A H (.bl i) v) : v = .bl i := by simpa only [Rdb, Rep] using h
theorem rdb_non {v : V} (h : Rdb g A H .non v) : v = .non := by simpa only [Rdb, Rep] using h
theorem rdb_tup {ds : List D} {v : V} (h : Rdb g A H (.tup ds) v) : ∃ a vs, v = .ref a ∧ ¬ A a ∧ SqT g.K H a vs ∧ Reps g A H ds vs := by simpa only [Rdb, Rep] using h
theorem rdb_scr {ns : List Int} {v : V} (h : Rdb g A H (.scr ns) v) : ∃ a, v = .ref a ∧ ¬ A a ∧ SqL g.K H a (ns.map V.int) := by simpa only [Rdb, Rep] using h
/-- flat data and flat values -/
theorem flat_rep : ∀ {d : D} {v : V}, flatD d = true → Rep g A H d v → flatV v = true ∧ ∀ {e : D} {w : V}, flatD e = true → Rep g A H e w → eqV v w = eqd d e := by
  intro d v hd h
  cases d with
  | non => simp only [Rep] at h; subst h; exact ⟨rfl, fun {e w} he q => by cases e <;> first | (simp only [Rep] at q; subst q; rfl) | (simp [flatD] at he)⟩
  | bl b => simp only [Rep] at h; subst h; exact ⟨rfl, fun {e w} he q => by cases e <;> first | (simp only [Rep] at q; subst q; rfl) | (simp [flatD] at he)⟩
  | int b => simp only [Rep] at h; subst h; exact ⟨rfl, fun {e w} he q => by cases e <;> first | (simp only [Rep] at q; subst q; rfl) | (simp [flatD] at he)⟩
  | str b => simp only [Rep] at h; subst h; exact ⟨rfl, fun {e w} he q => by cases e <;> first | (simp only [Rep] at q; subst q; rfl) | (simp [flatD] at he)⟩
  | _ => simp [flatD] at hd
theorem flat_reps : ∀ {ds : List D} {vs : List V} {e : D} {w : V}, ds.all flatD = true → Reps g A H ds vs → flatD e = true → Rep g A H e w → vs.all flatV = true ∧ inV w vs = ds.any fun y => eqd y e
  | [], _, _, _, _, h, _, _ => by simp only [Reps] at h; subst h; exact ⟨rfl, rfl⟩
  | d :: ds, _, e, w, k, h, ke, he => by
    rw [List.all_cons, Bool.and_eq_true] at k
    simp only [Reps] at h
    obtain ⟨v, r, rfl, h1, h2⟩ := h
    have q1 := flat_rep k.1 h1
    have q2 := flat_reps k.2 h2 ke he
    refine ⟨by rw [List.all_cons, q1.1, q2.1]; rfl, ?_⟩
    have q3 : (r.any fun y => eqV y w) = ds.any fun y => eqd y e := q2.2
    show ((v :: r).any fun y => eqV y w) = _
    rw [List.any_cons, List.any_cons, q1.2 ke he, q3]
theorem rdb_flat {d : D} {v : V} (k : flatD d = true) (h : Rdb g A H d v) : Rep g A H d v := by
  cases d <;> first | exact h | (simp [flatD] at k)
end

/-! ### the operators -/
/-- what an operation on data asks and gives -/
def rBin (g : Gx) (op : BOp) : R2 := fun x y H Q => ∃ A d e r, Rdb g A H d x ∧ Rdb g A H e y ∧ (∀ a, A a → H a ≠ none) ∧ binD op d e = some r ∧ ∀ v H', Same H H' → Res g A H H' r v → Q v H'
def opOf : BOp → Operator
  | .add => .Add | .sub => .Sub | .mul => .Mult | .fdiv => .FloorDiv | .mod => .Mod | .pow => .Pow
section
variable {X : Cx} {g : Gx}
theorem same_rfl (H : Hp) : Same H H := fun _ _ h => h
theorem new_lst {A : Addr → Prop} {H : Hp} {p : Addr} {ds : List D} {vs : List V} (np : H p = none) (hk : g.K.lookup p = none) (r : Reps g A H ds vs) : Res g A H (upd H p (.lst vs)) (.nw (.lst ds)) (.ref p) := by
  refine ⟨p, rfl, np, hk, vs, upd_same, reps_mono (fun a ⟨n, t⟩ => ⟨fun o h => same_new np a o h, fun z => ?_⟩) _ _ r⟩
  rcases z with z | z
  · exact n z
  · subst z
    rcases t with ⟨o, t⟩ | ⟨o, t⟩
    · rw [np] at t; cases t
    · rw [hk] at t; cases t
theorem new_tup {A : Addr → Prop} {H : Hp} {p : Addr} {ds : List D} {vs : List V} (np : H p = none) (tr : ∀ a, A a → H a ≠ none) (r : Reps g A H ds vs) : Res g A H (upd H p (.tup vs)) (.fz (.tup ds)) (.ref p) := by
  simp only [Res, Rep]
  exact ⟨p, vs, rfl, fun z => tr p z np, .inl (.inl upd_same), r.same (same_new np)⟩
theorem mulOk_of {i j : Int} (h : mulOk i j = true) : IntMulOk i j := by
  unfold mulOk at h
  simp only [Bool.or_eq_true, decide_eq_true_eq] at h
  rcases h with (h | h) | h
  · exact CMul.ok (.inl h)
  · exact CMul.ok (.inr h)
  · exact CMulW.ok h
theorem op_mulA : OpR X (binaryOp .Mult) (rI (fun i j => mulOk i j = true) fun i j => .int (i * j)) := opI fun _ _ _ _ _ _ _ hc q => PyProof.Rows.mul_int q (mulOk_of hc)
theorem op_bin (hK : X.K = g.K) (op : BOp) : OpR X (binaryOp (opOf op)) (rBin g op) := by
  have kfe : ∀ {H : Hp} {p : Addr} {o : HO}, (∀ a o, X.K.lookup a = some o → H a = none) → H p = some o → g.K.lookup p = none := fun h e => by rw [← hK]; exact kf_new h e
  cases op with
  | add =>
    refine OpR.weak (OpR.kf (op_add.or (op_add_str.or (op_cat.or op_catT)))) ?_
    rintro x y H Q ⟨A, d, e, r, hd, he, tr, hb, hQ⟩
    cases d <;> cases e <;> simp only [binD, reduceCtorEq, Option.ite_none_right_eq_some, Option.some.injEq] at hb
    · subst hb
      refine .inl ⟨_, _, rdb_int hd, rdb_int he, fun kf => hQ _ _ (same_rfl H) ?_⟩
      simp only [Res, Rep]
    · obtain ⟨hz, rfl⟩ := hb
      refine .inr (.inl ⟨_, _, rdb_str hd, rdb_str he, hz, fun kf => hQ _ _ (same_rfl H) ?_⟩)
      simp only [Res, Rep]
    · obtain ⟨hz, rfl⟩ := hb
      obtain ⟨a, vs, rfl, e1, r1⟩ := hd
      obtain ⟨b, ws, rfl, e2, r2⟩ := he
      refine .inr (.inr (.inl ⟨a, b, vs, ws, rfl, rfl, e1, e2, by rw [← r1.len, ← r2.len]; exact hz, fun p np kf => hQ _ _ (same_new np) (new_lst np (kfe kf upd_same) (r1.app r2))⟩))
    · obtain ⟨⟨hz, hne⟩, rfl⟩ := hb
      obtain ⟨a, vs, rfl, na, e1, r1⟩ := rdb_tup hd
      obtain ⟨b, ws, rfl, nb, e2, r2⟩ := rdb_tup he
      have l1 := r1.len
      have l2 := r2.len
      refine .inr (.inr (.inr ⟨a, b, vs, ws, rfl, rfl, by rw [hK]; exact e1, by rw [hK]; exact e2, fun z => ?_, by omega, fun z kf => hQ _ _ (same_rfl H) ?_, fun z p np kf => hQ _ _ (same_new np) (new_tup np tr (r1.app r2))⟩))
      · subst z
        exact hne (List.eq_nil_of_length_eq_zero l1)
      · subst z
        have : _ = [] := List.eq_nil_of_length_eq_zero l2
        subst this
        rw [List.append_nil]
        simp only [Res, Rep]
        exact ⟨a, vs, rfl, na, e1, r1⟩
  | sub =>
    refine OpR.weak (OpR.kf op_sub) ?_
    rintro x y H Q ⟨A, d, e, r, hd, he, tr, hb, hQ⟩
    cases d <;> cases e <;> simp only [binD, reduceCtorEq, Option.some.injEq] at hb
    subst hb
    exact ⟨_, _, rdb_int hd, rdb_int he, fun kf => hQ _ _ (same_rfl H) (by simp only [Res, Rep])⟩
  | mul =>
    refine OpR.weak (OpR.kf (op_mulA.or op_rep)) ?_
    rintro x y H Q ⟨A, d, e, r, hd, he, tr, hb, hQ⟩
    cases d <;> cases e <;> simp only [binD, reduceCtorEq, Option.ite_none_right_eq_some, Option.some.injEq] at hb
    · obtain ⟨hz, rfl⟩ := hb
      exact .inl ⟨_, _, rdb_int hd, rdb_int he, hz, fun kf => hQ _ _ (same_rfl H) (by simp only [Res, Rep])⟩
    · obtain ⟨⟨h1, h2, h3⟩, rfl⟩ := hb
      obtain ⟨a, vs, rfl, e1, r1⟩ := hd
      exact .inr ⟨a, _, vs, rfl, rdb_int he, e1, h1, h2, by rw [← r1.len]; exact h3, fun p np kf => hQ _ _ (same_new np) (new_lst np (kfe kf upd_same) (r1.repl _))⟩
  | fdiv =>
    refine OpR.weak (OpR.kf op_fdivW) ?_
    rintro x y H Q ⟨A, d, e, r, hd, he, tr, hb, hQ⟩
    cases d <;> cases e <;> simp only [binD, reduceCtorEq, Option.ite_none_right_eq_some, Option.some.injEq] at hb
    obtain ⟨hz, rfl⟩ := hb
    exact ⟨_, _, rdb_int hd, rdb_int he, hz, fun kf => hQ _ _ (same_rfl H) (by simp only [Res, Rep])⟩
  | mod =>
    refine OpR.weak (OpR.kf op_mod) ?_
    rintro x y H Q ⟨A, d, e, r, hd, he, tr, hb, hQ⟩
    cases d <;> cases e <;> simp only [binD, reduceCtorEq, Option.ite_none_right_eq_some, Option.some.injEq] at hb
    obtain ⟨hz, rfl⟩ := hb
    exact ⟨_, _, rdb_int hd, rdb_int he, hz, fun kf => hQ _ _ (same_rfl H) (by simp only [Res, Rep])⟩
  | pow =>
    refine OpR.weak (OpR.kf op_pow) ?_
    rintro x y H Q ⟨A, d, e, r, hd, he, tr, hb, hQ⟩
    cases d <;> cases e <;> simp only [binD, reduceCtorEq, Option.ite_none_right_eq_some, Option.some.injEq] at hb
    obtain ⟨hz, rfl⟩ := hb
    exact ⟨_, _, rdb_int hd, rdb_int he, hz, fun kf => hQ _ _ (same_rfl H) (by simp only [Res, Rep])⟩
def cmpOf : COp → CmpOp
  | .eq => .Eq | .ne => .NotEq | .lt => .Lt | .le => .LtE | .gt => .Gt | .ge => .GtE | .is => .Is | .isnot => .IsNot | .inn => .In | .notin => .NotIn
def rCmp (g : Gx) (op : COp) : R2 := fun x y H Q => ∃ A d e b, Rdb g A H d x ∧ Rdb g A H e y ∧ cmpD op d e = some b ∧ Q (.bl b) H
theorem rdb_isnon {A : Addr → Prop} {H : Hp} {d : D} {v : V} (h : Rdb g A H d v) : decide (v = .non) = isNonD d := by
  cases d with
  | non => rw [rdb_non h]; rfl
  | bl => rw [rdb_bl h]; rfl
  | int => rw [rdb_int h]; rfl
  | str => rw [rdb_str h]; rfl
  | lst => obtain ⟨a, vs, rfl, _⟩ := h; rfl
  | tup => obtain ⟨a, vs, rfl, _⟩ := rdb_tup h; rfl
  | obj => obtain ⟨a, dx, vs, rfl, _⟩ := h; rfl
  | scr => obtain ⟨a, rfl, _⟩ := rdb_scr h; rfl
theorem op_cmp (hK : X.K = g.K) (hu : X.A.units + 64 < cLine) (op : COp) : OpR X (compareOp (cmpOf op)) (rCmp g op) := by
  cases op with
  | eq =>
    refine OpR.weak (op_eqD hu) ?_
    rintro x y H Q ⟨A, d, e, b, hd, he, hb, hQ⟩
    simp only [cmpD, Option.ite_none_right_eq_some, Bool.and_eq_true, Option.some.injEq] at hb
    obtain ⟨⟨k1, k2⟩, rfl⟩ := hb
    rw [hK]
    exact ⟨toPy d, toPy e, rdb_dp k1 hd, rdb_dp k2 he, py_shaped k1, py_shaped k2, by rw [py_eqv d e 12 12 k1 k2]; exact hQ⟩
  | ne =>
    refine OpR.weak (op_neD hu) ?_
    rintro x y H Q ⟨A, d, e, b, hd, he, hb, hQ⟩
    simp only [cmpD, Option.ite_none_right_eq_some, Bool.and_eq_true, Option.some.injEq] at hb
    obtain ⟨⟨k1, k2⟩, rfl⟩ := hb
    rw [hK]
    exact ⟨toPy d, toPy e, rdb_dp k1 hd, rdb_dp k2 he, py_shaped k1, py_shaped k2, by rw [py_eqv d e 12 12 k1 k2]; exact hQ⟩
  | lt =>
    refine OpR.weak op_lt ?_
    rintro x y H Q ⟨A, d, e, b, hd, he, hb, hQ⟩
    cases d <;> cases e <;> simp only [cmpD, reduceCtorEq, Option.some.injEq] at hb
    subst hb
    exact ⟨_, _, rdb_int hd, rdb_int he, hQ⟩
  | le =>
    refine OpR.weak op_le ?_
    rintro x y H Q ⟨A, d, e, b, hd, he, hb, hQ⟩
    cases d <;> cases e <;> simp only [cmpD, reduceCtorEq, Option.some.injEq] at hb
    subst hb
    exact ⟨_, _, rdb_int hd, rdb_int he, hQ⟩
  | gt =>
    refine OpR.weak op_gt ?_
    rintro x y H Q ⟨A, d, e, b, hd, he, hb, hQ⟩
    cases d <;> cases e <;> simp only [cmpD, reduceCtorEq, Option.some.injEq] at hb
    subst hb
    exact ⟨_, _, rdb_int hd, rdb_int he, hQ⟩
  | ge =>
    refine OpR.weak op_ge ?_
    rintro x y H Q ⟨A, d, e, b, hd, he, hb, hQ⟩
    cases d <;> cases e <;> simp only [cmpD, reduceCtorEq, Option.some.injEq] at hb
    subst hb
    exact ⟨_, _, rdb_int hd, rdb_int he, hQ⟩
  | is =>
    refine OpR.weak op_isN ?_
    rintro x y H Q ⟨A, d, e, b, hd, he, hb, hQ⟩
    cases e <;> simp only [cmpD, reduceCtorEq, Option.some.injEq] at hb
    subst hb
    exact ⟨rdb_non he, by rw [rdb_isnon hd]; exact hQ⟩
  | isnot =>
    refine OpR.weak op_notN ?_
    rintro x y H Q ⟨A, d, e, b, hd, he, hb, hQ⟩
    cases e <;> simp only [cmpD, reduceCtorEq, Option.some.injEq] at hb
    subst hb
    refine ⟨rdb_non he, ?_⟩
    rw [rdb_isnon hd]
    exact hQ
  | inn =>
    refine OpR.weak op_in_seq ?_
    rintro x y H Q ⟨A, d, e, b, hd, he, hb, hQ⟩
    rw [hK]
    cases e <;> simp only [cmpD, reduceCtorEq, Option.ite_none_right_eq_some, Bool.and_eq_true, Option.some.injEq] at hb
    · obtain ⟨⟨k1, k2⟩, rfl⟩ := hb
      obtain ⟨a, vs, rfl, e1, r1⟩ := he
      have q := flat_reps k2 r1 k1 (rdb_flat k1 hd)
      exact ⟨a, vs, rfl, .inl (.inl (.inl e1)), (flat_rep k1 (rdb_flat k1 hd)).1, q.1, by rw [if_neg Bool.false_ne_true, q.2]; exact hQ⟩
    · obtain ⟨⟨k1, k2⟩, rfl⟩ := hb
      obtain ⟨a, vs, rfl, na, e1, r1⟩ := rdb_tup he
      have q := flat_reps k2 r1 k1 (rdb_flat k1 hd)
      exact ⟨a, vs, rfl, .inr e1, (flat_rep k1 (rdb_flat k1 hd)).1, q.1, by rw [if_neg Bool.false_ne_true, q.2]; exact hQ⟩
  | notin =>
    refine OpR.weak op_notIn_seq ?_
    rintro x y H Q ⟨A, d, e, b, hd, he, hb, hQ⟩
    rw [hK]
    cases e <;> simp only [cmpD, reduceCtorEq, Option.ite_none_right_eq_some, Bool.and_eq_true, Option.some.injEq] at hb
    · obtain ⟨⟨k1, k2⟩, rfl⟩ := hb
      obtain ⟨a, vs, rfl, e1, r1⟩ := he
      have q := flat_reps k2 r1 k1 (rdb_flat k1 hd)
      exact ⟨a, vs, rfl, .inl (.inl (.inl e1)), (flat_rep k1 (rdb_flat k1 hd)).1, q.1, by rw [if_pos rfl, q.2]; exact hQ⟩
    · obtain ⟨⟨k1, k2⟩, rfl⟩ := hb
      obtain ⟨a, vs, rfl, na, e1, r1⟩ := rdb_tup he
      have q := flat_reps k2 r1 k1 (rdb_flat k1 hd)
      exact ⟨a, vs, rfl, .inr e1, (flat_rep k1 (rdb_flat k1 hd)).1, q.1, by rw [if_pos rfl, q.2]; exact hQ⟩
end
end DV

namespace DV
open PySem L2
/-- what is asked of a context -/
structure Cok (g : Gx) (X : Cx) : Prop where
  K : X.K = g.K
  calm : X.calm = true
  hu : X.A.units + 64 < cLine
  nd : X.N.Nodup
def tR (g : Gx) (fs : List FS) (ie : E) : TE := fun σ H Q => ∃ Bn Ow Γ r Γ', RS g Bn Ow H σ Γ ∧ ev fs ie Γ = some (r, Γ') ∧ ∀ v H' Ow', Stp Ow H Ow' H' → RS g Bn Ow' H' σ Γ' → Val g Bn Ow' H' σ Γ' r v → Q v H'
def tT (g : Gx) (fs : List FS) (ie : E) : TT := fun σ H Q => ∃ Bn Ow Γ r Γ' t, RS g Bn Ow H σ Γ ∧ ev fs ie Γ = some (r, Γ') ∧ testD Γ' r = some t ∧ ∀ H' Ow', Stp Ow H Ow' H' → RS g Bn Ow' H' σ Γ' → Q t H'
/-- values by results -/
def Vls (g : Gx) (Bn : Addr → Prop) (Ow : List Addr) (H : Hp) (σ : St) (Γ : Ct) : List RV → List V → Prop
  | [], vs => vs = []
  | x :: xs, vs => ∃ v r, vs = v :: r ∧ Val g Bn Ow H σ Γ x.dn v ∧ Vls g Bn Ow H σ Γ xs r
def tAs (g : Gx) (fs : List FS) (es : List E) : TA := fun σ H Q => ∃ Bn Ow Γ xs Γ', RS g Bn Ow H σ Γ ∧ evs fs es Γ = some (xs, Γ') ∧ ∀ vs H' Ow', Stp Ow H Ow' H' → RS g Bn Ow' H' σ Γ' → Vls g Bn Ow' H' σ Γ' xs vs → Q vs H'
section
variable {X : Cx} {g : Gx} {fs : List FS} {Bn : Addr → Prop} {Ow Ow' : List Addr} {H H' : Hp} {σ : St} {Γ Γ' Γ1 Γ2 : Ct} {a b c : Expr} {ia ib ic : E} {pos : Pos}
theorem Vls.step : ∀ {xs : List RV} {vs : List V}, Vls g Bn Ow H σ Γ xs vs → Stp Ow H Ow' H' → RS g Bn Ow' H' σ Γ' → Vls g Bn Ow' H' σ Γ' xs vs
  | [], _, h, _, _ => h
  | x :: xs, _, ⟨v, r, e, h1, h2⟩, s, q => ⟨v, r, e, h1.step s q, Vls.step h2 s q⟩
theorem Vls.len : ∀ {xs : List RV} {vs : List V}, Vls g Bn Ow H σ Γ xs vs → xs.length = vs.length
  | [], _, h => by have h : _ = [] := h; subst h; rfl
  | x :: xs, _, ⟨v, r, e, h1, h2⟩ => by subst e; rw [List.length_cons, List.length_cons, h2.len]
theorem fres_ok : ∀ {xs : List RV} {vs : List V} {ds : List D} {Ow : List Addr} {Γ Γ' : Ct}, RS g Bn Ow H σ Γ → Vls g Bn Ow H σ Γ xs vs → fres xs Γ = some (ds, Γ') → ∃ Ow', Stp Ow H Ow' H ∧ RS g Bn Ow' H σ Γ' ∧ Reps g (Av Bn Ow') H ds vs
  | [], _, ds, Ow, Γ, Γ', rs, h, e => by
    have h : _ = [] := h
    subst h
    simp only [fres, Option.some.injEq, Prod.mk.injEq] at e
    obtain ⟨rfl, rfl⟩ := e
    exact ⟨Ow, .refl _ _, rs, by simp only [Reps]⟩
  | x :: xs, _, ds, Ow, Γ, Γ', rs, ⟨v, r, e0, h1, h2⟩, e => by
    subst e0
    simp only [fres] at e
    obtain ⟨⟨d, Γ1⟩, e1, e⟩ := Option.bind_eq_some_iff.mp e
    obtain ⟨⟨es, Γ2⟩, e2, e⟩ := Option.map_eq_some_iff.mp e
    simp only [Prod.mk.injEq] at e
    obtain ⟨rfl, rfl⟩ := e
    rw [← fre_dn] at e1
    obtain ⟨O1, s1, r1, p1⟩ := fre_ok rs h1 e1
    obtain ⟨O2, s2, r2, p2⟩ := fres_ok r1 (h2.step s1 r1) e2
    refine ⟨O2, s1.trans s2, r2, ?_⟩
    simp only [Reps]
    exact ⟨v, r, rfl, p1.step s2 r2, p2⟩
theorem datums_ok : ∀ {xs : List RV} {vs : List V} {ds : List D}, RS g Bn Ow H σ Γ → Vls g Bn Ow H σ Γ xs vs → datums Γ xs = some ds → Paired (fun d v => Rdb g (Av Bn Ow) H d v) ds vs
  | [], _, ds, rs, h, e => by
    have h : _ = [] := h
    subst h
    simp only [datums, Option.some.injEq] at e
    subst e
    exact .nil
  | x :: xs, _, ds, rs, ⟨v, r, e0, h1, h2⟩, e => by
    subst e0
    simp only [datums] at e
    obtain ⟨d, e1, e⟩ := Option.bind_eq_some_iff.mp e
    obtain ⟨es, e2, rfl⟩ := Option.map_eq_some_iff.mp e
    rw [← datum_dn] at e1
    exact .cons (h1.rdb rs e1) (datums_ok rs h2 e2)

theorem tR_one {x : RV} {Q : VK} (rs : RS g Bn Ow H σ Γ) (e1 : ev fs ia Γ = some (x, Γ1)) (k : ∀ v H1 Ow1, Stp Ow H Ow1 H1 → RS g Bn Ow1 H1 σ Γ1 → Val g Bn Ow1 H1 σ Γ1 x.dn v → Q v H1) : tR g fs ia σ H Q :=
  ⟨Bn, Ow, Γ, x, Γ1, rs, e1, fun v H' Ow' s r val => let ⟨O2, s2, r2, v2⟩ := dn_ok r val; k v H' O2 (s.trans s2) r2 v2⟩
theorem tR_two {x y : RV} {R : V → V → Hp → Prop} (rs : RS g Bn Ow H σ Γ) (e1 : ev fs ia Γ = some (x, Γ1)) (e2 : ev fs ib Γ1 = some (y, Γ2))
    (k : ∀ v w H2 Ow2, Stp Ow H Ow2 H2 → RS g Bn Ow2 H2 σ Γ2 → Val g Bn Ow2 H2 σ Γ2 x.dn v → Val g Bn Ow2 H2 σ Γ2 y.dn w → R v w H2) : tR g fs ia σ H fun v H1 => tR g fs ib σ H1 fun w H2 => R v w H2 :=
  tR_one rs e1 fun v H1 O1 s1 r1 v1 => tR_one r1 e2 fun w H2 O2 s2 r2 w2 => k v w H2 O2 (s1.trans s2) r2 (v1.step s2 r2) w2

/-! ### names, constants -/
theorem p_stuck {e : Expr} : PE X e (tR g fs .stuck) := ⟨fun _ _ _ _ _ _ ⟨_, _, _, _, _, _, h, _⟩ => by simp only [ev, reduceCtorEq] at h⟩
theorem t_stuck {e : Expr} : PT X e (tT g fs .stuck) := ⟨fun _ _ _ _ _ _ ⟨_, _, _, _, _, _, _, h, _⟩ => by simp only [ev, reduceCtorEq] at h⟩
theorem p_var {i : Nat} (h : PE X a (tVar i)) : PE X a (tR g fs (.var i)) := by
  refine PE.weak h ?_
  rintro σ H Q ⟨Bn, Ow, Γ, r, Γ', rs, he, hQ⟩
  simp only [ev] at he
  split at he
  · rename_i p q
    simp only [Option.some.injEq, Prod.mk.injEq] at he
    obtain ⟨rfl, rfl⟩ := he
    obtain ⟨d, b⟩ := p
    have : ∃ v, σ[i]? = some (some v) := by
      cases b with
      | false => obtain ⟨v, e, _⟩ := rs.slot i d q; exact ⟨v, e⟩
      | true => obtain ⟨v, e, _⟩ := rs.own i d q; exact ⟨_, e⟩
    obtain ⟨v, e⟩ := this
    exact ⟨v, e, hQ v H Ow (.refl _ _) rs e⟩
  · cases he
/-- a constant; what stands for it may lean on the written part -/
theorem p_cst {d : D} {v : V} (h : PE X a (tC v)) (hK : X.K = g.K) (k : ∀ A H, (∀ a, A a → g.K.lookup a = none) → Rep g A H d v) : PE X a (tR g fs (.cst d)) := by
  refine PE.weak h ?_
  rintro σ H Q ⟨Bn, Ow, Γ, r, Γ', rs, he, hQ⟩
  simp only [ev, Option.some.injEq, Prod.mk.injEq] at he
  obtain ⟨rfl, rfl⟩ := he
  exact hQ v H Ow (.refl _ _) rs (k _ H rs.kf)

/-! ### operators -/
theorem p_bin {op : BOp} (C : Cok g X) (ha : PE X a (tR g fs ia)) (hb : PE X b (tR g fs ib)) : PE X (.BinOp a (opOf op) b pos) (tR g fs (.bin op ia ib)) := by
  refine PE.weak (pe_op (op_bin C.K op) ha hb) ?_
  rintro σ H Q ⟨Bn, Ow, Γ, r, Γ', rs, he, hQ⟩
  simp only [ev] at he
  obtain ⟨⟨x, Γ1⟩, e1, he⟩ := Option.bind_eq_some_iff.mp he
  obtain ⟨⟨y, Γ2⟩, e2, he⟩ := Option.bind_eq_some_iff.mp he
  obtain ⟨d, ed, he⟩ := Option.bind_eq_some_iff.mp he
  obtain ⟨e, ee, he⟩ := Option.bind_eq_some_iff.mp he
  obtain ⟨r', hb, he⟩ := Option.map_eq_some_iff.mp he
  simp only [Prod.mk.injEq] at he
  obtain ⟨rfl, rfl⟩ := he
  rw [← datum_dn] at ed ee
  exact tR_two rs e1 e2 fun v w H2 O2 s2 r2 v2 w2 => ⟨Av Bn O2, d, e, _, v2.rdb r2 ed, w2.rdb r2 ee, r2.trk, hb, fun v' H' sm res => let ⟨O3, s3, r3, val⟩ := res.val r2 sm; hQ v' H' O3 (s2.trans s3) r3 val⟩
theorem p_neg (ha : PE X a (tR g fs ia)) : PE X (.UnaryOp .USub a pos) (tR g fs (.neg ia)) := by
  refine PE.weak (pe_un un_neg ha) ?_
  rintro σ H Q ⟨Bn, Ow, Γ, r, Γ', rs, he, hQ⟩
  simp only [ev] at he
  obtain ⟨⟨x, Γ1⟩, e1, he⟩ := Option.bind_eq_some_iff.mp he
  obtain ⟨d, ed, he⟩ := Option.bind_eq_some_iff.mp he
  rw [← datum_dn] at ed
  refine tR_one rs e1 fun v H1 O1 s1 r1 v1 => ?_
  have q := v1.rdb r1 ed
  cases d <;> simp only [reduceCtorEq, Option.some.injEq, Prod.mk.injEq] at he
  obtain ⟨rfl, rfl⟩ := he
  exact ⟨_, rdb_int q, hQ _ H1 O1 s1 r1 (by simp only [Val, Rep])⟩
theorem cmp_core {op : COp} {Q : VK} (rs : RS g Bn Ow H σ Γ) {r : RV} (he : ev fs (.cmp op ia ib) Γ = some (r, Γ')) (hQ : ∀ v H' Ow', Stp Ow H Ow' H' → RS g Bn Ow' H' σ Γ' → Val g Bn Ow' H' σ Γ' r v → Q v H') :
    tOp (rCmp g op) (tR g fs ia) (tR g fs ib) σ H Q := by
  simp only [ev] at he
  obtain ⟨⟨x, Γ1⟩, e1, he⟩ := Option.bind_eq_some_iff.mp he
  obtain ⟨⟨y, Γ2⟩, e2, he⟩ := Option.bind_eq_some_iff.mp he
  obtain ⟨d, ed, he⟩ := Option.bind_eq_some_iff.mp he
  obtain ⟨e, ee, he⟩ := Option.bind_eq_some_iff.mp he
  obtain ⟨r', hb, he⟩ := Option.map_eq_some_iff.mp he
  simp only [Prod.mk.injEq] at he
  obtain ⟨rfl, rfl⟩ := he
  rw [← datum_dn] at ed ee
  exact tR_two rs e1 e2 fun v w H2 O2 s2 r2 v2 w2 => ⟨Av Bn O2, d, e, r', v2.rdb r2 ed, w2.rdb r2 ee, hb, hQ _ H2 O2 s2 r2 (by simp only [Val, Rep])⟩
theorem p_cmp {op : COp} (C : Cok g X) (ha : PE X a (tR g fs ia)) (hb : PE X b (tR g fs ib)) (hm : behindInMarks (cmpOf op) b = false) : PE X (.Compare a [cmpOf op] [b] pos) (tR g fs (.cmp op ia ib)) := by
  refine PE.weak (pe_cmpR (op_cmp C.K C.hu op) ha hb hm) ?_
  rintro σ H Q ⟨Bn, Ow, Γ, r, Γ', rs, he, hQ⟩
  exact cmp_core rs he hQ
theorem t_cmp {op : COp} (C : Cok g X) (ha : PE X a (tR g fs ia)) (hb : PE X b (tR g fs ib)) (hm : behindInMarks (cmpOf op) b = false) : PT X (.Compare a [cmpOf op] [b] pos) (tT g fs (.cmp op ia ib)) := by
  refine PT.weak (pt_cmpR (op_cmp C.K C.hu op) ha hb hm) ?_
  rintro σ H Q ⟨Bn, Ow, Γ, r, Γ', t, rs, he, ht, hQ⟩
  refine cmp_core rs he fun v H1 O1 s1 r1 v1 => ?_
  simp only [ev] at he
  obtain ⟨⟨x, Γ1⟩, e1, he⟩ := Option.bind_eq_some_iff.mp he
  obtain ⟨⟨y, Γ2⟩, e2, he⟩ := Option.bind_eq_some_iff.mp he
  obtain ⟨d, ed, he⟩ := Option.bind_eq_some_iff.mp he
  obtain ⟨e, ee, he⟩ := Option.bind_eq_some_iff.mp he
  obtain ⟨r', hb, he⟩ := Option.map_eq_some_iff.mp he
  simp only [Prod.mk.injEq] at he
  obtain ⟨rfl, rfl⟩ := he
  simp only [testD, datum, Option.bind_some, truthD, Option.some.injEq] at ht
  subst ht
  simp only [Val, Rep] at v1
  exact ⟨r', v1, hQ H1 O1 s1 r1⟩
theorem chain_core {o1 o2 : COp} {Q : VK} (rs : RS g Bn Ow H σ Γ) {r : RV} (he : ev fs (.chain o1 o2 ia ib ic) Γ = some (r, Γ')) (hQ : ∀ v H' Ow' (k : Bool), Stp Ow H Ow' H' → RS g Bn Ow' H' σ Γ' → v = .bl k → r = .fz (.bl k) → Q v H') :
    tChain (rCmp g o1) (rCmp g o2) (tR g fs ia) (tR g fs ib) (tR g fs ic) σ H Q := by
  simp only [ev] at he
  obtain ⟨⟨x, Γ1⟩, e1, he⟩ := Option.bind_eq_some_iff.mp he
  obtain ⟨⟨y, Γ2⟩, e2, he⟩ := Option.bind_eq_some_iff.mp he
  obtain ⟨d, ed, he⟩ := Option.bind_eq_some_iff.mp he
  obtain ⟨e, ee, he⟩ := Option.bind_eq_some_iff.mp he
  obtain ⟨k, hb, he⟩ := Option.bind_eq_some_iff.mp he
  rw [← datum_dn] at ed ee
  refine tR_two rs e1 e2 fun v w H2 O2 s2 r2 v2 w2 => ⟨Av Bn O2, d, e, k, v2.rdb r2 ed, w2.rdb r2 ee, hb, k, rfl, ?_⟩
  cases k with
  | false =>
    simp only [Bool.false_eq_true, if_false, Option.some.injEq, Prod.mk.injEq] at he ⊢
    obtain ⟨rfl, rfl⟩ := he
    exact hQ _ H2 O2 false s2 r2 rfl rfl
  | true =>
    simp only [if_true] at he ⊢
    obtain ⟨⟨z, Γ3⟩, e3, he⟩ := Option.bind_eq_some_iff.mp he
    obtain ⟨e', ee', he⟩ := Option.bind_eq_some_iff.mp he
    obtain ⟨f, ef, he⟩ := Option.bind_eq_some_iff.mp he
    obtain ⟨k', hb', he⟩ := Option.map_eq_some_iff.mp he
    simp only [Prod.mk.injEq] at he
    obtain ⟨rfl, rfl⟩ := he
    rw [← datum_dn] at ee' ef
    exact tR_one r2 e3 fun u H3 O3 s3 r3 u3 => ⟨Av Bn O3, e', f, k', (w2.step s3 r3).rdb r3 ee', u3.rdb r3 ef, hb', hQ _ H3 O3 k' (s2.trans s3) r3 rfl rfl⟩
theorem p_chain {o1 o2 : COp} (C : Cok g X) (ha : PE X a (tR g fs ia)) (hb : PE X b (tR g fs ib)) (hc : PE X c (tR g fs ic)) (hm : lastMarks [cmpOf o1, cmpOf o2] [b, c] = false) : PE X (.Compare a [cmpOf o1, cmpOf o2] [b, c] pos) (tR g fs (.chain o1 o2 ia ib ic)) := by
  refine PE.weak (pe_chain (op_cmp C.K C.hu o1) (op_cmp C.K C.hu o2) ha hb hc hm) ?_
  rintro σ H Q ⟨Bn, Ow, Γ, r, Γ', rs, he, hQ⟩
  exact chain_core rs he fun v H1 O1 k s1 r1 e1 e2 => hQ v H1 O1 s1 r1 (by subst e1 e2; simp only [Val, Rep])
theorem t_chain {o1 o2 : COp} (C : Cok g X) (ha : PE X a (tR g fs ia)) (hb : PE X b (tR g fs ib)) (hc : PE X c (tR g fs ic)) (hm : lastMarks [cmpOf o1, cmpOf o2] [b, c] = false) : PT X (.Compare a [cmpOf o1, cmpOf o2] [b, c] pos) (tT g fs (.chain o1 o2 ia ib ic)) := by
  refine PT.weak (pt_chain (op_cmp C.K C.hu o1) (op_cmp C.K C.hu o2) ha hb hc hm) ?_
  rintro σ H Q ⟨Bn, Ow, Γ, r, Γ', t, rs, he, ht, hQ⟩
  refine chain_core rs he fun v H1 O1 k s1 r1 e1 e2 => ⟨k, e1, ?_⟩
  subst e2
  simp only [testD, datum, Option.bind_some, truthD, Option.some.injEq] at ht
  subst ht
  exact hQ H1 O1 s1 r1

/-! ### truth -/
theorem truth_v {A : Addr → Prop} {d : D} {v : V} {k : Bool} (h : Rdb g A H d v) (e : truthD d = some k) : TruV g.K v H k := by
  cases d with
  | non => rw [rdb_non h]; simp only [truthD, Option.some.injEq] at e; exact e.symm
  | bl b => rw [rdb_bl h]; simp only [truthD, Option.some.injEq] at e; exact e.symm
  | int b => rw [rdb_int h]; simp only [truthD, Option.some.injEq] at e; exact e.symm
  | str b => rw [rdb_str h]; simp only [truthD, Option.ite_none_right_eq_some, Option.some.injEq] at e; exact ⟨e.1, e.2.symm⟩
  | lst ds =>
    obtain ⟨a, vs, rfl, e1, r⟩ := h
    simp only [truthD, Option.some.injEq] at e
    refine .inl ⟨vs, .inl (.inl e1), ?_⟩
    have l := r.len
    rw [← e]
    cases ds <;> cases vs <;> simp at l <;> rfl
  | tup ds =>
    obtain ⟨a, vs, rfl, _, e1, r⟩ := rdb_tup h
    simp only [truthD, Option.some.injEq] at e
    refine .inr (.inl ⟨vs, e1, ?_⟩)
    have l := r.len
    rw [← e]
    cases ds <;> cases vs <;> simp at l <;> rfl
  | obj => simp only [truthD, reduceCtorEq] at e
  | scr ns =>
    obtain ⟨a, rfl, _, e1⟩ := rdb_scr h
    simp only [truthD, Option.some.injEq] at e
    refine .inl ⟨_, e1, ?_⟩
    rw [← e]
    cases ns <;> rfl
theorem test_v {x : RV} {v : V} {k : Bool} (rs : RS g Bn Ow H σ Γ) (h : Val g Bn Ow H σ Γ x v) (e : testD Γ x = some k) : TruV g.K v H k := by
  unfold testD at e
  obtain ⟨d, e1, e2⟩ := Option.bind_eq_some_iff.mp e
  exact truth_v (h.rdb rs e1) e2
theorem t_val (C : Cok g X) (ha : PE X a (tR g fs ia)) (he : ∀ whole, isTrue a X.env whole = (do let v ← whole; standAt a.pos; holding [v] (truthy v))) : PT X a (tT g fs ia) := by
  refine PT.weak (pt_truth ha he) ?_
  rintro σ H Q ⟨Bn, Ow, Γ, r, Γ', t, rs, he, ht, hQ⟩
  exact ⟨Bn, Ow, Γ, r, Γ', rs, he, fun v H1 O1 s1 r1 v1 => ⟨t, by rw [C.K]; exact test_v r1 v1 ht, hQ H1 O1 s1 r1⟩⟩
theorem p_and {rest : List Expr} (C : Cok g X) (ha : PE X a (tR g fs ia)) (hb : PE X (.BoolOp .And (b :: rest) pos) (tR g fs ib)) : PE X (.BoolOp .And (a :: b :: rest) pos) (tR g fs (.and ia ib)) := by
  refine PE.weak (pe_andT ha hb) ?_
  rintro σ H Q ⟨Bn, Ow, Γ, r, Γ', rs, he, hQ⟩
  simp only [ev] at he
  obtain ⟨⟨x, Γ1⟩, e1, he⟩ := Option.bind_eq_some_iff.mp he
  obtain ⟨t, et, he⟩ := Option.bind_eq_some_iff.mp he
  refine ⟨Bn, Ow, Γ, x, Γ1, rs, e1, fun v H1 O1 s1 r1 v1 => ⟨t, by rw [C.K]; exact test_v r1 v1 et, ?_⟩⟩
  cases t with
  | false =>
    simp only [Bool.false_eq_true, if_false, Option.some.injEq, Prod.mk.injEq] at he ⊢
    obtain ⟨rfl, rfl⟩ := he
    exact hQ v H1 O1 s1 r1 v1
  | true =>
    simp only [if_true] at he ⊢
    exact ⟨Bn, O1, Γ1, r, Γ', r1, he, fun w H2 O2 s2 r2 w2 => hQ w H2 O2 (s1.trans s2) r2 w2⟩
theorem p_or {rest : List Expr} (C : Cok g X) (ha : PE X a (tR g fs ia)) (hb : PE X (.BoolOp .Or (b :: rest) pos) (tR g fs ib)) : PE X (.BoolOp .Or (a :: b :: rest) pos) (tR g fs (.or ia ib)) := by
  refine PE.weak (pe_orT ha hb) ?_
  rintro σ H Q ⟨Bn, Ow, Γ, r, Γ', rs, he, hQ⟩
  simp only [ev] at he
  obtain ⟨⟨x, Γ1⟩, e1, he⟩ := Option.bind_eq_some_iff.mp he
  obtain ⟨t, et, he⟩ := Option.bind_eq_some_iff.mp he
  refine ⟨Bn, Ow, Γ, x, Γ1, rs, e1, fun v H1 O1 s1 r1 v1 => ⟨t, by rw [C.K]; exact test_v r1 v1 et, ?_⟩⟩
  cases t with
  | true =>
    simp only [if_true, Option.some.injEq, Prod.mk.injEq] at he ⊢
    obtain ⟨rfl, rfl⟩ := he
    exact hQ v H1 O1 s1 r1 v1
  | false =>
    simp only [Bool.false_eq_true, if_false] at he ⊢
    exact ⟨Bn, O1, Γ1, r, Γ', r1, he, fun w H2 O2 s2 r2 w2 => hQ w H2 O2 (s1.trans s2) r2 w2⟩
theorem p_one {op} (ha : PE X a (tR g fs ia)) : PE X (.BoolOp op [a] pos) (tR g fs ia) := pe_one ha
theorem w_and1 (ha : PT X a (tT g fs ia)) : PW X (.BoolOp .And [a] pos) (tT g fs ia) := pw_and1 ha
theorem w_or1 (ha : PT X a (tT g fs ia)) : PW X (.BoolOp .Or [a] pos) (tT g fs ia) := pw_or1 ha
theorem PW.weak {e : Expr} {t t' : TT} (h : PW X e t) (k : ∀ σ H Q, t' σ H Q → t σ H Q) : PW X e t' := ⟨fun w pins s σ H Q I q => h.run w pins s σ H Q I (k σ H Q q)⟩
theorem w_and {rest : List Expr} (ha : PT X a (tT g fs ia)) (hb : PW X (.BoolOp .And (b :: rest) pos) (tT g fs ib)) : PW X (.BoolOp .And (a :: b :: rest) pos) (tT g fs (.and ia ib)) := by
  refine PW.weak (pw_and ha hb) ?_
  rintro σ H Q ⟨Bn, Ow, Γ, r, Γ', t', rs, he, ht, hQ⟩
  simp only [ev] at he
  obtain ⟨⟨x, Γ1⟩, e1, he⟩ := Option.bind_eq_some_iff.mp he
  obtain ⟨t, et, he⟩ := Option.bind_eq_some_iff.mp he
  refine ⟨Bn, Ow, Γ, x, Γ1, t, rs, e1, et, fun H1 O1 s1 r1 => ?_⟩
  cases t with
  | false =>
    simp only [Bool.false_eq_true, if_false, Option.some.injEq, Prod.mk.injEq] at he ⊢
    obtain ⟨rfl, rfl⟩ := he
    rw [et] at ht; cases ht
    exact hQ H1 O1 s1 r1
  | true =>
    simp only [if_true] at he ⊢
    exact ⟨Bn, O1, Γ1, r, Γ', t', r1, he, ht, fun H2 O2 s2 r2 => hQ H2 O2 (s1.trans s2) r2⟩
theorem w_or {rest : List Expr} (ha : PT X a (tT g fs ia)) (hb : PW X (.BoolOp .Or (b :: rest) pos) (tT g fs ib)) : PW X (.BoolOp .Or (a :: b :: rest) pos) (tT g fs (.or ia ib)) := by
  refine PW.weak (pw_or ha hb) ?_
  rintro σ H Q ⟨Bn, Ow, Γ, r, Γ', t', rs, he, ht, hQ⟩
  simp only [ev] at he
  obtain ⟨⟨x, Γ1⟩, e1, he⟩ := Option.bind_eq_some_iff.mp he
  obtain ⟨t, et, he⟩ := Option.bind_eq_some_iff.mp he
  refine ⟨Bn, Ow, Γ, x, Γ1, t, rs, e1, et, fun H1 O1 s1 r1 => ?_⟩
  cases t with
  | true =>
    simp only [if_true, Option.some.injEq, Prod.mk.injEq] at he ⊢
    obtain ⟨rfl, rfl⟩ := he
    rw [et] at ht; cases ht
    exact hQ H1 O1 s1 r1
  | false =>
    simp only [Bool.false_eq_true, if_false] at he ⊢
    exact ⟨Bn, O1, Γ1, r, Γ', t', r1, he, ht, fun H2 O2 s2 r2 => hQ H2 O2 (s1.trans s2) r2⟩
theorem p_not (C : Cok g X) (ha : PE X a (tR g fs ia)) : PE X (.UnaryOp .Not a pos) (tR g fs (.not ia)) := by
  refine PE.weak (pe_notT ha) ?_
  rintro σ H Q ⟨Bn, Ow, Γ, r, Γ', rs, he, hQ⟩
  simp only [ev] at he
  obtain ⟨⟨x, Γ1⟩, e1, he⟩ := Option.bind_eq_some_iff.mp he
  obtain ⟨t, et, he⟩ := Option.map_eq_some_iff.mp he
  simp only [Prod.mk.injEq] at he
  obtain ⟨rfl, rfl⟩ := he
  exact ⟨Bn, Ow, Γ, x, Γ1, rs, e1, fun v H1 O1 s1 r1 v1 => ⟨t, by rw [C.K]; exact test_v r1 v1 et, hQ _ H1 O1 s1 r1 (by simp only [Val, Rep])⟩⟩
theorem t_not (ha : PT X a (tT g fs ia)) : PT X (.UnaryOp .Not a pos) (tT g fs (.not ia)) := by
  refine PT.weak (pt_not ha) ?_
  rintro σ H Q ⟨Bn, Ow, Γ, r, Γ', t', rs, he, ht, hQ⟩
  simp only [ev] at he
  obtain ⟨⟨x, Γ1⟩, e1, he⟩ := Option.bind_eq_some_iff.mp he
  obtain ⟨t, et, he⟩ := Option.map_eq_some_iff.mp he
  simp only [Prod.mk.injEq] at he
  obtain ⟨rfl, rfl⟩ := he
  simp only [testD, datum, Option.bind_some, truthD, Option.some.injEq] at ht
  subst ht
  exact ⟨Bn, Ow, Γ, x, Γ1, t, rs, e1, et, fun H1 O1 s1 r1 => hQ H1 O1 s1 r1⟩
theorem p_ite (hc : PT X c (tT g fs ic)) (ha : PE X a (tR g fs ia)) (hb : PE X b (tR g fs ib)) : PE X (.IfExp c a b pos) (tR g fs (.ite ic ia ib)) := by
  refine PE.weak (pe_ifExp hc ha hb) ?_
  rintro σ H Q ⟨Bn, Ow, Γ, r, Γ', rs, he, hQ⟩
  simp only [ev] at he
  obtain ⟨⟨x, Γ1⟩, e1, he⟩ := Option.bind_eq_some_iff.mp he
  obtain ⟨t, et, he⟩ := Option.bind_eq_some_iff.mp he
  refine ⟨Bn, Ow, Γ, x, Γ1, t, rs, e1, et, fun H1 O1 s1 r1 => ?_⟩
  cases t with
  | true =>
    simp only [if_true] at he ⊢
    exact ⟨Bn, O1, Γ1, r, Γ', r1, he, fun w H2 O2 s2 r2 w2 => hQ w H2 O2 (s1.trans s2) r2 w2⟩
  | false =>
    simp only [Bool.false_eq_true, if_false] at he ⊢
    exact ⟨Bn, O1, Γ1, r, Γ', r1, he, fun w H2 O2 s2 r2 w2 => hQ w H2 O2 (s1.trans s2) r2 w2⟩

/-! ### argument lists, displays, subscripts -/
theorem a_nil : PA X [] (tAs g fs []) := by
  refine PA.weak pa_nil ?_
  rintro σ H Q ⟨Bn, Ow, Γ, xs, Γ', rs, he, hQ⟩
  simp only [evs, Option.some.injEq, Prod.mk.injEq] at he
  obtain ⟨rfl, rfl⟩ := he
  exact hQ [] H Ow (.refl _ _) rs rfl
theorem a_cons {es : List Expr} {ies : List E} (ha : PE X a (tR g fs ia)) (hr : PA X es (tAs g fs ies)) (hs : starEach (a :: es) X.env = (false, eval a X.env) :: starEach es X.env) : PA X (a :: es) (tAs g fs (ia :: ies)) := by
  refine PA.weak (pa_cons ha hr hs) ?_
  rintro σ H Q ⟨Bn, Ow, Γ, xs, Γ', rs, he, hQ⟩
  simp only [evs] at he
  obtain ⟨⟨x, Γ1⟩, e1, he⟩ := Option.bind_eq_some_iff.mp he
  obtain ⟨⟨ys, Γ2⟩, e2, he⟩ := Option.map_eq_some_iff.mp he
  simp only [Prod.mk.injEq] at he
  obtain ⟨rfl, rfl⟩ := he
  exact tR_one rs e1 fun v H1 O1 s1 r1 v1 => ⟨Bn, O1, Γ1, ys, Γ2, r1, e2, fun vs H2 O2 s2 r2 w2 => hQ (v :: vs) H2 O2 (s1.trans s2) r2 ⟨v, vs, rfl, v1.step s2 r2, w2⟩⟩
theorem p_tup {es : List Expr} {ies : List E} {k : Nat} (C : Cok g X) (h : PA X es (tAs g fs ies)) : PE X (.Tuple es k pos) (tR g fs (.tup ies)) := by
  refine PE.weak (PE.kf (pe_tup h)) ?_
  rintro σ H Q ⟨Bn, Ow, Γ, r, Γ', rs, he, hQ⟩
  simp only [ev] at he
  obtain ⟨⟨xs, Γ1⟩, e1, he⟩ := Option.bind_eq_some_iff.mp he
  obtain ⟨⟨ds, Γ2⟩, e2, he⟩ := Option.bind_eq_some_iff.mp he
  simp only [Option.ite_none_right_eq_some, Option.some.injEq, Prod.mk.injEq] at he
  obtain ⟨hz, rfl, rfl⟩ := he
  refine ⟨Bn, Ow, Γ, xs, Γ1, rs, e1, fun vs H1 O1 s1 r1 v1 => ?_⟩
  obtain ⟨O2, s2, r2, p2⟩ := fres_ok r1 v1 e2
  refine ⟨by rw [← p2.len]; exact hz, fun p np kf => ?_⟩
  obtain ⟨O3, s3, r3, val⟩ := (new_tup np r2.trk p2).val r2 (same_new np)
  exact hQ _ _ O3 ((s1.trans s2).trans s3) r3 val
theorem p_lst {es : List Expr} {ies : List E} (C : Cok g X) (h : PA X es (tAs g fs ies)) : PE X (.List es pos) (tR g fs (.lst ies)) := by
  refine PE.weak (PE.kf (pe_lst h)) ?_
  rintro σ H Q ⟨Bn, Ow, Γ, r, Γ', rs, he, hQ⟩
  simp only [ev] at he
  obtain ⟨⟨xs, Γ1⟩, e1, he⟩ := Option.bind_eq_some_iff.mp he
  obtain ⟨⟨ds, Γ2⟩, e2, he⟩ := Option.bind_eq_some_iff.mp he
  simp only [Option.ite_none_right_eq_some, Option.some.injEq, Prod.mk.injEq] at he
  obtain ⟨hz, rfl, rfl⟩ := he
  refine ⟨Bn, Ow, Γ, xs, Γ1, rs, e1, fun vs H1 O1 s1 r1 v1 => ?_⟩
  obtain ⟨O2, s2, r2, p2⟩ := fres_ok r1 v1 e2
  refine ⟨by rw [← p2.len]; exact hz, fun p np kf => ?_⟩
  have kf' : g.K.lookup p = none := by rw [← C.K]; exact kf_new kf upd_same
  obtain ⟨O3, s3, r3, val⟩ := (new_lst np kf' p2).val r2 (same_new np)
  exact hQ _ _ O3 ((s1.trans s2).trans s3) r3 val
theorem reps_at {A : Addr → Prop} {ds : List D} {vs : List V} {i : Int} {d : D} (h : Reps g A H ds vs) (e : atI ds i = some d) : ∃ v, atI vs i = some v ∧ Rep g A H d v := by
  unfold atI at e ⊢
  rw [← h.len]
  obtain ⟨j, e1, e2⟩ := Option.bind_eq_some_iff.mp e
  obtain ⟨v, e3, r⟩ := h.get e2
  exact ⟨v, by rw [e1]; exact e3, r⟩
theorem atI_map {α β : Type} {f : α → β} {xs : List α} {i : Int} {x : α} (e : atI xs i = some x) : atI (xs.map f) i = some (f x) := by
  unfold atI at e ⊢
  obtain ⟨j, e1, e2⟩ := Option.bind_eq_some_iff.mp e
  rw [List.length_map, e1]
  show (xs.map f)[j]? = _
  rw [List.getElem?_map, e2]
  rfl
theorem ix_core {A : Addr → Prop} {d e r : D} {v w : V} {Q : VK} (hv : Rdb g A H d v) (hw : Rdb g A H e w) (h : ixD d e = some r) (hQ : ∀ u, Rep g A H r u → Q u H) : rIx g.K v w H Q := by
  cases d <;> cases e <;> simp only [ixD, reduceCtorEq] at h
  · split at h
    · obtain ⟨c, e1, rfl⟩ := Option.map_eq_some_iff.mp h
      rename_i hz
      exact .inr (.inr ⟨_, _, c, rdb_str hv, rdb_int hw, hz, e1, hQ _ (by simp only [Rep])⟩)
    · cases h
  · obtain ⟨a, vs, rfl, e1, r1⟩ := hv
    obtain ⟨u, eu, ru⟩ := reps_at r1 h
    exact .inl ⟨a, vs, _, u, rfl, rdb_int hw, .inl (.inl e1), eu, hQ _ ru⟩
  · obtain ⟨a, vs, rfl, _, e1, r1⟩ := rdb_tup hv
    obtain ⟨u, eu, ru⟩ := reps_at r1 h
    exact .inr (.inl ⟨a, vs, _, u, rfl, rdb_int hw, e1, eu, hQ _ ru⟩)
  · obtain ⟨a, rfl, _, e1⟩ := rdb_scr hv
    obtain ⟨i, e2, rfl⟩ := Option.map_eq_some_iff.mp h
    exact .inl ⟨a, _, _, _, rfl, rdb_int hw, e1, atI_map e2, hQ _ (by simp only [Rep])⟩
theorem p_ix (C : Cok g X) (ha : PE X a (tR g fs ia)) (hb : PE X b (tR g fs ib)) (hs : PlainIx b) : PE X (.Subscript a b pos) (tR g fs (.ix ia ib)) := by
  refine PE.weak (pe_ix ix_seq ha hb hs) ?_
  rintro σ H Q ⟨Bn, Ow, Γ, r, Γ', rs, he, hQ⟩
  simp only [ev] at he
  obtain ⟨⟨x, Γ1⟩, e1, he⟩ := Option.bind_eq_some_iff.mp he
  obtain ⟨⟨y, Γ2⟩, e2, he⟩ := Option.bind_eq_some_iff.mp he
  obtain ⟨d, ed, he⟩ := Option.bind_eq_some_iff.mp he
  obtain ⟨e, ee, he⟩ := Option.bind_eq_some_iff.mp he
  obtain ⟨r', hb, he⟩ := Option.map_eq_some_iff.mp he
  simp only [Prod.mk.injEq] at he
  obtain ⟨rfl, rfl⟩ := he
  rw [← datum_dn] at ed ee
  refine tR_two rs e1 e2 fun v w H2 O2 s2 r2 v2 w2 => ?_
  rw [C.K]
  exact ix_core (v2.rdb r2 ed) (w2.rdb r2 ee) hb fun u ru => hQ u H2 O2 s2 r2 ru
theorem reps_cut {A : Addr → Prop} {ds : List D} {vs : List V} (lo hi : Option Int) (h : Reps g A H ds vs) : Reps g A H (cutD ds lo hi) (cutV vs lo hi) := by
  unfold cutD cutV
  rw [h.len]
  exact (h.drop _).take _
theorem reps_ints {A : Addr → Prop} : ∀ ns : List Int, Reps g A H (ns.map D.int) (ns.map V.int)
  | [] => by simp only [List.map_nil, Reps]
  | n :: ns => by
    simp only [List.map_cons, Reps]
    exact ⟨_, _, rfl, by simp only [Rep], reps_ints ns⟩
theorem slc_core {A : Addr → Prop} {d : D} {r : RV} {v : V} {lo hi : Option Int} {Q : VK} (hv : Rdb g A H d v) (tr : ∀ a, A a → H a ≠ none) (h : slcD d lo hi = some r) (hQ : ∀ u H', Same H H' → ((∀ a o, g.K.lookup a = some o → H' a = none) → Res g A H H' r u) → Q u H') :
    rSlL g.K v lo hi H Q ∨ rSlT g.K v lo hi H Q := by
  cases d <;> simp only [slcD, reduceCtorEq, Option.some.injEq, Option.ite_none_left_eq_some] at h
  · subst h
    obtain ⟨a, vs, rfl, e1, r1⟩ := hv
    exact .inl ⟨a, vs, rfl, .inl (.inl e1), fun p np => hQ _ _ (same_new np) fun kf => new_lst np (kf_new kf upd_same) (reps_cut lo hi r1)⟩
  · obtain ⟨hz, rfl⟩ := h
    obtain ⟨a, vs, rfl, _, e1, r1⟩ := rdb_tup hv
    refine .inr ⟨a, vs, rfl, e1, by rw [← r1.len]; exact hz, fun p np => hQ _ _ (same_new np) fun kf => new_tup np tr (reps_cut lo hi r1)⟩
  · subst h
    obtain ⟨a, rfl, _, e1⟩ := rdb_scr hv
    exact .inl ⟨a, _, rfl, e1, fun p np => hQ _ _ (same_new np) fun kf => new_lst np (kf_new kf upd_same) (reps_cut lo hi (reps_ints _))⟩
/-- a part of a slice -/
def partOf : Option Expr → List Expr
  | none => []
  | some e => [e]
structure Part (g : Gx) (fs : List FS) (X : Cx) (e : Option Expr) (ies : List E) : Prop where
  run : (e = none ∧ ies = []) ∨ ∃ a ia, e = some a ∧ ies = [ia] ∧ PE X a (tR g fs ia)
theorem p_slc {lo hi : Option Expr} {il ih : List E} {p2 : Pos} (C : Cok g X) (ha : PE X a (tR g fs ia)) (hl : Part g fs X lo il) (hh : Part g fs X hi ih) : PE X (.Subscript a (.Slice lo hi none p2) pos) (tR g fs (.slc ia il ih)) := by
  -- the reading of a part
  have part : ∀ {e : Option Expr} {ies : List E}, Part g fs X e ies → ∃ t, PO X e t ∧ ∀ {Bn Ow Γ xs Γ' ds o σ H} {Q : Option Int → Hp → Prop}, RS g Bn Ow H σ Γ → evs fs ies Γ = some (xs, Γ') → datums Γ' xs = some ds → slO ds = some o →
      (∀ H' Ow', Stp Ow H Ow' H' → RS g Bn Ow' H' σ Γ' → Q o H') → t σ H Q := by
    intro e ies h
    rcases h.run with ⟨rfl, rfl⟩ | ⟨b, ib, rfl, rfl, hb⟩
    · refine ⟨_, po_none, fun {Bn Ow Γ xs Γ' ds o σ H Q} rs e1 e2 e3 k => ?_⟩
      simp only [evs, Option.some.injEq, Prod.mk.injEq] at e1
      obtain ⟨rfl, rfl⟩ := e1
      simp only [datums, Option.some.injEq] at e2
      subst e2
      simp only [slO, Option.some.injEq] at e3
      subst e3
      exact k H Ow (.refl _ _) rs
    · refine ⟨_, po_some hb, fun {Bn Ow Γ xs Γ' ds o σ H Q} rs e1 e2 e3 k => ?_⟩
      simp only [evs] at e1
      obtain ⟨⟨x, Γ1⟩, e4, e1⟩ := Option.bind_eq_some_iff.mp e1
      simp only [Option.map_some, Option.some.injEq, Prod.mk.injEq] at e1
      obtain ⟨rfl, rfl⟩ := e1
      simp only [datums] at e2
      obtain ⟨d, e5, e2⟩ := Option.bind_eq_some_iff.mp e2
      simp only [Option.map_some, Option.some.injEq] at e2
      subst e2
      rw [← datum_dn] at e5
      refine tR_one rs e4 fun v H1 O1 s1 r1 v1 => ?_
      have q := v1.rdb r1 e5
      cases d <;> simp only [slO, reduceCtorEq, Option.some.injEq] at e3
      subst e3
      exact ⟨_, rdb_int q, k H1 O1 s1 r1⟩
  obtain ⟨tl, pl, kl⟩ := part hl
  obtain ⟨th, ph, kh⟩ := part hh
  refine PE.weak (PE.kf (pe_slice (sl_list.or sl_tup) ha pl ph)) ?_
  rintro σ H Q ⟨Bn, Ow, Γ, r, Γ', rs, he, hQ⟩
  simp only [ev] at he
  obtain ⟨⟨x, Γ1⟩, e1, he⟩ := Option.bind_eq_some_iff.mp he
  obtain ⟨⟨ys, Γ2⟩, e2, he⟩ := Option.bind_eq_some_iff.mp he
  obtain ⟨l, el, he⟩ := Option.bind_eq_some_iff.mp he
  obtain ⟨⟨zs, Γ3⟩, e3, he⟩ := Option.bind_eq_some_iff.mp he
  obtain ⟨d, ed, he⟩ := Option.bind_eq_some_iff.mp he
  obtain ⟨h, eh, he⟩ := Option.bind_eq_some_iff.mp he
  obtain ⟨lo', el', he⟩ := Option.bind_eq_some_iff.mp he
  obtain ⟨hi', eh', he⟩ := Option.bind_eq_some_iff.mp he
  obtain ⟨r', hb, he⟩ := Option.map_eq_some_iff.mp he
  simp only [Prod.mk.injEq] at he
  obtain ⟨rfl, rfl⟩ := he
  rw [← datum_dn] at ed
  refine tR_one rs e1 fun v H1 O1 s1 r1 v1 => kl r1 e2 el el' fun H2 O2 s2 r2 => kh r2 e3 eh eh' fun H3 O3 s3 r3 => ?_
  rw [C.K]
  have v3 := ((v1.step s2 r2).step s3 r3).rdb r3 ed
  refine slc_core v3 r3.trk hb fun u H' sm kr kf => ?_
  obtain ⟨O4, s4, r4, val⟩ := (kr kf).val r3 sm
  exact hQ u H' O4 (((s1.trans s2).trans s3).trans s4) r4 val
end
end DV

namespace DV
open PySem L2
/-! ### built-ins on data -/
def rBi (g : Gx) (b : Bi) : List V → Hp → VK → Prop := fun vs H Q => ∃ A ds r, Paired (fun d v => Rdb g A H d v) ds vs ∧ (∀ a, A a → H a ≠ none) ∧ biD b ds = some r ∧ ∀ v H', Same H H' → Res g A H H' r v → Q v H'
theorem maxI_spec : ∀ {ns : List Int} {m : Int}, maxI ns = some m → m ∈ ns ∧ ∀ y ∈ ns, y ≤ m := by
  have go : ∀ (r : List Int) (x : Int), (r.foldl (fun a b => if a < b then b else a) x) ∈ x :: r ∧ ∀ y ∈ x :: r, y ≤ r.foldl (fun a b => if a < b then b else a) x := by
    intro r
    induction r with
    | nil => intro x; exact ⟨List.mem_cons_self, fun y hy => by simp at hy; rw [hy]; exact Int.le_refl _⟩
    | cons z r ih =>
      intro x
      rw [List.foldl_cons]
      have q := ih (if x < z then z else x)
      refine ⟨?_, fun y hy => ?_⟩
      · rcases List.mem_cons.mp q.1 with h | h
        · rw [h]; split
          · simp
          · simp
        · simp [h]
      · have q2 := q.2 _ List.mem_cons_self
        have b1 : x ≤ (if x < z then z else x) := by split <;> omega
        have b2 : z ≤ (if x < z then z else x) := by split <;> omega
        rcases List.mem_cons.mp hy with h | h
        · rw [h]; exact Int.le_trans b1 q2
        · rcases List.mem_cons.mp h with h | h
          · rw [h]; exact Int.le_trans b2 q2
          · exact q.2 y (List.mem_cons_of_mem _ h)
  intro ns m h
  cases ns with
  | nil => simp [maxI] at h
  | cons x r => simp only [maxI, Option.some.injEq] at h; subst h; exact go r x
theorem minI_spec : ∀ {ns : List Int} {m : Int}, minI ns = some m → m ∈ ns ∧ ∀ y ∈ ns, m ≤ y := by
  have go : ∀ (r : List Int) (x : Int), (r.foldl (fun a b => if b < a then b else a) x) ∈ x :: r ∧ ∀ y ∈ x :: r, r.foldl (fun a b => if b < a then b else a) x ≤ y := by
    intro r
    induction r with
    | nil => intro x; exact ⟨List.mem_cons_self, fun y hy => by simp at hy; rw [hy]; exact Int.le_refl _⟩
    | cons z r ih =>
      intro x
      rw [List.foldl_cons]
      have q := ih (if z < x then z else x)
      refine ⟨?_, fun y hy => ?_⟩
      · rcases List.mem_cons.mp q.1 with h | h
        · rw [h]; split
          · simp
          · simp
        · simp [h]
      · have q2 := q.2 _ List.mem_cons_self
        have b1 : (if z < x then z else x) ≤ x := by split <;> omega
        have b2 : (if z < x then z else x) ≤ z := by split <;> omega
        rcases List.mem_cons.mp hy with h | h
        · rw [h]; exact Int.le_trans q2 b1
        · rcases List.mem_cons.mp h with h | h
          · rw [h]; exact Int.le_trans q2 b2
          · exact q.2 y (List.mem_cons_of_mem _ h)
  intro ns m h
  cases ns with
  | nil => simp [minI] at h
  | cons x r => simp only [minI, Option.some.injEq] at h; subst h; exact go r x
section
variable {X : Cx} {g : Gx} {A : Addr → Prop} {H : Hp}
theorem ints_of : ∀ {ds : List D} {vs : List V} {ns : List Int}, Reps g A H ds vs → intsD ds = some ns → vs = ns.map V.int
  | [], _, ns, h, e => by simp only [Reps] at h; simp only [intsD, Option.some.injEq] at e; subst h e; rfl
  | d :: ds, _, ns, h, e => by
    simp only [Reps] at h
    obtain ⟨v, r, rfl, h1, h2⟩ := h
    cases d <;> simp only [intsD, reduceCtorEq] at e
    obtain ⟨ms, e1, rfl⟩ := Option.map_eq_some_iff.mp e
    simp only [Rep] at h1
    rw [List.map_cons, h1, ints_of h2 e1]
theorem bls_of : ∀ {ds : List D} {vs : List V} {ns : List Bool}, Reps g A H ds vs → blsD ds = some ns → vs = ns.map V.bl
  | [], _, ns, h, e => by simp only [Reps] at h; simp only [blsD, Option.some.injEq] at e; subst h e; rfl
  | d :: ds, _, ns, h, e => by
    simp only [Reps] at h
    obtain ⟨v, r, rfl, h1, h2⟩ := h
    cases d <;> simp only [blsD, reduceCtorEq] at e
    obtain ⟨ms, e1, rfl⟩ := Option.map_eq_some_iff.mp e
    simp only [Rep] at h1
    rw [List.map_cons, h1, bls_of h2 e1]
theorem intsD_len : ∀ {ds : List D} {ns : List Int}, intsD ds = some ns → ds.length = ns.length
  | [], ns, e => by simp only [intsD, Option.some.injEq] at e; subst e; rfl
  | d :: ds, ns, e => by
    cases d <;> simp only [intsD, reduceCtorEq] at e
    obtain ⟨ms, e1, rfl⟩ := Option.map_eq_some_iff.mp e
    rw [List.length_cons, List.length_cons, intsD_len e1]
theorem pd1 {ds : List D} {v : V} (h : Paired (fun d v => Rdb g A H d v) ds [v]) : ∃ d, ds = [d] ∧ Rdb g A H d v := by
  cases h with
  | cons a b => cases b; exact ⟨_, rfl, a⟩
theorem bi1 {b : Bi} {f : Value} {r : List V → Hp → VK → Prop} (hK : X.K = g.K) (h : CallR X f r)
    (k : ∀ (A : Addr → Prop) (H : Hp) (ds : List D) (vs : List V) (x : RV) (Q : VK), Paired (fun d v => Rdb g A H d v) ds vs → (∀ a, A a → H a ≠ none) → biD b ds = some x → (∀ v H', Same H H' → ((∀ a o, g.K.lookup a = some o → H' a = none) → Res g A H H' x v) → Q v H') → r vs H Q) : CallR X f (rBi g b) := by
  refine CallR.weak (CallR.kf h) ?_
  rintro vs H Q ⟨A, ds, x, hp, tr, hb, hQ⟩
  exact k A H ds vs x _ hp tr hb fun v H' sm kr kf => hQ v H' sm (kr fun a o e => kf a o (by rw [hK]; exact e))
theorem paired1 {x : D} {vs : List V} (h : Paired (fun d v => Rdb g A H d v) [x] vs) : ∃ v, vs = [v] ∧ Rdb g A H x v := by
  cases h with
  | cons a b => cases b; exact ⟨_, rfl, a⟩
theorem paired2 {x y : D} {vs : List V} (h : Paired (fun d v => Rdb g A H d v) [x, y] vs) : ∃ v w, vs = [v, w] ∧ Rdb g A H x v ∧ Rdb g A H y w := by
  cases h with
  | cons a b =>
    cases b with
    | cons c d => cases d; exact ⟨_, _, rfl, a, c⟩
theorem b_len (hK : X.K = g.K) : CallR X (.builtin "len") (rBi g .len) := by
  refine bi1 hK call_len ?_
  intro A H ds vs x Q hp tr hb hQ
  rw [hK]
  match ds, hb with
  | [.lst xs], hb =>
    simp only [biD, Option.some.injEq] at hb; subst hb
    obtain ⟨v, rfl, q⟩ := paired1 hp
    obtain ⟨a, ws, rfl, e1, r1⟩ := q
    exact ⟨_, ws.length, rfl, .inl ⟨ws, .inl (.inl e1), rfl⟩, hQ _ H (same_rfl H) fun _ => by simp only [Res, Rep, r1.len]⟩
  | [.tup xs], hb =>
    simp only [biD, Option.some.injEq] at hb; subst hb
    obtain ⟨v, rfl, q⟩ := paired1 hp
    obtain ⟨a, ws, rfl, _, e1, r1⟩ := rdb_tup q
    exact ⟨_, ws.length, rfl, .inr ⟨ws, e1, rfl⟩, hQ _ H (same_rfl H) fun _ => by simp only [Res, Rep, r1.len]⟩
  | [.scr ns], hb =>
    simp only [biD, Option.some.injEq] at hb; subst hb
    obtain ⟨v, rfl, q⟩ := paired1 hp
    obtain ⟨a, rfl, _, e1⟩ := rdb_scr q
    exact ⟨_, _, rfl, .inl ⟨_, e1, rfl⟩, hQ _ H (same_rfl H) fun _ => by simp only [Res, Rep, List.length_map]⟩
  | [.str s], hb =>
    simp only [biD, Option.ite_none_right_eq_some, Option.some.injEq] at hb
    obtain ⟨hz, rfl⟩ := hb
    obtain ⟨v, rfl, q⟩ := paired1 hp
    exact ⟨_, s.length, rfl, by rw [rdb_str q]; exact ⟨hz, rfl⟩, hQ _ H (same_rfl H) fun _ => by simp only [Res, Rep]⟩
theorem b_int (hK : X.K = g.K) : CallR X (.type "int") (rBi g .int1) := by
  refine bi1 hK call_int1 ?_
  intro A H ds vs x Q hp tr hb hQ
  match ds, hb with
  | [.int i], hb =>
    simp only [biD, Option.some.injEq] at hb; subst hb
    obtain ⟨v, rfl, q⟩ := paired1 hp
    exact .inl ⟨i, by rw [rdb_int q], hQ _ H (same_rfl H) fun _ => by simp only [Res, Rep]⟩
  | [.bl i], hb =>
    simp only [biD, Option.some.injEq] at hb; subst hb
    obtain ⟨v, rfl, q⟩ := paired1 hp
    exact .inr ⟨i, by rw [rdb_bl q], hQ _ H (same_rfl H) fun _ => by simp only [Res, Rep]⟩
theorem b_abs (hK : X.K = g.K) : CallR X (.builtin "abs") (rBi g .abs) := by
  refine bi1 hK call_abs ?_
  intro A H ds vs x Q hp tr hb hQ
  match ds, hb with
  | [.int i], hb =>
    simp only [biD, Option.some.injEq] at hb; subst hb
    obtain ⟨v, rfl, q⟩ := paired1 hp
    exact ⟨i, by rw [rdb_int q], hQ _ H (same_rfl H) fun _ => by simp only [Res, Rep]⟩
theorem b_max2 (C : Cok g X) : CallR X (.builtin "max") (rBi g .max2) := by
  refine bi1 C.K (call_max2 C.calm) ?_
  intro A H ds vs x Q hp tr hb hQ
  match ds, hb with
  | [.int i, .int j], hb =>
    simp only [biD, Option.some.injEq] at hb; subst hb
    obtain ⟨v, w, rfl, q, q'⟩ := paired2 hp
    exact ⟨i, j, by rw [rdb_int q, rdb_int q'], hQ _ H (same_rfl H) fun _ => by simp only [Res, Rep]⟩
theorem b_min2 (C : Cok g X) : CallR X (.builtin "min") (rBi g .min2) := by
  refine bi1 C.K (call_min2 C.calm) ?_
  intro A H ds vs x Q hp tr hb hQ
  match ds, hb with
  | [.int i, .int j], hb =>
    simp only [biD, Option.some.injEq] at hb; subst hb
    obtain ⟨v, w, rfl, q, q'⟩ := paired2 hp
    exact ⟨i, j, by rw [rdb_int q, rdb_int q'], hQ _ H (same_rfl H) fun _ => by simp only [Res, Rep]⟩
theorem b_maxl (C : Cok g X) : CallR X (.builtin "max") (rBi g .maxl) := by
  refine bi1 C.K (cr_max C.calm) ?_
  intro A H ds vs x Q hp tr hb hQ
  match ds, hb with
  | [.lst xs], hb =>
    simp only [biD] at hb
    obtain ⟨ns, e1, hb⟩ := Option.bind_eq_some_iff.mp hb
    obtain ⟨m, e2, rfl⟩ := Option.map_eq_some_iff.mp hb
    obtain ⟨v, rfl, q⟩ := paired1 hp
    obtain ⟨a, ws, rfl, e3, r1⟩ := q
    rw [ints_of r1 e1] at e3
    have sp := maxI_spec e2
    refine ⟨a, ns, rfl, .inl (.inl e3), List.length_pos_of_mem sp.1, fun m' h1 h2 => hQ _ H (same_rfl H) fun _ => ?_⟩
    simp only [Res, Rep]
    rw [Int.le_antisymm (sp.2 m' h1) (h2 m sp.1)]
theorem b_minl (C : Cok g X) : CallR X (.builtin "min") (rBi g .minl) := by
  refine bi1 C.K (cr_min C.calm) ?_
  intro A H ds vs x Q hp tr hb hQ
  match ds, hb with
  | [.lst xs], hb =>
    simp only [biD] at hb
    obtain ⟨ns, e1, hb⟩ := Option.bind_eq_some_iff.mp hb
    obtain ⟨m, e2, rfl⟩ := Option.map_eq_some_iff.mp hb
    obtain ⟨v, rfl, q⟩ := paired1 hp
    obtain ⟨a, ws, rfl, e3, r1⟩ := q
    rw [ints_of r1 e1] at e3
    have sp := minI_spec e2
    refine ⟨a, ns, rfl, .inl (.inl e3), List.length_pos_of_mem sp.1, fun m' h1 h2 => hQ _ H (same_rfl H) fun _ => ?_⟩
    simp only [Res, Rep]
    rw [Int.le_antisymm (h2 m sp.1) (sp.2 m' h1)]
theorem b_suml (C : Cok g X) : CallR X (.builtin "sum") (rBi g .suml) := by
  refine bi1 C.K (cr_sum C.calm) ?_
  intro A H ds vs x Q hp tr hb hQ
  match ds, hb with
  | [.lst xs], hb =>
    simp only [biD] at hb
    obtain ⟨ns, e1, rfl⟩ := Option.map_eq_some_iff.mp hb
    obtain ⟨v, rfl, q⟩ := paired1 hp
    obtain ⟨a, ws, rfl, e3, r1⟩ := q
    rw [ints_of r1 e1] at e3
    exact ⟨a, ns, rfl, .inl (.inl e3), hQ _ H (same_rfl H) fun _ => by simp only [Res, Rep]⟩
theorem b_alll (C : Cok g X) : CallR X (.builtin "all") (rBi g .alll) := by
  refine bi1 C.K (cr_all C.calm) ?_
  intro A H ds vs x Q hp tr hb hQ
  match ds, hb with
  | [.lst xs], hb =>
    simp only [biD] at hb
    obtain ⟨ns, e1, rfl⟩ := Option.map_eq_some_iff.mp hb
    obtain ⟨v, rfl, q⟩ := paired1 hp
    obtain ⟨a, ws, rfl, e3, r1⟩ := q
    rw [bls_of r1 e1] at e3
    exact ⟨a, ns, rfl, .inl (.inl e3), hQ _ H (same_rfl H) fun _ => by simp only [Res, Rep]⟩
theorem b_anyl (C : Cok g X) : CallR X (.builtin "any") (rBi g .anyl) := by
  refine bi1 C.K (cr_any C.calm) ?_
  intro A H ds vs x Q hp tr hb hQ
  match ds, hb with
  | [.lst xs], hb =>
    simp only [biD] at hb
    obtain ⟨ns, e1, rfl⟩ := Option.map_eq_some_iff.mp hb
    obtain ⟨v, rfl, q⟩ := paired1 hp
    obtain ⟨a, ws, rfl, e3, r1⟩ := q
    rw [bls_of r1 e1] at e3
    exact ⟨a, ns, rfl, .inl (.inl e3), hQ _ H (same_rfl H) fun _ => by simp only [Res, Rep]⟩
theorem b_list (hK : X.K = g.K) : CallR X (.type "list") (rBi g .list) := by
  refine bi1 hK call_list_of ?_
  intro A H ds vs x Q hp tr hb hQ
  rw [hK]
  match ds, hb with
  | [.lst xs], hb =>
    simp only [biD, Option.some.injEq] at hb; subst hb
    obtain ⟨v, rfl, q⟩ := paired1 hp
    obtain ⟨a, ws, rfl, e1, r1⟩ := q
    exact ⟨a, ws, rfl, .inl (.inl (.inl e1)), fun p np => hQ _ _ (same_new np) fun kf => new_lst np (kf_new kf upd_same) r1⟩
  | [.tup xs], hb =>
    simp only [biD, Option.some.injEq] at hb; subst hb
    obtain ⟨v, rfl, q⟩ := paired1 hp
    obtain ⟨a, ws, rfl, _, e1, r1⟩ := rdb_tup q
    exact ⟨a, ws, rfl, .inr e1, fun p np => hQ _ _ (same_new np) fun kf => new_lst np (kf_new kf upd_same) r1⟩
theorem b_tuple (hK : X.K = g.K) : CallR X (.type "tuple") (rBi g .tuple) := by
  refine bi1 hK call_tuple_of ?_
  intro A H ds vs x Q hp tr hb hQ
  rw [hK]
  match ds, hb with
  | [.lst xs], hb =>
    simp only [biD, Option.some.injEq] at hb; subst hb
    obtain ⟨v, rfl, q⟩ := paired1 hp
    obtain ⟨a, ws, rfl, e1, r1⟩ := q
    exact ⟨a, ws, rfl, .inl ⟨.inl (.inl e1), fun p np => hQ _ _ (same_new np) fun kf => new_tup np tr r1⟩⟩
  | [.tup xs], hb =>
    simp only [biD, Option.some.injEq] at hb; subst hb
    obtain ⟨v, rfl, q⟩ := paired1 hp
    have q0 := q
    obtain ⟨a, ws, rfl, _, e1, r1⟩ := rdb_tup q
    exact ⟨a, ws, rfl, .inr ⟨e1, hQ _ H (same_rfl H) fun _ => q0⟩⟩
def tyN : Ty → String
  | .int => "int" | .bool => "bool" | .str => "str" | .list => "list" | .tuple => "tuple"
/-- isinstance(x, T): the reading of the two arguments -/
theorem isi_core {t : Ty} {d : D} {v : V} {Q : VK} (hs : shallow d = true) (h : Rdb g A H d v) (hQ : Q (.bl (isiD t d)) H) : rIsi g.K [v, .ty (tyN t)] H Q := by
  cases d with
  | obj => simp [shallow] at hs
  | scr => simp [shallow] at hs
  | non => rw [rdb_non h]; exact ⟨_, _, _, _, isiD t .non, rfl, .ty _, .base .non, kit_ty (by cases t <;> decide +kernel), hQ⟩
  | bl b => rw [rdb_bl h]; exact ⟨_, _, _, _, isiD t (.bl b), rfl, .ty _, .base (.bl b), kit_ty (by cases t <;> (simp only [isiD, tyN]; decide +kernel)), hQ⟩
  | int b => rw [rdb_int h]; exact ⟨_, _, _, _, isiD t (.int b), rfl, .ty _, .base (.int b), kit_ty (by cases t <;> (simp only [isiD, tyN]; decide +kernel)), hQ⟩
  | str b => rw [rdb_str h]; exact ⟨_, _, _, _, isiD t (.str b), rfl, .ty _, .base (.str b), kit_ty (by cases t <;> (simp only [isiD, tyN]; decide +kernel)), hQ⟩
  | lst b =>
    obtain ⟨a, ws, rfl, e1, r1⟩ := h
    exact ⟨_, _, _, _, isiD t (.lst b), rfl, .ty _, .base (.lst e1), kit_ty (by cases t <;> (simp only [isiD, tyN]; decide +kernel)), hQ⟩
  | tup b =>
    obtain ⟨a, ws, rfl, _, e1, r1⟩ := rdb_tup h
    have k : PySem.W.kitOne g.K (.type "tuple") (.type (tyN t)) = some (isiD t (.tup b)) := kit_ty (by cases t <;> (simp only [isiD, tyN]; decide +kernel))
    rcases e1 with (e1 | ⟨o, e1⟩) | ⟨o, its, n, e1, e2, _⟩
    · exact ⟨_, _, _, _, _, rfl, .ty _, .base (.tup e1), k, hQ⟩
    · exact ⟨_, _, _, _, _, rfl, .ty _, .fTuple e1, k, hQ⟩
    · exact ⟨_, _, _, _, _, rfl, .ty _, .kTuple e1 e2, k, hQ⟩
end
section
variable {X : Cx} {g : Gx} {fs : List FS} {e : Expr} {es : List Expr} {ies : List E} {x : Str} {id T : String} {b : Bi} {p pos : Pos}
theorem bi_core {Bn : Addr → Prop} {Ow : List Addr} {H : Hp} {σ : St} {Γ Γ' : Ct} {r : RV} {Q : VK} (rs : RS g Bn Ow H σ Γ) (he : ev fs (.bi b ies) Γ = some (r, Γ')) (hQ : ∀ v H' Ow', Stp Ow H Ow' H' → RS g Bn Ow' H' σ Γ' → Val g Bn Ow' H' σ Γ' r v → Q v H') :
    tCB (rBi g b) (tAs g fs ies) σ H Q := by
  simp only [ev] at he
  obtain ⟨⟨xs, Γ1⟩, e1, he⟩ := Option.bind_eq_some_iff.mp he
  obtain ⟨ds, e2, he⟩ := Option.bind_eq_some_iff.mp he
  obtain ⟨r', e3, he⟩ := Option.map_eq_some_iff.mp he
  simp only [Prod.mk.injEq] at he
  obtain ⟨rfl, rfl⟩ := he
  refine ⟨Bn, Ow, Γ, xs, Γ1, rs, e1, fun vs H1 O1 s1 r1 v1 => ?_⟩
  exact ⟨Av Bn O1, ds, _, datums_ok r1 v1 e2, r1.trk, e3, fun v H' sm res => let ⟨O3, s3, r3, val⟩ := res.val r1 sm; hQ v H' O3 (s1.trans s3) r3 val⟩
theorem p_biB (hc : CallR X (.builtin id) (rBi g b)) (hg : Gl X x) (hm : X.mg x = none) (hv : bootBuiltins x = some (.builtin id)) (ha : PA X (e :: es) (tAs g fs ies)) (hn : x ≠ "__name__") (hdb : (x == ("__debug__" : Str)) = false)
    (he : starEach (e :: es) X.env = (false, eval e X.env) :: starEach es X.env) (hpl : (backTo pos (starEach es X.env)).any (·.1) = false) : PE X (.Call (.Name x p) (e :: es) [] pos) (tR g fs (.bi b ies)) := by
  refine PE.weak (pe_callB hc hg hm hv ha hn hdb he hpl) ?_
  rintro σ H Q ⟨Bn, Ow, Γ, r, Γ', rs, he, hQ⟩
  exact bi_core rs he hQ
theorem p_biT (hc : CallR X (.type T) (rBi g b)) (hg : Gl X x) (hm : X.mg x = none) (hv : bootBuiltins x = some (.type T)) (ha : PA X (e :: es) (tAs g fs ies)) (hn : x ≠ "__name__") (hdb : (x == ("__debug__" : Str)) = false)
    (he : starEach (e :: es) X.env = (false, eval e X.env) :: starEach es X.env) (hpl : (backTo pos (starEach es X.env)).any (·.1) = false) : PE X (.Call (.Name x p) (e :: es) [] pos) (tR g fs (.bi b ies)) := by
  refine PE.weak (pe_callTy hc hg hm hv ha hn hdb he hpl) ?_
  rintro σ H Q ⟨Bn, Ow, Γ, r, Γ', rs, he, hQ⟩
  exact bi_core rs he hQ
theorem p_isi {a : Expr} {ia : E} {t : Ty} {y : Str} {p2 : Pos} (C : Cok g X) (ha : PE X a (tR g fs ia)) (hy : PE X (.Name y p2) (tC (.ty (tyN t)))) (hg : Gl X "isinstance") (hm : X.mg "isinstance" = none)
    (he : starEach (a :: [.Name y p2]) X.env = (false, eval a X.env) :: starEach [.Name y p2] X.env) (hpl : (backTo pos (starEach [.Name y p2] X.env)).any (·.1) = false) : PE X (.Call (.Name "isinstance" p) [a, .Name y p2] [] pos) (tR g fs (.bi (.isi t) [ia])) := by
  refine PE.weak (pe_callB call_isi hg hm PyProof.Rows.boot_isinstance (pa_cons ha (pa_cons hy pa_nil rfl) he) (by decide) (by decide) he hpl) ?_
  rintro σ H Q ⟨Bn, Ow, Γ, r, Γ', rs, he, hQ⟩
  simp only [ev, evs] at he
  obtain ⟨⟨xs, Γ1⟩, e1, he⟩ := Option.bind_eq_some_iff.mp he
  obtain ⟨⟨x, Γ2⟩, e2, e1⟩ := Option.bind_eq_some_iff.mp e1
  simp only [Option.map_some, Option.some.injEq, Prod.mk.injEq] at e1
  obtain ⟨rfl, rfl⟩ := e1
  obtain ⟨ds, e3, he⟩ := Option.bind_eq_some_iff.mp he
  obtain ⟨r', e4, he⟩ := Option.map_eq_some_iff.mp he
  simp only [Prod.mk.injEq] at he
  obtain ⟨rfl, rfl⟩ := he
  simp only [datums] at e3
  obtain ⟨d, e5, e3⟩ := Option.bind_eq_some_iff.mp e3
  simp only [Option.map_some, Option.some.injEq] at e3
  subst e3
  simp only [biD, Option.ite_none_right_eq_some, Option.some.injEq] at e4
  obtain ⟨hs, rfl⟩ := e4
  rw [← datum_dn] at e5
  refine tR_one rs e2 fun v H1 O1 s1 r1 v1 => ?_
  show rIsi X.K [v, .ty (tyN t)] H1 Q
  rw [C.K]
  exact isi_core hs (v1.rdb r1 e5) (hQ _ H1 O1 s1 r1 (by simp only [Val, Rep]))
end
end DV

namespace DV
open PySem L2
/-- the promise of a def by what it does to data -/
def spF (g : Gx) (n : Nat) (F : FS) : Sp := fun vs H Q _ => vs.length = n ∧ ∃ Bn Ow Γ r os, RS g Bn Ow H (vs.map some) Γ ∧ F Γ = some (r, os) ∧ (∀ i, r ≠ .sl i) ∧
  ∀ v H' Ow', Stp Ow H Ow' H' → RS g Bn Ow' H' (vs.map some) os → Val g Bn Ow' H' (vs.map some) os r v → Q v H'
def OwS (Γ : Ct) (j : Nat) : Prop := ∃ d, Γ[j]? = some (some (d, true))
theorem ownIx_mem {Γ : Ct} {j : Nat} : ∀ {xs : List RV}, j ∈ ownIx Γ xs ↔ .sl j ∈ xs ∧ OwS Γ j
  | [] => by simp [ownIx]
  | x :: xs => by
    have ih := @ownIx_mem Γ j xs
    cases x with
    | fz d => simp only [ownIx, List.mem_cons, reduceCtorEq, false_or]; exact ih
    | nw d => simp only [ownIx, List.mem_cons, reduceCtorEq, false_or]; exact ih
    | sl i =>
      simp only [ownIx]
      split
      · rename_i d q
        simp only [List.mem_cons, RV.sl.injEq]
        constructor
        · rintro (h | h)
          · subst h; exact ⟨.inl rfl, d, q⟩
          · exact ⟨.inr (ih.mp h).1, (ih.mp h).2⟩
        · rintro ⟨h | h, o⟩
          · exact .inl h
          · exact .inr (ih.mpr ⟨h, o⟩)
      · rename_i q
        simp only [List.mem_cons, RV.sl.injEq]
        rw [ih]
        constructor
        · rintro ⟨h, o⟩; exact ⟨.inr h, o⟩
        · rintro ⟨h | h, o⟩
          · subst h; obtain ⟨d, o⟩ := o; exact absurd o (q d)
          · exact ⟨h, o⟩
theorem nodupB_cons {x : Nat} {xs : List Nat} (h : nodupB (x :: xs) = true) : x ∉ xs ∧ nodupB xs = true := by
  simp only [nodupB, Bool.and_eq_true, Bool.not_eq_true', List.contains_eq_mem, decide_eq_false_iff_not] at h
  exact h
theorem ownIx_tail {Γ : Ct} {x : RV} {xs : List RV} (h : nodupB (ownIx Γ (x :: xs)) = true) : nodupB (ownIx Γ xs) = true := by
  cases x with
  | fz d => exact h
  | nw d => exact h
  | sl i =>
    simp only [ownIx] at h
    split at h
    · exact (nodupB_cons h).2
    · exact h
theorem ownIx_head {Γ : Ct} {j : Nat} {xs : List RV} (h : nodupB (ownIx Γ (.sl j :: xs)) = true) (o : OwS Γ j) : .sl j ∉ xs := fun z => by
  obtain ⟨d, o⟩ := o
  simp only [ownIx, o] at h
  exact (nodupB_cons h).1 (ownIx_mem.mpr ⟨z, d, o⟩)
theorem own_uniq {Γ : Ct} {j : Nat} (o : OwS Γ j) : ∀ {xs : List RV} {i k : Nat}, nodupB (ownIx Γ xs) = true → xs[i]? = some (.sl j) → xs[k]? = some (.sl j) → i = k
  | [], i, k, _, h, _ => by simp at h
  | x :: xs, 0, 0, _, _, _ => rfl
  | x :: xs, 0, k + 1, n, h1, h2 => by
    simp at h1; subst h1
    exact absurd (List.mem_of_getElem? (by simpa using h2)) (ownIx_head n o)
  | x :: xs, i + 1, 0, n, h1, h2 => by
    simp at h2; subst h2
    exact absurd (List.mem_of_getElem? (by simpa using h1)) (ownIx_head n o)
  | x :: xs, i + 1, k + 1, n, h1, h2 => by
    have := own_uniq o (i := i) (k := k) (ownIx_tail n) (by simpa using h1) (by simpa using h2)
    omega
theorem put_len {Γ0 : Ct} : ∀ {xs : List RV} {os Γ : Ct}, (putOuts Γ0 xs os Γ).length = Γ.length
  | [], os, Γ => by cases os <;> simp [putOuts]
  | x :: xs, [], Γ => by cases x <;> simp [putOuts]
  | x :: xs, o :: os, Γ => by
    cases x with
    | fz d => simp only [putOuts]; exact put_len
    | nw d => simp only [putOuts]; exact put_len
    | sl i =>
      simp only [putOuts]
      split
      · rw [put_len, List.length_set]
      · exact put_len
theorem put_miss {Γ0 : Ct} {j : Nat} : ∀ {xs : List RV} {os Γ : Ct}, (∀ i : Nat, xs[i]? = some (.sl j) → ¬ OwS Γ0 j) → (putOuts Γ0 xs os Γ)[j]? = Γ[j]?
  | [], os, Γ, _ => by cases os <;> simp [putOuts]
  | x :: xs, [], Γ, _ => by cases x <;> simp [putOuts]
  | x :: xs, o :: os, Γ, h => by
    have ih : ∀ Γ, (putOuts Γ0 xs os Γ)[j]? = Γ[j]? := fun Γ => put_miss fun i e => h (i + 1) (by simpa using e)
    cases x with
    | fz d => simp only [putOuts]; exact ih Γ
    | nw d => simp only [putOuts]; exact ih Γ
    | sl i =>
      simp only [putOuts]
      split
      · rename_i d q
        rw [ih, List.getElem?_set_ne]
        intro z
        subst z
        exact h 0 rfl ⟨d, q⟩
      · exact ih Γ
theorem put_hit {Γ0 : Ct} {j : Nat} (ow : OwS Γ0 j) : ∀ {xs : List RV} {os Γ : Ct} {i : Nat} {o : Sl}, nodupB (ownIx Γ0 xs) = true → xs[i]? = some (.sl j) → os[i]? = some o → j < Γ.length → (putOuts Γ0 xs os Γ)[j]? = some o
  | [], os, Γ, i, o, _, h, _, _ => by simp at h
  | x :: xs, [], Γ, i, o, _, _, h, _ => by simp at h
  | x :: xs, p :: os, Γ, 0, o, n, h1, h2, hl => by
    simp at h1 h2; subst h1 h2
    have hh := ownIx_head n ow
    obtain ⟨d, q⟩ := ow
    simp only [putOuts, q]
    rw [put_miss fun i e => absurd (List.mem_of_getElem? e) hh, List.getElem?_set_self hl]
  | x :: xs, p :: os, Γ, i + 1, o, n, h1, h2, hl => by
    have n' := ownIx_tail n
    have h1' : xs[i]? = some (.sl j) := by simpa using h1
    have h2' : os[i]? = some o := by simpa using h2
    cases x with
    | fz d => simp only [putOuts]; exact put_hit ow n' h1' h2' hl
    | nw d => simp only [putOuts]; exact put_hit ow n' h1' h2' hl
    | sl k =>
      simp only [putOuts]
      split
      · exact put_hit ow n' h1' h2' (by rw [List.length_set]; exact hl)
      · exact put_hit ow n' h1' h2' hl
theorem argSs_len {Γ : Ct} : ∀ {xs : List RV} {as : List (D × Bool)}, argSs Γ xs = some as → as.length = xs.length
  | [], as, h => by simp only [argSs, Option.some.injEq] at h; subst h; rfl
  | x :: xs, as, h => by
    simp only [argSs] at h
    obtain ⟨d, _, h⟩ := Option.bind_eq_some_iff.mp h
    obtain ⟨r, e, rfl⟩ := Option.map_eq_some_iff.mp h
    rw [List.length_cons, List.length_cons, argSs_len e]
theorem argSs_get {Γ : Ct} : ∀ {xs : List RV} {as : List (D × Bool)} {i : Nat} {p : D × Bool}, argSs Γ xs = some as → as[i]? = some p → ∃ x, xs[i]? = some x ∧ argS Γ x = some p
  | [], as, i, p, h, e => by simp only [argSs, Option.some.injEq] at h; subst h; simp at e
  | x :: xs, as, i, p, h, e => by
    simp only [argSs] at h
    obtain ⟨d, hd, h⟩ := Option.bind_eq_some_iff.mp h
    obtain ⟨r, e1, rfl⟩ := Option.map_eq_some_iff.mp h
    cases i with
    | zero => simp at e; subst e; exact ⟨x, rfl, hd⟩
    | succ i => obtain ⟨y, h1, h2⟩ := argSs_get (i := i) e1 (by simpa using e); exact ⟨y, by simpa using h1, h2⟩
section
variable {g : Gx} {Bn : Addr → Prop} {Ow Ow' : List Addr} {H H' : Hp} {σ : St} {Γ Γ' : Ct}
/-- values by results, new ones owned -/
def VlW (g : Gx) (Bn : Addr → Prop) (Ow : List Addr) (H : Hp) (σ : St) (Γ : Ct) : List RV → List V → Prop
  | [], vs => vs = []
  | x :: xs, vs => ∃ v r, vs = v :: r ∧ Val g Bn Ow H σ Γ x v ∧ (∀ d, x = .nw d → ∀ (j : Nat) (e : D), xs[j]? = some (.nw e) → r[j]? ≠ some v) ∧ VlW g Bn Ow H σ Γ xs r
def tAw (g : Gx) (fs : List FS) (es : List E) : TA := fun σ H Q => ∃ Bn Ow Γ xs Γ', RS g Bn Ow H σ Γ ∧ evs fs es Γ = some (xs, Γ') ∧ ∀ vs H' Ow', Stp Ow H Ow' H' → RS g Bn Ow' H' σ Γ' → VlW g Bn Ow' H' σ Γ' xs vs → Q vs H'
theorem VlW.len : ∀ {xs : List RV} {vs : List V}, VlW g Bn Ow H σ Γ xs vs → xs.length = vs.length
  | [], _, h => by have h : _ = [] := h; subst h; rfl
  | x :: xs, _, ⟨v, r, e, _, _, h2⟩ => by subst e; rw [List.length_cons, List.length_cons, h2.len]
theorem VlW.get : ∀ {xs : List RV} {vs : List V} {i : Nat} {x : RV}, VlW g Bn Ow H σ Γ xs vs → xs[i]? = some x → ∃ v, vs[i]? = some v ∧ Val g Bn Ow H σ Γ x v
  | [], _, i, x, _, e => by simp at e
  | y :: xs, _, 0, x, ⟨v, r, e0, h1, _⟩, e => by simp at e; subst e e0; exact ⟨v, rfl, h1⟩
  | y :: xs, _, i + 1, x, ⟨v, r, e0, _, _, h2⟩, e => by
    subst e0
    obtain ⟨w, h3, h4⟩ := VlW.get (i := i) h2 (by simpa using e)
    exact ⟨w, by simpa using h3, h4⟩
theorem VlW.uniq : ∀ {xs : List RV} {vs : List V} {i k : Nat} {d e : D} {v : V}, VlW g Bn Ow H σ Γ xs vs → xs[i]? = some (.nw d) → xs[k]? = some (.nw e) → vs[i]? = some v → vs[k]? = some v → i = k
  | [], _, i, k, d, e, v, _, h1, _, _, _ => by simp at h1
  | y :: xs, _, 0, 0, d, e, v, _, _, _, _, _ => rfl
  | y :: xs, _, 0, k + 1, d, e, v, ⟨w, r, e0, _, h, _⟩, h1, h2, h3, h4 => by
    subst e0
    simp at h1 h3; subst h1 h3
    exact absurd (by simpa using h4) (h d rfl k e (by simpa using h2))
  | y :: xs, _, i + 1, 0, d, e, v, ⟨w, r, e0, _, h, _⟩, h1, h2, h3, h4 => by
    subst e0
    simp at h2 h4; subst h2 h4
    exact absurd (by simpa using h3) (h e rfl i d (by simpa using h1))
  | y :: xs, _, i + 1, k + 1, d, e, v, ⟨w, r, e0, _, _, hr⟩, h1, h2, h3, h4 => by
    subst e0
    rw [VlW.uniq (i := i) (k := k) hr (by simpa using h1) (by simpa using h2) (by simpa using h3) (by simpa using h4)]
theorem map_some_get {vs : List V} {i : Nat} {v : V} : (vs.map some)[i]? = some (some v) ↔ vs[i]? = some v := by
  rw [List.getElem?_map]
  cases vs[i]? <;> simp
/-- the addresses that are handed over -/
def handed (vs : List V) (as : List (D × Bool)) : List Addr := (vs.zip as).filterMap fun p => match p with
  | (.ref a, (_, true)) => some a
  | _ => none
theorem handed_mem {vs : List V} {as : List (D × Bool)} {a : Addr} : a ∈ handed vs as ↔ ∃ (i : Nat) (d : D), vs[i]? = some (.ref a) ∧ as[i]? = some (d, true) := by
  unfold handed
  rw [List.mem_filterMap]
  constructor
  · rintro ⟨⟨v, d, b⟩, hm, e⟩
    obtain ⟨i, hi⟩ := List.mem_iff_getElem?.mp hm
    rw [List.getElem?_zip_eq_some] at hi
    cases v with
    | ref x =>
      cases b with
      | true => simp only [Option.some.injEq] at e; subst e; exact ⟨i, d, hi.1, hi.2⟩
      | false => cases e
    | _ => cases e
  · rintro ⟨i, d, h1, h2⟩
    exact ⟨(.ref a, (d, true)), List.mem_iff_getElem?.mpr ⟨i, by rw [List.getElem?_zip_eq_some]; exact ⟨h1, h2⟩⟩, rfl⟩
theorem call_core {xs : List RV} {vs : List V} {as : List (D × Bool)} {r : RV} {os : Ct} {F : FS} {Q : VK} (rs : RS g Bn Ow H σ Γ) (hv : VlW g Bn Ow H σ Γ xs vs) (ea : argSs Γ xs = some as) (nd : nodupB (ownIx Γ xs) = true) (ef : F (as.map some) = some (r, os)) (nr : ∀ i, r ≠ .sl i)
    {n : Nat} (hn : vs.length = n) {E : XK} (hQ : ∀ v H' Ow', Stp Ow H Ow' H' → RS g Bn Ow' H' σ (putOuts Γ xs os Γ) → Val g Bn Ow' H' σ (putOuts Γ xs os Γ) r v → Q v H') : spF g n F vs H Q E := by
  have l1 := argSs_len ea
  have l2 := hv.len
  -- an owned argument
  have ownArg : ∀ {i : Nat} {d : D}, as[i]? = some (d, true) → ∃ a, vs[i]? = some (.ref a) ∧ a ∈ Ow ∧ OwnA g (Av Bn Ow) H d a ∧ ((∃ j, xs[i]? = some (.sl j) ∧ Γ[j]? = some (some (d, true)) ∧ σ[j]? = some (some (.ref a))) ∨ (xs[i]? = some (.nw d) ∧ ∀ (j : Nat) e, Γ[j]? = some (some (e, true)) → σ[j]? ≠ some (some (.ref a)))) := by
    intro i d h
    obtain ⟨x, h1, h2⟩ := argSs_get ea h
    obtain ⟨v, h3, h4⟩ := hv.get h1
    cases x with
    | fz e => simp [argS] at h2
    | nw e =>
      simp only [argS, Option.some.injEq, Prod.mk.injEq, and_true] at h2
      subst h2
      obtain ⟨a, rfl, m, o, no⟩ := h4
      exact ⟨a, h3, m, o, .inr ⟨h1, no⟩⟩
    | sl j =>
      simp only [argS] at h2
      split at h2
      · rename_i p q
        cases h2
        obtain ⟨a, e1, m, o⟩ := rs.own j d q
        have h4 : σ[j]? = some (some v) := h4
        rw [e1] at h4; cases h4
        exact ⟨a, h3, m, o, .inl ⟨j, h1, q, e1⟩⟩
      · cases h2
  let Io := handed vs as
  have ioOw : ∀ a, a ∈ Io → a ∈ Ow := fun a h => by
    obtain ⟨i, d, h1, h2⟩ := handed_mem.mp h
    obtain ⟨b, h3, m, _⟩ := ownArg h2
    rw [h1] at h3; cases h3
    exact m
  let Bn' : Addr → Prop := fun a => Bn a ∨ (a ∈ Ow ∧ a ∉ Io)
  have av1 : ∀ a, Av Bn' Io a → Av Bn Ow a := fun a h => by
    rcases h with (h | h) | h
    · exact .inl h
    · exact .inr h.1
    · exact .inr (ioOw a h)
  refine ⟨hn, Bn', Io, as.map some, r, os, ⟨?_, fun i d h => ?_, fun i d h => ?_, fun i k d e a h1 h2 h3 h4 => ?_, fun a h => rs.trk a (av1 a h), fun a h z => ?_, fun a h => rs.kf a (av1 a h)⟩, ef, nr, fun v H' O' st rs' val => ?_⟩
  · rw [List.length_map, List.length_map]; omega
  · have h : as[i]? = some (d, false) := by
      rw [List.getElem?_map] at h
      cases e : as[i]? with
      | none => rw [e] at h; cases h
      | some p => rw [e] at h; simp only [Option.map_some, Option.some.injEq] at h; rw [h]
    obtain ⟨x, h1, h2⟩ := argSs_get ea h
    obtain ⟨v, h3, h4⟩ := hv.get h1
    refine ⟨v, map_some_get.mpr h3, rep_less av1 ?_⟩
    cases x with
    | fz e => simp only [argS, Option.some.injEq, Prod.mk.injEq, and_true] at h2; subst h2; exact h4
    | nw e => simp [argS] at h2
    | sl j =>
      simp only [argS] at h2
      split at h2
      · rename_i p q
        cases h2
        obtain ⟨w, e1, rp⟩ := rs.slot j d q
        have h4 : σ[j]? = some (some v) := h4
        rw [e1] at h4; cases h4
        exact rp
      · cases h2
  · have h : as[i]? = some (d, true) := by
      rw [List.getElem?_map] at h
      cases e : as[i]? with
      | none => rw [e] at h; cases h
      | some p => rw [e] at h; simp only [Option.map_some, Option.some.injEq] at h; rw [h]
    obtain ⟨a, h3, m, o, _⟩ := ownArg h
    exact ⟨a, map_some_get.mpr h3, handed_mem.mpr ⟨i, d, h3, h⟩, own_less av1 o⟩
  · have h1 : as[i]? = some (d, true) := by
      rw [List.getElem?_map] at h1
      cases e : as[i]? with
      | none => rw [e] at h1; cases h1
      | some p => rw [e] at h1; simp only [Option.map_some, Option.some.injEq] at h1; rw [h1]
    have h2 : as[k]? = some (e, true) := by
      rw [List.getElem?_map] at h2
      cases z : as[k]? with
      | none => rw [z] at h2; cases h2
      | some p => rw [z] at h2; simp only [Option.map_some, Option.some.injEq] at h2; rw [h2]
    obtain ⟨a1, v1, _, _, c1⟩ := ownArg h1
    obtain ⟨a2, v2, _, _, c2⟩ := ownArg h2
    have w1 := map_some_get.mp h3
    have w2 := map_some_get.mp h4
    rw [w1] at v1; cases v1
    rw [w2] at v2; cases v2
    rcases c1 with ⟨j1, x1, q1, e1⟩ | ⟨x1, n1⟩ <;> rcases c2 with ⟨j2, x2, q2, e2⟩ | ⟨x2, n2⟩
    · have := rs.dist j1 j2 _ _ _ q1 q2 e1 e2
      subst this
      exact own_uniq ⟨_, q1⟩ nd x1 x2
    · exact absurd e1 (n2 j1 _ q1)
    · exact absurd e2 (n1 j2 _ q2)
    · exact hv.uniq x1 x2 w1 w2
  · rcases h with h | h
    · exact rs.sep a h (ioOw a z)
    · exact h.2 z
  -- behind the call
  let O2 := Ow.filter (fun a => decide (a ∉ Io)) ++ O'
  have memO2 : ∀ a, a ∈ O2 ↔ (a ∈ Ow ∧ a ∉ Io) ∨ a ∈ O' := fun a => by
    show a ∈ Ow.filter (fun a => decide (a ∉ Io)) ++ O' ↔ _
    rw [List.mem_append, List.mem_filter]
    simp
  have av2 : ∀ a, Av Bn O2 a → Av Bn' O' a := fun a h => by
    rcases h with h | h
    · exact .inl (.inl h)
    · rcases (memO2 a).mp h with h | h
      · exact .inl (.inr h)
      · exact .inr h
  have stO : Stp Ow H O2 H' := ⟨fun a o h nm => st.keep a o h fun z => nm (ioOw a z), fun a h => by
    rcases (memO2 a).mp h with h | h
    · exact .inl h.1
    · rcases st.grow a h with h | h
      · exact .inl (ioOw a h)
      · exact .inr h, st.stay⟩
  have vst := step_vst (g := g) (Bn := Bn) stO fun a h => rs'.kf a (av2 a (.inr h))
  have lo : os.length = vs.length := by rw [← rs'.len, List.length_map]
  -- a slot that is not handed over
  have missA : ∀ {j : Nat} {a : Addr} {d : D}, Γ[j]? = some (some (d, true)) → σ[j]? = some (some (.ref a)) → (∀ i : Nat, xs[i]? ≠ some (.sl j)) → a ∉ Io := fun {j a d} h1 h2 h3 z => by
    obtain ⟨i, e, q1, q2⟩ := handed_mem.mp z
    obtain ⟨a2, v2, _, _, c2⟩ := ownArg q2
    rw [q1] at v2; cases v2
    rcases c2 with ⟨j2, x2, g2, s2⟩ | ⟨x2, n2⟩
    · have := rs.dist j j2 _ _ _ h1 g2 h2 s2
      subst this
      exact h3 i x2
    · exact n2 j _ h1 h2
  have cases_ : ∀ (j : Nat), (∃ (i : Nat) (d : D) (a : Addr) (o : Sl), xs[i]? = some (.sl j) ∧ Γ[j]? = some (some (d, true)) ∧ σ[j]? = some (some (.ref a)) ∧ vs[i]? = some (.ref a) ∧ a ∈ Io ∧ os[i]? = some o ∧ (putOuts Γ xs os Γ)[j]? = some o) ∨
      ((putOuts Γ xs os Γ)[j]? = Γ[j]? ∧ ∀ d, Γ[j]? = some (some (d, true)) → ∀ i : Nat, xs[i]? ≠ some (.sl j)) := fun j => by
    by_cases h : ∃ i : Nat, xs[i]? = some (.sl j) ∧ OwS Γ j
    · obtain ⟨i, h1, h2⟩ := h
      obtain ⟨d, q⟩ := h2
      obtain ⟨a, e1, m, o⟩ := rs.own j d q
      obtain ⟨v, h3, h4⟩ := hv.get h1
      have h4 : σ[j]? = some (some v) := h4
      rw [e1] at h4; cases h4
      have ai : as[i]? = some (d, true) := by
        have hi : i < as.length := by rw [l1]; exact (List.getElem?_eq_some_iff.mp h1).1
        obtain ⟨x, q1, q2⟩ := argSs_get ea (List.getElem?_eq_getElem hi)
        rw [h1] at q1; cases q1
        simp only [argS, q, Option.some.injEq] at q2
        rw [List.getElem?_eq_getElem hi, ← q2]
      have hi : i < os.length := by rw [lo]; exact (List.getElem?_eq_some_iff.mp h3).1
      refine .inl ⟨i, d, a, os[i], h1, q, e1, h3, handed_mem.mpr ⟨i, d, h3, ai⟩, List.getElem?_eq_getElem hi, put_hit ⟨d, q⟩ nd h1 (List.getElem?_eq_getElem hi) (List.getElem?_eq_some_iff.mp q).1⟩
    · exact .inr ⟨put_miss fun i e o => h ⟨i, e, o⟩, fun d q i e => h ⟨i, e, d, q⟩⟩
  have hRS : RS g Bn O2 H' σ (putOuts Γ xs os Γ) := by
    refine ⟨by rw [put_len]; exact rs.len, fun j d h => ?_, fun j d h => ?_, fun j k d e a h1 h2 h3 h4 => ?_, fun a h => rs'.trk a (av2 a h), fun a h z => ?_, fun a h => rs'.kf a (av2 a h)⟩
    · rcases cases_ j with ⟨i, d0, a, o, x1, q1, s1, v1, m1, o1, p1⟩ | ⟨p1, _⟩
      · rw [p1] at h; cases h
        obtain ⟨w, e1, rp⟩ := rs'.slot i d o1
        rw [map_some_get.mp e1] at v1; cases v1
        exact ⟨_, s1, rep_less av2 rp⟩
      · rw [p1] at h
        obtain ⟨w, e1, rp⟩ := rs.slot j d h
        exact ⟨w, e1, rep_mono vst d w rp⟩
    · rcases cases_ j with ⟨i, d0, a, o, x1, q1, s1, v1, m1, o1, p1⟩ | ⟨p1, p2⟩
      · rw [p1] at h; cases h
        obtain ⟨b, e1, m, ow⟩ := rs'.own i d o1
        rw [map_some_get.mp e1] at v1; cases v1
        exact ⟨_, s1, (memO2 _).mpr (.inr m), own_less av2 ow⟩
      · rw [p1] at h
        obtain ⟨b, e1, m, ow⟩ := rs.own j d h
        have nb := missA h e1 (p2 d h)
        refine ⟨b, e1, (memO2 _).mpr (.inl ⟨m, nb⟩), ?_⟩
        cases d with
        | lst ds => obtain ⟨ws, z1, z2⟩ := ow; exact ⟨ws, st.keep b _ z1 nb, reps_mono vst _ _ z2⟩
        | obj c ks ds => obtain ⟨dx, ws, l, z1, z2⟩ := ow; exact ⟨dx, ws, l, st.keep b _ z1 nb, reps_mono vst _ _ z2⟩
        | _ => exact ow
    · rcases cases_ j with ⟨i1, d1, a1, o1, x1, q1, s1, v1, m1, z1, p1⟩ | ⟨p1, p1'⟩ <;> rcases cases_ k with ⟨i2, d2, a2, o2, x2, q2, s2, v2, m2, z2, p2⟩ | ⟨p2, p2'⟩
      · rw [s1] at h3; cases h3
        rw [s2] at h4; cases h4
        exact rs.dist j k _ _ _ q1 q2 s1 s2
      · rw [s1] at h3; cases h3
        rw [p2] at h2
        exact absurd m1 (missA h2 h4 (p2' _ h2))
      · rw [s2] at h4; cases h4
        rw [p1] at h1
        exact absurd m2 (missA h1 h3 (p1' _ h1))
      · rw [p1] at h1; rw [p2] at h2
        exact rs.dist j k _ _ _ h1 h2 h3 h4
    · rcases (memO2 a).mp z with z | z
      · exact rs.sep a h z.1
      · rcases st.grow a z with z | z
        · exact rs.sep a h (ioOw a z)
        · exact rs.trk a (.inl h) z
  refine hQ v H' O2 stO hRS ?_
  cases r with
  | sl i => exact absurd rfl (nr i)
  | fz d => exact rep_less av2 val
  | nw d =>
    obtain ⟨a, e0, m, ow, no⟩ := val
    refine ⟨a, e0, (memO2 a).mpr (.inr m), own_less av2 ow, fun j d' h1 h2 => ?_⟩
    rcases cases_ j with ⟨i, d0, a', o, x1, q1, s1, v1, m1, o1, p1⟩ | ⟨p1, p2⟩
    · rw [s1] at h2; cases h2
      rw [p1] at h1; cases h1
      exact no i _ o1 (map_some_get.mpr v1)
    · rw [p1] at h1
      obtain ⟨b, e1, mb, _⟩ := rs.own j _ h1
      rw [h2] at e1; cases e1
      have nb := missA h1 h2 (p2 _ h1)
      rcases st.grow a m with z | z
      · exact nb z
      · exact rs.trk a (.inr mb) z
end
section
variable {X : Cx} {g : Gx} {fs : List FS} {e : Expr} {es : List Expr} {ies : List E} {x : Str} {p pos : Pos} {k lv n : Nat} {f : Addr} {fd : FuncData} {ps : List Str} {F : FS}
theorem call_core2 {Bn : Addr → Prop} {Ow : List Addr} {H : Hp} {σ : St} {Γ Γ' : Ct} {r : RV} {Q : VK} {Ex : XK} (hF : fs[k]? = some F) (hn : ies.length = n) (rs : RS g Bn Ow H σ Γ) (he : ev fs (.call k ies) Γ = some (r, Γ')) (hQ : ∀ v H' Ow', Stp Ow H Ow' H' → RS g Bn Ow' H' σ Γ' → Val g Bn Ow' H' σ Γ' r v → Q v H') :
    tCall (spF g n F) [] Ex (tAw g fs ies) σ H Q := by
  simp only [ev] at he
  obtain ⟨⟨xs, Γ1⟩, e1, he⟩ := Option.bind_eq_some_iff.mp he
  obtain ⟨F', e2, he⟩ := Option.bind_eq_some_iff.mp he
  rw [hF] at e2; cases e2
  obtain ⟨as, e3, he⟩ := Option.bind_eq_some_iff.mp he
  simp only [Option.ite_none_right_eq_some] at he
  obtain ⟨nd, he⟩ := he
  obtain ⟨⟨r', os⟩, e4, he⟩ := Option.bind_eq_some_iff.mp he
  have evl : ∀ {es : List E} {Γ Γ' : Ct} {xs : List RV}, evs fs es Γ = some (xs, Γ') → es.length = xs.length := by
    intro es
    induction es with
    | nil => intro Γ Γ' xs h; simp only [evs, Option.some.injEq, Prod.mk.injEq] at h; rw [← h.1]; rfl
    | cons a es ih =>
      intro Γ Γ' xs h
      simp only [evs] at h
      obtain ⟨⟨y, G1⟩, _, h⟩ := Option.bind_eq_some_iff.mp h
      obtain ⟨⟨ys, G2⟩, h2, h⟩ := Option.map_eq_some_iff.mp h
      simp only [Prod.mk.injEq] at h
      rw [← h.1, List.length_cons, List.length_cons, ih h2]
  refine ⟨Bn, Ow, Γ, xs, Γ1, rs, e1, fun vs H1 O1 s1 r1 v1 => ?_⟩
  show spF g n F (vs ++ []) H1 Q Ex
  rw [List.append_nil]
  have hl : vs.length = n := by rw [← v1.len, ← evl e1, hn]
  cases r' with
  | sl i => cases he
  | fz d =>
    simp only [Option.some.injEq, Prod.mk.injEq] at he
    obtain ⟨rfl, rfl⟩ := he
    exact call_core r1 v1 e3 nd e4 (fun i z => nomatch z) hl fun v H' O2 s2 r2 val => hQ v H' O2 (s1.trans s2) r2 val
  | nw d =>
    simp only [Option.some.injEq, Prod.mk.injEq] at he
    obtain ⟨rfl, rfl⟩ := he
    exact call_core r1 v1 e3 nd e4 (fun i z => nomatch z) hl fun v H' O2 s2 r2 val => hQ v H' O2 (s1.trans s2) r2 val
theorem p_call (hF : fs[k]? = some F) (hn : ies.length = n) (G : FnOk X.prog X.w X.K X.mg X.base CX0 lv f fd ps (spF g n F)) (hr : Room lv X.A) (hg : Gl X x) (hm : X.mg x = some (.ref f)) (hk : PySem.W.keepIn X.K (.ref f) = true) (hb : Binds X.K fd ps [])
    (ha : PA X (e :: es) (tAw g fs ies)) (hdb : (x == ("__debug__" : Str)) = false) (he : starEach (e :: es) X.env = (false, eval e X.env) :: starEach es X.env) (hpl : (backTo pos (starEach es X.env)).any (·.1) = false) :
    PE X (.Call (.Name x p) (e :: es) [] pos) (tR g fs (.call k ies)) := by
  refine PE.weak (pe_call G hr hg hm hk hb .nil pass0 ha hdb he hpl) ?_
  rintro σ H Q ⟨Bn, Ow, Γ, r, Γ', rs, he, hQ⟩
  exact call_core2 hF hn rs he hQ
theorem p_call0 (hF : fs[k]? = some F) (G : FnOk X.prog X.w X.K X.mg X.base CX0 lv f fd ps (spF g 0 F)) (hr : Room lv X.A) (hg : Gl X x) (hm : X.mg x = some (.ref f)) (hk : PySem.W.keepIn X.K (.ref f) = true) (hb : Binds X.K fd ps [])
    (hdb : (x == ("__debug__" : Str)) = false) : PE X (.Call (.Name x p) [] [] pos) (tR g fs (.call k [])) := by
  refine PE.weak (pe_call0 G hr hg hm hk hb .nil pass0 hdb) ?_
  rintro σ H Q ⟨Bn, Ow, Γ, r, Γ', rs, he, hQ⟩
  have q := call_core2 (Ex := E0) hF rfl rs he hQ
  obtain ⟨Bn', Ow', G0, xs, G1, rs', e1, k1⟩ := q
  simp only [evs, Option.some.injEq, Prod.mk.injEq] at e1
  obtain ⟨rfl, rfl⟩ := e1
  exact k1 [] H Ow' (.refl _ _) rs' rfl
end
end DV

namespace DV
open PySem L2
/-! ### targets -/
def tgT (K : PySem.W.Frag) : Tg → TG
  | .nm i => gName i
  | .tp ts => gTup K ts.length (tgTs K ts)
where tgTs (K : PySem.W.Frag) : List Tg → TGs
  | [] => gNil
  | t :: ts => gCons (tgT K t) (tgTs K ts)
section
variable {g : Gx} {Bn : Addr → Prop} {Ow Ow' : List Addr} {H H' : Hp} {σ : St} {Γ Γ' : Ct}
theorem RS.set {i : Nat} {d : D} {v : V} (rs : RS g Bn Ow H σ Γ) (r : Rep g (Av Bn Ow) H d v) (hi : i < Γ.length) : RS g Bn Ow H (σ.set i (some v)) (Γ.set i (some (d, false))) := by
  have hs : i < σ.length := by rw [rs.len]; exact hi
  refine ⟨by rw [List.length_set, List.length_set]; exact rs.len, fun j e h => ?_, fun j e h => ?_, fun j k e f a h1 h2 h3 h4 => ?_, rs.trk, rs.sep, rs.kf⟩
  · by_cases hj : i = j
    · subst hj
      rw [List.getElem?_set_self hi] at h; cases h
      exact ⟨v, List.getElem?_set_self hs, r⟩
    · rw [List.getElem?_set_ne hj] at h
      rw [List.getElem?_set_ne hj]
      exact rs.slot j e h
  · by_cases hj : i = j
    · subst hj
      rw [List.getElem?_set_self hi] at h; cases h
    · rw [List.getElem?_set_ne hj] at h
      rw [List.getElem?_set_ne hj]
      exact rs.own j e h
  · have n1 : i ≠ j := fun z => by subst z; rw [List.getElem?_set_self hi] at h1; cases h1
    have n2 : i ≠ k := fun z => by subst z; rw [List.getElem?_set_self hi] at h2; cases h2
    rw [List.getElem?_set_ne n1] at h1 h3
    rw [List.getElem?_set_ne n2] at h2 h4
    exact rs.dist j k _ _ _ h1 h2 h3 h4
theorem RS.setO {i : Nat} {d : D} {v : V} (rs : RS g Bn Ow H σ Γ) (r : Val g Bn Ow H σ Γ (.nw d) v) (hi : i < Γ.length) : RS g Bn Ow H (σ.set i (some v)) (Γ.set i (some (d, true))) := by
  have hs : i < σ.length := by rw [rs.len]; exact hi
  obtain ⟨a, rfl, m, o, no⟩ := r
  refine ⟨by rw [List.length_set, List.length_set]; exact rs.len, fun j e h => ?_, fun j e h => ?_, fun j k e f b h1 h2 h3 h4 => ?_, rs.trk, rs.sep, rs.kf⟩
  · by_cases hj : i = j
    · subst hj
      rw [List.getElem?_set_self hi] at h; cases h
    · rw [List.getElem?_set_ne hj] at h
      rw [List.getElem?_set_ne hj]
      exact rs.slot j e h
  · by_cases hj : i = j
    · subst hj
      rw [List.getElem?_set_self hi] at h; cases h
      exact ⟨a, List.getElem?_set_self hs, m, o⟩
    · rw [List.getElem?_set_ne hj] at h
      rw [List.getElem?_set_ne hj]
      exact rs.own j e h
  · by_cases n1 : i = j <;> by_cases n2 : i = k
    · omega
    · subst n1
      rw [List.getElem?_set_self hs] at h3; cases h3
      rw [List.getElem?_set_ne n2] at h2 h4
      exact absurd h4 (no k f h2)
    · subst n2
      rw [List.getElem?_set_self hs] at h4; cases h4
      rw [List.getElem?_set_ne n1] at h1 h3
      exact absurd h3 (no j e h1)
    · rw [List.getElem?_set_ne n1] at h1 h3
      rw [List.getElem?_set_ne n2] at h2 h4
      exact rs.dist j k _ _ _ h1 h2 h3 h4
mutual
theorem asgT_ok : ∀ (t : Tg) {d : D} {v : V} {σ : St} {Γ Γ' : Ct} {Q : St → Hp → Prop}, RS g Bn Ow H σ Γ → Rep g (Av Bn Ow) H d v → asgT t d Γ = some Γ' →
    (∀ σ', RS g Bn Ow H σ' Γ' → σ'.length = σ.length → (∀ i, i ∉ tgIx t → σ'[i]? = σ[i]?) → Q σ' H) → tgT g.K t v σ H Q
  | .nm i, d, v, σ, Γ, Γ', Q, rs, r, e, k => by
    simp only [asgT, Option.ite_none_right_eq_some, Option.some.injEq] at e
    obtain ⟨hi, rfl⟩ := e
    refine k _ (rs.set r hi) List.length_set fun j hj => ?_
    rw [List.getElem?_set_ne]
    intro z
    subst z
    simp [tgIx] at hj
  | .tp ts, d, v, σ, Γ, Γ', Q, rs, r, e, k => by
    cases d <;> simp only [asgT, reduceCtorEq] at e
    simp only [Rep] at r
    obtain ⟨a, vs, rfl, _, s, rr⟩ := r
    have hl : ts.length = vs.length := by
      rw [← rr.len]
      have : ∀ (ts : List Tg) (ds : List D) (Γ Γ' : Ct), asgT.asgTs ts ds Γ = some Γ' → ts.length = ds.length := by
        intro ts
        induction ts with
        | nil => intro ds Γ Γ' h; cases ds with
          | nil => rfl
          | cons => simp only [asgT.asgTs, reduceCtorEq] at h
        | cons t ts ih => intro ds Γ Γ' h; cases ds with
          | nil => simp only [asgT.asgTs, reduceCtorEq] at h
          | cons d ds =>
            simp only [asgT.asgTs] at h
            obtain ⟨G1, _, h⟩ := Option.bind_eq_some_iff.mp h
            rw [List.length_cons, List.length_cons, ih _ _ _ h]
      exact this _ _ _ _ e
    exact ⟨a, vs, rfl, s, hl.symm, asgTs_ok ts rs rr e fun σ' q1 q2 q3 => k σ' q1 q2 fun i hi => q3 i (by simpa only [tgIx] using hi)⟩
theorem asgTs_ok : ∀ (ts : List Tg) {ds : List D} {vs : List V} {σ : St} {Γ Γ' : Ct} {Q : St → Hp → Prop}, RS g Bn Ow H σ Γ → Reps g (Av Bn Ow) H ds vs → asgT.asgTs ts ds Γ = some Γ' →
    (∀ σ', RS g Bn Ow H σ' Γ' → σ'.length = σ.length → (∀ i, i ∉ tgIx.tgIxs ts → σ'[i]? = σ[i]?) → Q σ' H) → tgT.tgTs g.K ts vs σ H Q
  | [], ds, vs, σ, Γ, Γ', Q, rs, r, e, k => by
    cases ds <;> simp only [asgT.asgTs, reduceCtorEq, Option.some.injEq] at e
    subst e
    simp only [Reps] at r
    exact ⟨r, k σ rs rfl fun _ _ => rfl⟩
  | t :: ts, ds, vs, σ, Γ, Γ', Q, rs, r, e, k => by
    cases ds with
    | nil => simp only [asgT.asgTs, reduceCtorEq] at e
    | cons d ds =>
      simp only [asgT.asgTs] at e
      obtain ⟨G1, e1, e⟩ := Option.bind_eq_some_iff.mp e
      simp only [Reps] at r
      obtain ⟨v, w, rfl, r1, r2⟩ := r
      refine ⟨v, w, rfl, asgT_ok t rs r1 e1 fun σ1 q1 q2 q3 => asgTs_ok ts q1 r2 e fun σ2 p1 p2 p3 => k σ2 p1 (p2.trans q2) fun i hi => ?_⟩
      simp only [tgIx.tgIxs, List.mem_append, not_or] at hi
      rw [p3 i hi.2, q3 i hi.1]
end

/-! ### what is walked -/
structure WalkD (g : Gx) (Bn : Addr → Prop) (Ow : List Addr) (H : Hp) (J : It) (ds : List D) : Prop where
  go : ∀ i H', i < ds.length → (∀ a o, H a = some o → a ∉ Ow → H' a = some o) → J.go i H'
  stop : ∀ H', (∀ a o, H a = some o → a ∉ Ow → H' a = some o) → J.stop ds.length H'
  same : ∀ i H' x H'', J.yld i H' x H'' → Same H' H''
  yld : ∀ (i : Nat) d Bn' Ow' H' σ' Γ' x H'', ds[i]? = some d → (∀ a, Bn a → Bn' a) → (∀ a, Bn' a → Bn a ∨ H a = none) → Stp Ow H Ow' H' → RS g Bn' Ow' H' σ' Γ' → J.yld i H' x H'' → Same H' H'' ∧ Rep g (Av Bn' Ow') H'' d x
theorem vst2 {Bn' : Addr → Prop} (hB : ∀ a, Bn' a → Bn a ∨ H a = none) (s : Stp Ow H Ow' H') (rs : RS g Bn' Ow' H' σ Γ) : ∀ a, Vst g (Av Bn Ow) H a → (∀ o, H a = some o → H' a = some o) ∧ ¬ Av Bn' Ow' a := fun a ⟨n, t⟩ => by
  refine ⟨fun o h => s.keep a o h fun z => n (.inr z), fun z => ?_⟩
  rcases t with ⟨o, t⟩ | ⟨o, t⟩
  · rcases z with z | z
    · rcases hB a z with z | z
      · exact n (.inl z)
      · rw [z] at t; cases t
    · rcases s.grow a z with z | z
      · exact n (.inr z)
      · rw [z] at t; cases t
  · rw [rs.kf a z] at t; cases t
theorem walk_list {a : Addr} {vs : List V} {ds : List D} (na : a ∉ Ow) (h : H a = some (.lst vs)) (r : Reps g (Av Bn Ow) H ds vs) : WalkD g Bn Ow H (Itl g.K a) ds where
  go := fun i H' hi k => by
    have hi' : i < vs.length := by rw [← r.len]; exact hi
    exact ⟨vs, vs[i], .inl (.inl (k a _ h na)), List.getElem?_eq_getElem hi'⟩
  stop := fun H' k => ⟨vs, .inl (.inl (k a _ h na)), by rw [r.len]; exact Nat.le_refl _⟩
  same := fun i H' x H'' y => by obtain ⟨rfl, _⟩ := y; exact same_rfl _
  yld := fun i d Bn' Ow' H' σ' Γ' x H'' e b1 b2 s rs y => by
    obtain ⟨rfl, y⟩ := y
    obtain ⟨v, e1, r1⟩ := r.get e
    have e2 := y vs (.inl (.inl (s.keep a _ h na)))
    rw [e1] at e2; cases e2
    exact ⟨same_rfl _, rep_mono (vst2 b2 s rs) _ _ r1⟩
theorem walk_tup {a : Addr} {vs : List V} {ds : List D} (na : a ∉ Ow) (h : SqT g.K H a vs) (r : Reps g (Av Bn Ow) H ds vs) : WalkD g Bn Ow H (Itt g.K a) ds where
  go := fun i H' hi k => by
    have hi' : i < vs.length := by rw [← r.len]; exact hi
    exact ⟨vs, vs[i], sqT_mono h fun o e => k a o e na, List.getElem?_eq_getElem hi'⟩
  stop := fun H' k => ⟨vs, sqT_mono h fun o e => k a o e na, by rw [r.len]; exact Nat.le_refl _⟩
  same := fun i H' x H'' y => by obtain ⟨rfl, _⟩ := y; exact same_rfl _
  yld := fun i d Bn' Ow' H' σ' Γ' x H'' e b1 b2 s rs y => by
    obtain ⟨rfl, y⟩ := y
    obtain ⟨v, e1, r1⟩ := r.get e
    have e2 := y vs (sqT_mono h fun o e => s.keep a o e na)
    rw [e1] at e2; cases e2
    exact ⟨same_rfl _, rep_mono (vst2 b2 s rs) _ _ r1⟩
theorem enumD_get : ∀ {ds : List D} {n i : Nat} {d : D}, (enumD n ds)[i]? = some d → ∃ e, ds[i]? = some e ∧ d = .tup [.int ((n + i : Nat) : Int), e]
  | [], n, i, d, h => by simp [enumD] at h
  | e :: ds, n, 0, d, h => by simp [enumD] at h; subst h; exact ⟨e, rfl, rfl⟩
  | e :: ds, n, i + 1, d, h => by
    simp only [enumD, List.getElem?_cons_succ] at h
    obtain ⟨f, h1, h2⟩ := enumD_get h
    exact ⟨f, by simpa using h1, by rw [h2, show n + 1 + i = n + (i + 1) by omega]⟩
theorem enumD_len : ∀ (ds : List D) (n : Nat), (enumD n ds).length = ds.length
  | [], _ => rfl
  | _ :: ds, n => by simp only [enumD, List.length_cons]; rw [enumD_len ds (n + 1)]
theorem zipD_get : ∀ {ds es : List D} {i : Nat} {d : D}, (zipD ds es)[i]? = some d → ∃ a b, ds[i]? = some a ∧ es[i]? = some b ∧ d = .tup [a, b]
  | [], es, i, d, h => by simp [zipD] at h
  | a :: ds, [], i, d, h => by simp [zipD] at h
  | a :: ds, b :: es, 0, d, h => by simp [zipD] at h; subst h; exact ⟨a, b, rfl, rfl, rfl⟩
  | a :: ds, b :: es, i + 1, d, h => by
    simp only [zipD, List.getElem?_cons_succ] at h
    obtain ⟨x, y, h1, h2, h3⟩ := zipD_get h
    exact ⟨x, y, by simpa using h1, by simpa using h2, h3⟩
theorem zipD_len : ∀ (ds es : List D), (zipD ds es).length = min ds.length es.length
  | [], es => by simp [zipD]
  | a :: ds, [] => by simp [zipD]
  | a :: ds, b :: es => by simp only [zipD, List.length_cons]; rw [zipD_len ds es]; omega
theorem tup2 {Bn' : Addr → Prop} {T : Addr} {d e : D} {x y : V} {H'' : Hp} (nT : H' T = none) (e0 : H'' = upd H' T (.tup [x, y])) (tr : ∀ a, Av Bn' Ow' a → H' a ≠ none) (r1 : Rep g (Av Bn' Ow') H' d x) (r2 : Rep g (Av Bn' Ow') H' e y) : Same H' H'' ∧ Rep g (Av Bn' Ow') H'' (.tup [d, e]) (.ref T) := by
  subst e0
  refine ⟨same_new nT, ?_⟩
  simp only [Rep]
  refine ⟨T, [x, y], rfl, fun z => tr T z nT, .inl (.inl upd_same), ?_⟩
  simp only [Reps]
  exact ⟨_, _, rfl, r1.same (same_new nT), _, _, rfl, r2.same (same_new nT), rfl⟩
theorem walk_enum {a : Addr} {vs : List V} {ds : List D} (na : a ∉ Ow) (h : H a = some (.lst vs)) (r : Reps g (Av Bn Ow) H ds vs) : WalkD g Bn Ow H (Ite g.K a) (enumD 0 ds) where
  go := fun i H' hi k => by
    rw [enumD_len] at hi
    have hi' : i < vs.length := by rw [← r.len]; exact hi
    exact ⟨vs, vs[i], .inl (.inl (k a _ h na)), List.getElem?_eq_getElem hi'⟩
  stop := fun H' k => ⟨vs, .inl (.inl (k a _ h na)), by rw [enumD_len, r.len]; exact Nat.le_refl _⟩
  same := fun i H' x H'' y => by obtain ⟨T, v, rfl, nT, rfl, _⟩ := y; exact same_new nT
  yld := fun i d Bn' Ow' H' σ' Γ' x H'' e b1 b2 s rs y => by
    obtain ⟨T, v, rfl, nT, e0, y⟩ := y
    obtain ⟨f, e1, rfl⟩ := enumD_get e
    obtain ⟨w, e2, r1⟩ := r.get e1
    have e3 := y vs (.inl (.inl (s.keep a _ h na)))
    rw [e2] at e3; cases e3
    rw [Nat.zero_add]
    exact tup2 nT e0 rs.trk (by simp only [Rep]) (rep_mono (vst2 b2 s rs) _ _ r1)
theorem walk_zip {a b : Addr} {vs ws : List V} {ds es : List D} (na : a ∉ Ow) (nb : b ∉ Ow) (h : H a = some (.lst vs)) (h' : H b = some (.lst ws)) (r : Reps g (Av Bn Ow) H ds vs) (r' : Reps g (Av Bn Ow) H es ws) : WalkD g Bn Ow H (Itz g.K a b) (zipD ds es) where
  go := fun i H' hi k => by
    rw [zipD_len] at hi
    have hi1 : i < vs.length := by rw [← r.len]; omega
    have hi2 : i < ws.length := by rw [← r'.len]; omega
    exact ⟨vs, ws, vs[i], ws[i], .inl (.inl (k a _ h na)), .inl (.inl (k b _ h' nb)), List.getElem?_eq_getElem hi1, List.getElem?_eq_getElem hi2⟩
  stop := fun H' k => ⟨vs, ws, .inl (.inl (k a _ h na)), .inl (.inl (k b _ h' nb)), by
    rw [zipD_len, ← r.len, ← r'.len]
    omega⟩
  same := fun i H' x H'' y => by obtain ⟨T, v, w, rfl, nT, rfl, _⟩ := y; exact same_new nT
  yld := fun i d Bn' Ow' H' σ' Γ' x H'' e b1 b2 s rs y => by
    obtain ⟨T, v, w, rfl, nT, e0, y1, y2⟩ := y
    obtain ⟨p, q, e1, e2, rfl⟩ := zipD_get e
    obtain ⟨v', e3, r1⟩ := r.get e1
    obtain ⟨w', e4, r2⟩ := r'.get e2
    have e5 := y1 vs (.inl (.inl (s.keep a _ h na)))
    have e6 := y2 ws (.inl (.inl (s.keep b _ h' nb)))
    rw [e3] at e5; cases e5
    rw [e4] at e6; cases e6
    exact tup2 nT e0 rs.trk (rep_mono (vst2 b2 s rs) _ _ r1) (rep_mono (vst2 b2 s rs) _ _ r2)
theorem rngD_get : ∀ {n : Nat} {lo c : Int} {i : Nat} {d : D}, (rngD lo c n)[i]? = some d → i < n ∧ d = .int (lo + (i : Nat) * c)
  | 0, lo, c, i, d, h => by simp [rngD] at h
  | n + 1, lo, c, 0, d, h => by simp [rngD] at h; subst h; exact ⟨by omega, by simp⟩
  | n + 1, lo, c, i + 1, d, h => by
    simp only [rngD, List.getElem?_cons_succ] at h
    obtain ⟨h1, h2⟩ := rngD_get h
    refine ⟨by omega, ?_⟩
    rw [h2]
    have : lo + c + (i : Int) * c = lo + ((i + 1 : Nat) : Int) * c := by
      have : ((i + 1 : Nat) : Int) = (i : Int) + 1 := by omega
      rw [this, Int.add_mul]; omega
    rw [this]
theorem rngD_len : ∀ (n : Nat) (lo c : Int), (rngD lo c n).length = n
  | 0, _, _ => rfl
  | n + 1, lo, c => by simp only [rngD, List.length_cons]; rw [rngD_len n]
theorem walk_rng (lo : Int) (n : Nat) : WalkD g Bn Ow H (Itr lo n) (rngD lo 1 n) where
  go := fun i H' hi k => by rw [rngD_len] at hi; exact hi
  stop := fun H' k => by rw [rngD_len]; exact Nat.le_refl _
  same := fun i H' x H'' y => by obtain ⟨rfl, _⟩ := y; exact same_rfl _
  yld := fun i d Bn' Ow' H' σ' Γ' x H'' e b1 b2 s rs y => by
    obtain ⟨rfl, rfl⟩ := y
    obtain ⟨_, rfl⟩ := rngD_get e
    exact ⟨same_rfl _, by simp only [Rep, Int.mul_one]⟩
theorem walk_rngC (lo c : Int) (n : Nat) : WalkD g Bn Ow H (Itc lo c n) (rngD lo c n) where
  go := fun i H' hi k => by rw [rngD_len] at hi; exact hi
  stop := fun H' k => by rw [rngD_len]; exact Nat.le_refl _
  same := fun i H' x H'' y => by obtain ⟨rfl, _⟩ := y; exact same_rfl _
  yld := fun i d Bn' Ow' H' σ' Γ' x H'' e b1 b2 s rs y => by
    obtain ⟨rfl, rfl⟩ := y
    obtain ⟨_, rfl⟩ := rngD_get e
    exact ⟨same_rfl _, by simp only [Rep]⟩
end
def tI (g : Gx) (fs : List FS) (ik : IK) (its : List E) : TI := fun σ H R => ∃ Bn Ow Γ xs Γ1 ds Γ2, RS g Bn Ow H σ Γ ∧ evs fs its Γ = some (xs, Γ1) ∧ iterD ik xs Γ1 = some (ds, Γ2) ∧ ∀ J H' Ow', Stp Ow H Ow' H' → RS g Bn Ow' H' σ Γ2 → WalkD g Bn Ow' H' J ds → R J H'
section
variable {X : Cx} {g : Gx} {fs : List FS} {tg l : Expr} {il : E} {p pos tpos : Pos} {elts : List Expr} {kk : Nat} {es : List Expr} {ies : List E}
theorem PI.weak {it : Expr} {w w' : TI} (h : PI X tg it w) (k : ∀ σ H R, w' σ H R → w σ H R) : PI X tg it w' := ⟨fun pins s σ H R I q => h.run pins s σ H R I (k σ H R q)⟩
theorem PI.or {it : Expr} {w w' : TI} (h : PI X tg it w) (h' : PI X tg it w') : PI X tg it (fun σ H R => w σ H R ∨ w' σ H R) := ⟨fun pins s σ H R I q => q.elim (fun q => h.run pins s σ H R I q) fun q => h'.run pins s σ H R I q⟩
theorem evs_one {Γ Γ1 : Ct} {xs : List RV} (h : evs fs [il] Γ = some (xs, Γ1)) : ∃ x, xs = [x] ∧ ev fs il Γ = some (x, Γ1) := by
  simp only [evs] at h
  obtain ⟨⟨x, G⟩, e1, h⟩ := Option.bind_eq_some_iff.mp h
  simp only [Option.map_some, Option.some.injEq, Prod.mk.injEq] at h
  obtain ⟨rfl, rfl⟩ := h
  exact ⟨x, rfl, e1⟩
/-- by what is walked, on what the value says: a list, a tuple -/
theorem i_seq_or (C : Cok g X) (h : PI X tg l (fun σ H R => iList X.K (tR g fs il) σ H R ∨ iTup X.K (tR g fs il) σ H R)) : PI X tg l (tI g fs .seq [il]) := by
  refine PI.weak h ?_
  rintro σ H R ⟨Bn, Ow, Γ, xs, Γ1, ds, Γ2, rs, e1, e2, k⟩
  obtain ⟨x, rfl, e9⟩ := evs_one e1
  simp only [iterD] at e2
  obtain ⟨⟨d, G2⟩, e3, e2⟩ := Option.bind_eq_some_iff.mp e2
  cases d <;> simp only [reduceCtorEq, Option.some.injEq, Prod.mk.injEq] at e2
  · obtain ⟨rfl, rfl⟩ := e2
    refine .inl ⟨Bn, Ow, Γ, x, Γ1, rs, e9, fun v H1 O1 s1 r1 v1 => ?_⟩
    obtain ⟨O2, s2, r2, rp⟩ := fre_ok r1 v1 e3
    simp only [Rep] at rp
    obtain ⟨a, vs, rfl, na, ha, rr⟩ := rp
    refine ⟨a, rfl, ⟨vs, .inl (.inl ha)⟩, ?_⟩
    rw [C.K]
    exact k _ H1 O2 (s1.trans s2) r2 (walk_list (fun z => na (.inr z)) ha rr)
  · obtain ⟨rfl, rfl⟩ := e2
    refine .inr ⟨Bn, Ow, Γ, x, Γ1, rs, e9, fun v H1 O1 s1 r1 v1 => ?_⟩
    obtain ⟨O2, s2, r2, rp⟩ := fre_ok r1 v1 e3
    simp only [Rep] at rp
    obtain ⟨a, vs, rfl, na, ha, rr⟩ := rp
    refine ⟨a, rfl, ⟨vs, by rw [C.K]; exact ha⟩, ?_⟩
    rw [C.K]
    exact k _ H1 O2 (s1.trans s2) r2 (walk_tup (fun z => na (.inr z)) ha rr)
theorem i_seq (C : Cok g X) (hl : PE X l (tR g fs il)) : PI X tg l (tI g fs .seq [il]) := i_seq_or C (PI.or (pi_list hl) (pi_tup hl))
theorem i_enum (C : Cok g X) (hg : Gl X "enumerate") (hm : X.mg "enumerate" = none) (ha : PA X [l] (tAs g fs [il])) (hs : starEach [l] X.env = [(false, eval l X.env)]) : PI X (.Tuple elts kk tpos) (.Call (.Name "enumerate" p) [l] [] pos) (tI g fs .enum [il]) := by
  refine PI.weak (pi_enum hg hm ha hs) ?_
  rintro σ H R ⟨Bn, Ow, Γ, xs, Γ1, ds, Γ2, rs, e1, e2, k⟩
  refine ⟨Bn, Ow, Γ, xs, Γ1, rs, e1, fun vs H1 O1 s1 r1 v1 => ?_⟩
  obtain ⟨x, rfl, e1⟩ := evs_one e1
  simp only [iterD] at e2
  obtain ⟨⟨d, G2⟩, e3, e2⟩ := Option.bind_eq_some_iff.mp e2
  cases d <;> simp only [reduceCtorEq, Option.some.injEq, Prod.mk.injEq] at e2
  obtain ⟨rfl, rfl⟩ := e2
  obtain ⟨v, w, rfl, v1, z⟩ := v1
  have z : w = [] := z
  subst z
  rw [← fre_dn] at e3
  obtain ⟨O2, s2, r2, rp⟩ := fre_ok r1 v1 e3
  simp only [Rep] at rp
  obtain ⟨a, vs, rfl, na, ha, rr⟩ := rp
  refine ⟨a, vs, rfl, .inl (.inl ha), ?_⟩
  rw [C.K]
  exact k _ H1 O2 (s1.trans s2) r2 (walk_enum (fun z => na (.inr z)) ha rr)
theorem i_zip {l2 : Expr} {il2 : E} (C : Cok g X) (hg : Gl X "zip") (hm : X.mg "zip" = none) (ha : PA X [l, l2] (tAs g fs [il, il2])) (hs : starEach [l, l2] X.env = (false, eval l X.env) :: starEach [l2] X.env) (hpl : (backTo pos (starEach [l2] X.env)).any (·.1) = false) :
    PI X (.Tuple elts kk tpos) (.Call (.Name "zip" p) [l, l2] [] pos) (tI g fs .zip [il, il2]) := by
  refine PI.weak (pi_zip hg hm ha hs hpl) ?_
  rintro σ H R ⟨Bn, Ow, Γ, xs, Γ1, ds, Γ2, rs, e1, e2, k⟩
  refine ⟨Bn, Ow, Γ, xs, Γ1, rs, e1, fun vs H1 O1 s1 r1 v1 => ?_⟩
  simp only [evs] at e1
  obtain ⟨⟨x, G1⟩, e3, e1⟩ := Option.bind_eq_some_iff.mp e1
  obtain ⟨⟨ys, G2⟩, e4, e1⟩ := Option.map_eq_some_iff.mp e1
  obtain ⟨⟨y, G3⟩, e5, e4⟩ := Option.bind_eq_some_iff.mp e4
  simp only [Option.map_some, Option.some.injEq, Prod.mk.injEq] at e4 e1
  obtain ⟨rfl, rfl⟩ := e4
  obtain ⟨rfl, rfl⟩ := e1
  simp only [iterD] at e2
  obtain ⟨⟨d, F1⟩, e6, e2⟩ := Option.bind_eq_some_iff.mp e2
  obtain ⟨⟨e, F2⟩, e7, e2⟩ := Option.bind_eq_some_iff.mp e2
  cases d <;> cases e <;> simp only [reduceCtorEq, Option.some.injEq, Prod.mk.injEq] at e2
  obtain ⟨rfl, rfl⟩ := e2
  obtain ⟨v, w, rfl, v1, w', w'', rfl, v2, z⟩ := v1
  have z : w'' = [] := z
  subst z
  rw [← fre_dn] at e6 e7
  obtain ⟨O2, s2, r2, rp⟩ := fre_ok r1 v1 e6
  obtain ⟨O3, s3, r3, rq⟩ := fre_ok r2 (v2.step s2 r2) e7
  have rp := rp.step s3 r3
  simp only [Rep] at rp rq
  obtain ⟨a, vs, rfl, na, ha, rr⟩ := rp
  obtain ⟨b, ws, rfl, nb, hb, rr'⟩ := rq
  refine ⟨a, b, vs, ws, rfl, .inl (.inl ha), .inl (.inl hb), ?_⟩
  rw [C.K]
  exact k _ H1 O3 ((s1.trans s2).trans s3) r3 (walk_zip (fun z => na (.inr z)) (fun z => nb (.inr z)) ha hb rr rr')
theorem in62_of {i : Int} (h : in62 i = true) : -(2 ^ 62) ≤ i ∧ i < 2 ^ 62 := by
  unfold in62 at h
  have h := of_decide_eq_true h
  by_cases h0 : i.natAbs = 0
  · omega
  · rw [Nat.log2_lt h0] at h
    omega
theorem i_rng1 {a : Expr} {ia : E} (C : Cok g X) (hg : Gl X "range") (hm : X.mg "range" = none) (ha : PA X [a] (tAs g fs [ia])) (hs : starEach [a] X.env = [(false, eval a X.env)]) : PI X tg (.Call (.Name "range" p) [a] [] pos) (tI g fs .rng [ia]) := by
  refine PI.weak (pi_range1 hg hm ha hs) ?_
  rintro σ H R ⟨Bn, Ow, Γ, xs, Γ1, ds, Γ2, rs, e1, e2, k⟩
  refine ⟨Bn, Ow, Γ, xs, Γ1, rs, e1, fun vs H1 O1 s1 r1 v1 => ?_⟩
  obtain ⟨x, rfl, e1⟩ := evs_one e1
  simp only [iterD] at e2
  obtain ⟨dd, e3, e2⟩ := Option.bind_eq_some_iff.mp e2
  have pd := datums_ok r1 v1 e3
  simp only [datums] at e3
  obtain ⟨d, _, e3⟩ := Option.bind_eq_some_iff.mp e3
  simp only [Option.map_some, Option.some.injEq] at e3
  subst e3
  cases d <;> simp only [reduceCtorEq, Option.ite_none_right_eq_some, Option.some.injEq, Prod.mk.injEq] at e2
  obtain ⟨h6, rfl, rfl⟩ := e2
  obtain ⟨v, rfl, q⟩ := paired1 pd
  rw [rdb_int q]
  exact ⟨_, rfl, (in62_of h6).1, (in62_of h6).2, k _ H1 O1 s1 r1 (walk_rng _ _)⟩
theorem i_rng2 {a b : Expr} {ia ib : E} (C : Cok g X) (hg : Gl X "range") (hm : X.mg "range" = none) (ha : PA X [a, b] (tAs g fs [ia, ib])) (hs : starEach [a, b] X.env = [(false, eval a X.env), (false, eval b X.env)]) (hs2 : starEach [b] X.env = [(false, eval b X.env)]) :
    PI X tg (.Call (.Name "range" p) [a, b] [] pos) (tI g fs .rng [ia, ib]) := by
  refine PI.weak (pi_range2 hg hm ha hs hs2) ?_
  rintro σ H R ⟨Bn, Ow, Γ, xs, Γ1, ds, Γ2, rs, e1, e2, k⟩
  refine ⟨Bn, Ow, Γ, xs, Γ1, rs, e1, fun vs H1 O1 s1 r1 v1 => ?_⟩
  simp only [evs] at e1
  obtain ⟨⟨x, G1⟩, _, e1⟩ := Option.bind_eq_some_iff.mp e1
  obtain ⟨⟨ys, G2⟩, e4, e1⟩ := Option.map_eq_some_iff.mp e1
  obtain ⟨⟨y, G3⟩, _, e4⟩ := Option.bind_eq_some_iff.mp e4
  simp only [Option.map_some, Option.some.injEq, Prod.mk.injEq] at e4 e1
  obtain ⟨rfl, rfl⟩ := e4
  obtain ⟨rfl, rfl⟩ := e1
  simp only [iterD] at e2
  obtain ⟨dd, e3, e2⟩ := Option.bind_eq_some_iff.mp e2
  have pd := datums_ok r1 v1 e3
  simp only [datums] at e3
  obtain ⟨d, _, e3⟩ := Option.bind_eq_some_iff.mp e3
  obtain ⟨dr, e5, e3⟩ := Option.map_eq_some_iff.mp e3
  obtain ⟨e, _, e5⟩ := Option.bind_eq_some_iff.mp e5
  simp only [Option.map_some, Option.some.injEq] at e5
  subst e5 e3
  cases d <;> cases e <;> simp only [reduceCtorEq, Option.ite_none_right_eq_some, Option.some.injEq, Prod.mk.injEq, Bool.and_eq_true] at e2
  obtain ⟨⟨h6, h7⟩, rfl, rfl⟩ := e2
  obtain ⟨v, w, rfl, q, q'⟩ := paired2 pd
  rw [rdb_int q, rdb_int q']
  exact ⟨_, _, rfl, ⟨(in62_of h6).1, (in62_of h6).2, (in62_of h7).1, (in62_of h7).2⟩, k _ H1 O1 s1 r1 (walk_rng _ _)⟩
theorem i_rng3 {a b c : Expr} {ia ib ic : E} (C : Cok g X) (hg : Gl X "range") (hm : X.mg "range" = none) (ha : PA X [a, b, c] (tAs g fs [ia, ib, ic])) (hs : starEach [a, b, c] X.env = (false, eval a X.env) :: starEach [b, c] X.env) (hpl : (backTo pos (starEach [b, c] X.env)).any (·.1) = false) :
    PI X tg (.Call (.Name "range" p) [a, b, c] [] pos) (tI g fs .rng [ia, ib, ic]) := by
  refine PI.weak (pi_range3 hg hm ha hs hpl) ?_
  rintro σ H R ⟨Bn, Ow, Γ, xs, Γ1, ds, Γ2, rs, e1, e2, k⟩
  refine ⟨Bn, Ow, Γ, xs, Γ1, rs, e1, fun vs H1 O1 s1 r1 v1 => ?_⟩
  simp only [evs] at e1
  obtain ⟨⟨x, G1⟩, _, e1⟩ := Option.bind_eq_some_iff.mp e1
  obtain ⟨⟨ys, G2⟩, e4, e1⟩ := Option.map_eq_some_iff.mp e1
  obtain ⟨⟨y, G3⟩, _, e4⟩ := Option.bind_eq_some_iff.mp e4
  obtain ⟨⟨zs, G4⟩, e5, e4⟩ := Option.map_eq_some_iff.mp e4
  obtain ⟨⟨z, G5⟩, _, e5⟩ := Option.bind_eq_some_iff.mp e5
  simp only [Option.map_some, Option.some.injEq, Prod.mk.injEq] at e5 e4 e1
  obtain ⟨rfl, rfl⟩ := e5
  obtain ⟨rfl, rfl⟩ := e4
  obtain ⟨rfl, rfl⟩ := e1
  simp only [iterD] at e2
  obtain ⟨dd, e3, e2⟩ := Option.bind_eq_some_iff.mp e2
  have pd := datums_ok r1 v1 e3
  simp only [datums] at e3
  obtain ⟨d, _, e3⟩ := Option.bind_eq_some_iff.mp e3
  obtain ⟨dr, e6, e3⟩ := Option.map_eq_some_iff.mp e3
  obtain ⟨e, _, e6⟩ := Option.bind_eq_some_iff.mp e6
  obtain ⟨er, e7, e6⟩ := Option.map_eq_some_iff.mp e6
  obtain ⟨f, _, e7⟩ := Option.bind_eq_some_iff.mp e7
  simp only [Option.map_some, Option.some.injEq] at e7
  subst e7 e6 e3
  cases d <;> cases e <;> cases f <;> simp only [reduceCtorEq, Option.ite_none_right_eq_some, Option.some.injEq, Prod.mk.injEq] at e2
  obtain ⟨⟨h6, h7, h8, h9⟩, rfl, rfl⟩ := e2
  cases pd with
  | cons q1 pd =>
    cases pd with
    | cons q2 pd =>
      cases pd with
      | cons q3 pd =>
        cases pd
        rw [rdb_int q1, rdb_int q2, rdb_int q3]
        exact ⟨_, _, _, _, rfl, ⟨h6, h7, h8, h9⟩, k _ H1 O1 s1 r1 (walk_rngC _ _ _)⟩
end
end DV

namespace DV
open PySem L2
/-! ### slots wiped and restored -/
theorem wipe_nout {σ : St} {i : Nat} : ∀ {vs : List Nat}, i ∉ vs → (wipe σ vs)[i]? = σ[i]?
  | [], _ => rfl
  | v :: vs, h => by
    simp only [List.mem_cons, not_or] at h
    unfold wipe
    rw [List.getElem?_set_ne (fun z => h.1 z.symm)]
    exact wipe_nout h.2
theorem wipe_in {σ : St} {i : Nat} : ∀ {vs : List Nat}, i ∈ vs → i < σ.length → (wipe σ vs)[i]? = some none
  | v :: vs, h, hl => by
    unfold wipe
    by_cases e : v = i
    · subst e
      exact List.getElem?_set_self (by rw [wipe_length]; exact hl)
    · rw [List.getElem?_set_ne e]
      rcases List.mem_cons.mp h with h | h
      · exact absurd h.symm e
      · exact wipe_in h hl
theorem wipeG_len (Γ : Ct) : ∀ vs : List Nat, (wipeG Γ vs).length = Γ.length
  | [] => rfl
  | v :: vs => by unfold wipeG; rw [List.length_set, wipeG_len Γ vs]
theorem wipeG_some {Γ : Ct} {i : Nat} {p : D × Bool} : ∀ {vs : List Nat}, (wipeG Γ vs)[i]? = some (some p) → Γ[i]? = some (some p) ∧ i ∉ vs
  | [], h => ⟨h, by simp⟩
  | v :: vs, h => by
    unfold wipeG at h
    by_cases e : v = i
    · subst e
      by_cases hl : v < (wipeG Γ vs).length
      · rw [List.getElem?_set_self hl] at h; cases h
      · rw [List.getElem?_eq_none (by rw [List.length_set]; omega)] at h; cases h
    · rw [List.getElem?_set_ne e] at h
      obtain ⟨h1, h2⟩ := wipeG_some h
      exact ⟨h1, by simp only [List.mem_cons, not_or]; exact ⟨fun z => e z.symm, h2⟩⟩
theorem restG_len (Γ Γ' : Ct) : ∀ vs : List Nat, (restG Γ Γ' vs).length = Γ'.length
  | [] => rfl
  | v :: vs => by unfold restG; rw [List.length_set, restG_len Γ Γ' vs]
theorem restG_out {Γ Γ' : Ct} {i : Nat} : ∀ {vs : List Nat}, i ∉ vs → (restG Γ Γ' vs)[i]? = Γ'[i]?
  | [], _ => rfl
  | v :: vs, h => by
    simp only [List.mem_cons, not_or] at h
    unfold restG
    rw [List.getElem?_set_ne (fun z => h.1 z.symm)]
    exact restG_out h.2
theorem restG_in {Γ Γ' : Ct} {i : Nat} : ∀ {vs : List Nat}, i ∈ vs → i < Γ'.length → (restG Γ Γ' vs)[i]? = some (Γ.getD i none)
  | v :: vs, h, hl => by
    unfold restG
    by_cases e : v = i
    · subst e
      exact List.getElem?_set_self (by rw [restG_len]; exact hl)
    · rw [List.getElem?_set_ne e]
      rcases List.mem_cons.mp h with h | h
      · exact absurd h.symm e
      · exact restG_in h hl
theorem wipe_same {σ σ' : St} {vs : List Nat} (hl : σ'.length = σ.length) (h : ∀ i, i ∉ vs → σ'[i]? = σ[i]?) : wipe σ' vs = wipe σ vs := by
  apply List.ext_getElem?
  intro i
  by_cases hi : i ∈ vs
  · by_cases hlt : i < σ.length
    · rw [wipe_in hi hlt, wipe_in hi (by omega)]
    · rw [List.getElem?_eq_none (by rw [wipe_length]; omega), List.getElem?_eq_none (by rw [wipe_length]; omega)]
  · rw [wipe_nout hi, wipe_nout hi, h i hi]
theorem wipe_wipe (σ : St) (vs : List Nat) : wipe (wipe σ vs) vs = wipe σ vs := wipe_same (wipe_length σ vs) fun i hi => wipe_nout hi
section
variable {g : Gx} {Bn : Addr → Prop} {Ow Ow' : List Addr} {H H' : Hp} {σ : St} {Γ Γ' : Ct}
theorem RS.wipe (own : List Nat) (rs : RS g Bn Ow H σ Γ) : RS g Bn Ow H (L2.wipe σ own) (wipeG Γ own) := by
  refine ⟨by rw [wipe_length, wipeG_len]; exact rs.len, fun i d h => ?_, fun i d h => ?_, fun i j d e a h1 h2 h3 h4 => ?_, rs.trk, rs.sep, rs.kf⟩
  · obtain ⟨h1, h2⟩ := wipeG_some h
    rw [wipe_nout h2]
    exact rs.slot i d h1
  · obtain ⟨h1, h2⟩ := wipeG_some h
    rw [wipe_nout h2]
    exact rs.own i d h1
  · obtain ⟨q1, n1⟩ := wipeG_some h1
    obtain ⟨q2, n2⟩ := wipeG_some h2
    rw [wipe_nout n1] at h3
    rw [wipe_nout n2] at h4
    exact rs.dist i j _ _ _ q1 q2 h3 h4
/-- the block is over: its own names are what they were -/
theorem RS.rest {Bn' : Addr → Prop} {own : List Nat} (r0 : RS g Bn Ow H σ Γ) (hp : plainIx Γ own = true) (s : Stp Ow H Ow' H') (hB : ∀ a, Bn' a → Bn a ∨ H a = none) (rs : RS g Bn' Ow' H' (L2.wipe σ own) Γ') : RS g Bn' Ow' H' σ (restG Γ Γ' own) := by
  have hl : σ.length = Γ'.length := by rw [← rs.len, wipe_length]
  have pl : ∀ i, i ∈ own → ∀ d, Γ[i]? ≠ some (some (d, true)) := fun i hi d z => by
    unfold plainIx at hp
    have q := List.all_eq_true.mp hp i hi
    rw [z] at q
    cases q
  have inn : ∀ {i : Nat} {p : D × Bool}, i ∈ own → (restG Γ Γ' own)[i]? = some (some p) → Γ[i]? = some (some p) := fun {i p} hi h => by
    have hlt : i < Γ'.length := by
      rw [← restG_len Γ Γ' own]
      exact (List.getElem?_eq_some_iff.mp h).1
    rw [restG_in hi hlt] at h
    have hlt2 : i < Γ.length := by rw [← r0.len, hl]; exact hlt
    rw [List.getD_eq_getElem?_getD, List.getElem?_eq_getElem hlt2] at h
    rw [List.getElem?_eq_getElem hlt2]
    simpa using h
  refine ⟨by rw [restG_len]; exact hl, fun i d h => ?_, fun i d h => ?_, fun i j d e a h1 h2 h3 h4 => ?_, rs.trk, rs.sep, rs.kf⟩
  · by_cases hi : i ∈ own
    · obtain ⟨v, e, r⟩ := r0.slot i d (inn hi h)
      exact ⟨v, e, rep_mono (vst2 hB s rs) _ _ r⟩
    · rw [restG_out hi] at h
      obtain ⟨v, e, r⟩ := rs.slot i d h
      rw [wipe_nout hi] at e
      exact ⟨v, e, r⟩
  · by_cases hi : i ∈ own
    · exact absurd (inn hi h) (pl i hi d)
    · rw [restG_out hi] at h
      obtain ⟨v, e, r⟩ := rs.own i d h
      rw [wipe_nout hi] at e
      exact ⟨v, e, r⟩
  · have n1 : i ∉ own := fun z => pl i z d (inn z h1)
    have n2 : j ∉ own := fun z => pl j z e (inn z h2)
    rw [restG_out n1] at h1
    rw [restG_out n2] at h2
    exact rs.dist i j _ _ _ h1 h2 (by rw [wipe_nout n1]; exact h3) (by rw [wipe_nout n2]; exact h4)
abbrev orB (Bn : Addr → Prop) (p : Addr) : Addr → Prop := fun a => Bn a ∨ a = p
theorem RS.addB {p : Addr} (rs : RS g Bn Ow H σ Γ) (s : Same H H') (np : H p = none) (hp : H' p ≠ none) (hk : g.K.lookup p = none) : RS g (orB Bn p) Ow H' σ Γ := by
  have r := rs.add s np hp hk
  have np' : p ∉ Ow := fun z => rs.trk p (.inr z) np
  have av : ∀ a, Av (orB Bn p) Ow a → Av Bn (p :: Ow) a := fun a h => by
    rcases h with (h | h) | h
    · exact .inl h
    · exact .inr (by rw [h]; exact List.mem_cons_self)
    · exact .inr (List.mem_cons_of_mem _ h)
  refine ⟨r.len, fun i d h => ?_, fun i d h => ?_, r.dist, fun a h => r.trk a (av a h), fun a h z => ?_, fun a h => r.kf a (av a h)⟩
  · obtain ⟨v, e, q⟩ := r.slot i d h; exact ⟨v, e, rep_less av q⟩
  · obtain ⟨a, e, m, q⟩ := r.own i d h
    obtain ⟨a', e', m', _⟩ := rs.own i d h
    rw [e] at e'; cases e'
    exact ⟨a, e, m', own_less av q⟩
  · rcases h with h | h
    · exact rs.sep a h z
    · rw [h] at z; exact np' z
theorem RS.unB {p : Addr} (rs : RS g (orB Bn p) Ow H σ Γ) (nb : ¬ Bn p) : RS g Bn (p :: Ow) H σ Γ := by
  have av : ∀ a, Av Bn (p :: Ow) a → Av (orB Bn p) Ow a := fun a h => by
    rcases h with h | h
    · exact .inl (.inl h)
    · rcases List.mem_cons.mp h with h | h
      · exact .inl (.inr h)
      · exact .inr h
  refine ⟨rs.len, fun i d h => ?_, fun i d h => ?_, rs.dist, fun a h => rs.trk a (av a h), fun a h z => ?_, fun a h => rs.kf a (av a h)⟩
  · obtain ⟨v, e, q⟩ := rs.slot i d h; exact ⟨v, e, rep_less av q⟩
  · obtain ⟨a, e, m, q⟩ := rs.own i d h
    exact ⟨a, e, List.mem_cons_of_mem _ m, own_less av q⟩
  · rcases List.mem_cons.mp z with z | z
    · subst z; exact nb h
    · exact rs.sep a (.inl h) z
/-- what is banned may change -/
theorem ban_vst {p : Addr} {o : HO} {A : Addr → Prop} (h : A p) : ∀ a, Vst g A H a → (∀ x, H a = some x → (upd H p o) a = some x) ∧ ¬ A a := fun a ⟨n, _⟩ => ⟨fun x e => by
  rw [upd_ne (fun z => n (by rw [z]; exact h))]
  exact e, n⟩
theorem RS.updB {p : Addr} {o : HO} (rs : RS g Bn Ow H σ Γ) (hp : Bn p) : RS g Bn Ow (upd H p o) σ Γ := by
  have v := ban_vst (g := g) (H := H) (o := o) (A := Av Bn Ow) (p := p) (.inl hp)
  refine ⟨rs.len, fun i d h => ?_, fun i d h => ?_, rs.dist, fun a h => ?_, rs.sep, rs.kf⟩
  · obtain ⟨w, e, q⟩ := rs.slot i d h; exact ⟨w, e, rep_mono v _ _ q⟩
  · obtain ⟨a, e, m, q⟩ := rs.own i d h
    have ne : a ≠ p := fun z => by subst z; exact rs.sep a hp m
    refine ⟨a, e, m, ?_⟩
    cases d with
    | lst ds => obtain ⟨ws, z1, z2⟩ := q; exact ⟨ws, by rw [upd_ne ne]; exact z1, reps_mono v _ _ z2⟩
    | obj c ks ds => obtain ⟨dx, ws, l, z1, z2⟩ := q; exact ⟨dx, ws, l, by rw [upd_ne ne]; exact z1, reps_mono v _ _ z2⟩
    | _ => exact q
  · by_cases e : a = p
    · subst e; rw [upd_same]; simp
    · rw [upd_ne e]; exact rs.trk a h
theorem Stp.updN {O O' : List Addr} {p : Addr} {o : HO} (s : Stp O H O' H') (np : H p = none) : Stp O H O' (upd H' p o) where
  keep := fun a x h n => by
    rw [upd_ne (ne_of_none h np)]
    exact s.keep a x h n
  grow := s.grow
  stay := fun a h => by
    by_cases e : a = p
    · subst e; rw [upd_same]; simp
    · rw [upd_ne e]; exact s.stay a h
end
def tTc (g : Gx) (fs : List FS) (cond : List E) : TT := fun σ H Q => ∃ Bn Ow Γ t Γ', RS g Bn Ow H σ Γ ∧ evc fs cond Γ = some (t, Γ') ∧ ∀ H' Ow', Stp Ow H Ow' H' → RS g Bn Ow' H' σ Γ' → Q t H'
abbrev kfs (K : PySem.W.Frag) (H : Hp) : Prop := ∀ a o, K.lookup a = some o → H a = none
def tgK (K : PySem.W.Frag) (tg : Tg) : TG := fun v σ H Q => kfs K H → tgT K tg v σ H Q
section
variable {g : Gx} {fs : List FS} {Bn : Addr → Prop} {Ow : List Addr} {H : Hp} {σ : St} {Γ Γ' : Ct}
theorem comp_core {own : List Nat} {tg : Tg} {ik : IK} {its cond : List E} {elt : E} {r : RV} {Q : VK} (rs : RS g Bn Ow H σ Γ) (he : ev fs (.comp own tg ik its cond elt) Γ = some (r, Γ'))
    (hQ : ∀ v H' Ow', Stp Ow H Ow' H' → RS g Bn Ow' H' σ Γ' → Val g Bn Ow' H' σ Γ' r v → Q v H') :
    tLc (tI g fs ik its) (tgK g.K tg) (tTc g fs cond) (tR g fs elt) own σ H (fun v H' => kfs g.K H' → Q v H') := by
  simp only [ev] at he
  obtain ⟨⟨xs, Γ1⟩, e1, he⟩ := Option.bind_eq_some_iff.mp he
  obtain ⟨⟨ds, Γ2⟩, e2, he⟩ := Option.bind_eq_some_iff.mp he
  simp only [Option.ite_none_right_eq_some, Bool.and_eq_true, decide_eq_true_eq] at he
  obtain ⟨⟨⟨hp, hz⟩, htg⟩, he⟩ := he
  obtain ⟨⟨acc, Γ3⟩, e3, he⟩ := Option.map_eq_some_iff.mp he
  simp only [Prod.mk.injEq] at he
  obtain ⟨rfl, rfl⟩ := he
  refine ⟨Bn, Ow, Γ, xs, Γ1, ds, Γ2, rs, e1, e2, fun J H1 O1 s1 r1 wk Dl hD => ?_⟩
  have nbD : ¬ Bn Dl := fun z => r1.trk Dl (.inl z) hD
  have tgO : ∀ i, i ∉ own → i ∉ tgIx tg := fun i hi z => by
    have := List.all_eq_true.mp htg i z
    simp only [List.contains_eq_mem, decide_eq_true_eq] at this
    exact hi this
  let Cn : Nat → Hp → Prop := fun i H => g.K.lookup Dl = none → ∃ O Γi acci vs, Stp O1 H1 O H ∧ RS g (orB Bn Dl) O H (L2.wipe σ own) Γi ∧ H Dl = some (.lst vs) ∧ vs.length ≤ i ∧ Reps g (Av (orB Bn Dl) O) H acci vs ∧ compLoop own tg (evc fs cond) (ev fs elt) (ds.drop i) acci Γi = some (acc, Γ3)
  let U : Nat → Hp → Prop := fun i H => (∀ a o, H1 a = some o → a ∉ O1 → H a = some o) ∧ ∃ vs, H Dl = some (.lst vs)
  refine ⟨fun i m H => m = ds.length - i ∧ i ≤ ds.length ∧ U i H ∧ Cn i H, ⟨ds.length, by simp, Nat.zero_le _, ⟨fun a o h _ => by rw [upd_ne (ne_of_none h hD)]; exact h, [], upd_same⟩, fun hk => ?_⟩, ?_⟩
  · exact ⟨O1, _, [], [], (Stp.refl O1 H1).updN hD, (r1.wipe own).addB (same_new hD) hD (by rw [upd_same]; simp) hk, upd_same, Nat.le_refl _, by simp only [Reps], e3⟩
  rintro i m H ⟨rfl, hi, ⟨hU1, vs0, hU2⟩, hC⟩
  by_cases hlt : i < ds.length
  · refine .inr ⟨wk.go i H hlt hU1, fun H' => U (i + 1) H' ∧ Cn (i + 1) H', fun H' q => ⟨ds.length - (i + 1), by omega, rfl, hlt, q.1, q.2⟩, fun x H' y kf => ?_⟩
    have sm := wk.same i H x H' y
    have hk : g.K.lookup Dl = none := kf_new kf (sm _ _ hU2)
    obtain ⟨O, Γi, acci, vs, st, r2, hDl, hvl, rp, lp⟩ := hC hk
    have ed : ds[i]? = some ds[i] := List.getElem?_eq_getElem hlt
    have edr : ds.drop i = ds[i] :: ds.drop (i + 1) := List.drop_eq_getElem_cons hlt
    rw [edr] at lp
    simp only [compLoop] at lp
    obtain ⟨G1, a1, lp⟩ := Option.bind_eq_some_iff.mp lp
    obtain ⟨⟨b, G2⟩, a2, lp⟩ := Option.bind_eq_some_iff.mp lp
    obtain ⟨_, rx⟩ := wk.yld i _ (orB Bn Dl) O H _ _ x H' ed (fun a z => .inl z) (fun a z => z.elim .inl fun z => .inr (by rw [z]; exact hD)) st r2 y
    have r2' := r2.same sm
    refine asgT_ok tg r2' rx a1 fun σ2 q1 q2 q3 => ?_
    have hw : L2.wipe σ2 own = L2.wipe σ own := by
      rw [← wipe_wipe σ own]
      exact wipe_same q2 fun j hj => q3 j (tgO j hj)
    refine ⟨hw, orB Bn Dl, O, G1, b, G2, q1, a2, fun H3 O3 s3 r3 => ?_⟩
    have st3 : Stp O1 H1 O3 H3 := (st.trans (Stp.same sm)).trans s3
    have dO : Dl ∉ O := r2.sep Dl (.inr rfl)
    have hDl3 : H3 Dl = some (.lst vs) := s3.keep _ _ (sm _ _ hDl) dO
    have rp3 : Reps g (Av (orB Bn Dl) O3) H3 acci vs := (rp.same sm).step s3 r3
    cases b with
    | false =>
      simp only [Bool.false_eq_true, if_false, Option.ite_none_right_eq_some] at lp ⊢
      obtain ⟨_, lp⟩ := lp
      refine ⟨⟨fun a o h n => st3.keep a o h n, vs, hDl3⟩, fun _ => ⟨O3, _, acci, vs, st3, ?_, hDl3, by omega, rp3, lp⟩⟩
      have := r3.wipe own
      rw [hw] at this
      exact this
    | true =>
      simp only [if_true] at lp ⊢
      obtain ⟨⟨ye, G3⟩, a3, lp⟩ := Option.bind_eq_some_iff.mp lp
      obtain ⟨⟨e, G4⟩, a4, lp⟩ := Option.bind_eq_some_iff.mp lp
      simp only [Option.ite_none_right_eq_some] at lp
      obtain ⟨_, lp⟩ := lp
      refine ⟨orB Bn Dl, O3, G2, ye, G3, r3, a3, fun y4 H4 O4 s4 r4 v4 => ?_⟩
      obtain ⟨O5, s5, r5, p5⟩ := fre_ok r4 v4 a4
      have dO3 : Dl ∉ O3 := r3.sep Dl (.inr rfl)
      have hDl4 : H4 Dl = some (.lst vs) := s4.keep _ _ hDl3 dO3
      have st5 : Stp O1 H1 O5 H4 := (st3.trans s4).trans s5
      have rp5 : Reps g (Av (orB Bn Dl) O5) H4 acci vs := (rp3.step s4 r4).step s5 r5
      have st6 : Stp O1 H1 O5 (upd H4 Dl (.lst (vs ++ [y4]))) := st5.updN hD
      refine ⟨vs, hDl4, by omega, ⟨fun a o h n => st6.keep a o h n, vs ++ [y4], upd_same⟩, fun _ => ⟨O5, _, acci ++ [e], vs ++ [y4], st6, ?_, upd_same, by rw [List.length_append, List.length_singleton]; omega, ?_, lp⟩⟩
      · have := r5.wipe own
        rw [hw] at this
        exact this.updB (.inr rfl)
      · exact reps_mono (ban_vst (.inl (.inr rfl))) _ _ (rp5.app (Reps.one p5))
  · have e : i = ds.length := by omega
    subst e
    refine .inl ⟨wk.stop H hU1, fun kf => ?_⟩
    have hk : g.K.lookup Dl = none := kf_new kf hU2
    obtain ⟨O, Γi, acci, vs, st, r2, hDl, hvl, rp, lp⟩ := hC hk
    rw [List.drop_length] at lp
    simp only [compLoop, Option.some.injEq, Prod.mk.injEq] at lp
    obtain ⟨rfl, rfl⟩ := lp
    have r3 := r1.rest hp st (fun a z => z.elim .inl fun z => .inr (by rw [z]; exact hD)) r2
    have r4 := r3.unB nbD
    refine hQ _ H (Dl :: O) (s1.trans ⟨st.keep, fun a h => ?_, st.stay⟩) r4 ⟨Dl, rfl, List.mem_cons_self, ⟨vs, hDl, ?_⟩, fun j e h1 h2 => ?_⟩
    · rcases List.mem_cons.mp h with h | h
      · rw [h]; exact .inr hD
      · exact st.grow a h
    · refine reps_less (fun a z => ?_) rp
      rcases z with z | z
      · exact .inl (.inl z)
      · rcases List.mem_cons.mp z with z | z
        · exact .inl (.inr z)
        · exact .inr z
    · obtain ⟨a, e2, m2, _⟩ := r3.own j e h1
      rw [h2] at e2; cases e2
      exact r2.sep Dl (.inr rfl) m2
end
section
variable {X : Cx} {g : Gx} {fs : List FS}
theorem PG.kf {tg : Expr} {t : TG} (h : PG X tg t) : PG X tg (fun v σ H Q => kfs X.K H → t v σ H Q) := ⟨fun pins s σ H v u Q I r q => h.run pins s σ H v u Q I r (q (Inv.kf I))⟩
theorem PTs.weak {e : List Expr} {t t' : TT} (h : PTs X e t) (k : ∀ σ H Q, t' σ H Q → t σ H Q) : PTs X e t' := ⟨fun pins s σ H Q I q => h.run pins s σ H Q I (k σ H Q q)⟩
theorem c_nil : PTs X [] (tTc g fs []) := by
  refine PTs.weak pts_nil ?_
  rintro σ H Q ⟨Bn, Ow, Γ, t, Γ', rs, he, hQ⟩
  simp only [evc, Option.some.injEq, Prod.mk.injEq] at he
  obtain ⟨rfl, rfl⟩ := he
  exact hQ H Ow (.refl _ _) rs
theorem c_one {c : Expr} {ic : E} (h : PT X c (tT g fs ic)) : PTs X [c] (tTc g fs [ic]) := by
  refine PTs.weak (pts_one h) ?_
  rintro σ H Q ⟨Bn, Ow, Γ, t, Γ', rs, he, hQ⟩
  simp only [evc] at he
  obtain ⟨⟨x, Γ1⟩, e1, he⟩ := Option.bind_eq_some_iff.mp he
  obtain ⟨t', e2, he⟩ := Option.map_eq_some_iff.mp he
  simp only [Prod.mk.injEq] at he
  obtain ⟨rfl, rfl⟩ := he
  exact ⟨Bn, Ow, Γ, x, Γ1, t', rs, e1, e2, hQ⟩
theorem p_comp {elt tg iter : Expr} {ifs : List Expr} {scope : Scope} {own : List (Str × Nat)} {pos : Pos} {itg : Tg} {ik : IK} {its cond : List E} {ielt : E} (C : Cok g X) (hi : PI X tg iter (tI g fs ik its)) (ok : BlkOk X.N X.env.scope scope own)
    (hg : ∀ (s : Shared) (H : Hp) (C : Addr) (cl : List (Str × Addr)) (fp : List Addr), PG (X.blk s H scope (compEnvC scope cl C X.env) fp) tg (tgT g.K itg)) (ht : ∀ (s : Shared) (H : Hp) (C : Addr) (cl : List (Str × Addr)) (fp : List Addr), PTs (X.blk s H scope (compEnvC scope cl C X.env) fp) ifs (tTc g fs cond))
    (he : ∀ (s : Shared) (H : Hp) (C : Addr) (cl : List (Str × Addr)) (fp : List Addr), PE (X.blk s H scope (compEnvC scope cl C X.env) fp) elt (tR g fs ielt)) (hs : ∀ x, foldedSetIterable iter X.env x = pure x) :
    PE X (.ListComp elt [⟨tg, iter, ifs, 0⟩] scope pos) (tR g fs (.comp (own.map (·.2)) itg ik its cond ielt)) := by
  refine PE.weak (PE.kf (pe_lc (g := tgK g.K itg) C.calm C.nd hi ok (fun s H Ca cl fp => ?_) ht he hs)) ?_
  · have := PG.kf (hg s H Ca cl fp)
    exact ⟨fun pins s σ H v u Q I r q => this.run pins s σ H v u Q I r fun kf => q fun a o e => kf a o (by show X.K.lookup a = some o; rw [C.K]; exact e)⟩
  · rintro σ H Q ⟨Bn, Ow, Γ, r, Γ', rs, he, hQ⟩
    have q := comp_core rs he hQ
    rw [C.K]
    exact q
end
end DV

namespace DV
open PySem L2
def Pin (pv : Nat × List (Nat × V)) (σ : St) : Prop := σ.length = pv.1 ∧ ∀ p ∈ pv.2, σ[p.1]? = some (some p.2)
def Post (g : Gx) (Dn : Ends) (pv : Nat × List (Nat × V)) (Bn : Addr → Prop) (Ow : List Addr) (H : Hp) : Out → Prop
  | .nx Γ' => ∀ σ' H' Ow', Stp Ow H Ow' H' → RS g Bn Ow' H' σ' Γ' → Pin pv σ' → Dn.nx σ' H'
  | .bk Γ' => ∀ σ' H' Ow', Stp Ow H Ow' H' → RS g Bn Ow' H' σ' Γ' → Pin pv σ' → Dn.bk σ' H'
  | .ct Γ' => ∀ σ' H' Ow', Stp Ow H Ow' H' → RS g Bn Ow' H' σ' Γ' → Pin pv σ' → Dn.ct σ' H'
  | .rt r Γ' => ∀ v σ' H' Ow', Stp Ow H Ow' H' → RS g Bn Ow' H' σ' Γ' → Pin pv σ' → Val g Bn Ow' H' σ' Γ' r v → Dn.rt v H'
def tSt (g : Gx) (fs : List FS) (is : S) : TS := fun Dn σ H => ∃ pv Bn Ow Γ o, RS g Bn Ow H σ Γ ∧ Pin pv σ ∧ ex fs (pv.2.map (·.1)) is Γ = some o ∧ Post g Dn pv Bn Ow H o
def tSs (g : Gx) (fs : List FS) (is : List S) : TS := fun Dn σ H => ∃ pv Bn Ow Γ o, RS g Bn Ow H σ Γ ∧ Pin pv σ ∧ exs fs (pv.2.map (·.1)) is Γ = some o ∧ Post g Dn pv Bn Ow H o
section
variable {X : Cx} {g : Gx} {fs : List FS} {st : Stmt} {pos : Pos}
theorem PS.weak {t t' : TS} (h : PS X st t) (k : ∀ Dn σ H, t' Dn σ H → t Dn σ H) : PS X st t' := ⟨fun pins s σ H Dn I q => h.run pins s σ H Dn I (k Dn σ H q)⟩
theorem PSs.weak {ss : List Stmt} {t t' : TS} (h : PSs X ss t) (k : ∀ Dn σ H, t' Dn σ H → t Dn σ H) : PSs X ss t' := ⟨fun pins s σ H Dn I q => h.run pins s σ H Dn I (k Dn σ H q)⟩
theorem PS.kf {t : TS} (h : PS X st t) : PS X st (fun Dn σ H => t { nx := fun σ H => kfs X.K H → Dn.nx σ H, rt := fun v H => kfs X.K H → Dn.rt v H, bk := fun σ H => kfs X.K H → Dn.bk σ H, ct := fun σ H => kfs X.K H → Dn.ct σ H } σ H) := ⟨fun pins s σ H Dn I q => thn (h.run pins s σ H _ I q) fun f s1 r => by
  cases f with
  | next => obtain ⟨a, b, I1, c⟩ := r; exact ⟨a, b, I1, c (Inv.kf I1)⟩
  | brk => obtain ⟨a, b, I1, c⟩ := r; exact ⟨a, b, I1, c (Inv.kf I1)⟩
  | cont => obtain ⟨a, b, I1, c⟩ := r; exact ⟨a, b, I1, c (Inv.kf I1)⟩
  | ret v => obtain ⟨x, a, b, I1, r1, c⟩ := r; exact ⟨x, a, b, I1, r1, c (Inv.kf I1)⟩⟩
section
variable {Bn : Addr → Prop} {Ow Ow' : List Addr} {H H' : Hp} {σ : St} {Γ Γ' : Ct} {Dn : Ends} {pv : Nat × List (Nat × V)}
theorem Post.step {o : Out} (h : Post g Dn pv Bn Ow H o) (s : Stp Ow H Ow' H') : Post g Dn pv Bn Ow' H' o := by
  cases o with
  | nx G => exact fun σ1 H1 O1 s1 r p => h σ1 H1 O1 (s.trans s1) r p
  | bk G => exact fun σ1 H1 O1 s1 r p => h σ1 H1 O1 (s.trans s1) r p
  | ct G => exact fun σ1 H1 O1 s1 r p => h σ1 H1 O1 (s.trans s1) r p
  | rt r G => exact fun v σ1 H1 O1 s1 r p => h v σ1 H1 O1 (s.trans s1) r p
theorem Pin.set {i : Nat} {v : Option V} (h : Pin pv σ) (d : disjB [i] (pv.2.map (·.1)) = true) : Pin pv (σ.set i v) := ⟨by rw [List.length_set]; exact h.1, fun p hp => by
  rw [List.getElem?_set_ne]
  · exact h.2 p hp
  · intro z
    simp only [disjB, List.all_cons, List.all_nil, Bool.and_true, Bool.not_eq_true', List.contains_eq_mem, decide_eq_false_iff_not] at d
    exact d (by rw [z]; exact List.mem_map.mpr ⟨p, hp, rfl⟩)⟩
theorem Pin.keep {σ' : St} {xs : List Nat} (h : Pin pv σ) (d : disjB xs (pv.2.map (·.1)) = true) (hl : σ'.length = σ.length) (k : ∀ i, i ∉ xs → σ'[i]? = σ[i]?) : Pin pv σ' := ⟨hl.trans h.1, fun p hp => by
  rw [k]
  · exact h.2 p hp
  · intro z
    have := List.all_eq_true.mp d _ z
    simp only [Bool.not_eq_true', List.contains_eq_mem, decide_eq_false_iff_not] at this
    exact this (List.mem_map.mpr ⟨p, hp, rfl⟩)⟩
/-- an owned list is rewritten -/
theorem RS.mut {i : Nat} {c : D} {a : Addr} {ds : List D} {ws : List V} (rs : RS g Bn Ow H σ Γ) (hi : Γ[i]? = some (some (c, true))) (hs : σ[i]? = some (some (.ref a))) (r : Reps g (Av Bn Ow) H ds ws) :
    RS g Bn Ow (upd H a (.lst ws)) σ (Γ.set i (some (.lst ds, true))) ∧ Stp Ow H Ow (upd H a (.lst ws)) := by
  have hil : i < Γ.length := (List.getElem?_eq_some_iff.mp hi).1
  obtain ⟨b, e1, m, _⟩ := rs.own i _ hi
  rw [hs] at e1; cases e1
  have vs := ban_vst (g := g) (H := H) (o := .lst ws) (A := Av Bn Ow) (p := a) (.inr m)
  refine ⟨⟨by rw [List.length_set]; exact rs.len, fun j e h => ?_, fun j e h => ?_, fun j k e f b h1 h2 h3 h4 => ?_, fun b h => ?_, rs.sep, rs.kf⟩, ⟨fun b o h n => ?_, fun _ h => .inl h, fun b h => ?_⟩⟩
  · have hj : i ≠ j := fun z => by subst z; rw [List.getElem?_set_self hil] at h; cases h
    rw [List.getElem?_set_ne hj] at h
    obtain ⟨v, e1, r1⟩ := rs.slot j e h
    exact ⟨v, e1, rep_mono vs _ _ r1⟩
  · by_cases hj : i = j
    · subst hj
      rw [List.getElem?_set_self hil] at h; cases h
      exact ⟨a, hs, m, ws, upd_same, reps_mono vs _ _ r⟩
    · rw [List.getElem?_set_ne hj] at h
      obtain ⟨b, e1, m1, o1⟩ := rs.own j e h
      have nb : b ≠ a := fun z => hj (by subst z; exact rs.dist i j _ _ _ hi h hs e1)
      refine ⟨b, e1, m1, ?_⟩
      cases e with
      | lst es => obtain ⟨us, e2, r2⟩ := o1; exact ⟨us, by rw [upd_ne nb]; exact e2, reps_mono vs _ _ r2⟩
      | obj c ks es => obtain ⟨dx, us, l, e2, r2⟩ := o1; exact ⟨dx, us, l, by rw [upd_ne nb]; exact e2, reps_mono vs _ _ r2⟩
      | _ => exact o1
  · have ex : ∀ (j : Nat) e, (Γ.set i (some (.lst ds, true)))[j]? = some (some (e, true)) → ∃ e', Γ[j]? = some (some (e', true)) := fun j e h => by
      by_cases hj : i = j
      · subst hj; exact ⟨_, hi⟩
      · rw [List.getElem?_set_ne hj] at h; exact ⟨_, h⟩
    obtain ⟨e', h1⟩ := ex j e h1
    obtain ⟨f', h2⟩ := ex k f h2
    exact rs.dist j k _ _ _ h1 h2 h3 h4
  · by_cases z : b = a
    · subst z; rw [upd_same]; simp
    · rw [upd_ne z]; exact rs.trk b h
  · have z : b ≠ a := fun z => n (by rw [z]; exact m)
    rw [upd_ne z]; exact h
  · by_cases z : b = a
    · subst z; rw [upd_same]; simp
    · rw [upd_ne z]; exact h
end
/-! ### simple statements -/
theorem s_pass : PS X (.Pass pos) (tSt g fs .pass) := by
  refine PS.weak ps_pass ?_
  rintro Dn σ H ⟨pv, Bn, Ow, Γ, o, rs, pn, he, po⟩
  simp only [ex, Option.some.injEq] at he; subst he
  exact po σ H Ow (.refl _ _) rs pn
theorem s_doc {x j pos'} : PS X (.Expr (.Constant (.str x) j pos) pos') (tSt g fs .pass) := by
  refine PS.weak ps_doc ?_
  rintro Dn σ H ⟨pv, Bn, Ow, Γ, o, rs, pn, he, po⟩
  simp only [ex, Option.some.injEq] at he; subst he
  exact po σ H Ow (.refl _ _) rs pn
theorem s_brk : PS X (.Break pos) (tSt g fs .brk) := by
  refine PS.weak ps_break ?_
  rintro Dn σ H ⟨pv, Bn, Ow, Γ, o, rs, pn, he, po⟩
  simp only [ex, Option.some.injEq] at he; subst he
  exact po σ H Ow (.refl _ _) rs pn
theorem s_cont : PS X (.Continue pos) (tSt g fs .cont) := by
  refine PS.weak ps_continue ?_
  rintro Dn σ H ⟨pv, Bn, Ow, Γ, o, rs, pn, he, po⟩
  simp only [ex, Option.some.injEq] at he; subst he
  exact po σ H Ow (.refl _ _) rs pn
theorem s_retN : PS X (.Return none pos) (tSt g fs .retN) := by
  refine PS.weak ps_retN ?_
  rintro Dn σ H ⟨pv, Bn, Ow, Γ, o, rs, pn, he, po⟩
  simp only [ex, Option.some.injEq] at he; subst he
  exact po .non σ H Ow (.refl _ _) rs pn (show Rep g _ _ _ _ by simp only [Rep])
theorem s_stuck : PS X st (tSt g fs .stuck) := by
  refine PS.weak ps_never ?_
  rintro Dn σ H ⟨pv, Bn, Ow, Γ, o, rs, pn, he, po⟩
  simp only [ex, reduceCtorEq] at he
theorem s_expr {e : Expr} {ie : E} (h : PE X e (tR g fs ie)) (hs : swapsWith e none pos.line X.env = pure false) : PS X (.Expr e pos) (tSt g fs (.expr ie)) := by
  refine PS.weak (ps_expr h hs) ?_
  rintro Dn σ H ⟨pv, Bn, Ow, Γ, o, rs, pn, he, po⟩
  simp only [ex] at he
  obtain ⟨⟨x, Γ1⟩, e1, rfl⟩ := Option.map_eq_some_iff.mp he
  exact ⟨Bn, Ow, Γ, x, Γ1, rs, e1, fun v H1 O1 s1 r1 _ => po σ H1 O1 s1 r1 pn⟩
theorem s_ret {e : Expr} {ie : E} (h : PE X e (tR g fs ie)) : PS X (.Return (some e) pos) (tSt g fs (.ret ie)) := by
  refine PS.weak (ps_ret h) ?_
  rintro Dn σ H ⟨pv, Bn, Ow, Γ, o, rs, pn, he, po⟩
  simp only [ex] at he
  obtain ⟨⟨x, Γ1⟩, e1, rfl⟩ := Option.map_eq_some_iff.mp he
  exact ⟨Bn, Ow, Γ, x, Γ1, rs, e1, fun v H1 O1 s1 r1 vl => po v σ H1 O1 s1 r1 pn vl⟩
theorem asg_core {tg : Tg} {ie : E} {Dn : Ends} {σ : St} {H : Hp} (h : tSt g fs (.asg tg ie) Dn σ H) : tAsg (tR g fs ie) (tgT g.K tg) Dn σ H := by
  obtain ⟨pv, Bn, Ow, Γ, o, rs, pn, he, po⟩ := h
  simp only [ex] at he
  obtain ⟨⟨x, Γ1⟩, e1, he⟩ := Option.bind_eq_some_iff.mp he
  obtain ⟨⟨d, Γ2⟩, e2, he⟩ := Option.bind_eq_some_iff.mp he
  simp only [Option.ite_none_right_eq_some] at he
  obtain ⟨dj, he⟩ := he
  obtain ⟨Γ3, e3, rfl⟩ := Option.map_eq_some_iff.mp he
  refine ⟨Bn, Ow, Γ, x, Γ1, rs, e1, fun v H1 O1 s1 r1 vl => ?_⟩
  obtain ⟨O2, s2, r2, p2⟩ := fre_ok r1 vl e2
  exact asgT_ok tg r2 p2 e3 fun σ' q1 q2 q3 => po σ' H1 O2 (s1.trans s2) q1 (pn.keep dj q2 q3)
theorem s_asg {tg e : Expr} {itg : Tg} {ie : E} (h : PE X e (tR g fs ie)) (hg : PG X tg (tgT g.K itg)) (hs : swapsWithSole [tg] e pos.line X.env = pure false) (hw : swappedStores [tg] e X.env = pure none)
    (h1 : (assignEach [tg] X.env).map (·.2) = [assign tg X.env]) : PS X (.Assign [tg] e pos) (tSt g fs (.asg itg ie)) := PS.weak (ps_asg h hg hs hw h1) fun _ _ _ => asg_core
theorem asgO_core {i : Nat} {ie : E} {Dn : Ends} {σ : St} {H : Hp} {te : TE} (hte : ∀ Q, tR g fs ie σ H Q → te σ H Q) (h : tSt g fs (.asgO i ie) Dn σ H) : tAsg te (gName i) Dn σ H := by
  obtain ⟨pv, Bn, Ow, Γ, o, rs, pn, he, po⟩ := h
  simp only [ex] at he
  obtain ⟨⟨x, Γ1⟩, e1, he⟩ := Option.bind_eq_some_iff.mp he
  refine hte _ ⟨Bn, Ow, Γ, x, Γ1, rs, e1, fun v H1 O1 s1 r1 vl => ?_⟩
  have plain : ∀ {o : Out}, ((fre Γ1 x).bind fun (p : D × Ct) => if i < p.2.length ∧ disjB [i] (pv.2.map (·.1)) = true then some (Out.nx (p.2.set i (some (p.1, false)))) else none) = some o → Post g Dn pv Bn Ow H o → gName i v σ H1 Dn.nx := fun {o} he po => by
    obtain ⟨⟨d, Γ2⟩, e2, he⟩ := Option.bind_eq_some_iff.mp he
    simp only [Option.ite_none_right_eq_some, Option.some.injEq] at he
    obtain ⟨⟨hi, dj⟩, rfl⟩ := he
    obtain ⟨O2, s2, r2, p2⟩ := fre_ok r1 vl e2
    exact po _ H1 O2 (s1.trans s2) (r2.set p2 hi) (pn.set dj)
  cases x with
  | nw d =>
    simp only [Option.ite_none_right_eq_some, Option.some.injEq] at he
    obtain ⟨⟨hi, dj⟩, rfl⟩ := he
    exact po _ H1 O1 s1 (r1.setO vl hi) (pn.set dj)
  | fz d => exact plain he po
  | sl j => exact plain he po
theorem s_asgO {i : Nat} {y : Str} {e : Expr} {ie : E} {pos' : Pos} (C : Cok g X) (hi : X.N[i]? = some y) (hx : Loc X.env.scope y) (h : PE X e (tR g fs ie)) (hs : swapsWith e (some (.Name y pos')) pos.line X.env = pure false) (hf : X.fn y = true ∨ X.env.scope.names.lookup y = some .local) :
    PS X (.Assign [.Name y pos'] e pos) (tSt g fs (.asgO i ie)) := PS.weak (ps_set C.nd hi hx h hs hf) fun _ _ _ q => asgO_core (fun _ q => q) q
theorem s_setLc {i : Nat} {y : Str} {py : Pos} {elt tg iter : Expr} {ifs : List Expr} {scope : Scope} {own : List (Str × Nat)} {pos spos : Pos} {itg : Tg} {ik : IK} {its cond : List E} {ielt : E} (C : Cok g X) (hy : X.N[i]? = some y) (hyl : X.env.scope.names.lookup y = some .local)
    (hsw : swapsWith (.ListComp elt [⟨tg, iter, ifs, 0⟩] scope pos) (some (.Name y py)) spos.line X.env = pure true) (hi : PI X tg iter (tI g fs ik its)) (ok : BlkOk X.N X.env.scope scope own)
    (hg : ∀ (s : Shared) (H : Hp) (C : Addr) (cl : List (Str × Addr)) (fp : List Addr), PG (X.blk s H scope (compEnvC scope cl C X.env) fp) tg (tgT g.K itg)) (ht : ∀ (s : Shared) (H : Hp) (C : Addr) (cl : List (Str × Addr)) (fp : List Addr), PTs (X.blk s H scope (compEnvC scope cl C X.env) fp) ifs (tTc g fs cond))
    (he : ∀ (s : Shared) (H : Hp) (C : Addr) (cl : List (Str × Addr)) (fp : List Addr), PE (X.blk s H scope (compEnvC scope cl C X.env) fp) elt (tR g fs ielt)) (hs : ∀ x, foldedSetIterable iter X.env x = pure x) :
    PS X (.Assign [.Name y py] (.ListComp elt [⟨tg, iter, ifs, 0⟩] scope pos) spos) (tSt g fs (.asgO i (.comp (own.map (·.2)) itg ik its cond ielt))) := by
  refine PS.weak (PS.kf (ps_setLc (g := tgK g.K itg) C.calm C.nd hy hyl hsw hi ok (fun s H Ca cl fp => ?_) ht he hs)) ?_
  · have := PG.kf (hg s H Ca cl fp)
    exact ⟨fun pins s σ H v u Q I r q => this.run pins s σ H v u Q I r fun kf => q fun a o e => kf a o (by show X.K.lookup a = some o; rw [C.K]; exact e)⟩
  · intro Dn σ H q
    have := asgO_core (te := fun σ H Q => tLc (tI g fs ik its) (tgK g.K itg) (tTc g fs cond) (tR g fs ielt) (own.map (·.2)) σ H (fun v H' => kfs g.K H' → Q v H')) (fun Q ⟨Bn, Ow, Γ, r, Γ', rs, he, hQ⟩ => comp_core rs he hQ) q
    rw [C.K]
    exact this
theorem s_ite {c : Expr} {a b : List Stmt} {ic : E} {ia ib : List S} (hc : PT X c (tT g fs ic)) (ha : PSs X a (tSs g fs ia)) (hb : PSs X b (tSs g fs ib)) : PS X (.If c a b pos) (tSt g fs (.ite ic ia ib)) := by
  refine PS.weak (ps_if hc ha hb) ?_
  rintro Dn σ H ⟨pv, Bn, Ow, Γ, o, rs, pn, he, po⟩
  simp only [ex] at he
  obtain ⟨⟨x, Γ1⟩, e1, he⟩ := Option.bind_eq_some_iff.mp he
  obtain ⟨t, e2, he⟩ := Option.bind_eq_some_iff.mp he
  refine ⟨Bn, Ow, Γ, x, Γ1, t, rs, e1, e2, fun H1 O1 s1 r1 => ?_⟩
  cases t with
  | true => rw [if_pos rfl] at he ⊢; exact ⟨pv, Bn, O1, Γ1, o, r1, pn, he, po.step s1⟩
  | false => rw [if_neg Bool.false_ne_true] at he ⊢; exact ⟨pv, Bn, O1, Γ1, o, r1, pn, he, po.step s1⟩
theorem ss_nil : PSs X [] (tSs g fs []) := by
  refine PSs.weak pss_nil ?_
  rintro Dn σ H ⟨pv, Bn, Ow, Γ, o, rs, pn, he, po⟩
  simp only [exs, Option.some.injEq] at he; subst he
  exact po σ H Ow (.refl _ _) rs pn
theorem ss_cons {rest : List Stmt} {a : S} {b : List S} (h1 : PS X st (tSt g fs a)) (h2 : PSs X rest (tSs g fs b)) : PSs X (st :: rest) (tSs g fs (a :: b)) := by
  refine PSs.weak (pss_cons h1 h2) ?_
  rintro Dn σ H ⟨pv, Bn, Ow, Γ, o, rs, pn, he, po⟩
  simp only [exs] at he
  obtain ⟨o1, e1, he⟩ := Option.bind_eq_some_iff.mp he
  refine ⟨pv, Bn, Ow, Γ, o1, rs, pn, e1, ?_⟩
  cases o1 with
  | nx G => exact fun σ1 H1 O1 s1 r1 p1 => ⟨pv, Bn, O1, G, o, r1, p1, he, po.step s1⟩
  | bk G => simp only [Option.some.injEq] at he; subst he; exact po
  | ct G => simp only [Option.some.injEq] at he; subst he; exact po
  | rt r G => simp only [Option.some.injEq] at he; subst he; exact po
theorem s_whl {c : Expr} {b : List Stmt} {ic : E} {ib : List S} (hp : PassesOwn (model X.prog X.w) X.A X.env X.xe) (hc : PT X c (tT g fs ic)) (hb : PSs X b (tSs g fs ib)) : PS X (.While c b [] pos) (tSt g fs (.whl ic ib)) := by
  refine PS.weak (ps_while hp hc hb) ?_
  rintro Dn σ H ⟨pv, Bn, Ow, Γ, o, rs, pn, he, po⟩
  simp only [ex] at he
  let W : Nat → St → Hp → Prop := fun m σ1 H1 => ∃ O1 Γ1, Stp Ow H O1 H1 ∧ RS g Bn O1 H1 σ1 Γ1 ∧ Pin pv σ1 ∧ whlLoop (fun Γ => (ev fs ic Γ).bind fun (x, Γ1) => (testD Γ1 x).map fun t => (t, Γ1)) (exs fs (pv.2.map (·.1)) ib) m Γ1 = some o
  refine ⟨W, ⟨fuel, Ow, Γ, .refl _ _, rs, pn, he⟩, ?_⟩
  rintro m σ1 H1 ⟨O1, Γ1, s1, r1, p1, l1⟩
  cases m with
  | zero => simp only [whlLoop, reduceCtorEq] at l1
  | succ n =>
    simp only [whlLoop] at l1
    obtain ⟨⟨t, Γ2⟩, e2, l1⟩ := Option.bind_eq_some_iff.mp l1
    obtain ⟨⟨x, Γ3⟩, e3, e2⟩ := Option.bind_eq_some_iff.mp e2
    obtain ⟨t', e4, e2⟩ := Option.map_eq_some_iff.mp e2
    simp only [Prod.mk.injEq] at e2
    obtain ⟨rfl, rfl⟩ := e2
    refine ⟨Bn, O1, Γ1, x, Γ3, t', r1, e3, e4, fun H2 O2 s2 r2 => ?_⟩
    cases t' with
    | false =>
      simp only [Bool.false_eq_true, if_false, Option.some.injEq] at l1 ⊢
      subst l1
      exact po σ1 H2 O2 (s1.trans s2) r2 p1
    | true =>
      simp only [if_true] at l1 ⊢
      obtain ⟨o1, e5, l1⟩ := Option.bind_eq_some_iff.mp l1
      refine ⟨fun σ' H' => W n σ' H', fun σ' H' w => ⟨n, Nat.lt_succ_self n, w⟩, pv, Bn, O2, Γ3, o1, r2, p1, e5, ?_⟩
      cases o1 with
      | nx G => exact fun σ4 H4 O4 s4 r4 p4 => ⟨O4, G, (s1.trans s2).trans s4, r4, p4, l1⟩
      | ct G => exact fun σ4 H4 O4 s4 r4 p4 => ⟨O4, G, (s1.trans s2).trans s4, r4, p4, l1⟩
      | bk G =>
        simp only [Option.some.injEq] at l1; subst l1
        exact fun σ4 H4 O4 s4 r4 p4 => po σ4 H4 O4 ((s1.trans s2).trans s4) r4 p4
      | rt r G =>
        simp only [Option.some.injEq] at l1; subst l1
        exact fun v σ4 H4 O4 s4 r4 p4 => po v σ4 H4 O4 ((s1.trans s2).trans s4) r4 p4
theorem s_for {tg iter : Expr} {b : List Stmt} {itg : Tg} {ik : IK} {its : List E} {ib : List S} (C : Cok g X) (hp : PassesOwn (model X.prog X.w) X.A X.env X.xe) (hi : PI X tg iter (tI g fs ik its)) (hg : PG X tg (tgT g.K itg)) (hb : PSs X b (tSs g fs ib)) (hs : ∀ x, foldedSetIterable iter X.env x = pure x) :
    PS X (.For tg iter b [] pos) (tSt g fs (.for_ itg ik its ib)) := by
  refine PS.weak (ps_for hp C.calm hi hg hb hs) ?_
  rintro Dn σ H ⟨pv, Bn, Ow, Γ, o, rs, pn, he, po⟩
  simp only [ex] at he
  obtain ⟨⟨xs, Γ1⟩, e1, he⟩ := Option.bind_eq_some_iff.mp he
  obtain ⟨⟨ds, Γ2⟩, e2, he⟩ := Option.bind_eq_some_iff.mp he
  simp only [Option.ite_none_right_eq_some] at he
  obtain ⟨dj, he⟩ := he
  refine ⟨Bn, Ow, Γ, xs, Γ1, ds, Γ2, rs, e1, e2, fun J H1 O1 s1 r1 wk => ?_⟩
  let C1 : Nat → St → Hp → Prop := fun i σ2 H2 => ∃ O2 G2, Stp O1 H1 O2 H2 ∧ RS g Bn O2 H2 σ2 G2 ∧ Pin pv σ2 ∧ forLoop itg (exs fs (pv.2.map (·.1)) ib) (ds.drop i) G2 = some o
  refine ⟨fun i m σ2 H2 => m = ds.length - i ∧ i ≤ ds.length ∧ C1 i σ2 H2, ⟨ds.length, by simp, Nat.zero_le _, O1, Γ2, .refl _ _, r1, pn, he⟩, ?_⟩
  rintro i m σ2 H2 ⟨rfl, hle, O2, G2, s2, r2, p2, l2⟩
  by_cases hlt : i < ds.length
  · refine .inr ⟨wk.go i H2 hlt fun a o h n => s2.keep a o h n, fun σ' H' => C1 (i + 1) σ' H', fun σ' H' q => ⟨ds.length - (i + 1), by omega, rfl, hlt, q⟩, fun x H3 y => ?_⟩
    have edr : ds.drop i = ds[i] :: ds.drop (i + 1) := List.drop_eq_getElem_cons hlt
    rw [edr] at l2
    simp only [forLoop] at l2
    obtain ⟨G3, a1, l2⟩ := Option.bind_eq_some_iff.mp l2
    obtain ⟨o1, a2, l2⟩ := Option.bind_eq_some_iff.mp l2
    obtain ⟨sm, rx⟩ := wk.yld i _ Bn O2 H2 _ _ x H3 (List.getElem?_eq_getElem hlt) (fun a z => z) (fun a z => .inl z) s2 r2 y
    have s3 : Stp O1 H1 O2 H3 := s2.trans (Stp.same sm)
    refine asgT_ok itg (r2.same sm) rx a1 fun σ3 q1 q2 q3 => ⟨pv, Bn, O2, G3, o1, q1, p2.keep dj q2 q3, a2, ?_⟩
    cases o1 with
    | nx G => exact fun σ4 H4 O4 s4 r4 p4 => ⟨O4, G, s3.trans s4, r4, p4, l2⟩
    | ct G => exact fun σ4 H4 O4 s4 r4 p4 => ⟨O4, G, s3.trans s4, r4, p4, l2⟩
    | bk G =>
      simp only [Option.some.injEq] at l2; subst l2
      exact fun σ4 H4 O4 s4 r4 p4 => po σ4 H4 O4 (s1.trans (s3.trans s4)) r4 p4
    | rt r G =>
      simp only [Option.some.injEq] at l2; subst l2
      exact fun v σ4 H4 O4 s4 r4 p4 => po v σ4 H4 O4 (s1.trans (s3.trans s4)) r4 p4
  · have e : i = ds.length := by omega
    subst e
    rw [List.drop_length] at l2
    simp only [forLoop, Option.some.injEq] at l2
    subst l2
    exact .inl ⟨wk.stop H2 fun a o h n => s2.keep a o h n, po σ2 H2 O2 (s1.trans s2) r2 p2⟩
end
end DV

namespace DV
open PySem L2
section
variable {X : Cx} {g : Gx} {fs : List FS} {st : Stmt} {pos : Pos} {Bn : Addr → Prop} {Ow Ow' : List Addr} {H H' : Hp} {σ : St} {Γ Γ' : Ct}
theorem isLst_ty {i : Nat} (rs : RS g Bn Ow H σ Γ) (h : isLst Γ i = true) : ∃ a, σ[i]? = some (some (.ref a)) ∧ tyV g.K "list" (.ref a) H := by
  unfold isLst at h
  split at h
  · rename_i ds b q
    cases b with
    | false =>
      obtain ⟨v, e1, r1⟩ := rs.slot i _ q
      simp only [Rep] at r1
      obtain ⟨a, vs, rfl, _, s, _⟩ := r1
      exact ⟨a, e1, .inl ⟨rfl, vs, .inl (.inl s)⟩⟩
    | true =>
      obtain ⟨a, e1, _, vs, s, _⟩ := rs.own i _ q
      exact ⟨a, e1, .inl ⟨rfl, vs, .inl (.inl s)⟩⟩
  · cases h
theorem s_app {o e : Expr} {i : Nat} {ie : E} {apos cpos : Pos} (C : Cok g X) (ho : PE X o (tVar i)) (he : PE X e (tR g fs ie)) (hbase : attributeBase o "append" X.env (eval o X.env) = eval o X.env)
    (hline : (apos.endLine == cpos.line) = true) (hs : starEach [e] X.env = [(false, eval e X.env)]) (hsw : swapsWith (.Call (.Attribute o "append" apos) [e] [] cpos) none pos.line X.env = pure false) :
    PS X (.Expr (.Call (.Attribute o "append" apos) [e] [] cpos) pos) (tSt g fs (.app i ie)) := by
  refine PS.weak (ps_expr (pe_bm PySem.F.plainAttrs_list PySem.F.slot_list_append PySem.F.type_list_append mt_append ho (pa_cons he pa_nil (by rw [hs]; rfl)) hbase (by rw [hs]; rfl) hline (by rw [hs]; rfl) rfl) hsw) ?_
  rintro Dn σ H ⟨pv, Bn, Ow, Γ, o, rs, pn, he, po⟩
  simp only [ex, Option.ite_none_right_eq_some] at he
  obtain ⟨hl, he⟩ := he
  obtain ⟨⟨x, Γ1⟩, e1, he⟩ := Option.bind_eq_some_iff.mp he
  obtain ⟨⟨d, Γ2⟩, e2, he⟩ := Option.bind_eq_some_iff.mp he
  obtain ⟨a, ea, ty⟩ := isLst_ty rs hl
  refine ⟨_, ea, by rw [C.K]; exact ty, Bn, Ow, Γ, x, Γ1, rs, e1, fun v H1 O1 s1 r1 vl => ?_⟩
  obtain ⟨O2, s2, r2, p2⟩ := fre_ok r1 vl e2
  split at he
  · rename_i c q
    obtain ⟨c', e3, rfl⟩ := Option.map_eq_some_iff.mp he
    obtain ⟨b, eb, m, ow⟩ := r2.own i _ q
    rw [ea] at eb; cases eb
    cases c <;> simp only [appD, reduceCtorEq, Option.ite_none_right_eq_some, Option.some.injEq] at e3
    rename_i xs
    obtain ⟨hz, rfl⟩ := e3
    obtain ⟨vs, hv, rp⟩ := ow
    obtain ⟨r3, s3⟩ := r2.mut q ea (rp.app (Reps.one p2))
    exact ⟨a, vs, v, rfl, rfl, hv, by rw [← rp.len]; exact hz, po _ _ O2 ((s1.trans s2).trans s3) r3 pn⟩
  · cases he
theorem s_ext {o e : Expr} {i : Nat} {ie : E} {apos cpos : Pos} (C : Cok g X) (ho : PE X o (tVar i)) (he : PE X e (tR g fs ie)) (hbase : attributeBase o "extend" X.env (eval o X.env) = eval o X.env)
    (hline : (apos.endLine == cpos.line) = true) (hs : starEach [e] X.env = [(false, eval e X.env)]) (hsw : swapsWith (.Call (.Attribute o "extend" apos) [e] [] cpos) none pos.line X.env = pure false) :
    PS X (.Expr (.Call (.Attribute o "extend" apos) [e] [] cpos) pos) (tSt g fs (.ext i ie)) := by
  refine PS.weak (ps_expr (pe_bm PySem.F.plainAttrs_list PySem.F.slot_list_extend PySem.F.type_list_extend mt_extend ho (pa_cons he pa_nil (by rw [hs]; rfl)) hbase (by rw [hs]; rfl) hline (by rw [hs]; rfl) rfl) hsw) ?_
  rintro Dn σ H ⟨pv, Bn, Ow, Γ, o, rs, pn, he, po⟩
  simp only [ex, Option.ite_none_right_eq_some] at he
  obtain ⟨hl, he⟩ := he
  obtain ⟨⟨x, Γ1⟩, e1, he⟩ := Option.bind_eq_some_iff.mp he
  obtain ⟨d, e2, he⟩ := Option.bind_eq_some_iff.mp he
  obtain ⟨a, ea, ty⟩ := isLst_ty rs hl
  refine ⟨_, ea, by rw [C.K]; exact ty, Bn, Ow, Γ, x, Γ1, rs, e1, fun v H1 O1 s1 r1 vl => ?_⟩
  have rd := vl.rdb r1 e2
  split at he
  · rename_i c q
    obtain ⟨c', e3, rfl⟩ := Option.map_eq_some_iff.mp he
    obtain ⟨b, eb, m, ow⟩ := r1.own i _ q
    rw [ea] at eb; cases eb
    cases c <;> simp only [extD, reduceCtorEq] at e3
    cases d <;> simp only [extD, reduceCtorEq, Option.ite_none_right_eq_some, Option.some.injEq] at e3
    obtain ⟨hz, rfl⟩ := e3
    obtain ⟨vs, hv, rp⟩ := ow
    obtain ⟨b, ws, rfl, hw, rq⟩ := rd
    obtain ⟨r3, s3⟩ := r1.mut q ea (rp.app rq)
    exact ⟨a, b, vs, ws, rfl, rfl, hv, hw, by rw [← rp.len, ← rq.len]; exact hz, po _ _ O1 (s1.trans s3) r3 pn⟩
  · cases he
theorem s_seti {o k e : Expr} {i : Nat} {ik ie : E} {tpos : Pos} (C : Cok g X) (ho : PE X o (tVar i)) (hk : PE X k (tR g fs ik)) (he : PE X e (tR g fs ie)) (hs : swapsWithSole [.Subscript o k tpos] e pos.line X.env = pure false) (hw : swappedStores [.Subscript o k tpos] e X.env = pure none)
    (h1 : (assignEach [.Subscript o k tpos] X.env).map (·.2) = [assign (.Subscript o k tpos) X.env])
    (ha : ∀ v, assign (.Subscript o k tpos) X.env v = (do
      let ov ← holding [v] (eval o X.env)
      let iv ← holding [v, ov] (eval k X.env)
      standAt tpos
      holding [v, ov, iv] (setItem ov iv v)
      release [v, ov, iv] [])) : PS X (.Assign [.Subscript o k tpos] e pos) (tSt g fs (.seti i ik ie)) := by
  refine PS.weak (ps_asg he (pg_sub ho hk set_list ha) hs hw h1) ?_
  rintro Dn σ H ⟨pv, Bn, Ow, Γ, o, rs, pn, he, po⟩
  simp only [ex] at he
  obtain ⟨⟨x, Γ1⟩, e1, he⟩ := Option.bind_eq_some_iff.mp he
  obtain ⟨⟨d, Γ2⟩, e2, he⟩ := Option.bind_eq_some_iff.mp he
  simp only [Option.ite_none_right_eq_some] at he
  obtain ⟨hil, he⟩ := he
  obtain ⟨⟨y, Γ3⟩, e3, he⟩ := Option.bind_eq_some_iff.mp he
  obtain ⟨kd, e4, he⟩ := Option.bind_eq_some_iff.mp he
  refine ⟨Bn, Ow, Γ, x, Γ1, rs, e1, fun v H1 O1 s1 r1 vl => ?_⟩
  obtain ⟨O2, s2, r2, p2⟩ := fre_ok r1 vl e2
  split at he
  · rename_i c q
    obtain ⟨c', e5, rfl⟩ := Option.map_eq_some_iff.mp he
    obtain ⟨a, ea, _⟩ := isLst_ty r2 hil
    refine ⟨_, ea, Bn, O2, Γ2, y, Γ3, r2, e3, fun w H3 O3 s3 r3 v3 => ?_⟩
    have rd := v3.rdb r3 e4
    obtain ⟨b, eb, m, ow⟩ := r3.own i _ q
    rw [ea] at eb; cases eb
    cases c <;> simp only [setD, reduceCtorEq] at e5
    cases kd <;> simp only [setD, reduceCtorEq] at e5
    rename_i ki
    obtain ⟨j, e6, rfl⟩ := Option.map_eq_some_iff.mp e5
    obtain ⟨vs, hv, rp⟩ := ow
    have rd : w = .int ki := by simpa only [Rdb, Rep] using rd
    obtain ⟨r4, s4⟩ := r3.mut q ea (rp.set (p2.step s3 r3) j)
    exact ⟨a, vs, _, j, rfl, rd, hv, by rw [← rp.len]; exact e6, po _ _ O3 (((s1.trans s2).trans s3).trans s4) r4 pn⟩
  · cases he
/-! ### parallel assignment -/
def VlN (g : Gx) (Bn : Addr → Prop) (Ow : List Addr) (H : Hp) (σ : St) (Γ : Ct) : List RV → List V → Prop
  | [], vs => vs = []
  | x :: xs, vs => ∃ v r, vs = v :: r ∧ Val g Bn Ow H σ Γ x v ∧ (∀ d, x = .nw d → v ∉ r) ∧ (∀ i, x ≠ .sl i) ∧ VlN g Bn Ow H σ Γ xs r
def tAn (g : Gx) (fs : List FS) (is : List (Nat × Bool)) (es : List E) : TA := fun σ H Q => ∃ Bn Ow Γ xs Γ', RS g Bn Ow H σ Γ ∧ evn fs is es Γ = some (xs, Γ') ∧ ∀ vs H' Ow', Stp Ow H Ow' H' → RS g Bn Ow' H' σ Γ' → VlN g Bn Ow' H' σ Γ' xs vs → Q vs H'
theorem evn_nil {σ : St} {H : Hp} {Q : List V → Hp → Prop} : tAn g fs [] [] σ H Q → tNil σ H Q := by
  rintro ⟨Bn, Ow, Γ, xs, Γ', rs, he, hQ⟩
  simp only [evn, Option.some.injEq, Prod.mk.injEq] at he
  obtain ⟨rfl, rfl⟩ := he
  exact hQ [] H Ow (.refl _ _) rs rfl
theorem Rep.nav {A : Addr → Prop} {d : D} {a : Addr} (h : Rep g A H d (.ref a)) : ¬ A a := by
  cases d <;> simp only [Rep, reduceCtorEq] at h
  · obtain ⟨b, vs, e, n, _⟩ := h; cases e; exact n
  · obtain ⟨b, vs, e, n, _⟩ := h; cases e; exact n
  · obtain ⟨b, vs, ws, e, n, _⟩ := h; cases e; exact n
  · obtain ⟨b, e, n, _⟩ := h; cases e; exact n
theorem OwnA.step {d : D} {p : Addr} (o : OwnA g (Av Bn Ow) H d p) (np : p ∉ Ow) (s : Stp Ow H Ow' H') (rs : RS g Bn Ow' H' σ Γ) : OwnA g (Av Bn Ow') H' d p := by
  cases d with
  | lst es => obtain ⟨us, e2, r2⟩ := o; exact ⟨us, s.keep _ _ e2 np, r2.step s rs⟩
  | obj c ks es => obtain ⟨dx, us, l, e2, r2⟩ := o; exact ⟨dx, us, l, s.keep _ _ e2 np, r2.step s rs⟩
  | _ => exact o
theorem RS.ban {d : D} {p : Addr} (rs : RS g Bn Ow H σ Γ) (m : p ∈ Ow) (no : ∀ (i : Nat) e, Γ[i]? = some (some (e, true)) → σ[i]? ≠ some (some (.ref p))) : RS g (orB Bn p) (Ow.filter (fun x => decide (x ≠ p))) H σ Γ := by
  have k1 : ∀ a, Av (orB Bn p) (Ow.filter (fun x => decide (x ≠ p))) a → Av Bn Ow a := fun a z => by
    rcases z with (z | z) | z
    · exact .inl z
    · rw [z]; exact .inr m
    · exact .inr (mem_ne z).1
  refine ⟨rs.len, fun i d h => ?_, fun i d h => ?_, rs.dist, fun a h => rs.trk a (k1 a h), fun a h z => ?_, fun a h => rs.kf a (k1 a h)⟩
  · obtain ⟨v, e, r⟩ := rs.slot i d h; exact ⟨v, e, rep_less k1 r⟩
  · obtain ⟨a, e, ma, r⟩ := rs.own i d h
    exact ⟨a, e, ne_mem ma fun z => no i d h (by rw [e, z]), own_less k1 r⟩
  · rcases h with h | h
    · exact rs.sep a h (mem_ne z).1
    · exact (mem_ne z).2 h
theorem VlN.unB {p : Addr} : ∀ {xs : List RV} {vs : List V}, VlN g (orB Bn p) Ow H σ Γ xs vs → VlN g Bn (p :: Ow) H σ Γ xs vs
  | [], _, h => h
  | x :: xs, _, ⟨v, r, e, h1, h2, h3, h4⟩ => by
    refine ⟨v, r, e, ?_, h2, h3, VlN.unB h4⟩
    have k1 : ∀ a, Av Bn (p :: Ow) a → Av (orB Bn p) Ow a := fun a z => by
      rcases z with z | z
      · exact .inl (.inl z)
      · rcases List.mem_cons.mp z with z | z
        · exact .inl (.inr z)
        · exact .inr z
    cases x with
    | fz d => exact rep_less k1 h1
    | nw d => obtain ⟨a, e1, m1, o1, n1⟩ := h1; exact ⟨a, e1, List.mem_cons_of_mem _ m1, own_less k1 o1, n1⟩
    | sl i => exact h1
theorem VlN.nin {p : Addr} : ∀ {xs : List RV} {vs : List V}, VlN g Bn Ow H σ Γ xs vs → Bn p → (∀ a, Bn a → a ∉ Ow) → V.ref p ∉ vs
  | [], _, h, _, _ => by have h : _ = [] := h; subst h; simp
  | x :: xs, _, ⟨v, r, e, h1, h2, h3, h4⟩, hp, sp => by
    subst e
    intro z
    rcases List.mem_cons.mp z with z | z
    · subst z
      cases x with
      | fz d => exact Rep.nav h1 (.inl hp)
      | nw d => obtain ⟨a, e1, m1, _⟩ := h1; cases e1; exact sp p hp m1
      | sl i => exact h3 i rfl
    · exact VlN.nin h4 hp sp z
theorem an_nil : PA X [] (tAn g fs [] []) := PA.weak pa_nil fun _ _ _ q => evn_nil q
theorem an_cons {a : Expr} {es : List Expr} {ia : E} {ies : List E} {i : Nat} {b : Bool} {is : List (Nat × Bool)} (ha : PE X a (tR g fs ia)) (hr : PA X es (tAn g fs is ies)) (hs : starEach (a :: es) X.env = (false, eval a X.env) :: starEach es X.env) : PA X (a :: es) (tAn g fs ((i, b) :: is) (ia :: ies)) := by
  refine PA.weak (pa_cons ha hr hs) ?_
  rintro σ H Q ⟨Bn, Ow, Γ, xs, Γ', rs, he, hQ⟩
  simp only [evn] at he
  obtain ⟨⟨x, Γ1⟩, e1, he⟩ := Option.bind_eq_some_iff.mp he
  refine ⟨Bn, Ow, Γ, x, Γ1, rs, e1, fun v H1 O1 s1 r1 vl => ?_⟩
  have plain : ((fre Γ1 x).bind fun (p : D × Ct) => (evn fs is ies p.2).map fun (q : List RV × Ct) => (RV.fz p.1 :: q.1, q.2)) = some (xs, Γ') → tAn g fs is ies σ H1 (fun vs H2 => Q (v :: vs) H2) := fun he => by
    obtain ⟨⟨d, Γ2⟩, e2, he⟩ := Option.bind_eq_some_iff.mp he
    obtain ⟨⟨ys, Γ3⟩, e3, he⟩ := Option.map_eq_some_iff.mp he
    simp only [Prod.mk.injEq] at he
    obtain ⟨rfl, rfl⟩ := he
    obtain ⟨O2, s2, r2, p2⟩ := fre_ok r1 vl e2
    exact ⟨Bn, O2, Γ2, ys, Γ3, r2, e3, fun vs H3 O3 s3 r3 v3 => hQ (v :: vs) H3 O3 ((s1.trans s2).trans s3) r3 ⟨v, vs, rfl, p2.step s3 r3, nofun, nofun, v3⟩⟩
  cases b with
  | false => cases x <;> exact plain he
  | true =>
    cases x with
    | fz d => exact plain he
    | sl i => exact plain he
    | nw d =>
      obtain ⟨⟨ys, Γ3⟩, e3, he⟩ := Option.map_eq_some_iff.mp he
      simp only [Prod.mk.injEq] at he
      obtain ⟨rfl, rfl⟩ := he
      obtain ⟨p, rfl, m, ow, no⟩ := vl
      have r2 := r1.ban (d := d) m no
      have nb : ¬ Bn p := fun z => r1.sep p z m
      have np : p ∉ O1.filter (fun x => decide (x ≠ p)) := fun z => (mem_ne z).2 rfl
      have ow2 : OwnA g (Av (orB Bn p) (O1.filter (fun x => decide (x ≠ p)))) H1 d p := own_less (fun a z => by
        rcases z with (z | z) | z
        · exact .inl z
        · rw [z]; exact .inr m
        · exact .inr (mem_ne z).1) ow
      refine ⟨orB Bn p, _, Γ1, ys, Γ3, r2, e3, fun vs H3 O3 s3 r3 v3 => hQ (.ref p :: vs) H3 (p :: O3) (s1.trans ⟨fun a o h n => s3.keep a o h fun z => n (mem_ne z).1, fun a h => ?_, s3.stay⟩) (r3.unB nb) ⟨.ref p, vs, rfl, ⟨p, rfl, List.mem_cons_self, ?_, fun j e h1 h2 => ?_⟩, fun _ _ => VlN.nin v3 (.inr rfl) r3.sep, nofun, v3.unB⟩⟩
      · rcases List.mem_cons.mp h with h | h
        · rw [h]; exact .inl m
        · rcases s3.grow a h with z | z
          · exact .inl (mem_ne z).1
          · exact .inr z
      · exact own_less (fun a z => by
          rcases z with z | z
          · exact .inl (.inl z)
          · rcases List.mem_cons.mp z with z | z
            · exact .inl (.inr z)
            · exact .inr z) (ow2.step np s3 r3)
      · obtain ⟨b, e2, m2, _⟩ := r3.own j e h1
        rw [h2] at e2; cases e2
        exact r3.sep p (.inr rfl) m2
theorem VlW.unB {p : Addr} : ∀ {xs : List RV} {vs : List V}, VlW g (orB Bn p) Ow H σ Γ xs vs → VlW g Bn (p :: Ow) H σ Γ xs vs
  | [], _, h => h
  | x :: xs, _, ⟨v, r, e, h1, h2, h4⟩ => by
    refine ⟨v, r, e, ?_, h2, VlW.unB h4⟩
    have k1 : ∀ a, Av Bn (p :: Ow) a → Av (orB Bn p) Ow a := fun a z => by
      rcases z with z | z
      · exact .inl (.inl z)
      · rcases List.mem_cons.mp z with z | z
        · exact .inl (.inr z)
        · exact .inr z
    cases x with
    | fz d => exact rep_less k1 h1
    | nw d => obtain ⟨a, e1, m1, o1, n1⟩ := h1; exact ⟨a, e1, List.mem_cons_of_mem _ m1, own_less k1 o1, n1⟩
    | sl i => exact h1
theorem aw_nil : PA X [] (tAw g fs []) := by
  refine PA.weak pa_nil ?_
  rintro σ H Q ⟨Bn, Ow, Γ, xs, Γ', rs, he, hQ⟩
  simp only [evs, Option.some.injEq, Prod.mk.injEq] at he
  obtain ⟨rfl, rfl⟩ := he
  exact hQ [] H Ow (.refl _ _) rs rfl
theorem aw_cons {a : Expr} {es : List Expr} {ia : E} {ies : List E} (ha : PE X a (tR g fs ia)) (hr : PA X es (tAw g fs ies)) (hs : starEach (a :: es) X.env = (false, eval a X.env) :: starEach es X.env) : PA X (a :: es) (tAw g fs (ia :: ies)) := by
  refine PA.weak (pa_cons ha hr hs) ?_
  rintro σ H Q ⟨Bn, Ow, Γ, xs, Γ', rs, he, hQ⟩
  simp only [evs] at he
  obtain ⟨⟨x, Γ1⟩, e1, he⟩ := Option.bind_eq_some_iff.mp he
  obtain ⟨⟨ys, Γ3⟩, e3, he⟩ := Option.map_eq_some_iff.mp he
  simp only [Prod.mk.injEq] at he
  obtain ⟨rfl, rfl⟩ := he
  refine ⟨Bn, Ow, Γ, x, Γ1, rs, e1, fun v H1 O1 s1 r1 vl => ?_⟩
  cases x with
  | fz d => exact ⟨Bn, O1, Γ1, ys, Γ3, r1, e3, fun vs H3 O3 s3 r3 v3 => hQ (v :: vs) H3 O3 (s1.trans s3) r3 ⟨v, vs, rfl, Val.step (r := .fz d) vl s3 r3, nofun, v3⟩⟩
  | sl i => exact ⟨Bn, O1, Γ1, ys, Γ3, r1, e3, fun vs H3 O3 s3 r3 v3 => hQ (v :: vs) H3 O3 (s1.trans s3) r3 ⟨v, vs, rfl, vl, nofun, v3⟩⟩
  | nw d =>
    obtain ⟨p, rfl, m, ow, no⟩ := vl
    have r2 := r1.ban (d := d) m no
    have nb : ¬ Bn p := fun z => r1.sep p z m
    have np : p ∉ O1.filter (fun x => decide (x ≠ p)) := fun z => (mem_ne z).2 rfl
    have ow2 : OwnA g (Av (orB Bn p) (O1.filter (fun x => decide (x ≠ p)))) H1 d p := own_less (fun a z => by
      rcases z with (z | z) | z
      · exact .inl z
      · rw [z]; exact .inr m
      · exact .inr (mem_ne z).1) ow
    refine ⟨orB Bn p, _, Γ1, ys, Γ3, r2, e3, fun vs H3 O3 s3 r3 v3 => hQ (.ref p :: vs) H3 (p :: O3) (s1.trans ⟨fun a o h n => s3.keep a o h fun z => n (mem_ne z).1, fun a h => ?_, s3.stay⟩) (r3.unB nb) ⟨.ref p, vs, rfl, ⟨p, rfl, List.mem_cons_self, ?_, fun j e h1 h2 => ?_⟩, fun _ _ j e h1 h2 => ?_, v3.unB⟩⟩
    · rcases List.mem_cons.mp h with h | h
      · rw [h]; exact .inl m
      · rcases s3.grow a h with z | z
        · exact .inl (mem_ne z).1
        · exact .inr z
    · exact own_less (fun a z => by
        rcases z with z | z
        · exact .inl (.inl z)
        · rcases List.mem_cons.mp z with z | z
          · exact .inl (.inr z)
          · exact .inr z) (ow2.step np s3 r3)
    · obtain ⟨b, e2, m2, _⟩ := r3.own j e h1
      rw [h2] at e2; cases e2
      exact r3.sep p (.inr rfl) m2
    · obtain ⟨w, h3, h4⟩ := v3.get h1
      rw [h2] at h3; cases h3
      obtain ⟨b, e4, m4, _⟩ := h4
      cases e4
      exact r3.sep p (.inr rfl) m4
def setsV (σ : St) : List (Nat × Bool) → List V → St
  | (i, _) :: is, v :: vs => setsV (σ.set i (some v)) is vs
  | _, _ => σ
theorem VlN.set {i : Nat} {d : D} {b : Bool} {v : V} (hi : i < Γ.length) (hs : i < σ.length) : ∀ {xs : List RV} {vs : List V}, v ∉ vs ∨ b = false → VlN g Bn Ow H σ Γ xs vs → VlN g Bn Ow H (σ.set i (some v)) (Γ.set i (some (d, b))) xs vs
  | [], _, _, h => h
  | x :: xs, _, n, ⟨w, r, e, h1, h2, h3, h4⟩ => by
    subst e
    refine ⟨w, r, rfl, ?_, h2, h3, VlN.set hi hs (n.imp (fun n z => n (List.mem_cons_of_mem _ z)) id) h4⟩
    cases x with
    | fz d => exact h1
    | nw d =>
      obtain ⟨a, e1, m1, o1, n1⟩ := h1
      refine ⟨a, e1, m1, o1, fun j e q1 q2 => ?_⟩
      by_cases hj : i = j
      · subst hj
        rw [List.getElem?_set_self hi] at q1
        rw [List.getElem?_set_self hs] at q2
        cases q1; cases q2; cases e1
        exact n.elim (fun n => n List.mem_cons_self) nofun
      · rw [List.getElem?_set_ne hj] at q1 q2
        exact n1 j e q1 q2
    | sl i => exact (h3 i rfl).elim
theorem parS_ok {pv : Nat × List (Nat × V)} : ∀ {is : List (Nat × Bool)} {xs : List RV} {vs : List V} {σ : St} {Γ Γ' : Ct}, RS g Bn Ow H σ Γ → VlN g Bn Ow H σ Γ xs vs → parS is xs Γ = some Γ' → Pin pv σ → disjB (is.map (·.1)) (pv.2.map (·.1)) = true → RS g Bn Ow H (setsV σ is vs) Γ' ∧ Pin pv (setsV σ is vs)
  | [], [], vs, σ, Γ, Γ', rs, _, e, pn, _ => by
    simp only [parS, Option.some.injEq] at e; subst e
    exact ⟨by unfold setsV; exact rs, by unfold setsV; exact pn⟩
  | [], x :: xs, vs, σ, Γ, Γ', rs, _, e, pn, _ => by simp only [parS, reduceCtorEq] at e
  | (i, b) :: is, [], vs, σ, Γ, Γ', rs, _, e, pn, _ => by simp only [parS, reduceCtorEq] at e
  | (i, b) :: is, x :: xs, _, σ, Γ, Γ', rs, ⟨v, r, rfl, h1, h2, h3, h4⟩, e, pn, dj => by
    have d1 : disjB [i] (pv.2.map (·.1)) = true ∧ disjB (is.map (·.1)) (pv.2.map (·.1)) = true := by
      simp only [disjB, List.map_cons, List.all_cons, Bool.and_eq_true] at dj
      exact ⟨by simp only [disjB, List.all_cons, List.all_nil, Bool.and_true]; exact dj.1, dj.2⟩
    cases x with
    | sl j => exact (h3 j rfl).elim
    | fz d =>
      simp only [parS, Option.ite_none_right_eq_some] at e
      obtain ⟨hi, e⟩ := e
      exact parS_ok (σ := σ.set i (some v)) (rs.set h1 hi) (h4.set hi (by rw [rs.len]; exact hi) (.inr rfl)) e (pn.set d1.1) d1.2
    | nw d =>
      simp only [parS, Option.ite_none_right_eq_some] at e
      obtain ⟨hi, e⟩ := e
      exact parS_ok (σ := σ.set i (some v)) (rs.setO h1 hi) (h4.set hi (by rw [rs.len]; exact hi) (.inl (h2 d rfl))) e (pn.set d1.1) d1.2
theorem parS_len : ∀ {is : List (Nat × Bool)} {xs : List RV} {Γ Γ' : Ct}, parS is xs Γ = some Γ' → is.length = xs.length
  | [], [], _, _, _ => rfl
  | [], x :: xs, Γ, Γ', e => by simp only [parS, reduceCtorEq] at e
  | (i, b) :: is, [], Γ, Γ', e => by simp only [parS, reduceCtorEq] at e
  | (i, b) :: is, .sl j :: xs, Γ, Γ', e => by simp only [parS, reduceCtorEq] at e
  | (i, b) :: is, .fz d :: xs, Γ, Γ', e => by
    simp only [parS, Option.ite_none_right_eq_some] at e
    rw [List.length_cons, List.length_cons, parS_len e.2]
  | (i, b) :: is, .nw d :: xs, Γ, Γ', e => by
    simp only [parS, Option.ite_none_right_eq_some] at e
    rw [List.length_cons, List.length_cons, parS_len e.2]
theorem VlN.len : ∀ {xs : List RV} {vs : List V}, VlN g Bn Ow H σ Γ xs vs → xs.length = vs.length
  | [], _, h => by have h : _ = [] := h; subst h; rfl
  | x :: xs, _, ⟨v, r, e, _, _, _, h2⟩ => by subst e; rw [List.length_cons, List.length_cons, h2.len]
theorem par_core {is : List (Nat × Bool)} {es : List E} {Dn : Ends} {σ : St} {H : Hp} (h : tSt g fs (.par is es) Dn σ H) : tAn g fs is es σ H fun vs H1 => vs.length = is.length ∧ Dn.nx (setsV σ is vs) H1 := by
  obtain ⟨pv, Bn, Ow, Γ, o, rs, pn, he, po⟩ := h
  simp only [ex, Option.ite_none_right_eq_some] at he
  obtain ⟨dj, he⟩ := he
  obtain ⟨⟨ys, Γ2⟩, e1, he⟩ := Option.bind_eq_some_iff.mp he
  obtain ⟨Γ3, e2, rfl⟩ := Option.map_eq_some_iff.mp he
  refine ⟨Bn, Ow, Γ, ys, Γ2, rs, e1, fun vs H1 O1 s1 r1 v1 => ⟨by rw [parS_len e2, v1.len], ?_⟩⟩
  obtain ⟨r2, p2⟩ := parS_ok r1 v1 e2 pn dj
  exact po _ H1 O1 s1 r2 p2
theorem s_par2 {i j : Nat} {bi bj : Bool} {x y : Str} {a b : Expr} {ia ib : E} {px py pt : Pos} {kt k2 pt2} (C : Cok g X) (hi : X.N[i]? = some x) (hj : X.N[j]? = some y) (hij : i ≠ j)
    (hx : X.env.scope.names.lookup x = some .local) (hy : X.env.scope.names.lookup y = some .local) (ha : PA X [a, b] (tAn g fs [(i, bi), (j, bj)] [ia, ib]))
    (hw : swappedStores [.Tuple [.Name x px, .Name y py] kt pt] (.Tuple [a, b] k2 pt2) X.env = pure (some [x, y]))
    (hs : swapsWithSole [.Tuple [.Name x px, .Name y py] kt pt] (.Tuple [a, b] k2 pt2) pos.line X.env = pure false) :
    PS X (.Assign [.Tuple [.Name x px, .Name y py] kt pt] (.Tuple [a, b] k2 pt2) pos) (tSt g fs (.par [(i, bi), (j, bj)] [ia, ib])) := by
  refine PS.weak (ps_par C.calm C.nd hi hj hij hx hy ha hw hs) ?_
  intro Dn σ H q
  obtain ⟨Bn, Ow, Γ, xs, Γ', rs, he, hQ⟩ := par_core q
  refine ⟨Bn, Ow, Γ, xs, Γ', rs, he, fun vs H1 O1 s1 r1 v1 => ?_⟩
  obtain ⟨hl, q⟩ := hQ vs H1 O1 s1 r1 v1
  obtain ⟨v, w, rfl⟩ : ∃ v w, vs = [v, w] := by
    match vs, hl with
    | [v, w], _ => exact ⟨v, w, rfl⟩
  exact ⟨v, w, rfl, q⟩
theorem s_par3 {i j l : Nat} {bi bj bl : Bool} {x y z : Str} {a b c : Expr} {ia ib ic : E} {px py pz pt : Pos} {kt k2 pt2} (C : Cok g X) (hi : X.N[i]? = some x) (hj : X.N[j]? = some y) (hl : X.N[l]? = some z) (hij : i ≠ j) (hil : i ≠ l) (hjl : j ≠ l)
    (hx : X.env.scope.names.lookup x = some .local) (hy : X.env.scope.names.lookup y = some .local) (hz : X.env.scope.names.lookup z = some .local) (ha : PA X [a, b, c] (tAn g fs [(i, bi), (j, bj), (l, bl)] [ia, ib, ic]))
    (hw : swappedStores [.Tuple [.Name x px, .Name y py, .Name z pz] kt pt] (.Tuple [a, b, c] k2 pt2) X.env = pure (some [x, y, z]))
    (hs : swapsWithSole [.Tuple [.Name x px, .Name y py, .Name z pz] kt pt] (.Tuple [a, b, c] k2 pt2) pos.line X.env = pure false) :
    PS X (.Assign [.Tuple [.Name x px, .Name y py, .Name z pz] kt pt] (.Tuple [a, b, c] k2 pt2) pos) (tSt g fs (.par [(i, bi), (j, bj), (l, bl)] [ia, ib, ic])) := by
  refine PS.weak (ps_par3 C.calm C.nd hi hj hl hij hil hjl hx hy hz ha hw hs) ?_
  intro Dn σ H q
  obtain ⟨Bn, Ow, Γ, xs, Γ', rs, he, hQ⟩ := par_core q
  refine ⟨Bn, Ow, Γ, xs, Γ', rs, he, fun vs H1 O1 s1 r1 v1 => ?_⟩
  obtain ⟨hl, q⟩ := hQ vs H1 O1 s1 r1 v1
  obtain ⟨u, v, w, rfl⟩ : ∃ u v w, vs = [u, v, w] := by
    match vs, hl with
    | [u, v, w], _ => exact ⟨u, v, w, rfl⟩
  exact ⟨u, v, w, rfl, q⟩
end
end DV

namespace DV
open PySem L2
theorem Cok.blk {g : Gx} {X : Cx} (C : Cok g X) (s : Shared) (H : Hp) (scope : Scope) (ce : Env) (fp : List Addr) : Cok g (X.blk s H scope ce fp) := ⟨C.K, C.calm, C.hu, C.nd⟩
theorem part0 {g : Gx} {fs : List FS} {X : Cx} : Part g fs X none [] := ⟨.inl ⟨rfl, rfl⟩⟩
theorem part1 {g : Gx} {fs : List FS} {X : Cx} {a : Expr} {ia : E} (h : PE X a (tR g fs ia)) : Part g fs X (some a) [ia] := ⟨.inr ⟨a, ia, rfl, rfl, h⟩⟩
section
variable {g : Gx} {Bn : Addr → Prop} {Ow Ow' : List Addr} {H H' : Hp} {σ : St} {Γ Γ' : Ct}
theorem ownPs_mem : ∀ {G : Ct} {n i : Nat}, i ∈ ownPs n G ↔ ∃ j d, i = n + j ∧ G[j]? = some (some (d, true))
  | [], n, i => by simp [ownPs]
  | none :: r, n, i => by
    simp only [ownPs]
    rw [ownPs_mem]
    constructor
    · rintro ⟨j, d, rfl, h⟩; exact ⟨j + 1, d, by omega, by simpa using h⟩
    · rintro ⟨j, d, rfl, h⟩
      cases j with
      | zero => simp at h
      | succ j => exact ⟨j, d, by omega, by simpa using h⟩
  | some (c, false) :: r, n, i => by
    simp only [ownPs]
    rw [ownPs_mem]
    constructor
    · rintro ⟨j, d, rfl, h⟩; exact ⟨j + 1, d, by omega, by simpa using h⟩
    · rintro ⟨j, d, rfl, h⟩
      cases j with
      | zero => simp at h
      | succ j => exact ⟨j, d, by omega, by simpa using h⟩
  | some (c, true) :: r, n, i => by
    simp only [ownPs, List.mem_cons]
    rw [ownPs_mem]
    constructor
    · rintro (rfl | ⟨j, d, rfl, h⟩)
      · exact ⟨0, c, rfl, rfl⟩
      · exact ⟨j + 1, d, by omega, by simpa using h⟩
    · rintro ⟨j, d, rfl, h⟩
      cases j with
      | zero => exact .inl rfl
      | succ j => exact .inr ⟨j, d, by omega, by simpa using h⟩
theorem outsOf_len : ∀ {G G' : Ct}, G.length ≤ G'.length → (outsOf G G').length = G.length
  | [], G', _ => by cases G' <;> simp [outsOf]
  | x :: r, [], h => by simp at h
  | x :: r, y :: s, h => by
    have ih := outsOf_len (G := r) (G' := s) (by simpa using h)
    match x with
    | some (_, true) => simp [outsOf, ih]
    | some (_, false) => simp [outsOf, ih]
    | none => simp [outsOf, ih]
theorem outsOf_get : ∀ {G G' : Ct} {i : Nat} {p : D × Bool}, (outsOf G G')[i]? = some (some p) → (OwS G i ∧ G'[i]? = some (some p)) ∨ (¬ OwS G i ∧ G[i]? = some (some p))
  | [], G', i, p, h => by cases G' <;> simp [outsOf] at h
  | x :: r, [], i, p, h => by match x with
    | some (_, true) => simp [outsOf] at h
    | some (_, false) => simp [outsOf] at h
    | none => simp [outsOf] at h
  | x :: r, y :: s, 0, p, h => by
    match x with
    | some (d, true) => simp [outsOf] at h; exact .inl ⟨⟨d, rfl⟩, by simp [h]⟩
    | some (d, false) => simp [outsOf] at h; exact .inr ⟨by rintro ⟨e, he⟩; simp at he, by simp [h]⟩
    | none => simp [outsOf] at h
  | x :: r, y :: s, i + 1, p, h => by
    have h' : (outsOf r s)[i]? = some (some p) := by
      match x with
      | some (d, true) => simpa [outsOf] using h
      | some (d, false) => simpa [outsOf] using h
      | none => simpa [outsOf] using h
    rcases outsOf_get h' with ⟨⟨e, h1⟩, h2⟩ | ⟨h1, h2⟩
    · exact .inl ⟨⟨e, by simpa using h1⟩, by simpa using h2⟩
    · exact .inr ⟨by rintro ⟨e, he⟩; exact h1 ⟨e, by simpa using he⟩, by simpa using h2⟩
/-- what comes back at the parameters -/
theorem outs_ok {vs : List V} {G0 : Ct} (r0 : RS g Bn Ow H (vs.map some) G0) (st : Stp Ow H Ow' H') (r1 : RS g Bn Ow' H' σ Γ) (hl : G0.length ≤ Γ.length) (pn : ∀ i, OwS G0 i → σ[i]? = (vs.map some)[i]?) : RS g Bn Ow' H' (vs.map some) (outsOf G0 Γ) := by
  refine ⟨by rw [outsOf_len hl]; exact r0.len, fun i d h => ?_, fun i d h => ?_, fun i j d e a h1 h2 h3 h4 => ?_, r1.trk, r1.sep, r1.kf⟩
  · rcases outsOf_get h with ⟨o, h1⟩ | ⟨_, h1⟩
    · obtain ⟨v, e, r⟩ := r1.slot i d h1
      exact ⟨v, by rw [← pn i o]; exact e, r⟩
    · obtain ⟨v, e, r⟩ := r0.slot i d h1
      exact ⟨v, e, r.step st r1⟩
  · rcases outsOf_get h with ⟨o, h1⟩ | ⟨n, h1⟩
    · obtain ⟨v, e, r⟩ := r1.own i d h1
      exact ⟨v, by rw [← pn i o]; exact e, r⟩
    · exact (n ⟨d, h1⟩).elim
  · rcases outsOf_get h1 with ⟨o1, h1⟩ | ⟨n, h1⟩
    · rcases outsOf_get h2 with ⟨o2, h2⟩ | ⟨n, h2⟩
      · exact r1.dist i j d e a h1 h2 (by rw [pn i o1]; exact h3) (by rw [pn j o2]; exact h4)
      · exact (n ⟨e, h2⟩).elim
    · exact (n ⟨d, h1⟩).elim
theorem RS.start {vs : List V} {G0 : Ct} (k : Nat) (r0 : RS g Bn Ow H (vs.map some) G0) : RS g Bn Ow H (vs.map some ++ List.replicate k none) (G0 ++ List.replicate k none) := by
  have low : ∀ {i : Nat} {p : D × Bool}, (G0 ++ List.replicate k none)[i]? = some (some p) → G0[i]? = some (some p) ∧ (vs.map some ++ List.replicate k none)[i]? = (vs.map some)[i]? := fun {i p} h => by
    rw [List.getElem?_append] at h
    split at h
    · rename_i hi
      refine ⟨h, ?_⟩
      rw [List.getElem?_append_left (by rw [r0.len]; exact hi)]
    · rw [List.getElem?_replicate] at h
      split at h <;> cases h
  refine ⟨by rw [List.length_append, List.length_append, r0.len, List.length_replicate, List.length_replicate], fun i d h => ?_, fun i d h => ?_, fun i j d e a h1 h2 h3 h4 => ?_, r0.trk, r0.sep, r0.kf⟩
  · obtain ⟨h1, h2⟩ := low h
    rw [h2]
    exact r0.slot i d h1
  · obtain ⟨h1, h2⟩ := low h
    rw [h2]
    exact r0.own i d h1
  · obtain ⟨p1, p2⟩ := low h1
    obtain ⟨q1, q2⟩ := low h2
    exact r0.dist i j d e a p1 q1 (by rw [← p2]; exact h3) (by rw [← q2]; exact h4)
theorem finish_ok {vs : List V} {G0 : Ct} {n : Nat} {o : Out} {r : RV} {os : Ct} {Q : VK} (r0 : RS g Bn Ow H (vs.map some) G0) (hn : G0.length ≤ n) (hf : finish G0.length G0 o = some (r, os))
    (hQ : ∀ v H' Ow', Stp Ow H Ow' H' → RS g Bn Ow' H' (vs.map some) os → Val g Bn Ow' H' (vs.map some) os r v → Q v H') :
    Post g { nx := fun _ H' => Q .non H', rt := Q } (n, (ownPs 0 G0).map fun i => (i, vs.getD i .non)) Bn Ow H o := by
  have pin : ∀ {σ' : St}, Pin (n, (ownPs 0 G0).map fun i => (i, vs.getD i .non)) σ' → ∀ i, OwS G0 i → σ'[i]? = (vs.map some)[i]? := fun {σ'} pn i ⟨d, h⟩ => by
    have := pn.2 (i, vs.getD i .non) (List.mem_map.mpr ⟨i, ownPs_mem.mpr ⟨i, d, by omega, h⟩, rfl⟩)
    have hi : i < vs.length := by
      have h1 := (List.getElem?_eq_some_iff.mp h).1
      have h2 := r0.len
      rw [List.length_map] at h2
      omega
    rw [this, List.getElem?_map, List.getElem?_eq_getElem hi, List.getD_eq_getElem?_getD, List.getElem?_eq_getElem hi]
    rfl
  have len : ∀ {σ' : St} {Γ' : Ct} {Ow' : List Addr} {H' : Hp}, RS g Bn Ow' H' σ' Γ' → Pin (n, (ownPs 0 G0).map fun i => (i, vs.getD i .non)) σ' → G0.length ≤ Γ'.length := fun r pn => by
    rw [← r.len, pn.1]; exact hn
  cases o with
  | bk G => simp only [finish, reduceCtorEq] at hf
  | ct G => simp only [finish, reduceCtorEq] at hf
  | nx G =>
    simp only [finish, Option.some.injEq, Prod.mk.injEq] at hf
    obtain ⟨rfl, rfl⟩ := hf
    exact fun σ' H' O' s' r' p' => hQ .non H' O' s' (outs_ok r0 s' r' (len r' p') (pin p')) (show Rep g _ _ _ _ by simp only [Rep])
  | rt x G =>
    intro v σ' H' O' s' r' p' vl
    have lo := len r' p'
    cases x with
    | fz d =>
      simp only [finish, Option.some.injEq, Prod.mk.injEq] at hf
      obtain ⟨rfl, rfl⟩ := hf
      exact hQ v H' O' s' (outs_ok r0 s' r' lo (pin p')) vl
    | nw d =>
      simp only [finish, Option.some.injEq, Prod.mk.injEq] at hf
      obtain ⟨rfl, rfl⟩ := hf
      obtain ⟨a, e, m, ow, no⟩ := vl
      refine hQ v H' O' s' (outs_ok r0 s' r' lo (pin p')) ⟨a, e, m, ow, fun j f h1 h2 => ?_⟩
      rcases outsOf_get h1 with ⟨o1, h1⟩ | ⟨n1, h1⟩
      · exact no j f h1 (by rw [pin p' j o1]; exact h2)
      · exact n1 ⟨f, h1⟩
    | sl i =>
      have vl' : σ'[i]? = some (some v) := vl
      simp only [finish] at hf
      split at hf
      · rename_i d q
        split at hf
        · rename_i hi
          simp only [Option.some.injEq, Prod.mk.injEq] at hf
          obtain ⟨rfl, rfl⟩ := hf
          have fe : fre G (.sl i) = some (d, G.set i (some (d, false))) := by simp only [fre, q]
          obtain ⟨O2, s2, r2, p2⟩ := fre_ok r' vl fe
          exact hQ v H' O2 (s'.trans s2) (outs_ok r0 (s'.trans s2) r2 (by rw [List.length_set]; exact lo) (pin p')) p2
        · rename_i hi
          simp only [Option.some.injEq, Prod.mk.injEq] at hf
          obtain ⟨rfl, rfl⟩ := hf
          obtain ⟨a, e, m, ow⟩ := r'.own i d q
          rw [vl'] at e; cases e
          refine hQ _ H' O' s' (outs_ok r0 s' r' lo (pin p')) ⟨a, rfl, m, ow, fun j f h1 h2 => ?_⟩
          rcases outsOf_get h1 with ⟨o1, h1⟩ | ⟨n1, h1⟩
          · have e2 := r'.dist i j _ _ a q h1 vl' (by rw [pin p' j o1]; exact h2)
            subst e2
            obtain ⟨d1, h3⟩ := o1
            exact hi (List.getElem?_eq_some_iff.mp h3).1
          · exact n1 ⟨f, h1⟩
      · rename_i d q
        simp only [Option.some.injEq, Prod.mk.injEq] at hf
        obtain ⟨rfl, rfl⟩ := hf
        obtain ⟨w, e, rp⟩ := r'.slot i d q
        rw [vl'] at e; cases e
        exact hQ v H' O' s' (outs_ok r0 s' r' lo (pin p')) rp
      · cases hf
end
/-- a def that can be called -/
structure Cal (P : Program) (w : World) (mg : Str → Option Value) (base : Heap) (g : Gx) (k : Nat) (x : Str) (n : Nat) (F : FS) : Prop where
  ex : ∃ f fd ps, mg x = some (.ref f) ∧ PySem.W.keepIn g.K (.ref f) = true ∧ Binds g.K fd ps [] ∧ FnOk P w g.K mg base CX0 k f fd ps (spF g n F)
section
variable {P : Program} {w : World} {mg : Str → Option Value} {base : Heap} {g : Gx} {fs : List FS}
theorem Cal.mono {j k : Nat} {x : Str} {n : Nat} {F : FS} (h : Cal P w mg base g j x n F) (l : j ≤ k) : Cal P w mg base g k x n F := by
  obtain ⟨f, fd, ps, h1, h2, h3, h4⟩ := h.ex
  exact ⟨f, fd, ps, h1, h2, h3, h4.mono l⟩
theorem def_fn {x qual : Str} {st : Stmt} {f : Addr} {fd : FuncData} {N ps : List Str} {k np n : Nat} {ir : List S} (F : Fun g.K x qual st f fd) (S : FnScope N ps (defScope st)) (hp : ps.length = np) (hN : N.length = n)
    (hbody : ∀ (cdv : Value) (A : Around) (outer : List Env) (s : Shared) (H : Hp) (E : XK), Room k (cxOf CX0 P w g.K mg base N qual (defScope st) f cdv A outer s H E).nox.A → Cok g (cxOf CX0 P w g.K mg base N qual (defScope st) f cdv A outer s H E).nox →
      PSs (cxOf CX0 P w g.K mg base N qual (defScope st) f cdv A outer s H E).nox (defBody st) (tSs g fs ir)) : FnOk P w g.K mg base CX0 (k + 1) f fd ps (spF g np (runF fs np n ir)) := by
  refine F.ok S (fun vs H Q E h => by rw [h.1, hp]) fun cdv A outer s H vs Q E hr h => ?_
  refine ⟨_, hbody cdv A outer s H E hr ⟨rfl, rfl, hr.units, S.nd⟩, ?_⟩
  obtain ⟨hl, Bn, Ow, Γ, r, os, rs, ef, nr, hQ⟩ := h
  have hG : Γ.length = np := by rw [← rs.len, List.length_map, hl]
  have hle : np ≤ n := by
    rw [← hN, ← hp]
    have := congrArg List.length S.pre
    rw [List.length_take] at this
    omega
  simp only [runF, hG, if_true] at ef
  obtain ⟨o, e1, e2⟩ := Option.bind_eq_some_iff.mp ef
  have est : L2.start N vs = vs.map some ++ List.replicate (n - np) none := by rw [← hN, ← hl]; rfl
  refine ⟨(n, (ownPs 0 Γ).map fun i => (i, vs.getD i .non)), Bn, Ow, Γ ++ List.replicate (n - np) none, o, ?_, ⟨?_, fun p hp => ?_⟩, ?_, ?_⟩
  · rw [est]; exact rs.start _
  · rw [est, List.length_append, List.length_map, List.length_replicate, hl]; show np + (n - np) = n; omega
  · obtain ⟨i, hi, rfl⟩ := List.mem_map.mp hp
    obtain ⟨j, d, rfl, h⟩ := ownPs_mem.mp hi
    have hj : j < vs.length := by
      have h1 := (List.getElem?_eq_some_iff.mp h).1
      omega
    rw [est]
    show (vs.map some ++ List.replicate (n - np) none)[0 + j]? = some (some (vs.getD (0 + j) .non))
    rw [Nat.zero_add, List.getElem?_append_left (by rw [List.length_map]; exact hj), List.getElem?_map, List.getElem?_eq_getElem hj, List.getD_eq_getElem?_getD, List.getElem?_eq_getElem hj]
    rfl
  · rw [List.map_map]
    show exs fs ((ownPs 0 Γ).map id) ir _ = some o
    rw [List.map_id]
    exact e1
  · rw [← hG] at e2
    exact finish_ok rs (by omega) e2 hQ
theorem def_ok {x qual : Str} {st : Stmt} {f : Addr} {fd : FuncData} {N ps : List Str} {k np n : Nat} {ir : List S} (F : Fun g.K x qual st f fd) (hm : mg x = some (.ref f)) (S : FnScope N ps (defScope st)) (hb : Binds g.K fd ps []) (hp : ps.length = np) (hN : N.length = n)
    (hbody : ∀ (cdv : Value) (A : Around) (outer : List Env) (s : Shared) (H : Hp) (E : XK), Room k (cxOf CX0 P w g.K mg base N qual (defScope st) f cdv A outer s H E).nox.A → Cok g (cxOf CX0 P w g.K mg base N qual (defScope st) f cdv A outer s H E).nox →
      PSs (cxOf CX0 P w g.K mg base N qual (defScope st) f cdv A outer s H E).nox (defBody st) (tSs g fs ir)) : Cal P w mg base g (k + 1) x np (runF fs np n ir) :=
  ⟨f, fd, ps, hm, F.kp, hb, def_fn F S hp hN hbody⟩
end
section
variable {X : Cx} {g : Gx} {fs : List FS} {e : Expr} {es : List Expr} {ies : List E} {x : Str} {p pos : Pos} {k i n : Nat} {F : FS}
theorem c_call (c : Cal X.prog X.w X.mg X.base g k x n F) (C : Cok g X) (hF : fs[i]? = some F) (hn : ies.length = n) (hr : Room k X.A) (hg : Gl X x)
    (ha : PA X (e :: es) (tAw g fs ies)) (hdb : (x == ("__debug__" : Str)) = false) (he : starEach (e :: es) X.env = (false, eval e X.env) :: starEach es X.env) (hpl : (backTo pos (starEach es X.env)).any (·.1) = false) :
    PE X (.Call (.Name x p) (e :: es) [] pos) (tR g fs (.call i ies)) := by
  obtain ⟨f, fd, ps, h1, h2, h3, h4⟩ := c.ex
  rw [← C.K] at h2 h3 h4
  exact p_call hF hn h4 hr hg h1 h2 h3 ha hdb he hpl
theorem c_call0 (c : Cal X.prog X.w X.mg X.base g k x 0 F) (C : Cok g X) (hF : fs[i]? = some F) (hr : Room k X.A) (hg : Gl X x) (hdb : (x == ("__debug__" : Str)) = false) :
    PE X (.Call (.Name x p) [] [] pos) (tR g fs (.call i [])) := by
  obtain ⟨f, fd, ps, h1, h2, h3, h4⟩ := c.ex
  rw [← C.K] at h2 h3 h4
  exact p_call0 hF h4 hr hg h1 h2 h3 hdb
end
end DV

namespace DV
open PySem L2
section
variable {X : Cx} {g : Gx} {fs : List FS} {e : Expr} {es : List Expr} {ies : List E} {x : Str} {p pos : Pos}
theorem k_int {i j pos} (C : Cok g X) : PE X (.Constant (.int i) j pos) (tR g fs (.cst (.int i))) := p_cst pe_int C.K fun _ _ _ => by simp only [Rep]
theorem k_bl {b j pos} (C : Cok g X) : PE X (.Constant (.bool b) j pos) (tR g fs (.cst (.bl b))) := p_cst pe_bl C.K fun _ _ _ => by simp only [Rep]
theorem k_str {b j pos} (C : Cok g X) : PE X (.Constant (.str b) j pos) (tR g fs (.cst (.str b))) := p_cst pe_str C.K fun _ _ _ => by simp only [Rep]
theorem k_non {j pos} (C : Cok g X) : PE X (.Constant .none j pos) (tR g fs (.cst .non)) := p_cst pe_non C.K fun _ _ _ => by simp only [Rep]
/-- a number that the top has written -/
def GInt (mg : Str → Option Value) (x : Str) (n : Int) : Prop := ∃ t, mg x = some (.int n t)
theorem k_gint {n : Int} (C : Cok g X) (h : GInt X.mg x n) (hg : Gl X x) (hd : (x == ("__debug__" : Str)) = false) : PE X (.Name x pos) (tR g fs (.cst (.int n))) := by
  obtain ⟨t, h⟩ := h
  exact p_cst (pe_glob (v := .int n) hg h ⟨t, rfl⟩ hd) C.K fun _ _ _ => by simp only [Rep]
theorem k_var (i : Nat) (hN : X.N[i]? = some x) (hv : Vis X.env.scope x) (hd : (x == ("__debug__" : Str)) = false) (hcd : (x == ("__classdict__" : Str)) = false) : PE X (.Name x pos) (tR g fs (.var i)) := p_var (pe_var hN hv hd hcd)
section
variable (C : Cok g X) (ha : PA X (e :: es) (tAs g fs ies)) (he : starEach (e :: es) X.env = (false, eval e X.env) :: starEach es X.env) (hpl : (backTo pos (starEach es X.env)).any (·.1) = false)
include C ha he hpl
theorem k_len (hm : X.mg "len" = none) (hg : Gl X "len") : PE X (.Call (.Name "len" p) (e :: es) [] pos) (tR g fs (.bi .len ies)) := p_biB (b_len C.K) hg hm (by decide +kernel) ha (by decide) (by decide) he hpl
theorem k_abs (hm : X.mg "abs" = none) (hg : Gl X "abs") : PE X (.Call (.Name "abs" p) (e :: es) [] pos) (tR g fs (.bi .abs ies)) := p_biB (b_abs C.K) hg hm PyProof.Rows.boot_abs ha (by decide) (by decide) he hpl
theorem k_max2 (hm : X.mg "max" = none) (hg : Gl X "max") : PE X (.Call (.Name "max" p) (e :: es) [] pos) (tR g fs (.bi .max2 ies)) := p_biB (b_max2 C) hg hm PyProof.Rows.boot_max ha (by decide) (by decide) he hpl
theorem k_min2 (hm : X.mg "min" = none) (hg : Gl X "min") : PE X (.Call (.Name "min" p) (e :: es) [] pos) (tR g fs (.bi .min2 ies)) := p_biB (b_min2 C) hg hm PyProof.Rows.boot_min ha (by decide) (by decide) he hpl
theorem k_maxl (hm : X.mg "max" = none) (hg : Gl X "max") : PE X (.Call (.Name "max" p) (e :: es) [] pos) (tR g fs (.bi .maxl ies)) := p_biB (b_maxl C) hg hm PyProof.Rows.boot_max ha (by decide) (by decide) he hpl
theorem k_minl (hm : X.mg "min" = none) (hg : Gl X "min") : PE X (.Call (.Name "min" p) (e :: es) [] pos) (tR g fs (.bi .minl ies)) := p_biB (b_minl C) hg hm PyProof.Rows.boot_min ha (by decide) (by decide) he hpl
theorem k_sum (hm : X.mg "sum" = none) (hg : Gl X "sum") : PE X (.Call (.Name "sum" p) (e :: es) [] pos) (tR g fs (.bi .suml ies)) := p_biB (b_suml C) hg hm PyProof.Rows.boot_sum ha (by decide) (by decide) he hpl
theorem k_all (hm : X.mg "all" = none) (hg : Gl X "all") : PE X (.Call (.Name "all" p) (e :: es) [] pos) (tR g fs (.bi .alll ies)) := p_biB (b_alll C) hg hm PyProof.Rows.boot_all ha (by decide) (by decide) he hpl
theorem k_any (hm : X.mg "any" = none) (hg : Gl X "any") : PE X (.Call (.Name "any" p) (e :: es) [] pos) (tR g fs (.bi .anyl ies)) := p_biB (b_anyl C) hg hm PyProof.Rows.boot_any ha (by decide) (by decide) he hpl
theorem k_int1 (hm : X.mg "int" = none) (hg : Gl X "int") : PE X (.Call (.Name "int" p) (e :: es) [] pos) (tR g fs (.bi .int1 ies)) := p_biT (b_int C.K) hg hm PyProof.Rows.boot_int ha (by decide) (by decide) he hpl
theorem k_list (hm : X.mg "list" = none) (hg : Gl X "list") : PE X (.Call (.Name "list" p) (e :: es) [] pos) (tR g fs (.bi .list ies)) := p_biT (b_list C.K) hg hm PyProof.Rows.boot_list ha (by decide) (by decide) he hpl
theorem k_tuple (hm : X.mg "tuple" = none) (hg : Gl X "tuple") : PE X (.Call (.Name "tuple" p) (e :: es) [] pos) (tR g fs (.bi .tuple ies)) := p_biT (b_tuple C.K) hg hm PyProof.Rows.boot_tuple ha (by decide) (by decide) he hpl
end
theorem ty_int {p2 : Pos} (hm : X.mg "int" = none) (hg : Gl X "int") : PE X (.Name "int" p2) (tC (.ty (tyN .int))) := pe_bltn hg hm PyProof.Rows.boot_int rfl
theorem ty_bool {p2 : Pos} (hm : X.mg "bool" = none) (hg : Gl X "bool") : PE X (.Name "bool" p2) (tC (.ty (tyN .bool))) := pe_bltn hg hm PyProof.Rows.boot_bool rfl
theorem ty_str {p2 : Pos} (hm : X.mg "str" = none) (hg : Gl X "str") : PE X (.Name "str" p2) (tC (.ty (tyN .str))) := pe_bltn hg hm PyProof.Rows.boot_str rfl
theorem ty_list {p2 : Pos} (hm : X.mg "list" = none) (hg : Gl X "list") : PE X (.Name "list" p2) (tC (.ty (tyN .list))) := pe_bltn hg hm PyProof.Rows.boot_list rfl
theorem ty_tuple {p2 : Pos} (hm : X.mg "tuple" = none) (hg : Gl X "tuple") : PE X (.Name "tuple" p2) (tC (.ty (tyN .tuple))) := pe_bltn hg hm PyProof.Rows.boot_tuple rfl
theorem tg_nm {i : Nat} (h : PG X e (gName i)) : PG X e (tgT g.K (.nm i)) := by simp only [tgT]; exact h
theorem tgs_nil : PGs X [] (tgT.tgTs g.K []) := by simp only [tgT.tgTs]; exact pgs_nil
theorem tgs_cons {t : Tg} {ts : List Tg} (h1 : PG X e (tgT g.K t)) (h2 : PGs X es (tgT.tgTs g.K ts)) (hs : (assignEach (e :: es) X.env).map (·.2) = assign e X.env :: (assignEach es X.env).map (·.2)) : PGs X (e :: es) (tgT.tgTs g.K (t :: ts)) := by
  simp only [tgT.tgTs]
  exact pgs_cons h1 h2 hs
theorem tgp {ts : List Tg} {k : Nat} (C : Cok g X) (h : PGs X es (tgT.tgTs g.K ts)) (hn : (assignEach es X.env).length = ts.length) (hst : (assignEach es X.env).findIdx? (·.1) = none) : PG X (.Tuple es k pos) (tgT g.K (.tp ts)) := by
  have := pg_tup (pos := pos) (k := k) C.calm h hn hst
  rw [C.K] at this
  simp only [tgT]
  exact this
/-- the law itself: the end -/
theorem law_end {P : Program} {w : World} {mg : Str → Option Value} {base : Heap} {k : Nat} {y : Str} {F : FS} {fa : Addr} (c : Cal P w mg base g k y 1 F) (hm : mg y = some (.ref fa)) :
    ∃ fd ps, Binds g.K fd ps [] ∧ FnOk P w g.K mg base CX0 k fa fd ps (spF g 1 F) := by
  obtain ⟨f, fd, ps, h1, h2, h3, h4⟩ := c.ex
  rw [hm] at h1; cases h1
  exact ⟨fd, ps, h3, h4⟩
theorem sp_law {K : PySem.W.Frag} {cl : Nat → Addr} {F : FS} {ns : List Int} {a : Addr} {H : Hp} {os : Ct} (hF : F [some (.scr ns, false)] = some (.fz (.bl true), os)) (hS : SqL K H a (ns.map V.int)) : spF ⟨K, cl⟩ 1 F [.ref a] H (fun v _ => v = .bl true) fun _ _ _ => False := by
  refine ⟨rfl, fun _ => False, [], [some (.scr ns, false)], _, os, ⟨rfl, fun i d h => ?_, fun i d h => ?_, fun i j d e b h1 => ?_, fun b z => ?_, nofun, fun b z => ?_⟩, hF, nofun, fun v H' O' _ _ vl => ?_⟩
  · cases i with
    | zero => simp at h; subst h; exact ⟨.ref a, rfl, by simp only [Rep]; exact ⟨a, rfl, fun z => z.elim (fun z => z) (fun z => nomatch z), hS⟩⟩
    | succ i => simp at h
  · cases i with
    | zero => simp at h
    | succ i => simp at h
  · cases i with
    | zero => simp at h1
    | succ i => simp at h1
  · rcases z with z | z
    · exact z.elim
    · cases z
  · rcases z with z | z
    · exact z.elim
    · cases z
  · have vl : Rep _ _ _ _ _ := vl
    simpa only [Rep] using vl
end
end DV

namespace DV
open PySem L2
mutual
theorem eqd_refl : ∀ (d : D) (n : Nat), okB n d = true → eqd d d = true
  | .non, _, _ => by simp [eqd]
  | .bl _, _, _ => by simp [eqd]
  | .int _, _, _ => by simp [eqd]
  | .str _, _, _ => by simp [eqd]
  | .lst ds, n, h => by
    obtain ⟨m, rfl, h⟩ := okB_lst h
    simp only [eqd]
    exact eqds_refl ds m h
  | .tup ds, n, h => by
    obtain ⟨m, rfl, h⟩ := okB_tup h
    simp only [eqd]
    exact eqds_refl ds m h
  | .obj _ _ _, n, h => by rw [okB_obj] at h; cases h
  | .scr _, n, h => by rw [okB_scr] at h; cases h
theorem eqds_refl : ∀ (ds : List D) (n : Nat), ds.all (okB n) = true → eqds ds ds = true
  | [], _, _ => by simp [eqds]
  | d :: ds, n, h => by
    simp only [List.all_cons, Bool.and_eq_true] at h
    simp only [eqds, Bool.and_eq_true]
    exact ⟨eqd_refl d n h.1, eqds_refl ds n h.2⟩
end
theorem okB_ints (n : Nat) (ts : List Int) : okB (n + 1) (.lst (ts.map D.int)) = true := by
  simp only [okB, List.all_eq_true, List.mem_map]
  rintro d ⟨t, _, rfl⟩
  cases n <;> rfl
theorem cmp_eq_self {d : D} (h : okB 12 d = true) : cmpD .eq d d = some true := by simp only [cmpD, h, eqd_refl d 12 h, Bool.and_self, if_true]
theorem cmp_ne_self {d : D} (h : okB 12 d = true) : cmpD .ne d d = some false := by simp only [cmpD, h, eqd_refl d 12 h, Bool.and_self, if_true, Bool.not_true]
theorem ixN_int (ts : List Int) (j : Nat) {x : Int} (h : ts[j]? = some x) : ixD (.lst (ts.map D.int)) (.int (j : Nat)) = some (.int x) := by
  simp only [ixD]
  exact atI_nat (by rw [List.getElem?_map, h]; rfl)
theorem forLoop_step {tg : Tg} {body : Ct → Option Out} {d : D} {ds : List D} {Γ Γ1 Γ2 : Ct} (h1 : asgT tg d Γ = some Γ1) (h2 : body Γ1 = some (.nx Γ2)) : forLoop tg body (d :: ds) Γ = forLoop tg body ds Γ2 := by
  simp only [forLoop, h1, h2, Option.bind_some]
theorem exs_nx {fs : List FS} {pn : List Nat} {s : S} {ss : List S} {Γ Γ1 : Ct} (h : ex fs pn s Γ = some (.nx Γ1)) : exs fs pn (s :: ss) Γ = exs fs pn ss Γ1 := by
  simp only [exs, h, Option.bind_some]
theorem exs_rt {fs : List FS} {pn : List Nat} {s : S} {ss : List S} {Γ Γ1 : Ct} {r : RV} (h : ex fs pn s Γ = some (.rt r Γ1)) : exs fs pn (s :: ss) Γ = some (.rt r Γ1) := by
  simp only [exs, h, Option.bind_some]
theorem compLoop_map {own : List Nat} {tg : Tg} {ct : Ct → Option (Bool × Ct)} {el : Ct → Option (RV × Ct)} {Γ : Ct} (f : D → D) : ∀ {ds acc : List D}, (∀ d ∈ ds, ∀ acc rest, compLoop own tg ct el (d :: rest) acc Γ = compLoop own tg ct el rest (acc ++ [f d]) Γ) → compLoop own tg ct el ds acc Γ = some (acc ++ ds.map f, Γ)
  | [], acc, _ => by simp only [compLoop, List.map_nil, List.append_nil]
  | d :: ds, acc, h => by
    rw [h d List.mem_cons_self acc ds, compLoop_map f fun e he => h e (List.mem_cons_of_mem _ he)]
    simp
theorem whl_step {c : Ct → Option (Bool × Ct)} {body : Ct → Option Out} {n : Nat} {Γ Γ1 Γ2 : Ct} (h1 : c Γ = some (true, Γ1)) (h2 : body Γ1 = some (.nx Γ2)) : whlLoop c body (n + 1) Γ = whlLoop c body n Γ2 := by
  simp only [whlLoop, h1, h2, Option.bind_some, if_true]
theorem whl_done {c : Ct → Option (Bool × Ct)} {body : Ct → Option Out} {n : Nat} {Γ Γ1 : Ct} (h1 : c Γ = some (false, Γ1)) : whlLoop c body (n + 1) Γ = some (.nx Γ1) := by
  simp only [whlLoop, h1, Option.bind_some, Bool.false_eq_true, if_false]
theorem runF_by {fs : List FS} {np n : Nat} {body : List S} {G0 : Ct} {o : Out} {r : RV × Ct} (hl : G0.length = np) (e : exs fs (ownPs 0 G0) body (G0 ++ List.replicate (n - np) none) = some o) (f : DV.finish np G0 o = some r) : runF fs np n body G0 = some r := by
  simp only [runF, hl, if_true, e, Option.bind_some, f]
theorem ex_for {fs : List FS} {pn : List Nat} {tg : Tg} {ik : IK} {its : List E} {b : List S} {Γ Γ2 : Ct} {ds : List D} {o : Out} (h1 : ((evs fs its Γ).bind fun p => iterD ik p.1 p.2) = some (ds, Γ2)) (h3 : disjB (tgIx tg) pn = true) (h4 : forLoop tg (exs fs pn b) ds Γ2 = some o) : ex fs pn (.for_ tg ik its b) Γ = some o := by
  obtain ⟨⟨xs, Γ1⟩, e1, e2⟩ := Option.bind_eq_some_iff.mp h1
  simp only [ex, e1, e2, Option.bind_some, h3, if_true, h4]
/-- a while's test -/
def tst (fs : List FS) (c : E) (Γ : Ct) : Option (Bool × Ct) := (ev fs c Γ).bind fun (x, Γ1) => (testD Γ1 x).map fun t => (t, Γ1)
theorem ex_whl {fs : List FS} {pn : List Nat} {c : E} {b : List S} {Γ : Ct} {o : Out} (h : whlLoop (tst fs c) (exs fs pn b) fuel Γ = some o) : ex fs pn (.whl c b) Γ = some o := by
  simp only [ex]
  exact h
theorem ex_ite {fs : List FS} {pn : List Nat} {c : E} {a b : List S} {Γ Γ1 : Ct} {x : RV} {t : Bool} {o : Out} (h1 : ev fs c Γ = some (x, Γ1)) (h2 : testD Γ1 x = some t) (h3 : exs fs pn (if t then a else b) Γ1 = some o) : ex fs pn (.ite c a b) Γ = some o := by
  simp only [ex, h1, Option.bind_some, h2]
  cases t <;> simpa using h3
/-- a range's turns -/
@[irreducible] def rngO (Γ : Ct) (ds : List D) : Option (List D × Ct) := iterD .rng (ds.map .fz) Γ
theorem datums_fz (Γ : Ct) : ∀ ds : List D, datums Γ (ds.map .fz) = some ds
  | [] => rfl
  | d :: ds => by simp only [List.map_cons, datums, datum, datums_fz Γ ds, Option.bind_some, Option.map_some]
theorem it_rng (xs : List RV) (Γ : Ct) : iterD .rng xs Γ = (datums Γ xs).bind (rngO Γ) := by
  cases e : datums Γ xs with
  | none => simp only [iterD, e, Option.bind_none]
  | some ds => simp only [iterD, e, Option.bind_some, rngO, datums_fz]
theorem in62_int {n : Int} (h0 : -1000000000 < n) (h : n < 1000000000) : in62 n = true := by
  unfold in62
  refine decide_eq_true ?_
  by_cases z : n.natAbs = 0
  · rw [z]
    decide
  · rw [Nat.log2_lt z]
    omega
theorem in62_nat {n : Nat} (h : n < 1000000000) : in62 (n : Int) = true := in62_int (by omega) (by omega)
theorem rngO1 (Γ : Ct) (b : Int) (h : in62 b = true) : rngO Γ [.int b] = some (rngD 0 1 b.toNat, Γ) := by
  unfold rngO
  simp only [iterD, datums_fz, Option.bind_some]
  rw [if_pos h]
theorem rngN1 (Γ : Ct) (n : Nat) (h : n < 1000000000) : rngO Γ [.int (n : Int)] = some (rngD 0 1 n, Γ) := by
  rw [rngO1 Γ _ (in62_nat h), Int.toNat_natCast]
theorem rngO2 (Γ : Ct) (a b : Int) (h1 : in62 a = true) (h2 : in62 b = true) : rngO Γ [.int a, .int b] = some (rngD a 1 (b - a).toNat, Γ) := by
  unfold rngO
  simp only [iterD, datums_fz, Option.bind_some]
  rw [if_pos (by rw [h1, h2]; rfl)]
theorem mulOk_l {i j : Int} (h1 : -(2 ^ 64) < i) (h2 : i < 2 ^ 64) : mulOk i j = true := by simp only [mulOk, h1, h2, and_self, decide_true, Bool.true_or]
theorem mulOk_r {i j : Int} (h1 : -(2 ^ 64) < j) (h2 : j < 2 ^ 64) : mulOk i j = true := by simp only [mulOk, h1, h2, and_self, decide_true, Bool.true_or, Bool.or_true]
end DV

namespace L
open PySem L2 DV
def F__law_well : FS := runF [] 1 1 [.ret (.lst [.bin .mul (.var 0) (.bi .int1 [.cmp .ge (.var 0) (.bin .pow (.cst (.int 10)) (.cst (.int 18)))]), .var 0, .cst (.int 0)])]
def F__law_mixed : FS := runF [] 2 3 [.asgO 2 (.bin .mod (.bi .int1 [.bin .pow (.bin .add (.bin .add (.bin .mod (.bi .int1 [.var 0]) (.cst (.int 2147483629))) (.bin .mul (.cst (.int 30011)) (.var 1))) (.cst (.int 7))) (.cst (.int 3))]) (.cst (.int 2147483647))),
  .asgO 2 (.bin .mod (.bi .int1 [.bin .add (.var 2) (.bin .mul (.bin .mod (.bi .int1 [.bin .fdiv (.var 0) (.cst (.int 2147483629))]) (.cst (.int 65537))) (.bin .add (.var 1) (.cst (.int 5))))]) (.cst (.int 2147483587))),
  .asgO 2 (.bin .mod (.bi .int1 [.bin .mul (.var 2) (.bin .add (.bin .add (.bin .fdiv (.var 2) (.cst (.int 1009))) (.cst (.int 69621))) (.var 1))]) (.cst (.int 2147483563))),
  .ret (.bin .mod (.bi .int1 [.bin .mul (.var 2) (.bin .add (.bin .fdiv (.var 2) (.cst (.int 2003))) (.cst (.int 40692)))]) (.cst (.int 2147483399)))]
def F__law_draw : FS := runF [F__law_mixed] 2 3 [.ite (.cmp .gt (.ix (.var 0) (.cst (.int 0))) (.cst (.int 0))) [.asgO 2 (.bin .mod (.bi .int1 [.ix (.var 0) (.cst (.int 0))]) (.var 1)),
  .seti 0 (.cst (.int 0)) (.bin .fdiv (.ix (.var 0) (.cst (.int 0))) (.var 1)),
  .ret (.var 2)] [],
  .seti 0 (.cst (.int 2)) (.bin .add (.ix (.var 0) (.cst (.int 2))) (.cst (.int 1))),
  .ret (.bin .mod (.bi .int1 [.call 0 [.ix (.var 0) (.cst (.int 1)), .ix (.var 0) (.cst (.int 2))]]) (.var 1))]
def B__law_place_1 : List S := [.par [(2, true), (3, true)] [.bin .add (.bin .mul (.var 2) (.bin .pow (.cst (.int 10)) (.cst (.int 9)))) (.call 0 [.var 0, .bin .pow (.cst (.int 10)) (.cst (.int 9))]), .bin .mul (.var 3) (.bin .pow (.cst (.int 10)) (.cst (.int 9)))]]
def C__law_place_2 : E := .cmp .lt (.var 3) (.var 1)
def F__law_place : FS := runF [F__law_draw] 2 4 [.asg (.tp [.nm 2, .nm 3]) (.tup [.cst (.int 0), .cst (.int 1)]),
  .whl C__law_place_2 B__law_place_1,
  .ret (.bin .mod (.bi .int1 [.var 2]) (.var 1))]
def F__law_one : FS := runF [F__law_draw] 2 2 [.ret (.ix (.var 1) (.call 0 [.var 0, .bi .len [.var 1]]))]
def B__law_times_1 : List S := [.app 3 (.var 4),
  .asgO 4 (.bin .add (.var 4) (.call 2 [.var 0, .lst [.var 1, .var 1, .bin .add (.cst (.int 1)) (.call 1 [.var 0, .bin .mul (.cst (.int 3)) (.var 1)])]]))]
def F__law_times : FS := runF [F__law_draw, F__law_place, F__law_one] 2 5 [.par [(3, true), (4, true)] [.lst [], .call 0 [.var 0, .cst (.int 5)]],
  .for_ (.nm 2) .rng [.call 0 [.var 0, .cst (.int 41)]] B__law_times_1,
  .ret (.var 3)]
def F_is_integer : FS := runF [] 1 1 [.ret (.and (.bi (.isi .int) [.var 0]) (.not (.bi (.isi .bool) [.var 0])))]
def F_is_between : FS := runF [F_is_integer] 3 3 [.ret (.and (.call 0 [.var 0]) (.chain .le .le (.var 1) (.var 0) (.var 2)))]
def F_is_breaker : FS := runF [F_is_between] 1 1 [.ite (.or (.not (.bi (.isi .tuple) [.var 0])) (.cmp .ne (.bi .len [.var 0]) (.cst (.int 3)))) [.ret (.cst (.bl false))] [],
  .ite (.or (.not (.call 0 [.ix (.var 0) (.cst (.int 0)), .cst (.int 1), .cst (.int 1000000000000)])) (.not (.call 0 [.ix (.var 0) (.cst (.int 1)), .cst (.int 1), .cst (.int 1000000000000000000000000000000)]))) [.ret (.cst (.bl false))] [],
  .ret (.call 0 [.ix (.var 0) (.cst (.int 2)), .cst (.int 1), .cst (.int 1000000000000)])]
def B_check_times_1 : List S := [.ite (.or (.not (.call 0 [.var 2])) (.or (.cmp .lt (.var 2) (.cst (.int 0))) (.and (.cmp .gt (.var 1) (.cst (.int 0))) (.cmp .le (.var 2) (.ix (.var 0) (.bin .sub (.var 1) (.cst (.int 1)))))))) [.stuck] []]
def F_check_times : FS := runF [F_is_integer] 1 3 [.ite (.or (.not (.bi (.isi .list) [.var 0])) (.cmp .gt (.bi .len [.var 0]) (.cst (.int 1000)))) [.stuck] [],
  .for_ (.tp [.nm 1, .nm 2]) .enum [.var 0] B_check_times_1]
def B_log_of_1 : List S := [.asgO 6 (.or (.cmp .gt (.var 4) (.cst (.int 0))) (.cmp .ge (.bin .sub (.var 2) (.var 5)) (.ix (.var 0) (.cst (.int 1))))),
  .ite (.var 6) [.asgO 4 (.bi .max2 [.cst (.int 0), .bin .sub (.var 4) (.cst (.int 1))]),
  .asgO 5 (.var 2)] [],
  .app 3 (.tup [.var 2, .var 6])]
def F_log_of : FS := runF [F_is_breaker, F_check_times] 2 7 [.ite (.not (.call 0 [.var 0])) [.stuck] [],
  .expr (.call 1 [.var 1]),
  .par [(3, true), (4, true), (5, true)] [.lst [], .ix (.var 0) (.cst (.int 0)), .cst (.int 0)],
  .for_ (.nm 2) .seq [.var 1] B_log_of_1,
  .ret (.var 3)]
def B__law_log_1 : List S := [.asgO 6 (.or (.cmp .is (.var 5) (.cst .non)) (.cmp .ge (.var 2) (.bin .add (.var 5) (.ix (.var 0) (.cst (.int 1)))))),
  .ite (.var 6) [.asgO 4 (.bi .max2 [.bin .sub (.var 4) (.cst (.int 1)), .cst (.int 0)]),
  .asgO 5 (.ite (.cmp .eq (.var 4) (.cst (.int 0))) (.var 2) (.cst .non))] [],
  .app 3 (.tup [.var 2, .var 6])]
def F__law_log : FS := runF [] 2 7 [.par [(3, true), (4, true), (5, true)] [.lst [], .ix (.var 0) (.cst (.int 0)), .cst .non],
  .for_ (.nm 2) .seq [.var 1] B__law_log_1,
  .ret (.var 3)]
def B__law_right_1 : List S := [.asgO 3 (.call 2 [.var 0, .var 1]),
  .asgO 4 (.tup [.bin .add (.cst (.int 1)) (.call 0 [.var 0, .cst (.int 6)]), .bin .add (.cst (.int 1)) (.call 1 [.var 0, .bin .mul (.cst (.int 6)) (.var 1)]), .bin .add (.cst (.int 1)) (.call 0 [.var 0, .cst (.int 9)])]),
  .asgO 5 (.bi .list [.var 3]),
  .asgO 6 (.call 3 [.var 4, .var 3]),
  .ite (.or (.cmp .ne (.var 6) (.call 4 [.var 4, .var 3])) (.cmp .ne (.var 3) (.var 5))) [.ret (.cst (.bl false))] [],
  .app 6 (.cst .non),
  .ite (.cmp .ne (.call 3 [.var 4, .var 3]) (.call 4 [.var 4, .var 3])) [.ret (.cst (.bl false))] [],
  .ite (.cmp .ne (.call 3 [.tup [.bin .pow (.cst (.int 10)) (.cst (.int 12)), .cst (.int 1), .cst (.int 1)], .var 3]) (.comp [7] (.nm 7) .seq [.var 3] [] (.tup [.var 7, .cst (.bl true)]))) [.ret (.cst (.bl false))] []]
def F__law_right : FS := runF [F__law_draw, F__law_place, F__law_times, F_log_of, F__law_log] 1 8 [.for_ (.nm 1) .seq [.tup [.cst (.int 1), .bin .add (.cst (.int 1)) (.call 0 [.var 0, .cst (.int 9)]), .bin .add (.cst (.int 1)) (.call 1 [.var 0, .bin .pow (.cst (.int 10)) (.cst (.int 20))])]] B__law_right_1,
  .asgO 2 (.bin .pow (.cst (.int 10)) (.cst (.int 30))),
  .ret (.cmp .eq (.call 3 [.tup [.cst (.int 1), .var 2, .bin .pow (.cst (.int 10)) (.cst (.int 12))], .lst [.cst (.int 0), .bin .sub (.var 2) (.cst (.int 1)), .var 2]]) (.lst [.tup [.cst (.int 0), .cst (.bl true)], .tup [.bin .sub (.var 2) (.cst (.int 1)), .cst (.bl false)], .tup [.var 2, .cst (.bl true)]]))]
def B_law_1 : List S := [.ite (.not (.call 1 [.call 0 [.var 1]])) [.ret (.cst (.bl false))] []]
def F_law : FS := runF [F__law_well, F__law_right] 1 2 [.for_ (.nm 1) .seq [.bin .add (.slc (.var 0) [] [.cst (.int 4)]) (.lst [.cst (.int 0)])] B_law_1,
  .ret (.cst (.bl true))]
end L
namespace L
open PySem L2 DV
def topS (i : Nat) : Stmt := PySem.Challenge.pw_breakerrow_k45_logs_of_breakers.main.body.getD i (.Pass ⟨0, 0, 0, 0⟩)
structure Txt (mg : Str → Option Value) : Prop where
  z_bool : mg "bool" = none
  z_enumerate : mg "enumerate" = none
  z_int : mg "int" = none
  z_isinstance : mg "isinstance" = none
  z_len : mg "len" = none
  z_list : mg "list" = none
  z_max : mg "max" = none
  z_range : mg "range" = none
  z_tuple : mg "tuple" = none
  g_MOST_COUNT : GInt mg "MOST_COUNT" 1000000000000
  g_MOST_WAIT : GInt mg "MOST_WAIT" 1000000000000000000000000000000
  g_MOST_ENTRIES : GInt mg "MOST_ENTRIES" 1000
section
variable {P : Program} {w : World} {mg : Str → Option Value} {base : Heap} {g : Gx}
abbrev s__law_well : Stmt := topS 17
theorem sc__law_well : FnScope ["_law_cell"] ["_law_cell"] (defScope s__law_well) := ⟨rfl, rfl, rfl, by decide +kernel, rfl, by decide +kernel, by decide +kernel⟩
theorem ok__law_well {k : Nat} {f : Addr} {fd : FuncData} (T : Txt mg) (F : Fun g.K "_law_well" "_law_well" s__law_well f fd) (hm : mg "_law_well" = some (.ref f))  : Cal P w mg base g (k + 1) "_law_well" 1 F__law_well := by
  refine def_ok (fs := []) F hm sc__law_well (F.binds fun _ _ _ _ _ _ us hl => match us, hl with | [_], _ => rfl) rfl rfl fun cdv A outer s H E hr C => ?_
  exact (ss_cons (s_ret (p_lst C (a_cons (p_bin (op := .mul) C (k_var 0 rfl (by first | exact .inl rfl | exact .inr (.inl rfl) | exact .inr (.inr rfl)) rfl rfl) (k_int1 C (a_cons (p_cmp (op := .ge) C (k_var 0 rfl (by first | exact .inl rfl | exact .inr (.inl rfl) | exact .inr (.inr rfl)) rfl rfl) (p_bin (op := .pow) C (k_int C) (k_int C)) rfl) a_nil rfl) rfl rfl (T.z_int) rfl)) (a_cons (k_var 0 rfl (by first | exact .inl rfl | exact .inr (.inl rfl) | exact .inr (.inr rfl)) rfl rfl) (a_cons (k_int C) a_nil rfl) rfl) rfl)))
  ss_nil)
abbrev s__law_mixed : Stmt := topS 16
theorem sc__law_mixed : FnScope ["_law_cell", "_law_k", "_law_figure"] ["_law_cell", "_law_k"] (defScope s__law_mixed) := ⟨rfl, rfl, rfl, by decide +kernel, rfl, by decide +kernel, by decide +kernel⟩
theorem ok__law_mixed {k : Nat} {f : Addr} {fd : FuncData} (T : Txt mg) (F : Fun g.K "_law_mixed" "_law_mixed" s__law_mixed f fd) (hm : mg "_law_mixed" = some (.ref f))  : Cal P w mg base g (k + 1) "_law_mixed" 2 F__law_mixed := by
  refine def_ok (fs := []) F hm sc__law_mixed (F.binds fun _ _ _ _ _ _ us hl => match us, hl with | [_, _], _ => rfl) rfl rfl fun cdv A outer s H E hr C => ?_
  exact (ss_cons (s_asgO (i := 2) C rfl (by first | exact .inl rfl | exact .inr rfl) (p_bin (op := .mod) C (k_int1 C (a_cons (p_bin (op := .pow) C (p_bin (op := .add) C (p_bin (op := .add) C (p_bin (op := .mod) C (k_int1 C (a_cons (k_var 0 rfl (by first | exact .inl rfl | exact .inr (.inl rfl) | exact .inr (.inr rfl)) rfl rfl) a_nil rfl) rfl rfl (T.z_int) rfl) (k_int C)) (p_bin (op := .mul) C (k_int C) (k_var 1 rfl (by first | exact .inl rfl | exact .inr (.inl rfl) | exact .inr (.inr rfl)) rfl rfl))) (k_int C)) (k_int C)) a_nil rfl) rfl rfl (T.z_int) rfl) (k_int C)) rfl (by first | exact .inr rfl | exact .inl rfl))
  (ss_cons (s_asgO (i := 2) C rfl (by first | exact .inl rfl | exact .inr rfl) (p_bin (op := .mod) C (k_int1 C (a_cons (p_bin (op := .add) C (k_var 2 rfl (by first | exact .inl rfl | exact .inr (.inl rfl) | exact .inr (.inr rfl)) rfl rfl) (p_bin (op := .mul) C (p_bin (op := .mod) C (k_int1 C (a_cons (p_bin (op := .fdiv) C (k_var 0 rfl (by first | exact .inl rfl | exact .inr (.inl rfl) | exact .inr (.inr rfl)) rfl rfl) (k_int C)) a_nil rfl) rfl rfl (T.z_int) rfl) (k_int C)) (p_bin (op := .add) C (k_var 1 rfl (by first | exact .inl rfl | exact .inr (.inl rfl) | exact .inr (.inr rfl)) rfl rfl) (k_int C)))) a_nil rfl) rfl rfl (T.z_int) rfl) (k_int C)) rfl (by first | exact .inr rfl | exact .inl rfl))
  (ss_cons (s_asgO (i := 2) C rfl (by first | exact .inl rfl | exact .inr rfl) (p_bin (op := .mod) C (k_int1 C (a_cons (p_bin (op := .mul) C (k_var 2 rfl (by first | exact .inl rfl | exact .inr (.inl rfl) | exact .inr (.inr rfl)) rfl rfl) (p_bin (op := .add) C (p_bin (op := .add) C (p_bin (op := .fdiv) C (k_var 2 rfl (by first | exact .inl rfl | exact .inr (.inl rfl) | exact .inr (.inr rfl)) rfl rfl) (k_int C)) (k_int C)) (k_var 1 rfl (by first | exact .inl rfl | exact .inr (.inl rfl) | exact .inr (.inr rfl)) rfl rfl))) a_nil rfl) rfl rfl (T.z_int) rfl) (k_int C)) rfl (by first | exact .inr rfl | exact .inl rfl))
  (ss_cons (s_ret (p_bin (op := .mod) C (k_int1 C (a_cons (p_bin (op := .mul) C (k_var 2 rfl (by first | exact .inl rfl | exact .inr (.inl rfl) | exact .inr (.inr rfl)) rfl rfl) (p_bin (op := .add) C (p_bin (op := .fdiv) C (k_var 2 rfl (by first | exact .inl rfl | exact .inr (.inl rfl) | exact .inr (.inr rfl)) rfl rfl) (k_int C)) (k_int C))) a_nil rfl) rfl rfl (T.z_int) rfl) (k_int C)))
  ss_nil))))
abbrev s__law_draw : Stmt := topS 18
theorem sc__law_draw : FnScope ["_law_well_here", "_law_many", "_law_found"] ["_law_well_here", "_law_many"] (defScope s__law_draw) := ⟨rfl, rfl, rfl, by decide +kernel, rfl, by decide +kernel, by decide +kernel⟩
theorem ok__law_draw {k : Nat} {f : Addr} {fd : FuncData} (T : Txt mg) (F : Fun g.K "_law_draw" "_law_draw" s__law_draw f fd) (hm : mg "_law_draw" = some (.ref f)) (c__law_mixed : Cal P w mg base g k "_law_mixed" 2 F__law_mixed) : Cal P w mg base g (k + 1) "_law_draw" 2 F__law_draw := by
  refine def_ok (fs := [F__law_mixed]) F hm sc__law_draw (F.binds fun _ _ _ _ _ _ us hl => match us, hl with | [_, _], _ => rfl) rfl rfl fun cdv A outer s H E hr C => ?_
  exact (ss_cons (s_ite (t_cmp (op := .gt) C (p_ix C (k_var 0 rfl (by first | exact .inl rfl | exact .inr (.inl rfl) | exact .inr (.inr rfl)) rfl rfl) (k_int C) (fun _ _ => rfl)) (k_int C) rfl) (ss_cons (s_asgO (i := 2) C rfl (by first | exact .inl rfl | exact .inr rfl) (p_bin (op := .mod) C (k_int1 C (a_cons (p_ix C (k_var 0 rfl (by first | exact .inl rfl | exact .inr (.inl rfl) | exact .inr (.inr rfl)) rfl rfl) (k_int C) (fun _ _ => rfl)) a_nil rfl) rfl rfl (T.z_int) rfl) (k_var 1 rfl (by first | exact .inl rfl | exact .inr (.inl rfl) | exact .inr (.inr rfl)) rfl rfl)) rfl (by first | exact .inr rfl | exact .inl rfl))
  (ss_cons (s_seti C (pe_var (i := 0) rfl (by first | exact .inl rfl | exact .inr (.inl rfl) | exact .inr (.inr rfl)) rfl rfl) (k_int C) (p_bin (op := .fdiv) C (p_ix C (k_var 0 rfl (by first | exact .inl rfl | exact .inr (.inl rfl) | exact .inr (.inr rfl)) rfl rfl) (k_int C) (fun _ _ => rfl)) (k_var 1 rfl (by first | exact .inl rfl | exact .inr (.inl rfl) | exact .inr (.inr rfl)) rfl rfl)) rfl rfl rfl (fun _ => rfl))
  (ss_cons (s_ret (k_var 2 rfl (by first | exact .inl rfl | exact .inr (.inl rfl) | exact .inr (.inr rfl)) rfl rfl))
  ss_nil))) ss_nil)
  (ss_cons (s_seti C (pe_var (i := 0) rfl (by first | exact .inl rfl | exact .inr (.inl rfl) | exact .inr (.inr rfl)) rfl rfl) (k_int C) (p_bin (op := .add) C (p_ix C (k_var 0 rfl (by first | exact .inl rfl | exact .inr (.inl rfl) | exact .inr (.inr rfl)) rfl rfl) (k_int C) (fun _ _ => rfl)) (k_int C)) rfl rfl rfl (fun _ => rfl))
  (ss_cons (s_ret (p_bin (op := .mod) C (k_int1 C (a_cons (c_call c__law_mixed C rfl rfl hr rfl (aw_cons (p_ix C (k_var 0 rfl (by first | exact .inl rfl | exact .inr (.inl rfl) | exact .inr (.inr rfl)) rfl rfl) (k_int C) (fun _ _ => rfl)) (aw_cons (p_ix C (k_var 0 rfl (by first | exact .inl rfl | exact .inr (.inl rfl) | exact .inr (.inr rfl)) rfl rfl) (k_int C) (fun _ _ => rfl)) aw_nil rfl) rfl) rfl rfl rfl) a_nil rfl) rfl rfl (T.z_int) rfl) (k_var 1 rfl (by first | exact .inl rfl | exact .inr (.inl rfl) | exact .inr (.inr rfl)) rfl rfl)))
  ss_nil)))
abbrev s__law_place : Stmt := topS 20
theorem sc__law_place : FnScope ["_law_well_here", "_law_many", "_law_found", "_law_reach"] ["_law_well_here", "_law_many"] (defScope s__law_place) := ⟨rfl, rfl, rfl, by decide +kernel, rfl, by decide +kernel, by decide +kernel⟩
theorem ok__law_place {k : Nat} {f : Addr} {fd : FuncData} (T : Txt mg) (F : Fun g.K "_law_place" "_law_place" s__law_place f fd) (hm : mg "_law_place" = some (.ref f)) (c__law_draw : Cal P w mg base g k "_law_draw" 2 F__law_draw) : Cal P w mg base g (k + 1) "_law_place" 2 F__law_place := by
  refine def_ok (fs := [F__law_draw]) F hm sc__law_place (F.binds fun _ _ _ _ _ _ us hl => match us, hl with | [_, _], _ => rfl) rfl rfl fun cdv A outer s H E hr C => ?_
  exact (ss_cons (s_asg (p_tup C (a_cons (k_int C) (a_cons (k_int C) a_nil rfl) rfl)) (tgp C (tgs_cons (tg_nm (pg_name (i := 2) C.nd rfl (by first | exact .inl rfl | exact .inr rfl) (by first | exact .inr rfl | exact .inl rfl))) (tgs_cons (tg_nm (pg_name (i := 3) C.nd rfl (by first | exact .inl rfl | exact .inr rfl) (by first | exact .inr rfl | exact .inl rfl))) tgs_nil rfl) rfl) rfl rfl) rfl rfl rfl)
  (ss_cons (s_whl PassesOwn.never (t_cmp (op := .lt) C (k_var 3 rfl (by first | exact .inl rfl | exact .inr (.inl rfl) | exact .inr (.inr rfl)) rfl rfl) (k_var 1 rfl (by first | exact .inl rfl | exact .inr (.inl rfl) | exact .inr (.inr rfl)) rfl rfl) rfl) (ss_cons (s_par2 (i := 2) (j := 3) C rfl rfl (by decide) rfl rfl (an_cons (p_bin (op := .add) C (p_bin (op := .mul) C (k_var 2 rfl (by first | exact .inl rfl | exact .inr (.inl rfl) | exact .inr (.inr rfl)) rfl rfl) (p_bin (op := .pow) C (k_int C) (k_int C))) (c_call c__law_draw C rfl rfl hr rfl (aw_cons (k_var 0 rfl (by first | exact .inl rfl | exact .inr (.inl rfl) | exact .inr (.inr rfl)) rfl rfl) (aw_cons (p_bin (op := .pow) C (k_int C) (k_int C)) aw_nil rfl) rfl) rfl rfl rfl)) (an_cons (p_bin (op := .mul) C (k_var 3 rfl (by first | exact .inl rfl | exact .inr (.inl rfl) | exact .inr (.inr rfl)) rfl rfl) (p_bin (op := .pow) C (k_int C) (k_int C))) an_nil rfl) rfl) rfl rfl)
  ss_nil))
  (ss_cons (s_ret (p_bin (op := .mod) C (k_int1 C (a_cons (k_var 2 rfl (by first | exact .inl rfl | exact .inr (.inl rfl) | exact .inr (.inr rfl)) rfl rfl) a_nil rfl) rfl rfl (T.z_int) rfl) (k_var 1 rfl (by first | exact .inl rfl | exact .inr (.inl rfl) | exact .inr (.inr rfl)) rfl rfl)))
  ss_nil)))
abbrev s__law_one : Stmt := topS 19
theorem sc__law_one : FnScope ["_law_well_here", "_law_some"] ["_law_well_here", "_law_some"] (defScope s__law_one) := ⟨rfl, rfl, rfl, by decide +kernel, rfl, by decide +kernel, by decide +kernel⟩
theorem ok__law_one {k : Nat} {f : Addr} {fd : FuncData} (T : Txt mg) (F : Fun g.K "_law_one" "_law_one" s__law_one f fd) (hm : mg "_law_one" = some (.ref f)) (c__law_draw : Cal P w mg base g k "_law_draw" 2 F__law_draw) : Cal P w mg base g (k + 1) "_law_one" 2 F__law_one := by
  refine def_ok (fs := [F__law_draw]) F hm sc__law_one (F.binds fun _ _ _ _ _ _ us hl => match us, hl with | [_, _], _ => rfl) rfl rfl fun cdv A outer s H E hr C => ?_
  exact (ss_cons (s_ret (p_ix C (k_var 1 rfl (by first | exact .inl rfl | exact .inr (.inl rfl) | exact .inr (.inr rfl)) rfl rfl) (c_call c__law_draw C rfl rfl hr rfl (aw_cons (k_var 0 rfl (by first | exact .inl rfl | exact .inr (.inl rfl) | exact .inr (.inr rfl)) rfl rfl) (aw_cons (k_len C (a_cons (k_var 1 rfl (by first | exact .inl rfl | exact .inr (.inl rfl) | exact .inr (.inr rfl)) rfl rfl) a_nil rfl) rfl rfl (T.z_len) rfl) aw_nil rfl) rfl) rfl rfl rfl) (fun _ _ => rfl)))
  ss_nil)
abbrev s__law_times : Stmt := topS 22
theorem sc__law_times : FnScope ["_law_well_here", "_law_unit", "_law_turn", "_law_found", "_law_time"] ["_law_well_here", "_law_unit"] (defScope s__law_times) := ⟨rfl, rfl, rfl, by decide +kernel, rfl, by decide +kernel, by decide +kernel⟩
theorem ok__law_times {k : Nat} {f : Addr} {fd : FuncData} (T : Txt mg) (F : Fun g.K "_law_times" "_law_times" s__law_times f fd) (hm : mg "_law_times" = some (.ref f)) (c__law_draw : Cal P w mg base g k "_law_draw" 2 F__law_draw) (c__law_place : Cal P w mg base g k "_law_place" 2 F__law_place) (c__law_one : Cal P w mg base g k "_law_one" 2 F__law_one) : Cal P w mg base g (k + 1) "_law_times" 2 F__law_times := by
  refine def_ok (fs := [F__law_draw, F__law_place, F__law_one]) F hm sc__law_times (F.binds fun _ _ _ _ _ _ us hl => match us, hl with | [_, _], _ => rfl) rfl rfl fun cdv A outer s H E hr C => ?_
  exact (ss_cons (s_par2 (i := 3) (j := 4) C rfl rfl (by decide) rfl rfl (an_cons (p_lst C a_nil) (an_cons (c_call c__law_draw C rfl rfl hr rfl (aw_cons (k_var 0 rfl (by first | exact .inl rfl | exact .inr (.inl rfl) | exact .inr (.inr rfl)) rfl rfl) (aw_cons (k_int C) aw_nil rfl) rfl) rfl rfl rfl) an_nil rfl) rfl) rfl rfl)
  (ss_cons (s_for C PassesOwn.never (i_rng1 C rfl (T.z_range) (a_cons (c_call c__law_draw C rfl rfl hr rfl (aw_cons (k_var 0 rfl (by first | exact .inl rfl | exact .inr (.inl rfl) | exact .inr (.inr rfl)) rfl rfl) (aw_cons (k_int C) aw_nil rfl) rfl) rfl rfl rfl) a_nil rfl) rfl) (tg_nm (pg_name (i := 2) C.nd rfl (by first | exact .inl rfl | exact .inr rfl) (by first | exact .inr rfl | exact .inl rfl))) (ss_cons (s_app C (pe_var (i := 3) rfl (by first | exact .inl rfl | exact .inr (.inl rfl) | exact .inr (.inr rfl)) rfl rfl) (k_var 4 rfl (by first | exact .inl rfl | exact .inr (.inl rfl) | exact .inr (.inr rfl)) rfl rfl) rfl rfl rfl rfl)
  (ss_cons (s_asgO (i := 4) C rfl (by first | exact .inl rfl | exact .inr rfl) (p_bin (op := .add) C (k_var 4 rfl (by first | exact .inl rfl | exact .inr (.inl rfl) | exact .inr (.inr rfl)) rfl rfl) (c_call c__law_one C rfl rfl hr rfl (aw_cons (k_var 0 rfl (by first | exact .inl rfl | exact .inr (.inl rfl) | exact .inr (.inr rfl)) rfl rfl) (aw_cons (p_lst C (a_cons (k_var 1 rfl (by first | exact .inl rfl | exact .inr (.inl rfl) | exact .inr (.inr rfl)) rfl rfl) (a_cons (k_var 1 rfl (by first | exact .inl rfl | exact .inr (.inl rfl) | exact .inr (.inr rfl)) rfl rfl) (a_cons (p_bin (op := .add) C (k_int C) (c_call c__law_place C rfl rfl hr rfl (aw_cons (k_var 0 rfl (by first | exact .inl rfl | exact .inr (.inl rfl) | exact .inr (.inr rfl)) rfl rfl) (aw_cons (p_bin (op := .mul) C (k_int C) (k_var 1 rfl (by first | exact .inl rfl | exact .inr (.inl rfl) | exact .inr (.inr rfl)) rfl rfl)) aw_nil rfl) rfl) rfl rfl rfl)) a_nil rfl) rfl) rfl)) aw_nil rfl) rfl) rfl rfl rfl)) rfl (by first | exact .inr rfl | exact .inl rfl))
  ss_nil)) (fun _ => rfl))
  (ss_cons (s_ret (k_var 3 rfl (by first | exact .inl rfl | exact .inr (.inl rfl) | exact .inr (.inr rfl)) rfl rfl))
  ss_nil)))
abbrev s_is_integer : Stmt := topS 5
theorem sc_is_integer : FnScope ["value"] ["value"] (defScope s_is_integer) := ⟨rfl, rfl, rfl, by decide +kernel, rfl, by decide +kernel, by decide +kernel⟩
theorem ok_is_integer {k : Nat} {f : Addr} {fd : FuncData} (T : Txt mg) (F : Fun g.K "is_integer" "is_integer" s_is_integer f fd) (hm : mg "is_integer" = some (.ref f))  : Cal P w mg base g (k + 1) "is_integer" 1 F_is_integer := by
  refine def_ok (fs := []) F hm sc_is_integer (F.binds fun _ _ _ _ _ _ us hl => match us, hl with | [_], _ => rfl) rfl rfl fun cdv A outer s H E hr C => ?_
  exact (ss_cons (s_ret (p_and C (p_isi (t := .int) C (k_var 0 rfl (by first | exact .inl rfl | exact .inr (.inl rfl) | exact .inr (.inr rfl)) rfl rfl) (ty_int (T.z_int) rfl) rfl (T.z_isinstance) rfl rfl) (p_one (p_not C (p_isi (t := .bool) C (k_var 0 rfl (by first | exact .inl rfl | exact .inr (.inl rfl) | exact .inr (.inr rfl)) rfl rfl) (ty_bool (T.z_bool) rfl) rfl (T.z_isinstance) rfl rfl)))))
  ss_nil)
abbrev s_is_between : Stmt := topS 6
theorem sc_is_between : FnScope ["value", "low", "high"] ["value", "low", "high"] (defScope s_is_between) := ⟨rfl, rfl, rfl, by decide +kernel, rfl, by decide +kernel, by decide +kernel⟩
theorem ok_is_between {k : Nat} {f : Addr} {fd : FuncData} (T : Txt mg) (F : Fun g.K "is_between" "is_between" s_is_between f fd) (hm : mg "is_between" = some (.ref f)) (c_is_integer : Cal P w mg base g k "is_integer" 1 F_is_integer) : Cal P w mg base g (k + 1) "is_between" 3 F_is_between := by
  refine def_ok (fs := [F_is_integer]) F hm sc_is_between (F.binds fun _ _ _ _ _ _ us hl => match us, hl with | [_, _, _], _ => rfl) rfl rfl fun cdv A outer s H E hr C => ?_
  exact (ss_cons (s_ret (p_and C (c_call c_is_integer C rfl rfl hr rfl (aw_cons (k_var 0 rfl (by first | exact .inl rfl | exact .inr (.inl rfl) | exact .inr (.inr rfl)) rfl rfl) aw_nil rfl) rfl rfl rfl) (p_one (p_chain (o1 := .le) (o2 := .le) C (k_var 1 rfl (by first | exact .inl rfl | exact .inr (.inl rfl) | exact .inr (.inr rfl)) rfl rfl) (k_var 0 rfl (by first | exact .inl rfl | exact .inr (.inl rfl) | exact .inr (.inr rfl)) rfl rfl) (k_var 2 rfl (by first | exact .inl rfl | exact .inr (.inl rfl) | exact .inr (.inr rfl)) rfl rfl) rfl))))
  ss_nil)
abbrev s_is_breaker : Stmt := topS 10
theorem sc_is_breaker : FnScope ["value"] ["value"] (defScope s_is_breaker) := ⟨rfl, rfl, rfl, by decide +kernel, rfl, by decide +kernel, by decide +kernel⟩
theorem ok_is_breaker {k : Nat} {f : Addr} {fd : FuncData} (T : Txt mg) (F : Fun g.K "is_breaker" "is_breaker" s_is_breaker f fd) (hm : mg "is_breaker" = some (.ref f)) (c_is_between : Cal P w mg base g k "is_between" 3 F_is_between) : Cal P w mg base g (k + 1) "is_breaker" 1 F_is_breaker := by
  refine def_ok (fs := [F_is_between]) F hm sc_is_breaker (F.binds fun _ _ _ _ _ _ us hl => match us, hl with | [_], _ => rfl) rfl rfl fun cdv A outer s H E hr C => ?_
  exact (ss_cons (s_ite (PW.pt (w_or (t_not (t_val C (p_isi (t := .tuple) C (k_var 0 rfl (by first | exact .inl rfl | exact .inr (.inl rfl) | exact .inr (.inr rfl)) rfl rfl) (ty_tuple (T.z_tuple) rfl) rfl (T.z_isinstance) rfl rfl) (fun _ => rfl))) (w_or1 (t_cmp (op := .ne) C (k_len C (a_cons (k_var 0 rfl (by first | exact .inl rfl | exact .inr (.inl rfl) | exact .inr (.inr rfl)) rfl rfl) a_nil rfl) rfl rfl (T.z_len) rfl) (k_int C) rfl)))) (ss_cons (s_ret (k_bl C))
  ss_nil) ss_nil)
  (ss_cons (s_ite (PW.pt (w_or (t_not (t_val C (c_call c_is_between C rfl rfl hr rfl (aw_cons (p_ix C (k_var 0 rfl (by first | exact .inl rfl | exact .inr (.inl rfl) | exact .inr (.inr rfl)) rfl rfl) (k_int C) (fun _ _ => rfl)) (aw_cons (k_int C) (aw_cons (k_gint C T.g_MOST_COUNT rfl rfl) aw_nil rfl) rfl) rfl) rfl rfl rfl) (fun _ => rfl))) (w_or1 (t_not (t_val C (c_call c_is_between C rfl rfl hr rfl (aw_cons (p_ix C (k_var 0 rfl (by first | exact .inl rfl | exact .inr (.inl rfl) | exact .inr (.inr rfl)) rfl rfl) (k_int C) (fun _ _ => rfl)) (aw_cons (k_int C) (aw_cons (k_gint C T.g_MOST_WAIT rfl rfl) aw_nil rfl) rfl) rfl) rfl rfl rfl) (fun _ => rfl)))))) (ss_cons (s_ret (k_bl C))
  ss_nil) ss_nil)
  (ss_cons (s_ret (c_call c_is_between C rfl rfl hr rfl (aw_cons (p_ix C (k_var 0 rfl (by first | exact .inl rfl | exact .inr (.inl rfl) | exact .inr (.inr rfl)) rfl rfl) (k_int C) (fun _ _ => rfl)) (aw_cons (k_int C) (aw_cons (k_gint C T.g_MOST_COUNT rfl rfl) aw_nil rfl) rfl) rfl) rfl rfl rfl))
  ss_nil)))
abbrev s_check_times : Stmt := topS 13
theorem sc_check_times : FnScope ["times", "at", "time"] ["times"] (defScope s_check_times) := ⟨rfl, rfl, rfl, by decide +kernel, rfl, by decide +kernel, by decide +kernel⟩
theorem ok_check_times {k : Nat} {f : Addr} {fd : FuncData} (T : Txt mg) (F : Fun g.K "check_times" "check_times" s_check_times f fd) (hm : mg "check_times" = some (.ref f)) (c_is_integer : Cal P w mg base g k "is_integer" 1 F_is_integer) : Cal P w mg base g (k + 1) "check_times" 1 F_check_times := by
  refine def_ok (fs := [F_is_integer]) F hm sc_check_times (F.binds fun _ _ _ _ _ _ us hl => match us, hl with | [_], _ => rfl) rfl rfl fun cdv A outer s H E hr C => ?_
  exact (ss_cons (s_ite (PW.pt (w_or (t_not (t_val C (p_isi (t := .list) C (k_var 0 rfl (by first | exact .inl rfl | exact .inr (.inl rfl) | exact .inr (.inr rfl)) rfl rfl) (ty_list (T.z_list) rfl) rfl (T.z_isinstance) rfl rfl) (fun _ => rfl))) (w_or1 (t_cmp (op := .gt) C (k_len C (a_cons (k_var 0 rfl (by first | exact .inl rfl | exact .inr (.inl rfl) | exact .inr (.inr rfl)) rfl rfl) a_nil rfl) rfl rfl (T.z_len) rfl) (k_gint C T.g_MOST_ENTRIES rfl rfl) rfl)))) (ss_cons s_stuck
  ss_nil) ss_nil)
  (ss_cons (s_for C PassesOwn.never (i_enum C rfl (T.z_enumerate) (a_cons (k_var 0 rfl (by first | exact .inl rfl | exact .inr (.inl rfl) | exact .inr (.inr rfl)) rfl rfl) a_nil rfl) rfl) (tgp C (tgs_cons (tg_nm (pg_name (i := 1) C.nd rfl (by first | exact .inl rfl | exact .inr rfl) (by first | exact .inr rfl | exact .inl rfl))) (tgs_cons (tg_nm (pg_name (i := 2) C.nd rfl (by first | exact .inl rfl | exact .inr rfl) (by first | exact .inr rfl | exact .inl rfl))) tgs_nil rfl) rfl) rfl rfl) (ss_cons (s_ite (PW.pt (w_or (t_not (t_val C (c_call c_is_integer C rfl rfl hr rfl (aw_cons (k_var 2 rfl (by first | exact .inl rfl | exact .inr (.inl rfl) | exact .inr (.inr rfl)) rfl rfl) aw_nil rfl) rfl rfl rfl) (fun _ => rfl))) (w_or (t_cmp (op := .lt) C (k_var 2 rfl (by first | exact .inl rfl | exact .inr (.inl rfl) | exact .inr (.inr rfl)) rfl rfl) (k_int C) rfl) (w_or1 (PW.pt (w_and (t_cmp (op := .gt) C (k_var 1 rfl (by first | exact .inl rfl | exact .inr (.inl rfl) | exact .inr (.inr rfl)) rfl rfl) (k_int C) rfl) (w_and1 (t_cmp (op := .le) C (k_var 2 rfl (by first | exact .inl rfl | exact .inr (.inl rfl) | exact .inr (.inr rfl)) rfl rfl) (p_ix C (k_var 0 rfl (by first | exact .inl rfl | exact .inr (.inl rfl) | exact .inr (.inr rfl)) rfl rfl) (p_bin (op := .sub) C (k_var 1 rfl (by first | exact .inl rfl | exact .inr (.inl rfl) | exact .inr (.inr rfl)) rfl rfl) (k_int C)) (fun _ _ => rfl)) rfl)))))))) (ss_cons s_stuck
  ss_nil) ss_nil)
  ss_nil) (fun _ => rfl))
  ss_nil))
abbrev s_log_of : Stmt := topS 14
theorem sc_log_of : FnScope ["breaker", "times", "time", "found", "left", "since", "is_passed"] ["breaker", "times"] (defScope s_log_of) := ⟨rfl, rfl, rfl, by decide +kernel, rfl, by decide +kernel, by decide +kernel⟩
theorem ok_log_of {k : Nat} {f : Addr} {fd : FuncData} (T : Txt mg) (F : Fun g.K "log_of" "log_of" s_log_of f fd) (hm : mg "log_of" = some (.ref f)) (c_is_breaker : Cal P w mg base g k "is_breaker" 1 F_is_breaker) (c_check_times : Cal P w mg base g k "check_times" 1 F_check_times) : Cal P w mg base g (k + 1) "log_of" 2 F_log_of := by
  refine def_ok (fs := [F_is_breaker, F_check_times]) F hm sc_log_of (F.binds fun _ _ _ _ _ _ us hl => match us, hl with | [_, _], _ => rfl) rfl rfl fun cdv A outer s H E hr C => ?_
  exact (ss_cons (s_ite (t_not (t_val C (c_call c_is_breaker C rfl rfl hr rfl (aw_cons (k_var 0 rfl (by first | exact .inl rfl | exact .inr (.inl rfl) | exact .inr (.inr rfl)) rfl rfl) aw_nil rfl) rfl rfl rfl) (fun _ => rfl))) (ss_cons s_stuck
  ss_nil) ss_nil)
  (ss_cons (s_expr (c_call c_check_times C rfl rfl hr rfl (aw_cons (k_var 1 rfl (by first | exact .inl rfl | exact .inr (.inl rfl) | exact .inr (.inr rfl)) rfl rfl) aw_nil rfl) rfl rfl rfl) rfl)
  (ss_cons (s_par3 (i := 3) (j := 4) (l := 5) C rfl rfl rfl (by decide) (by decide) (by decide) rfl rfl rfl (an_cons (p_lst C a_nil) (an_cons (p_ix C (k_var 0 rfl (by first | exact .inl rfl | exact .inr (.inl rfl) | exact .inr (.inr rfl)) rfl rfl) (k_int C) (fun _ _ => rfl)) (an_cons (k_int C) an_nil rfl) rfl) rfl) rfl rfl)
  (ss_cons (s_for C PassesOwn.never (i_seq C (k_var 1 rfl (by first | exact .inl rfl | exact .inr (.inl rfl) | exact .inr (.inr rfl)) rfl rfl)) (tg_nm (pg_name (i := 2) C.nd rfl (by first | exact .inl rfl | exact .inr rfl) (by first | exact .inr rfl | exact .inl rfl))) (ss_cons (s_asgO (i := 6) C rfl (by first | exact .inl rfl | exact .inr rfl) (p_or C (p_cmp (op := .gt) C (k_var 4 rfl (by first | exact .inl rfl | exact .inr (.inl rfl) | exact .inr (.inr rfl)) rfl rfl) (k_int C) rfl) (p_one (p_cmp (op := .ge) C (p_bin (op := .sub) C (k_var 2 rfl (by first | exact .inl rfl | exact .inr (.inl rfl) | exact .inr (.inr rfl)) rfl rfl) (k_var 5 rfl (by first | exact .inl rfl | exact .inr (.inl rfl) | exact .inr (.inr rfl)) rfl rfl)) (p_ix C (k_var 0 rfl (by first | exact .inl rfl | exact .inr (.inl rfl) | exact .inr (.inr rfl)) rfl rfl) (k_int C) (fun _ _ => rfl)) rfl))) rfl (by first | exact .inr rfl | exact .inl rfl))
  (ss_cons (s_ite (t_val C (k_var 6 rfl (by first | exact .inl rfl | exact .inr (.inl rfl) | exact .inr (.inr rfl)) rfl rfl) (fun _ => rfl)) (ss_cons (s_asgO (i := 4) C rfl (by first | exact .inl rfl | exact .inr rfl) (k_max2 C (a_cons (k_int C) (a_cons (p_bin (op := .sub) C (k_var 4 rfl (by first | exact .inl rfl | exact .inr (.inl rfl) | exact .inr (.inr rfl)) rfl rfl) (k_int C)) a_nil rfl) rfl) rfl rfl (T.z_max) rfl) rfl (by first | exact .inr rfl | exact .inl rfl))
  (ss_cons (s_asgO (i := 5) C rfl (by first | exact .inl rfl | exact .inr rfl) (k_var 2 rfl (by first | exact .inl rfl | exact .inr (.inl rfl) | exact .inr (.inr rfl)) rfl rfl) rfl (by first | exact .inr rfl | exact .inl rfl))
  ss_nil)) ss_nil)
  (ss_cons (s_app C (pe_var (i := 3) rfl (by first | exact .inl rfl | exact .inr (.inl rfl) | exact .inr (.inr rfl)) rfl rfl) (p_tup C (a_cons (k_var 2 rfl (by first | exact .inl rfl | exact .inr (.inl rfl) | exact .inr (.inr rfl)) rfl rfl) (a_cons (k_var 6 rfl (by first | exact .inl rfl | exact .inr (.inl rfl) | exact .inr (.inr rfl)) rfl rfl) a_nil rfl) rfl)) rfl rfl rfl rfl)
  ss_nil))) (fun _ => rfl))
  (ss_cons (s_ret (k_var 3 rfl (by first | exact .inl rfl | exact .inr (.inl rfl) | exact .inr (.inr rfl)) rfl rfl))
  ss_nil)))))
abbrev s__law_log : Stmt := topS 21
theorem sc__law_log : FnScope ["_law_breaker", "_law_times_here", "_law_time", "_law_found", "_law_left", "_law_since", "_law_is_passed"] ["_law_breaker", "_law_times_here"] (defScope s__law_log) := ⟨rfl, rfl, rfl, by decide +kernel, rfl, by decide +kernel, by decide +kernel⟩
theorem ok__law_log {k : Nat} {f : Addr} {fd : FuncData} (T : Txt mg) (F : Fun g.K "_law_log" "_law_log" s__law_log f fd) (hm : mg "_law_log" = some (.ref f))  : Cal P w mg base g (k + 1) "_law_log" 2 F__law_log := by
  refine def_ok (fs := []) F hm sc__law_log (F.binds fun _ _ _ _ _ _ us hl => match us, hl with | [_, _], _ => rfl) rfl rfl fun cdv A outer s H E hr C => ?_
  exact (ss_cons (s_par3 (i := 3) (j := 4) (l := 5) C rfl rfl rfl (by decide) (by decide) (by decide) rfl rfl rfl (an_cons (p_lst C a_nil) (an_cons (p_ix C (k_var 0 rfl (by first | exact .inl rfl | exact .inr (.inl rfl) | exact .inr (.inr rfl)) rfl rfl) (k_int C) (fun _ _ => rfl)) (an_cons (k_non C) an_nil rfl) rfl) rfl) rfl rfl)
  (ss_cons (s_for C PassesOwn.never (i_seq C (k_var 1 rfl (by first | exact .inl rfl | exact .inr (.inl rfl) | exact .inr (.inr rfl)) rfl rfl)) (tg_nm (pg_name (i := 2) C.nd rfl (by first | exact .inl rfl | exact .inr rfl) (by first | exact .inr rfl | exact .inl rfl))) (ss_cons (s_asgO (i := 6) C rfl (by first | exact .inl rfl | exact .inr rfl) (p_or C (p_cmp (op := .is) C (k_var 5 rfl (by first | exact .inl rfl | exact .inr (.inl rfl) | exact .inr (.inr rfl)) rfl rfl) (k_non C) rfl) (p_one (p_cmp (op := .ge) C (k_var 2 rfl (by first | exact .inl rfl | exact .inr (.inl rfl) | exact .inr (.inr rfl)) rfl rfl) (p_bin (op := .add) C (k_var 5 rfl (by first | exact .inl rfl | exact .inr (.inl rfl) | exact .inr (.inr rfl)) rfl rfl) (p_ix C (k_var 0 rfl (by first | exact .inl rfl | exact .inr (.inl rfl) | exact .inr (.inr rfl)) rfl rfl) (k_int C) (fun _ _ => rfl))) rfl))) rfl (by first | exact .inr rfl | exact .inl rfl))
  (ss_cons (s_ite (t_val C (k_var 6 rfl (by first | exact .inl rfl | exact .inr (.inl rfl) | exact .inr (.inr rfl)) rfl rfl) (fun _ => rfl)) (ss_cons (s_asgO (i := 4) C rfl (by first | exact .inl rfl | exact .inr rfl) (k_max2 C (a_cons (p_bin (op := .sub) C (k_var 4 rfl (by first | exact .inl rfl | exact .inr (.inl rfl) | exact .inr (.inr rfl)) rfl rfl) (k_int C)) (a_cons (k_int C) a_nil rfl) rfl) rfl rfl (T.z_max) rfl) rfl (by first | exact .inr rfl | exact .inl rfl))
  (ss_cons (s_asgO (i := 5) C rfl (by first | exact .inl rfl | exact .inr rfl) (p_ite (t_cmp (op := .eq) C (k_var 4 rfl (by first | exact .inl rfl | exact .inr (.inl rfl) | exact .inr (.inr rfl)) rfl rfl) (k_int C) rfl) (k_var 2 rfl (by first | exact .inl rfl | exact .inr (.inl rfl) | exact .inr (.inr rfl)) rfl rfl) (k_non C)) rfl (by first | exact .inr rfl | exact .inl rfl))
  ss_nil)) ss_nil)
  (ss_cons (s_app C (pe_var (i := 3) rfl (by first | exact .inl rfl | exact .inr (.inl rfl) | exact .inr (.inr rfl)) rfl rfl) (p_tup C (a_cons (k_var 2 rfl (by first | exact .inl rfl | exact .inr (.inl rfl) | exact .inr (.inr rfl)) rfl rfl) (a_cons (k_var 6 rfl (by first | exact .inl rfl | exact .inr (.inl rfl) | exact .inr (.inr rfl)) rfl rfl) a_nil rfl) rfl)) rfl rfl rfl rfl)
  ss_nil))) (fun _ => rfl))
  (ss_cons (s_ret (k_var 3 rfl (by first | exact .inl rfl | exact .inr (.inl rfl) | exact .inr (.inr rfl)) rfl rfl))
  ss_nil)))
abbrev s__law_right : Stmt := topS 23
theorem sc__law_right : FnScope ["_law_well_here", "_law_unit", "_law_far", "_law_times_here", "_law_breaker", "_law_kept", "_law_told", "_law_one_here"] ["_law_well_here"] (defScope s__law_right) := ⟨rfl, rfl, rfl, by decide +kernel, rfl, by decide +kernel, by decide +kernel⟩
theorem ok__law_right {k : Nat} {f : Addr} {fd : FuncData} (T : Txt mg) (F : Fun g.K "_law_right" "_law_right" s__law_right f fd) (hm : mg "_law_right" = some (.ref f)) (c__law_draw : Cal P w mg base g k "_law_draw" 2 F__law_draw) (c__law_place : Cal P w mg base g k "_law_place" 2 F__law_place) (c__law_times : Cal P w mg base g k "_law_times" 2 F__law_times) (c_log_of : Cal P w mg base g k "log_of" 2 F_log_of) (c__law_log : Cal P w mg base g k "_law_log" 2 F__law_log) : Cal P w mg base g (k + 1) "_law_right" 1 F__law_right := by
  refine def_ok (fs := [F__law_draw, F__law_place, F__law_times, F_log_of, F__law_log]) F hm sc__law_right (F.binds fun _ _ _ _ _ _ us hl => match us, hl with | [_], _ => rfl) rfl rfl fun cdv A outer s H E hr C => ?_
  exact (ss_cons (s_for C PassesOwn.never (i_seq C (p_tup C (a_cons (k_int C) (a_cons (p_bin (op := .add) C (k_int C) (c_call c__law_draw C rfl rfl hr rfl (aw_cons (k_var 0 rfl (by first | exact .inl rfl | exact .inr (.inl rfl) | exact .inr (.inr rfl)) rfl rfl) (aw_cons (k_int C) aw_nil rfl) rfl) rfl rfl rfl)) (a_cons (p_bin (op := .add) C (k_int C) (c_call c__law_place C rfl rfl hr rfl (aw_cons (k_var 0 rfl (by first | exact .inl rfl | exact .inr (.inl rfl) | exact .inr (.inr rfl)) rfl rfl) (aw_cons (p_bin (op := .pow) C (k_int C) (k_int C)) aw_nil rfl) rfl) rfl rfl rfl)) a_nil rfl) rfl) rfl))) (tg_nm (pg_name (i := 1) C.nd rfl (by first | exact .inl rfl | exact .inr rfl) (by first | exact .inr rfl | exact .inl rfl))) (ss_cons (s_asgO (i := 3) C rfl (by first | exact .inl rfl | exact .inr rfl) (c_call c__law_times C rfl rfl hr rfl (aw_cons (k_var 0 rfl (by first | exact .inl rfl | exact .inr (.inl rfl) | exact .inr (.inr rfl)) rfl rfl) (aw_cons (k_var 1 rfl (by first | exact .inl rfl | exact .inr (.inl rfl) | exact .inr (.inr rfl)) rfl rfl) aw_nil rfl) rfl) rfl rfl rfl) rfl (by first | exact .inr rfl | exact .inl rfl))
  (ss_cons (s_asgO (i := 4) C rfl (by first | exact .inl rfl | exact .inr rfl) (p_tup C (a_cons (p_bin (op := .add) C (k_int C) (c_call c__law_draw C rfl rfl hr rfl (aw_cons (k_var 0 rfl (by first | exact .inl rfl | exact .inr (.inl rfl) | exact .inr (.inr rfl)) rfl rfl) (aw_cons (k_int C) aw_nil rfl) rfl) rfl rfl rfl)) (a_cons (p_bin (op := .add) C (k_int C) (c_call c__law_place C rfl rfl hr rfl (aw_cons (k_var 0 rfl (by first | exact .inl rfl | exact .inr (.inl rfl) | exact .inr (.inr rfl)) rfl rfl) (aw_cons (p_bin (op := .mul) C (k_int C) (k_var 1 rfl (by first | exact .inl rfl | exact .inr (.inl rfl) | exact .inr (.inr rfl)) rfl rfl)) aw_nil rfl) rfl) rfl rfl rfl)) (a_cons (p_bin (op := .add) C (k_int C) (c_call c__law_draw C rfl rfl hr rfl (aw_cons (k_var 0 rfl (by first | exact .inl rfl | exact .inr (.inl rfl) | exact .inr (.inr rfl)) rfl rfl) (aw_cons (k_int C) aw_nil rfl) rfl) rfl rfl rfl)) a_nil rfl) rfl) rfl)) rfl (by first | exact .inr rfl | exact .inl rfl))
  (ss_cons (s_asgO (i := 5) C rfl (by first | exact .inl rfl | exact .inr rfl) (k_list C (a_cons (k_var 3 rfl (by first | exact .inl rfl | exact .inr (.inl rfl) | exact .inr (.inr rfl)) rfl rfl) a_nil rfl) rfl rfl (T.z_list) rfl) rfl (by first | exact .inr rfl | exact .inl rfl))
  (ss_cons (s_asgO (i := 6) C rfl (by first | exact .inl rfl | exact .inr rfl) (c_call c_log_of C rfl rfl hr rfl (aw_cons (k_var 4 rfl (by first | exact .inl rfl | exact .inr (.inl rfl) | exact .inr (.inr rfl)) rfl rfl) (aw_cons (k_var 3 rfl (by first | exact .inl rfl | exact .inr (.inl rfl) | exact .inr (.inr rfl)) rfl rfl) aw_nil rfl) rfl) rfl rfl rfl) rfl (by first | exact .inr rfl | exact .inl rfl))
  (ss_cons (s_ite (PW.pt (w_or (t_cmp (op := .ne) C (k_var 6 rfl (by first | exact .inl rfl | exact .inr (.inl rfl) | exact .inr (.inr rfl)) rfl rfl) (c_call c__law_log C rfl rfl hr rfl (aw_cons (k_var 4 rfl (by first | exact .inl rfl | exact .inr (.inl rfl) | exact .inr (.inr rfl)) rfl rfl) (aw_cons (k_var 3 rfl (by first | exact .inl rfl | exact .inr (.inl rfl) | exact .inr (.inr rfl)) rfl rfl) aw_nil rfl) rfl) rfl rfl rfl) rfl) (w_or1 (t_cmp (op := .ne) C (k_var 3 rfl (by first | exact .inl rfl | exact .inr (.inl rfl) | exact .inr (.inr rfl)) rfl rfl) (k_var 5 rfl (by first | exact .inl rfl | exact .inr (.inl rfl) | exact .inr (.inr rfl)) rfl rfl) rfl)))) (ss_cons (s_ret (k_bl C))
  ss_nil) ss_nil)
  (ss_cons (s_app C (pe_var (i := 6) rfl (by first | exact .inl rfl | exact .inr (.inl rfl) | exact .inr (.inr rfl)) rfl rfl) (k_non C) rfl rfl rfl rfl)
  (ss_cons (s_ite (t_cmp (op := .ne) C (c_call c_log_of C rfl rfl hr rfl (aw_cons (k_var 4 rfl (by first | exact .inl rfl | exact .inr (.inl rfl) | exact .inr (.inr rfl)) rfl rfl) (aw_cons (k_var 3 rfl (by first | exact .inl rfl | exact .inr (.inl rfl) | exact .inr (.inr rfl)) rfl rfl) aw_nil rfl) rfl) rfl rfl rfl) (c_call c__law_log C rfl rfl hr rfl (aw_cons (k_var 4 rfl (by first | exact .inl rfl | exact .inr (.inl rfl) | exact .inr (.inr rfl)) rfl rfl) (aw_cons (k_var 3 rfl (by first | exact .inl rfl | exact .inr (.inl rfl) | exact .inr (.inr rfl)) rfl rfl) aw_nil rfl) rfl) rfl rfl rfl) rfl) (ss_cons (s_ret (k_bl C))
  ss_nil) ss_nil)
  (ss_cons (s_ite (t_cmp (op := .ne) C (c_call c_log_of C rfl rfl hr rfl (aw_cons (p_tup C (a_cons (p_bin (op := .pow) C (k_int C) (k_int C)) (a_cons (k_int C) (a_cons (k_int C) a_nil rfl) rfl) rfl)) (aw_cons (k_var 3 rfl (by first | exact .inl rfl | exact .inr (.inl rfl) | exact .inr (.inr rfl)) rfl rfl) aw_nil rfl) rfl) rfl rfl rfl) (p_comp C (i_seq C (k_var 3 rfl (by first | exact .inl rfl | exact .inr (.inl rfl) | exact .inr (.inr rfl)) rfl rfl)) (blkOk_by (own := [("_law_one_here", 7)]) rfl) (fun _ _ _ _ _ => (tg_nm (pg_name (i := 7) (C.blk _ _ _ _ _).nd rfl (by first | exact .inl rfl | exact .inr rfl) (by first | exact .inr rfl | exact .inl rfl)))) (fun _ _ _ _ _ => c_nil) (fun _ _ _ _ _ => (p_tup (C.blk _ _ _ _ _) (a_cons (k_var 7 rfl (by first | exact .inl rfl | exact .inr (.inl rfl) | exact .inr (.inr rfl)) rfl rfl) (a_cons (k_bl (C.blk _ _ _ _ _)) a_nil rfl) rfl))) (fun _ => rfl)) rfl) (ss_cons (s_ret (k_bl C))
  ss_nil) ss_nil)
  ss_nil)))))))) (fun _ => rfl))
  (ss_cons (s_asgO (i := 2) C rfl (by first | exact .inl rfl | exact .inr rfl) (p_bin (op := .pow) C (k_int C) (k_int C)) rfl (by first | exact .inr rfl | exact .inl rfl))
  (ss_cons (s_ret (p_cmp (op := .eq) C (c_call c_log_of C rfl rfl hr rfl (aw_cons (p_tup C (a_cons (k_int C) (a_cons (k_var 2 rfl (by first | exact .inl rfl | exact .inr (.inl rfl) | exact .inr (.inr rfl)) rfl rfl) (a_cons (p_bin (op := .pow) C (k_int C) (k_int C)) a_nil rfl) rfl) rfl)) (aw_cons (p_lst C (a_cons (k_int C) (a_cons (p_bin (op := .sub) C (k_var 2 rfl (by first | exact .inl rfl | exact .inr (.inl rfl) | exact .inr (.inr rfl)) rfl rfl) (k_int C)) (a_cons (k_var 2 rfl (by first | exact .inl rfl | exact .inr (.inl rfl) | exact .inr (.inr rfl)) rfl rfl) a_nil rfl) rfl) rfl)) aw_nil rfl) rfl) rfl rfl rfl) (p_lst C (a_cons (p_tup C (a_cons (k_int C) (a_cons (k_bl C) a_nil rfl) rfl)) (a_cons (p_tup C (a_cons (p_bin (op := .sub) C (k_var 2 rfl (by first | exact .inl rfl | exact .inr (.inl rfl) | exact .inr (.inr rfl)) rfl rfl) (k_int C)) (a_cons (k_bl C) a_nil rfl) rfl)) (a_cons (p_tup C (a_cons (k_var 2 rfl (by first | exact .inl rfl | exact .inr (.inl rfl) | exact .inr (.inr rfl)) rfl rfl) (a_cons (k_bl C) a_nil rfl) rfl)) a_nil rfl) rfl) rfl)) rfl))
  ss_nil)))
abbrev s_law : Stmt := topS 24
theorem sc_law : FnScope ["_law_script", "_law_cell"] ["_law_script"] (defScope s_law) := ⟨rfl, rfl, rfl, by decide +kernel, rfl, by decide +kernel, by decide +kernel⟩
theorem ok_law {k : Nat} {f : Addr} {fd : FuncData} (T : Txt mg) (F : Fun g.K "law" "law" s_law f fd) (c__law_well : Cal P w mg base g k "_law_well" 1 F__law_well) (c__law_right : Cal P w mg base g k "_law_right" 1 F__law_right) : FnOk P w g.K mg base CX0 (k + 1) f fd ["_law_script"] (spF g 1 F_law) := by
  refine def_fn (fs := [F__law_well, F__law_right]) F sc_law rfl rfl fun cdv A outer s H E hr C => ?_
  exact (ss_cons (s_for C PassesOwn.never (i_seq C (p_bin (op := .add) C (p_slc C (k_var 0 rfl (by first | exact .inl rfl | exact .inr (.inl rfl) | exact .inr (.inr rfl)) rfl rfl) part0 (part1 (k_int C))) (p_lst C (a_cons (k_int C) a_nil rfl)))) (tg_nm (pg_name (i := 1) C.nd rfl (by first | exact .inl rfl | exact .inr rfl) (by first | exact .inr rfl | exact .inl rfl))) (ss_cons (s_ite (t_not (t_val C (c_call c__law_right C rfl rfl hr rfl (aw_cons (c_call c__law_well C rfl rfl hr rfl (aw_cons (k_var 1 rfl (by first | exact .inl rfl | exact .inr (.inl rfl) | exact .inr (.inr rfl)) rfl rfl) aw_nil rfl) rfl rfl rfl) aw_nil rfl) rfl rfl rfl) (fun _ => rfl))) (ss_cons (s_ret (k_bl C))
  ss_nil) ss_nil)
  ss_nil) (fun _ => rfl))
  (ss_cons (s_ret (k_bl C))
  ss_nil))
end
theorem all_mk {l : PySem.W.OpenLaw} {w : World} {K : PySem.W.Frag} {h : Heap} {mg : Str → Option Value} {fa : Addr} (X : K.In h) (G : h.Ns mainGlobals mg) (hfa : mg "law" = some (.ref fa))
    {f0 : Addr} {od0 an0 : Option Addr} {sl0 : Array (Option Value)} {oc0 kV0 dc0 pm0 cd0 ct0 : Value}
    {f1 : Addr} {od1 an1 : Option Addr} {sl1 : Array (Option Value)} {oc1 kV1 dc1 pm1 cd1 ct1 : Value}
    {f2 : Addr} {od2 an2 : Option Addr} {sl2 : Array (Option Value)} {oc2 kV2 dc2 pm2 cd2 ct2 : Value}
    {f3 : Addr} {od3 an3 : Option Addr} {sl3 : Array (Option Value)} {oc3 kV3 dc3 pm3 cd3 ct3 : Value}
    {f4 : Addr} {od4 an4 : Option Addr} {sl4 : Array (Option Value)} {oc4 kV4 dc4 pm4 cd4 ct4 : Value}
    {f5 : Addr} {od5 an5 : Option Addr} {sl5 : Array (Option Value)} {oc5 kV5 dc5 pm5 cd5 ct5 : Value}
    {f6 : Addr} {od6 an6 : Option Addr} {sl6 : Array (Option Value)} {oc6 kV6 dc6 pm6 cd6 ct6 : Value}
    {f7 : Addr} {od7 an7 : Option Addr} {sl7 : Array (Option Value)} {oc7 kV7 dc7 pm7 cd7 ct7 : Value}
    {f8 : Addr} {od8 an8 : Option Addr} {sl8 : Array (Option Value)} {oc8 kV8 dc8 pm8 cd8 ct8 : Value}
    {f9 : Addr} {od9 an9 : Option Addr} {sl9 : Array (Option Value)} {oc9 kV9 dc9 pm9 cd9 ct9 : Value}
    {f10 : Addr} {od10 an10 : Option Addr} {sl10 : Array (Option Value)} {oc10 kV10 dc10 pm10 cd10 ct10 : Value}
    {f11 : Addr} {od11 an11 : Option Addr} {sl11 : Array (Option Value)} {oc11 kV11 dc11 pm11 cd11 ct11 : Value}
    {f12 : Addr} {od12 an12 : Option Addr} {sl12 : Array (Option Value)} {oc12 kV12 dc12 pm12 cd12 ct12 : Value}
    {f13 : Addr} {od13 an13 : Option Addr} {sl13 : Array (Option Value)} {oc13 kV13 dc13 pm13 cd13 ct13 : Value}
    {t_MOST_COUNT : _}
    {t_MOST_WAIT : _}
    {t_MOST_ENTRIES : _}
    (a0 : PySem.W.nsIn K mainGlobals "_law_well" = some (some (.ref f0))) (l0 : K.lookup f0 = some ⟨oc0, od0, .func (PySem.W.fnOf "_law_well" "_law_well" (defArgs s__law_well) (defBody s__law_well) (defScope s__law_well) .none kV0 dc0 pm0 an0 cd0 ct0), sl0⟩) (e0 : PySem.W.codeIn K cd0 "_law_well" = true) (k0 : PySem.W.keepIn K (.ref f0) = true)
    (a1 : PySem.W.nsIn K mainGlobals "_law_mixed" = some (some (.ref f1))) (l1 : K.lookup f1 = some ⟨oc1, od1, .func (PySem.W.fnOf "_law_mixed" "_law_mixed" (defArgs s__law_mixed) (defBody s__law_mixed) (defScope s__law_mixed) .none kV1 dc1 pm1 an1 cd1 ct1), sl1⟩) (e1 : PySem.W.codeIn K cd1 "_law_mixed" = true) (k1 : PySem.W.keepIn K (.ref f1) = true)
    (a2 : PySem.W.nsIn K mainGlobals "_law_draw" = some (some (.ref f2))) (l2 : K.lookup f2 = some ⟨oc2, od2, .func (PySem.W.fnOf "_law_draw" "_law_draw" (defArgs s__law_draw) (defBody s__law_draw) (defScope s__law_draw) .none kV2 dc2 pm2 an2 cd2 ct2), sl2⟩) (e2 : PySem.W.codeIn K cd2 "_law_draw" = true) (k2 : PySem.W.keepIn K (.ref f2) = true)
    (a3 : PySem.W.nsIn K mainGlobals "_law_place" = some (some (.ref f3))) (l3 : K.lookup f3 = some ⟨oc3, od3, .func (PySem.W.fnOf "_law_place" "_law_place" (defArgs s__law_place) (defBody s__law_place) (defScope s__law_place) .none kV3 dc3 pm3 an3 cd3 ct3), sl3⟩) (e3 : PySem.W.codeIn K cd3 "_law_place" = true) (k3 : PySem.W.keepIn K (.ref f3) = true)
    (a4 : PySem.W.nsIn K mainGlobals "_law_one" = some (some (.ref f4))) (l4 : K.lookup f4 = some ⟨oc4, od4, .func (PySem.W.fnOf "_law_one" "_law_one" (defArgs s__law_one) (defBody s__law_one) (defScope s__law_one) .none kV4 dc4 pm4 an4 cd4 ct4), sl4⟩) (e4 : PySem.W.codeIn K cd4 "_law_one" = true) (k4 : PySem.W.keepIn K (.ref f4) = true)
    (a5 : PySem.W.nsIn K mainGlobals "_law_times" = some (some (.ref f5))) (l5 : K.lookup f5 = some ⟨oc5, od5, .func (PySem.W.fnOf "_law_times" "_law_times" (defArgs s__law_times) (defBody s__law_times) (defScope s__law_times) .none kV5 dc5 pm5 an5 cd5 ct5), sl5⟩) (e5 : PySem.W.codeIn K cd5 "_law_times" = true) (k5 : PySem.W.keepIn K (.ref f5) = true)
    (a6 : PySem.W.nsIn K mainGlobals "is_integer" = some (some (.ref f6))) (l6 : K.lookup f6 = some ⟨oc6, od6, .func (PySem.W.fnOf "is_integer" "is_integer" (defArgs s_is_integer) (defBody s_is_integer) (defScope s_is_integer) .none kV6 dc6 pm6 an6 cd6 ct6), sl6⟩) (e6 : PySem.W.codeIn K cd6 "is_integer" = true) (k6 : PySem.W.keepIn K (.ref f6) = true)
    (a7 : PySem.W.nsIn K mainGlobals "is_between" = some (some (.ref f7))) (l7 : K.lookup f7 = some ⟨oc7, od7, .func (PySem.W.fnOf "is_between" "is_between" (defArgs s_is_between) (defBody s_is_between) (defScope s_is_between) .none kV7 dc7 pm7 an7 cd7 ct7), sl7⟩) (e7 : PySem.W.codeIn K cd7 "is_between" = true) (k7 : PySem.W.keepIn K (.ref f7) = true)
    (a8 : PySem.W.nsIn K mainGlobals "is_breaker" = some (some (.ref f8))) (l8 : K.lookup f8 = some ⟨oc8, od8, .func (PySem.W.fnOf "is_breaker" "is_breaker" (defArgs s_is_breaker) (defBody s_is_breaker) (defScope s_is_breaker) .none kV8 dc8 pm8 an8 cd8 ct8), sl8⟩) (e8 : PySem.W.codeIn K cd8 "is_breaker" = true) (k8 : PySem.W.keepIn K (.ref f8) = true)
    (a9 : PySem.W.nsIn K mainGlobals "check_times" = some (some (.ref f9))) (l9 : K.lookup f9 = some ⟨oc9, od9, .func (PySem.W.fnOf "check_times" "check_times" (defArgs s_check_times) (defBody s_check_times) (defScope s_check_times) .none kV9 dc9 pm9 an9 cd9 ct9), sl9⟩) (e9 : PySem.W.codeIn K cd9 "check_times" = true) (k9 : PySem.W.keepIn K (.ref f9) = true)
    (a10 : PySem.W.nsIn K mainGlobals "log_of" = some (some (.ref f10))) (l10 : K.lookup f10 = some ⟨oc10, od10, .func (PySem.W.fnOf "log_of" "log_of" (defArgs s_log_of) (defBody s_log_of) (defScope s_log_of) .none kV10 dc10 pm10 an10 cd10 ct10), sl10⟩) (e10 : PySem.W.codeIn K cd10 "log_of" = true) (k10 : PySem.W.keepIn K (.ref f10) = true)
    (a11 : PySem.W.nsIn K mainGlobals "_law_log" = some (some (.ref f11))) (l11 : K.lookup f11 = some ⟨oc11, od11, .func (PySem.W.fnOf "_law_log" "_law_log" (defArgs s__law_log) (defBody s__law_log) (defScope s__law_log) .none kV11 dc11 pm11 an11 cd11 ct11), sl11⟩) (e11 : PySem.W.codeIn K cd11 "_law_log" = true) (k11 : PySem.W.keepIn K (.ref f11) = true)
    (a12 : PySem.W.nsIn K mainGlobals "_law_right" = some (some (.ref f12))) (l12 : K.lookup f12 = some ⟨oc12, od12, .func (PySem.W.fnOf "_law_right" "_law_right" (defArgs s__law_right) (defBody s__law_right) (defScope s__law_right) .none kV12 dc12 pm12 an12 cd12 ct12), sl12⟩) (e12 : PySem.W.codeIn K cd12 "_law_right" = true) (k12 : PySem.W.keepIn K (.ref f12) = true)
    (a13 : PySem.W.nsIn K mainGlobals "law" = some (some (.ref f13))) (l13 : K.lookup f13 = some ⟨oc13, od13, .func (PySem.W.fnOf "law" "law" (defArgs s_law) (defBody s_law) (defScope s_law) .none kV13 dc13 pm13 an13 cd13 ct13), sl13⟩) (e13 : PySem.W.codeIn K cd13 "law" = true) (k13 : PySem.W.keepIn K (.ref f13) = true)
    (z_bool : PySem.W.nsIn K mainGlobals "bool" = some none)
    (z_enumerate : PySem.W.nsIn K mainGlobals "enumerate" = some none)
    (z_int : PySem.W.nsIn K mainGlobals "int" = some none)
    (z_isinstance : PySem.W.nsIn K mainGlobals "isinstance" = some none)
    (z_len : PySem.W.nsIn K mainGlobals "len" = some none)
    (z_list : PySem.W.nsIn K mainGlobals "list" = some none)
    (z_max : PySem.W.nsIn K mainGlobals "max" = some none)
    (z_range : PySem.W.nsIn K mainGlobals "range" = some none)
    (z_tuple : PySem.W.nsIn K mainGlobals "tuple" = some none)
    (g_MOST_COUNT : PySem.W.nsIn K mainGlobals "MOST_COUNT" = some (some (.int 1000000000000 t_MOST_COUNT)))
    (g_MOST_WAIT : PySem.W.nsIn K mainGlobals "MOST_WAIT" = some (some (.int 1000000000000000000000000000000 t_MOST_WAIT)))
    (g_MOST_ENTRIES : PySem.W.nsIn K mainGlobals "MOST_ENTRIES" = some (some (.int 1000 t_MOST_ENTRIES)))
    : ∃ fd : FuncData, (∀ (s : Shared) (v : Value), BindsTo s fd ⟨[v], []⟩ [("_law_script", v)]) ∧ ∀ base : Heap, K.In base → base.Ns mainGlobals mg → FnOk l.prog w K mg base CX0 6 fa fd ["_law_script"] (spF ⟨K, fun _ => 0⟩ 1 F_law) := by
  have e := hfa.symm.trans (PySem.W.mg_of X G a13)
  cases e
  have T : Txt mg := ⟨PySem.W.mg_none_of X G z_bool, PySem.W.mg_none_of X G z_enumerate, PySem.W.mg_none_of X G z_int, PySem.W.mg_none_of X G z_isinstance, PySem.W.mg_none_of X G z_len, PySem.W.mg_none_of X G z_list, PySem.W.mg_none_of X G z_max, PySem.W.mg_none_of X G z_range, PySem.W.mg_none_of X G z_tuple, ⟨t_MOST_COUNT, PySem.W.mg_of X G g_MOST_COUNT⟩, ⟨t_MOST_WAIT, PySem.W.mg_of X G g_MOST_WAIT⟩, ⟨t_MOST_ENTRIES, PySem.W.mg_of X G g_MOST_ENTRIES⟩⟩
  refine ⟨PySem.W.fnOf "law" "law" (defArgs s_law) (defBody s_law) (defScope s_law) .none kV13 dc13 pm13 an13 cd13 ct13, fun s v => .of_eq rfl, fun base _ _ => ?_⟩
  have h__law_well := ok__law_well (P := l.prog) (w := w) (base := base) (g := ⟨K, fun _ => 0⟩) (k := 0) T (fun_mk (st := s__law_well) l0 e0 k0) (PySem.W.mg_of X G a0) 
  have h__law_mixed := ok__law_mixed (P := l.prog) (w := w) (base := base) (g := ⟨K, fun _ => 0⟩) (k := 0) T (fun_mk (st := s__law_mixed) l1 e1 k1) (PySem.W.mg_of X G a1) 
  have h__law_draw := ok__law_draw (P := l.prog) (w := w) (base := base) (g := ⟨K, fun _ => 0⟩) (k := 1) T (fun_mk (st := s__law_draw) l2 e2 k2) (PySem.W.mg_of X G a2) (h__law_mixed.mono (by decide))
  have h__law_place := ok__law_place (P := l.prog) (w := w) (base := base) (g := ⟨K, fun _ => 0⟩) (k := 2) T (fun_mk (st := s__law_place) l3 e3 k3) (PySem.W.mg_of X G a3) (h__law_draw.mono (by decide))
  have h__law_one := ok__law_one (P := l.prog) (w := w) (base := base) (g := ⟨K, fun _ => 0⟩) (k := 2) T (fun_mk (st := s__law_one) l4 e4 k4) (PySem.W.mg_of X G a4) (h__law_draw.mono (by decide))
  have h__law_times := ok__law_times (P := l.prog) (w := w) (base := base) (g := ⟨K, fun _ => 0⟩) (k := 3) T (fun_mk (st := s__law_times) l5 e5 k5) (PySem.W.mg_of X G a5) (h__law_draw.mono (by decide)) (h__law_place.mono (by decide)) (h__law_one.mono (by decide))
  have h_is_integer := ok_is_integer (P := l.prog) (w := w) (base := base) (g := ⟨K, fun _ => 0⟩) (k := 0) T (fun_mk (st := s_is_integer) l6 e6 k6) (PySem.W.mg_of X G a6) 
  have h_is_between := ok_is_between (P := l.prog) (w := w) (base := base) (g := ⟨K, fun _ => 0⟩) (k := 1) T (fun_mk (st := s_is_between) l7 e7 k7) (PySem.W.mg_of X G a7) (h_is_integer.mono (by decide))
  have h_is_breaker := ok_is_breaker (P := l.prog) (w := w) (base := base) (g := ⟨K, fun _ => 0⟩) (k := 2) T (fun_mk (st := s_is_breaker) l8 e8 k8) (PySem.W.mg_of X G a8) (h_is_between.mono (by decide))
  have h_check_times := ok_check_times (P := l.prog) (w := w) (base := base) (g := ⟨K, fun _ => 0⟩) (k := 1) T (fun_mk (st := s_check_times) l9 e9 k9) (PySem.W.mg_of X G a9) (h_is_integer.mono (by decide))
  have h_log_of := ok_log_of (P := l.prog) (w := w) (base := base) (g := ⟨K, fun _ => 0⟩) (k := 3) T (fun_mk (st := s_log_of) l10 e10 k10) (PySem.W.mg_of X G a10) (h_is_breaker.mono (by decide)) (h_check_times.mono (by decide))
  have h__law_log := ok__law_log (P := l.prog) (w := w) (base := base) (g := ⟨K, fun _ => 0⟩) (k := 0) T (fun_mk (st := s__law_log) l11 e11 k11) (PySem.W.mg_of X G a11) 
  have h__law_right := ok__law_right (P := l.prog) (w := w) (base := base) (g := ⟨K, fun _ => 0⟩) (k := 4) T (fun_mk (st := s__law_right) l12 e12 k12) (PySem.W.mg_of X G a12) (h__law_draw.mono (by decide)) (h__law_place.mono (by decide)) (h__law_times.mono (by decide)) (h_log_of.mono (by decide)) (h__law_log.mono (by decide))
  exact ok_law (P := l.prog) (w := w) (base := base) (g := ⟨K, fun _ => 0⟩) (k := 5) T (fun_mk (st := s_law) l13 e13 k13) (h__law_well.mono (by decide)) (h__law_right.mono (by decide))
end L
namespace L
open PySem L2 DV
/-! ### wells -/
abbrev wl (a c k : Int) : D := .lst [.int a, .int c, .int k]
theorem lg_lt {b : Int} (h : b < 2 ^ 200) (h0 : 0 < b) : b.natAbs.log2 < 9000 := by
  have : b.natAbs ≠ 0 := by omega
  rw [Nat.log2_lt this]
  have e : b.natAbs < 2 ^ 200 := by omega
  exact Nat.lt_of_lt_of_le e (Nat.pow_le_pow_right (by decide) (by decide))
theorem mixed_ok (c k : Int) (h0 : 0 ≤ k) (h1 : k ≤ 2 ^ 40) : ∃ v, F__law_mixed [some (.int c, false), some (.int k, false)] = some (.fz (.int v), [some (.int c, false), some (.int k, false)]) := by
  have a1 : 0 ≤ c % 2147483629 := Int.emod_nonneg _ (by decide)
  have a2 : c % 2147483629 < 2147483629 := Int.emod_lt_of_pos _ (by decide)
  have b : (c % 2147483629 + 30011 * k + 7).natAbs < 2 ^ 64 := by omega
  generalize hx : (c % 2147483629 + 30011 * k + 7) = x at b
  have m1 : mulOk 30011 k = true := mulOk_l (by decide) (by decide)
  have m2 : mulOk (c / 2147483629 % 65537) (k + 5) = true := mulOk_l (by have := Int.emod_nonneg (c / 2147483629) (b := 65537) (by decide); omega) (by have := Int.emod_lt_of_pos (c / 2147483629) (b := 65537) (by decide); omega)
  have m3 : ∀ y z : Int, mulOk (y % 2147483587) z = true := fun y z => mulOk_l (by have := Int.emod_nonneg y (b := 2147483587) (by decide); omega) (by have := Int.emod_lt_of_pos y (b := 2147483587) (by decide); omega)
  have m4 : ∀ y z : Int, mulOk (y % 2147483563) z = true := fun y z => mulOk_l (by have := Int.emod_nonneg y (b := 2147483563) (by decide); omega) (by have := Int.emod_lt_of_pos y (b := 2147483563) (by decide); omega)
  have g1 : Nat.log2 2147483629 < 9000 := by decide +kernel
  have g2 : Nat.log2 1009 < 9000 := by decide +kernel
  have g3 : Nat.log2 2003 < 9000 := by decide +kernel
  simp [F__law_mixed, DV.runF.eq_1, DV.exs.eq_1, DV.exs.eq_2, DV.ex.eq_1, DV.ex.eq_2, DV.ex.eq_3, DV.ex.eq_4, DV.ex.eq_5, DV.ex.eq_6, DV.ex.eq_7, DV.ex.eq_8, DV.ex.eq_9, DV.ex.eq_10, DV.ex.eq_11, DV.ex.eq_12, DV.ex.eq_13, DV.ex.eq_14, DV.ex.eq_15, DV.ex.eq_16, DV.ev.eq_1, DV.ev.eq_2, DV.ev.eq_3, DV.ev.eq_4, DV.ev.eq_5, DV.ev.eq_6, DV.ev.eq_7, DV.ev.eq_8, DV.ev.eq_9, DV.ev.eq_10, DV.ev.eq_11, DV.ev.eq_12, DV.ev.eq_13, DV.ev.eq_14, DV.ev.eq_15, DV.ev.eq_16, DV.ev.eq_17, DV.ev.eq_18, DV.evs.eq_1, DV.evs.eq_2, DV.evc.eq_1, DV.evc.eq_2, DV.evn.eq_1, DV.evn.eq_2, DV.parS.eq_1, DV.parS.eq_2, DV.parS.eq_3, DV.datums.eq_1, DV.datums.eq_2, DV.datum.eq_1, DV.datum.eq_2, DV.datum.eq_3, DV.fre.eq_1, DV.fre.eq_2, DV.fre.eq_3, DV.fres.eq_1, DV.fres.eq_2, DV.argSs.eq_1, DV.argSs.eq_2, DV.argS.eq_1, DV.argS.eq_2, DV.argS.eq_3, DV.nodupB.eq_1, DV.nodupB.eq_2, DV.ownIx.eq_1, DV.ownIx.eq_2, DV.ownIx.eq_3, DV.putOuts.eq_1, DV.putOuts.eq_2, DV.putOuts.eq_3, DV.biD.eq_1, DV.biD.eq_2, DV.biD.eq_3, DV.biD.eq_4, DV.biD.eq_5, DV.biD.eq_6, DV.biD.eq_7, DV.biD.eq_8, DV.biD.eq_9, DV.biD.eq_10, DV.biD.eq_11, DV.biD.eq_12, DV.biD.eq_13, DV.biD.eq_14, DV.biD.eq_15, DV.biD.eq_16, DV.biD.eq_17, DV.biD.eq_18, DV.biD.eq_19, DV.isiD.eq_1, DV.isiD.eq_2, DV.isiD.eq_3, DV.isiD.eq_4, DV.isiD.eq_5, DV.isiD.eq_6, DV.isiD.eq_7, DV.shallow.eq_1, DV.shallow.eq_2, DV.shallow.eq_3, DV.testD.eq_1, DV.truthD.eq_1, DV.truthD.eq_2, DV.truthD.eq_3, DV.truthD.eq_4, DV.truthD.eq_5, DV.truthD.eq_6, DV.truthD.eq_7, DV.truthD.eq_8, DV.finish.eq_1, DV.finish.eq_2, DV.finish.eq_3, DV.finish.eq_4, DV.finish.eq_5, DV.outsOf.eq_1, DV.outsOf.eq_2, DV.outsOf.eq_3, DV.ownPs.eq_1, DV.ownPs.eq_2, DV.ownPs.eq_3, DV.disjB.eq_1, DV.isLst.eq_1, DV.appD.eq_1, DV.extD.eq_1, DV.setD.eq_1, DV.asgT.eq_1, DV.asgT.eq_2, DV.asgT.asgTs.eq_1, DV.asgT.asgTs.eq_2, DV.tgIx.eq_1, DV.tgIx.eq_2, DV.tgIx.tgIxs.eq_1, DV.tgIx.tgIxs.eq_2, DV.iterD.eq_1, DV.iterD.eq_2, DV.iterD.eq_3, DV.it_rng, DV.binD.eq_1, DV.binD.eq_2, DV.binD.eq_3, DV.binD.eq_4, DV.binD.eq_5, DV.binD.eq_6, DV.binD.eq_7, DV.binD.eq_8, DV.binD.eq_9, DV.binD.eq_10, DV.cmpD.eq_1, DV.cmpD.eq_2, DV.cmpD.eq_3, DV.cmpD.eq_4, DV.cmpD.eq_5, DV.cmpD.eq_6, DV.cmpD.eq_7, DV.cmpD.eq_8, DV.cmpD.eq_9, DV.cmpD.eq_10, DV.cmpD.eq_11, DV.cmpD.eq_12, DV.isNonD.eq_1, DV.isNonD.eq_2, DV.ixD.eq_1, DV.ixD.eq_2, DV.ixD.eq_3, DV.ixD.eq_4, DV.slcD.eq_1, DV.slcD.eq_2, DV.slcD.eq_3, DV.slO.eq_1, DV.slO.eq_2, DV.plainIx.eq_1, DV.wipeG.eq_1, DV.wipeG.eq_2, DV.restG.eq_1, DV.restG.eq_2, DV.flatD.eq_1, DV.flatD.eq_2, DV.flatD.eq_3, DV.flatD.eq_4, DV.flatD.eq_5, DV.okB.eq_1, DV.okB.eq_2, DV.okB.eq_3, DV.okB.eq_4, DV.okB.eq_5, DV.okB.eq_6, DV.eqd.eq_1, DV.eqd.eq_2, DV.eqd.eq_3, DV.eqd.eq_4, DV.eqd.eq_5, DV.eqd.eq_6, DV.eqd.eq_7, DV.eqd.eq_8, DV.eqds.eq_1, DV.eqds.eq_2, DV.eqds.eq_3, m1, m2, hx, b, m3, m4, g1, g2, g3]
theorem draw_ok (a c k m : Int) (h0 : 0 ≤ k) (h1 : k < 2 ^ 40) (m0 : 0 < m) (m1 : m < 2 ^ 200) : ∃ r a' k', F__law_draw [some (wl a c k, true), some (.int m, false)] = some (.fz (.int r), [some (wl a' c k', true), some (.int m, false)]) ∧ 0 ≤ r ∧ r < m ∧ 0 ≤ k' ∧ k' ≤ k + 1 := by
  have lg := lg_lt m1 m0
  have i0 : ∀ x y z : D, atI [x, y, z] 0 = some x := fun _ _ _ => rfl
  have i1 : ∀ x y z : D, atI [x, y, z] 1 = some y := fun _ _ _ => rfl
  have i2 : ∀ x y z : D, atI [x, y, z] 2 = some z := fun _ _ _ => rfl
  have j0 : ixN 3 0 = some 0 := rfl
  have j2 : ixN 3 2 = some 2 := rfl
  by_cases ha : 0 < a
  · refine ⟨a % m, a / m, k, ?_, Int.emod_nonneg _ (by omega), Int.emod_lt_of_pos _ m0, h0, by omega⟩
    simp [F__law_draw, DV.runF.eq_1, DV.exs.eq_1, DV.exs.eq_2, DV.ex.eq_1, DV.ex.eq_2, DV.ex.eq_3, DV.ex.eq_4, DV.ex.eq_5, DV.ex.eq_6, DV.ex.eq_7, DV.ex.eq_8, DV.ex.eq_9, DV.ex.eq_10, DV.ex.eq_11, DV.ex.eq_12, DV.ex.eq_13, DV.ex.eq_14, DV.ex.eq_15, DV.ex.eq_16, DV.ev.eq_1, DV.ev.eq_2, DV.ev.eq_3, DV.ev.eq_4, DV.ev.eq_5, DV.ev.eq_6, DV.ev.eq_7, DV.ev.eq_8, DV.ev.eq_9, DV.ev.eq_10, DV.ev.eq_11, DV.ev.eq_12, DV.ev.eq_13, DV.ev.eq_14, DV.ev.eq_15, DV.ev.eq_16, DV.ev.eq_17, DV.ev.eq_18, DV.evs.eq_1, DV.evs.eq_2, DV.evc.eq_1, DV.evc.eq_2, DV.evn.eq_1, DV.evn.eq_2, DV.parS.eq_1, DV.parS.eq_2, DV.parS.eq_3, DV.datums.eq_1, DV.datums.eq_2, DV.datum.eq_1, DV.datum.eq_2, DV.datum.eq_3, DV.fre.eq_1, DV.fre.eq_2, DV.fre.eq_3, DV.fres.eq_1, DV.fres.eq_2, DV.argSs.eq_1, DV.argSs.eq_2, DV.argS.eq_1, DV.argS.eq_2, DV.argS.eq_3, DV.nodupB.eq_1, DV.nodupB.eq_2, DV.ownIx.eq_1, DV.ownIx.eq_2, DV.ownIx.eq_3, DV.putOuts.eq_1, DV.putOuts.eq_2, DV.putOuts.eq_3, DV.biD.eq_1, DV.biD.eq_2, DV.biD.eq_3, DV.biD.eq_4, DV.biD.eq_5, DV.biD.eq_6, DV.biD.eq_7, DV.biD.eq_8, DV.biD.eq_9, DV.biD.eq_10, DV.biD.eq_11, DV.biD.eq_12, DV.biD.eq_13, DV.biD.eq_14, DV.biD.eq_15, DV.biD.eq_16, DV.biD.eq_17, DV.biD.eq_18, DV.biD.eq_19, DV.isiD.eq_1, DV.isiD.eq_2, DV.isiD.eq_3, DV.isiD.eq_4, DV.isiD.eq_5, DV.isiD.eq_6, DV.isiD.eq_7, DV.shallow.eq_1, DV.shallow.eq_2, DV.shallow.eq_3, DV.testD.eq_1, DV.truthD.eq_1, DV.truthD.eq_2, DV.truthD.eq_3, DV.truthD.eq_4, DV.truthD.eq_5, DV.truthD.eq_6, DV.truthD.eq_7, DV.truthD.eq_8, DV.finish.eq_1, DV.finish.eq_2, DV.finish.eq_3, DV.finish.eq_4, DV.finish.eq_5, DV.outsOf.eq_1, DV.outsOf.eq_2, DV.outsOf.eq_3, DV.ownPs.eq_1, DV.ownPs.eq_2, DV.ownPs.eq_3, DV.disjB.eq_1, DV.isLst.eq_1, DV.appD.eq_1, DV.extD.eq_1, DV.setD.eq_1, DV.asgT.eq_1, DV.asgT.eq_2, DV.asgT.asgTs.eq_1, DV.asgT.asgTs.eq_2, DV.tgIx.eq_1, DV.tgIx.eq_2, DV.tgIx.tgIxs.eq_1, DV.tgIx.tgIxs.eq_2, DV.iterD.eq_1, DV.iterD.eq_2, DV.iterD.eq_3, DV.it_rng, DV.binD.eq_1, DV.binD.eq_2, DV.binD.eq_3, DV.binD.eq_4, DV.binD.eq_5, DV.binD.eq_6, DV.binD.eq_7, DV.binD.eq_8, DV.binD.eq_9, DV.binD.eq_10, DV.cmpD.eq_1, DV.cmpD.eq_2, DV.cmpD.eq_3, DV.cmpD.eq_4, DV.cmpD.eq_5, DV.cmpD.eq_6, DV.cmpD.eq_7, DV.cmpD.eq_8, DV.cmpD.eq_9, DV.cmpD.eq_10, DV.cmpD.eq_11, DV.cmpD.eq_12, DV.isNonD.eq_1, DV.isNonD.eq_2, DV.ixD.eq_1, DV.ixD.eq_2, DV.ixD.eq_3, DV.ixD.eq_4, DV.slcD.eq_1, DV.slcD.eq_2, DV.slcD.eq_3, DV.slO.eq_1, DV.slO.eq_2, DV.plainIx.eq_1, DV.wipeG.eq_1, DV.wipeG.eq_2, DV.restG.eq_1, DV.restG.eq_2, DV.flatD.eq_1, DV.flatD.eq_2, DV.flatD.eq_3, DV.flatD.eq_4, DV.flatD.eq_5, DV.okB.eq_1, DV.okB.eq_2, DV.okB.eq_3, DV.okB.eq_4, DV.okB.eq_5, DV.okB.eq_6, DV.eqd.eq_1, DV.eqd.eq_2, DV.eqd.eq_3, DV.eqd.eq_4, DV.eqd.eq_5, DV.eqd.eq_6, DV.eqd.eq_7, DV.eqd.eq_8, DV.eqds.eq_1, DV.eqds.eq_2, DV.eqds.eq_3, ha, i0, i1, i2, j0, lg, m0]
  · obtain ⟨v, hv⟩ := mixed_ok c (k + 1) (by omega) (by omega)
    refine ⟨v % m, a, k + 1, ?_, Int.emod_nonneg _ (by omega), Int.emod_lt_of_pos _ m0, by omega, by omega⟩
    simp [F__law_draw, DV.runF.eq_1, DV.exs.eq_1, DV.exs.eq_2, DV.ex.eq_1, DV.ex.eq_2, DV.ex.eq_3, DV.ex.eq_4, DV.ex.eq_5, DV.ex.eq_6, DV.ex.eq_7, DV.ex.eq_8, DV.ex.eq_9, DV.ex.eq_10, DV.ex.eq_11, DV.ex.eq_12, DV.ex.eq_13, DV.ex.eq_14, DV.ex.eq_15, DV.ex.eq_16, DV.ev.eq_1, DV.ev.eq_2, DV.ev.eq_3, DV.ev.eq_4, DV.ev.eq_5, DV.ev.eq_6, DV.ev.eq_7, DV.ev.eq_8, DV.ev.eq_9, DV.ev.eq_10, DV.ev.eq_11, DV.ev.eq_12, DV.ev.eq_13, DV.ev.eq_14, DV.ev.eq_15, DV.ev.eq_16, DV.ev.eq_17, DV.ev.eq_18, DV.evs.eq_1, DV.evs.eq_2, DV.evc.eq_1, DV.evc.eq_2, DV.evn.eq_1, DV.evn.eq_2, DV.parS.eq_1, DV.parS.eq_2, DV.parS.eq_3, DV.datums.eq_1, DV.datums.eq_2, DV.datum.eq_1, DV.datum.eq_2, DV.datum.eq_3, DV.fre.eq_1, DV.fre.eq_2, DV.fre.eq_3, DV.fres.eq_1, DV.fres.eq_2, DV.argSs.eq_1, DV.argSs.eq_2, DV.argS.eq_1, DV.argS.eq_2, DV.argS.eq_3, DV.nodupB.eq_1, DV.nodupB.eq_2, DV.ownIx.eq_1, DV.ownIx.eq_2, DV.ownIx.eq_3, DV.putOuts.eq_1, DV.putOuts.eq_2, DV.putOuts.eq_3, DV.biD.eq_1, DV.biD.eq_2, DV.biD.eq_3, DV.biD.eq_4, DV.biD.eq_5, DV.biD.eq_6, DV.biD.eq_7, DV.biD.eq_8, DV.biD.eq_9, DV.biD.eq_10, DV.biD.eq_11, DV.biD.eq_12, DV.biD.eq_13, DV.biD.eq_14, DV.biD.eq_15, DV.biD.eq_16, DV.biD.eq_17, DV.biD.eq_18, DV.biD.eq_19, DV.isiD.eq_1, DV.isiD.eq_2, DV.isiD.eq_3, DV.isiD.eq_4, DV.isiD.eq_5, DV.isiD.eq_6, DV.isiD.eq_7, DV.shallow.eq_1, DV.shallow.eq_2, DV.shallow.eq_3, DV.testD.eq_1, DV.truthD.eq_1, DV.truthD.eq_2, DV.truthD.eq_3, DV.truthD.eq_4, DV.truthD.eq_5, DV.truthD.eq_6, DV.truthD.eq_7, DV.truthD.eq_8, DV.finish.eq_1, DV.finish.eq_2, DV.finish.eq_3, DV.finish.eq_4, DV.finish.eq_5, DV.outsOf.eq_1, DV.outsOf.eq_2, DV.outsOf.eq_3, DV.ownPs.eq_1, DV.ownPs.eq_2, DV.ownPs.eq_3, DV.disjB.eq_1, DV.isLst.eq_1, DV.appD.eq_1, DV.extD.eq_1, DV.setD.eq_1, DV.asgT.eq_1, DV.asgT.eq_2, DV.asgT.asgTs.eq_1, DV.asgT.asgTs.eq_2, DV.tgIx.eq_1, DV.tgIx.eq_2, DV.tgIx.tgIxs.eq_1, DV.tgIx.tgIxs.eq_2, DV.iterD.eq_1, DV.iterD.eq_2, DV.iterD.eq_3, DV.it_rng, DV.binD.eq_1, DV.binD.eq_2, DV.binD.eq_3, DV.binD.eq_4, DV.binD.eq_5, DV.binD.eq_6, DV.binD.eq_7, DV.binD.eq_8, DV.binD.eq_9, DV.binD.eq_10, DV.cmpD.eq_1, DV.cmpD.eq_2, DV.cmpD.eq_3, DV.cmpD.eq_4, DV.cmpD.eq_5, DV.cmpD.eq_6, DV.cmpD.eq_7, DV.cmpD.eq_8, DV.cmpD.eq_9, DV.cmpD.eq_10, DV.cmpD.eq_11, DV.cmpD.eq_12, DV.isNonD.eq_1, DV.isNonD.eq_2, DV.ixD.eq_1, DV.ixD.eq_2, DV.ixD.eq_3, DV.ixD.eq_4, DV.slcD.eq_1, DV.slcD.eq_2, DV.slcD.eq_3, DV.slO.eq_1, DV.slO.eq_2, DV.plainIx.eq_1, DV.wipeG.eq_1, DV.wipeG.eq_2, DV.restG.eq_1, DV.restG.eq_2, DV.flatD.eq_1, DV.flatD.eq_2, DV.flatD.eq_3, DV.flatD.eq_4, DV.flatD.eq_5, DV.okB.eq_1, DV.okB.eq_2, DV.okB.eq_3, DV.okB.eq_4, DV.okB.eq_5, DV.okB.eq_6, DV.eqd.eq_1, DV.eqd.eq_2, DV.eqd.eq_3, DV.eqd.eq_4, DV.eqd.eq_5, DV.eqd.eq_6, DV.eqd.eq_7, DV.eqd.eq_8, DV.eqds.eq_1, DV.eqds.eq_2, DV.eqds.eq_3, ha, i0, i1, i2, j2, lg, m0, hv]

theorem well_ok (c : Int) : ∃ a, F__law_well [some (.int c, false)] = some (.nw (wl a c 0), [some (.int c, false)]) := by
  by_cases h : 1000000000000000000 ≤ c
  · have m : mulOk c 1 = true := mulOk_r (by decide) (by decide)
    refine ⟨c, ?_⟩
    simp [F__law_well, DV.runF.eq_1, DV.exs.eq_1, DV.exs.eq_2, DV.ex.eq_1, DV.ex.eq_2, DV.ex.eq_3, DV.ex.eq_4, DV.ex.eq_5, DV.ex.eq_6, DV.ex.eq_7, DV.ex.eq_8, DV.ex.eq_9, DV.ex.eq_10, DV.ex.eq_11, DV.ex.eq_12, DV.ex.eq_13, DV.ex.eq_14, DV.ex.eq_15, DV.ex.eq_16, DV.ev.eq_1, DV.ev.eq_2, DV.ev.eq_3, DV.ev.eq_4, DV.ev.eq_5, DV.ev.eq_6, DV.ev.eq_7, DV.ev.eq_8, DV.ev.eq_9, DV.ev.eq_10, DV.ev.eq_11, DV.ev.eq_12, DV.ev.eq_13, DV.ev.eq_14, DV.ev.eq_15, DV.ev.eq_16, DV.ev.eq_17, DV.ev.eq_18, DV.evs.eq_1, DV.evs.eq_2, DV.evc.eq_1, DV.evc.eq_2, DV.evn.eq_1, DV.evn.eq_2, DV.parS.eq_1, DV.parS.eq_2, DV.parS.eq_3, DV.datums.eq_1, DV.datums.eq_2, DV.datum.eq_1, DV.datum.eq_2, DV.datum.eq_3, DV.fre.eq_1, DV.fre.eq_2, DV.fre.eq_3, DV.fres.eq_1, DV.fres.eq_2, DV.argSs.eq_1, DV.argSs.eq_2, DV.argS.eq_1, DV.argS.eq_2, DV.argS.eq_3, DV.nodupB.eq_1, DV.nodupB.eq_2, DV.ownIx.eq_1, DV.ownIx.eq_2, DV.ownIx.eq_3, DV.putOuts.eq_1, DV.putOuts.eq_2, DV.putOuts.eq_3, DV.biD.eq_1, DV.biD.eq_2, DV.biD.eq_3, DV.biD.eq_4, DV.biD.eq_5, DV.biD.eq_6, DV.biD.eq_7, DV.biD.eq_8, DV.biD.eq_9, DV.biD.eq_10, DV.biD.eq_11, DV.biD.eq_12, DV.biD.eq_13, DV.biD.eq_14, DV.biD.eq_15, DV.biD.eq_16, DV.biD.eq_17, DV.biD.eq_18, DV.biD.eq_19, DV.isiD.eq_1, DV.isiD.eq_2, DV.isiD.eq_3, DV.isiD.eq_4, DV.isiD.eq_5, DV.isiD.eq_6, DV.isiD.eq_7, DV.shallow.eq_1, DV.shallow.eq_2, DV.shallow.eq_3, DV.testD.eq_1, DV.truthD.eq_1, DV.truthD.eq_2, DV.truthD.eq_3, DV.truthD.eq_4, DV.truthD.eq_5, DV.truthD.eq_6, DV.truthD.eq_7, DV.truthD.eq_8, DV.finish.eq_1, DV.finish.eq_2, DV.finish.eq_3, DV.finish.eq_4, DV.finish.eq_5, DV.outsOf.eq_1, DV.outsOf.eq_2, DV.outsOf.eq_3, DV.ownPs.eq_1, DV.ownPs.eq_2, DV.ownPs.eq_3, DV.disjB.eq_1, DV.isLst.eq_1, DV.appD.eq_1, DV.extD.eq_1, DV.setD.eq_1, DV.asgT.eq_1, DV.asgT.eq_2, DV.asgT.asgTs.eq_1, DV.asgT.asgTs.eq_2, DV.tgIx.eq_1, DV.tgIx.eq_2, DV.tgIx.tgIxs.eq_1, DV.tgIx.tgIxs.eq_2, DV.iterD.eq_1, DV.iterD.eq_2, DV.iterD.eq_3, DV.it_rng, DV.binD.eq_1, DV.binD.eq_2, DV.binD.eq_3, DV.binD.eq_4, DV.binD.eq_5, DV.binD.eq_6, DV.binD.eq_7, DV.binD.eq_8, DV.binD.eq_9, DV.binD.eq_10, DV.cmpD.eq_1, DV.cmpD.eq_2, DV.cmpD.eq_3, DV.cmpD.eq_4, DV.cmpD.eq_5, DV.cmpD.eq_6, DV.cmpD.eq_7, DV.cmpD.eq_8, DV.cmpD.eq_9, DV.cmpD.eq_10, DV.cmpD.eq_11, DV.cmpD.eq_12, DV.isNonD.eq_1, DV.isNonD.eq_2, DV.ixD.eq_1, DV.ixD.eq_2, DV.ixD.eq_3, DV.ixD.eq_4, DV.slcD.eq_1, DV.slcD.eq_2, DV.slcD.eq_3, DV.slO.eq_1, DV.slO.eq_2, DV.plainIx.eq_1, DV.wipeG.eq_1, DV.wipeG.eq_2, DV.restG.eq_1, DV.restG.eq_2, DV.flatD.eq_1, DV.flatD.eq_2, DV.flatD.eq_3, DV.flatD.eq_4, DV.flatD.eq_5, DV.okB.eq_1, DV.okB.eq_2, DV.okB.eq_3, DV.okB.eq_4, DV.okB.eq_5, DV.okB.eq_6, DV.eqd.eq_1, DV.eqd.eq_2, DV.eqd.eq_3, DV.eqd.eq_4, DV.eqd.eq_5, DV.eqd.eq_6, DV.eqd.eq_7, DV.eqd.eq_8, DV.eqds.eq_1, DV.eqds.eq_2, DV.eqds.eq_3, h, m, sizeLine]
  · have m : mulOk c 0 = true := mulOk_r (by decide) (by decide)
    refine ⟨0, ?_⟩
    simp [F__law_well, DV.runF.eq_1, DV.exs.eq_1, DV.exs.eq_2, DV.ex.eq_1, DV.ex.eq_2, DV.ex.eq_3, DV.ex.eq_4, DV.ex.eq_5, DV.ex.eq_6, DV.ex.eq_7, DV.ex.eq_8, DV.ex.eq_9, DV.ex.eq_10, DV.ex.eq_11, DV.ex.eq_12, DV.ex.eq_13, DV.ex.eq_14, DV.ex.eq_15, DV.ex.eq_16, DV.ev.eq_1, DV.ev.eq_2, DV.ev.eq_3, DV.ev.eq_4, DV.ev.eq_5, DV.ev.eq_6, DV.ev.eq_7, DV.ev.eq_8, DV.ev.eq_9, DV.ev.eq_10, DV.ev.eq_11, DV.ev.eq_12, DV.ev.eq_13, DV.ev.eq_14, DV.ev.eq_15, DV.ev.eq_16, DV.ev.eq_17, DV.ev.eq_18, DV.evs.eq_1, DV.evs.eq_2, DV.evc.eq_1, DV.evc.eq_2, DV.evn.eq_1, DV.evn.eq_2, DV.parS.eq_1, DV.parS.eq_2, DV.parS.eq_3, DV.datums.eq_1, DV.datums.eq_2, DV.datum.eq_1, DV.datum.eq_2, DV.datum.eq_3, DV.fre.eq_1, DV.fre.eq_2, DV.fre.eq_3, DV.fres.eq_1, DV.fres.eq_2, DV.argSs.eq_1, DV.argSs.eq_2, DV.argS.eq_1, DV.argS.eq_2, DV.argS.eq_3, DV.nodupB.eq_1, DV.nodupB.eq_2, DV.ownIx.eq_1, DV.ownIx.eq_2, DV.ownIx.eq_3, DV.putOuts.eq_1, DV.putOuts.eq_2, DV.putOuts.eq_3, DV.biD.eq_1, DV.biD.eq_2, DV.biD.eq_3, DV.biD.eq_4, DV.biD.eq_5, DV.biD.eq_6, DV.biD.eq_7, DV.biD.eq_8, DV.biD.eq_9, DV.biD.eq_10, DV.biD.eq_11, DV.biD.eq_12, DV.biD.eq_13, DV.biD.eq_14, DV.biD.eq_15, DV.biD.eq_16, DV.biD.eq_17, DV.biD.eq_18, DV.biD.eq_19, DV.isiD.eq_1, DV.isiD.eq_2, DV.isiD.eq_3, DV.isiD.eq_4, DV.isiD.eq_5, DV.isiD.eq_6, DV.isiD.eq_7, DV.shallow.eq_1, DV.shallow.eq_2, DV.shallow.eq_3, DV.testD.eq_1, DV.truthD.eq_1, DV.truthD.eq_2, DV.truthD.eq_3, DV.truthD.eq_4, DV.truthD.eq_5, DV.truthD.eq_6, DV.truthD.eq_7, DV.truthD.eq_8, DV.finish.eq_1, DV.finish.eq_2, DV.finish.eq_3, DV.finish.eq_4, DV.finish.eq_5, DV.outsOf.eq_1, DV.outsOf.eq_2, DV.outsOf.eq_3, DV.ownPs.eq_1, DV.ownPs.eq_2, DV.ownPs.eq_3, DV.disjB.eq_1, DV.isLst.eq_1, DV.appD.eq_1, DV.extD.eq_1, DV.setD.eq_1, DV.asgT.eq_1, DV.asgT.eq_2, DV.asgT.asgTs.eq_1, DV.asgT.asgTs.eq_2, DV.tgIx.eq_1, DV.tgIx.eq_2, DV.tgIx.tgIxs.eq_1, DV.tgIx.tgIxs.eq_2, DV.iterD.eq_1, DV.iterD.eq_2, DV.iterD.eq_3, DV.it_rng, DV.binD.eq_1, DV.binD.eq_2, DV.binD.eq_3, DV.binD.eq_4, DV.binD.eq_5, DV.binD.eq_6, DV.binD.eq_7, DV.binD.eq_8, DV.binD.eq_9, DV.binD.eq_10, DV.cmpD.eq_1, DV.cmpD.eq_2, DV.cmpD.eq_3, DV.cmpD.eq_4, DV.cmpD.eq_5, DV.cmpD.eq_6, DV.cmpD.eq_7, DV.cmpD.eq_8, DV.cmpD.eq_9, DV.cmpD.eq_10, DV.cmpD.eq_11, DV.cmpD.eq_12, DV.isNonD.eq_1, DV.isNonD.eq_2, DV.ixD.eq_1, DV.ixD.eq_2, DV.ixD.eq_3, DV.ixD.eq_4, DV.slcD.eq_1, DV.slcD.eq_2, DV.slcD.eq_3, DV.slO.eq_1, DV.slO.eq_2, DV.plainIx.eq_1, DV.wipeG.eq_1, DV.wipeG.eq_2, DV.restG.eq_1, DV.restG.eq_2, DV.flatD.eq_1, DV.flatD.eq_2, DV.flatD.eq_3, DV.flatD.eq_4, DV.flatD.eq_5, DV.okB.eq_1, DV.okB.eq_2, DV.okB.eq_3, DV.okB.eq_4, DV.okB.eq_5, DV.okB.eq_6, DV.eqd.eq_1, DV.eqd.eq_2, DV.eqd.eq_3, DV.eqd.eq_4, DV.eqd.eq_5, DV.eqd.eq_6, DV.eqd.eq_7, DV.eqd.eq_8, DV.eqds.eq_1, DV.eqds.eq_2, DV.eqds.eq_3, h, m, sizeLine]
theorem place_loop (c m : Int) (t : Nat) : ∀ (a k f q : Int) (n : Nat), 0 ≤ k → k + t < 2 ^ 40 → 0 < q → m ≤ q * 1000000000 ^ t → t < n → ∃ a' k' f' q', whlLoop (tst [F__law_draw] C__law_place_2) (exs [F__law_draw] [0] B__law_place_1) n
      [some (wl a c k, true), some (.int m, false), some (.int f, false), some (.int q, false)] = some (.nx [some (wl a' c k', true), some (.int m, false), some (.int f', false), some (.int q', false)]) ∧ 0 ≤ k' ∧ k' ≤ k + t := by
  induction t with
  | zero =>
    intro a k f q n h0 h1 hq hm hn
    obtain ⟨n, rfl⟩ : ∃ j, n = j + 1 := ⟨n - 1, by omega⟩
    refine ⟨a, k, f, q, whl_done ?_, h0, by omega⟩
    have : ¬ q < m := by simp at hm; omega
    simp [tst, C__law_place_2, DV.runF.eq_1, DV.exs.eq_1, DV.exs.eq_2, DV.ex.eq_1, DV.ex.eq_2, DV.ex.eq_3, DV.ex.eq_4, DV.ex.eq_5, DV.ex.eq_6, DV.ex.eq_7, DV.ex.eq_8, DV.ex.eq_9, DV.ex.eq_10, DV.ex.eq_11, DV.ex.eq_12, DV.ex.eq_13, DV.ex.eq_14, DV.ex.eq_15, DV.ex.eq_16, DV.ev.eq_1, DV.ev.eq_2, DV.ev.eq_3, DV.ev.eq_4, DV.ev.eq_5, DV.ev.eq_6, DV.ev.eq_7, DV.ev.eq_8, DV.ev.eq_9, DV.ev.eq_10, DV.ev.eq_11, DV.ev.eq_12, DV.ev.eq_13, DV.ev.eq_14, DV.ev.eq_15, DV.ev.eq_16, DV.ev.eq_17, DV.ev.eq_18, DV.evs.eq_1, DV.evs.eq_2, DV.evc.eq_1, DV.evc.eq_2, DV.evn.eq_1, DV.evn.eq_2, DV.parS.eq_1, DV.parS.eq_2, DV.parS.eq_3, DV.datums.eq_1, DV.datums.eq_2, DV.datum.eq_1, DV.datum.eq_2, DV.datum.eq_3, DV.fre.eq_1, DV.fre.eq_2, DV.fre.eq_3, DV.fres.eq_1, DV.fres.eq_2, DV.argSs.eq_1, DV.argSs.eq_2, DV.argS.eq_1, DV.argS.eq_2, DV.argS.eq_3, DV.nodupB.eq_1, DV.nodupB.eq_2, DV.ownIx.eq_1, DV.ownIx.eq_2, DV.ownIx.eq_3, DV.putOuts.eq_1, DV.putOuts.eq_2, DV.putOuts.eq_3, DV.biD.eq_1, DV.biD.eq_2, DV.biD.eq_3, DV.biD.eq_4, DV.biD.eq_5, DV.biD.eq_6, DV.biD.eq_7, DV.biD.eq_8, DV.biD.eq_9, DV.biD.eq_10, DV.biD.eq_11, DV.biD.eq_12, DV.biD.eq_13, DV.biD.eq_14, DV.biD.eq_15, DV.biD.eq_16, DV.biD.eq_17, DV.biD.eq_18, DV.biD.eq_19, DV.isiD.eq_1, DV.isiD.eq_2, DV.isiD.eq_3, DV.isiD.eq_4, DV.isiD.eq_5, DV.isiD.eq_6, DV.isiD.eq_7, DV.shallow.eq_1, DV.shallow.eq_2, DV.shallow.eq_3, DV.testD.eq_1, DV.truthD.eq_1, DV.truthD.eq_2, DV.truthD.eq_3, DV.truthD.eq_4, DV.truthD.eq_5, DV.truthD.eq_6, DV.truthD.eq_7, DV.truthD.eq_8, DV.finish.eq_1, DV.finish.eq_2, DV.finish.eq_3, DV.finish.eq_4, DV.finish.eq_5, DV.outsOf.eq_1, DV.outsOf.eq_2, DV.outsOf.eq_3, DV.ownPs.eq_1, DV.ownPs.eq_2, DV.ownPs.eq_3, DV.disjB.eq_1, DV.isLst.eq_1, DV.appD.eq_1, DV.extD.eq_1, DV.setD.eq_1, DV.asgT.eq_1, DV.asgT.eq_2, DV.asgT.asgTs.eq_1, DV.asgT.asgTs.eq_2, DV.tgIx.eq_1, DV.tgIx.eq_2, DV.tgIx.tgIxs.eq_1, DV.tgIx.tgIxs.eq_2, DV.iterD.eq_1, DV.iterD.eq_2, DV.iterD.eq_3, DV.it_rng, DV.binD.eq_1, DV.binD.eq_2, DV.binD.eq_3, DV.binD.eq_4, DV.binD.eq_5, DV.binD.eq_6, DV.binD.eq_7, DV.binD.eq_8, DV.binD.eq_9, DV.binD.eq_10, DV.cmpD.eq_1, DV.cmpD.eq_2, DV.cmpD.eq_3, DV.cmpD.eq_4, DV.cmpD.eq_5, DV.cmpD.eq_6, DV.cmpD.eq_7, DV.cmpD.eq_8, DV.cmpD.eq_9, DV.cmpD.eq_10, DV.cmpD.eq_11, DV.cmpD.eq_12, DV.isNonD.eq_1, DV.isNonD.eq_2, DV.ixD.eq_1, DV.ixD.eq_2, DV.ixD.eq_3, DV.ixD.eq_4, DV.slcD.eq_1, DV.slcD.eq_2, DV.slcD.eq_3, DV.slO.eq_1, DV.slO.eq_2, DV.plainIx.eq_1, DV.wipeG.eq_1, DV.wipeG.eq_2, DV.restG.eq_1, DV.restG.eq_2, DV.flatD.eq_1, DV.flatD.eq_2, DV.flatD.eq_3, DV.flatD.eq_4, DV.flatD.eq_5, DV.okB.eq_1, DV.okB.eq_2, DV.okB.eq_3, DV.okB.eq_4, DV.okB.eq_5, DV.okB.eq_6, DV.eqd.eq_1, DV.eqd.eq_2, DV.eqd.eq_3, DV.eqd.eq_4, DV.eqd.eq_5, DV.eqd.eq_6, DV.eqd.eq_7, DV.eqd.eq_8, DV.eqds.eq_1, DV.eqds.eq_2, DV.eqds.eq_3, this]
  | succ t ih =>
    intro a k f q n h0 h1 hq hm hn
    obtain ⟨n, rfl⟩ : ∃ j, n = j + 1 := ⟨n - 1, by omega⟩
    by_cases hc : q < m
    · obtain ⟨r, a1, k1, e1, _, _, k0, k1'⟩ := draw_ok a c k 1000000000 h0 (by omega) (by decide) (by decide)
      have m1 : mulOk f 1000000000 = true := mulOk_r (by decide) (by decide)
      have m2 : mulOk q 1000000000 = true := mulOk_r (by decide) (by decide)
      obtain ⟨a2, k2, f2, q2, e2, l0, l1⟩ := ih a1 k1 (f * 1000000000 + r) (q * 1000000000) n k0 (by omega) (by omega) (by rw [Int.pow_succ] at hm; rw [Int.mul_assoc, Int.mul_comm (1000000000 : Int)]; exact hm) (by omega)
      refine ⟨a2, k2, f2, q2, ?_, l0, by omega⟩
      rw [← e2]
      refine whl_step (Γ1 := [some (wl a c k, true), some (.int m, false), some (.int f, false), some (.int q, false)]) ?_ ?_
      · simp [tst, C__law_place_2, DV.runF.eq_1, DV.exs.eq_1, DV.exs.eq_2, DV.ex.eq_1, DV.ex.eq_2, DV.ex.eq_3, DV.ex.eq_4, DV.ex.eq_5, DV.ex.eq_6, DV.ex.eq_7, DV.ex.eq_8, DV.ex.eq_9, DV.ex.eq_10, DV.ex.eq_11, DV.ex.eq_12, DV.ex.eq_13, DV.ex.eq_14, DV.ex.eq_15, DV.ex.eq_16, DV.ev.eq_1, DV.ev.eq_2, DV.ev.eq_3, DV.ev.eq_4, DV.ev.eq_5, DV.ev.eq_6, DV.ev.eq_7, DV.ev.eq_8, DV.ev.eq_9, DV.ev.eq_10, DV.ev.eq_11, DV.ev.eq_12, DV.ev.eq_13, DV.ev.eq_14, DV.ev.eq_15, DV.ev.eq_16, DV.ev.eq_17, DV.ev.eq_18, DV.evs.eq_1, DV.evs.eq_2, DV.evc.eq_1, DV.evc.eq_2, DV.evn.eq_1, DV.evn.eq_2, DV.parS.eq_1, DV.parS.eq_2, DV.parS.eq_3, DV.datums.eq_1, DV.datums.eq_2, DV.datum.eq_1, DV.datum.eq_2, DV.datum.eq_3, DV.fre.eq_1, DV.fre.eq_2, DV.fre.eq_3, DV.fres.eq_1, DV.fres.eq_2, DV.argSs.eq_1, DV.argSs.eq_2, DV.argS.eq_1, DV.argS.eq_2, DV.argS.eq_3, DV.nodupB.eq_1, DV.nodupB.eq_2, DV.ownIx.eq_1, DV.ownIx.eq_2, DV.ownIx.eq_3, DV.putOuts.eq_1, DV.putOuts.eq_2, DV.putOuts.eq_3, DV.biD.eq_1, DV.biD.eq_2, DV.biD.eq_3, DV.biD.eq_4, DV.biD.eq_5, DV.biD.eq_6, DV.biD.eq_7, DV.biD.eq_8, DV.biD.eq_9, DV.biD.eq_10, DV.biD.eq_11, DV.biD.eq_12, DV.biD.eq_13, DV.biD.eq_14, DV.biD.eq_15, DV.biD.eq_16, DV.biD.eq_17, DV.biD.eq_18, DV.biD.eq_19, DV.isiD.eq_1, DV.isiD.eq_2, DV.isiD.eq_3, DV.isiD.eq_4, DV.isiD.eq_5, DV.isiD.eq_6, DV.isiD.eq_7, DV.shallow.eq_1, DV.shallow.eq_2, DV.shallow.eq_3, DV.testD.eq_1, DV.truthD.eq_1, DV.truthD.eq_2, DV.truthD.eq_3, DV.truthD.eq_4, DV.truthD.eq_5, DV.truthD.eq_6, DV.truthD.eq_7, DV.truthD.eq_8, DV.finish.eq_1, DV.finish.eq_2, DV.finish.eq_3, DV.finish.eq_4, DV.finish.eq_5, DV.outsOf.eq_1, DV.outsOf.eq_2, DV.outsOf.eq_3, DV.ownPs.eq_1, DV.ownPs.eq_2, DV.ownPs.eq_3, DV.disjB.eq_1, DV.isLst.eq_1, DV.appD.eq_1, DV.extD.eq_1, DV.setD.eq_1, DV.asgT.eq_1, DV.asgT.eq_2, DV.asgT.asgTs.eq_1, DV.asgT.asgTs.eq_2, DV.tgIx.eq_1, DV.tgIx.eq_2, DV.tgIx.tgIxs.eq_1, DV.tgIx.tgIxs.eq_2, DV.iterD.eq_1, DV.iterD.eq_2, DV.iterD.eq_3, DV.it_rng, DV.binD.eq_1, DV.binD.eq_2, DV.binD.eq_3, DV.binD.eq_4, DV.binD.eq_5, DV.binD.eq_6, DV.binD.eq_7, DV.binD.eq_8, DV.binD.eq_9, DV.binD.eq_10, DV.cmpD.eq_1, DV.cmpD.eq_2, DV.cmpD.eq_3, DV.cmpD.eq_4, DV.cmpD.eq_5, DV.cmpD.eq_6, DV.cmpD.eq_7, DV.cmpD.eq_8, DV.cmpD.eq_9, DV.cmpD.eq_10, DV.cmpD.eq_11, DV.cmpD.eq_12, DV.isNonD.eq_1, DV.isNonD.eq_2, DV.ixD.eq_1, DV.ixD.eq_2, DV.ixD.eq_3, DV.ixD.eq_4, DV.slcD.eq_1, DV.slcD.eq_2, DV.slcD.eq_3, DV.slO.eq_1, DV.slO.eq_2, DV.plainIx.eq_1, DV.wipeG.eq_1, DV.wipeG.eq_2, DV.restG.eq_1, DV.restG.eq_2, DV.flatD.eq_1, DV.flatD.eq_2, DV.flatD.eq_3, DV.flatD.eq_4, DV.flatD.eq_5, DV.okB.eq_1, DV.okB.eq_2, DV.okB.eq_3, DV.okB.eq_4, DV.okB.eq_5, DV.okB.eq_6, DV.eqd.eq_1, DV.eqd.eq_2, DV.eqd.eq_3, DV.eqd.eq_4, DV.eqd.eq_5, DV.eqd.eq_6, DV.eqd.eq_7, DV.eqd.eq_8, DV.eqds.eq_1, DV.eqds.eq_2, DV.eqds.eq_3, hc]
      · simp [B__law_place_1, DV.runF.eq_1, DV.exs.eq_1, DV.exs.eq_2, DV.ex.eq_1, DV.ex.eq_2, DV.ex.eq_3, DV.ex.eq_4, DV.ex.eq_5, DV.ex.eq_6, DV.ex.eq_7, DV.ex.eq_8, DV.ex.eq_9, DV.ex.eq_10, DV.ex.eq_11, DV.ex.eq_12, DV.ex.eq_13, DV.ex.eq_14, DV.ex.eq_15, DV.ex.eq_16, DV.ev.eq_1, DV.ev.eq_2, DV.ev.eq_3, DV.ev.eq_4, DV.ev.eq_5, DV.ev.eq_6, DV.ev.eq_7, DV.ev.eq_8, DV.ev.eq_9, DV.ev.eq_10, DV.ev.eq_11, DV.ev.eq_12, DV.ev.eq_13, DV.ev.eq_14, DV.ev.eq_15, DV.ev.eq_16, DV.ev.eq_17, DV.ev.eq_18, DV.evs.eq_1, DV.evs.eq_2, DV.evc.eq_1, DV.evc.eq_2, DV.evn.eq_1, DV.evn.eq_2, DV.parS.eq_1, DV.parS.eq_2, DV.parS.eq_3, DV.datums.eq_1, DV.datums.eq_2, DV.datum.eq_1, DV.datum.eq_2, DV.datum.eq_3, DV.fre.eq_1, DV.fre.eq_2, DV.fre.eq_3, DV.fres.eq_1, DV.fres.eq_2, DV.argSs.eq_1, DV.argSs.eq_2, DV.argS.eq_1, DV.argS.eq_2, DV.argS.eq_3, DV.nodupB.eq_1, DV.nodupB.eq_2, DV.ownIx.eq_1, DV.ownIx.eq_2, DV.ownIx.eq_3, DV.putOuts.eq_1, DV.putOuts.eq_2, DV.putOuts.eq_3, DV.biD.eq_1, DV.biD.eq_2, DV.biD.eq_3, DV.biD.eq_4, DV.biD.eq_5, DV.biD.eq_6, DV.biD.eq_7, DV.biD.eq_8, DV.biD.eq_9, DV.biD.eq_10, DV.biD.eq_11, DV.biD.eq_12, DV.biD.eq_13, DV.biD.eq_14, DV.biD.eq_15, DV.biD.eq_16, DV.biD.eq_17, DV.biD.eq_18, DV.biD.eq_19, DV.isiD.eq_1, DV.isiD.eq_2, DV.isiD.eq_3, DV.isiD.eq_4, DV.isiD.eq_5, DV.isiD.eq_6, DV.isiD.eq_7, DV.shallow.eq_1, DV.shallow.eq_2, DV.shallow.eq_3, DV.testD.eq_1, DV.truthD.eq_1, DV.truthD.eq_2, DV.truthD.eq_3, DV.truthD.eq_4, DV.truthD.eq_5, DV.truthD.eq_6, DV.truthD.eq_7, DV.truthD.eq_8, DV.finish.eq_1, DV.finish.eq_2, DV.finish.eq_3, DV.finish.eq_4, DV.finish.eq_5, DV.outsOf.eq_1, DV.outsOf.eq_2, DV.outsOf.eq_3, DV.ownPs.eq_1, DV.ownPs.eq_2, DV.ownPs.eq_3, DV.disjB.eq_1, DV.isLst.eq_1, DV.appD.eq_1, DV.extD.eq_1, DV.setD.eq_1, DV.asgT.eq_1, DV.asgT.eq_2, DV.asgT.asgTs.eq_1, DV.asgT.asgTs.eq_2, DV.tgIx.eq_1, DV.tgIx.eq_2, DV.tgIx.tgIxs.eq_1, DV.tgIx.tgIxs.eq_2, DV.iterD.eq_1, DV.iterD.eq_2, DV.iterD.eq_3, DV.it_rng, DV.binD.eq_1, DV.binD.eq_2, DV.binD.eq_3, DV.binD.eq_4, DV.binD.eq_5, DV.binD.eq_6, DV.binD.eq_7, DV.binD.eq_8, DV.binD.eq_9, DV.binD.eq_10, DV.cmpD.eq_1, DV.cmpD.eq_2, DV.cmpD.eq_3, DV.cmpD.eq_4, DV.cmpD.eq_5, DV.cmpD.eq_6, DV.cmpD.eq_7, DV.cmpD.eq_8, DV.cmpD.eq_9, DV.cmpD.eq_10, DV.cmpD.eq_11, DV.cmpD.eq_12, DV.isNonD.eq_1, DV.isNonD.eq_2, DV.ixD.eq_1, DV.ixD.eq_2, DV.ixD.eq_3, DV.ixD.eq_4, DV.slcD.eq_1, DV.slcD.eq_2, DV.slcD.eq_3, DV.slO.eq_1, DV.slO.eq_2, DV.plainIx.eq_1, DV.wipeG.eq_1, DV.wipeG.eq_2, DV.restG.eq_1, DV.restG.eq_2, DV.flatD.eq_1, DV.flatD.eq_2, DV.flatD.eq_3, DV.flatD.eq_4, DV.flatD.eq_5, DV.okB.eq_1, DV.okB.eq_2, DV.okB.eq_3, DV.okB.eq_4, DV.okB.eq_5, DV.okB.eq_6, DV.eqd.eq_1, DV.eqd.eq_2, DV.eqd.eq_3, DV.eqd.eq_4, DV.eqd.eq_5, DV.eqd.eq_6, DV.eqd.eq_7, DV.eqd.eq_8, DV.eqds.eq_1, DV.eqds.eq_2, DV.eqds.eq_3, m1, m2, e1]
    · refine ⟨a, k, f, q, whl_done ?_, h0, by omega⟩
      simp [tst, C__law_place_2, DV.runF.eq_1, DV.exs.eq_1, DV.exs.eq_2, DV.ex.eq_1, DV.ex.eq_2, DV.ex.eq_3, DV.ex.eq_4, DV.ex.eq_5, DV.ex.eq_6, DV.ex.eq_7, DV.ex.eq_8, DV.ex.eq_9, DV.ex.eq_10, DV.ex.eq_11, DV.ex.eq_12, DV.ex.eq_13, DV.ex.eq_14, DV.ex.eq_15, DV.ex.eq_16, DV.ev.eq_1, DV.ev.eq_2, DV.ev.eq_3, DV.ev.eq_4, DV.ev.eq_5, DV.ev.eq_6, DV.ev.eq_7, DV.ev.eq_8, DV.ev.eq_9, DV.ev.eq_10, DV.ev.eq_11, DV.ev.eq_12, DV.ev.eq_13, DV.ev.eq_14, DV.ev.eq_15, DV.ev.eq_16, DV.ev.eq_17, DV.ev.eq_18, DV.evs.eq_1, DV.evs.eq_2, DV.evc.eq_1, DV.evc.eq_2, DV.evn.eq_1, DV.evn.eq_2, DV.parS.eq_1, DV.parS.eq_2, DV.parS.eq_3, DV.datums.eq_1, DV.datums.eq_2, DV.datum.eq_1, DV.datum.eq_2, DV.datum.eq_3, DV.fre.eq_1, DV.fre.eq_2, DV.fre.eq_3, DV.fres.eq_1, DV.fres.eq_2, DV.argSs.eq_1, DV.argSs.eq_2, DV.argS.eq_1, DV.argS.eq_2, DV.argS.eq_3, DV.nodupB.eq_1, DV.nodupB.eq_2, DV.ownIx.eq_1, DV.ownIx.eq_2, DV.ownIx.eq_3, DV.putOuts.eq_1, DV.putOuts.eq_2, DV.putOuts.eq_3, DV.biD.eq_1, DV.biD.eq_2, DV.biD.eq_3, DV.biD.eq_4, DV.biD.eq_5, DV.biD.eq_6, DV.biD.eq_7, DV.biD.eq_8, DV.biD.eq_9, DV.biD.eq_10, DV.biD.eq_11, DV.biD.eq_12, DV.biD.eq_13, DV.biD.eq_14, DV.biD.eq_15, DV.biD.eq_16, DV.biD.eq_17, DV.biD.eq_18, DV.biD.eq_19, DV.isiD.eq_1, DV.isiD.eq_2, DV.isiD.eq_3, DV.isiD.eq_4, DV.isiD.eq_5, DV.isiD.eq_6, DV.isiD.eq_7, DV.shallow.eq_1, DV.shallow.eq_2, DV.shallow.eq_3, DV.testD.eq_1, DV.truthD.eq_1, DV.truthD.eq_2, DV.truthD.eq_3, DV.truthD.eq_4, DV.truthD.eq_5, DV.truthD.eq_6, DV.truthD.eq_7, DV.truthD.eq_8, DV.finish.eq_1, DV.finish.eq_2, DV.finish.eq_3, DV.finish.eq_4, DV.finish.eq_5, DV.outsOf.eq_1, DV.outsOf.eq_2, DV.outsOf.eq_3, DV.ownPs.eq_1, DV.ownPs.eq_2, DV.ownPs.eq_3, DV.disjB.eq_1, DV.isLst.eq_1, DV.appD.eq_1, DV.extD.eq_1, DV.setD.eq_1, DV.asgT.eq_1, DV.asgT.eq_2, DV.asgT.asgTs.eq_1, DV.asgT.asgTs.eq_2, DV.tgIx.eq_1, DV.tgIx.eq_2, DV.tgIx.tgIxs.eq_1, DV.tgIx.tgIxs.eq_2, DV.iterD.eq_1, DV.iterD.eq_2, DV.iterD.eq_3, DV.it_rng, DV.binD.eq_1, DV.binD.eq_2, DV.binD.eq_3, DV.binD.eq_4, DV.binD.eq_5, DV.binD.eq_6, DV.binD.eq_7, DV.binD.eq_8, DV.binD.eq_9, DV.binD.eq_10, DV.cmpD.eq_1, DV.cmpD.eq_2, DV.cmpD.eq_3, DV.cmpD.eq_4, DV.cmpD.eq_5, DV.cmpD.eq_6, DV.cmpD.eq_7, DV.cmpD.eq_8, DV.cmpD.eq_9, DV.cmpD.eq_10, DV.cmpD.eq_11, DV.cmpD.eq_12, DV.isNonD.eq_1, DV.isNonD.eq_2, DV.ixD.eq_1, DV.ixD.eq_2, DV.ixD.eq_3, DV.ixD.eq_4, DV.slcD.eq_1, DV.slcD.eq_2, DV.slcD.eq_3, DV.slO.eq_1, DV.slO.eq_2, DV.plainIx.eq_1, DV.wipeG.eq_1, DV.wipeG.eq_2, DV.restG.eq_1, DV.restG.eq_2, DV.flatD.eq_1, DV.flatD.eq_2, DV.flatD.eq_3, DV.flatD.eq_4, DV.flatD.eq_5, DV.okB.eq_1, DV.okB.eq_2, DV.okB.eq_3, DV.okB.eq_4, DV.okB.eq_5, DV.okB.eq_6, DV.eqd.eq_1, DV.eqd.eq_2, DV.eqd.eq_3, DV.eqd.eq_4, DV.eqd.eq_5, DV.eqd.eq_6, DV.eqd.eq_7, DV.eqd.eq_8, DV.eqds.eq_1, DV.eqds.eq_2, DV.eqds.eq_3, hc]
theorem place_ok (a c k m : Int) (h0 : 0 ≤ k) (h1 : k + 5 < 2 ^ 40) (m0 : 0 < m) (m1 : m ≤ 10 ^ 45) : ∃ r a' k', F__law_place [some (wl a c k, true), some (.int m, false)] = some (.fz (.int r), [some (wl a' c k', true), some (.int m, false)]) ∧ 0 ≤ r ∧ r < m ∧ 0 ≤ k' ∧ k' ≤ k + 5 := by
  obtain ⟨a', k', f', q', e, l0, l1⟩ := place_loop c m 5 a k 0 1 fuel h0 (by omega) (by decide) (by simpa using m1) (by decide)
  refine ⟨f' % m, a', k', ?_, Int.emod_nonneg _ (by omega), Int.emod_lt_of_pos _ m0, l0, l1⟩
  refine runF_by (o := .rt (.fz (.int (f' % m))) [some (wl a' c k', true), some (.int m, false), some (.int f', false), some (.int q', false)]) rfl (?_ : exs _ [0] _ [some (wl a c k, true), some (.int m, false), none, none] = _) rfl
  refine (exs_nx (Γ1 := [some (wl a c k, true), some (.int m, false), some (.int 0, false), some (.int 1, false)]) (by simp [DV.runF.eq_1, DV.exs.eq_1, DV.exs.eq_2, DV.ex.eq_1, DV.ex.eq_2, DV.ex.eq_3, DV.ex.eq_4, DV.ex.eq_5, DV.ex.eq_6, DV.ex.eq_7, DV.ex.eq_8, DV.ex.eq_9, DV.ex.eq_10, DV.ex.eq_11, DV.ex.eq_12, DV.ex.eq_13, DV.ex.eq_14, DV.ex.eq_15, DV.ex.eq_16, DV.ev.eq_1, DV.ev.eq_2, DV.ev.eq_3, DV.ev.eq_4, DV.ev.eq_5, DV.ev.eq_6, DV.ev.eq_7, DV.ev.eq_8, DV.ev.eq_9, DV.ev.eq_10, DV.ev.eq_11, DV.ev.eq_12, DV.ev.eq_13, DV.ev.eq_14, DV.ev.eq_15, DV.ev.eq_16, DV.ev.eq_17, DV.ev.eq_18, DV.evs.eq_1, DV.evs.eq_2, DV.evc.eq_1, DV.evc.eq_2, DV.evn.eq_1, DV.evn.eq_2, DV.parS.eq_1, DV.parS.eq_2, DV.parS.eq_3, DV.datums.eq_1, DV.datums.eq_2, DV.datum.eq_1, DV.datum.eq_2, DV.datum.eq_3, DV.fre.eq_1, DV.fre.eq_2, DV.fre.eq_3, DV.fres.eq_1, DV.fres.eq_2, DV.argSs.eq_1, DV.argSs.eq_2, DV.argS.eq_1, DV.argS.eq_2, DV.argS.eq_3, DV.nodupB.eq_1, DV.nodupB.eq_2, DV.ownIx.eq_1, DV.ownIx.eq_2, DV.ownIx.eq_3, DV.putOuts.eq_1, DV.putOuts.eq_2, DV.putOuts.eq_3, DV.biD.eq_1, DV.biD.eq_2, DV.biD.eq_3, DV.biD.eq_4, DV.biD.eq_5, DV.biD.eq_6, DV.biD.eq_7, DV.biD.eq_8, DV.biD.eq_9, DV.biD.eq_10, DV.biD.eq_11, DV.biD.eq_12, DV.biD.eq_13, DV.biD.eq_14, DV.biD.eq_15, DV.biD.eq_16, DV.biD.eq_17, DV.biD.eq_18, DV.biD.eq_19, DV.isiD.eq_1, DV.isiD.eq_2, DV.isiD.eq_3, DV.isiD.eq_4, DV.isiD.eq_5, DV.isiD.eq_6, DV.isiD.eq_7, DV.shallow.eq_1, DV.shallow.eq_2, DV.shallow.eq_3, DV.testD.eq_1, DV.truthD.eq_1, DV.truthD.eq_2, DV.truthD.eq_3, DV.truthD.eq_4, DV.truthD.eq_5, DV.truthD.eq_6, DV.truthD.eq_7, DV.truthD.eq_8, DV.finish.eq_1, DV.finish.eq_2, DV.finish.eq_3, DV.finish.eq_4, DV.finish.eq_5, DV.outsOf.eq_1, DV.outsOf.eq_2, DV.outsOf.eq_3, DV.ownPs.eq_1, DV.ownPs.eq_2, DV.ownPs.eq_3, DV.disjB.eq_1, DV.isLst.eq_1, DV.appD.eq_1, DV.extD.eq_1, DV.setD.eq_1, DV.asgT.eq_1, DV.asgT.eq_2, DV.asgT.asgTs.eq_1, DV.asgT.asgTs.eq_2, DV.tgIx.eq_1, DV.tgIx.eq_2, DV.tgIx.tgIxs.eq_1, DV.tgIx.tgIxs.eq_2, DV.iterD.eq_1, DV.iterD.eq_2, DV.iterD.eq_3, DV.it_rng, DV.binD.eq_1, DV.binD.eq_2, DV.binD.eq_3, DV.binD.eq_4, DV.binD.eq_5, DV.binD.eq_6, DV.binD.eq_7, DV.binD.eq_8, DV.binD.eq_9, DV.binD.eq_10, DV.cmpD.eq_1, DV.cmpD.eq_2, DV.cmpD.eq_3, DV.cmpD.eq_4, DV.cmpD.eq_5, DV.cmpD.eq_6, DV.cmpD.eq_7, DV.cmpD.eq_8, DV.cmpD.eq_9, DV.cmpD.eq_10, DV.cmpD.eq_11, DV.cmpD.eq_12, DV.isNonD.eq_1, DV.isNonD.eq_2, DV.ixD.eq_1, DV.ixD.eq_2, DV.ixD.eq_3, DV.ixD.eq_4, DV.slcD.eq_1, DV.slcD.eq_2, DV.slcD.eq_3, DV.slO.eq_1, DV.slO.eq_2, DV.plainIx.eq_1, DV.wipeG.eq_1, DV.wipeG.eq_2, DV.restG.eq_1, DV.restG.eq_2, DV.flatD.eq_1, DV.flatD.eq_2, DV.flatD.eq_3, DV.flatD.eq_4, DV.flatD.eq_5, DV.okB.eq_1, DV.okB.eq_2, DV.okB.eq_3, DV.okB.eq_4, DV.okB.eq_5, DV.okB.eq_6, DV.eqd.eq_1, DV.eqd.eq_2, DV.eqd.eq_3, DV.eqd.eq_4, DV.eqd.eq_5, DV.eqd.eq_6, DV.eqd.eq_7, DV.eqd.eq_8, DV.eqds.eq_1, DV.eqds.eq_2, DV.eqds.eq_3, sizeLine])).trans ?_
  refine (exs_nx (ex_whl e)).trans ?_
  simp [DV.runF.eq_1, DV.exs.eq_1, DV.exs.eq_2, DV.ex.eq_1, DV.ex.eq_2, DV.ex.eq_3, DV.ex.eq_4, DV.ex.eq_5, DV.ex.eq_6, DV.ex.eq_7, DV.ex.eq_8, DV.ex.eq_9, DV.ex.eq_10, DV.ex.eq_11, DV.ex.eq_12, DV.ex.eq_13, DV.ex.eq_14, DV.ex.eq_15, DV.ex.eq_16, DV.ev.eq_1, DV.ev.eq_2, DV.ev.eq_3, DV.ev.eq_4, DV.ev.eq_5, DV.ev.eq_6, DV.ev.eq_7, DV.ev.eq_8, DV.ev.eq_9, DV.ev.eq_10, DV.ev.eq_11, DV.ev.eq_12, DV.ev.eq_13, DV.ev.eq_14, DV.ev.eq_15, DV.ev.eq_16, DV.ev.eq_17, DV.ev.eq_18, DV.evs.eq_1, DV.evs.eq_2, DV.evc.eq_1, DV.evc.eq_2, DV.evn.eq_1, DV.evn.eq_2, DV.parS.eq_1, DV.parS.eq_2, DV.parS.eq_3, DV.datums.eq_1, DV.datums.eq_2, DV.datum.eq_1, DV.datum.eq_2, DV.datum.eq_3, DV.fre.eq_1, DV.fre.eq_2, DV.fre.eq_3, DV.fres.eq_1, DV.fres.eq_2, DV.argSs.eq_1, DV.argSs.eq_2, DV.argS.eq_1, DV.argS.eq_2, DV.argS.eq_3, DV.nodupB.eq_1, DV.nodupB.eq_2, DV.ownIx.eq_1, DV.ownIx.eq_2, DV.ownIx.eq_3, DV.putOuts.eq_1, DV.putOuts.eq_2, DV.putOuts.eq_3, DV.biD.eq_1, DV.biD.eq_2, DV.biD.eq_3, DV.biD.eq_4, DV.biD.eq_5, DV.biD.eq_6, DV.biD.eq_7, DV.biD.eq_8, DV.biD.eq_9, DV.biD.eq_10, DV.biD.eq_11, DV.biD.eq_12, DV.biD.eq_13, DV.biD.eq_14, DV.biD.eq_15, DV.biD.eq_16, DV.biD.eq_17, DV.biD.eq_18, DV.biD.eq_19, DV.isiD.eq_1, DV.isiD.eq_2, DV.isiD.eq_3, DV.isiD.eq_4, DV.isiD.eq_5, DV.isiD.eq_6, DV.isiD.eq_7, DV.shallow.eq_1, DV.shallow.eq_2, DV.shallow.eq_3, DV.testD.eq_1, DV.truthD.eq_1, DV.truthD.eq_2, DV.truthD.eq_3, DV.truthD.eq_4, DV.truthD.eq_5, DV.truthD.eq_6, DV.truthD.eq_7, DV.truthD.eq_8, DV.finish.eq_1, DV.finish.eq_2, DV.finish.eq_3, DV.finish.eq_4, DV.finish.eq_5, DV.outsOf.eq_1, DV.outsOf.eq_2, DV.outsOf.eq_3, DV.ownPs.eq_1, DV.ownPs.eq_2, DV.ownPs.eq_3, DV.disjB.eq_1, DV.isLst.eq_1, DV.appD.eq_1, DV.extD.eq_1, DV.setD.eq_1, DV.asgT.eq_1, DV.asgT.eq_2, DV.asgT.asgTs.eq_1, DV.asgT.asgTs.eq_2, DV.tgIx.eq_1, DV.tgIx.eq_2, DV.tgIx.tgIxs.eq_1, DV.tgIx.tgIxs.eq_2, DV.iterD.eq_1, DV.iterD.eq_2, DV.iterD.eq_3, DV.it_rng, DV.binD.eq_1, DV.binD.eq_2, DV.binD.eq_3, DV.binD.eq_4, DV.binD.eq_5, DV.binD.eq_6, DV.binD.eq_7, DV.binD.eq_8, DV.binD.eq_9, DV.binD.eq_10, DV.cmpD.eq_1, DV.cmpD.eq_2, DV.cmpD.eq_3, DV.cmpD.eq_4, DV.cmpD.eq_5, DV.cmpD.eq_6, DV.cmpD.eq_7, DV.cmpD.eq_8, DV.cmpD.eq_9, DV.cmpD.eq_10, DV.cmpD.eq_11, DV.cmpD.eq_12, DV.isNonD.eq_1, DV.isNonD.eq_2, DV.ixD.eq_1, DV.ixD.eq_2, DV.ixD.eq_3, DV.ixD.eq_4, DV.slcD.eq_1, DV.slcD.eq_2, DV.slcD.eq_3, DV.slO.eq_1, DV.slO.eq_2, DV.plainIx.eq_1, DV.wipeG.eq_1, DV.wipeG.eq_2, DV.restG.eq_1, DV.restG.eq_2, DV.flatD.eq_1, DV.flatD.eq_2, DV.flatD.eq_3, DV.flatD.eq_4, DV.flatD.eq_5, DV.okB.eq_1, DV.okB.eq_2, DV.okB.eq_3, DV.okB.eq_4, DV.okB.eq_5, DV.okB.eq_6, DV.eqd.eq_1, DV.eqd.eq_2, DV.eqd.eq_3, DV.eqd.eq_4, DV.eqd.eq_5, DV.eqd.eq_6, DV.eqd.eq_7, DV.eqd.eq_8, DV.eqds.eq_1, DV.eqds.eq_2, DV.eqds.eq_3, m0]
theorem one_ok (a c k : Int) (ds : List D) (fl : Bool) (h0 : 0 ≤ k) (h1 : k < 2 ^ 40) (m0 : 0 < ds.length) (m1 : ds.length < 2 ^ 60) : ∃ d a' k', F__law_one [some (wl a c k, true), some (.lst ds, fl)] = some (.fz d, [some (wl a' c k', true), some (.lst ds, fl)]) ∧ d ∈ ds ∧ 0 ≤ k' ∧ k' ≤ k + 1 := by
  obtain ⟨r, a', k', e, r0, r1, l0, l1⟩ := draw_ok a c k ds.length h0 h1 (by omega) (by omega)
  obtain ⟨j, rfl⟩ : ∃ j : Nat, r = j := ⟨r.toNat, by omega⟩
  have hj : j < ds.length := by omega
  refine ⟨ds[j], a', k', ?_, List.getElem_mem hj, l0, l1⟩
  have i1 : atI ds (j : Int) = some ds[j] := atI_nat (List.getElem?_eq_getElem hj)
  cases fl <;> simp [F__law_one, DV.runF.eq_1, DV.exs.eq_1, DV.exs.eq_2, DV.ex.eq_1, DV.ex.eq_2, DV.ex.eq_3, DV.ex.eq_4, DV.ex.eq_5, DV.ex.eq_6, DV.ex.eq_7, DV.ex.eq_8, DV.ex.eq_9, DV.ex.eq_10, DV.ex.eq_11, DV.ex.eq_12, DV.ex.eq_13, DV.ex.eq_14, DV.ex.eq_15, DV.ex.eq_16, DV.ev.eq_1, DV.ev.eq_2, DV.ev.eq_3, DV.ev.eq_4, DV.ev.eq_5, DV.ev.eq_6, DV.ev.eq_7, DV.ev.eq_8, DV.ev.eq_9, DV.ev.eq_10, DV.ev.eq_11, DV.ev.eq_12, DV.ev.eq_13, DV.ev.eq_14, DV.ev.eq_15, DV.ev.eq_16, DV.ev.eq_17, DV.ev.eq_18, DV.evs.eq_1, DV.evs.eq_2, DV.evc.eq_1, DV.evc.eq_2, DV.evn.eq_1, DV.evn.eq_2, DV.parS.eq_1, DV.parS.eq_2, DV.parS.eq_3, DV.datums.eq_1, DV.datums.eq_2, DV.datum.eq_1, DV.datum.eq_2, DV.datum.eq_3, DV.fre.eq_1, DV.fre.eq_2, DV.fre.eq_3, DV.fres.eq_1, DV.fres.eq_2, DV.argSs.eq_1, DV.argSs.eq_2, DV.argS.eq_1, DV.argS.eq_2, DV.argS.eq_3, DV.nodupB.eq_1, DV.nodupB.eq_2, DV.ownIx.eq_1, DV.ownIx.eq_2, DV.ownIx.eq_3, DV.putOuts.eq_1, DV.putOuts.eq_2, DV.putOuts.eq_3, DV.biD.eq_1, DV.biD.eq_2, DV.biD.eq_3, DV.biD.eq_4, DV.biD.eq_5, DV.biD.eq_6, DV.biD.eq_7, DV.biD.eq_8, DV.biD.eq_9, DV.biD.eq_10, DV.biD.eq_11, DV.biD.eq_12, DV.biD.eq_13, DV.biD.eq_14, DV.biD.eq_15, DV.biD.eq_16, DV.biD.eq_17, DV.biD.eq_18, DV.biD.eq_19, DV.isiD.eq_1, DV.isiD.eq_2, DV.isiD.eq_3, DV.isiD.eq_4, DV.isiD.eq_5, DV.isiD.eq_6, DV.isiD.eq_7, DV.shallow.eq_1, DV.shallow.eq_2, DV.shallow.eq_3, DV.testD.eq_1, DV.truthD.eq_1, DV.truthD.eq_2, DV.truthD.eq_3, DV.truthD.eq_4, DV.truthD.eq_5, DV.truthD.eq_6, DV.truthD.eq_7, DV.truthD.eq_8, DV.finish.eq_1, DV.finish.eq_2, DV.finish.eq_3, DV.finish.eq_4, DV.finish.eq_5, DV.outsOf.eq_1, DV.outsOf.eq_2, DV.outsOf.eq_3, DV.ownPs.eq_1, DV.ownPs.eq_2, DV.ownPs.eq_3, DV.disjB.eq_1, DV.isLst.eq_1, DV.appD.eq_1, DV.extD.eq_1, DV.setD.eq_1, DV.asgT.eq_1, DV.asgT.eq_2, DV.asgT.asgTs.eq_1, DV.asgT.asgTs.eq_2, DV.tgIx.eq_1, DV.tgIx.eq_2, DV.tgIx.tgIxs.eq_1, DV.tgIx.tgIxs.eq_2, DV.iterD.eq_1, DV.iterD.eq_2, DV.iterD.eq_3, DV.it_rng, DV.binD.eq_1, DV.binD.eq_2, DV.binD.eq_3, DV.binD.eq_4, DV.binD.eq_5, DV.binD.eq_6, DV.binD.eq_7, DV.binD.eq_8, DV.binD.eq_9, DV.binD.eq_10, DV.cmpD.eq_1, DV.cmpD.eq_2, DV.cmpD.eq_3, DV.cmpD.eq_4, DV.cmpD.eq_5, DV.cmpD.eq_6, DV.cmpD.eq_7, DV.cmpD.eq_8, DV.cmpD.eq_9, DV.cmpD.eq_10, DV.cmpD.eq_11, DV.cmpD.eq_12, DV.isNonD.eq_1, DV.isNonD.eq_2, DV.ixD.eq_1, DV.ixD.eq_2, DV.ixD.eq_3, DV.ixD.eq_4, DV.slcD.eq_1, DV.slcD.eq_2, DV.slcD.eq_3, DV.slO.eq_1, DV.slO.eq_2, DV.plainIx.eq_1, DV.wipeG.eq_1, DV.wipeG.eq_2, DV.restG.eq_1, DV.restG.eq_2, DV.flatD.eq_1, DV.flatD.eq_2, DV.flatD.eq_3, DV.flatD.eq_4, DV.flatD.eq_5, DV.okB.eq_1, DV.okB.eq_2, DV.okB.eq_3, DV.okB.eq_4, DV.okB.eq_5, DV.okB.eq_6, DV.eqd.eq_1, DV.eqd.eq_2, DV.eqd.eq_3, DV.eqd.eq_4, DV.eqd.eq_5, DV.eqd.eq_6, DV.eqd.eq_7, DV.eqd.eq_8, DV.eqds.eq_1, DV.eqds.eq_2, DV.eqds.eq_3, e, i1]

/-! ### is_breaker, check_times, log_of -/
theorem is_integer_int (i : Int) : F_is_integer [some (.int i, false)] = some (.fz (.bl true), [some (.int i, false)]) := rfl
theorem is_between_int (i a b : Int) (h1 : a ≤ i) (h2 : i ≤ b) : F_is_between [some (.int i, false), some (.int a, false), some (.int b, false)] = some (.fz (.bl true), [some (.int i, false), some (.int a, false), some (.int b, false)]) := by
  simp [F_is_between, DV.runF.eq_1, DV.exs.eq_1, DV.exs.eq_2, DV.ex.eq_1, DV.ex.eq_2, DV.ex.eq_3, DV.ex.eq_4, DV.ex.eq_5, DV.ex.eq_6, DV.ex.eq_7, DV.ex.eq_8, DV.ex.eq_9, DV.ex.eq_10, DV.ex.eq_11, DV.ex.eq_12, DV.ex.eq_13, DV.ex.eq_14, DV.ex.eq_15, DV.ex.eq_16, DV.ev.eq_1, DV.ev.eq_2, DV.ev.eq_3, DV.ev.eq_4, DV.ev.eq_5, DV.ev.eq_6, DV.ev.eq_7, DV.ev.eq_8, DV.ev.eq_9, DV.ev.eq_10, DV.ev.eq_11, DV.ev.eq_12, DV.ev.eq_13, DV.ev.eq_14, DV.ev.eq_15, DV.ev.eq_16, DV.ev.eq_17, DV.ev.eq_18, DV.evs.eq_1, DV.evs.eq_2, DV.evc.eq_1, DV.evc.eq_2, DV.evn.eq_1, DV.evn.eq_2, DV.parS.eq_1, DV.parS.eq_2, DV.parS.eq_3, DV.datums.eq_1, DV.datums.eq_2, DV.datum.eq_1, DV.datum.eq_2, DV.datum.eq_3, DV.fre.eq_1, DV.fre.eq_2, DV.fre.eq_3, DV.fres.eq_1, DV.fres.eq_2, DV.argSs.eq_1, DV.argSs.eq_2, DV.argS.eq_1, DV.argS.eq_2, DV.argS.eq_3, DV.nodupB.eq_1, DV.nodupB.eq_2, DV.ownIx.eq_1, DV.ownIx.eq_2, DV.ownIx.eq_3, DV.putOuts.eq_1, DV.putOuts.eq_2, DV.putOuts.eq_3, DV.biD.eq_1, DV.biD.eq_2, DV.biD.eq_3, DV.biD.eq_4, DV.biD.eq_5, DV.biD.eq_6, DV.biD.eq_7, DV.biD.eq_8, DV.biD.eq_9, DV.biD.eq_10, DV.biD.eq_11, DV.biD.eq_12, DV.biD.eq_13, DV.biD.eq_14, DV.biD.eq_15, DV.biD.eq_16, DV.biD.eq_17, DV.biD.eq_18, DV.biD.eq_19, DV.isiD.eq_1, DV.isiD.eq_2, DV.isiD.eq_3, DV.isiD.eq_4, DV.isiD.eq_5, DV.isiD.eq_6, DV.isiD.eq_7, DV.shallow.eq_1, DV.shallow.eq_2, DV.shallow.eq_3, DV.testD.eq_1, DV.truthD.eq_1, DV.truthD.eq_2, DV.truthD.eq_3, DV.truthD.eq_4, DV.truthD.eq_5, DV.truthD.eq_6, DV.truthD.eq_7, DV.truthD.eq_8, DV.finish.eq_1, DV.finish.eq_2, DV.finish.eq_3, DV.finish.eq_4, DV.finish.eq_5, DV.outsOf.eq_1, DV.outsOf.eq_2, DV.outsOf.eq_3, DV.ownPs.eq_1, DV.ownPs.eq_2, DV.ownPs.eq_3, DV.disjB.eq_1, DV.isLst.eq_1, DV.appD.eq_1, DV.extD.eq_1, DV.setD.eq_1, DV.asgT.eq_1, DV.asgT.eq_2, DV.asgT.asgTs.eq_1, DV.asgT.asgTs.eq_2, DV.tgIx.eq_1, DV.tgIx.eq_2, DV.tgIx.tgIxs.eq_1, DV.tgIx.tgIxs.eq_2, DV.iterD.eq_1, DV.iterD.eq_2, DV.iterD.eq_3, DV.it_rng, DV.binD.eq_1, DV.binD.eq_2, DV.binD.eq_3, DV.binD.eq_4, DV.binD.eq_5, DV.binD.eq_6, DV.binD.eq_7, DV.binD.eq_8, DV.binD.eq_9, DV.binD.eq_10, DV.cmpD.eq_1, DV.cmpD.eq_2, DV.cmpD.eq_3, DV.cmpD.eq_4, DV.cmpD.eq_5, DV.cmpD.eq_6, DV.cmpD.eq_7, DV.cmpD.eq_8, DV.cmpD.eq_9, DV.cmpD.eq_10, DV.cmpD.eq_11, DV.cmpD.eq_12, DV.isNonD.eq_1, DV.isNonD.eq_2, DV.ixD.eq_1, DV.ixD.eq_2, DV.ixD.eq_3, DV.ixD.eq_4, DV.slcD.eq_1, DV.slcD.eq_2, DV.slcD.eq_3, DV.slO.eq_1, DV.slO.eq_2, DV.plainIx.eq_1, DV.wipeG.eq_1, DV.wipeG.eq_2, DV.restG.eq_1, DV.restG.eq_2, DV.flatD.eq_1, DV.flatD.eq_2, DV.flatD.eq_3, DV.flatD.eq_4, DV.flatD.eq_5, DV.okB.eq_1, DV.okB.eq_2, DV.okB.eq_3, DV.okB.eq_4, DV.okB.eq_5, DV.okB.eq_6, DV.eqd.eq_1, DV.eqd.eq_2, DV.eqd.eq_3, DV.eqd.eq_4, DV.eqd.eq_5, DV.eqd.eq_6, DV.eqd.eq_7, DV.eqd.eq_8, DV.eqds.eq_1, DV.eqds.eq_2, DV.eqds.eq_3, is_integer_int, h1, h2]
abbrev br (f w s : Int) : D := .tup [.int f, .int w, .int s]
def BrOk (f w s : Int) : Prop := 1 ≤ f ∧ f ≤ 10 ^ 12 ∧ 1 ≤ w ∧ w ≤ 10 ^ 30 ∧ 1 ≤ s ∧ s ≤ 10 ^ 12
theorem is_breaker_ok (f w s : Int) (h : BrOk f w s) : F_is_breaker [some (br f w s, false)] = some (.fz (.bl true), [some (br f w s, false)]) := by
  obtain ⟨h1, h2, h3, h4, h5, h6⟩ := h
  have e1 := is_between_int f 1 1000000000000 h1 (by omega)
  have e2 := is_between_int w 1 1000000000000000000000000000000 h3 (by omega)
  have e3 := is_between_int s 1 1000000000000 h5 (by omega)
  have i0 : ∀ x y z : D, atI [x, y, z] 0 = some x := fun _ _ _ => rfl
  have i1 : ∀ x y z : D, atI [x, y, z] 1 = some y := fun _ _ _ => rfl
  have i2 : ∀ x y z : D, atI [x, y, z] 2 = some z := fun _ _ _ => rfl
  simp [F_is_breaker, DV.runF.eq_1, DV.exs.eq_1, DV.exs.eq_2, DV.ex.eq_1, DV.ex.eq_2, DV.ex.eq_3, DV.ex.eq_4, DV.ex.eq_5, DV.ex.eq_6, DV.ex.eq_7, DV.ex.eq_8, DV.ex.eq_9, DV.ex.eq_10, DV.ex.eq_11, DV.ex.eq_12, DV.ex.eq_13, DV.ex.eq_14, DV.ex.eq_15, DV.ex.eq_16, DV.ev.eq_1, DV.ev.eq_2, DV.ev.eq_3, DV.ev.eq_4, DV.ev.eq_5, DV.ev.eq_6, DV.ev.eq_7, DV.ev.eq_8, DV.ev.eq_9, DV.ev.eq_10, DV.ev.eq_11, DV.ev.eq_12, DV.ev.eq_13, DV.ev.eq_14, DV.ev.eq_15, DV.ev.eq_16, DV.ev.eq_17, DV.ev.eq_18, DV.evs.eq_1, DV.evs.eq_2, DV.evc.eq_1, DV.evc.eq_2, DV.evn.eq_1, DV.evn.eq_2, DV.parS.eq_1, DV.parS.eq_2, DV.parS.eq_3, DV.datums.eq_1, DV.datums.eq_2, DV.datum.eq_1, DV.datum.eq_2, DV.datum.eq_3, DV.fre.eq_1, DV.fre.eq_2, DV.fre.eq_3, DV.fres.eq_1, DV.fres.eq_2, DV.argSs.eq_1, DV.argSs.eq_2, DV.argS.eq_1, DV.argS.eq_2, DV.argS.eq_3, DV.nodupB.eq_1, DV.nodupB.eq_2, DV.ownIx.eq_1, DV.ownIx.eq_2, DV.ownIx.eq_3, DV.putOuts.eq_1, DV.putOuts.eq_2, DV.putOuts.eq_3, DV.biD.eq_1, DV.biD.eq_2, DV.biD.eq_3, DV.biD.eq_4, DV.biD.eq_5, DV.biD.eq_6, DV.biD.eq_7, DV.biD.eq_8, DV.biD.eq_9, DV.biD.eq_10, DV.biD.eq_11, DV.biD.eq_12, DV.biD.eq_13, DV.biD.eq_14, DV.biD.eq_15, DV.biD.eq_16, DV.biD.eq_17, DV.biD.eq_18, DV.biD.eq_19, DV.isiD.eq_1, DV.isiD.eq_2, DV.isiD.eq_3, DV.isiD.eq_4, DV.isiD.eq_5, DV.isiD.eq_6, DV.isiD.eq_7, DV.shallow.eq_1, DV.shallow.eq_2, DV.shallow.eq_3, DV.testD.eq_1, DV.truthD.eq_1, DV.truthD.eq_2, DV.truthD.eq_3, DV.truthD.eq_4, DV.truthD.eq_5, DV.truthD.eq_6, DV.truthD.eq_7, DV.truthD.eq_8, DV.finish.eq_1, DV.finish.eq_2, DV.finish.eq_3, DV.finish.eq_4, DV.finish.eq_5, DV.outsOf.eq_1, DV.outsOf.eq_2, DV.outsOf.eq_3, DV.ownPs.eq_1, DV.ownPs.eq_2, DV.ownPs.eq_3, DV.disjB.eq_1, DV.isLst.eq_1, DV.appD.eq_1, DV.extD.eq_1, DV.setD.eq_1, DV.asgT.eq_1, DV.asgT.eq_2, DV.asgT.asgTs.eq_1, DV.asgT.asgTs.eq_2, DV.tgIx.eq_1, DV.tgIx.eq_2, DV.tgIx.tgIxs.eq_1, DV.tgIx.tgIxs.eq_2, DV.iterD.eq_1, DV.iterD.eq_2, DV.iterD.eq_3, DV.it_rng, DV.binD.eq_1, DV.binD.eq_2, DV.binD.eq_3, DV.binD.eq_4, DV.binD.eq_5, DV.binD.eq_6, DV.binD.eq_7, DV.binD.eq_8, DV.binD.eq_9, DV.binD.eq_10, DV.cmpD.eq_1, DV.cmpD.eq_2, DV.cmpD.eq_3, DV.cmpD.eq_4, DV.cmpD.eq_5, DV.cmpD.eq_6, DV.cmpD.eq_7, DV.cmpD.eq_8, DV.cmpD.eq_9, DV.cmpD.eq_10, DV.cmpD.eq_11, DV.cmpD.eq_12, DV.isNonD.eq_1, DV.isNonD.eq_2, DV.ixD.eq_1, DV.ixD.eq_2, DV.ixD.eq_3, DV.ixD.eq_4, DV.slcD.eq_1, DV.slcD.eq_2, DV.slcD.eq_3, DV.slO.eq_1, DV.slO.eq_2, DV.plainIx.eq_1, DV.wipeG.eq_1, DV.wipeG.eq_2, DV.restG.eq_1, DV.restG.eq_2, DV.flatD.eq_1, DV.flatD.eq_2, DV.flatD.eq_3, DV.flatD.eq_4, DV.flatD.eq_5, DV.okB.eq_1, DV.okB.eq_2, DV.okB.eq_3, DV.okB.eq_4, DV.okB.eq_5, DV.okB.eq_6, DV.eqd.eq_1, DV.eqd.eq_2, DV.eqd.eq_3, DV.eqd.eq_4, DV.eqd.eq_5, DV.eqd.eq_6, DV.eqd.eq_7, DV.eqd.eq_8, DV.eqds.eq_1, DV.eqds.eq_2, DV.eqds.eq_3, i0, i1, i2, e1, e2, e3]
/-- times that rise -/
def Rise (lo : Int) : List Int → Prop
  | [] => True
  | t :: r => lo < t ∧ Rise t r
theorem check_loop (pre : List Int) : ∀ (suf : List Int) (lo : Int) (x1 x2 : Sl), -1 ≤ lo → (∀ x ∈ pre.getLast?, x = lo) → Rise lo suf → ∀ pn, disjB [1, 2] pn = true → ∃ x1' x2', forLoop (.tp [.nm 1, .nm 2]) (exs [F_is_integer] pn B_check_times_1) (enumD pre.length (suf.map D.int)) [some (.lst ((pre ++ suf).map D.int), false), x1, x2] = some (.nx [some (.lst ((pre ++ suf).map D.int), false), x1', x2'])
  | [], lo, x1, x2, _, _, _, pn, _ => ⟨x1, x2, by simp [enumD, forLoop]⟩
  | t :: suf, lo, x1, x2, hlo, hl, ⟨r1, r2⟩, pn, dj => by
    have t0 : ¬ t < 0 := by omega
    have hb : exs [F_is_integer] pn B_check_times_1 [some (.lst ((pre ++ t :: suf).map D.int), false), some (.int (pre.length : Nat), false), some (.int t, false)] = some (.nx [some (.lst ((pre ++ t :: suf).map D.int), false), some (.int (pre.length : Nat), false), some (.int t, false)]) := by
      by_cases hp : pre = []
      · subst hp
        simp [B_check_times_1, DV.runF.eq_1, DV.exs.eq_1, DV.exs.eq_2, DV.ex.eq_1, DV.ex.eq_2, DV.ex.eq_3, DV.ex.eq_4, DV.ex.eq_5, DV.ex.eq_6, DV.ex.eq_7, DV.ex.eq_8, DV.ex.eq_9, DV.ex.eq_10, DV.ex.eq_11, DV.ex.eq_12, DV.ex.eq_13, DV.ex.eq_14, DV.ex.eq_15, DV.ex.eq_16, DV.ev.eq_1, DV.ev.eq_2, DV.ev.eq_3, DV.ev.eq_4, DV.ev.eq_5, DV.ev.eq_6, DV.ev.eq_7, DV.ev.eq_8, DV.ev.eq_9, DV.ev.eq_10, DV.ev.eq_11, DV.ev.eq_12, DV.ev.eq_13, DV.ev.eq_14, DV.ev.eq_15, DV.ev.eq_16, DV.ev.eq_17, DV.ev.eq_18, DV.evs.eq_1, DV.evs.eq_2, DV.evc.eq_1, DV.evc.eq_2, DV.evn.eq_1, DV.evn.eq_2, DV.parS.eq_1, DV.parS.eq_2, DV.parS.eq_3, DV.datums.eq_1, DV.datums.eq_2, DV.datum.eq_1, DV.datum.eq_2, DV.datum.eq_3, DV.fre.eq_1, DV.fre.eq_2, DV.fre.eq_3, DV.fres.eq_1, DV.fres.eq_2, DV.argSs.eq_1, DV.argSs.eq_2, DV.argS.eq_1, DV.argS.eq_2, DV.argS.eq_3, DV.nodupB.eq_1, DV.nodupB.eq_2, DV.ownIx.eq_1, DV.ownIx.eq_2, DV.ownIx.eq_3, DV.putOuts.eq_1, DV.putOuts.eq_2, DV.putOuts.eq_3, DV.biD.eq_1, DV.biD.eq_2, DV.biD.eq_3, DV.biD.eq_4, DV.biD.eq_5, DV.biD.eq_6, DV.biD.eq_7, DV.biD.eq_8, DV.biD.eq_9, DV.biD.eq_10, DV.biD.eq_11, DV.biD.eq_12, DV.biD.eq_13, DV.biD.eq_14, DV.biD.eq_15, DV.biD.eq_16, DV.biD.eq_17, DV.biD.eq_18, DV.biD.eq_19, DV.isiD.eq_1, DV.isiD.eq_2, DV.isiD.eq_3, DV.isiD.eq_4, DV.isiD.eq_5, DV.isiD.eq_6, DV.isiD.eq_7, DV.shallow.eq_1, DV.shallow.eq_2, DV.shallow.eq_3, DV.testD.eq_1, DV.truthD.eq_1, DV.truthD.eq_2, DV.truthD.eq_3, DV.truthD.eq_4, DV.truthD.eq_5, DV.truthD.eq_6, DV.truthD.eq_7, DV.truthD.eq_8, DV.finish.eq_1, DV.finish.eq_2, DV.finish.eq_3, DV.finish.eq_4, DV.finish.eq_5, DV.outsOf.eq_1, DV.outsOf.eq_2, DV.outsOf.eq_3, DV.ownPs.eq_1, DV.ownPs.eq_2, DV.ownPs.eq_3, DV.disjB.eq_1, DV.isLst.eq_1, DV.appD.eq_1, DV.extD.eq_1, DV.setD.eq_1, DV.asgT.eq_1, DV.asgT.eq_2, DV.asgT.asgTs.eq_1, DV.asgT.asgTs.eq_2, DV.tgIx.eq_1, DV.tgIx.eq_2, DV.tgIx.tgIxs.eq_1, DV.tgIx.tgIxs.eq_2, DV.iterD.eq_1, DV.iterD.eq_2, DV.iterD.eq_3, DV.it_rng, DV.binD.eq_1, DV.binD.eq_2, DV.binD.eq_3, DV.binD.eq_4, DV.binD.eq_5, DV.binD.eq_6, DV.binD.eq_7, DV.binD.eq_8, DV.binD.eq_9, DV.binD.eq_10, DV.cmpD.eq_1, DV.cmpD.eq_2, DV.cmpD.eq_3, DV.cmpD.eq_4, DV.cmpD.eq_5, DV.cmpD.eq_6, DV.cmpD.eq_7, DV.cmpD.eq_8, DV.cmpD.eq_9, DV.cmpD.eq_10, DV.cmpD.eq_11, DV.cmpD.eq_12, DV.isNonD.eq_1, DV.isNonD.eq_2, DV.ixD.eq_1, DV.ixD.eq_2, DV.ixD.eq_3, DV.ixD.eq_4, DV.slcD.eq_1, DV.slcD.eq_2, DV.slcD.eq_3, DV.slO.eq_1, DV.slO.eq_2, DV.plainIx.eq_1, DV.wipeG.eq_1, DV.wipeG.eq_2, DV.restG.eq_1, DV.restG.eq_2, DV.flatD.eq_1, DV.flatD.eq_2, DV.flatD.eq_3, DV.flatD.eq_4, DV.flatD.eq_5, DV.okB.eq_1, DV.okB.eq_2, DV.okB.eq_3, DV.okB.eq_4, DV.okB.eq_5, DV.okB.eq_6, DV.eqd.eq_1, DV.eqd.eq_2, DV.eqd.eq_3, DV.eqd.eq_4, DV.eqd.eq_5, DV.eqd.eq_6, DV.eqd.eq_7, DV.eqd.eq_8, DV.eqds.eq_1, DV.eqds.eq_2, DV.eqds.eq_3, is_integer_int, t0]
      · have hn : 0 < pre.length := List.length_pos_iff.mpr hp
        have hg : pre.getLast? = some lo := by
          obtain ⟨y, hy⟩ : ∃ y, pre.getLast? = some y := by
            cases e : pre.getLast? with
            | none => exact absurd (List.getLast?_eq_none_iff.mp e) hp
            | some y => exact ⟨y, rfl⟩
          rw [hy]; rw [hl y hy]
        have ha : atI ((pre ++ t :: suf).map D.int) ((pre.length : Int) - 1) = some (.int lo) := by
          have e : ((pre.length : Int) - 1) = ((pre.length - 1 : Nat) : Int) := by omega
          rw [e]
          refine atI_nat ?_
          rw [List.getElem?_map, List.getElem?_append_left (by omega), ← List.getLast?_eq_getElem?, hg]
          rfl
        have ht : ¬ t ≤ lo := by omega
        have hn' : (0 : Int) < (pre.length : Int) := by omega
        simp only [B_check_times_1]
        simp [-List.map_append, DV.runF.eq_1, DV.exs.eq_1, DV.exs.eq_2, DV.ex.eq_1, DV.ex.eq_2, DV.ex.eq_3, DV.ex.eq_4, DV.ex.eq_5, DV.ex.eq_6, DV.ex.eq_7, DV.ex.eq_8, DV.ex.eq_9, DV.ex.eq_10, DV.ex.eq_11, DV.ex.eq_12, DV.ex.eq_13, DV.ex.eq_14, DV.ex.eq_15, DV.ex.eq_16, DV.ev.eq_1, DV.ev.eq_2, DV.ev.eq_3, DV.ev.eq_4, DV.ev.eq_5, DV.ev.eq_6, DV.ev.eq_7, DV.ev.eq_8, DV.ev.eq_9, DV.ev.eq_10, DV.ev.eq_11, DV.ev.eq_12, DV.ev.eq_13, DV.ev.eq_14, DV.ev.eq_15, DV.ev.eq_16, DV.ev.eq_17, DV.ev.eq_18, DV.evs.eq_1, DV.evs.eq_2, DV.evc.eq_1, DV.evc.eq_2, DV.evn.eq_1, DV.evn.eq_2, DV.parS.eq_1, DV.parS.eq_2, DV.parS.eq_3, DV.datums.eq_1, DV.datums.eq_2, DV.datum.eq_1, DV.datum.eq_2, DV.datum.eq_3, DV.fre.eq_1, DV.fre.eq_2, DV.fre.eq_3, DV.fres.eq_1, DV.fres.eq_2, DV.argSs.eq_1, DV.argSs.eq_2, DV.argS.eq_1, DV.argS.eq_2, DV.argS.eq_3, DV.nodupB.eq_1, DV.nodupB.eq_2, DV.ownIx.eq_1, DV.ownIx.eq_2, DV.ownIx.eq_3, DV.putOuts.eq_1, DV.putOuts.eq_2, DV.putOuts.eq_3, DV.biD.eq_1, DV.biD.eq_2, DV.biD.eq_3, DV.biD.eq_4, DV.biD.eq_5, DV.biD.eq_6, DV.biD.eq_7, DV.biD.eq_8, DV.biD.eq_9, DV.biD.eq_10, DV.biD.eq_11, DV.biD.eq_12, DV.biD.eq_13, DV.biD.eq_14, DV.biD.eq_15, DV.biD.eq_16, DV.biD.eq_17, DV.biD.eq_18, DV.biD.eq_19, DV.isiD.eq_1, DV.isiD.eq_2, DV.isiD.eq_3, DV.isiD.eq_4, DV.isiD.eq_5, DV.isiD.eq_6, DV.isiD.eq_7, DV.shallow.eq_1, DV.shallow.eq_2, DV.shallow.eq_3, DV.testD.eq_1, DV.truthD.eq_1, DV.truthD.eq_2, DV.truthD.eq_3, DV.truthD.eq_4, DV.truthD.eq_5, DV.truthD.eq_6, DV.truthD.eq_7, DV.truthD.eq_8, DV.finish.eq_1, DV.finish.eq_2, DV.finish.eq_3, DV.finish.eq_4, DV.finish.eq_5, DV.outsOf.eq_1, DV.outsOf.eq_2, DV.outsOf.eq_3, DV.ownPs.eq_1, DV.ownPs.eq_2, DV.ownPs.eq_3, DV.disjB.eq_1, DV.isLst.eq_1, DV.appD.eq_1, DV.extD.eq_1, DV.setD.eq_1, DV.asgT.eq_1, DV.asgT.eq_2, DV.asgT.asgTs.eq_1, DV.asgT.asgTs.eq_2, DV.tgIx.eq_1, DV.tgIx.eq_2, DV.tgIx.tgIxs.eq_1, DV.tgIx.tgIxs.eq_2, DV.iterD.eq_1, DV.iterD.eq_2, DV.iterD.eq_3, DV.it_rng, DV.binD.eq_1, DV.binD.eq_2, DV.binD.eq_3, DV.binD.eq_4, DV.binD.eq_5, DV.binD.eq_6, DV.binD.eq_7, DV.binD.eq_8, DV.binD.eq_9, DV.binD.eq_10, DV.cmpD.eq_1, DV.cmpD.eq_2, DV.cmpD.eq_3, DV.cmpD.eq_4, DV.cmpD.eq_5, DV.cmpD.eq_6, DV.cmpD.eq_7, DV.cmpD.eq_8, DV.cmpD.eq_9, DV.cmpD.eq_10, DV.cmpD.eq_11, DV.cmpD.eq_12, DV.isNonD.eq_1, DV.isNonD.eq_2, DV.ixD.eq_1, DV.ixD.eq_2, DV.ixD.eq_3, DV.ixD.eq_4, DV.slcD.eq_1, DV.slcD.eq_2, DV.slcD.eq_3, DV.slO.eq_1, DV.slO.eq_2, DV.plainIx.eq_1, DV.wipeG.eq_1, DV.wipeG.eq_2, DV.restG.eq_1, DV.restG.eq_2, DV.flatD.eq_1, DV.flatD.eq_2, DV.flatD.eq_3, DV.flatD.eq_4, DV.flatD.eq_5, DV.okB.eq_1, DV.okB.eq_2, DV.okB.eq_3, DV.okB.eq_4, DV.okB.eq_5, DV.okB.eq_6, DV.eqd.eq_1, DV.eqd.eq_2, DV.eqd.eq_3, DV.eqd.eq_4, DV.eqd.eq_5, DV.eqd.eq_6, DV.eqd.eq_7, DV.eqd.eq_8, DV.eqds.eq_1, DV.eqds.eq_2, DV.eqds.eq_3, is_integer_int, t0, ha, ht, hn', hn]
    have ih := check_loop (pre ++ [t]) suf t (some (.int (pre.length : Nat), false)) (some (.int t, false)) (by omega) (by simp) r2 pn dj
    obtain ⟨y1, y2, ih⟩ := ih
    refine ⟨y1, y2, ?_⟩
    have e1 : enumD pre.length ((t :: suf).map D.int) = .tup [.int (pre.length : Nat), .int t] :: enumD (pre.length + 1) (suf.map D.int) := by simp [enumD]
    rw [e1]
    refine (forLoop_step (Γ1 := [some (.lst ((pre ++ t :: suf).map D.int), false), some (.int (pre.length : Nat), false), some (.int t, false)]) (by simp [DV.runF.eq_1, DV.exs.eq_1, DV.exs.eq_2, DV.ex.eq_1, DV.ex.eq_2, DV.ex.eq_3, DV.ex.eq_4, DV.ex.eq_5, DV.ex.eq_6, DV.ex.eq_7, DV.ex.eq_8, DV.ex.eq_9, DV.ex.eq_10, DV.ex.eq_11, DV.ex.eq_12, DV.ex.eq_13, DV.ex.eq_14, DV.ex.eq_15, DV.ex.eq_16, DV.ev.eq_1, DV.ev.eq_2, DV.ev.eq_3, DV.ev.eq_4, DV.ev.eq_5, DV.ev.eq_6, DV.ev.eq_7, DV.ev.eq_8, DV.ev.eq_9, DV.ev.eq_10, DV.ev.eq_11, DV.ev.eq_12, DV.ev.eq_13, DV.ev.eq_14, DV.ev.eq_15, DV.ev.eq_16, DV.ev.eq_17, DV.ev.eq_18, DV.evs.eq_1, DV.evs.eq_2, DV.evc.eq_1, DV.evc.eq_2, DV.evn.eq_1, DV.evn.eq_2, DV.parS.eq_1, DV.parS.eq_2, DV.parS.eq_3, DV.datums.eq_1, DV.datums.eq_2, DV.datum.eq_1, DV.datum.eq_2, DV.datum.eq_3, DV.fre.eq_1, DV.fre.eq_2, DV.fre.eq_3, DV.fres.eq_1, DV.fres.eq_2, DV.argSs.eq_1, DV.argSs.eq_2, DV.argS.eq_1, DV.argS.eq_2, DV.argS.eq_3, DV.nodupB.eq_1, DV.nodupB.eq_2, DV.ownIx.eq_1, DV.ownIx.eq_2, DV.ownIx.eq_3, DV.putOuts.eq_1, DV.putOuts.eq_2, DV.putOuts.eq_3, DV.biD.eq_1, DV.biD.eq_2, DV.biD.eq_3, DV.biD.eq_4, DV.biD.eq_5, DV.biD.eq_6, DV.biD.eq_7, DV.biD.eq_8, DV.biD.eq_9, DV.biD.eq_10, DV.biD.eq_11, DV.biD.eq_12, DV.biD.eq_13, DV.biD.eq_14, DV.biD.eq_15, DV.biD.eq_16, DV.biD.eq_17, DV.biD.eq_18, DV.biD.eq_19, DV.isiD.eq_1, DV.isiD.eq_2, DV.isiD.eq_3, DV.isiD.eq_4, DV.isiD.eq_5, DV.isiD.eq_6, DV.isiD.eq_7, DV.shallow.eq_1, DV.shallow.eq_2, DV.shallow.eq_3, DV.testD.eq_1, DV.truthD.eq_1, DV.truthD.eq_2, DV.truthD.eq_3, DV.truthD.eq_4, DV.truthD.eq_5, DV.truthD.eq_6, DV.truthD.eq_7, DV.truthD.eq_8, DV.finish.eq_1, DV.finish.eq_2, DV.finish.eq_3, DV.finish.eq_4, DV.finish.eq_5, DV.outsOf.eq_1, DV.outsOf.eq_2, DV.outsOf.eq_3, DV.ownPs.eq_1, DV.ownPs.eq_2, DV.ownPs.eq_3, DV.disjB.eq_1, DV.isLst.eq_1, DV.appD.eq_1, DV.extD.eq_1, DV.setD.eq_1, DV.asgT.eq_1, DV.asgT.eq_2, DV.asgT.asgTs.eq_1, DV.asgT.asgTs.eq_2, DV.tgIx.eq_1, DV.tgIx.eq_2, DV.tgIx.tgIxs.eq_1, DV.tgIx.tgIxs.eq_2, DV.iterD.eq_1, DV.iterD.eq_2, DV.iterD.eq_3, DV.it_rng, DV.binD.eq_1, DV.binD.eq_2, DV.binD.eq_3, DV.binD.eq_4, DV.binD.eq_5, DV.binD.eq_6, DV.binD.eq_7, DV.binD.eq_8, DV.binD.eq_9, DV.binD.eq_10, DV.cmpD.eq_1, DV.cmpD.eq_2, DV.cmpD.eq_3, DV.cmpD.eq_4, DV.cmpD.eq_5, DV.cmpD.eq_6, DV.cmpD.eq_7, DV.cmpD.eq_8, DV.cmpD.eq_9, DV.cmpD.eq_10, DV.cmpD.eq_11, DV.cmpD.eq_12, DV.isNonD.eq_1, DV.isNonD.eq_2, DV.ixD.eq_1, DV.ixD.eq_2, DV.ixD.eq_3, DV.ixD.eq_4, DV.slcD.eq_1, DV.slcD.eq_2, DV.slcD.eq_3, DV.slO.eq_1, DV.slO.eq_2, DV.plainIx.eq_1, DV.wipeG.eq_1, DV.wipeG.eq_2, DV.restG.eq_1, DV.restG.eq_2, DV.flatD.eq_1, DV.flatD.eq_2, DV.flatD.eq_3, DV.flatD.eq_4, DV.flatD.eq_5, DV.okB.eq_1, DV.okB.eq_2, DV.okB.eq_3, DV.okB.eq_4, DV.okB.eq_5, DV.okB.eq_6, DV.eqd.eq_1, DV.eqd.eq_2, DV.eqd.eq_3, DV.eqd.eq_4, DV.eqd.eq_5, DV.eqd.eq_6, DV.eqd.eq_7, DV.eqd.eq_8, DV.eqds.eq_1, DV.eqds.eq_2, DV.eqds.eq_3]) hb).trans ?_
    simpa using ih
theorem check_times_ok (ts : List Int) (fl : Bool) (hr : Rise (-1) ts) (hz : ts.length ≤ 1000) : F_check_times [some (.lst (ts.map D.int), fl)] = some (.fz .non, [some (.lst (ts.map D.int), false)]) := by
  have hz' : ¬ (1000 < (ts.length : Int)) := by omega
  have s1 : ∀ pn, ex [F_is_integer] pn (.ite (.or (.not (.bi (.isi .list) [.var 0])) (.cmp .gt (.bi .len [.var 0]) (.cst (.int 1000)))) [.stuck] []) [some (.lst (ts.map D.int), fl), none, none] = some (.nx [some (.lst (ts.map D.int), fl), none, none]) := fun pn => by
    simp [DV.runF.eq_1, DV.exs.eq_1, DV.exs.eq_2, DV.ex.eq_1, DV.ex.eq_2, DV.ex.eq_3, DV.ex.eq_4, DV.ex.eq_5, DV.ex.eq_6, DV.ex.eq_7, DV.ex.eq_8, DV.ex.eq_9, DV.ex.eq_10, DV.ex.eq_11, DV.ex.eq_12, DV.ex.eq_13, DV.ex.eq_14, DV.ex.eq_15, DV.ex.eq_16, DV.ev.eq_1, DV.ev.eq_2, DV.ev.eq_3, DV.ev.eq_4, DV.ev.eq_5, DV.ev.eq_6, DV.ev.eq_7, DV.ev.eq_8, DV.ev.eq_9, DV.ev.eq_10, DV.ev.eq_11, DV.ev.eq_12, DV.ev.eq_13, DV.ev.eq_14, DV.ev.eq_15, DV.ev.eq_16, DV.ev.eq_17, DV.ev.eq_18, DV.evs.eq_1, DV.evs.eq_2, DV.evc.eq_1, DV.evc.eq_2, DV.evn.eq_1, DV.evn.eq_2, DV.parS.eq_1, DV.parS.eq_2, DV.parS.eq_3, DV.datums.eq_1, DV.datums.eq_2, DV.datum.eq_1, DV.datum.eq_2, DV.datum.eq_3, DV.fre.eq_1, DV.fre.eq_2, DV.fre.eq_3, DV.fres.eq_1, DV.fres.eq_2, DV.argSs.eq_1, DV.argSs.eq_2, DV.argS.eq_1, DV.argS.eq_2, DV.argS.eq_3, DV.nodupB.eq_1, DV.nodupB.eq_2, DV.ownIx.eq_1, DV.ownIx.eq_2, DV.ownIx.eq_3, DV.putOuts.eq_1, DV.putOuts.eq_2, DV.putOuts.eq_3, DV.biD.eq_1, DV.biD.eq_2, DV.biD.eq_3, DV.biD.eq_4, DV.biD.eq_5, DV.biD.eq_6, DV.biD.eq_7, DV.biD.eq_8, DV.biD.eq_9, DV.biD.eq_10, DV.biD.eq_11, DV.biD.eq_12, DV.biD.eq_13, DV.biD.eq_14, DV.biD.eq_15, DV.biD.eq_16, DV.biD.eq_17, DV.biD.eq_18, DV.biD.eq_19, DV.isiD.eq_1, DV.isiD.eq_2, DV.isiD.eq_3, DV.isiD.eq_4, DV.isiD.eq_5, DV.isiD.eq_6, DV.isiD.eq_7, DV.shallow.eq_1, DV.shallow.eq_2, DV.shallow.eq_3, DV.testD.eq_1, DV.truthD.eq_1, DV.truthD.eq_2, DV.truthD.eq_3, DV.truthD.eq_4, DV.truthD.eq_5, DV.truthD.eq_6, DV.truthD.eq_7, DV.truthD.eq_8, DV.finish.eq_1, DV.finish.eq_2, DV.finish.eq_3, DV.finish.eq_4, DV.finish.eq_5, DV.outsOf.eq_1, DV.outsOf.eq_2, DV.outsOf.eq_3, DV.ownPs.eq_1, DV.ownPs.eq_2, DV.ownPs.eq_3, DV.disjB.eq_1, DV.isLst.eq_1, DV.appD.eq_1, DV.extD.eq_1, DV.setD.eq_1, DV.asgT.eq_1, DV.asgT.eq_2, DV.asgT.asgTs.eq_1, DV.asgT.asgTs.eq_2, DV.tgIx.eq_1, DV.tgIx.eq_2, DV.tgIx.tgIxs.eq_1, DV.tgIx.tgIxs.eq_2, DV.iterD.eq_1, DV.iterD.eq_2, DV.iterD.eq_3, DV.it_rng, DV.binD.eq_1, DV.binD.eq_2, DV.binD.eq_3, DV.binD.eq_4, DV.binD.eq_5, DV.binD.eq_6, DV.binD.eq_7, DV.binD.eq_8, DV.binD.eq_9, DV.binD.eq_10, DV.cmpD.eq_1, DV.cmpD.eq_2, DV.cmpD.eq_3, DV.cmpD.eq_4, DV.cmpD.eq_5, DV.cmpD.eq_6, DV.cmpD.eq_7, DV.cmpD.eq_8, DV.cmpD.eq_9, DV.cmpD.eq_10, DV.cmpD.eq_11, DV.cmpD.eq_12, DV.isNonD.eq_1, DV.isNonD.eq_2, DV.ixD.eq_1, DV.ixD.eq_2, DV.ixD.eq_3, DV.ixD.eq_4, DV.slcD.eq_1, DV.slcD.eq_2, DV.slcD.eq_3, DV.slO.eq_1, DV.slO.eq_2, DV.plainIx.eq_1, DV.wipeG.eq_1, DV.wipeG.eq_2, DV.restG.eq_1, DV.restG.eq_2, DV.flatD.eq_1, DV.flatD.eq_2, DV.flatD.eq_3, DV.flatD.eq_4, DV.flatD.eq_5, DV.okB.eq_1, DV.okB.eq_2, DV.okB.eq_3, DV.okB.eq_4, DV.okB.eq_5, DV.okB.eq_6, DV.eqd.eq_1, DV.eqd.eq_2, DV.eqd.eq_3, DV.eqd.eq_4, DV.eqd.eq_5, DV.eqd.eq_6, DV.eqd.eq_7, DV.eqd.eq_8, DV.eqds.eq_1, DV.eqds.eq_2, DV.eqds.eq_3, hz']
  cases fl with
  | true =>
    obtain ⟨y1, y2, e⟩ := check_loop [] ts (-1) none none (by decide) (by simp) hr [0] rfl
    refine runF_by (o := .nx [some (.lst (ts.map D.int), false), y1, y2]) rfl (?_ : exs _ [0] _ [some (.lst (ts.map D.int), true), none, none] = _) rfl
    refine (exs_nx (s1 _)).trans ?_
    refine (exs_nx (ex_for (by simp [DV.runF.eq_1, DV.exs.eq_1, DV.exs.eq_2, DV.ex.eq_1, DV.ex.eq_2, DV.ex.eq_3, DV.ex.eq_4, DV.ex.eq_5, DV.ex.eq_6, DV.ex.eq_7, DV.ex.eq_8, DV.ex.eq_9, DV.ex.eq_10, DV.ex.eq_11, DV.ex.eq_12, DV.ex.eq_13, DV.ex.eq_14, DV.ex.eq_15, DV.ex.eq_16, DV.ev.eq_1, DV.ev.eq_2, DV.ev.eq_3, DV.ev.eq_4, DV.ev.eq_5, DV.ev.eq_6, DV.ev.eq_7, DV.ev.eq_8, DV.ev.eq_9, DV.ev.eq_10, DV.ev.eq_11, DV.ev.eq_12, DV.ev.eq_13, DV.ev.eq_14, DV.ev.eq_15, DV.ev.eq_16, DV.ev.eq_17, DV.ev.eq_18, DV.evs.eq_1, DV.evs.eq_2, DV.evc.eq_1, DV.evc.eq_2, DV.evn.eq_1, DV.evn.eq_2, DV.parS.eq_1, DV.parS.eq_2, DV.parS.eq_3, DV.datums.eq_1, DV.datums.eq_2, DV.datum.eq_1, DV.datum.eq_2, DV.datum.eq_3, DV.fre.eq_1, DV.fre.eq_2, DV.fre.eq_3, DV.fres.eq_1, DV.fres.eq_2, DV.argSs.eq_1, DV.argSs.eq_2, DV.argS.eq_1, DV.argS.eq_2, DV.argS.eq_3, DV.nodupB.eq_1, DV.nodupB.eq_2, DV.ownIx.eq_1, DV.ownIx.eq_2, DV.ownIx.eq_3, DV.putOuts.eq_1, DV.putOuts.eq_2, DV.putOuts.eq_3, DV.biD.eq_1, DV.biD.eq_2, DV.biD.eq_3, DV.biD.eq_4, DV.biD.eq_5, DV.biD.eq_6, DV.biD.eq_7, DV.biD.eq_8, DV.biD.eq_9, DV.biD.eq_10, DV.biD.eq_11, DV.biD.eq_12, DV.biD.eq_13, DV.biD.eq_14, DV.biD.eq_15, DV.biD.eq_16, DV.biD.eq_17, DV.biD.eq_18, DV.biD.eq_19, DV.isiD.eq_1, DV.isiD.eq_2, DV.isiD.eq_3, DV.isiD.eq_4, DV.isiD.eq_5, DV.isiD.eq_6, DV.isiD.eq_7, DV.shallow.eq_1, DV.shallow.eq_2, DV.shallow.eq_3, DV.testD.eq_1, DV.truthD.eq_1, DV.truthD.eq_2, DV.truthD.eq_3, DV.truthD.eq_4, DV.truthD.eq_5, DV.truthD.eq_6, DV.truthD.eq_7, DV.truthD.eq_8, DV.finish.eq_1, DV.finish.eq_2, DV.finish.eq_3, DV.finish.eq_4, DV.finish.eq_5, DV.outsOf.eq_1, DV.outsOf.eq_2, DV.outsOf.eq_3, DV.ownPs.eq_1, DV.ownPs.eq_2, DV.ownPs.eq_3, DV.disjB.eq_1, DV.isLst.eq_1, DV.appD.eq_1, DV.extD.eq_1, DV.setD.eq_1, DV.asgT.eq_1, DV.asgT.eq_2, DV.asgT.asgTs.eq_1, DV.asgT.asgTs.eq_2, DV.tgIx.eq_1, DV.tgIx.eq_2, DV.tgIx.tgIxs.eq_1, DV.tgIx.tgIxs.eq_2, DV.iterD.eq_1, DV.iterD.eq_2, DV.iterD.eq_3, DV.it_rng, DV.binD.eq_1, DV.binD.eq_2, DV.binD.eq_3, DV.binD.eq_4, DV.binD.eq_5, DV.binD.eq_6, DV.binD.eq_7, DV.binD.eq_8, DV.binD.eq_9, DV.binD.eq_10, DV.cmpD.eq_1, DV.cmpD.eq_2, DV.cmpD.eq_3, DV.cmpD.eq_4, DV.cmpD.eq_5, DV.cmpD.eq_6, DV.cmpD.eq_7, DV.cmpD.eq_8, DV.cmpD.eq_9, DV.cmpD.eq_10, DV.cmpD.eq_11, DV.cmpD.eq_12, DV.isNonD.eq_1, DV.isNonD.eq_2, DV.ixD.eq_1, DV.ixD.eq_2, DV.ixD.eq_3, DV.ixD.eq_4, DV.slcD.eq_1, DV.slcD.eq_2, DV.slcD.eq_3, DV.slO.eq_1, DV.slO.eq_2, DV.plainIx.eq_1, DV.wipeG.eq_1, DV.wipeG.eq_2, DV.restG.eq_1, DV.restG.eq_2, DV.flatD.eq_1, DV.flatD.eq_2, DV.flatD.eq_3, DV.flatD.eq_4, DV.flatD.eq_5, DV.okB.eq_1, DV.okB.eq_2, DV.okB.eq_3, DV.okB.eq_4, DV.okB.eq_5, DV.okB.eq_6, DV.eqd.eq_1, DV.eqd.eq_2, DV.eqd.eq_3, DV.eqd.eq_4, DV.eqd.eq_5, DV.eqd.eq_6, DV.eqd.eq_7, DV.eqd.eq_8, DV.eqds.eq_1, DV.eqds.eq_2, DV.eqds.eq_3]) rfl e)).trans (by simp [DV.runF.eq_1, DV.exs.eq_1, DV.exs.eq_2, DV.ex.eq_1, DV.ex.eq_2, DV.ex.eq_3, DV.ex.eq_4, DV.ex.eq_5, DV.ex.eq_6, DV.ex.eq_7, DV.ex.eq_8, DV.ex.eq_9, DV.ex.eq_10, DV.ex.eq_11, DV.ex.eq_12, DV.ex.eq_13, DV.ex.eq_14, DV.ex.eq_15, DV.ex.eq_16, DV.ev.eq_1, DV.ev.eq_2, DV.ev.eq_3, DV.ev.eq_4, DV.ev.eq_5, DV.ev.eq_6, DV.ev.eq_7, DV.ev.eq_8, DV.ev.eq_9, DV.ev.eq_10, DV.ev.eq_11, DV.ev.eq_12, DV.ev.eq_13, DV.ev.eq_14, DV.ev.eq_15, DV.ev.eq_16, DV.ev.eq_17, DV.ev.eq_18, DV.evs.eq_1, DV.evs.eq_2, DV.evc.eq_1, DV.evc.eq_2, DV.evn.eq_1, DV.evn.eq_2, DV.parS.eq_1, DV.parS.eq_2, DV.parS.eq_3, DV.datums.eq_1, DV.datums.eq_2, DV.datum.eq_1, DV.datum.eq_2, DV.datum.eq_3, DV.fre.eq_1, DV.fre.eq_2, DV.fre.eq_3, DV.fres.eq_1, DV.fres.eq_2, DV.argSs.eq_1, DV.argSs.eq_2, DV.argS.eq_1, DV.argS.eq_2, DV.argS.eq_3, DV.nodupB.eq_1, DV.nodupB.eq_2, DV.ownIx.eq_1, DV.ownIx.eq_2, DV.ownIx.eq_3, DV.putOuts.eq_1, DV.putOuts.eq_2, DV.putOuts.eq_3, DV.biD.eq_1, DV.biD.eq_2, DV.biD.eq_3, DV.biD.eq_4, DV.biD.eq_5, DV.biD.eq_6, DV.biD.eq_7, DV.biD.eq_8, DV.biD.eq_9, DV.biD.eq_10, DV.biD.eq_11, DV.biD.eq_12, DV.biD.eq_13, DV.biD.eq_14, DV.biD.eq_15, DV.biD.eq_16, DV.biD.eq_17, DV.biD.eq_18, DV.biD.eq_19, DV.isiD.eq_1, DV.isiD.eq_2, DV.isiD.eq_3, DV.isiD.eq_4, DV.isiD.eq_5, DV.isiD.eq_6, DV.isiD.eq_7, DV.shallow.eq_1, DV.shallow.eq_2, DV.shallow.eq_3, DV.testD.eq_1, DV.truthD.eq_1, DV.truthD.eq_2, DV.truthD.eq_3, DV.truthD.eq_4, DV.truthD.eq_5, DV.truthD.eq_6, DV.truthD.eq_7, DV.truthD.eq_8, DV.finish.eq_1, DV.finish.eq_2, DV.finish.eq_3, DV.finish.eq_4, DV.finish.eq_5, DV.outsOf.eq_1, DV.outsOf.eq_2, DV.outsOf.eq_3, DV.ownPs.eq_1, DV.ownPs.eq_2, DV.ownPs.eq_3, DV.disjB.eq_1, DV.isLst.eq_1, DV.appD.eq_1, DV.extD.eq_1, DV.setD.eq_1, DV.asgT.eq_1, DV.asgT.eq_2, DV.asgT.asgTs.eq_1, DV.asgT.asgTs.eq_2, DV.tgIx.eq_1, DV.tgIx.eq_2, DV.tgIx.tgIxs.eq_1, DV.tgIx.tgIxs.eq_2, DV.iterD.eq_1, DV.iterD.eq_2, DV.iterD.eq_3, DV.it_rng, DV.binD.eq_1, DV.binD.eq_2, DV.binD.eq_3, DV.binD.eq_4, DV.binD.eq_5, DV.binD.eq_6, DV.binD.eq_7, DV.binD.eq_8, DV.binD.eq_9, DV.binD.eq_10, DV.cmpD.eq_1, DV.cmpD.eq_2, DV.cmpD.eq_3, DV.cmpD.eq_4, DV.cmpD.eq_5, DV.cmpD.eq_6, DV.cmpD.eq_7, DV.cmpD.eq_8, DV.cmpD.eq_9, DV.cmpD.eq_10, DV.cmpD.eq_11, DV.cmpD.eq_12, DV.isNonD.eq_1, DV.isNonD.eq_2, DV.ixD.eq_1, DV.ixD.eq_2, DV.ixD.eq_3, DV.ixD.eq_4, DV.slcD.eq_1, DV.slcD.eq_2, DV.slcD.eq_3, DV.slO.eq_1, DV.slO.eq_2, DV.plainIx.eq_1, DV.wipeG.eq_1, DV.wipeG.eq_2, DV.restG.eq_1, DV.restG.eq_2, DV.flatD.eq_1, DV.flatD.eq_2, DV.flatD.eq_3, DV.flatD.eq_4, DV.flatD.eq_5, DV.okB.eq_1, DV.okB.eq_2, DV.okB.eq_3, DV.okB.eq_4, DV.okB.eq_5, DV.okB.eq_6, DV.eqd.eq_1, DV.eqd.eq_2, DV.eqd.eq_3, DV.eqd.eq_4, DV.eqd.eq_5, DV.eqd.eq_6, DV.eqd.eq_7, DV.eqd.eq_8, DV.eqds.eq_1, DV.eqds.eq_2, DV.eqds.eq_3])
  | false =>
    obtain ⟨y1, y2, e⟩ := check_loop [] ts (-1) none none (by decide) (by simp) hr [] rfl
    refine runF_by (o := .nx [some (.lst (ts.map D.int), false), y1, y2]) rfl (?_ : exs _ [] _ [some (.lst (ts.map D.int), false), none, none] = _) rfl
    refine (exs_nx (s1 _)).trans ?_
    refine (exs_nx (ex_for (by simp [DV.runF.eq_1, DV.exs.eq_1, DV.exs.eq_2, DV.ex.eq_1, DV.ex.eq_2, DV.ex.eq_3, DV.ex.eq_4, DV.ex.eq_5, DV.ex.eq_6, DV.ex.eq_7, DV.ex.eq_8, DV.ex.eq_9, DV.ex.eq_10, DV.ex.eq_11, DV.ex.eq_12, DV.ex.eq_13, DV.ex.eq_14, DV.ex.eq_15, DV.ex.eq_16, DV.ev.eq_1, DV.ev.eq_2, DV.ev.eq_3, DV.ev.eq_4, DV.ev.eq_5, DV.ev.eq_6, DV.ev.eq_7, DV.ev.eq_8, DV.ev.eq_9, DV.ev.eq_10, DV.ev.eq_11, DV.ev.eq_12, DV.ev.eq_13, DV.ev.eq_14, DV.ev.eq_15, DV.ev.eq_16, DV.ev.eq_17, DV.ev.eq_18, DV.evs.eq_1, DV.evs.eq_2, DV.evc.eq_1, DV.evc.eq_2, DV.evn.eq_1, DV.evn.eq_2, DV.parS.eq_1, DV.parS.eq_2, DV.parS.eq_3, DV.datums.eq_1, DV.datums.eq_2, DV.datum.eq_1, DV.datum.eq_2, DV.datum.eq_3, DV.fre.eq_1, DV.fre.eq_2, DV.fre.eq_3, DV.fres.eq_1, DV.fres.eq_2, DV.argSs.eq_1, DV.argSs.eq_2, DV.argS.eq_1, DV.argS.eq_2, DV.argS.eq_3, DV.nodupB.eq_1, DV.nodupB.eq_2, DV.ownIx.eq_1, DV.ownIx.eq_2, DV.ownIx.eq_3, DV.putOuts.eq_1, DV.putOuts.eq_2, DV.putOuts.eq_3, DV.biD.eq_1, DV.biD.eq_2, DV.biD.eq_3, DV.biD.eq_4, DV.biD.eq_5, DV.biD.eq_6, DV.biD.eq_7, DV.biD.eq_8, DV.biD.eq_9, DV.biD.eq_10, DV.biD.eq_11, DV.biD.eq_12, DV.biD.eq_13, DV.biD.eq_14, DV.biD.eq_15, DV.biD.eq_16, DV.biD.eq_17, DV.biD.eq_18, DV.biD.eq_19, DV.isiD.eq_1, DV.isiD.eq_2, DV.isiD.eq_3, DV.isiD.eq_4, DV.isiD.eq_5, DV.isiD.eq_6, DV.isiD.eq_7, DV.shallow.eq_1, DV.shallow.eq_2, DV.shallow.eq_3, DV.testD.eq_1, DV.truthD.eq_1, DV.truthD.eq_2, DV.truthD.eq_3, DV.truthD.eq_4, DV.truthD.eq_5, DV.truthD.eq_6, DV.truthD.eq_7, DV.truthD.eq_8, DV.finish.eq_1, DV.finish.eq_2, DV.finish.eq_3, DV.finish.eq_4, DV.finish.eq_5, DV.outsOf.eq_1, DV.outsOf.eq_2, DV.outsOf.eq_3, DV.ownPs.eq_1, DV.ownPs.eq_2, DV.ownPs.eq_3, DV.disjB.eq_1, DV.isLst.eq_1, DV.appD.eq_1, DV.extD.eq_1, DV.setD.eq_1, DV.asgT.eq_1, DV.asgT.eq_2, DV.asgT.asgTs.eq_1, DV.asgT.asgTs.eq_2, DV.tgIx.eq_1, DV.tgIx.eq_2, DV.tgIx.tgIxs.eq_1, DV.tgIx.tgIxs.eq_2, DV.iterD.eq_1, DV.iterD.eq_2, DV.iterD.eq_3, DV.it_rng, DV.binD.eq_1, DV.binD.eq_2, DV.binD.eq_3, DV.binD.eq_4, DV.binD.eq_5, DV.binD.eq_6, DV.binD.eq_7, DV.binD.eq_8, DV.binD.eq_9, DV.binD.eq_10, DV.cmpD.eq_1, DV.cmpD.eq_2, DV.cmpD.eq_3, DV.cmpD.eq_4, DV.cmpD.eq_5, DV.cmpD.eq_6, DV.cmpD.eq_7, DV.cmpD.eq_8, DV.cmpD.eq_9, DV.cmpD.eq_10, DV.cmpD.eq_11, DV.cmpD.eq_12, DV.isNonD.eq_1, DV.isNonD.eq_2, DV.ixD.eq_1, DV.ixD.eq_2, DV.ixD.eq_3, DV.ixD.eq_4, DV.slcD.eq_1, DV.slcD.eq_2, DV.slcD.eq_3, DV.slO.eq_1, DV.slO.eq_2, DV.plainIx.eq_1, DV.wipeG.eq_1, DV.wipeG.eq_2, DV.restG.eq_1, DV.restG.eq_2, DV.flatD.eq_1, DV.flatD.eq_2, DV.flatD.eq_3, DV.flatD.eq_4, DV.flatD.eq_5, DV.okB.eq_1, DV.okB.eq_2, DV.okB.eq_3, DV.okB.eq_4, DV.okB.eq_5, DV.okB.eq_6, DV.eqd.eq_1, DV.eqd.eq_2, DV.eqd.eq_3, DV.eqd.eq_4, DV.eqd.eq_5, DV.eqd.eq_6, DV.eqd.eq_7, DV.eqd.eq_8, DV.eqds.eq_1, DV.eqds.eq_2, DV.eqds.eq_3]) rfl e)).trans (by simp [DV.runF.eq_1, DV.exs.eq_1, DV.exs.eq_2, DV.ex.eq_1, DV.ex.eq_2, DV.ex.eq_3, DV.ex.eq_4, DV.ex.eq_5, DV.ex.eq_6, DV.ex.eq_7, DV.ex.eq_8, DV.ex.eq_9, DV.ex.eq_10, DV.ex.eq_11, DV.ex.eq_12, DV.ex.eq_13, DV.ex.eq_14, DV.ex.eq_15, DV.ex.eq_16, DV.ev.eq_1, DV.ev.eq_2, DV.ev.eq_3, DV.ev.eq_4, DV.ev.eq_5, DV.ev.eq_6, DV.ev.eq_7, DV.ev.eq_8, DV.ev.eq_9, DV.ev.eq_10, DV.ev.eq_11, DV.ev.eq_12, DV.ev.eq_13, DV.ev.eq_14, DV.ev.eq_15, DV.ev.eq_16, DV.ev.eq_17, DV.ev.eq_18, DV.evs.eq_1, DV.evs.eq_2, DV.evc.eq_1, DV.evc.eq_2, DV.evn.eq_1, DV.evn.eq_2, DV.parS.eq_1, DV.parS.eq_2, DV.parS.eq_3, DV.datums.eq_1, DV.datums.eq_2, DV.datum.eq_1, DV.datum.eq_2, DV.datum.eq_3, DV.fre.eq_1, DV.fre.eq_2, DV.fre.eq_3, DV.fres.eq_1, DV.fres.eq_2, DV.argSs.eq_1, DV.argSs.eq_2, DV.argS.eq_1, DV.argS.eq_2, DV.argS.eq_3, DV.nodupB.eq_1, DV.nodupB.eq_2, DV.ownIx.eq_1, DV.ownIx.eq_2, DV.ownIx.eq_3, DV.putOuts.eq_1, DV.putOuts.eq_2, DV.putOuts.eq_3, DV.biD.eq_1, DV.biD.eq_2, DV.biD.eq_3, DV.biD.eq_4, DV.biD.eq_5, DV.biD.eq_6, DV.biD.eq_7, DV.biD.eq_8, DV.biD.eq_9, DV.biD.eq_10, DV.biD.eq_11, DV.biD.eq_12, DV.biD.eq_13, DV.biD.eq_14, DV.biD.eq_15, DV.biD.eq_16, DV.biD.eq_17, DV.biD.eq_18, DV.biD.eq_19, DV.isiD.eq_1, DV.isiD.eq_2, DV.isiD.eq_3, DV.isiD.eq_4, DV.isiD.eq_5, DV.isiD.eq_6, DV.isiD.eq_7, DV.shallow.eq_1, DV.shallow.eq_2, DV.shallow.eq_3, DV.testD.eq_1, DV.truthD.eq_1, DV.truthD.eq_2, DV.truthD.eq_3, DV.truthD.eq_4, DV.truthD.eq_5, DV.truthD.eq_6, DV.truthD.eq_7, DV.truthD.eq_8, DV.finish.eq_1, DV.finish.eq_2, DV.finish.eq_3, DV.finish.eq_4, DV.finish.eq_5, DV.outsOf.eq_1, DV.outsOf.eq_2, DV.outsOf.eq_3, DV.ownPs.eq_1, DV.ownPs.eq_2, DV.ownPs.eq_3, DV.disjB.eq_1, DV.isLst.eq_1, DV.appD.eq_1, DV.extD.eq_1, DV.setD.eq_1, DV.asgT.eq_1, DV.asgT.eq_2, DV.asgT.asgTs.eq_1, DV.asgT.asgTs.eq_2, DV.tgIx.eq_1, DV.tgIx.eq_2, DV.tgIx.tgIxs.eq_1, DV.tgIx.tgIxs.eq_2, DV.iterD.eq_1, DV.iterD.eq_2, DV.iterD.eq_3, DV.it_rng, DV.binD.eq_1, DV.binD.eq_2, DV.binD.eq_3, DV.binD.eq_4, DV.binD.eq_5, DV.binD.eq_6, DV.binD.eq_7, DV.binD.eq_8, DV.binD.eq_9, DV.binD.eq_10, DV.cmpD.eq_1, DV.cmpD.eq_2, DV.cmpD.eq_3, DV.cmpD.eq_4, DV.cmpD.eq_5, DV.cmpD.eq_6, DV.cmpD.eq_7, DV.cmpD.eq_8, DV.cmpD.eq_9, DV.cmpD.eq_10, DV.cmpD.eq_11, DV.cmpD.eq_12, DV.isNonD.eq_1, DV.isNonD.eq_2, DV.ixD.eq_1, DV.ixD.eq_2, DV.ixD.eq_3, DV.ixD.eq_4, DV.slcD.eq_1, DV.slcD.eq_2, DV.slcD.eq_3, DV.slO.eq_1, DV.slO.eq_2, DV.plainIx.eq_1, DV.wipeG.eq_1, DV.wipeG.eq_2, DV.restG.eq_1, DV.restG.eq_2, DV.flatD.eq_1, DV.flatD.eq_2, DV.flatD.eq_3, DV.flatD.eq_4, DV.flatD.eq_5, DV.okB.eq_1, DV.okB.eq_2, DV.okB.eq_3, DV.okB.eq_4, DV.okB.eq_5, DV.okB.eq_6, DV.eqd.eq_1, DV.eqd.eq_2, DV.eqd.eq_3, DV.eqd.eq_4, DV.eqd.eq_5, DV.eqd.eq_6, DV.eqd.eq_7, DV.eqd.eq_8, DV.eqds.eq_1, DV.eqds.eq_2, DV.eqds.eq_3])
/-- what log_of tells -/
def logF (w : Int) : Int → Int → List Int → List D
  | _, _, [] => []
  | l, s, t :: r => if 0 < l ∨ w ≤ t - s then .tup [.int t, .bl true] :: logF w (max 0 (l - 1)) t r else .tup [.int t, .bl false] :: logF w l s r
theorem logF_len (w : Int) : ∀ (ts : List Int) (l s : Int), (logF w l s ts).length = ts.length
  | [], _, _ => rfl
  | t :: r, l, s => by unfold logF; split <;> simp [logF_len w r]
theorem log_loop (f w s : Int) (ts : List Int) : ∀ (suf : List Int) (acc : List D) (l since : Int) (x2 x6 : Sl) (pn : List Nat), disjB [2, 6, 4, 5] pn = true → acc.length + suf.length ≤ 1000 → ∃ x2' x4' x5' x6', forLoop (.nm 2) (exs [F_is_breaker, F_check_times] pn B_log_of_1) (suf.map D.int) [some (br f w s, false), some (.lst (ts.map D.int), false), x2, some (.lst acc, true), some (.int l, false), some (.int since, false), x6] =
      some (.nx [some (br f w s, false), some (.lst (ts.map D.int), false), x2', some (.lst (acc ++ logF w l since suf), true), x4', x5', x6'])
  | [], acc, l, since, x2, x6, pn, dj, _ => ⟨x2, some (.int l, false), some (.int since, false), x6, by simp [forLoop, logF]⟩
  | t :: suf, acc, l, since, x2, x6, pn, dj, hz => by
    have i1 : ∀ x y z : D, atI [x, y, z] 1 = some y := fun _ _ _ => rfl
    have hacc : acc.length < 16777216 := by
      rw [List.length_cons] at hz
      omega
    have d2 : disjB [2] pn = true ∧ disjB [6] pn = true ∧ disjB [4] pn = true ∧ disjB [5] pn = true := by
      simp only [disjB, List.all_cons, List.all_nil, Bool.and_true, Bool.and_eq_true] at dj ⊢
      exact ⟨dj.1, dj.2.1, dj.2.2.1, dj.2.2.2⟩
    simp only [disjB, List.all_cons, List.all_nil, Bool.and_true, Bool.not_eq_true', List.contains_eq_mem, decide_eq_false_iff_not] at d2
    obtain ⟨d2, d6, d4, d5⟩ := d2
    by_cases hc : 0 < l ∨ w ≤ t - since
    · obtain ⟨y2, y4, y5, y6, ih⟩ := log_loop f w s ts suf (acc ++ [.tup [.int t, .bl true]]) (max 0 (l - 1)) t (some (.int t, false)) (some (.bl true, false)) pn dj (by simp at hz ⊢; omega)
      refine ⟨y2, y4, y5, y6, ?_⟩
      have hm : (if l - 1 > 0 then l - 1 else 0) = max 0 (l - 1) := by omega
      refine (forLoop_step (Γ1 := [some (br f w s, false), some (.lst (ts.map D.int), false), some (.int t, false), some (.lst acc, true), some (.int l, false), some (.int since, false), x6]) (Γ2 := [some (br f w s, false), some (.lst (ts.map D.int), false), some (.int t, false), some (.lst (acc ++ [.tup [.int t, .bl true]]), true), some (.int (max 0 (l - 1)), false), some (.int t, false), some (.bl true, false)]) (by simp [DV.runF.eq_1, DV.exs.eq_1, DV.exs.eq_2, DV.ex.eq_1, DV.ex.eq_2, DV.ex.eq_3, DV.ex.eq_4, DV.ex.eq_5, DV.ex.eq_6, DV.ex.eq_7, DV.ex.eq_8, DV.ex.eq_9, DV.ex.eq_10, DV.ex.eq_11, DV.ex.eq_12, DV.ex.eq_13, DV.ex.eq_14, DV.ex.eq_15, DV.ex.eq_16, DV.ev.eq_1, DV.ev.eq_2, DV.ev.eq_3, DV.ev.eq_4, DV.ev.eq_5, DV.ev.eq_6, DV.ev.eq_7, DV.ev.eq_8, DV.ev.eq_9, DV.ev.eq_10, DV.ev.eq_11, DV.ev.eq_12, DV.ev.eq_13, DV.ev.eq_14, DV.ev.eq_15, DV.ev.eq_16, DV.ev.eq_17, DV.ev.eq_18, DV.evs.eq_1, DV.evs.eq_2, DV.evc.eq_1, DV.evc.eq_2, DV.evn.eq_1, DV.evn.eq_2, DV.parS.eq_1, DV.parS.eq_2, DV.parS.eq_3, DV.datums.eq_1, DV.datums.eq_2, DV.datum.eq_1, DV.datum.eq_2, DV.datum.eq_3, DV.fre.eq_1, DV.fre.eq_2, DV.fre.eq_3, DV.fres.eq_1, DV.fres.eq_2, DV.argSs.eq_1, DV.argSs.eq_2, DV.argS.eq_1, DV.argS.eq_2, DV.argS.eq_3, DV.nodupB.eq_1, DV.nodupB.eq_2, DV.ownIx.eq_1, DV.ownIx.eq_2, DV.ownIx.eq_3, DV.putOuts.eq_1, DV.putOuts.eq_2, DV.putOuts.eq_3, DV.biD.eq_1, DV.biD.eq_2, DV.biD.eq_3, DV.biD.eq_4, DV.biD.eq_5, DV.biD.eq_6, DV.biD.eq_7, DV.biD.eq_8, DV.biD.eq_9, DV.biD.eq_10, DV.biD.eq_11, DV.biD.eq_12, DV.biD.eq_13, DV.biD.eq_14, DV.biD.eq_15, DV.biD.eq_16, DV.biD.eq_17, DV.biD.eq_18, DV.biD.eq_19, DV.isiD.eq_1, DV.isiD.eq_2, DV.isiD.eq_3, DV.isiD.eq_4, DV.isiD.eq_5, DV.isiD.eq_6, DV.isiD.eq_7, DV.shallow.eq_1, DV.shallow.eq_2, DV.shallow.eq_3, DV.testD.eq_1, DV.truthD.eq_1, DV.truthD.eq_2, DV.truthD.eq_3, DV.truthD.eq_4, DV.truthD.eq_5, DV.truthD.eq_6, DV.truthD.eq_7, DV.truthD.eq_8, DV.finish.eq_1, DV.finish.eq_2, DV.finish.eq_3, DV.finish.eq_4, DV.finish.eq_5, DV.outsOf.eq_1, DV.outsOf.eq_2, DV.outsOf.eq_3, DV.ownPs.eq_1, DV.ownPs.eq_2, DV.ownPs.eq_3, DV.disjB.eq_1, DV.isLst.eq_1, DV.appD.eq_1, DV.extD.eq_1, DV.setD.eq_1, DV.asgT.eq_1, DV.asgT.eq_2, DV.asgT.asgTs.eq_1, DV.asgT.asgTs.eq_2, DV.tgIx.eq_1, DV.tgIx.eq_2, DV.tgIx.tgIxs.eq_1, DV.tgIx.tgIxs.eq_2, DV.iterD.eq_1, DV.iterD.eq_2, DV.iterD.eq_3, DV.it_rng, DV.binD.eq_1, DV.binD.eq_2, DV.binD.eq_3, DV.binD.eq_4, DV.binD.eq_5, DV.binD.eq_6, DV.binD.eq_7, DV.binD.eq_8, DV.binD.eq_9, DV.binD.eq_10, DV.cmpD.eq_1, DV.cmpD.eq_2, DV.cmpD.eq_3, DV.cmpD.eq_4, DV.cmpD.eq_5, DV.cmpD.eq_6, DV.cmpD.eq_7, DV.cmpD.eq_8, DV.cmpD.eq_9, DV.cmpD.eq_10, DV.cmpD.eq_11, DV.cmpD.eq_12, DV.isNonD.eq_1, DV.isNonD.eq_2, DV.ixD.eq_1, DV.ixD.eq_2, DV.ixD.eq_3, DV.ixD.eq_4, DV.slcD.eq_1, DV.slcD.eq_2, DV.slcD.eq_3, DV.slO.eq_1, DV.slO.eq_2, DV.plainIx.eq_1, DV.wipeG.eq_1, DV.wipeG.eq_2, DV.restG.eq_1, DV.restG.eq_2, DV.flatD.eq_1, DV.flatD.eq_2, DV.flatD.eq_3, DV.flatD.eq_4, DV.flatD.eq_5, DV.okB.eq_1, DV.okB.eq_2, DV.okB.eq_3, DV.okB.eq_4, DV.okB.eq_5, DV.okB.eq_6, DV.eqd.eq_1, DV.eqd.eq_2, DV.eqd.eq_3, DV.eqd.eq_4, DV.eqd.eq_5, DV.eqd.eq_6, DV.eqd.eq_7, DV.eqd.eq_8, DV.eqds.eq_1, DV.eqds.eq_2, DV.eqds.eq_3]) ?_).trans ?_
      · by_cases hl : 0 < l
        · simp [B_log_of_1, DV.runF.eq_1, DV.exs.eq_1, DV.exs.eq_2, DV.ex.eq_1, DV.ex.eq_2, DV.ex.eq_3, DV.ex.eq_4, DV.ex.eq_5, DV.ex.eq_6, DV.ex.eq_7, DV.ex.eq_8, DV.ex.eq_9, DV.ex.eq_10, DV.ex.eq_11, DV.ex.eq_12, DV.ex.eq_13, DV.ex.eq_14, DV.ex.eq_15, DV.ex.eq_16, DV.ev.eq_1, DV.ev.eq_2, DV.ev.eq_3, DV.ev.eq_4, DV.ev.eq_5, DV.ev.eq_6, DV.ev.eq_7, DV.ev.eq_8, DV.ev.eq_9, DV.ev.eq_10, DV.ev.eq_11, DV.ev.eq_12, DV.ev.eq_13, DV.ev.eq_14, DV.ev.eq_15, DV.ev.eq_16, DV.ev.eq_17, DV.ev.eq_18, DV.evs.eq_1, DV.evs.eq_2, DV.evc.eq_1, DV.evc.eq_2, DV.evn.eq_1, DV.evn.eq_2, DV.parS.eq_1, DV.parS.eq_2, DV.parS.eq_3, DV.datums.eq_1, DV.datums.eq_2, DV.datum.eq_1, DV.datum.eq_2, DV.datum.eq_3, DV.fre.eq_1, DV.fre.eq_2, DV.fre.eq_3, DV.fres.eq_1, DV.fres.eq_2, DV.argSs.eq_1, DV.argSs.eq_2, DV.argS.eq_1, DV.argS.eq_2, DV.argS.eq_3, DV.nodupB.eq_1, DV.nodupB.eq_2, DV.ownIx.eq_1, DV.ownIx.eq_2, DV.ownIx.eq_3, DV.putOuts.eq_1, DV.putOuts.eq_2, DV.putOuts.eq_3, DV.biD.eq_1, DV.biD.eq_2, DV.biD.eq_3, DV.biD.eq_4, DV.biD.eq_5, DV.biD.eq_6, DV.biD.eq_7, DV.biD.eq_8, DV.biD.eq_9, DV.biD.eq_10, DV.biD.eq_11, DV.biD.eq_12, DV.biD.eq_13, DV.biD.eq_14, DV.biD.eq_15, DV.biD.eq_16, DV.biD.eq_17, DV.biD.eq_18, DV.biD.eq_19, DV.isiD.eq_1, DV.isiD.eq_2, DV.isiD.eq_3, DV.isiD.eq_4, DV.isiD.eq_5, DV.isiD.eq_6, DV.isiD.eq_7, DV.shallow.eq_1, DV.shallow.eq_2, DV.shallow.eq_3, DV.testD.eq_1, DV.truthD.eq_1, DV.truthD.eq_2, DV.truthD.eq_3, DV.truthD.eq_4, DV.truthD.eq_5, DV.truthD.eq_6, DV.truthD.eq_7, DV.truthD.eq_8, DV.finish.eq_1, DV.finish.eq_2, DV.finish.eq_3, DV.finish.eq_4, DV.finish.eq_5, DV.outsOf.eq_1, DV.outsOf.eq_2, DV.outsOf.eq_3, DV.ownPs.eq_1, DV.ownPs.eq_2, DV.ownPs.eq_3, DV.disjB.eq_1, DV.isLst.eq_1, DV.appD.eq_1, DV.extD.eq_1, DV.setD.eq_1, DV.asgT.eq_1, DV.asgT.eq_2, DV.asgT.asgTs.eq_1, DV.asgT.asgTs.eq_2, DV.tgIx.eq_1, DV.tgIx.eq_2, DV.tgIx.tgIxs.eq_1, DV.tgIx.tgIxs.eq_2, DV.iterD.eq_1, DV.iterD.eq_2, DV.iterD.eq_3, DV.it_rng, DV.binD.eq_1, DV.binD.eq_2, DV.binD.eq_3, DV.binD.eq_4, DV.binD.eq_5, DV.binD.eq_6, DV.binD.eq_7, DV.binD.eq_8, DV.binD.eq_9, DV.binD.eq_10, DV.cmpD.eq_1, DV.cmpD.eq_2, DV.cmpD.eq_3, DV.cmpD.eq_4, DV.cmpD.eq_5, DV.cmpD.eq_6, DV.cmpD.eq_7, DV.cmpD.eq_8, DV.cmpD.eq_9, DV.cmpD.eq_10, DV.cmpD.eq_11, DV.cmpD.eq_12, DV.isNonD.eq_1, DV.isNonD.eq_2, DV.ixD.eq_1, DV.ixD.eq_2, DV.ixD.eq_3, DV.ixD.eq_4, DV.slcD.eq_1, DV.slcD.eq_2, DV.slcD.eq_3, DV.slO.eq_1, DV.slO.eq_2, DV.plainIx.eq_1, DV.wipeG.eq_1, DV.wipeG.eq_2, DV.restG.eq_1, DV.restG.eq_2, DV.flatD.eq_1, DV.flatD.eq_2, DV.flatD.eq_3, DV.flatD.eq_4, DV.flatD.eq_5, DV.okB.eq_1, DV.okB.eq_2, DV.okB.eq_3, DV.okB.eq_4, DV.okB.eq_5, DV.okB.eq_6, DV.eqd.eq_1, DV.eqd.eq_2, DV.eqd.eq_3, DV.eqd.eq_4, DV.eqd.eq_5, DV.eqd.eq_6, DV.eqd.eq_7, DV.eqd.eq_8, DV.eqds.eq_1, DV.eqds.eq_2, DV.eqds.eq_3, hl, hacc, d4, d5, d6, sizeLine, ← hm]
        · have hw : w ≤ t - since := by omega
          simp [B_log_of_1, DV.runF.eq_1, DV.exs.eq_1, DV.exs.eq_2, DV.ex.eq_1, DV.ex.eq_2, DV.ex.eq_3, DV.ex.eq_4, DV.ex.eq_5, DV.ex.eq_6, DV.ex.eq_7, DV.ex.eq_8, DV.ex.eq_9, DV.ex.eq_10, DV.ex.eq_11, DV.ex.eq_12, DV.ex.eq_13, DV.ex.eq_14, DV.ex.eq_15, DV.ex.eq_16, DV.ev.eq_1, DV.ev.eq_2, DV.ev.eq_3, DV.ev.eq_4, DV.ev.eq_5, DV.ev.eq_6, DV.ev.eq_7, DV.ev.eq_8, DV.ev.eq_9, DV.ev.eq_10, DV.ev.eq_11, DV.ev.eq_12, DV.ev.eq_13, DV.ev.eq_14, DV.ev.eq_15, DV.ev.eq_16, DV.ev.eq_17, DV.ev.eq_18, DV.evs.eq_1, DV.evs.eq_2, DV.evc.eq_1, DV.evc.eq_2, DV.evn.eq_1, DV.evn.eq_2, DV.parS.eq_1, DV.parS.eq_2, DV.parS.eq_3, DV.datums.eq_1, DV.datums.eq_2, DV.datum.eq_1, DV.datum.eq_2, DV.datum.eq_3, DV.fre.eq_1, DV.fre.eq_2, DV.fre.eq_3, DV.fres.eq_1, DV.fres.eq_2, DV.argSs.eq_1, DV.argSs.eq_2, DV.argS.eq_1, DV.argS.eq_2, DV.argS.eq_3, DV.nodupB.eq_1, DV.nodupB.eq_2, DV.ownIx.eq_1, DV.ownIx.eq_2, DV.ownIx.eq_3, DV.putOuts.eq_1, DV.putOuts.eq_2, DV.putOuts.eq_3, DV.biD.eq_1, DV.biD.eq_2, DV.biD.eq_3, DV.biD.eq_4, DV.biD.eq_5, DV.biD.eq_6, DV.biD.eq_7, DV.biD.eq_8, DV.biD.eq_9, DV.biD.eq_10, DV.biD.eq_11, DV.biD.eq_12, DV.biD.eq_13, DV.biD.eq_14, DV.biD.eq_15, DV.biD.eq_16, DV.biD.eq_17, DV.biD.eq_18, DV.biD.eq_19, DV.isiD.eq_1, DV.isiD.eq_2, DV.isiD.eq_3, DV.isiD.eq_4, DV.isiD.eq_5, DV.isiD.eq_6, DV.isiD.eq_7, DV.shallow.eq_1, DV.shallow.eq_2, DV.shallow.eq_3, DV.testD.eq_1, DV.truthD.eq_1, DV.truthD.eq_2, DV.truthD.eq_3, DV.truthD.eq_4, DV.truthD.eq_5, DV.truthD.eq_6, DV.truthD.eq_7, DV.truthD.eq_8, DV.finish.eq_1, DV.finish.eq_2, DV.finish.eq_3, DV.finish.eq_4, DV.finish.eq_5, DV.outsOf.eq_1, DV.outsOf.eq_2, DV.outsOf.eq_3, DV.ownPs.eq_1, DV.ownPs.eq_2, DV.ownPs.eq_3, DV.disjB.eq_1, DV.isLst.eq_1, DV.appD.eq_1, DV.extD.eq_1, DV.setD.eq_1, DV.asgT.eq_1, DV.asgT.eq_2, DV.asgT.asgTs.eq_1, DV.asgT.asgTs.eq_2, DV.tgIx.eq_1, DV.tgIx.eq_2, DV.tgIx.tgIxs.eq_1, DV.tgIx.tgIxs.eq_2, DV.iterD.eq_1, DV.iterD.eq_2, DV.iterD.eq_3, DV.it_rng, DV.binD.eq_1, DV.binD.eq_2, DV.binD.eq_3, DV.binD.eq_4, DV.binD.eq_5, DV.binD.eq_6, DV.binD.eq_7, DV.binD.eq_8, DV.binD.eq_9, DV.binD.eq_10, DV.cmpD.eq_1, DV.cmpD.eq_2, DV.cmpD.eq_3, DV.cmpD.eq_4, DV.cmpD.eq_5, DV.cmpD.eq_6, DV.cmpD.eq_7, DV.cmpD.eq_8, DV.cmpD.eq_9, DV.cmpD.eq_10, DV.cmpD.eq_11, DV.cmpD.eq_12, DV.isNonD.eq_1, DV.isNonD.eq_2, DV.ixD.eq_1, DV.ixD.eq_2, DV.ixD.eq_3, DV.ixD.eq_4, DV.slcD.eq_1, DV.slcD.eq_2, DV.slcD.eq_3, DV.slO.eq_1, DV.slO.eq_2, DV.plainIx.eq_1, DV.wipeG.eq_1, DV.wipeG.eq_2, DV.restG.eq_1, DV.restG.eq_2, DV.flatD.eq_1, DV.flatD.eq_2, DV.flatD.eq_3, DV.flatD.eq_4, DV.flatD.eq_5, DV.okB.eq_1, DV.okB.eq_2, DV.okB.eq_3, DV.okB.eq_4, DV.okB.eq_5, DV.okB.eq_6, DV.eqd.eq_1, DV.eqd.eq_2, DV.eqd.eq_3, DV.eqd.eq_4, DV.eqd.eq_5, DV.eqd.eq_6, DV.eqd.eq_7, DV.eqd.eq_8, DV.eqds.eq_1, DV.eqds.eq_2, DV.eqds.eq_3, hl, hw, i1, hacc, d4, d5, d6, sizeLine, ← hm]
      · rw [ih]
        simp [logF, hc]
    · obtain ⟨y2, y4, y5, y6, ih⟩ := log_loop f w s ts suf (acc ++ [.tup [.int t, .bl false]]) l since (some (.int t, false)) (some (.bl false, false)) pn dj (by simp at hz ⊢; omega)
      refine ⟨y2, y4, y5, y6, ?_⟩
      refine (forLoop_step (Γ1 := [some (br f w s, false), some (.lst (ts.map D.int), false), some (.int t, false), some (.lst acc, true), some (.int l, false), some (.int since, false), x6]) (Γ2 := [some (br f w s, false), some (.lst (ts.map D.int), false), some (.int t, false), some (.lst (acc ++ [.tup [.int t, .bl false]]), true), some (.int l, false), some (.int since, false), some (.bl false, false)]) (by simp [DV.runF.eq_1, DV.exs.eq_1, DV.exs.eq_2, DV.ex.eq_1, DV.ex.eq_2, DV.ex.eq_3, DV.ex.eq_4, DV.ex.eq_5, DV.ex.eq_6, DV.ex.eq_7, DV.ex.eq_8, DV.ex.eq_9, DV.ex.eq_10, DV.ex.eq_11, DV.ex.eq_12, DV.ex.eq_13, DV.ex.eq_14, DV.ex.eq_15, DV.ex.eq_16, DV.ev.eq_1, DV.ev.eq_2, DV.ev.eq_3, DV.ev.eq_4, DV.ev.eq_5, DV.ev.eq_6, DV.ev.eq_7, DV.ev.eq_8, DV.ev.eq_9, DV.ev.eq_10, DV.ev.eq_11, DV.ev.eq_12, DV.ev.eq_13, DV.ev.eq_14, DV.ev.eq_15, DV.ev.eq_16, DV.ev.eq_17, DV.ev.eq_18, DV.evs.eq_1, DV.evs.eq_2, DV.evc.eq_1, DV.evc.eq_2, DV.evn.eq_1, DV.evn.eq_2, DV.parS.eq_1, DV.parS.eq_2, DV.parS.eq_3, DV.datums.eq_1, DV.datums.eq_2, DV.datum.eq_1, DV.datum.eq_2, DV.datum.eq_3, DV.fre.eq_1, DV.fre.eq_2, DV.fre.eq_3, DV.fres.eq_1, DV.fres.eq_2, DV.argSs.eq_1, DV.argSs.eq_2, DV.argS.eq_1, DV.argS.eq_2, DV.argS.eq_3, DV.nodupB.eq_1, DV.nodupB.eq_2, DV.ownIx.eq_1, DV.ownIx.eq_2, DV.ownIx.eq_3, DV.putOuts.eq_1, DV.putOuts.eq_2, DV.putOuts.eq_3, DV.biD.eq_1, DV.biD.eq_2, DV.biD.eq_3, DV.biD.eq_4, DV.biD.eq_5, DV.biD.eq_6, DV.biD.eq_7, DV.biD.eq_8, DV.biD.eq_9, DV.biD.eq_10, DV.biD.eq_11, DV.biD.eq_12, DV.biD.eq_13, DV.biD.eq_14, DV.biD.eq_15, DV.biD.eq_16, DV.biD.eq_17, DV.biD.eq_18, DV.biD.eq_19, DV.isiD.eq_1, DV.isiD.eq_2, DV.isiD.eq_3, DV.isiD.eq_4, DV.isiD.eq_5, DV.isiD.eq_6, DV.isiD.eq_7, DV.shallow.eq_1, DV.shallow.eq_2, DV.shallow.eq_3, DV.testD.eq_1, DV.truthD.eq_1, DV.truthD.eq_2, DV.truthD.eq_3, DV.truthD.eq_4, DV.truthD.eq_5, DV.truthD.eq_6, DV.truthD.eq_7, DV.truthD.eq_8, DV.finish.eq_1, DV.finish.eq_2, DV.finish.eq_3, DV.finish.eq_4, DV.finish.eq_5, DV.outsOf.eq_1, DV.outsOf.eq_2, DV.outsOf.eq_3, DV.ownPs.eq_1, DV.ownPs.eq_2, DV.ownPs.eq_3, DV.disjB.eq_1, DV.isLst.eq_1, DV.appD.eq_1, DV.extD.eq_1, DV.setD.eq_1, DV.asgT.eq_1, DV.asgT.eq_2, DV.asgT.asgTs.eq_1, DV.asgT.asgTs.eq_2, DV.tgIx.eq_1, DV.tgIx.eq_2, DV.tgIx.tgIxs.eq_1, DV.tgIx.tgIxs.eq_2, DV.iterD.eq_1, DV.iterD.eq_2, DV.iterD.eq_3, DV.it_rng, DV.binD.eq_1, DV.binD.eq_2, DV.binD.eq_3, DV.binD.eq_4, DV.binD.eq_5, DV.binD.eq_6, DV.binD.eq_7, DV.binD.eq_8, DV.binD.eq_9, DV.binD.eq_10, DV.cmpD.eq_1, DV.cmpD.eq_2, DV.cmpD.eq_3, DV.cmpD.eq_4, DV.cmpD.eq_5, DV.cmpD.eq_6, DV.cmpD.eq_7, DV.cmpD.eq_8, DV.cmpD.eq_9, DV.cmpD.eq_10, DV.cmpD.eq_11, DV.cmpD.eq_12, DV.isNonD.eq_1, DV.isNonD.eq_2, DV.ixD.eq_1, DV.ixD.eq_2, DV.ixD.eq_3, DV.ixD.eq_4, DV.slcD.eq_1, DV.slcD.eq_2, DV.slcD.eq_3, DV.slO.eq_1, DV.slO.eq_2, DV.plainIx.eq_1, DV.wipeG.eq_1, DV.wipeG.eq_2, DV.restG.eq_1, DV.restG.eq_2, DV.flatD.eq_1, DV.flatD.eq_2, DV.flatD.eq_3, DV.flatD.eq_4, DV.flatD.eq_5, DV.okB.eq_1, DV.okB.eq_2, DV.okB.eq_3, DV.okB.eq_4, DV.okB.eq_5, DV.okB.eq_6, DV.eqd.eq_1, DV.eqd.eq_2, DV.eqd.eq_3, DV.eqd.eq_4, DV.eqd.eq_5, DV.eqd.eq_6, DV.eqd.eq_7, DV.eqd.eq_8, DV.eqds.eq_1, DV.eqds.eq_2, DV.eqds.eq_3]) ?_).trans ?_
      · have hl : ¬ 0 < l := by omega
        have hw : ¬ w ≤ t - since := by omega
        simp [B_log_of_1, DV.runF.eq_1, DV.exs.eq_1, DV.exs.eq_2, DV.ex.eq_1, DV.ex.eq_2, DV.ex.eq_3, DV.ex.eq_4, DV.ex.eq_5, DV.ex.eq_6, DV.ex.eq_7, DV.ex.eq_8, DV.ex.eq_9, DV.ex.eq_10, DV.ex.eq_11, DV.ex.eq_12, DV.ex.eq_13, DV.ex.eq_14, DV.ex.eq_15, DV.ex.eq_16, DV.ev.eq_1, DV.ev.eq_2, DV.ev.eq_3, DV.ev.eq_4, DV.ev.eq_5, DV.ev.eq_6, DV.ev.eq_7, DV.ev.eq_8, DV.ev.eq_9, DV.ev.eq_10, DV.ev.eq_11, DV.ev.eq_12, DV.ev.eq_13, DV.ev.eq_14, DV.ev.eq_15, DV.ev.eq_16, DV.ev.eq_17, DV.ev.eq_18, DV.evs.eq_1, DV.evs.eq_2, DV.evc.eq_1, DV.evc.eq_2, DV.evn.eq_1, DV.evn.eq_2, DV.parS.eq_1, DV.parS.eq_2, DV.parS.eq_3, DV.datums.eq_1, DV.datums.eq_2, DV.datum.eq_1, DV.datum.eq_2, DV.datum.eq_3, DV.fre.eq_1, DV.fre.eq_2, DV.fre.eq_3, DV.fres.eq_1, DV.fres.eq_2, DV.argSs.eq_1, DV.argSs.eq_2, DV.argS.eq_1, DV.argS.eq_2, DV.argS.eq_3, DV.nodupB.eq_1, DV.nodupB.eq_2, DV.ownIx.eq_1, DV.ownIx.eq_2, DV.ownIx.eq_3, DV.putOuts.eq_1, DV.putOuts.eq_2, DV.putOuts.eq_3, DV.biD.eq_1, DV.biD.eq_2, DV.biD.eq_3, DV.biD.eq_4, DV.biD.eq_5, DV.biD.eq_6, DV.biD.eq_7, DV.biD.eq_8, DV.biD.eq_9, DV.biD.eq_10, DV.biD.eq_11, DV.biD.eq_12, DV.biD.eq_13, DV.biD.eq_14, DV.biD.eq_15, DV.biD.eq_16, DV.biD.eq_17, DV.biD.eq_18, DV.biD.eq_19, DV.isiD.eq_1, DV.isiD.eq_2, DV.isiD.eq_3, DV.isiD.eq_4, DV.isiD.eq_5, DV.isiD.eq_6, DV.isiD.eq_7, DV.shallow.eq_1, DV.shallow.eq_2, DV.shallow.eq_3, DV.testD.eq_1, DV.truthD.eq_1, DV.truthD.eq_2, DV.truthD.eq_3, DV.truthD.eq_4, DV.truthD.eq_5, DV.truthD.eq_6, DV.truthD.eq_7, DV.truthD.eq_8, DV.finish.eq_1, DV.finish.eq_2, DV.finish.eq_3, DV.finish.eq_4, DV.finish.eq_5, DV.outsOf.eq_1, DV.outsOf.eq_2, DV.outsOf.eq_3, DV.ownPs.eq_1, DV.ownPs.eq_2, DV.ownPs.eq_3, DV.disjB.eq_1, DV.isLst.eq_1, DV.appD.eq_1, DV.extD.eq_1, DV.setD.eq_1, DV.asgT.eq_1, DV.asgT.eq_2, DV.asgT.asgTs.eq_1, DV.asgT.asgTs.eq_2, DV.tgIx.eq_1, DV.tgIx.eq_2, DV.tgIx.tgIxs.eq_1, DV.tgIx.tgIxs.eq_2, DV.iterD.eq_1, DV.iterD.eq_2, DV.iterD.eq_3, DV.it_rng, DV.binD.eq_1, DV.binD.eq_2, DV.binD.eq_3, DV.binD.eq_4, DV.binD.eq_5, DV.binD.eq_6, DV.binD.eq_7, DV.binD.eq_8, DV.binD.eq_9, DV.binD.eq_10, DV.cmpD.eq_1, DV.cmpD.eq_2, DV.cmpD.eq_3, DV.cmpD.eq_4, DV.cmpD.eq_5, DV.cmpD.eq_6, DV.cmpD.eq_7, DV.cmpD.eq_8, DV.cmpD.eq_9, DV.cmpD.eq_10, DV.cmpD.eq_11, DV.cmpD.eq_12, DV.isNonD.eq_1, DV.isNonD.eq_2, DV.ixD.eq_1, DV.ixD.eq_2, DV.ixD.eq_3, DV.ixD.eq_4, DV.slcD.eq_1, DV.slcD.eq_2, DV.slcD.eq_3, DV.slO.eq_1, DV.slO.eq_2, DV.plainIx.eq_1, DV.wipeG.eq_1, DV.wipeG.eq_2, DV.restG.eq_1, DV.restG.eq_2, DV.flatD.eq_1, DV.flatD.eq_2, DV.flatD.eq_3, DV.flatD.eq_4, DV.flatD.eq_5, DV.okB.eq_1, DV.okB.eq_2, DV.okB.eq_3, DV.okB.eq_4, DV.okB.eq_5, DV.okB.eq_6, DV.eqd.eq_1, DV.eqd.eq_2, DV.eqd.eq_3, DV.eqd.eq_4, DV.eqd.eq_5, DV.eqd.eq_6, DV.eqd.eq_7, DV.eqd.eq_8, DV.eqds.eq_1, DV.eqds.eq_2, DV.eqds.eq_3, hl, hw, i1, hacc, d4, d5, d6, sizeLine]
      · rw [ih]
        simp [logF, hc]
theorem log_of_ok (f w s : Int) (ts : List Int) (fl : Bool) (hb : BrOk f w s) (hr : Rise (-1) ts) (hz : ts.length ≤ 1000) : F_log_of [some (br f w s, false), some (.lst (ts.map D.int), fl)] = some (.nw (.lst (logF w f 0 ts)), [some (br f w s, false), some (.lst (ts.map D.int), false)]) := by
  have e1 := is_breaker_ok f w s hb
  have e2 := check_times_ok ts fl hr hz
  have e3 := check_times_ok ts false hr hz
  have i0 : ∀ x y z : D, atI [x, y, z] 0 = some x := fun _ _ _ => rfl
  cases fl with
  | true =>
    obtain ⟨y2, y4, y5, y6, e⟩ := log_loop f w s ts ts [] f 0 none none [1] rfl (by simpa using hz)
    refine runF_by (o := .rt (.sl 3) [some (br f w s, false), some (.lst (ts.map D.int), false), y2, some (.lst (logF w f 0 ts), true), y4, y5, y6]) rfl (?_ : exs _ [1] _ [some (br f w s, false), some (.lst (ts.map D.int), true), none, none, none, none, none] = _) rfl
    refine (exs_nx (Γ1 := [some (br f w s, false), some (.lst (ts.map D.int), true), none, none, none, none, none]) (by simp [DV.runF.eq_1, DV.exs.eq_1, DV.exs.eq_2, DV.ex.eq_1, DV.ex.eq_2, DV.ex.eq_3, DV.ex.eq_4, DV.ex.eq_5, DV.ex.eq_6, DV.ex.eq_7, DV.ex.eq_8, DV.ex.eq_9, DV.ex.eq_10, DV.ex.eq_11, DV.ex.eq_12, DV.ex.eq_13, DV.ex.eq_14, DV.ex.eq_15, DV.ex.eq_16, DV.ev.eq_1, DV.ev.eq_2, DV.ev.eq_3, DV.ev.eq_4, DV.ev.eq_5, DV.ev.eq_6, DV.ev.eq_7, DV.ev.eq_8, DV.ev.eq_9, DV.ev.eq_10, DV.ev.eq_11, DV.ev.eq_12, DV.ev.eq_13, DV.ev.eq_14, DV.ev.eq_15, DV.ev.eq_16, DV.ev.eq_17, DV.ev.eq_18, DV.evs.eq_1, DV.evs.eq_2, DV.evc.eq_1, DV.evc.eq_2, DV.evn.eq_1, DV.evn.eq_2, DV.parS.eq_1, DV.parS.eq_2, DV.parS.eq_3, DV.datums.eq_1, DV.datums.eq_2, DV.datum.eq_1, DV.datum.eq_2, DV.datum.eq_3, DV.fre.eq_1, DV.fre.eq_2, DV.fre.eq_3, DV.fres.eq_1, DV.fres.eq_2, DV.argSs.eq_1, DV.argSs.eq_2, DV.argS.eq_1, DV.argS.eq_2, DV.argS.eq_3, DV.nodupB.eq_1, DV.nodupB.eq_2, DV.ownIx.eq_1, DV.ownIx.eq_2, DV.ownIx.eq_3, DV.putOuts.eq_1, DV.putOuts.eq_2, DV.putOuts.eq_3, DV.biD.eq_1, DV.biD.eq_2, DV.biD.eq_3, DV.biD.eq_4, DV.biD.eq_5, DV.biD.eq_6, DV.biD.eq_7, DV.biD.eq_8, DV.biD.eq_9, DV.biD.eq_10, DV.biD.eq_11, DV.biD.eq_12, DV.biD.eq_13, DV.biD.eq_14, DV.biD.eq_15, DV.biD.eq_16, DV.biD.eq_17, DV.biD.eq_18, DV.biD.eq_19, DV.isiD.eq_1, DV.isiD.eq_2, DV.isiD.eq_3, DV.isiD.eq_4, DV.isiD.eq_5, DV.isiD.eq_6, DV.isiD.eq_7, DV.shallow.eq_1, DV.shallow.eq_2, DV.shallow.eq_3, DV.testD.eq_1, DV.truthD.eq_1, DV.truthD.eq_2, DV.truthD.eq_3, DV.truthD.eq_4, DV.truthD.eq_5, DV.truthD.eq_6, DV.truthD.eq_7, DV.truthD.eq_8, DV.finish.eq_1, DV.finish.eq_2, DV.finish.eq_3, DV.finish.eq_4, DV.finish.eq_5, DV.outsOf.eq_1, DV.outsOf.eq_2, DV.outsOf.eq_3, DV.ownPs.eq_1, DV.ownPs.eq_2, DV.ownPs.eq_3, DV.disjB.eq_1, DV.isLst.eq_1, DV.appD.eq_1, DV.extD.eq_1, DV.setD.eq_1, DV.asgT.eq_1, DV.asgT.eq_2, DV.asgT.asgTs.eq_1, DV.asgT.asgTs.eq_2, DV.tgIx.eq_1, DV.tgIx.eq_2, DV.tgIx.tgIxs.eq_1, DV.tgIx.tgIxs.eq_2, DV.iterD.eq_1, DV.iterD.eq_2, DV.iterD.eq_3, DV.it_rng, DV.binD.eq_1, DV.binD.eq_2, DV.binD.eq_3, DV.binD.eq_4, DV.binD.eq_5, DV.binD.eq_6, DV.binD.eq_7, DV.binD.eq_8, DV.binD.eq_9, DV.binD.eq_10, DV.cmpD.eq_1, DV.cmpD.eq_2, DV.cmpD.eq_3, DV.cmpD.eq_4, DV.cmpD.eq_5, DV.cmpD.eq_6, DV.cmpD.eq_7, DV.cmpD.eq_8, DV.cmpD.eq_9, DV.cmpD.eq_10, DV.cmpD.eq_11, DV.cmpD.eq_12, DV.isNonD.eq_1, DV.isNonD.eq_2, DV.ixD.eq_1, DV.ixD.eq_2, DV.ixD.eq_3, DV.ixD.eq_4, DV.slcD.eq_1, DV.slcD.eq_2, DV.slcD.eq_3, DV.slO.eq_1, DV.slO.eq_2, DV.plainIx.eq_1, DV.wipeG.eq_1, DV.wipeG.eq_2, DV.restG.eq_1, DV.restG.eq_2, DV.flatD.eq_1, DV.flatD.eq_2, DV.flatD.eq_3, DV.flatD.eq_4, DV.flatD.eq_5, DV.okB.eq_1, DV.okB.eq_2, DV.okB.eq_3, DV.okB.eq_4, DV.okB.eq_5, DV.okB.eq_6, DV.eqd.eq_1, DV.eqd.eq_2, DV.eqd.eq_3, DV.eqd.eq_4, DV.eqd.eq_5, DV.eqd.eq_6, DV.eqd.eq_7, DV.eqd.eq_8, DV.eqds.eq_1, DV.eqds.eq_2, DV.eqds.eq_3, e1])).trans ?_
    refine (exs_nx (Γ1 := [some (br f w s, false), some (.lst (ts.map D.int), false), none, none, none, none, none]) (by simp [DV.runF.eq_1, DV.exs.eq_1, DV.exs.eq_2, DV.ex.eq_1, DV.ex.eq_2, DV.ex.eq_3, DV.ex.eq_4, DV.ex.eq_5, DV.ex.eq_6, DV.ex.eq_7, DV.ex.eq_8, DV.ex.eq_9, DV.ex.eq_10, DV.ex.eq_11, DV.ex.eq_12, DV.ex.eq_13, DV.ex.eq_14, DV.ex.eq_15, DV.ex.eq_16, DV.ev.eq_1, DV.ev.eq_2, DV.ev.eq_3, DV.ev.eq_4, DV.ev.eq_5, DV.ev.eq_6, DV.ev.eq_7, DV.ev.eq_8, DV.ev.eq_9, DV.ev.eq_10, DV.ev.eq_11, DV.ev.eq_12, DV.ev.eq_13, DV.ev.eq_14, DV.ev.eq_15, DV.ev.eq_16, DV.ev.eq_17, DV.ev.eq_18, DV.evs.eq_1, DV.evs.eq_2, DV.evc.eq_1, DV.evc.eq_2, DV.evn.eq_1, DV.evn.eq_2, DV.parS.eq_1, DV.parS.eq_2, DV.parS.eq_3, DV.datums.eq_1, DV.datums.eq_2, DV.datum.eq_1, DV.datum.eq_2, DV.datum.eq_3, DV.fre.eq_1, DV.fre.eq_2, DV.fre.eq_3, DV.fres.eq_1, DV.fres.eq_2, DV.argSs.eq_1, DV.argSs.eq_2, DV.argS.eq_1, DV.argS.eq_2, DV.argS.eq_3, DV.nodupB.eq_1, DV.nodupB.eq_2, DV.ownIx.eq_1, DV.ownIx.eq_2, DV.ownIx.eq_3, DV.putOuts.eq_1, DV.putOuts.eq_2, DV.putOuts.eq_3, DV.biD.eq_1, DV.biD.eq_2, DV.biD.eq_3, DV.biD.eq_4, DV.biD.eq_5, DV.biD.eq_6, DV.biD.eq_7, DV.biD.eq_8, DV.biD.eq_9, DV.biD.eq_10, DV.biD.eq_11, DV.biD.eq_12, DV.biD.eq_13, DV.biD.eq_14, DV.biD.eq_15, DV.biD.eq_16, DV.biD.eq_17, DV.biD.eq_18, DV.biD.eq_19, DV.isiD.eq_1, DV.isiD.eq_2, DV.isiD.eq_3, DV.isiD.eq_4, DV.isiD.eq_5, DV.isiD.eq_6, DV.isiD.eq_7, DV.shallow.eq_1, DV.shallow.eq_2, DV.shallow.eq_3, DV.testD.eq_1, DV.truthD.eq_1, DV.truthD.eq_2, DV.truthD.eq_3, DV.truthD.eq_4, DV.truthD.eq_5, DV.truthD.eq_6, DV.truthD.eq_7, DV.truthD.eq_8, DV.finish.eq_1, DV.finish.eq_2, DV.finish.eq_3, DV.finish.eq_4, DV.finish.eq_5, DV.outsOf.eq_1, DV.outsOf.eq_2, DV.outsOf.eq_3, DV.ownPs.eq_1, DV.ownPs.eq_2, DV.ownPs.eq_3, DV.disjB.eq_1, DV.isLst.eq_1, DV.appD.eq_1, DV.extD.eq_1, DV.setD.eq_1, DV.asgT.eq_1, DV.asgT.eq_2, DV.asgT.asgTs.eq_1, DV.asgT.asgTs.eq_2, DV.tgIx.eq_1, DV.tgIx.eq_2, DV.tgIx.tgIxs.eq_1, DV.tgIx.tgIxs.eq_2, DV.iterD.eq_1, DV.iterD.eq_2, DV.iterD.eq_3, DV.it_rng, DV.binD.eq_1, DV.binD.eq_2, DV.binD.eq_3, DV.binD.eq_4, DV.binD.eq_5, DV.binD.eq_6, DV.binD.eq_7, DV.binD.eq_8, DV.binD.eq_9, DV.binD.eq_10, DV.cmpD.eq_1, DV.cmpD.eq_2, DV.cmpD.eq_3, DV.cmpD.eq_4, DV.cmpD.eq_5, DV.cmpD.eq_6, DV.cmpD.eq_7, DV.cmpD.eq_8, DV.cmpD.eq_9, DV.cmpD.eq_10, DV.cmpD.eq_11, DV.cmpD.eq_12, DV.isNonD.eq_1, DV.isNonD.eq_2, DV.ixD.eq_1, DV.ixD.eq_2, DV.ixD.eq_3, DV.ixD.eq_4, DV.slcD.eq_1, DV.slcD.eq_2, DV.slcD.eq_3, DV.slO.eq_1, DV.slO.eq_2, DV.plainIx.eq_1, DV.wipeG.eq_1, DV.wipeG.eq_2, DV.restG.eq_1, DV.restG.eq_2, DV.flatD.eq_1, DV.flatD.eq_2, DV.flatD.eq_3, DV.flatD.eq_4, DV.flatD.eq_5, DV.okB.eq_1, DV.okB.eq_2, DV.okB.eq_3, DV.okB.eq_4, DV.okB.eq_5, DV.okB.eq_6, DV.eqd.eq_1, DV.eqd.eq_2, DV.eqd.eq_3, DV.eqd.eq_4, DV.eqd.eq_5, DV.eqd.eq_6, DV.eqd.eq_7, DV.eqd.eq_8, DV.eqds.eq_1, DV.eqds.eq_2, DV.eqds.eq_3, e2])).trans ?_
    refine (exs_nx (Γ1 := [some (br f w s, false), some (.lst (ts.map D.int), false), none, some (.lst [], true), some (.int f, false), some (.int 0, false), none]) (by simp [DV.runF.eq_1, DV.exs.eq_1, DV.exs.eq_2, DV.ex.eq_1, DV.ex.eq_2, DV.ex.eq_3, DV.ex.eq_4, DV.ex.eq_5, DV.ex.eq_6, DV.ex.eq_7, DV.ex.eq_8, DV.ex.eq_9, DV.ex.eq_10, DV.ex.eq_11, DV.ex.eq_12, DV.ex.eq_13, DV.ex.eq_14, DV.ex.eq_15, DV.ex.eq_16, DV.ev.eq_1, DV.ev.eq_2, DV.ev.eq_3, DV.ev.eq_4, DV.ev.eq_5, DV.ev.eq_6, DV.ev.eq_7, DV.ev.eq_8, DV.ev.eq_9, DV.ev.eq_10, DV.ev.eq_11, DV.ev.eq_12, DV.ev.eq_13, DV.ev.eq_14, DV.ev.eq_15, DV.ev.eq_16, DV.ev.eq_17, DV.ev.eq_18, DV.evs.eq_1, DV.evs.eq_2, DV.evc.eq_1, DV.evc.eq_2, DV.evn.eq_1, DV.evn.eq_2, DV.parS.eq_1, DV.parS.eq_2, DV.parS.eq_3, DV.datums.eq_1, DV.datums.eq_2, DV.datum.eq_1, DV.datum.eq_2, DV.datum.eq_3, DV.fre.eq_1, DV.fre.eq_2, DV.fre.eq_3, DV.fres.eq_1, DV.fres.eq_2, DV.argSs.eq_1, DV.argSs.eq_2, DV.argS.eq_1, DV.argS.eq_2, DV.argS.eq_3, DV.nodupB.eq_1, DV.nodupB.eq_2, DV.ownIx.eq_1, DV.ownIx.eq_2, DV.ownIx.eq_3, DV.putOuts.eq_1, DV.putOuts.eq_2, DV.putOuts.eq_3, DV.biD.eq_1, DV.biD.eq_2, DV.biD.eq_3, DV.biD.eq_4, DV.biD.eq_5, DV.biD.eq_6, DV.biD.eq_7, DV.biD.eq_8, DV.biD.eq_9, DV.biD.eq_10, DV.biD.eq_11, DV.biD.eq_12, DV.biD.eq_13, DV.biD.eq_14, DV.biD.eq_15, DV.biD.eq_16, DV.biD.eq_17, DV.biD.eq_18, DV.biD.eq_19, DV.isiD.eq_1, DV.isiD.eq_2, DV.isiD.eq_3, DV.isiD.eq_4, DV.isiD.eq_5, DV.isiD.eq_6, DV.isiD.eq_7, DV.shallow.eq_1, DV.shallow.eq_2, DV.shallow.eq_3, DV.testD.eq_1, DV.truthD.eq_1, DV.truthD.eq_2, DV.truthD.eq_3, DV.truthD.eq_4, DV.truthD.eq_5, DV.truthD.eq_6, DV.truthD.eq_7, DV.truthD.eq_8, DV.finish.eq_1, DV.finish.eq_2, DV.finish.eq_3, DV.finish.eq_4, DV.finish.eq_5, DV.outsOf.eq_1, DV.outsOf.eq_2, DV.outsOf.eq_3, DV.ownPs.eq_1, DV.ownPs.eq_2, DV.ownPs.eq_3, DV.disjB.eq_1, DV.isLst.eq_1, DV.appD.eq_1, DV.extD.eq_1, DV.setD.eq_1, DV.asgT.eq_1, DV.asgT.eq_2, DV.asgT.asgTs.eq_1, DV.asgT.asgTs.eq_2, DV.tgIx.eq_1, DV.tgIx.eq_2, DV.tgIx.tgIxs.eq_1, DV.tgIx.tgIxs.eq_2, DV.iterD.eq_1, DV.iterD.eq_2, DV.iterD.eq_3, DV.it_rng, DV.binD.eq_1, DV.binD.eq_2, DV.binD.eq_3, DV.binD.eq_4, DV.binD.eq_5, DV.binD.eq_6, DV.binD.eq_7, DV.binD.eq_8, DV.binD.eq_9, DV.binD.eq_10, DV.cmpD.eq_1, DV.cmpD.eq_2, DV.cmpD.eq_3, DV.cmpD.eq_4, DV.cmpD.eq_5, DV.cmpD.eq_6, DV.cmpD.eq_7, DV.cmpD.eq_8, DV.cmpD.eq_9, DV.cmpD.eq_10, DV.cmpD.eq_11, DV.cmpD.eq_12, DV.isNonD.eq_1, DV.isNonD.eq_2, DV.ixD.eq_1, DV.ixD.eq_2, DV.ixD.eq_3, DV.ixD.eq_4, DV.slcD.eq_1, DV.slcD.eq_2, DV.slcD.eq_3, DV.slO.eq_1, DV.slO.eq_2, DV.plainIx.eq_1, DV.wipeG.eq_1, DV.wipeG.eq_2, DV.restG.eq_1, DV.restG.eq_2, DV.flatD.eq_1, DV.flatD.eq_2, DV.flatD.eq_3, DV.flatD.eq_4, DV.flatD.eq_5, DV.okB.eq_1, DV.okB.eq_2, DV.okB.eq_3, DV.okB.eq_4, DV.okB.eq_5, DV.okB.eq_6, DV.eqd.eq_1, DV.eqd.eq_2, DV.eqd.eq_3, DV.eqd.eq_4, DV.eqd.eq_5, DV.eqd.eq_6, DV.eqd.eq_7, DV.eqd.eq_8, DV.eqds.eq_1, DV.eqds.eq_2, DV.eqds.eq_3, i0])).trans ?_
    refine (exs_nx (ex_for (by simp [DV.runF.eq_1, DV.exs.eq_1, DV.exs.eq_2, DV.ex.eq_1, DV.ex.eq_2, DV.ex.eq_3, DV.ex.eq_4, DV.ex.eq_5, DV.ex.eq_6, DV.ex.eq_7, DV.ex.eq_8, DV.ex.eq_9, DV.ex.eq_10, DV.ex.eq_11, DV.ex.eq_12, DV.ex.eq_13, DV.ex.eq_14, DV.ex.eq_15, DV.ex.eq_16, DV.ev.eq_1, DV.ev.eq_2, DV.ev.eq_3, DV.ev.eq_4, DV.ev.eq_5, DV.ev.eq_6, DV.ev.eq_7, DV.ev.eq_8, DV.ev.eq_9, DV.ev.eq_10, DV.ev.eq_11, DV.ev.eq_12, DV.ev.eq_13, DV.ev.eq_14, DV.ev.eq_15, DV.ev.eq_16, DV.ev.eq_17, DV.ev.eq_18, DV.evs.eq_1, DV.evs.eq_2, DV.evc.eq_1, DV.evc.eq_2, DV.evn.eq_1, DV.evn.eq_2, DV.parS.eq_1, DV.parS.eq_2, DV.parS.eq_3, DV.datums.eq_1, DV.datums.eq_2, DV.datum.eq_1, DV.datum.eq_2, DV.datum.eq_3, DV.fre.eq_1, DV.fre.eq_2, DV.fre.eq_3, DV.fres.eq_1, DV.fres.eq_2, DV.argSs.eq_1, DV.argSs.eq_2, DV.argS.eq_1, DV.argS.eq_2, DV.argS.eq_3, DV.nodupB.eq_1, DV.nodupB.eq_2, DV.ownIx.eq_1, DV.ownIx.eq_2, DV.ownIx.eq_3, DV.putOuts.eq_1, DV.putOuts.eq_2, DV.putOuts.eq_3, DV.biD.eq_1, DV.biD.eq_2, DV.biD.eq_3, DV.biD.eq_4, DV.biD.eq_5, DV.biD.eq_6, DV.biD.eq_7, DV.biD.eq_8, DV.biD.eq_9, DV.biD.eq_10, DV.biD.eq_11, DV.biD.eq_12, DV.biD.eq_13, DV.biD.eq_14, DV.biD.eq_15, DV.biD.eq_16, DV.biD.eq_17, DV.biD.eq_18, DV.biD.eq_19, DV.isiD.eq_1, DV.isiD.eq_2, DV.isiD.eq_3, DV.isiD.eq_4, DV.isiD.eq_5, DV.isiD.eq_6, DV.isiD.eq_7, DV.shallow.eq_1, DV.shallow.eq_2, DV.shallow.eq_3, DV.testD.eq_1, DV.truthD.eq_1, DV.truthD.eq_2, DV.truthD.eq_3, DV.truthD.eq_4, DV.truthD.eq_5, DV.truthD.eq_6, DV.truthD.eq_7, DV.truthD.eq_8, DV.finish.eq_1, DV.finish.eq_2, DV.finish.eq_3, DV.finish.eq_4, DV.finish.eq_5, DV.outsOf.eq_1, DV.outsOf.eq_2, DV.outsOf.eq_3, DV.ownPs.eq_1, DV.ownPs.eq_2, DV.ownPs.eq_3, DV.disjB.eq_1, DV.isLst.eq_1, DV.appD.eq_1, DV.extD.eq_1, DV.setD.eq_1, DV.asgT.eq_1, DV.asgT.eq_2, DV.asgT.asgTs.eq_1, DV.asgT.asgTs.eq_2, DV.tgIx.eq_1, DV.tgIx.eq_2, DV.tgIx.tgIxs.eq_1, DV.tgIx.tgIxs.eq_2, DV.iterD.eq_1, DV.iterD.eq_2, DV.iterD.eq_3, DV.it_rng, DV.binD.eq_1, DV.binD.eq_2, DV.binD.eq_3, DV.binD.eq_4, DV.binD.eq_5, DV.binD.eq_6, DV.binD.eq_7, DV.binD.eq_8, DV.binD.eq_9, DV.binD.eq_10, DV.cmpD.eq_1, DV.cmpD.eq_2, DV.cmpD.eq_3, DV.cmpD.eq_4, DV.cmpD.eq_5, DV.cmpD.eq_6, DV.cmpD.eq_7, DV.cmpD.eq_8, DV.cmpD.eq_9, DV.cmpD.eq_10, DV.cmpD.eq_11, DV.cmpD.eq_12, DV.isNonD.eq_1, DV.isNonD.eq_2, DV.ixD.eq_1, DV.ixD.eq_2, DV.ixD.eq_3, DV.ixD.eq_4, DV.slcD.eq_1, DV.slcD.eq_2, DV.slcD.eq_3, DV.slO.eq_1, DV.slO.eq_2, DV.plainIx.eq_1, DV.wipeG.eq_1, DV.wipeG.eq_2, DV.restG.eq_1, DV.restG.eq_2, DV.flatD.eq_1, DV.flatD.eq_2, DV.flatD.eq_3, DV.flatD.eq_4, DV.flatD.eq_5, DV.okB.eq_1, DV.okB.eq_2, DV.okB.eq_3, DV.okB.eq_4, DV.okB.eq_5, DV.okB.eq_6, DV.eqd.eq_1, DV.eqd.eq_2, DV.eqd.eq_3, DV.eqd.eq_4, DV.eqd.eq_5, DV.eqd.eq_6, DV.eqd.eq_7, DV.eqd.eq_8, DV.eqds.eq_1, DV.eqds.eq_2, DV.eqds.eq_3]) rfl e)).trans (by simp [DV.runF.eq_1, DV.exs.eq_1, DV.exs.eq_2, DV.ex.eq_1, DV.ex.eq_2, DV.ex.eq_3, DV.ex.eq_4, DV.ex.eq_5, DV.ex.eq_6, DV.ex.eq_7, DV.ex.eq_8, DV.ex.eq_9, DV.ex.eq_10, DV.ex.eq_11, DV.ex.eq_12, DV.ex.eq_13, DV.ex.eq_14, DV.ex.eq_15, DV.ex.eq_16, DV.ev.eq_1, DV.ev.eq_2, DV.ev.eq_3, DV.ev.eq_4, DV.ev.eq_5, DV.ev.eq_6, DV.ev.eq_7, DV.ev.eq_8, DV.ev.eq_9, DV.ev.eq_10, DV.ev.eq_11, DV.ev.eq_12, DV.ev.eq_13, DV.ev.eq_14, DV.ev.eq_15, DV.ev.eq_16, DV.ev.eq_17, DV.ev.eq_18, DV.evs.eq_1, DV.evs.eq_2, DV.evc.eq_1, DV.evc.eq_2, DV.evn.eq_1, DV.evn.eq_2, DV.parS.eq_1, DV.parS.eq_2, DV.parS.eq_3, DV.datums.eq_1, DV.datums.eq_2, DV.datum.eq_1, DV.datum.eq_2, DV.datum.eq_3, DV.fre.eq_1, DV.fre.eq_2, DV.fre.eq_3, DV.fres.eq_1, DV.fres.eq_2, DV.argSs.eq_1, DV.argSs.eq_2, DV.argS.eq_1, DV.argS.eq_2, DV.argS.eq_3, DV.nodupB.eq_1, DV.nodupB.eq_2, DV.ownIx.eq_1, DV.ownIx.eq_2, DV.ownIx.eq_3, DV.putOuts.eq_1, DV.putOuts.eq_2, DV.putOuts.eq_3, DV.biD.eq_1, DV.biD.eq_2, DV.biD.eq_3, DV.biD.eq_4, DV.biD.eq_5, DV.biD.eq_6, DV.biD.eq_7, DV.biD.eq_8, DV.biD.eq_9, DV.biD.eq_10, DV.biD.eq_11, DV.biD.eq_12, DV.biD.eq_13, DV.biD.eq_14, DV.biD.eq_15, DV.biD.eq_16, DV.biD.eq_17, DV.biD.eq_18, DV.biD.eq_19, DV.isiD.eq_1, DV.isiD.eq_2, DV.isiD.eq_3, DV.isiD.eq_4, DV.isiD.eq_5, DV.isiD.eq_6, DV.isiD.eq_7, DV.shallow.eq_1, DV.shallow.eq_2, DV.shallow.eq_3, DV.testD.eq_1, DV.truthD.eq_1, DV.truthD.eq_2, DV.truthD.eq_3, DV.truthD.eq_4, DV.truthD.eq_5, DV.truthD.eq_6, DV.truthD.eq_7, DV.truthD.eq_8, DV.finish.eq_1, DV.finish.eq_2, DV.finish.eq_3, DV.finish.eq_4, DV.finish.eq_5, DV.outsOf.eq_1, DV.outsOf.eq_2, DV.outsOf.eq_3, DV.ownPs.eq_1, DV.ownPs.eq_2, DV.ownPs.eq_3, DV.disjB.eq_1, DV.isLst.eq_1, DV.appD.eq_1, DV.extD.eq_1, DV.setD.eq_1, DV.asgT.eq_1, DV.asgT.eq_2, DV.asgT.asgTs.eq_1, DV.asgT.asgTs.eq_2, DV.tgIx.eq_1, DV.tgIx.eq_2, DV.tgIx.tgIxs.eq_1, DV.tgIx.tgIxs.eq_2, DV.iterD.eq_1, DV.iterD.eq_2, DV.iterD.eq_3, DV.it_rng, DV.binD.eq_1, DV.binD.eq_2, DV.binD.eq_3, DV.binD.eq_4, DV.binD.eq_5, DV.binD.eq_6, DV.binD.eq_7, DV.binD.eq_8, DV.binD.eq_9, DV.binD.eq_10, DV.cmpD.eq_1, DV.cmpD.eq_2, DV.cmpD.eq_3, DV.cmpD.eq_4, DV.cmpD.eq_5, DV.cmpD.eq_6, DV.cmpD.eq_7, DV.cmpD.eq_8, DV.cmpD.eq_9, DV.cmpD.eq_10, DV.cmpD.eq_11, DV.cmpD.eq_12, DV.isNonD.eq_1, DV.isNonD.eq_2, DV.ixD.eq_1, DV.ixD.eq_2, DV.ixD.eq_3, DV.ixD.eq_4, DV.slcD.eq_1, DV.slcD.eq_2, DV.slcD.eq_3, DV.slO.eq_1, DV.slO.eq_2, DV.plainIx.eq_1, DV.wipeG.eq_1, DV.wipeG.eq_2, DV.restG.eq_1, DV.restG.eq_2, DV.flatD.eq_1, DV.flatD.eq_2, DV.flatD.eq_3, DV.flatD.eq_4, DV.flatD.eq_5, DV.okB.eq_1, DV.okB.eq_2, DV.okB.eq_3, DV.okB.eq_4, DV.okB.eq_5, DV.okB.eq_6, DV.eqd.eq_1, DV.eqd.eq_2, DV.eqd.eq_3, DV.eqd.eq_4, DV.eqd.eq_5, DV.eqd.eq_6, DV.eqd.eq_7, DV.eqd.eq_8, DV.eqds.eq_1, DV.eqds.eq_2, DV.eqds.eq_3])
  | false =>
    obtain ⟨y2, y4, y5, y6, e⟩ := log_loop f w s ts ts [] f 0 none none [] rfl (by simpa using hz)
    refine runF_by (o := .rt (.sl 3) [some (br f w s, false), some (.lst (ts.map D.int), false), y2, some (.lst (logF w f 0 ts), true), y4, y5, y6]) rfl (?_ : exs _ [] _ [some (br f w s, false), some (.lst (ts.map D.int), false), none, none, none, none, none] = _) rfl
    refine (exs_nx (Γ1 := [some (br f w s, false), some (.lst (ts.map D.int), false), none, none, none, none, none]) (by simp [DV.runF.eq_1, DV.exs.eq_1, DV.exs.eq_2, DV.ex.eq_1, DV.ex.eq_2, DV.ex.eq_3, DV.ex.eq_4, DV.ex.eq_5, DV.ex.eq_6, DV.ex.eq_7, DV.ex.eq_8, DV.ex.eq_9, DV.ex.eq_10, DV.ex.eq_11, DV.ex.eq_12, DV.ex.eq_13, DV.ex.eq_14, DV.ex.eq_15, DV.ex.eq_16, DV.ev.eq_1, DV.ev.eq_2, DV.ev.eq_3, DV.ev.eq_4, DV.ev.eq_5, DV.ev.eq_6, DV.ev.eq_7, DV.ev.eq_8, DV.ev.eq_9, DV.ev.eq_10, DV.ev.eq_11, DV.ev.eq_12, DV.ev.eq_13, DV.ev.eq_14, DV.ev.eq_15, DV.ev.eq_16, DV.ev.eq_17, DV.ev.eq_18, DV.evs.eq_1, DV.evs.eq_2, DV.evc.eq_1, DV.evc.eq_2, DV.evn.eq_1, DV.evn.eq_2, DV.parS.eq_1, DV.parS.eq_2, DV.parS.eq_3, DV.datums.eq_1, DV.datums.eq_2, DV.datum.eq_1, DV.datum.eq_2, DV.datum.eq_3, DV.fre.eq_1, DV.fre.eq_2, DV.fre.eq_3, DV.fres.eq_1, DV.fres.eq_2, DV.argSs.eq_1, DV.argSs.eq_2, DV.argS.eq_1, DV.argS.eq_2, DV.argS.eq_3, DV.nodupB.eq_1, DV.nodupB.eq_2, DV.ownIx.eq_1, DV.ownIx.eq_2, DV.ownIx.eq_3, DV.putOuts.eq_1, DV.putOuts.eq_2, DV.putOuts.eq_3, DV.biD.eq_1, DV.biD.eq_2, DV.biD.eq_3, DV.biD.eq_4, DV.biD.eq_5, DV.biD.eq_6, DV.biD.eq_7, DV.biD.eq_8, DV.biD.eq_9, DV.biD.eq_10, DV.biD.eq_11, DV.biD.eq_12, DV.biD.eq_13, DV.biD.eq_14, DV.biD.eq_15, DV.biD.eq_16, DV.biD.eq_17, DV.biD.eq_18, DV.biD.eq_19, DV.isiD.eq_1, DV.isiD.eq_2, DV.isiD.eq_3, DV.isiD.eq_4, DV.isiD.eq_5, DV.isiD.eq_6, DV.isiD.eq_7, DV.shallow.eq_1, DV.shallow.eq_2, DV.shallow.eq_3, DV.testD.eq_1, DV.truthD.eq_1, DV.truthD.eq_2, DV.truthD.eq_3, DV.truthD.eq_4, DV.truthD.eq_5, DV.truthD.eq_6, DV.truthD.eq_7, DV.truthD.eq_8, DV.finish.eq_1, DV.finish.eq_2, DV.finish.eq_3, DV.finish.eq_4, DV.finish.eq_5, DV.outsOf.eq_1, DV.outsOf.eq_2, DV.outsOf.eq_3, DV.ownPs.eq_1, DV.ownPs.eq_2, DV.ownPs.eq_3, DV.disjB.eq_1, DV.isLst.eq_1, DV.appD.eq_1, DV.extD.eq_1, DV.setD.eq_1, DV.asgT.eq_1, DV.asgT.eq_2, DV.asgT.asgTs.eq_1, DV.asgT.asgTs.eq_2, DV.tgIx.eq_1, DV.tgIx.eq_2, DV.tgIx.tgIxs.eq_1, DV.tgIx.tgIxs.eq_2, DV.iterD.eq_1, DV.iterD.eq_2, DV.iterD.eq_3, DV.it_rng, DV.binD.eq_1, DV.binD.eq_2, DV.binD.eq_3, DV.binD.eq_4, DV.binD.eq_5, DV.binD.eq_6, DV.binD.eq_7, DV.binD.eq_8, DV.binD.eq_9, DV.binD.eq_10, DV.cmpD.eq_1, DV.cmpD.eq_2, DV.cmpD.eq_3, DV.cmpD.eq_4, DV.cmpD.eq_5, DV.cmpD.eq_6, DV.cmpD.eq_7, DV.cmpD.eq_8, DV.cmpD.eq_9, DV.cmpD.eq_10, DV.cmpD.eq_11, DV.cmpD.eq_12, DV.isNonD.eq_1, DV.isNonD.eq_2, DV.ixD.eq_1, DV.ixD.eq_2, DV.ixD.eq_3, DV.ixD.eq_4, DV.slcD.eq_1, DV.slcD.eq_2, DV.slcD.eq_3, DV.slO.eq_1, DV.slO.eq_2, DV.plainIx.eq_1, DV.wipeG.eq_1, DV.wipeG.eq_2, DV.restG.eq_1, DV.restG.eq_2, DV.flatD.eq_1, DV.flatD.eq_2, DV.flatD.eq_3, DV.flatD.eq_4, DV.flatD.eq_5, DV.okB.eq_1, DV.okB.eq_2, DV.okB.eq_3, DV.okB.eq_4, DV.okB.eq_5, DV.okB.eq_6, DV.eqd.eq_1, DV.eqd.eq_2, DV.eqd.eq_3, DV.eqd.eq_4, DV.eqd.eq_5, DV.eqd.eq_6, DV.eqd.eq_7, DV.eqd.eq_8, DV.eqds.eq_1, DV.eqds.eq_2, DV.eqds.eq_3, e1])).trans ?_
    refine (exs_nx (Γ1 := [some (br f w s, false), some (.lst (ts.map D.int), false), none, none, none, none, none]) (by simp [DV.runF.eq_1, DV.exs.eq_1, DV.exs.eq_2, DV.ex.eq_1, DV.ex.eq_2, DV.ex.eq_3, DV.ex.eq_4, DV.ex.eq_5, DV.ex.eq_6, DV.ex.eq_7, DV.ex.eq_8, DV.ex.eq_9, DV.ex.eq_10, DV.ex.eq_11, DV.ex.eq_12, DV.ex.eq_13, DV.ex.eq_14, DV.ex.eq_15, DV.ex.eq_16, DV.ev.eq_1, DV.ev.eq_2, DV.ev.eq_3, DV.ev.eq_4, DV.ev.eq_5, DV.ev.eq_6, DV.ev.eq_7, DV.ev.eq_8, DV.ev.eq_9, DV.ev.eq_10, DV.ev.eq_11, DV.ev.eq_12, DV.ev.eq_13, DV.ev.eq_14, DV.ev.eq_15, DV.ev.eq_16, DV.ev.eq_17, DV.ev.eq_18, DV.evs.eq_1, DV.evs.eq_2, DV.evc.eq_1, DV.evc.eq_2, DV.evn.eq_1, DV.evn.eq_2, DV.parS.eq_1, DV.parS.eq_2, DV.parS.eq_3, DV.datums.eq_1, DV.datums.eq_2, DV.datum.eq_1, DV.datum.eq_2, DV.datum.eq_3, DV.fre.eq_1, DV.fre.eq_2, DV.fre.eq_3, DV.fres.eq_1, DV.fres.eq_2, DV.argSs.eq_1, DV.argSs.eq_2, DV.argS.eq_1, DV.argS.eq_2, DV.argS.eq_3, DV.nodupB.eq_1, DV.nodupB.eq_2, DV.ownIx.eq_1, DV.ownIx.eq_2, DV.ownIx.eq_3, DV.putOuts.eq_1, DV.putOuts.eq_2, DV.putOuts.eq_3, DV.biD.eq_1, DV.biD.eq_2, DV.biD.eq_3, DV.biD.eq_4, DV.biD.eq_5, DV.biD.eq_6, DV.biD.eq_7, DV.biD.eq_8, DV.biD.eq_9, DV.biD.eq_10, DV.biD.eq_11, DV.biD.eq_12, DV.biD.eq_13, DV.biD.eq_14, DV.biD.eq_15, DV.biD.eq_16, DV.biD.eq_17, DV.biD.eq_18, DV.biD.eq_19, DV.isiD.eq_1, DV.isiD.eq_2, DV.isiD.eq_3, DV.isiD.eq_4, DV.isiD.eq_5, DV.isiD.eq_6, DV.isiD.eq_7, DV.shallow.eq_1, DV.shallow.eq_2, DV.shallow.eq_3, DV.testD.eq_1, DV.truthD.eq_1, DV.truthD.eq_2, DV.truthD.eq_3, DV.truthD.eq_4, DV.truthD.eq_5, DV.truthD.eq_6, DV.truthD.eq_7, DV.truthD.eq_8, DV.finish.eq_1, DV.finish.eq_2, DV.finish.eq_3, DV.finish.eq_4, DV.finish.eq_5, DV.outsOf.eq_1, DV.outsOf.eq_2, DV.outsOf.eq_3, DV.ownPs.eq_1, DV.ownPs.eq_2, DV.ownPs.eq_3, DV.disjB.eq_1, DV.isLst.eq_1, DV.appD.eq_1, DV.extD.eq_1, DV.setD.eq_1, DV.asgT.eq_1, DV.asgT.eq_2, DV.asgT.asgTs.eq_1, DV.asgT.asgTs.eq_2, DV.tgIx.eq_1, DV.tgIx.eq_2, DV.tgIx.tgIxs.eq_1, DV.tgIx.tgIxs.eq_2, DV.iterD.eq_1, DV.iterD.eq_2, DV.iterD.eq_3, DV.it_rng, DV.binD.eq_1, DV.binD.eq_2, DV.binD.eq_3, DV.binD.eq_4, DV.binD.eq_5, DV.binD.eq_6, DV.binD.eq_7, DV.binD.eq_8, DV.binD.eq_9, DV.binD.eq_10, DV.cmpD.eq_1, DV.cmpD.eq_2, DV.cmpD.eq_3, DV.cmpD.eq_4, DV.cmpD.eq_5, DV.cmpD.eq_6, DV.cmpD.eq_7, DV.cmpD.eq_8, DV.cmpD.eq_9, DV.cmpD.eq_10, DV.cmpD.eq_11, DV.cmpD.eq_12, DV.isNonD.eq_1, DV.isNonD.eq_2, DV.ixD.eq_1, DV.ixD.eq_2, DV.ixD.eq_3, DV.ixD.eq_4, DV.slcD.eq_1, DV.slcD.eq_2, DV.slcD.eq_3, DV.slO.eq_1, DV.slO.eq_2, DV.plainIx.eq_1, DV.wipeG.eq_1, DV.wipeG.eq_2, DV.restG.eq_1, DV.restG.eq_2, DV.flatD.eq_1, DV.flatD.eq_2, DV.flatD.eq_3, DV.flatD.eq_4, DV.flatD.eq_5, DV.okB.eq_1, DV.okB.eq_2, DV.okB.eq_3, DV.okB.eq_4, DV.okB.eq_5, DV.okB.eq_6, DV.eqd.eq_1, DV.eqd.eq_2, DV.eqd.eq_3, DV.eqd.eq_4, DV.eqd.eq_5, DV.eqd.eq_6, DV.eqd.eq_7, DV.eqd.eq_8, DV.eqds.eq_1, DV.eqds.eq_2, DV.eqds.eq_3, e2])).trans ?_
    refine (exs_nx (Γ1 := [some (br f w s, false), some (.lst (ts.map D.int), false), none, some (.lst [], true), some (.int f, false), some (.int 0, false), none]) (by simp [DV.runF.eq_1, DV.exs.eq_1, DV.exs.eq_2, DV.ex.eq_1, DV.ex.eq_2, DV.ex.eq_3, DV.ex.eq_4, DV.ex.eq_5, DV.ex.eq_6, DV.ex.eq_7, DV.ex.eq_8, DV.ex.eq_9, DV.ex.eq_10, DV.ex.eq_11, DV.ex.eq_12, DV.ex.eq_13, DV.ex.eq_14, DV.ex.eq_15, DV.ex.eq_16, DV.ev.eq_1, DV.ev.eq_2, DV.ev.eq_3, DV.ev.eq_4, DV.ev.eq_5, DV.ev.eq_6, DV.ev.eq_7, DV.ev.eq_8, DV.ev.eq_9, DV.ev.eq_10, DV.ev.eq_11, DV.ev.eq_12, DV.ev.eq_13, DV.ev.eq_14, DV.ev.eq_15, DV.ev.eq_16, DV.ev.eq_17, DV.ev.eq_18, DV.evs.eq_1, DV.evs.eq_2, DV.evc.eq_1, DV.evc.eq_2, DV.evn.eq_1, DV.evn.eq_2, DV.parS.eq_1, DV.parS.eq_2, DV.parS.eq_3, DV.datums.eq_1, DV.datums.eq_2, DV.datum.eq_1, DV.datum.eq_2, DV.datum.eq_3, DV.fre.eq_1, DV.fre.eq_2, DV.fre.eq_3, DV.fres.eq_1, DV.fres.eq_2, DV.argSs.eq_1, DV.argSs.eq_2, DV.argS.eq_1, DV.argS.eq_2, DV.argS.eq_3, DV.nodupB.eq_1, DV.nodupB.eq_2, DV.ownIx.eq_1, DV.ownIx.eq_2, DV.ownIx.eq_3, DV.putOuts.eq_1, DV.putOuts.eq_2, DV.putOuts.eq_3, DV.biD.eq_1, DV.biD.eq_2, DV.biD.eq_3, DV.biD.eq_4, DV.biD.eq_5, DV.biD.eq_6, DV.biD.eq_7, DV.biD.eq_8, DV.biD.eq_9, DV.biD.eq_10, DV.biD.eq_11, DV.biD.eq_12, DV.biD.eq_13, DV.biD.eq_14, DV.biD.eq_15, DV.biD.eq_16, DV.biD.eq_17, DV.biD.eq_18, DV.biD.eq_19, DV.isiD.eq_1, DV.isiD.eq_2, DV.isiD.eq_3, DV.isiD.eq_4, DV.isiD.eq_5, DV.isiD.eq_6, DV.isiD.eq_7, DV.shallow.eq_1, DV.shallow.eq_2, DV.shallow.eq_3, DV.testD.eq_1, DV.truthD.eq_1, DV.truthD.eq_2, DV.truthD.eq_3, DV.truthD.eq_4, DV.truthD.eq_5, DV.truthD.eq_6, DV.truthD.eq_7, DV.truthD.eq_8, DV.finish.eq_1, DV.finish.eq_2, DV.finish.eq_3, DV.finish.eq_4, DV.finish.eq_5, DV.outsOf.eq_1, DV.outsOf.eq_2, DV.outsOf.eq_3, DV.ownPs.eq_1, DV.ownPs.eq_2, DV.ownPs.eq_3, DV.disjB.eq_1, DV.isLst.eq_1, DV.appD.eq_1, DV.extD.eq_1, DV.setD.eq_1, DV.asgT.eq_1, DV.asgT.eq_2, DV.asgT.asgTs.eq_1, DV.asgT.asgTs.eq_2, DV.tgIx.eq_1, DV.tgIx.eq_2, DV.tgIx.tgIxs.eq_1, DV.tgIx.tgIxs.eq_2, DV.iterD.eq_1, DV.iterD.eq_2, DV.iterD.eq_3, DV.it_rng, DV.binD.eq_1, DV.binD.eq_2, DV.binD.eq_3, DV.binD.eq_4, DV.binD.eq_5, DV.binD.eq_6, DV.binD.eq_7, DV.binD.eq_8, DV.binD.eq_9, DV.binD.eq_10, DV.cmpD.eq_1, DV.cmpD.eq_2, DV.cmpD.eq_3, DV.cmpD.eq_4, DV.cmpD.eq_5, DV.cmpD.eq_6, DV.cmpD.eq_7, DV.cmpD.eq_8, DV.cmpD.eq_9, DV.cmpD.eq_10, DV.cmpD.eq_11, DV.cmpD.eq_12, DV.isNonD.eq_1, DV.isNonD.eq_2, DV.ixD.eq_1, DV.ixD.eq_2, DV.ixD.eq_3, DV.ixD.eq_4, DV.slcD.eq_1, DV.slcD.eq_2, DV.slcD.eq_3, DV.slO.eq_1, DV.slO.eq_2, DV.plainIx.eq_1, DV.wipeG.eq_1, DV.wipeG.eq_2, DV.restG.eq_1, DV.restG.eq_2, DV.flatD.eq_1, DV.flatD.eq_2, DV.flatD.eq_3, DV.flatD.eq_4, DV.flatD.eq_5, DV.okB.eq_1, DV.okB.eq_2, DV.okB.eq_3, DV.okB.eq_4, DV.okB.eq_5, DV.okB.eq_6, DV.eqd.eq_1, DV.eqd.eq_2, DV.eqd.eq_3, DV.eqd.eq_4, DV.eqd.eq_5, DV.eqd.eq_6, DV.eqd.eq_7, DV.eqd.eq_8, DV.eqds.eq_1, DV.eqds.eq_2, DV.eqds.eq_3, i0])).trans ?_
    refine (exs_nx (ex_for (by simp [DV.runF.eq_1, DV.exs.eq_1, DV.exs.eq_2, DV.ex.eq_1, DV.ex.eq_2, DV.ex.eq_3, DV.ex.eq_4, DV.ex.eq_5, DV.ex.eq_6, DV.ex.eq_7, DV.ex.eq_8, DV.ex.eq_9, DV.ex.eq_10, DV.ex.eq_11, DV.ex.eq_12, DV.ex.eq_13, DV.ex.eq_14, DV.ex.eq_15, DV.ex.eq_16, DV.ev.eq_1, DV.ev.eq_2, DV.ev.eq_3, DV.ev.eq_4, DV.ev.eq_5, DV.ev.eq_6, DV.ev.eq_7, DV.ev.eq_8, DV.ev.eq_9, DV.ev.eq_10, DV.ev.eq_11, DV.ev.eq_12, DV.ev.eq_13, DV.ev.eq_14, DV.ev.eq_15, DV.ev.eq_16, DV.ev.eq_17, DV.ev.eq_18, DV.evs.eq_1, DV.evs.eq_2, DV.evc.eq_1, DV.evc.eq_2, DV.evn.eq_1, DV.evn.eq_2, DV.parS.eq_1, DV.parS.eq_2, DV.parS.eq_3, DV.datums.eq_1, DV.datums.eq_2, DV.datum.eq_1, DV.datum.eq_2, DV.datum.eq_3, DV.fre.eq_1, DV.fre.eq_2, DV.fre.eq_3, DV.fres.eq_1, DV.fres.eq_2, DV.argSs.eq_1, DV.argSs.eq_2, DV.argS.eq_1, DV.argS.eq_2, DV.argS.eq_3, DV.nodupB.eq_1, DV.nodupB.eq_2, DV.ownIx.eq_1, DV.ownIx.eq_2, DV.ownIx.eq_3, DV.putOuts.eq_1, DV.putOuts.eq_2, DV.putOuts.eq_3, DV.biD.eq_1, DV.biD.eq_2, DV.biD.eq_3, DV.biD.eq_4, DV.biD.eq_5, DV.biD.eq_6, DV.biD.eq_7, DV.biD.eq_8, DV.biD.eq_9, DV.biD.eq_10, DV.biD.eq_11, DV.biD.eq_12, DV.biD.eq_13, DV.biD.eq_14, DV.biD.eq_15, DV.biD.eq_16, DV.biD.eq_17, DV.biD.eq_18, DV.biD.eq_19, DV.isiD.eq_1, DV.isiD.eq_2, DV.isiD.eq_3, DV.isiD.eq_4, DV.isiD.eq_5, DV.isiD.eq_6, DV.isiD.eq_7, DV.shallow.eq_1, DV.shallow.eq_2, DV.shallow.eq_3, DV.testD.eq_1, DV.truthD.eq_1, DV.truthD.eq_2, DV.truthD.eq_3, DV.truthD.eq_4, DV.truthD.eq_5, DV.truthD.eq_6, DV.truthD.eq_7, DV.truthD.eq_8, DV.finish.eq_1, DV.finish.eq_2, DV.finish.eq_3, DV.finish.eq_4, DV.finish.eq_5, DV.outsOf.eq_1, DV.outsOf.eq_2, DV.outsOf.eq_3, DV.ownPs.eq_1, DV.ownPs.eq_2, DV.ownPs.eq_3, DV.disjB.eq_1, DV.isLst.eq_1, DV.appD.eq_1, DV.extD.eq_1, DV.setD.eq_1, DV.asgT.eq_1, DV.asgT.eq_2, DV.asgT.asgTs.eq_1, DV.asgT.asgTs.eq_2, DV.tgIx.eq_1, DV.tgIx.eq_2, DV.tgIx.tgIxs.eq_1, DV.tgIx.tgIxs.eq_2, DV.iterD.eq_1, DV.iterD.eq_2, DV.iterD.eq_3, DV.it_rng, DV.binD.eq_1, DV.binD.eq_2, DV.binD.eq_3, DV.binD.eq_4, DV.binD.eq_5, DV.binD.eq_6, DV.binD.eq_7, DV.binD.eq_8, DV.binD.eq_9, DV.binD.eq_10, DV.cmpD.eq_1, DV.cmpD.eq_2, DV.cmpD.eq_3, DV.cmpD.eq_4, DV.cmpD.eq_5, DV.cmpD.eq_6, DV.cmpD.eq_7, DV.cmpD.eq_8, DV.cmpD.eq_9, DV.cmpD.eq_10, DV.cmpD.eq_11, DV.cmpD.eq_12, DV.isNonD.eq_1, DV.isNonD.eq_2, DV.ixD.eq_1, DV.ixD.eq_2, DV.ixD.eq_3, DV.ixD.eq_4, DV.slcD.eq_1, DV.slcD.eq_2, DV.slcD.eq_3, DV.slO.eq_1, DV.slO.eq_2, DV.plainIx.eq_1, DV.wipeG.eq_1, DV.wipeG.eq_2, DV.restG.eq_1, DV.restG.eq_2, DV.flatD.eq_1, DV.flatD.eq_2, DV.flatD.eq_3, DV.flatD.eq_4, DV.flatD.eq_5, DV.okB.eq_1, DV.okB.eq_2, DV.okB.eq_3, DV.okB.eq_4, DV.okB.eq_5, DV.okB.eq_6, DV.eqd.eq_1, DV.eqd.eq_2, DV.eqd.eq_3, DV.eqd.eq_4, DV.eqd.eq_5, DV.eqd.eq_6, DV.eqd.eq_7, DV.eqd.eq_8, DV.eqds.eq_1, DV.eqds.eq_2, DV.eqds.eq_3]) rfl e)).trans (by simp [DV.runF.eq_1, DV.exs.eq_1, DV.exs.eq_2, DV.ex.eq_1, DV.ex.eq_2, DV.ex.eq_3, DV.ex.eq_4, DV.ex.eq_5, DV.ex.eq_6, DV.ex.eq_7, DV.ex.eq_8, DV.ex.eq_9, DV.ex.eq_10, DV.ex.eq_11, DV.ex.eq_12, DV.ex.eq_13, DV.ex.eq_14, DV.ex.eq_15, DV.ex.eq_16, DV.ev.eq_1, DV.ev.eq_2, DV.ev.eq_3, DV.ev.eq_4, DV.ev.eq_5, DV.ev.eq_6, DV.ev.eq_7, DV.ev.eq_8, DV.ev.eq_9, DV.ev.eq_10, DV.ev.eq_11, DV.ev.eq_12, DV.ev.eq_13, DV.ev.eq_14, DV.ev.eq_15, DV.ev.eq_16, DV.ev.eq_17, DV.ev.eq_18, DV.evs.eq_1, DV.evs.eq_2, DV.evc.eq_1, DV.evc.eq_2, DV.evn.eq_1, DV.evn.eq_2, DV.parS.eq_1, DV.parS.eq_2, DV.parS.eq_3, DV.datums.eq_1, DV.datums.eq_2, DV.datum.eq_1, DV.datum.eq_2, DV.datum.eq_3, DV.fre.eq_1, DV.fre.eq_2, DV.fre.eq_3, DV.fres.eq_1, DV.fres.eq_2, DV.argSs.eq_1, DV.argSs.eq_2, DV.argS.eq_1, DV.argS.eq_2, DV.argS.eq_3, DV.nodupB.eq_1, DV.nodupB.eq_2, DV.ownIx.eq_1, DV.ownIx.eq_2, DV.ownIx.eq_3, DV.putOuts.eq_1, DV.putOuts.eq_2, DV.putOuts.eq_3, DV.biD.eq_1, DV.biD.eq_2, DV.biD.eq_3, DV.biD.eq_4, DV.biD.eq_5, DV.biD.eq_6, DV.biD.eq_7, DV.biD.eq_8, DV.biD.eq_9, DV.biD.eq_10, DV.biD.eq_11, DV.biD.eq_12, DV.biD.eq_13, DV.biD.eq_14, DV.biD.eq_15, DV.biD.eq_16, DV.biD.eq_17, DV.biD.eq_18, DV.biD.eq_19, DV.isiD.eq_1, DV.isiD.eq_2, DV.isiD.eq_3, DV.isiD.eq_4, DV.isiD.eq_5, DV.isiD.eq_6, DV.isiD.eq_7, DV.shallow.eq_1, DV.shallow.eq_2, DV.shallow.eq_3, DV.testD.eq_1, DV.truthD.eq_1, DV.truthD.eq_2, DV.truthD.eq_3, DV.truthD.eq_4, DV.truthD.eq_5, DV.truthD.eq_6, DV.truthD.eq_7, DV.truthD.eq_8, DV.finish.eq_1, DV.finish.eq_2, DV.finish.eq_3, DV.finish.eq_4, DV.finish.eq_5, DV.outsOf.eq_1, DV.outsOf.eq_2, DV.outsOf.eq_3, DV.ownPs.eq_1, DV.ownPs.eq_2, DV.ownPs.eq_3, DV.disjB.eq_1, DV.isLst.eq_1, DV.appD.eq_1, DV.extD.eq_1, DV.setD.eq_1, DV.asgT.eq_1, DV.asgT.eq_2, DV.asgT.asgTs.eq_1, DV.asgT.asgTs.eq_2, DV.tgIx.eq_1, DV.tgIx.eq_2, DV.tgIx.tgIxs.eq_1, DV.tgIx.tgIxs.eq_2, DV.iterD.eq_1, DV.iterD.eq_2, DV.iterD.eq_3, DV.it_rng, DV.binD.eq_1, DV.binD.eq_2, DV.binD.eq_3, DV.binD.eq_4, DV.binD.eq_5, DV.binD.eq_6, DV.binD.eq_7, DV.binD.eq_8, DV.binD.eq_9, DV.binD.eq_10, DV.cmpD.eq_1, DV.cmpD.eq_2, DV.cmpD.eq_3, DV.cmpD.eq_4, DV.cmpD.eq_5, DV.cmpD.eq_6, DV.cmpD.eq_7, DV.cmpD.eq_8, DV.cmpD.eq_9, DV.cmpD.eq_10, DV.cmpD.eq_11, DV.cmpD.eq_12, DV.isNonD.eq_1, DV.isNonD.eq_2, DV.ixD.eq_1, DV.ixD.eq_2, DV.ixD.eq_3, DV.ixD.eq_4, DV.slcD.eq_1, DV.slcD.eq_2, DV.slcD.eq_3, DV.slO.eq_1, DV.slO.eq_2, DV.plainIx.eq_1, DV.wipeG.eq_1, DV.wipeG.eq_2, DV.restG.eq_1, DV.restG.eq_2, DV.flatD.eq_1, DV.flatD.eq_2, DV.flatD.eq_3, DV.flatD.eq_4, DV.flatD.eq_5, DV.okB.eq_1, DV.okB.eq_2, DV.okB.eq_3, DV.okB.eq_4, DV.okB.eq_5, DV.okB.eq_6, DV.eqd.eq_1, DV.eqd.eq_2, DV.eqd.eq_3, DV.eqd.eq_4, DV.eqd.eq_5, DV.eqd.eq_6, DV.eqd.eq_7, DV.eqd.eq_8, DV.eqds.eq_1, DV.eqds.eq_2, DV.eqds.eq_3])

/-! ### the law's own log -/
def oD : Option Int → D
  | none => .non
  | some s => .int s
def psd (w t : Int) : Option Int → Bool
  | none => true
  | some s => decide (s + w ≤ t)
def lawG (w : Int) : Int → Option Int → List Int → List D
  | _, _, [] => []
  | l, so, t :: r => if psd w t so then .tup [.int t, .bl true] :: lawG w (max (l - 1) 0) (if max (l - 1) 0 = 0 then some t else none) r else .tup [.int t, .bl false] :: lawG w l so r
theorem logs_alike (w : Int) : ∀ (ts : List Int) (l s : Int) (so : Option Int), (0 < l ∧ so = none) ∨ (l = 0 ∧ so = some s) → logF w l s ts = lawG w l so ts
  | [], _, _, _, _ => rfl
  | t :: r, l, s, so, h => by
    rcases h with ⟨h1, rfl⟩ | ⟨rfl, rfl⟩
    · have e : max 0 (l - 1) = max (l - 1) 0 := by omega
      simp only [logF, lawG, psd, h1, true_or, if_true]
      rw [e]
      congr 1
      by_cases h2 : max (l - 1) 0 = 0
      · rw [if_pos h2]
        exact logs_alike w r _ t _ (.inr ⟨h2, rfl⟩)
      · rw [if_neg h2]
        exact logs_alike w r _ t _ (.inl ⟨by omega, rfl⟩)
    · simp only [logF, lawG, psd, decide_eq_true_eq]
      by_cases h2 : w ≤ t - s
      · have h3 : s + w ≤ t := by omega
        rw [if_pos (.inr h2), if_pos h3]
        congr 1
        exact logs_alike w r _ t _ (.inr ⟨by decide, rfl⟩)
      · have h3 : ¬ s + w ≤ t := by omega
        have h4 : ¬ ((0 : Int) < 0 ∨ w ≤ t - s) := by omega
        rw [if_neg h4, if_neg h3]
        congr 1
        exact logs_alike w r _ s _ (.inr ⟨rfl, rfl⟩)
theorem lawlog_loop (f w s : Int) (T : D) : ∀ (suf : List Int) (acc : List D) (l : Int) (so : Option Int) (x2 x6 : Sl) (pn : List Nat), disjB [2, 6, 4, 5] pn = true → acc.length + suf.length ≤ 1000 → ∃ x2' x4' x5' x6', forLoop (.nm 2) (exs [] pn B__law_log_1) (suf.map D.int) [some (br f w s, false), some (T, false), x2, some (.lst acc, true), some (.int l, false), some (oD so, false), x6] =
      some (.nx [some (br f w s, false), some (T, false), x2', some (.lst (acc ++ lawG w l so suf), true), x4', x5', x6'])
  | [], acc, l, so, x2, x6, pn, dj, _ => ⟨x2, some (.int l, false), some (oD so, false), x6, by simp [forLoop, lawG]⟩
  | t :: suf, acc, l, so, x2, x6, pn, dj, hz => by
    have i1 : ∀ x y z : D, atI [x, y, z] 1 = some y := fun _ _ _ => rfl
    have hacc : acc.length < 16777216 := by
      rw [List.length_cons] at hz
      omega
    have d2 := dj
    simp only [disjB, List.all_cons, List.all_nil, Bool.and_true, Bool.and_eq_true, Bool.not_eq_true', List.contains_eq_mem, decide_eq_false_iff_not] at d2
    obtain ⟨d2, d6, d4, d5⟩ := d2
    by_cases hc : psd w t so = true
    · obtain ⟨y2, y4, y5, y6, ih⟩ := lawlog_loop f w s T suf (acc ++ [.tup [.int t, .bl true]]) (max (l - 1) 0) (if max (l - 1) 0 = 0 then some t else none) (some (.int t, false)) (some (.bl true, false)) pn dj (by simp at hz ⊢; omega)
      refine ⟨y2, y4, y5, y6, ?_⟩
      refine (forLoop_step (Γ1 := [some (br f w s, false), some (T, false), some (.int t, false), some (.lst acc, true), some (.int l, false), some (oD so, false), x6]) (Γ2 := [some (br f w s, false), some (T, false), some (.int t, false), some (.lst (acc ++ [.tup [.int t, .bl true]]), true), some (.int (max (l - 1) 0), false), some (oD (if max (l - 1) 0 = 0 then some t else none), false), some (.bl true, false)]) (by simp [DV.runF.eq_1, DV.exs.eq_1, DV.exs.eq_2, DV.ex.eq_1, DV.ex.eq_2, DV.ex.eq_3, DV.ex.eq_4, DV.ex.eq_5, DV.ex.eq_6, DV.ex.eq_7, DV.ex.eq_8, DV.ex.eq_9, DV.ex.eq_10, DV.ex.eq_11, DV.ex.eq_12, DV.ex.eq_13, DV.ex.eq_14, DV.ex.eq_15, DV.ex.eq_16, DV.ev.eq_1, DV.ev.eq_2, DV.ev.eq_3, DV.ev.eq_4, DV.ev.eq_5, DV.ev.eq_6, DV.ev.eq_7, DV.ev.eq_8, DV.ev.eq_9, DV.ev.eq_10, DV.ev.eq_11, DV.ev.eq_12, DV.ev.eq_13, DV.ev.eq_14, DV.ev.eq_15, DV.ev.eq_16, DV.ev.eq_17, DV.ev.eq_18, DV.evs.eq_1, DV.evs.eq_2, DV.evc.eq_1, DV.evc.eq_2, DV.evn.eq_1, DV.evn.eq_2, DV.parS.eq_1, DV.parS.eq_2, DV.parS.eq_3, DV.datums.eq_1, DV.datums.eq_2, DV.datum.eq_1, DV.datum.eq_2, DV.datum.eq_3, DV.fre.eq_1, DV.fre.eq_2, DV.fre.eq_3, DV.fres.eq_1, DV.fres.eq_2, DV.argSs.eq_1, DV.argSs.eq_2, DV.argS.eq_1, DV.argS.eq_2, DV.argS.eq_3, DV.nodupB.eq_1, DV.nodupB.eq_2, DV.ownIx.eq_1, DV.ownIx.eq_2, DV.ownIx.eq_3, DV.putOuts.eq_1, DV.putOuts.eq_2, DV.putOuts.eq_3, DV.biD.eq_1, DV.biD.eq_2, DV.biD.eq_3, DV.biD.eq_4, DV.biD.eq_5, DV.biD.eq_6, DV.biD.eq_7, DV.biD.eq_8, DV.biD.eq_9, DV.biD.eq_10, DV.biD.eq_11, DV.biD.eq_12, DV.biD.eq_13, DV.biD.eq_14, DV.biD.eq_15, DV.biD.eq_16, DV.biD.eq_17, DV.biD.eq_18, DV.biD.eq_19, DV.isiD.eq_1, DV.isiD.eq_2, DV.isiD.eq_3, DV.isiD.eq_4, DV.isiD.eq_5, DV.isiD.eq_6, DV.isiD.eq_7, DV.shallow.eq_1, DV.shallow.eq_2, DV.shallow.eq_3, DV.testD.eq_1, DV.truthD.eq_1, DV.truthD.eq_2, DV.truthD.eq_3, DV.truthD.eq_4, DV.truthD.eq_5, DV.truthD.eq_6, DV.truthD.eq_7, DV.truthD.eq_8, DV.finish.eq_1, DV.finish.eq_2, DV.finish.eq_3, DV.finish.eq_4, DV.finish.eq_5, DV.outsOf.eq_1, DV.outsOf.eq_2, DV.outsOf.eq_3, DV.ownPs.eq_1, DV.ownPs.eq_2, DV.ownPs.eq_3, DV.disjB.eq_1, DV.isLst.eq_1, DV.appD.eq_1, DV.extD.eq_1, DV.setD.eq_1, DV.asgT.eq_1, DV.asgT.eq_2, DV.asgT.asgTs.eq_1, DV.asgT.asgTs.eq_2, DV.tgIx.eq_1, DV.tgIx.eq_2, DV.tgIx.tgIxs.eq_1, DV.tgIx.tgIxs.eq_2, DV.iterD.eq_1, DV.iterD.eq_2, DV.iterD.eq_3, DV.it_rng, DV.binD.eq_1, DV.binD.eq_2, DV.binD.eq_3, DV.binD.eq_4, DV.binD.eq_5, DV.binD.eq_6, DV.binD.eq_7, DV.binD.eq_8, DV.binD.eq_9, DV.binD.eq_10, DV.cmpD.eq_1, DV.cmpD.eq_2, DV.cmpD.eq_3, DV.cmpD.eq_4, DV.cmpD.eq_5, DV.cmpD.eq_6, DV.cmpD.eq_7, DV.cmpD.eq_8, DV.cmpD.eq_9, DV.cmpD.eq_10, DV.cmpD.eq_11, DV.cmpD.eq_12, DV.isNonD.eq_1, DV.isNonD.eq_2, DV.ixD.eq_1, DV.ixD.eq_2, DV.ixD.eq_3, DV.ixD.eq_4, DV.slcD.eq_1, DV.slcD.eq_2, DV.slcD.eq_3, DV.slO.eq_1, DV.slO.eq_2, DV.plainIx.eq_1, DV.wipeG.eq_1, DV.wipeG.eq_2, DV.restG.eq_1, DV.restG.eq_2, DV.flatD.eq_1, DV.flatD.eq_2, DV.flatD.eq_3, DV.flatD.eq_4, DV.flatD.eq_5, DV.okB.eq_1, DV.okB.eq_2, DV.okB.eq_3, DV.okB.eq_4, DV.okB.eq_5, DV.okB.eq_6, DV.eqd.eq_1, DV.eqd.eq_2, DV.eqd.eq_3, DV.eqd.eq_4, DV.eqd.eq_5, DV.eqd.eq_6, DV.eqd.eq_7, DV.eqd.eq_8, DV.eqds.eq_1, DV.eqds.eq_2, DV.eqds.eq_3]) ?_).trans ?_
      · have hx : ev [] (.or (.cmp .is (.var 5) (.cst .non)) (.cmp .ge (.var 2) (.bin .add (.var 5) (.ix (.var 0) (.cst (.int 1)))))) [some (br f w s, false), some (T, false), some (.int t, false), some (.lst acc, true), some (.int l, false), some (oD so, false), x6] = some (.fz (.bl true), [some (br f w s, false), some (T, false), some (.int t, false), some (.lst acc, true), some (.int l, false), some (oD so, false), x6]) := by
          cases so with
          | none => simp [DV.runF.eq_1, DV.exs.eq_1, DV.exs.eq_2, DV.ex.eq_1, DV.ex.eq_2, DV.ex.eq_3, DV.ex.eq_4, DV.ex.eq_5, DV.ex.eq_6, DV.ex.eq_7, DV.ex.eq_8, DV.ex.eq_9, DV.ex.eq_10, DV.ex.eq_11, DV.ex.eq_12, DV.ex.eq_13, DV.ex.eq_14, DV.ex.eq_15, DV.ex.eq_16, DV.ev.eq_1, DV.ev.eq_2, DV.ev.eq_3, DV.ev.eq_4, DV.ev.eq_5, DV.ev.eq_6, DV.ev.eq_7, DV.ev.eq_8, DV.ev.eq_9, DV.ev.eq_10, DV.ev.eq_11, DV.ev.eq_12, DV.ev.eq_13, DV.ev.eq_14, DV.ev.eq_15, DV.ev.eq_16, DV.ev.eq_17, DV.ev.eq_18, DV.evs.eq_1, DV.evs.eq_2, DV.evc.eq_1, DV.evc.eq_2, DV.evn.eq_1, DV.evn.eq_2, DV.parS.eq_1, DV.parS.eq_2, DV.parS.eq_3, DV.datums.eq_1, DV.datums.eq_2, DV.datum.eq_1, DV.datum.eq_2, DV.datum.eq_3, DV.fre.eq_1, DV.fre.eq_2, DV.fre.eq_3, DV.fres.eq_1, DV.fres.eq_2, DV.argSs.eq_1, DV.argSs.eq_2, DV.argS.eq_1, DV.argS.eq_2, DV.argS.eq_3, DV.nodupB.eq_1, DV.nodupB.eq_2, DV.ownIx.eq_1, DV.ownIx.eq_2, DV.ownIx.eq_3, DV.putOuts.eq_1, DV.putOuts.eq_2, DV.putOuts.eq_3, DV.biD.eq_1, DV.biD.eq_2, DV.biD.eq_3, DV.biD.eq_4, DV.biD.eq_5, DV.biD.eq_6, DV.biD.eq_7, DV.biD.eq_8, DV.biD.eq_9, DV.biD.eq_10, DV.biD.eq_11, DV.biD.eq_12, DV.biD.eq_13, DV.biD.eq_14, DV.biD.eq_15, DV.biD.eq_16, DV.biD.eq_17, DV.biD.eq_18, DV.biD.eq_19, DV.isiD.eq_1, DV.isiD.eq_2, DV.isiD.eq_3, DV.isiD.eq_4, DV.isiD.eq_5, DV.isiD.eq_6, DV.isiD.eq_7, DV.shallow.eq_1, DV.shallow.eq_2, DV.shallow.eq_3, DV.testD.eq_1, DV.truthD.eq_1, DV.truthD.eq_2, DV.truthD.eq_3, DV.truthD.eq_4, DV.truthD.eq_5, DV.truthD.eq_6, DV.truthD.eq_7, DV.truthD.eq_8, DV.finish.eq_1, DV.finish.eq_2, DV.finish.eq_3, DV.finish.eq_4, DV.finish.eq_5, DV.outsOf.eq_1, DV.outsOf.eq_2, DV.outsOf.eq_3, DV.ownPs.eq_1, DV.ownPs.eq_2, DV.ownPs.eq_3, DV.disjB.eq_1, DV.isLst.eq_1, DV.appD.eq_1, DV.extD.eq_1, DV.setD.eq_1, DV.asgT.eq_1, DV.asgT.eq_2, DV.asgT.asgTs.eq_1, DV.asgT.asgTs.eq_2, DV.tgIx.eq_1, DV.tgIx.eq_2, DV.tgIx.tgIxs.eq_1, DV.tgIx.tgIxs.eq_2, DV.iterD.eq_1, DV.iterD.eq_2, DV.iterD.eq_3, DV.it_rng, DV.binD.eq_1, DV.binD.eq_2, DV.binD.eq_3, DV.binD.eq_4, DV.binD.eq_5, DV.binD.eq_6, DV.binD.eq_7, DV.binD.eq_8, DV.binD.eq_9, DV.binD.eq_10, DV.cmpD.eq_1, DV.cmpD.eq_2, DV.cmpD.eq_3, DV.cmpD.eq_4, DV.cmpD.eq_5, DV.cmpD.eq_6, DV.cmpD.eq_7, DV.cmpD.eq_8, DV.cmpD.eq_9, DV.cmpD.eq_10, DV.cmpD.eq_11, DV.cmpD.eq_12, DV.isNonD.eq_1, DV.isNonD.eq_2, DV.ixD.eq_1, DV.ixD.eq_2, DV.ixD.eq_3, DV.ixD.eq_4, DV.slcD.eq_1, DV.slcD.eq_2, DV.slcD.eq_3, DV.slO.eq_1, DV.slO.eq_2, DV.plainIx.eq_1, DV.wipeG.eq_1, DV.wipeG.eq_2, DV.restG.eq_1, DV.restG.eq_2, DV.flatD.eq_1, DV.flatD.eq_2, DV.flatD.eq_3, DV.flatD.eq_4, DV.flatD.eq_5, DV.okB.eq_1, DV.okB.eq_2, DV.okB.eq_3, DV.okB.eq_4, DV.okB.eq_5, DV.okB.eq_6, DV.eqd.eq_1, DV.eqd.eq_2, DV.eqd.eq_3, DV.eqd.eq_4, DV.eqd.eq_5, DV.eqd.eq_6, DV.eqd.eq_7, DV.eqd.eq_8, DV.eqds.eq_1, DV.eqds.eq_2, DV.eqds.eq_3, oD]
          | some s0 =>
            have hc : s0 + w ≤ t := by simpa [psd] using hc
            simp [DV.runF.eq_1, DV.exs.eq_1, DV.exs.eq_2, DV.ex.eq_1, DV.ex.eq_2, DV.ex.eq_3, DV.ex.eq_4, DV.ex.eq_5, DV.ex.eq_6, DV.ex.eq_7, DV.ex.eq_8, DV.ex.eq_9, DV.ex.eq_10, DV.ex.eq_11, DV.ex.eq_12, DV.ex.eq_13, DV.ex.eq_14, DV.ex.eq_15, DV.ex.eq_16, DV.ev.eq_1, DV.ev.eq_2, DV.ev.eq_3, DV.ev.eq_4, DV.ev.eq_5, DV.ev.eq_6, DV.ev.eq_7, DV.ev.eq_8, DV.ev.eq_9, DV.ev.eq_10, DV.ev.eq_11, DV.ev.eq_12, DV.ev.eq_13, DV.ev.eq_14, DV.ev.eq_15, DV.ev.eq_16, DV.ev.eq_17, DV.ev.eq_18, DV.evs.eq_1, DV.evs.eq_2, DV.evc.eq_1, DV.evc.eq_2, DV.evn.eq_1, DV.evn.eq_2, DV.parS.eq_1, DV.parS.eq_2, DV.parS.eq_3, DV.datums.eq_1, DV.datums.eq_2, DV.datum.eq_1, DV.datum.eq_2, DV.datum.eq_3, DV.fre.eq_1, DV.fre.eq_2, DV.fre.eq_3, DV.fres.eq_1, DV.fres.eq_2, DV.argSs.eq_1, DV.argSs.eq_2, DV.argS.eq_1, DV.argS.eq_2, DV.argS.eq_3, DV.nodupB.eq_1, DV.nodupB.eq_2, DV.ownIx.eq_1, DV.ownIx.eq_2, DV.ownIx.eq_3, DV.putOuts.eq_1, DV.putOuts.eq_2, DV.putOuts.eq_3, DV.biD.eq_1, DV.biD.eq_2, DV.biD.eq_3, DV.biD.eq_4, DV.biD.eq_5, DV.biD.eq_6, DV.biD.eq_7, DV.biD.eq_8, DV.biD.eq_9, DV.biD.eq_10, DV.biD.eq_11, DV.biD.eq_12, DV.biD.eq_13, DV.biD.eq_14, DV.biD.eq_15, DV.biD.eq_16, DV.biD.eq_17, DV.biD.eq_18, DV.biD.eq_19, DV.isiD.eq_1, DV.isiD.eq_2, DV.isiD.eq_3, DV.isiD.eq_4, DV.isiD.eq_5, DV.isiD.eq_6, DV.isiD.eq_7, DV.shallow.eq_1, DV.shallow.eq_2, DV.shallow.eq_3, DV.testD.eq_1, DV.truthD.eq_1, DV.truthD.eq_2, DV.truthD.eq_3, DV.truthD.eq_4, DV.truthD.eq_5, DV.truthD.eq_6, DV.truthD.eq_7, DV.truthD.eq_8, DV.finish.eq_1, DV.finish.eq_2, DV.finish.eq_3, DV.finish.eq_4, DV.finish.eq_5, DV.outsOf.eq_1, DV.outsOf.eq_2, DV.outsOf.eq_3, DV.ownPs.eq_1, DV.ownPs.eq_2, DV.ownPs.eq_3, DV.disjB.eq_1, DV.isLst.eq_1, DV.appD.eq_1, DV.extD.eq_1, DV.setD.eq_1, DV.asgT.eq_1, DV.asgT.eq_2, DV.asgT.asgTs.eq_1, DV.asgT.asgTs.eq_2, DV.tgIx.eq_1, DV.tgIx.eq_2, DV.tgIx.tgIxs.eq_1, DV.tgIx.tgIxs.eq_2, DV.iterD.eq_1, DV.iterD.eq_2, DV.iterD.eq_3, DV.it_rng, DV.binD.eq_1, DV.binD.eq_2, DV.binD.eq_3, DV.binD.eq_4, DV.binD.eq_5, DV.binD.eq_6, DV.binD.eq_7, DV.binD.eq_8, DV.binD.eq_9, DV.binD.eq_10, DV.cmpD.eq_1, DV.cmpD.eq_2, DV.cmpD.eq_3, DV.cmpD.eq_4, DV.cmpD.eq_5, DV.cmpD.eq_6, DV.cmpD.eq_7, DV.cmpD.eq_8, DV.cmpD.eq_9, DV.cmpD.eq_10, DV.cmpD.eq_11, DV.cmpD.eq_12, DV.isNonD.eq_1, DV.isNonD.eq_2, DV.ixD.eq_1, DV.ixD.eq_2, DV.ixD.eq_3, DV.ixD.eq_4, DV.slcD.eq_1, DV.slcD.eq_2, DV.slcD.eq_3, DV.slO.eq_1, DV.slO.eq_2, DV.plainIx.eq_1, DV.wipeG.eq_1, DV.wipeG.eq_2, DV.restG.eq_1, DV.restG.eq_2, DV.flatD.eq_1, DV.flatD.eq_2, DV.flatD.eq_3, DV.flatD.eq_4, DV.flatD.eq_5, DV.okB.eq_1, DV.okB.eq_2, DV.okB.eq_3, DV.okB.eq_4, DV.okB.eq_5, DV.okB.eq_6, DV.eqd.eq_1, DV.eqd.eq_2, DV.eqd.eq_3, DV.eqd.eq_4, DV.eqd.eq_5, DV.eqd.eq_6, DV.eqd.eq_7, DV.eqd.eq_8, DV.eqds.eq_1, DV.eqds.eq_2, DV.eqds.eq_3, oD, i1, hc]
        unfold B__law_log_1
        refine (exs_nx (Γ1 := [some (br f w s, false), some (T, false), some (.int t, false), some (.lst acc, true), some (.int l, false), some (oD so, false), some (.bl true, false)]) (by simp only [ex, hx]; simp [DV.runF.eq_1, DV.exs.eq_1, DV.exs.eq_2, DV.ex.eq_1, DV.ex.eq_2, DV.ex.eq_3, DV.ex.eq_4, DV.ex.eq_5, DV.ex.eq_6, DV.ex.eq_7, DV.ex.eq_8, DV.ex.eq_9, DV.ex.eq_10, DV.ex.eq_11, DV.ex.eq_12, DV.ex.eq_13, DV.ex.eq_14, DV.ex.eq_15, DV.ex.eq_16, DV.ev.eq_1, DV.ev.eq_2, DV.ev.eq_3, DV.ev.eq_4, DV.ev.eq_5, DV.ev.eq_6, DV.ev.eq_7, DV.ev.eq_8, DV.ev.eq_9, DV.ev.eq_10, DV.ev.eq_11, DV.ev.eq_12, DV.ev.eq_13, DV.ev.eq_14, DV.ev.eq_15, DV.ev.eq_16, DV.ev.eq_17, DV.ev.eq_18, DV.evs.eq_1, DV.evs.eq_2, DV.evc.eq_1, DV.evc.eq_2, DV.evn.eq_1, DV.evn.eq_2, DV.parS.eq_1, DV.parS.eq_2, DV.parS.eq_3, DV.datums.eq_1, DV.datums.eq_2, DV.datum.eq_1, DV.datum.eq_2, DV.datum.eq_3, DV.fre.eq_1, DV.fre.eq_2, DV.fre.eq_3, DV.fres.eq_1, DV.fres.eq_2, DV.argSs.eq_1, DV.argSs.eq_2, DV.argS.eq_1, DV.argS.eq_2, DV.argS.eq_3, DV.nodupB.eq_1, DV.nodupB.eq_2, DV.ownIx.eq_1, DV.ownIx.eq_2, DV.ownIx.eq_3, DV.putOuts.eq_1, DV.putOuts.eq_2, DV.putOuts.eq_3, DV.biD.eq_1, DV.biD.eq_2, DV.biD.eq_3, DV.biD.eq_4, DV.biD.eq_5, DV.biD.eq_6, DV.biD.eq_7, DV.biD.eq_8, DV.biD.eq_9, DV.biD.eq_10, DV.biD.eq_11, DV.biD.eq_12, DV.biD.eq_13, DV.biD.eq_14, DV.biD.eq_15, DV.biD.eq_16, DV.biD.eq_17, DV.biD.eq_18, DV.biD.eq_19, DV.isiD.eq_1, DV.isiD.eq_2, DV.isiD.eq_3, DV.isiD.eq_4, DV.isiD.eq_5, DV.isiD.eq_6, DV.isiD.eq_7, DV.shallow.eq_1, DV.shallow.eq_2, DV.shallow.eq_3, DV.testD.eq_1, DV.truthD.eq_1, DV.truthD.eq_2, DV.truthD.eq_3, DV.truthD.eq_4, DV.truthD.eq_5, DV.truthD.eq_6, DV.truthD.eq_7, DV.truthD.eq_8, DV.finish.eq_1, DV.finish.eq_2, DV.finish.eq_3, DV.finish.eq_4, DV.finish.eq_5, DV.outsOf.eq_1, DV.outsOf.eq_2, DV.outsOf.eq_3, DV.ownPs.eq_1, DV.ownPs.eq_2, DV.ownPs.eq_3, DV.disjB.eq_1, DV.isLst.eq_1, DV.appD.eq_1, DV.extD.eq_1, DV.setD.eq_1, DV.asgT.eq_1, DV.asgT.eq_2, DV.asgT.asgTs.eq_1, DV.asgT.asgTs.eq_2, DV.tgIx.eq_1, DV.tgIx.eq_2, DV.tgIx.tgIxs.eq_1, DV.tgIx.tgIxs.eq_2, DV.iterD.eq_1, DV.iterD.eq_2, DV.iterD.eq_3, DV.it_rng, DV.binD.eq_1, DV.binD.eq_2, DV.binD.eq_3, DV.binD.eq_4, DV.binD.eq_5, DV.binD.eq_6, DV.binD.eq_7, DV.binD.eq_8, DV.binD.eq_9, DV.binD.eq_10, DV.cmpD.eq_1, DV.cmpD.eq_2, DV.cmpD.eq_3, DV.cmpD.eq_4, DV.cmpD.eq_5, DV.cmpD.eq_6, DV.cmpD.eq_7, DV.cmpD.eq_8, DV.cmpD.eq_9, DV.cmpD.eq_10, DV.cmpD.eq_11, DV.cmpD.eq_12, DV.isNonD.eq_1, DV.isNonD.eq_2, DV.ixD.eq_1, DV.ixD.eq_2, DV.ixD.eq_3, DV.ixD.eq_4, DV.slcD.eq_1, DV.slcD.eq_2, DV.slcD.eq_3, DV.slO.eq_1, DV.slO.eq_2, DV.plainIx.eq_1, DV.wipeG.eq_1, DV.wipeG.eq_2, DV.restG.eq_1, DV.restG.eq_2, DV.flatD.eq_1, DV.flatD.eq_2, DV.flatD.eq_3, DV.flatD.eq_4, DV.flatD.eq_5, DV.okB.eq_1, DV.okB.eq_2, DV.okB.eq_3, DV.okB.eq_4, DV.okB.eq_5, DV.okB.eq_6, DV.eqd.eq_1, DV.eqd.eq_2, DV.eqd.eq_3, DV.eqd.eq_4, DV.eqd.eq_5, DV.eqd.eq_6, DV.eqd.eq_7, DV.eqd.eq_8, DV.eqds.eq_1, DV.eqds.eq_2, DV.eqds.eq_3, d6])).trans ?_
        have hm : biD .max2 [.int (l - 1), .int 0] = some (.fz (.int (max (l - 1) 0))) := by
          simp only [biD]
          congr 3
          omega
        have hi : ex [] pn (.asgO 4 (.bi .max2 [.bin .sub (.var 4) (.cst (.int 1)), .cst (.int 0)])) [some (br f w s, false), some (T, false), some (.int t, false), some (.lst acc, true), some (.int l, false), some (oD so, false), some (.bl true, false)] = some (.nx [some (br f w s, false), some (T, false), some (.int t, false), some (.lst acc, true), some (.int (max (l - 1) 0), false), some (oD so, false), some (.bl true, false)]) := by
          simp [DV.ex.eq_7, DV.ev.eq_2, DV.ev.eq_3, DV.ev.eq_4, DV.ev.eq_17, DV.evs.eq_1, DV.evs.eq_2, DV.datums.eq_1, DV.datums.eq_2, DV.datum.eq_1, DV.datum.eq_3, DV.binD.eq_5, hm, DV.fre.eq_1, DV.disjB.eq_1, d4]
        generalize hl : max (l - 1) 0 = l1 at hi ⊢
        by_cases h0 : l1 = 0
        · subst h0
          refine (exs_nx (Γ1 := [some (br f w s, false), some (T, false), some (.int t, false), some (.lst acc, true), some (.int 0, false), some (.int t, false), some (.bl true, false)]) (ex_ite (t := true) (x := .sl 6) rfl rfl ?_)).trans ?_
          · exact (exs_nx hi).trans (by simp [DV.runF.eq_1, DV.exs.eq_1, DV.exs.eq_2, DV.ex.eq_1, DV.ex.eq_2, DV.ex.eq_3, DV.ex.eq_4, DV.ex.eq_5, DV.ex.eq_6, DV.ex.eq_7, DV.ex.eq_8, DV.ex.eq_9, DV.ex.eq_10, DV.ex.eq_11, DV.ex.eq_12, DV.ex.eq_13, DV.ex.eq_14, DV.ex.eq_15, DV.ex.eq_16, DV.ev.eq_1, DV.ev.eq_2, DV.ev.eq_3, DV.ev.eq_4, DV.ev.eq_5, DV.ev.eq_6, DV.ev.eq_7, DV.ev.eq_8, DV.ev.eq_9, DV.ev.eq_10, DV.ev.eq_11, DV.ev.eq_12, DV.ev.eq_13, DV.ev.eq_14, DV.ev.eq_15, DV.ev.eq_16, DV.ev.eq_17, DV.ev.eq_18, DV.evs.eq_1, DV.evs.eq_2, DV.evc.eq_1, DV.evc.eq_2, DV.evn.eq_1, DV.evn.eq_2, DV.parS.eq_1, DV.parS.eq_2, DV.parS.eq_3, DV.datums.eq_1, DV.datums.eq_2, DV.datum.eq_1, DV.datum.eq_2, DV.datum.eq_3, DV.fre.eq_1, DV.fre.eq_2, DV.fre.eq_3, DV.fres.eq_1, DV.fres.eq_2, DV.argSs.eq_1, DV.argSs.eq_2, DV.argS.eq_1, DV.argS.eq_2, DV.argS.eq_3, DV.nodupB.eq_1, DV.nodupB.eq_2, DV.ownIx.eq_1, DV.ownIx.eq_2, DV.ownIx.eq_3, DV.putOuts.eq_1, DV.putOuts.eq_2, DV.putOuts.eq_3, DV.biD.eq_1, DV.biD.eq_2, DV.biD.eq_3, DV.biD.eq_4, DV.biD.eq_5, DV.biD.eq_6, DV.biD.eq_7, DV.biD.eq_8, DV.biD.eq_9, DV.biD.eq_10, DV.biD.eq_11, DV.biD.eq_12, DV.biD.eq_13, DV.biD.eq_14, DV.biD.eq_15, DV.biD.eq_16, DV.biD.eq_17, DV.biD.eq_18, DV.biD.eq_19, DV.isiD.eq_1, DV.isiD.eq_2, DV.isiD.eq_3, DV.isiD.eq_4, DV.isiD.eq_5, DV.isiD.eq_6, DV.isiD.eq_7, DV.shallow.eq_1, DV.shallow.eq_2, DV.shallow.eq_3, DV.testD.eq_1, DV.truthD.eq_1, DV.truthD.eq_2, DV.truthD.eq_3, DV.truthD.eq_4, DV.truthD.eq_5, DV.truthD.eq_6, DV.truthD.eq_7, DV.truthD.eq_8, DV.finish.eq_1, DV.finish.eq_2, DV.finish.eq_3, DV.finish.eq_4, DV.finish.eq_5, DV.outsOf.eq_1, DV.outsOf.eq_2, DV.outsOf.eq_3, DV.ownPs.eq_1, DV.ownPs.eq_2, DV.ownPs.eq_3, DV.disjB.eq_1, DV.isLst.eq_1, DV.appD.eq_1, DV.extD.eq_1, DV.setD.eq_1, DV.asgT.eq_1, DV.asgT.eq_2, DV.asgT.asgTs.eq_1, DV.asgT.asgTs.eq_2, DV.tgIx.eq_1, DV.tgIx.eq_2, DV.tgIx.tgIxs.eq_1, DV.tgIx.tgIxs.eq_2, DV.iterD.eq_1, DV.iterD.eq_2, DV.iterD.eq_3, DV.it_rng, DV.binD.eq_1, DV.binD.eq_2, DV.binD.eq_3, DV.binD.eq_4, DV.binD.eq_5, DV.binD.eq_6, DV.binD.eq_7, DV.binD.eq_8, DV.binD.eq_9, DV.binD.eq_10, DV.cmpD.eq_1, DV.cmpD.eq_2, DV.cmpD.eq_3, DV.cmpD.eq_4, DV.cmpD.eq_5, DV.cmpD.eq_6, DV.cmpD.eq_7, DV.cmpD.eq_8, DV.cmpD.eq_9, DV.cmpD.eq_10, DV.cmpD.eq_11, DV.cmpD.eq_12, DV.isNonD.eq_1, DV.isNonD.eq_2, DV.ixD.eq_1, DV.ixD.eq_2, DV.ixD.eq_3, DV.ixD.eq_4, DV.slcD.eq_1, DV.slcD.eq_2, DV.slcD.eq_3, DV.slO.eq_1, DV.slO.eq_2, DV.plainIx.eq_1, DV.wipeG.eq_1, DV.wipeG.eq_2, DV.restG.eq_1, DV.restG.eq_2, DV.flatD.eq_1, DV.flatD.eq_2, DV.flatD.eq_3, DV.flatD.eq_4, DV.flatD.eq_5, DV.okB.eq_1, DV.okB.eq_2, DV.okB.eq_3, DV.okB.eq_4, DV.okB.eq_5, DV.okB.eq_6, DV.eqd.eq_1, DV.eqd.eq_2, DV.eqd.eq_3, DV.eqd.eq_4, DV.eqd.eq_5, DV.eqd.eq_6, DV.eqd.eq_7, DV.eqd.eq_8, DV.eqds.eq_1, DV.eqds.eq_2, DV.eqds.eq_3, d5])
          · simp [DV.runF.eq_1, DV.exs.eq_1, DV.exs.eq_2, DV.ex.eq_1, DV.ex.eq_2, DV.ex.eq_3, DV.ex.eq_4, DV.ex.eq_5, DV.ex.eq_6, DV.ex.eq_7, DV.ex.eq_8, DV.ex.eq_9, DV.ex.eq_10, DV.ex.eq_11, DV.ex.eq_12, DV.ex.eq_13, DV.ex.eq_14, DV.ex.eq_15, DV.ex.eq_16, DV.ev.eq_1, DV.ev.eq_2, DV.ev.eq_3, DV.ev.eq_4, DV.ev.eq_5, DV.ev.eq_6, DV.ev.eq_7, DV.ev.eq_8, DV.ev.eq_9, DV.ev.eq_10, DV.ev.eq_11, DV.ev.eq_12, DV.ev.eq_13, DV.ev.eq_14, DV.ev.eq_15, DV.ev.eq_16, DV.ev.eq_17, DV.ev.eq_18, DV.evs.eq_1, DV.evs.eq_2, DV.evc.eq_1, DV.evc.eq_2, DV.evn.eq_1, DV.evn.eq_2, DV.parS.eq_1, DV.parS.eq_2, DV.parS.eq_3, DV.datums.eq_1, DV.datums.eq_2, DV.datum.eq_1, DV.datum.eq_2, DV.datum.eq_3, DV.fre.eq_1, DV.fre.eq_2, DV.fre.eq_3, DV.fres.eq_1, DV.fres.eq_2, DV.argSs.eq_1, DV.argSs.eq_2, DV.argS.eq_1, DV.argS.eq_2, DV.argS.eq_3, DV.nodupB.eq_1, DV.nodupB.eq_2, DV.ownIx.eq_1, DV.ownIx.eq_2, DV.ownIx.eq_3, DV.putOuts.eq_1, DV.putOuts.eq_2, DV.putOuts.eq_3, DV.biD.eq_1, DV.biD.eq_2, DV.biD.eq_3, DV.biD.eq_4, DV.biD.eq_5, DV.biD.eq_6, DV.biD.eq_7, DV.biD.eq_8, DV.biD.eq_9, DV.biD.eq_10, DV.biD.eq_11, DV.biD.eq_12, DV.biD.eq_13, DV.biD.eq_14, DV.biD.eq_15, DV.biD.eq_16, DV.biD.eq_17, DV.biD.eq_18, DV.biD.eq_19, DV.isiD.eq_1, DV.isiD.eq_2, DV.isiD.eq_3, DV.isiD.eq_4, DV.isiD.eq_5, DV.isiD.eq_6, DV.isiD.eq_7, DV.shallow.eq_1, DV.shallow.eq_2, DV.shallow.eq_3, DV.testD.eq_1, DV.truthD.eq_1, DV.truthD.eq_2, DV.truthD.eq_3, DV.truthD.eq_4, DV.truthD.eq_5, DV.truthD.eq_6, DV.truthD.eq_7, DV.truthD.eq_8, DV.finish.eq_1, DV.finish.eq_2, DV.finish.eq_3, DV.finish.eq_4, DV.finish.eq_5, DV.outsOf.eq_1, DV.outsOf.eq_2, DV.outsOf.eq_3, DV.ownPs.eq_1, DV.ownPs.eq_2, DV.ownPs.eq_3, DV.disjB.eq_1, DV.isLst.eq_1, DV.appD.eq_1, DV.extD.eq_1, DV.setD.eq_1, DV.asgT.eq_1, DV.asgT.eq_2, DV.asgT.asgTs.eq_1, DV.asgT.asgTs.eq_2, DV.tgIx.eq_1, DV.tgIx.eq_2, DV.tgIx.tgIxs.eq_1, DV.tgIx.tgIxs.eq_2, DV.iterD.eq_1, DV.iterD.eq_2, DV.iterD.eq_3, DV.it_rng, DV.binD.eq_1, DV.binD.eq_2, DV.binD.eq_3, DV.binD.eq_4, DV.binD.eq_5, DV.binD.eq_6, DV.binD.eq_7, DV.binD.eq_8, DV.binD.eq_9, DV.binD.eq_10, DV.cmpD.eq_1, DV.cmpD.eq_2, DV.cmpD.eq_3, DV.cmpD.eq_4, DV.cmpD.eq_5, DV.cmpD.eq_6, DV.cmpD.eq_7, DV.cmpD.eq_8, DV.cmpD.eq_9, DV.cmpD.eq_10, DV.cmpD.eq_11, DV.cmpD.eq_12, DV.isNonD.eq_1, DV.isNonD.eq_2, DV.ixD.eq_1, DV.ixD.eq_2, DV.ixD.eq_3, DV.ixD.eq_4, DV.slcD.eq_1, DV.slcD.eq_2, DV.slcD.eq_3, DV.slO.eq_1, DV.slO.eq_2, DV.plainIx.eq_1, DV.wipeG.eq_1, DV.wipeG.eq_2, DV.restG.eq_1, DV.restG.eq_2, DV.flatD.eq_1, DV.flatD.eq_2, DV.flatD.eq_3, DV.flatD.eq_4, DV.flatD.eq_5, DV.okB.eq_1, DV.okB.eq_2, DV.okB.eq_3, DV.okB.eq_4, DV.okB.eq_5, DV.okB.eq_6, DV.eqd.eq_1, DV.eqd.eq_2, DV.eqd.eq_3, DV.eqd.eq_4, DV.eqd.eq_5, DV.eqd.eq_6, DV.eqd.eq_7, DV.eqd.eq_8, DV.eqds.eq_1, DV.eqds.eq_2, DV.eqds.eq_3, hacc, sizeLine, oD]
        · refine (exs_nx (Γ1 := [some (br f w s, false), some (T, false), some (.int t, false), some (.lst acc, true), some (.int l1, false), some (.non, false), some (.bl true, false)]) (ex_ite (t := true) (x := .sl 6) rfl rfl ?_)).trans ?_
          · exact (exs_nx hi).trans (by simp [DV.runF.eq_1, DV.exs.eq_1, DV.exs.eq_2, DV.ex.eq_1, DV.ex.eq_2, DV.ex.eq_3, DV.ex.eq_4, DV.ex.eq_5, DV.ex.eq_6, DV.ex.eq_7, DV.ex.eq_8, DV.ex.eq_9, DV.ex.eq_10, DV.ex.eq_11, DV.ex.eq_12, DV.ex.eq_13, DV.ex.eq_14, DV.ex.eq_15, DV.ex.eq_16, DV.ev.eq_1, DV.ev.eq_2, DV.ev.eq_3, DV.ev.eq_4, DV.ev.eq_5, DV.ev.eq_6, DV.ev.eq_7, DV.ev.eq_8, DV.ev.eq_9, DV.ev.eq_10, DV.ev.eq_11, DV.ev.eq_12, DV.ev.eq_13, DV.ev.eq_14, DV.ev.eq_15, DV.ev.eq_16, DV.ev.eq_17, DV.ev.eq_18, DV.evs.eq_1, DV.evs.eq_2, DV.evc.eq_1, DV.evc.eq_2, DV.evn.eq_1, DV.evn.eq_2, DV.parS.eq_1, DV.parS.eq_2, DV.parS.eq_3, DV.datums.eq_1, DV.datums.eq_2, DV.datum.eq_1, DV.datum.eq_2, DV.datum.eq_3, DV.fre.eq_1, DV.fre.eq_2, DV.fre.eq_3, DV.fres.eq_1, DV.fres.eq_2, DV.argSs.eq_1, DV.argSs.eq_2, DV.argS.eq_1, DV.argS.eq_2, DV.argS.eq_3, DV.nodupB.eq_1, DV.nodupB.eq_2, DV.ownIx.eq_1, DV.ownIx.eq_2, DV.ownIx.eq_3, DV.putOuts.eq_1, DV.putOuts.eq_2, DV.putOuts.eq_3, DV.biD.eq_1, DV.biD.eq_2, DV.biD.eq_3, DV.biD.eq_4, DV.biD.eq_5, DV.biD.eq_6, DV.biD.eq_7, DV.biD.eq_8, DV.biD.eq_9, DV.biD.eq_10, DV.biD.eq_11, DV.biD.eq_12, DV.biD.eq_13, DV.biD.eq_14, DV.biD.eq_15, DV.biD.eq_16, DV.biD.eq_17, DV.biD.eq_18, DV.biD.eq_19, DV.isiD.eq_1, DV.isiD.eq_2, DV.isiD.eq_3, DV.isiD.eq_4, DV.isiD.eq_5, DV.isiD.eq_6, DV.isiD.eq_7, DV.shallow.eq_1, DV.shallow.eq_2, DV.shallow.eq_3, DV.testD.eq_1, DV.truthD.eq_1, DV.truthD.eq_2, DV.truthD.eq_3, DV.truthD.eq_4, DV.truthD.eq_5, DV.truthD.eq_6, DV.truthD.eq_7, DV.truthD.eq_8, DV.finish.eq_1, DV.finish.eq_2, DV.finish.eq_3, DV.finish.eq_4, DV.finish.eq_5, DV.outsOf.eq_1, DV.outsOf.eq_2, DV.outsOf.eq_3, DV.ownPs.eq_1, DV.ownPs.eq_2, DV.ownPs.eq_3, DV.disjB.eq_1, DV.isLst.eq_1, DV.appD.eq_1, DV.extD.eq_1, DV.setD.eq_1, DV.asgT.eq_1, DV.asgT.eq_2, DV.asgT.asgTs.eq_1, DV.asgT.asgTs.eq_2, DV.tgIx.eq_1, DV.tgIx.eq_2, DV.tgIx.tgIxs.eq_1, DV.tgIx.tgIxs.eq_2, DV.iterD.eq_1, DV.iterD.eq_2, DV.iterD.eq_3, DV.it_rng, DV.binD.eq_1, DV.binD.eq_2, DV.binD.eq_3, DV.binD.eq_4, DV.binD.eq_5, DV.binD.eq_6, DV.binD.eq_7, DV.binD.eq_8, DV.binD.eq_9, DV.binD.eq_10, DV.cmpD.eq_1, DV.cmpD.eq_2, DV.cmpD.eq_3, DV.cmpD.eq_4, DV.cmpD.eq_5, DV.cmpD.eq_6, DV.cmpD.eq_7, DV.cmpD.eq_8, DV.cmpD.eq_9, DV.cmpD.eq_10, DV.cmpD.eq_11, DV.cmpD.eq_12, DV.isNonD.eq_1, DV.isNonD.eq_2, DV.ixD.eq_1, DV.ixD.eq_2, DV.ixD.eq_3, DV.ixD.eq_4, DV.slcD.eq_1, DV.slcD.eq_2, DV.slcD.eq_3, DV.slO.eq_1, DV.slO.eq_2, DV.plainIx.eq_1, DV.wipeG.eq_1, DV.wipeG.eq_2, DV.restG.eq_1, DV.restG.eq_2, DV.flatD.eq_1, DV.flatD.eq_2, DV.flatD.eq_3, DV.flatD.eq_4, DV.flatD.eq_5, DV.okB.eq_1, DV.okB.eq_2, DV.okB.eq_3, DV.okB.eq_4, DV.okB.eq_5, DV.okB.eq_6, DV.eqd.eq_1, DV.eqd.eq_2, DV.eqd.eq_3, DV.eqd.eq_4, DV.eqd.eq_5, DV.eqd.eq_6, DV.eqd.eq_7, DV.eqd.eq_8, DV.eqds.eq_1, DV.eqds.eq_2, DV.eqds.eq_3, d5, h0])
          · simp [DV.runF.eq_1, DV.exs.eq_1, DV.exs.eq_2, DV.ex.eq_1, DV.ex.eq_2, DV.ex.eq_3, DV.ex.eq_4, DV.ex.eq_5, DV.ex.eq_6, DV.ex.eq_7, DV.ex.eq_8, DV.ex.eq_9, DV.ex.eq_10, DV.ex.eq_11, DV.ex.eq_12, DV.ex.eq_13, DV.ex.eq_14, DV.ex.eq_15, DV.ex.eq_16, DV.ev.eq_1, DV.ev.eq_2, DV.ev.eq_3, DV.ev.eq_4, DV.ev.eq_5, DV.ev.eq_6, DV.ev.eq_7, DV.ev.eq_8, DV.ev.eq_9, DV.ev.eq_10, DV.ev.eq_11, DV.ev.eq_12, DV.ev.eq_13, DV.ev.eq_14, DV.ev.eq_15, DV.ev.eq_16, DV.ev.eq_17, DV.ev.eq_18, DV.evs.eq_1, DV.evs.eq_2, DV.evc.eq_1, DV.evc.eq_2, DV.evn.eq_1, DV.evn.eq_2, DV.parS.eq_1, DV.parS.eq_2, DV.parS.eq_3, DV.datums.eq_1, DV.datums.eq_2, DV.datum.eq_1, DV.datum.eq_2, DV.datum.eq_3, DV.fre.eq_1, DV.fre.eq_2, DV.fre.eq_3, DV.fres.eq_1, DV.fres.eq_2, DV.argSs.eq_1, DV.argSs.eq_2, DV.argS.eq_1, DV.argS.eq_2, DV.argS.eq_3, DV.nodupB.eq_1, DV.nodupB.eq_2, DV.ownIx.eq_1, DV.ownIx.eq_2, DV.ownIx.eq_3, DV.putOuts.eq_1, DV.putOuts.eq_2, DV.putOuts.eq_3, DV.biD.eq_1, DV.biD.eq_2, DV.biD.eq_3, DV.biD.eq_4, DV.biD.eq_5, DV.biD.eq_6, DV.biD.eq_7, DV.biD.eq_8, DV.biD.eq_9, DV.biD.eq_10, DV.biD.eq_11, DV.biD.eq_12, DV.biD.eq_13, DV.biD.eq_14, DV.biD.eq_15, DV.biD.eq_16, DV.biD.eq_17, DV.biD.eq_18, DV.biD.eq_19, DV.isiD.eq_1, DV.isiD.eq_2, DV.isiD.eq_3, DV.isiD.eq_4, DV.isiD.eq_5, DV.isiD.eq_6, DV.isiD.eq_7, DV.shallow.eq_1, DV.shallow.eq_2, DV.shallow.eq_3, DV.testD.eq_1, DV.truthD.eq_1, DV.truthD.eq_2, DV.truthD.eq_3, DV.truthD.eq_4, DV.truthD.eq_5, DV.truthD.eq_6, DV.truthD.eq_7, DV.truthD.eq_8, DV.finish.eq_1, DV.finish.eq_2, DV.finish.eq_3, DV.finish.eq_4, DV.finish.eq_5, DV.outsOf.eq_1, DV.outsOf.eq_2, DV.outsOf.eq_3, DV.ownPs.eq_1, DV.ownPs.eq_2, DV.ownPs.eq_3, DV.disjB.eq_1, DV.isLst.eq_1, DV.appD.eq_1, DV.extD.eq_1, DV.setD.eq_1, DV.asgT.eq_1, DV.asgT.eq_2, DV.asgT.asgTs.eq_1, DV.asgT.asgTs.eq_2, DV.tgIx.eq_1, DV.tgIx.eq_2, DV.tgIx.tgIxs.eq_1, DV.tgIx.tgIxs.eq_2, DV.iterD.eq_1, DV.iterD.eq_2, DV.iterD.eq_3, DV.it_rng, DV.binD.eq_1, DV.binD.eq_2, DV.binD.eq_3, DV.binD.eq_4, DV.binD.eq_5, DV.binD.eq_6, DV.binD.eq_7, DV.binD.eq_8, DV.binD.eq_9, DV.binD.eq_10, DV.cmpD.eq_1, DV.cmpD.eq_2, DV.cmpD.eq_3, DV.cmpD.eq_4, DV.cmpD.eq_5, DV.cmpD.eq_6, DV.cmpD.eq_7, DV.cmpD.eq_8, DV.cmpD.eq_9, DV.cmpD.eq_10, DV.cmpD.eq_11, DV.cmpD.eq_12, DV.isNonD.eq_1, DV.isNonD.eq_2, DV.ixD.eq_1, DV.ixD.eq_2, DV.ixD.eq_3, DV.ixD.eq_4, DV.slcD.eq_1, DV.slcD.eq_2, DV.slcD.eq_3, DV.slO.eq_1, DV.slO.eq_2, DV.plainIx.eq_1, DV.wipeG.eq_1, DV.wipeG.eq_2, DV.restG.eq_1, DV.restG.eq_2, DV.flatD.eq_1, DV.flatD.eq_2, DV.flatD.eq_3, DV.flatD.eq_4, DV.flatD.eq_5, DV.okB.eq_1, DV.okB.eq_2, DV.okB.eq_3, DV.okB.eq_4, DV.okB.eq_5, DV.okB.eq_6, DV.eqd.eq_1, DV.eqd.eq_2, DV.eqd.eq_3, DV.eqd.eq_4, DV.eqd.eq_5, DV.eqd.eq_6, DV.eqd.eq_7, DV.eqd.eq_8, DV.eqds.eq_1, DV.eqds.eq_2, DV.eqds.eq_3, hacc, sizeLine, oD, h0]
      · rw [ih]
        simp only [lawG, hc, if_true]
        simp
    · obtain ⟨y2, y4, y5, y6, ih⟩ := lawlog_loop f w s T suf (acc ++ [.tup [.int t, .bl false]]) l so (some (.int t, false)) (some (.bl false, false)) pn dj (by simp at hz ⊢; omega)
      refine ⟨y2, y4, y5, y6, ?_⟩
      refine (forLoop_step (Γ1 := [some (br f w s, false), some (T, false), some (.int t, false), some (.lst acc, true), some (.int l, false), some (oD so, false), x6]) (Γ2 := [some (br f w s, false), some (T, false), some (.int t, false), some (.lst (acc ++ [.tup [.int t, .bl false]]), true), some (.int l, false), some (oD so, false), some (.bl false, false)]) (by simp [DV.runF.eq_1, DV.exs.eq_1, DV.exs.eq_2, DV.ex.eq_1, DV.ex.eq_2, DV.ex.eq_3, DV.ex.eq_4, DV.ex.eq_5, DV.ex.eq_6, DV.ex.eq_7, DV.ex.eq_8, DV.ex.eq_9, DV.ex.eq_10, DV.ex.eq_11, DV.ex.eq_12, DV.ex.eq_13, DV.ex.eq_14, DV.ex.eq_15, DV.ex.eq_16, DV.ev.eq_1, DV.ev.eq_2, DV.ev.eq_3, DV.ev.eq_4, DV.ev.eq_5, DV.ev.eq_6, DV.ev.eq_7, DV.ev.eq_8, DV.ev.eq_9, DV.ev.eq_10, DV.ev.eq_11, DV.ev.eq_12, DV.ev.eq_13, DV.ev.eq_14, DV.ev.eq_15, DV.ev.eq_16, DV.ev.eq_17, DV.ev.eq_18, DV.evs.eq_1, DV.evs.eq_2, DV.evc.eq_1, DV.evc.eq_2, DV.evn.eq_1, DV.evn.eq_2, DV.parS.eq_1, DV.parS.eq_2, DV.parS.eq_3, DV.datums.eq_1, DV.datums.eq_2, DV.datum.eq_1, DV.datum.eq_2, DV.datum.eq_3, DV.fre.eq_1, DV.fre.eq_2, DV.fre.eq_3, DV.fres.eq_1, DV.fres.eq_2, DV.argSs.eq_1, DV.argSs.eq_2, DV.argS.eq_1, DV.argS.eq_2, DV.argS.eq_3, DV.nodupB.eq_1, DV.nodupB.eq_2, DV.ownIx.eq_1, DV.ownIx.eq_2, DV.ownIx.eq_3, DV.putOuts.eq_1, DV.putOuts.eq_2, DV.putOuts.eq_3, DV.biD.eq_1, DV.biD.eq_2, DV.biD.eq_3, DV.biD.eq_4, DV.biD.eq_5, DV.biD.eq_6, DV.biD.eq_7, DV.biD.eq_8, DV.biD.eq_9, DV.biD.eq_10, DV.biD.eq_11, DV.biD.eq_12, DV.biD.eq_13, DV.biD.eq_14, DV.biD.eq_15, DV.biD.eq_16, DV.biD.eq_17, DV.biD.eq_18, DV.biD.eq_19, DV.isiD.eq_1, DV.isiD.eq_2, DV.isiD.eq_3, DV.isiD.eq_4, DV.isiD.eq_5, DV.isiD.eq_6, DV.isiD.eq_7, DV.shallow.eq_1, DV.shallow.eq_2, DV.shallow.eq_3, DV.testD.eq_1, DV.truthD.eq_1, DV.truthD.eq_2, DV.truthD.eq_3, DV.truthD.eq_4, DV.truthD.eq_5, DV.truthD.eq_6, DV.truthD.eq_7, DV.truthD.eq_8, DV.finish.eq_1, DV.finish.eq_2, DV.finish.eq_3, DV.finish.eq_4, DV.finish.eq_5, DV.outsOf.eq_1, DV.outsOf.eq_2, DV.outsOf.eq_3, DV.ownPs.eq_1, DV.ownPs.eq_2, DV.ownPs.eq_3, DV.disjB.eq_1, DV.isLst.eq_1, DV.appD.eq_1, DV.extD.eq_1, DV.setD.eq_1, DV.asgT.eq_1, DV.asgT.eq_2, DV.asgT.asgTs.eq_1, DV.asgT.asgTs.eq_2, DV.tgIx.eq_1, DV.tgIx.eq_2, DV.tgIx.tgIxs.eq_1, DV.tgIx.tgIxs.eq_2, DV.iterD.eq_1, DV.iterD.eq_2, DV.iterD.eq_3, DV.it_rng, DV.binD.eq_1, DV.binD.eq_2, DV.binD.eq_3, DV.binD.eq_4, DV.binD.eq_5, DV.binD.eq_6, DV.binD.eq_7, DV.binD.eq_8, DV.binD.eq_9, DV.binD.eq_10, DV.cmpD.eq_1, DV.cmpD.eq_2, DV.cmpD.eq_3, DV.cmpD.eq_4, DV.cmpD.eq_5, DV.cmpD.eq_6, DV.cmpD.eq_7, DV.cmpD.eq_8, DV.cmpD.eq_9, DV.cmpD.eq_10, DV.cmpD.eq_11, DV.cmpD.eq_12, DV.isNonD.eq_1, DV.isNonD.eq_2, DV.ixD.eq_1, DV.ixD.eq_2, DV.ixD.eq_3, DV.ixD.eq_4, DV.slcD.eq_1, DV.slcD.eq_2, DV.slcD.eq_3, DV.slO.eq_1, DV.slO.eq_2, DV.plainIx.eq_1, DV.wipeG.eq_1, DV.wipeG.eq_2, DV.restG.eq_1, DV.restG.eq_2, DV.flatD.eq_1, DV.flatD.eq_2, DV.flatD.eq_3, DV.flatD.eq_4, DV.flatD.eq_5, DV.okB.eq_1, DV.okB.eq_2, DV.okB.eq_3, DV.okB.eq_4, DV.okB.eq_5, DV.okB.eq_6, DV.eqd.eq_1, DV.eqd.eq_2, DV.eqd.eq_3, DV.eqd.eq_4, DV.eqd.eq_5, DV.eqd.eq_6, DV.eqd.eq_7, DV.eqd.eq_8, DV.eqds.eq_1, DV.eqds.eq_2, DV.eqds.eq_3]) ?_).trans ?_
      · cases so with
        | none => exact absurd rfl hc
        | some s0 =>
          have hc : ¬ s0 + w ≤ t := by simpa [psd] using hc
          simp [B__law_log_1, DV.runF.eq_1, DV.exs.eq_1, DV.exs.eq_2, DV.ex.eq_1, DV.ex.eq_2, DV.ex.eq_3, DV.ex.eq_4, DV.ex.eq_5, DV.ex.eq_6, DV.ex.eq_7, DV.ex.eq_8, DV.ex.eq_9, DV.ex.eq_10, DV.ex.eq_11, DV.ex.eq_12, DV.ex.eq_13, DV.ex.eq_14, DV.ex.eq_15, DV.ex.eq_16, DV.ev.eq_1, DV.ev.eq_2, DV.ev.eq_3, DV.ev.eq_4, DV.ev.eq_5, DV.ev.eq_6, DV.ev.eq_7, DV.ev.eq_8, DV.ev.eq_9, DV.ev.eq_10, DV.ev.eq_11, DV.ev.eq_12, DV.ev.eq_13, DV.ev.eq_14, DV.ev.eq_15, DV.ev.eq_16, DV.ev.eq_17, DV.ev.eq_18, DV.evs.eq_1, DV.evs.eq_2, DV.evc.eq_1, DV.evc.eq_2, DV.evn.eq_1, DV.evn.eq_2, DV.parS.eq_1, DV.parS.eq_2, DV.parS.eq_3, DV.datums.eq_1, DV.datums.eq_2, DV.datum.eq_1, DV.datum.eq_2, DV.datum.eq_3, DV.fre.eq_1, DV.fre.eq_2, DV.fre.eq_3, DV.fres.eq_1, DV.fres.eq_2, DV.argSs.eq_1, DV.argSs.eq_2, DV.argS.eq_1, DV.argS.eq_2, DV.argS.eq_3, DV.nodupB.eq_1, DV.nodupB.eq_2, DV.ownIx.eq_1, DV.ownIx.eq_2, DV.ownIx.eq_3, DV.putOuts.eq_1, DV.putOuts.eq_2, DV.putOuts.eq_3, DV.biD.eq_1, DV.biD.eq_2, DV.biD.eq_3, DV.biD.eq_4, DV.biD.eq_5, DV.biD.eq_6, DV.biD.eq_7, DV.biD.eq_8, DV.biD.eq_9, DV.biD.eq_10, DV.biD.eq_11, DV.biD.eq_12, DV.biD.eq_13, DV.biD.eq_14, DV.biD.eq_15, DV.biD.eq_16, DV.biD.eq_17, DV.biD.eq_18, DV.biD.eq_19, DV.isiD.eq_1, DV.isiD.eq_2, DV.isiD.eq_3, DV.isiD.eq_4, DV.isiD.eq_5, DV.isiD.eq_6, DV.isiD.eq_7, DV.shallow.eq_1, DV.shallow.eq_2, DV.shallow.eq_3, DV.testD.eq_1, DV.truthD.eq_1, DV.truthD.eq_2, DV.truthD.eq_3, DV.truthD.eq_4, DV.truthD.eq_5, DV.truthD.eq_6, DV.truthD.eq_7, DV.truthD.eq_8, DV.finish.eq_1, DV.finish.eq_2, DV.finish.eq_3, DV.finish.eq_4, DV.finish.eq_5, DV.outsOf.eq_1, DV.outsOf.eq_2, DV.outsOf.eq_3, DV.ownPs.eq_1, DV.ownPs.eq_2, DV.ownPs.eq_3, DV.disjB.eq_1, DV.isLst.eq_1, DV.appD.eq_1, DV.extD.eq_1, DV.setD.eq_1, DV.asgT.eq_1, DV.asgT.eq_2, DV.asgT.asgTs.eq_1, DV.asgT.asgTs.eq_2, DV.tgIx.eq_1, DV.tgIx.eq_2, DV.tgIx.tgIxs.eq_1, DV.tgIx.tgIxs.eq_2, DV.iterD.eq_1, DV.iterD.eq_2, DV.iterD.eq_3, DV.it_rng, DV.binD.eq_1, DV.binD.eq_2, DV.binD.eq_3, DV.binD.eq_4, DV.binD.eq_5, DV.binD.eq_6, DV.binD.eq_7, DV.binD.eq_8, DV.binD.eq_9, DV.binD.eq_10, DV.cmpD.eq_1, DV.cmpD.eq_2, DV.cmpD.eq_3, DV.cmpD.eq_4, DV.cmpD.eq_5, DV.cmpD.eq_6, DV.cmpD.eq_7, DV.cmpD.eq_8, DV.cmpD.eq_9, DV.cmpD.eq_10, DV.cmpD.eq_11, DV.cmpD.eq_12, DV.isNonD.eq_1, DV.isNonD.eq_2, DV.ixD.eq_1, DV.ixD.eq_2, DV.ixD.eq_3, DV.ixD.eq_4, DV.slcD.eq_1, DV.slcD.eq_2, DV.slcD.eq_3, DV.slO.eq_1, DV.slO.eq_2, DV.plainIx.eq_1, DV.wipeG.eq_1, DV.wipeG.eq_2, DV.restG.eq_1, DV.restG.eq_2, DV.flatD.eq_1, DV.flatD.eq_2, DV.flatD.eq_3, DV.flatD.eq_4, DV.flatD.eq_5, DV.okB.eq_1, DV.okB.eq_2, DV.okB.eq_3, DV.okB.eq_4, DV.okB.eq_5, DV.okB.eq_6, DV.eqd.eq_1, DV.eqd.eq_2, DV.eqd.eq_3, DV.eqd.eq_4, DV.eqd.eq_5, DV.eqd.eq_6, DV.eqd.eq_7, DV.eqd.eq_8, DV.eqds.eq_1, DV.eqds.eq_2, DV.eqds.eq_3, oD, i1, hc, hacc, d4, d5, d6, sizeLine]
      · rw [ih]
        simp only [lawG, if_neg hc]
        simp
theorem law_log_ok (f w s : Int) (ts : List Int) (hz : ts.length ≤ 1000) : F__law_log [some (br f w s, false), some (.lst (ts.map D.int), false)] = some (.nw (.lst (lawG w f none ts)), [some (br f w s, false), some (.lst (ts.map D.int), false)]) := by
  have i0 : ∀ x y z : D, atI [x, y, z] 0 = some x := fun _ _ _ => rfl
  obtain ⟨y2, y4, y5, y6, e⟩ := lawlog_loop f w s (.lst (ts.map D.int)) ts [] f none none none [] rfl (by simpa using hz)
  refine runF_by (o := .rt (.sl 3) [some (br f w s, false), some (.lst (ts.map D.int), false), y2, some (.lst (lawG w f none ts), true), y4, y5, y6]) rfl (?_ : exs _ [] _ [some (br f w s, false), some (.lst (ts.map D.int), false), none, none, none, none, none] = _) rfl
  refine (exs_nx (Γ1 := [some (br f w s, false), some (.lst (ts.map D.int), false), none, some (.lst [], true), some (.int f, false), some (.non, false), none]) (by simp [DV.runF.eq_1, DV.exs.eq_1, DV.exs.eq_2, DV.ex.eq_1, DV.ex.eq_2, DV.ex.eq_3, DV.ex.eq_4, DV.ex.eq_5, DV.ex.eq_6, DV.ex.eq_7, DV.ex.eq_8, DV.ex.eq_9, DV.ex.eq_10, DV.ex.eq_11, DV.ex.eq_12, DV.ex.eq_13, DV.ex.eq_14, DV.ex.eq_15, DV.ex.eq_16, DV.ev.eq_1, DV.ev.eq_2, DV.ev.eq_3, DV.ev.eq_4, DV.ev.eq_5, DV.ev.eq_6, DV.ev.eq_7, DV.ev.eq_8, DV.ev.eq_9, DV.ev.eq_10, DV.ev.eq_11, DV.ev.eq_12, DV.ev.eq_13, DV.ev.eq_14, DV.ev.eq_15, DV.ev.eq_16, DV.ev.eq_17, DV.ev.eq_18, DV.evs.eq_1, DV.evs.eq_2, DV.evc.eq_1, DV.evc.eq_2, DV.evn.eq_1, DV.evn.eq_2, DV.parS.eq_1, DV.parS.eq_2, DV.parS.eq_3, DV.datums.eq_1, DV.datums.eq_2, DV.datum.eq_1, DV.datum.eq_2, DV.datum.eq_3, DV.fre.eq_1, DV.fre.eq_2, DV.fre.eq_3, DV.fres.eq_1, DV.fres.eq_2, DV.argSs.eq_1, DV.argSs.eq_2, DV.argS.eq_1, DV.argS.eq_2, DV.argS.eq_3, DV.nodupB.eq_1, DV.nodupB.eq_2, DV.ownIx.eq_1, DV.ownIx.eq_2, DV.ownIx.eq_3, DV.putOuts.eq_1, DV.putOuts.eq_2, DV.putOuts.eq_3, DV.biD.eq_1, DV.biD.eq_2, DV.biD.eq_3, DV.biD.eq_4, DV.biD.eq_5, DV.biD.eq_6, DV.biD.eq_7, DV.biD.eq_8, DV.biD.eq_9, DV.biD.eq_10, DV.biD.eq_11, DV.biD.eq_12, DV.biD.eq_13, DV.biD.eq_14, DV.biD.eq_15, DV.biD.eq_16, DV.biD.eq_17, DV.biD.eq_18, DV.biD.eq_19, DV.isiD.eq_1, DV.isiD.eq_2, DV.isiD.eq_3, DV.isiD.eq_4, DV.isiD.eq_5, DV.isiD.eq_6, DV.isiD.eq_7, DV.shallow.eq_1, DV.shallow.eq_2, DV.shallow.eq_3, DV.testD.eq_1, DV.truthD.eq_1, DV.truthD.eq_2, DV.truthD.eq_3, DV.truthD.eq_4, DV.truthD.eq_5, DV.truthD.eq_6, DV.truthD.eq_7, DV.truthD.eq_8, DV.finish.eq_1, DV.finish.eq_2, DV.finish.eq_3, DV.finish.eq_4, DV.finish.eq_5, DV.outsOf.eq_1, DV.outsOf.eq_2, DV.outsOf.eq_3, DV.ownPs.eq_1, DV.ownPs.eq_2, DV.ownPs.eq_3, DV.disjB.eq_1, DV.isLst.eq_1, DV.appD.eq_1, DV.extD.eq_1, DV.setD.eq_1, DV.asgT.eq_1, DV.asgT.eq_2, DV.asgT.asgTs.eq_1, DV.asgT.asgTs.eq_2, DV.tgIx.eq_1, DV.tgIx.eq_2, DV.tgIx.tgIxs.eq_1, DV.tgIx.tgIxs.eq_2, DV.iterD.eq_1, DV.iterD.eq_2, DV.iterD.eq_3, DV.it_rng, DV.binD.eq_1, DV.binD.eq_2, DV.binD.eq_3, DV.binD.eq_4, DV.binD.eq_5, DV.binD.eq_6, DV.binD.eq_7, DV.binD.eq_8, DV.binD.eq_9, DV.binD.eq_10, DV.cmpD.eq_1, DV.cmpD.eq_2, DV.cmpD.eq_3, DV.cmpD.eq_4, DV.cmpD.eq_5, DV.cmpD.eq_6, DV.cmpD.eq_7, DV.cmpD.eq_8, DV.cmpD.eq_9, DV.cmpD.eq_10, DV.cmpD.eq_11, DV.cmpD.eq_12, DV.isNonD.eq_1, DV.isNonD.eq_2, DV.ixD.eq_1, DV.ixD.eq_2, DV.ixD.eq_3, DV.ixD.eq_4, DV.slcD.eq_1, DV.slcD.eq_2, DV.slcD.eq_3, DV.slO.eq_1, DV.slO.eq_2, DV.plainIx.eq_1, DV.wipeG.eq_1, DV.wipeG.eq_2, DV.restG.eq_1, DV.restG.eq_2, DV.flatD.eq_1, DV.flatD.eq_2, DV.flatD.eq_3, DV.flatD.eq_4, DV.flatD.eq_5, DV.okB.eq_1, DV.okB.eq_2, DV.okB.eq_3, DV.okB.eq_4, DV.okB.eq_5, DV.okB.eq_6, DV.eqd.eq_1, DV.eqd.eq_2, DV.eqd.eq_3, DV.eqd.eq_4, DV.eqd.eq_5, DV.eqd.eq_6, DV.eqd.eq_7, DV.eqd.eq_8, DV.eqds.eq_1, DV.eqds.eq_2, DV.eqds.eq_3, i0])).trans ?_
  exact (exs_nx (ex_for (by simp [DV.runF.eq_1, DV.exs.eq_1, DV.exs.eq_2, DV.ex.eq_1, DV.ex.eq_2, DV.ex.eq_3, DV.ex.eq_4, DV.ex.eq_5, DV.ex.eq_6, DV.ex.eq_7, DV.ex.eq_8, DV.ex.eq_9, DV.ex.eq_10, DV.ex.eq_11, DV.ex.eq_12, DV.ex.eq_13, DV.ex.eq_14, DV.ex.eq_15, DV.ex.eq_16, DV.ev.eq_1, DV.ev.eq_2, DV.ev.eq_3, DV.ev.eq_4, DV.ev.eq_5, DV.ev.eq_6, DV.ev.eq_7, DV.ev.eq_8, DV.ev.eq_9, DV.ev.eq_10, DV.ev.eq_11, DV.ev.eq_12, DV.ev.eq_13, DV.ev.eq_14, DV.ev.eq_15, DV.ev.eq_16, DV.ev.eq_17, DV.ev.eq_18, DV.evs.eq_1, DV.evs.eq_2, DV.evc.eq_1, DV.evc.eq_2, DV.evn.eq_1, DV.evn.eq_2, DV.parS.eq_1, DV.parS.eq_2, DV.parS.eq_3, DV.datums.eq_1, DV.datums.eq_2, DV.datum.eq_1, DV.datum.eq_2, DV.datum.eq_3, DV.fre.eq_1, DV.fre.eq_2, DV.fre.eq_3, DV.fres.eq_1, DV.fres.eq_2, DV.argSs.eq_1, DV.argSs.eq_2, DV.argS.eq_1, DV.argS.eq_2, DV.argS.eq_3, DV.nodupB.eq_1, DV.nodupB.eq_2, DV.ownIx.eq_1, DV.ownIx.eq_2, DV.ownIx.eq_3, DV.putOuts.eq_1, DV.putOuts.eq_2, DV.putOuts.eq_3, DV.biD.eq_1, DV.biD.eq_2, DV.biD.eq_3, DV.biD.eq_4, DV.biD.eq_5, DV.biD.eq_6, DV.biD.eq_7, DV.biD.eq_8, DV.biD.eq_9, DV.biD.eq_10, DV.biD.eq_11, DV.biD.eq_12, DV.biD.eq_13, DV.biD.eq_14, DV.biD.eq_15, DV.biD.eq_16, DV.biD.eq_17, DV.biD.eq_18, DV.biD.eq_19, DV.isiD.eq_1, DV.isiD.eq_2, DV.isiD.eq_3, DV.isiD.eq_4, DV.isiD.eq_5, DV.isiD.eq_6, DV.isiD.eq_7, DV.shallow.eq_1, DV.shallow.eq_2, DV.shallow.eq_3, DV.testD.eq_1, DV.truthD.eq_1, DV.truthD.eq_2, DV.truthD.eq_3, DV.truthD.eq_4, DV.truthD.eq_5, DV.truthD.eq_6, DV.truthD.eq_7, DV.truthD.eq_8, DV.finish.eq_1, DV.finish.eq_2, DV.finish.eq_3, DV.finish.eq_4, DV.finish.eq_5, DV.outsOf.eq_1, DV.outsOf.eq_2, DV.outsOf.eq_3, DV.ownPs.eq_1, DV.ownPs.eq_2, DV.ownPs.eq_3, DV.disjB.eq_1, DV.isLst.eq_1, DV.appD.eq_1, DV.extD.eq_1, DV.setD.eq_1, DV.asgT.eq_1, DV.asgT.eq_2, DV.asgT.asgTs.eq_1, DV.asgT.asgTs.eq_2, DV.tgIx.eq_1, DV.tgIx.eq_2, DV.tgIx.tgIxs.eq_1, DV.tgIx.tgIxs.eq_2, DV.iterD.eq_1, DV.iterD.eq_2, DV.iterD.eq_3, DV.it_rng, DV.binD.eq_1, DV.binD.eq_2, DV.binD.eq_3, DV.binD.eq_4, DV.binD.eq_5, DV.binD.eq_6, DV.binD.eq_7, DV.binD.eq_8, DV.binD.eq_9, DV.binD.eq_10, DV.cmpD.eq_1, DV.cmpD.eq_2, DV.cmpD.eq_3, DV.cmpD.eq_4, DV.cmpD.eq_5, DV.cmpD.eq_6, DV.cmpD.eq_7, DV.cmpD.eq_8, DV.cmpD.eq_9, DV.cmpD.eq_10, DV.cmpD.eq_11, DV.cmpD.eq_12, DV.isNonD.eq_1, DV.isNonD.eq_2, DV.ixD.eq_1, DV.ixD.eq_2, DV.ixD.eq_3, DV.ixD.eq_4, DV.slcD.eq_1, DV.slcD.eq_2, DV.slcD.eq_3, DV.slO.eq_1, DV.slO.eq_2, DV.plainIx.eq_1, DV.wipeG.eq_1, DV.wipeG.eq_2, DV.restG.eq_1, DV.restG.eq_2, DV.flatD.eq_1, DV.flatD.eq_2, DV.flatD.eq_3, DV.flatD.eq_4, DV.flatD.eq_5, DV.okB.eq_1, DV.okB.eq_2, DV.okB.eq_3, DV.okB.eq_4, DV.okB.eq_5, DV.okB.eq_6, DV.eqd.eq_1, DV.eqd.eq_2, DV.eqd.eq_3, DV.eqd.eq_4, DV.eqd.eq_5, DV.eqd.eq_6, DV.eqd.eq_7, DV.eqd.eq_8, DV.eqds.eq_1, DV.eqds.eq_2, DV.eqds.eq_3, oD]) rfl e)).trans (by simp [DV.runF.eq_1, DV.exs.eq_1, DV.exs.eq_2, DV.ex.eq_1, DV.ex.eq_2, DV.ex.eq_3, DV.ex.eq_4, DV.ex.eq_5, DV.ex.eq_6, DV.ex.eq_7, DV.ex.eq_8, DV.ex.eq_9, DV.ex.eq_10, DV.ex.eq_11, DV.ex.eq_12, DV.ex.eq_13, DV.ex.eq_14, DV.ex.eq_15, DV.ex.eq_16, DV.ev.eq_1, DV.ev.eq_2, DV.ev.eq_3, DV.ev.eq_4, DV.ev.eq_5, DV.ev.eq_6, DV.ev.eq_7, DV.ev.eq_8, DV.ev.eq_9, DV.ev.eq_10, DV.ev.eq_11, DV.ev.eq_12, DV.ev.eq_13, DV.ev.eq_14, DV.ev.eq_15, DV.ev.eq_16, DV.ev.eq_17, DV.ev.eq_18, DV.evs.eq_1, DV.evs.eq_2, DV.evc.eq_1, DV.evc.eq_2, DV.evn.eq_1, DV.evn.eq_2, DV.parS.eq_1, DV.parS.eq_2, DV.parS.eq_3, DV.datums.eq_1, DV.datums.eq_2, DV.datum.eq_1, DV.datum.eq_2, DV.datum.eq_3, DV.fre.eq_1, DV.fre.eq_2, DV.fre.eq_3, DV.fres.eq_1, DV.fres.eq_2, DV.argSs.eq_1, DV.argSs.eq_2, DV.argS.eq_1, DV.argS.eq_2, DV.argS.eq_3, DV.nodupB.eq_1, DV.nodupB.eq_2, DV.ownIx.eq_1, DV.ownIx.eq_2, DV.ownIx.eq_3, DV.putOuts.eq_1, DV.putOuts.eq_2, DV.putOuts.eq_3, DV.biD.eq_1, DV.biD.eq_2, DV.biD.eq_3, DV.biD.eq_4, DV.biD.eq_5, DV.biD.eq_6, DV.biD.eq_7, DV.biD.eq_8, DV.biD.eq_9, DV.biD.eq_10, DV.biD.eq_11, DV.biD.eq_12, DV.biD.eq_13, DV.biD.eq_14, DV.biD.eq_15, DV.biD.eq_16, DV.biD.eq_17, DV.biD.eq_18, DV.biD.eq_19, DV.isiD.eq_1, DV.isiD.eq_2, DV.isiD.eq_3, DV.isiD.eq_4, DV.isiD.eq_5, DV.isiD.eq_6, DV.isiD.eq_7, DV.shallow.eq_1, DV.shallow.eq_2, DV.shallow.eq_3, DV.testD.eq_1, DV.truthD.eq_1, DV.truthD.eq_2, DV.truthD.eq_3, DV.truthD.eq_4, DV.truthD.eq_5, DV.truthD.eq_6, DV.truthD.eq_7, DV.truthD.eq_8, DV.finish.eq_1, DV.finish.eq_2, DV.finish.eq_3, DV.finish.eq_4, DV.finish.eq_5, DV.outsOf.eq_1, DV.outsOf.eq_2, DV.outsOf.eq_3, DV.ownPs.eq_1, DV.ownPs.eq_2, DV.ownPs.eq_3, DV.disjB.eq_1, DV.isLst.eq_1, DV.appD.eq_1, DV.extD.eq_1, DV.setD.eq_1, DV.asgT.eq_1, DV.asgT.eq_2, DV.asgT.asgTs.eq_1, DV.asgT.asgTs.eq_2, DV.tgIx.eq_1, DV.tgIx.eq_2, DV.tgIx.tgIxs.eq_1, DV.tgIx.tgIxs.eq_2, DV.iterD.eq_1, DV.iterD.eq_2, DV.iterD.eq_3, DV.it_rng, DV.binD.eq_1, DV.binD.eq_2, DV.binD.eq_3, DV.binD.eq_4, DV.binD.eq_5, DV.binD.eq_6, DV.binD.eq_7, DV.binD.eq_8, DV.binD.eq_9, DV.binD.eq_10, DV.cmpD.eq_1, DV.cmpD.eq_2, DV.cmpD.eq_3, DV.cmpD.eq_4, DV.cmpD.eq_5, DV.cmpD.eq_6, DV.cmpD.eq_7, DV.cmpD.eq_8, DV.cmpD.eq_9, DV.cmpD.eq_10, DV.cmpD.eq_11, DV.cmpD.eq_12, DV.isNonD.eq_1, DV.isNonD.eq_2, DV.ixD.eq_1, DV.ixD.eq_2, DV.ixD.eq_3, DV.ixD.eq_4, DV.slcD.eq_1, DV.slcD.eq_2, DV.slcD.eq_3, DV.slO.eq_1, DV.slO.eq_2, DV.plainIx.eq_1, DV.wipeG.eq_1, DV.wipeG.eq_2, DV.restG.eq_1, DV.restG.eq_2, DV.flatD.eq_1, DV.flatD.eq_2, DV.flatD.eq_3, DV.flatD.eq_4, DV.flatD.eq_5, DV.okB.eq_1, DV.okB.eq_2, DV.okB.eq_3, DV.okB.eq_4, DV.okB.eq_5, DV.okB.eq_6, DV.eqd.eq_1, DV.eqd.eq_2, DV.eqd.eq_3, DV.eqd.eq_4, DV.eqd.eq_5, DV.eqd.eq_6, DV.eqd.eq_7, DV.eqd.eq_8, DV.eqds.eq_1, DV.eqds.eq_2, DV.eqds.eq_3])

/-! ### times -/
theorem Rise.snoc : ∀ {lo t u : Int} {ts : List Int}, Rise lo (ts ++ [t]) → t < u → Rise lo (ts ++ [t, u])
  | lo, t, u, [], h, q => ⟨h.1, q, trivial⟩
  | lo, t, u, x :: ts, h, q => ⟨h.1, Rise.snoc (ts := ts) h.2 q⟩
theorem Rise.init : ∀ {lo t : Int} {ts : List Int}, Rise lo (ts ++ [t]) → Rise lo ts
  | lo, t, [], h => trivial
  | lo, t, x :: ts, h => ⟨h.1, Rise.init (ts := ts) h.2⟩
theorem times_loop (c u : Int) (hu : 1 ≤ u) (hu2 : u ≤ 10 ^ 21) : ∀ (n : Nat) (lo a k t : Int) (ts : List Int) (x2 : Sl), 0 ≤ k → k + 6 * n < 2 ^ 40 → ts.length + n ≤ 1000 → Rise (-1) (ts ++ [t]) →
    ∃ a' k' t' ts' x2', forLoop (.nm 2) (exs [F__law_draw, F__law_place, F__law_one] [0] B__law_times_1) (rngD lo 1 n) [some (wl a c k, true), some (.int u, false), x2, some (.lst (ts.map D.int), true), some (.int t, false)] =
      some (.nx [some (wl a' c k', true), some (.int u, false), x2', some (.lst (ts'.map D.int), true), some (.int t', false)]) ∧ 0 ≤ k' ∧ k' ≤ k + 6 * n ∧ Rise (-1) ts' ∧ ts'.length = ts.length + n
  | 0, lo, a, k, t, ts, x2, h0, h1, hz, hr => ⟨a, k, t, ts, x2, by simp [rngD, forLoop], h0, by omega, hr.init, by simp⟩
  | n + 1, lo, a, k, t, ts, x2, h0, h1, hz, hr => by
    have m3 : mulOk 3 u = true := mulOk_l (by decide) (by decide)
    obtain ⟨r1, a1, k1, e1, p1, q1, l1, b1⟩ := place_ok a c k (3 * u) h0 (by omega) (by omega) (by omega)
    obtain ⟨d, a2, k2, e2, p2, l2, b2⟩ := one_ok a1 c k1 [.int u, .int u, .int (1 + r1)] true l1 (by omega) (by simp) (by simp)
    have hd : ∃ v : Int, d = .int v ∧ 1 ≤ v := by
      simp only [List.mem_cons, List.not_mem_nil, or_false] at p2
      rcases p2 with rfl | rfl | rfl
      · exact ⟨u, rfl, hu⟩
      · exact ⟨u, rfl, hu⟩
      · exact ⟨1 + r1, rfl, by omega⟩
    obtain ⟨v, rfl, hv⟩ := hd
    have hlen : ts.length < 16777216 := by omega
    obtain ⟨a', k', t', ts', x2', e3, l3, b3, r3, z3⟩ := times_loop c u hu hu2 n (lo + 1) a2 k2 (t + v) (ts ++ [t]) (some (.int lo, false)) l2 (by omega) (by simp; omega) (by simpa using hr.snoc (u := t + v) (by omega))
    refine ⟨a', k', t', ts', x2', ?_, l3, by omega, r3, by simp at z3; omega⟩
    rw [rngD, ← e3]
    refine forLoop_step (Γ1 := [some (wl a c k, true), some (.int u, false), some (.int lo, false), some (.lst (ts.map D.int), true), some (.int t, false)]) (by simp [DV.runF.eq_1, DV.exs.eq_1, DV.exs.eq_2, DV.ex.eq_1, DV.ex.eq_2, DV.ex.eq_3, DV.ex.eq_4, DV.ex.eq_5, DV.ex.eq_6, DV.ex.eq_7, DV.ex.eq_8, DV.ex.eq_9, DV.ex.eq_10, DV.ex.eq_11, DV.ex.eq_12, DV.ex.eq_13, DV.ex.eq_14, DV.ex.eq_15, DV.ex.eq_16, DV.ev.eq_1, DV.ev.eq_2, DV.ev.eq_3, DV.ev.eq_4, DV.ev.eq_5, DV.ev.eq_6, DV.ev.eq_7, DV.ev.eq_8, DV.ev.eq_9, DV.ev.eq_10, DV.ev.eq_11, DV.ev.eq_12, DV.ev.eq_13, DV.ev.eq_14, DV.ev.eq_15, DV.ev.eq_16, DV.ev.eq_17, DV.ev.eq_18, DV.evs.eq_1, DV.evs.eq_2, DV.evc.eq_1, DV.evc.eq_2, DV.evn.eq_1, DV.evn.eq_2, DV.parS.eq_1, DV.parS.eq_2, DV.parS.eq_3, DV.datums.eq_1, DV.datums.eq_2, DV.datum.eq_1, DV.datum.eq_2, DV.datum.eq_3, DV.fre.eq_1, DV.fre.eq_2, DV.fre.eq_3, DV.fres.eq_1, DV.fres.eq_2, DV.argSs.eq_1, DV.argSs.eq_2, DV.argS.eq_1, DV.argS.eq_2, DV.argS.eq_3, DV.nodupB.eq_1, DV.nodupB.eq_2, DV.ownIx.eq_1, DV.ownIx.eq_2, DV.ownIx.eq_3, DV.putOuts.eq_1, DV.putOuts.eq_2, DV.putOuts.eq_3, DV.biD.eq_1, DV.biD.eq_2, DV.biD.eq_3, DV.biD.eq_4, DV.biD.eq_5, DV.biD.eq_6, DV.biD.eq_7, DV.biD.eq_8, DV.biD.eq_9, DV.biD.eq_10, DV.biD.eq_11, DV.biD.eq_12, DV.biD.eq_13, DV.biD.eq_14, DV.biD.eq_15, DV.biD.eq_16, DV.biD.eq_17, DV.biD.eq_18, DV.biD.eq_19, DV.isiD.eq_1, DV.isiD.eq_2, DV.isiD.eq_3, DV.isiD.eq_4, DV.isiD.eq_5, DV.isiD.eq_6, DV.isiD.eq_7, DV.shallow.eq_1, DV.shallow.eq_2, DV.shallow.eq_3, DV.testD.eq_1, DV.truthD.eq_1, DV.truthD.eq_2, DV.truthD.eq_3, DV.truthD.eq_4, DV.truthD.eq_5, DV.truthD.eq_6, DV.truthD.eq_7, DV.truthD.eq_8, DV.finish.eq_1, DV.finish.eq_2, DV.finish.eq_3, DV.finish.eq_4, DV.finish.eq_5, DV.outsOf.eq_1, DV.outsOf.eq_2, DV.outsOf.eq_3, DV.ownPs.eq_1, DV.ownPs.eq_2, DV.ownPs.eq_3, DV.disjB.eq_1, DV.isLst.eq_1, DV.appD.eq_1, DV.extD.eq_1, DV.setD.eq_1, DV.asgT.eq_1, DV.asgT.eq_2, DV.asgT.asgTs.eq_1, DV.asgT.asgTs.eq_2, DV.tgIx.eq_1, DV.tgIx.eq_2, DV.tgIx.tgIxs.eq_1, DV.tgIx.tgIxs.eq_2, DV.iterD.eq_1, DV.iterD.eq_2, DV.iterD.eq_3, DV.it_rng, DV.binD.eq_1, DV.binD.eq_2, DV.binD.eq_3, DV.binD.eq_4, DV.binD.eq_5, DV.binD.eq_6, DV.binD.eq_7, DV.binD.eq_8, DV.binD.eq_9, DV.binD.eq_10, DV.cmpD.eq_1, DV.cmpD.eq_2, DV.cmpD.eq_3, DV.cmpD.eq_4, DV.cmpD.eq_5, DV.cmpD.eq_6, DV.cmpD.eq_7, DV.cmpD.eq_8, DV.cmpD.eq_9, DV.cmpD.eq_10, DV.cmpD.eq_11, DV.cmpD.eq_12, DV.isNonD.eq_1, DV.isNonD.eq_2, DV.ixD.eq_1, DV.ixD.eq_2, DV.ixD.eq_3, DV.ixD.eq_4, DV.slcD.eq_1, DV.slcD.eq_2, DV.slcD.eq_3, DV.slO.eq_1, DV.slO.eq_2, DV.plainIx.eq_1, DV.wipeG.eq_1, DV.wipeG.eq_2, DV.restG.eq_1, DV.restG.eq_2, DV.flatD.eq_1, DV.flatD.eq_2, DV.flatD.eq_3, DV.flatD.eq_4, DV.flatD.eq_5, DV.okB.eq_1, DV.okB.eq_2, DV.okB.eq_3, DV.okB.eq_4, DV.okB.eq_5, DV.okB.eq_6, DV.eqd.eq_1, DV.eqd.eq_2, DV.eqd.eq_3, DV.eqd.eq_4, DV.eqd.eq_5, DV.eqd.eq_6, DV.eqd.eq_7, DV.eqd.eq_8, DV.eqds.eq_1, DV.eqds.eq_2, DV.eqds.eq_3]) ?_
    simp [B__law_times_1, DV.runF.eq_1, DV.exs.eq_1, DV.exs.eq_2, DV.ex.eq_1, DV.ex.eq_2, DV.ex.eq_3, DV.ex.eq_4, DV.ex.eq_5, DV.ex.eq_6, DV.ex.eq_7, DV.ex.eq_8, DV.ex.eq_9, DV.ex.eq_10, DV.ex.eq_11, DV.ex.eq_12, DV.ex.eq_13, DV.ex.eq_14, DV.ex.eq_15, DV.ex.eq_16, DV.ev.eq_1, DV.ev.eq_2, DV.ev.eq_3, DV.ev.eq_4, DV.ev.eq_5, DV.ev.eq_6, DV.ev.eq_7, DV.ev.eq_8, DV.ev.eq_9, DV.ev.eq_10, DV.ev.eq_11, DV.ev.eq_12, DV.ev.eq_13, DV.ev.eq_14, DV.ev.eq_15, DV.ev.eq_16, DV.ev.eq_17, DV.ev.eq_18, DV.evs.eq_1, DV.evs.eq_2, DV.evc.eq_1, DV.evc.eq_2, DV.evn.eq_1, DV.evn.eq_2, DV.parS.eq_1, DV.parS.eq_2, DV.parS.eq_3, DV.datums.eq_1, DV.datums.eq_2, DV.datum.eq_1, DV.datum.eq_2, DV.datum.eq_3, DV.fre.eq_1, DV.fre.eq_2, DV.fre.eq_3, DV.fres.eq_1, DV.fres.eq_2, DV.argSs.eq_1, DV.argSs.eq_2, DV.argS.eq_1, DV.argS.eq_2, DV.argS.eq_3, DV.nodupB.eq_1, DV.nodupB.eq_2, DV.ownIx.eq_1, DV.ownIx.eq_2, DV.ownIx.eq_3, DV.putOuts.eq_1, DV.putOuts.eq_2, DV.putOuts.eq_3, DV.biD.eq_1, DV.biD.eq_2, DV.biD.eq_3, DV.biD.eq_4, DV.biD.eq_5, DV.biD.eq_6, DV.biD.eq_7, DV.biD.eq_8, DV.biD.eq_9, DV.biD.eq_10, DV.biD.eq_11, DV.biD.eq_12, DV.biD.eq_13, DV.biD.eq_14, DV.biD.eq_15, DV.biD.eq_16, DV.biD.eq_17, DV.biD.eq_18, DV.biD.eq_19, DV.isiD.eq_1, DV.isiD.eq_2, DV.isiD.eq_3, DV.isiD.eq_4, DV.isiD.eq_5, DV.isiD.eq_6, DV.isiD.eq_7, DV.shallow.eq_1, DV.shallow.eq_2, DV.shallow.eq_3, DV.testD.eq_1, DV.truthD.eq_1, DV.truthD.eq_2, DV.truthD.eq_3, DV.truthD.eq_4, DV.truthD.eq_5, DV.truthD.eq_6, DV.truthD.eq_7, DV.truthD.eq_8, DV.finish.eq_1, DV.finish.eq_2, DV.finish.eq_3, DV.finish.eq_4, DV.finish.eq_5, DV.outsOf.eq_1, DV.outsOf.eq_2, DV.outsOf.eq_3, DV.ownPs.eq_1, DV.ownPs.eq_2, DV.ownPs.eq_3, DV.disjB.eq_1, DV.isLst.eq_1, DV.appD.eq_1, DV.extD.eq_1, DV.setD.eq_1, DV.asgT.eq_1, DV.asgT.eq_2, DV.asgT.asgTs.eq_1, DV.asgT.asgTs.eq_2, DV.tgIx.eq_1, DV.tgIx.eq_2, DV.tgIx.tgIxs.eq_1, DV.tgIx.tgIxs.eq_2, DV.iterD.eq_1, DV.iterD.eq_2, DV.iterD.eq_3, DV.it_rng, DV.binD.eq_1, DV.binD.eq_2, DV.binD.eq_3, DV.binD.eq_4, DV.binD.eq_5, DV.binD.eq_6, DV.binD.eq_7, DV.binD.eq_8, DV.binD.eq_9, DV.binD.eq_10, DV.cmpD.eq_1, DV.cmpD.eq_2, DV.cmpD.eq_3, DV.cmpD.eq_4, DV.cmpD.eq_5, DV.cmpD.eq_6, DV.cmpD.eq_7, DV.cmpD.eq_8, DV.cmpD.eq_9, DV.cmpD.eq_10, DV.cmpD.eq_11, DV.cmpD.eq_12, DV.isNonD.eq_1, DV.isNonD.eq_2, DV.ixD.eq_1, DV.ixD.eq_2, DV.ixD.eq_3, DV.ixD.eq_4, DV.slcD.eq_1, DV.slcD.eq_2, DV.slcD.eq_3, DV.slO.eq_1, DV.slO.eq_2, DV.plainIx.eq_1, DV.wipeG.eq_1, DV.wipeG.eq_2, DV.restG.eq_1, DV.restG.eq_2, DV.flatD.eq_1, DV.flatD.eq_2, DV.flatD.eq_3, DV.flatD.eq_4, DV.flatD.eq_5, DV.okB.eq_1, DV.okB.eq_2, DV.okB.eq_3, DV.okB.eq_4, DV.okB.eq_5, DV.okB.eq_6, DV.eqd.eq_1, DV.eqd.eq_2, DV.eqd.eq_3, DV.eqd.eq_4, DV.eqd.eq_5, DV.eqd.eq_6, DV.eqd.eq_7, DV.eqd.eq_8, DV.eqds.eq_1, DV.eqds.eq_2, DV.eqds.eq_3, m3, e1, e2, hlen, sizeLine]
theorem times_ok (a c k u : Int) (hu : 1 ≤ u) (hu2 : u ≤ 10 ^ 21) (h0 : 0 ≤ k) (h1 : k < 2 ^ 30) : ∃ a' k' ts, F__law_times [some (wl a c k, true), some (.int u, false)] = some (.nw (.lst (ts.map D.int)), [some (wl a' c k', true), some (.int u, false)]) ∧ 0 ≤ k' ∧ k' ≤ k + 300 ∧ Rise (-1) ts ∧ ts.length ≤ 40 := by
  obtain ⟨r1, a1, k1, e1, p1, q1, l1, b1⟩ := draw_ok a c k 5 h0 (by omega) (by decide) (by decide)
  obtain ⟨r2, a2, k2, e2, p2, q2, l2, b2⟩ := draw_ok a1 c k1 41 l1 (by omega) (by decide) (by decide)
  obtain ⟨n, rfl⟩ : ∃ n : Nat, r2 = n := ⟨r2.toNat, by omega⟩
  obtain ⟨a', k', t', ts', x2', e3, l3, b3, r3, z3⟩ := times_loop c u hu hu2 n 0 a2 k2 r1 [] none l2 (by omega) (by simp; omega) ⟨by omega, trivial⟩
  refine ⟨a', k', ts', ?_, l3, by omega, r3, by simp at z3; omega⟩
  have hn := fun Γ => rngN1 Γ n (by omega)
  refine runF_by (o := .rt (.sl 3) [some (wl a' c k', true), some (.int u, false), x2', some (.lst (ts'.map D.int), true), some (.int t', false)]) rfl (?_ : exs _ [0] _ [some (wl a c k, true), some (.int u, false), none, none, none] = _) rfl
  refine (exs_nx (Γ1 := [some (wl a1 c k1, true), some (.int u, false), none, some (.lst [], true), some (.int r1, false)]) (by simp [DV.runF.eq_1, DV.exs.eq_1, DV.exs.eq_2, DV.ex.eq_1, DV.ex.eq_2, DV.ex.eq_3, DV.ex.eq_4, DV.ex.eq_5, DV.ex.eq_6, DV.ex.eq_7, DV.ex.eq_8, DV.ex.eq_9, DV.ex.eq_10, DV.ex.eq_11, DV.ex.eq_12, DV.ex.eq_13, DV.ex.eq_14, DV.ex.eq_15, DV.ex.eq_16, DV.ev.eq_1, DV.ev.eq_2, DV.ev.eq_3, DV.ev.eq_4, DV.ev.eq_5, DV.ev.eq_6, DV.ev.eq_7, DV.ev.eq_8, DV.ev.eq_9, DV.ev.eq_10, DV.ev.eq_11, DV.ev.eq_12, DV.ev.eq_13, DV.ev.eq_14, DV.ev.eq_15, DV.ev.eq_16, DV.ev.eq_17, DV.ev.eq_18, DV.evs.eq_1, DV.evs.eq_2, DV.evc.eq_1, DV.evc.eq_2, DV.evn.eq_1, DV.evn.eq_2, DV.parS.eq_1, DV.parS.eq_2, DV.parS.eq_3, DV.datums.eq_1, DV.datums.eq_2, DV.datum.eq_1, DV.datum.eq_2, DV.datum.eq_3, DV.fre.eq_1, DV.fre.eq_2, DV.fre.eq_3, DV.fres.eq_1, DV.fres.eq_2, DV.argSs.eq_1, DV.argSs.eq_2, DV.argS.eq_1, DV.argS.eq_2, DV.argS.eq_3, DV.nodupB.eq_1, DV.nodupB.eq_2, DV.ownIx.eq_1, DV.ownIx.eq_2, DV.ownIx.eq_3, DV.putOuts.eq_1, DV.putOuts.eq_2, DV.putOuts.eq_3, DV.biD.eq_1, DV.biD.eq_2, DV.biD.eq_3, DV.biD.eq_4, DV.biD.eq_5, DV.biD.eq_6, DV.biD.eq_7, DV.biD.eq_8, DV.biD.eq_9, DV.biD.eq_10, DV.biD.eq_11, DV.biD.eq_12, DV.biD.eq_13, DV.biD.eq_14, DV.biD.eq_15, DV.biD.eq_16, DV.biD.eq_17, DV.biD.eq_18, DV.biD.eq_19, DV.isiD.eq_1, DV.isiD.eq_2, DV.isiD.eq_3, DV.isiD.eq_4, DV.isiD.eq_5, DV.isiD.eq_6, DV.isiD.eq_7, DV.shallow.eq_1, DV.shallow.eq_2, DV.shallow.eq_3, DV.testD.eq_1, DV.truthD.eq_1, DV.truthD.eq_2, DV.truthD.eq_3, DV.truthD.eq_4, DV.truthD.eq_5, DV.truthD.eq_6, DV.truthD.eq_7, DV.truthD.eq_8, DV.finish.eq_1, DV.finish.eq_2, DV.finish.eq_3, DV.finish.eq_4, DV.finish.eq_5, DV.outsOf.eq_1, DV.outsOf.eq_2, DV.outsOf.eq_3, DV.ownPs.eq_1, DV.ownPs.eq_2, DV.ownPs.eq_3, DV.disjB.eq_1, DV.isLst.eq_1, DV.appD.eq_1, DV.extD.eq_1, DV.setD.eq_1, DV.asgT.eq_1, DV.asgT.eq_2, DV.asgT.asgTs.eq_1, DV.asgT.asgTs.eq_2, DV.tgIx.eq_1, DV.tgIx.eq_2, DV.tgIx.tgIxs.eq_1, DV.tgIx.tgIxs.eq_2, DV.iterD.eq_1, DV.iterD.eq_2, DV.iterD.eq_3, DV.it_rng, DV.binD.eq_1, DV.binD.eq_2, DV.binD.eq_3, DV.binD.eq_4, DV.binD.eq_5, DV.binD.eq_6, DV.binD.eq_7, DV.binD.eq_8, DV.binD.eq_9, DV.binD.eq_10, DV.cmpD.eq_1, DV.cmpD.eq_2, DV.cmpD.eq_3, DV.cmpD.eq_4, DV.cmpD.eq_5, DV.cmpD.eq_6, DV.cmpD.eq_7, DV.cmpD.eq_8, DV.cmpD.eq_9, DV.cmpD.eq_10, DV.cmpD.eq_11, DV.cmpD.eq_12, DV.isNonD.eq_1, DV.isNonD.eq_2, DV.ixD.eq_1, DV.ixD.eq_2, DV.ixD.eq_3, DV.ixD.eq_4, DV.slcD.eq_1, DV.slcD.eq_2, DV.slcD.eq_3, DV.slO.eq_1, DV.slO.eq_2, DV.plainIx.eq_1, DV.wipeG.eq_1, DV.wipeG.eq_2, DV.restG.eq_1, DV.restG.eq_2, DV.flatD.eq_1, DV.flatD.eq_2, DV.flatD.eq_3, DV.flatD.eq_4, DV.flatD.eq_5, DV.okB.eq_1, DV.okB.eq_2, DV.okB.eq_3, DV.okB.eq_4, DV.okB.eq_5, DV.okB.eq_6, DV.eqd.eq_1, DV.eqd.eq_2, DV.eqd.eq_3, DV.eqd.eq_4, DV.eqd.eq_5, DV.eqd.eq_6, DV.eqd.eq_7, DV.eqd.eq_8, DV.eqds.eq_1, DV.eqds.eq_2, DV.eqds.eq_3, e1])).trans ?_
  refine (exs_nx (ex_for (Γ2 := [some (wl a2 c k2, true), some (.int u, false), none, some (.lst [], true), some (.int r1, false)]) (ds := rngD 0 1 n) (by simp [DV.runF.eq_1, DV.exs.eq_1, DV.exs.eq_2, DV.ex.eq_1, DV.ex.eq_2, DV.ex.eq_3, DV.ex.eq_4, DV.ex.eq_5, DV.ex.eq_6, DV.ex.eq_7, DV.ex.eq_8, DV.ex.eq_9, DV.ex.eq_10, DV.ex.eq_11, DV.ex.eq_12, DV.ex.eq_13, DV.ex.eq_14, DV.ex.eq_15, DV.ex.eq_16, DV.ev.eq_1, DV.ev.eq_2, DV.ev.eq_3, DV.ev.eq_4, DV.ev.eq_5, DV.ev.eq_6, DV.ev.eq_7, DV.ev.eq_8, DV.ev.eq_9, DV.ev.eq_10, DV.ev.eq_11, DV.ev.eq_12, DV.ev.eq_13, DV.ev.eq_14, DV.ev.eq_15, DV.ev.eq_16, DV.ev.eq_17, DV.ev.eq_18, DV.evs.eq_1, DV.evs.eq_2, DV.evc.eq_1, DV.evc.eq_2, DV.evn.eq_1, DV.evn.eq_2, DV.parS.eq_1, DV.parS.eq_2, DV.parS.eq_3, DV.datums.eq_1, DV.datums.eq_2, DV.datum.eq_1, DV.datum.eq_2, DV.datum.eq_3, DV.fre.eq_1, DV.fre.eq_2, DV.fre.eq_3, DV.fres.eq_1, DV.fres.eq_2, DV.argSs.eq_1, DV.argSs.eq_2, DV.argS.eq_1, DV.argS.eq_2, DV.argS.eq_3, DV.nodupB.eq_1, DV.nodupB.eq_2, DV.ownIx.eq_1, DV.ownIx.eq_2, DV.ownIx.eq_3, DV.putOuts.eq_1, DV.putOuts.eq_2, DV.putOuts.eq_3, DV.biD.eq_1, DV.biD.eq_2, DV.biD.eq_3, DV.biD.eq_4, DV.biD.eq_5, DV.biD.eq_6, DV.biD.eq_7, DV.biD.eq_8, DV.biD.eq_9, DV.biD.eq_10, DV.biD.eq_11, DV.biD.eq_12, DV.biD.eq_13, DV.biD.eq_14, DV.biD.eq_15, DV.biD.eq_16, DV.biD.eq_17, DV.biD.eq_18, DV.biD.eq_19, DV.isiD.eq_1, DV.isiD.eq_2, DV.isiD.eq_3, DV.isiD.eq_4, DV.isiD.eq_5, DV.isiD.eq_6, DV.isiD.eq_7, DV.shallow.eq_1, DV.shallow.eq_2, DV.shallow.eq_3, DV.testD.eq_1, DV.truthD.eq_1, DV.truthD.eq_2, DV.truthD.eq_3, DV.truthD.eq_4, DV.truthD.eq_5, DV.truthD.eq_6, DV.truthD.eq_7, DV.truthD.eq_8, DV.finish.eq_1, DV.finish.eq_2, DV.finish.eq_3, DV.finish.eq_4, DV.finish.eq_5, DV.outsOf.eq_1, DV.outsOf.eq_2, DV.outsOf.eq_3, DV.ownPs.eq_1, DV.ownPs.eq_2, DV.ownPs.eq_3, DV.disjB.eq_1, DV.isLst.eq_1, DV.appD.eq_1, DV.extD.eq_1, DV.setD.eq_1, DV.asgT.eq_1, DV.asgT.eq_2, DV.asgT.asgTs.eq_1, DV.asgT.asgTs.eq_2, DV.tgIx.eq_1, DV.tgIx.eq_2, DV.tgIx.tgIxs.eq_1, DV.tgIx.tgIxs.eq_2, DV.iterD.eq_1, DV.iterD.eq_2, DV.iterD.eq_3, DV.it_rng, DV.binD.eq_1, DV.binD.eq_2, DV.binD.eq_3, DV.binD.eq_4, DV.binD.eq_5, DV.binD.eq_6, DV.binD.eq_7, DV.binD.eq_8, DV.binD.eq_9, DV.binD.eq_10, DV.cmpD.eq_1, DV.cmpD.eq_2, DV.cmpD.eq_3, DV.cmpD.eq_4, DV.cmpD.eq_5, DV.cmpD.eq_6, DV.cmpD.eq_7, DV.cmpD.eq_8, DV.cmpD.eq_9, DV.cmpD.eq_10, DV.cmpD.eq_11, DV.cmpD.eq_12, DV.isNonD.eq_1, DV.isNonD.eq_2, DV.ixD.eq_1, DV.ixD.eq_2, DV.ixD.eq_3, DV.ixD.eq_4, DV.slcD.eq_1, DV.slcD.eq_2, DV.slcD.eq_3, DV.slO.eq_1, DV.slO.eq_2, DV.plainIx.eq_1, DV.wipeG.eq_1, DV.wipeG.eq_2, DV.restG.eq_1, DV.restG.eq_2, DV.flatD.eq_1, DV.flatD.eq_2, DV.flatD.eq_3, DV.flatD.eq_4, DV.flatD.eq_5, DV.okB.eq_1, DV.okB.eq_2, DV.okB.eq_3, DV.okB.eq_4, DV.okB.eq_5, DV.okB.eq_6, DV.eqd.eq_1, DV.eqd.eq_2, DV.eqd.eq_3, DV.eqd.eq_4, DV.eqd.eq_5, DV.eqd.eq_6, DV.eqd.eq_7, DV.eqd.eq_8, DV.eqds.eq_1, DV.eqds.eq_2, DV.eqds.eq_3, e2, hn]) rfl e3)).trans (by simp [DV.runF.eq_1, DV.exs.eq_1, DV.exs.eq_2, DV.ex.eq_1, DV.ex.eq_2, DV.ex.eq_3, DV.ex.eq_4, DV.ex.eq_5, DV.ex.eq_6, DV.ex.eq_7, DV.ex.eq_8, DV.ex.eq_9, DV.ex.eq_10, DV.ex.eq_11, DV.ex.eq_12, DV.ex.eq_13, DV.ex.eq_14, DV.ex.eq_15, DV.ex.eq_16, DV.ev.eq_1, DV.ev.eq_2, DV.ev.eq_3, DV.ev.eq_4, DV.ev.eq_5, DV.ev.eq_6, DV.ev.eq_7, DV.ev.eq_8, DV.ev.eq_9, DV.ev.eq_10, DV.ev.eq_11, DV.ev.eq_12, DV.ev.eq_13, DV.ev.eq_14, DV.ev.eq_15, DV.ev.eq_16, DV.ev.eq_17, DV.ev.eq_18, DV.evs.eq_1, DV.evs.eq_2, DV.evc.eq_1, DV.evc.eq_2, DV.evn.eq_1, DV.evn.eq_2, DV.parS.eq_1, DV.parS.eq_2, DV.parS.eq_3, DV.datums.eq_1, DV.datums.eq_2, DV.datum.eq_1, DV.datum.eq_2, DV.datum.eq_3, DV.fre.eq_1, DV.fre.eq_2, DV.fre.eq_3, DV.fres.eq_1, DV.fres.eq_2, DV.argSs.eq_1, DV.argSs.eq_2, DV.argS.eq_1, DV.argS.eq_2, DV.argS.eq_3, DV.nodupB.eq_1, DV.nodupB.eq_2, DV.ownIx.eq_1, DV.ownIx.eq_2, DV.ownIx.eq_3, DV.putOuts.eq_1, DV.putOuts.eq_2, DV.putOuts.eq_3, DV.biD.eq_1, DV.biD.eq_2, DV.biD.eq_3, DV.biD.eq_4, DV.biD.eq_5, DV.biD.eq_6, DV.biD.eq_7, DV.biD.eq_8, DV.biD.eq_9, DV.biD.eq_10, DV.biD.eq_11, DV.biD.eq_12, DV.biD.eq_13, DV.biD.eq_14, DV.biD.eq_15, DV.biD.eq_16, DV.biD.eq_17, DV.biD.eq_18, DV.biD.eq_19, DV.isiD.eq_1, DV.isiD.eq_2, DV.isiD.eq_3, DV.isiD.eq_4, DV.isiD.eq_5, DV.isiD.eq_6, DV.isiD.eq_7, DV.shallow.eq_1, DV.shallow.eq_2, DV.shallow.eq_3, DV.testD.eq_1, DV.truthD.eq_1, DV.truthD.eq_2, DV.truthD.eq_3, DV.truthD.eq_4, DV.truthD.eq_5, DV.truthD.eq_6, DV.truthD.eq_7, DV.truthD.eq_8, DV.finish.eq_1, DV.finish.eq_2, DV.finish.eq_3, DV.finish.eq_4, DV.finish.eq_5, DV.outsOf.eq_1, DV.outsOf.eq_2, DV.outsOf.eq_3, DV.ownPs.eq_1, DV.ownPs.eq_2, DV.ownPs.eq_3, DV.disjB.eq_1, DV.isLst.eq_1, DV.appD.eq_1, DV.extD.eq_1, DV.setD.eq_1, DV.asgT.eq_1, DV.asgT.eq_2, DV.asgT.asgTs.eq_1, DV.asgT.asgTs.eq_2, DV.tgIx.eq_1, DV.tgIx.eq_2, DV.tgIx.tgIxs.eq_1, DV.tgIx.tgIxs.eq_2, DV.iterD.eq_1, DV.iterD.eq_2, DV.iterD.eq_3, DV.it_rng, DV.binD.eq_1, DV.binD.eq_2, DV.binD.eq_3, DV.binD.eq_4, DV.binD.eq_5, DV.binD.eq_6, DV.binD.eq_7, DV.binD.eq_8, DV.binD.eq_9, DV.binD.eq_10, DV.cmpD.eq_1, DV.cmpD.eq_2, DV.cmpD.eq_3, DV.cmpD.eq_4, DV.cmpD.eq_5, DV.cmpD.eq_6, DV.cmpD.eq_7, DV.cmpD.eq_8, DV.cmpD.eq_9, DV.cmpD.eq_10, DV.cmpD.eq_11, DV.cmpD.eq_12, DV.isNonD.eq_1, DV.isNonD.eq_2, DV.ixD.eq_1, DV.ixD.eq_2, DV.ixD.eq_3, DV.ixD.eq_4, DV.slcD.eq_1, DV.slcD.eq_2, DV.slcD.eq_3, DV.slO.eq_1, DV.slO.eq_2, DV.plainIx.eq_1, DV.wipeG.eq_1, DV.wipeG.eq_2, DV.restG.eq_1, DV.restG.eq_2, DV.flatD.eq_1, DV.flatD.eq_2, DV.flatD.eq_3, DV.flatD.eq_4, DV.flatD.eq_5, DV.okB.eq_1, DV.okB.eq_2, DV.okB.eq_3, DV.okB.eq_4, DV.okB.eq_5, DV.okB.eq_6, DV.eqd.eq_1, DV.eqd.eq_2, DV.eqd.eq_3, DV.eqd.eq_4, DV.eqd.eq_5, DV.eqd.eq_6, DV.eqd.eq_7, DV.eqd.eq_8, DV.eqds.eq_1, DV.eqds.eq_2, DV.eqds.eq_3])

theorem logF_ok (w : Int) : ∀ (ts : List Int) (l s : Int), (logF w l s ts).all (okB 11) = true
  | [], _, _ => rfl
  | t :: r, l, s => by
    unfold logF
    split
    · rw [List.all_cons, logF_ok w r]
      rfl
    · rw [List.all_cons, logF_ok w r]
      rfl
theorem okB12 {ds : List D} (h : ds.all (okB 11) = true) : okB 12 (.lst ds) = true := h
theorem logF_all (w : Int) : ∀ (ts : List Int) (l s : Int), (ts.length : Int) < l → logF w l s ts = ts.map fun t => .tup [.int t, .bl true]
  | [], _, _, _ => rfl
  | t :: r, l, s, h => by
    have h0 : 0 < l := by omega
    rw [List.length_cons] at h
    unfold logF
    rw [if_pos (.inl h0), List.map_cons, logF_all w r (max 0 (l - 1)) t (by omega)]
abbrev rG (W : D) (u : Int) (x2 x3 x4 x5 x6 : Sl) : Ct := [some (W, true), some (.int u, false), x2, x3, x4, x5, x6, none]
abbrev fsR : List FS := [F__law_draw, F__law_place, F__law_times, F_log_of, F__law_log]
theorem comp_right (W : D) (u : Int) (ts : List Int) (x2 x4 x5 x6 : Sl) (hz : ts.length ≤ 40) : ev fsR (.comp [7] (.nm 7) .seq [.var 3] [] (.tup [.var 7, .cst (.bl true)])) (rG W u x2 (some (.lst (ts.map D.int), false)) x4 x5 x6) = some (.nw (.lst (ts.map fun t => .tup [.int t, .bl true])), rG W u x2 (some (.lst (ts.map D.int), false)) x4 x5 x6) := by
  have hz2 : ts.length ≤ 16777216 := by omega
  have key : compLoop [7] (.nm 7) (evc fsR []) (ev fsR (.tup [.var 7, .cst (.bl true)])) (ts.map D.int) [] (rG W u x2 (some (.lst (ts.map D.int), false)) x4 x5 x6) = some ((ts.map D.int).map (fun d => .tup [d, .bl true]), rG W u x2 (some (.lst (ts.map D.int), false)) x4 x5 x6) := by
    have := compLoop_map (own := [7]) (tg := .nm 7) (ct := evc fsR []) (el := ev fsR (.tup [.var 7, .cst (.bl true)])) (Γ := rG W u x2 (some (.lst (ts.map D.int), false)) x4 x5 x6) (fun d => .tup [d, .bl true]) (ds := ts.map D.int) (acc := []) (fun d _ acc rest => by simp [compLoop, DV.runF.eq_1, DV.exs.eq_1, DV.exs.eq_2, DV.ex.eq_1, DV.ex.eq_2, DV.ex.eq_3, DV.ex.eq_4, DV.ex.eq_5, DV.ex.eq_6, DV.ex.eq_7, DV.ex.eq_8, DV.ex.eq_9, DV.ex.eq_10, DV.ex.eq_11, DV.ex.eq_12, DV.ex.eq_13, DV.ex.eq_14, DV.ex.eq_15, DV.ex.eq_16, DV.ev.eq_1, DV.ev.eq_2, DV.ev.eq_3, DV.ev.eq_4, DV.ev.eq_5, DV.ev.eq_6, DV.ev.eq_7, DV.ev.eq_8, DV.ev.eq_9, DV.ev.eq_10, DV.ev.eq_11, DV.ev.eq_12, DV.ev.eq_13, DV.ev.eq_14, DV.ev.eq_15, DV.ev.eq_16, DV.ev.eq_17, DV.ev.eq_18, DV.evs.eq_1, DV.evs.eq_2, DV.evc.eq_1, DV.evc.eq_2, DV.evn.eq_1, DV.evn.eq_2, DV.parS.eq_1, DV.parS.eq_2, DV.parS.eq_3, DV.datums.eq_1, DV.datums.eq_2, DV.datum.eq_1, DV.datum.eq_2, DV.datum.eq_3, DV.fre.eq_1, DV.fre.eq_2, DV.fre.eq_3, DV.fres.eq_1, DV.fres.eq_2, DV.argSs.eq_1, DV.argSs.eq_2, DV.argS.eq_1, DV.argS.eq_2, DV.argS.eq_3, DV.nodupB.eq_1, DV.nodupB.eq_2, DV.ownIx.eq_1, DV.ownIx.eq_2, DV.ownIx.eq_3, DV.putOuts.eq_1, DV.putOuts.eq_2, DV.putOuts.eq_3, DV.biD.eq_1, DV.biD.eq_2, DV.biD.eq_3, DV.biD.eq_4, DV.biD.eq_5, DV.biD.eq_6, DV.biD.eq_7, DV.biD.eq_8, DV.biD.eq_9, DV.biD.eq_10, DV.biD.eq_11, DV.biD.eq_12, DV.biD.eq_13, DV.biD.eq_14, DV.biD.eq_15, DV.biD.eq_16, DV.biD.eq_17, DV.biD.eq_18, DV.biD.eq_19, DV.isiD.eq_1, DV.isiD.eq_2, DV.isiD.eq_3, DV.isiD.eq_4, DV.isiD.eq_5, DV.isiD.eq_6, DV.isiD.eq_7, DV.shallow.eq_1, DV.shallow.eq_2, DV.shallow.eq_3, DV.testD.eq_1, DV.truthD.eq_1, DV.truthD.eq_2, DV.truthD.eq_3, DV.truthD.eq_4, DV.truthD.eq_5, DV.truthD.eq_6, DV.truthD.eq_7, DV.truthD.eq_8, DV.finish.eq_1, DV.finish.eq_2, DV.finish.eq_3, DV.finish.eq_4, DV.finish.eq_5, DV.outsOf.eq_1, DV.outsOf.eq_2, DV.outsOf.eq_3, DV.ownPs.eq_1, DV.ownPs.eq_2, DV.ownPs.eq_3, DV.disjB.eq_1, DV.isLst.eq_1, DV.appD.eq_1, DV.extD.eq_1, DV.setD.eq_1, DV.asgT.eq_1, DV.asgT.eq_2, DV.asgT.asgTs.eq_1, DV.asgT.asgTs.eq_2, DV.tgIx.eq_1, DV.tgIx.eq_2, DV.tgIx.tgIxs.eq_1, DV.tgIx.tgIxs.eq_2, DV.iterD.eq_1, DV.iterD.eq_2, DV.iterD.eq_3, DV.it_rng, DV.binD.eq_1, DV.binD.eq_2, DV.binD.eq_3, DV.binD.eq_4, DV.binD.eq_5, DV.binD.eq_6, DV.binD.eq_7, DV.binD.eq_8, DV.binD.eq_9, DV.binD.eq_10, DV.cmpD.eq_3, DV.cmpD.eq_4, DV.cmpD.eq_5, DV.cmpD.eq_6, DV.cmpD.eq_7, DV.cmpD.eq_8, DV.cmpD.eq_9, DV.cmpD.eq_10, DV.cmpD.eq_11, DV.cmpD.eq_12, DV.isNonD.eq_1, DV.isNonD.eq_2, DV.ixD.eq_1, DV.ixD.eq_2, DV.ixD.eq_3, DV.ixD.eq_4, DV.slcD.eq_1, DV.slcD.eq_2, DV.slcD.eq_3, DV.slO.eq_1, DV.slO.eq_2, DV.plainIx.eq_1, DV.wipeG.eq_1, DV.wipeG.eq_2, DV.restG.eq_1, DV.restG.eq_2, DV.flatD.eq_1, DV.flatD.eq_2, DV.flatD.eq_3, DV.flatD.eq_4, DV.flatD.eq_5, sizeLine])
    simpa using this
  have e1 : wipeG (rG W u x2 (some (.lst (ts.map D.int), false)) x4 x5 x6) [7] = rG W u x2 (some (.lst (ts.map D.int), false)) x4 x5 x6 := rfl
  rw [DV.ev.eq_18]
  simp only [evs, DV.ev.eq_2, iterD, fre, List.getElem?_cons_succ, List.getElem?_cons_zero, Option.bind_some, Option.map_some]
  rw [if_pos (by simp [plainIx, tgIx, hz2, sizeLine]), e1, key]
  simp [restG, List.map_map, Function.comp_def]
theorem right_body (a c k u : Int) (x2 x3 x4 x5 x6 : Sl) (h0 : 0 ≤ k) (h1 : k < 2 ^ 20) (hu : 1 ≤ u) (hu2 : u ≤ 10 ^ 21) : ∃ a' k' y3 y4 y5 y6, exs fsR [0] B__law_right_1 (rG (wl a c k) u x2 x3 x4 x5 x6) = some (.nx (rG (wl a' c k') u x2 y3 y4 y5 y6)) ∧ 0 ≤ k' ∧ k' ≤ k + 400 := by
  obtain ⟨a1, k1, ts, e1, p1, q1, hr, hl⟩ := times_ok a c k u hu hu2 h0 (by omega)
  obtain ⟨r2, a2, k2, e2, p2, q2, l2, b2⟩ := draw_ok a1 c k1 6 p1 (by omega) (by decide) (by decide)
  obtain ⟨r3, a3, k3, e3, p3, q3, l3, b3⟩ := place_ok a2 c k2 (6 * u) l2 (by omega) (by omega) (by omega)
  obtain ⟨r4, a4, k4, e4, p4, q4, l4, b4⟩ := draw_ok a3 c k3 9 l3 (by omega) (by decide) (by decide)
  have m6 : mulOk 6 u = true := mulOk_l (by decide) (by decide)
  have bok : BrOk (1 + r2) (1 + r3) (1 + r4) := ⟨by omega, by omega, by omega, by omega, by omega, by omega⟩
  have hl1 : ts.length ≤ 1000 := by omega
  have g1 := log_of_ok (1 + r2) (1 + r3) (1 + r4) ts true bok hr hl1
  have g2 := log_of_ok (1 + r2) (1 + r3) (1 + r4) ts false bok hr hl1
  have g3 := law_log_ok (1 + r2) (1 + r3) (1 + r4) ts hl1
  rw [← logs_alike (1 + r3) ts (1 + r2) 0 none (.inl ⟨by omega, rfl⟩)] at g3
  have g4 := log_of_ok (10 ^ 12) 1 1 ts false ⟨by decide, by decide, by decide, by decide, by decide, by decide⟩ hr hl1
  rw [logF_all 1 ts (10 ^ 12) 0 (by omega)] at g4
  have o1 := okB12 (logF_ok (1 + r3) ts (1 + r2) 0)
  have o2 : okB 12 (.lst (ts.map fun t => .tup [.int t, .bl true])) = true := by
    refine okB12 ?_
    rw [List.all_map]
    simp only [List.all_eq_true]
    intro x _
    rfl
  have ol := logF_len (1 + r3) ts (1 + r2) 0
  generalize logF (1 + r3) (1 + r2) 0 ts = L at g1 g2 g3 o1 ol
  generalize hM : (ts.map fun t => D.tup [.int t, .bl true]) = M at g4 o2
  have o3 := okB_ints 11 ts
  have hL : L.length < 16777216 := by omega
  have cR := fun x2 x4 x5 x6 => comp_right (wl a4 c k4) u ts x2 x4 x5 x6 hl
  rw [hM] at cR
  refine ⟨a4, k4, some (.lst (ts.map D.int), false), some (br (1 + r2) (1 + r3) (1 + r4), false), some (.lst (ts.map D.int), true), some (.lst (L ++ [.non]), true), ?_, l4, by omega⟩
  generalize ts.map D.int = T at *
  generalize hB : br (1 + r2) (1 + r3) (1 + r4) = B at *
  unfold B__law_right_1
  refine (exs_nx (Γ1 := rG (wl a1 c k1) u x2 (some (.lst T, true)) x4 x5 x6) (by simp [DV.runF.eq_1, DV.exs.eq_1, DV.exs.eq_2, DV.ex.eq_1, DV.ex.eq_2, DV.ex.eq_3, DV.ex.eq_4, DV.ex.eq_5, DV.ex.eq_6, DV.ex.eq_7, DV.ex.eq_8, DV.ex.eq_9, DV.ex.eq_10, DV.ex.eq_11, DV.ex.eq_12, DV.ex.eq_13, DV.ex.eq_14, DV.ex.eq_15, DV.ex.eq_16, DV.ev.eq_1, DV.ev.eq_2, DV.ev.eq_3, DV.ev.eq_4, DV.ev.eq_5, DV.ev.eq_6, DV.ev.eq_7, DV.ev.eq_8, DV.ev.eq_9, DV.ev.eq_10, DV.ev.eq_11, DV.ev.eq_12, DV.ev.eq_13, DV.ev.eq_14, DV.ev.eq_15, DV.ev.eq_16, DV.ev.eq_17, DV.ev.eq_18, DV.evs.eq_1, DV.evs.eq_2, DV.evc.eq_1, DV.evc.eq_2, DV.evn.eq_1, DV.evn.eq_2, DV.parS.eq_1, DV.parS.eq_2, DV.parS.eq_3, DV.datums.eq_1, DV.datums.eq_2, DV.datum.eq_1, DV.datum.eq_2, DV.datum.eq_3, DV.fre.eq_1, DV.fre.eq_2, DV.fre.eq_3, DV.fres.eq_1, DV.fres.eq_2, DV.argSs.eq_1, DV.argSs.eq_2, DV.argS.eq_1, DV.argS.eq_2, DV.argS.eq_3, DV.nodupB.eq_1, DV.nodupB.eq_2, DV.ownIx.eq_1, DV.ownIx.eq_2, DV.ownIx.eq_3, DV.putOuts.eq_1, DV.putOuts.eq_2, DV.putOuts.eq_3, DV.biD.eq_1, DV.biD.eq_2, DV.biD.eq_3, DV.biD.eq_4, DV.biD.eq_5, DV.biD.eq_6, DV.biD.eq_7, DV.biD.eq_8, DV.biD.eq_9, DV.biD.eq_10, DV.biD.eq_11, DV.biD.eq_12, DV.biD.eq_13, DV.biD.eq_14, DV.biD.eq_15, DV.biD.eq_16, DV.biD.eq_17, DV.biD.eq_18, DV.biD.eq_19, DV.isiD.eq_1, DV.isiD.eq_2, DV.isiD.eq_3, DV.isiD.eq_4, DV.isiD.eq_5, DV.isiD.eq_6, DV.isiD.eq_7, DV.shallow.eq_1, DV.shallow.eq_2, DV.shallow.eq_3, DV.testD.eq_1, DV.truthD.eq_1, DV.truthD.eq_2, DV.truthD.eq_3, DV.truthD.eq_4, DV.truthD.eq_5, DV.truthD.eq_6, DV.truthD.eq_7, DV.truthD.eq_8, DV.finish.eq_1, DV.finish.eq_2, DV.finish.eq_3, DV.finish.eq_4, DV.finish.eq_5, DV.outsOf.eq_1, DV.outsOf.eq_2, DV.outsOf.eq_3, DV.ownPs.eq_1, DV.ownPs.eq_2, DV.ownPs.eq_3, DV.disjB.eq_1, DV.isLst.eq_1, DV.appD.eq_1, DV.extD.eq_1, DV.setD.eq_1, DV.asgT.eq_1, DV.asgT.eq_2, DV.asgT.asgTs.eq_1, DV.asgT.asgTs.eq_2, DV.tgIx.eq_1, DV.tgIx.eq_2, DV.tgIx.tgIxs.eq_1, DV.tgIx.tgIxs.eq_2, DV.iterD.eq_1, DV.iterD.eq_2, DV.iterD.eq_3, DV.it_rng, DV.binD.eq_1, DV.binD.eq_2, DV.binD.eq_3, DV.binD.eq_4, DV.binD.eq_5, DV.binD.eq_6, DV.binD.eq_7, DV.binD.eq_8, DV.binD.eq_9, DV.binD.eq_10, DV.cmpD.eq_3, DV.cmpD.eq_4, DV.cmpD.eq_5, DV.cmpD.eq_6, DV.cmpD.eq_7, DV.cmpD.eq_8, DV.cmpD.eq_9, DV.cmpD.eq_10, DV.cmpD.eq_11, DV.cmpD.eq_12, DV.isNonD.eq_1, DV.isNonD.eq_2, DV.ixD.eq_1, DV.ixD.eq_2, DV.ixD.eq_3, DV.ixD.eq_4, DV.slcD.eq_1, DV.slcD.eq_2, DV.slcD.eq_3, DV.slO.eq_1, DV.slO.eq_2, DV.plainIx.eq_1, DV.wipeG.eq_1, DV.wipeG.eq_2, DV.restG.eq_1, DV.restG.eq_2, DV.flatD.eq_1, DV.flatD.eq_2, DV.flatD.eq_3, DV.flatD.eq_4, DV.flatD.eq_5, e1])).trans ?_
  refine (exs_nx (Γ1 := rG (wl a4 c k4) u x2 (some (.lst T, true)) (some (B, false)) x5 x6) (by simp [DV.runF.eq_1, DV.exs.eq_1, DV.exs.eq_2, DV.ex.eq_1, DV.ex.eq_2, DV.ex.eq_3, DV.ex.eq_4, DV.ex.eq_5, DV.ex.eq_6, DV.ex.eq_7, DV.ex.eq_8, DV.ex.eq_9, DV.ex.eq_10, DV.ex.eq_11, DV.ex.eq_12, DV.ex.eq_13, DV.ex.eq_14, DV.ex.eq_15, DV.ex.eq_16, DV.ev.eq_1, DV.ev.eq_2, DV.ev.eq_3, DV.ev.eq_4, DV.ev.eq_5, DV.ev.eq_6, DV.ev.eq_7, DV.ev.eq_8, DV.ev.eq_9, DV.ev.eq_10, DV.ev.eq_11, DV.ev.eq_12, DV.ev.eq_13, DV.ev.eq_14, DV.ev.eq_15, DV.ev.eq_16, DV.ev.eq_17, DV.ev.eq_18, DV.evs.eq_1, DV.evs.eq_2, DV.evc.eq_1, DV.evc.eq_2, DV.evn.eq_1, DV.evn.eq_2, DV.parS.eq_1, DV.parS.eq_2, DV.parS.eq_3, DV.datums.eq_1, DV.datums.eq_2, DV.datum.eq_1, DV.datum.eq_2, DV.datum.eq_3, DV.fre.eq_1, DV.fre.eq_2, DV.fre.eq_3, DV.fres.eq_1, DV.fres.eq_2, DV.argSs.eq_1, DV.argSs.eq_2, DV.argS.eq_1, DV.argS.eq_2, DV.argS.eq_3, DV.nodupB.eq_1, DV.nodupB.eq_2, DV.ownIx.eq_1, DV.ownIx.eq_2, DV.ownIx.eq_3, DV.putOuts.eq_1, DV.putOuts.eq_2, DV.putOuts.eq_3, DV.biD.eq_1, DV.biD.eq_2, DV.biD.eq_3, DV.biD.eq_4, DV.biD.eq_5, DV.biD.eq_6, DV.biD.eq_7, DV.biD.eq_8, DV.biD.eq_9, DV.biD.eq_10, DV.biD.eq_11, DV.biD.eq_12, DV.biD.eq_13, DV.biD.eq_14, DV.biD.eq_15, DV.biD.eq_16, DV.biD.eq_17, DV.biD.eq_18, DV.biD.eq_19, DV.isiD.eq_1, DV.isiD.eq_2, DV.isiD.eq_3, DV.isiD.eq_4, DV.isiD.eq_5, DV.isiD.eq_6, DV.isiD.eq_7, DV.shallow.eq_1, DV.shallow.eq_2, DV.shallow.eq_3, DV.testD.eq_1, DV.truthD.eq_1, DV.truthD.eq_2, DV.truthD.eq_3, DV.truthD.eq_4, DV.truthD.eq_5, DV.truthD.eq_6, DV.truthD.eq_7, DV.truthD.eq_8, DV.finish.eq_1, DV.finish.eq_2, DV.finish.eq_3, DV.finish.eq_4, DV.finish.eq_5, DV.outsOf.eq_1, DV.outsOf.eq_2, DV.outsOf.eq_3, DV.ownPs.eq_1, DV.ownPs.eq_2, DV.ownPs.eq_3, DV.disjB.eq_1, DV.isLst.eq_1, DV.appD.eq_1, DV.extD.eq_1, DV.setD.eq_1, DV.asgT.eq_1, DV.asgT.eq_2, DV.asgT.asgTs.eq_1, DV.asgT.asgTs.eq_2, DV.tgIx.eq_1, DV.tgIx.eq_2, DV.tgIx.tgIxs.eq_1, DV.tgIx.tgIxs.eq_2, DV.iterD.eq_1, DV.iterD.eq_2, DV.iterD.eq_3, DV.it_rng, DV.binD.eq_1, DV.binD.eq_2, DV.binD.eq_3, DV.binD.eq_4, DV.binD.eq_5, DV.binD.eq_6, DV.binD.eq_7, DV.binD.eq_8, DV.binD.eq_9, DV.binD.eq_10, DV.cmpD.eq_3, DV.cmpD.eq_4, DV.cmpD.eq_5, DV.cmpD.eq_6, DV.cmpD.eq_7, DV.cmpD.eq_8, DV.cmpD.eq_9, DV.cmpD.eq_10, DV.cmpD.eq_11, DV.cmpD.eq_12, DV.isNonD.eq_1, DV.isNonD.eq_2, DV.ixD.eq_1, DV.ixD.eq_2, DV.ixD.eq_3, DV.ixD.eq_4, DV.slcD.eq_1, DV.slcD.eq_2, DV.slcD.eq_3, DV.slO.eq_1, DV.slO.eq_2, DV.plainIx.eq_1, DV.wipeG.eq_1, DV.wipeG.eq_2, DV.restG.eq_1, DV.restG.eq_2, DV.flatD.eq_1, DV.flatD.eq_2, DV.flatD.eq_3, DV.flatD.eq_4, DV.flatD.eq_5, e2, e3, e4, m6, sizeLine, ← hB])).trans ?_
  refine (exs_nx (Γ1 := rG (wl a4 c k4) u x2 (some (.lst T, true)) (some (B, false)) (some (.lst T, true)) x6) (by simp [DV.runF.eq_1, DV.exs.eq_1, DV.exs.eq_2, DV.ex.eq_1, DV.ex.eq_2, DV.ex.eq_3, DV.ex.eq_4, DV.ex.eq_5, DV.ex.eq_6, DV.ex.eq_7, DV.ex.eq_8, DV.ex.eq_9, DV.ex.eq_10, DV.ex.eq_11, DV.ex.eq_12, DV.ex.eq_13, DV.ex.eq_14, DV.ex.eq_15, DV.ex.eq_16, DV.ev.eq_1, DV.ev.eq_2, DV.ev.eq_3, DV.ev.eq_4, DV.ev.eq_5, DV.ev.eq_6, DV.ev.eq_7, DV.ev.eq_8, DV.ev.eq_9, DV.ev.eq_10, DV.ev.eq_11, DV.ev.eq_12, DV.ev.eq_13, DV.ev.eq_14, DV.ev.eq_15, DV.ev.eq_16, DV.ev.eq_17, DV.ev.eq_18, DV.evs.eq_1, DV.evs.eq_2, DV.evc.eq_1, DV.evc.eq_2, DV.evn.eq_1, DV.evn.eq_2, DV.parS.eq_1, DV.parS.eq_2, DV.parS.eq_3, DV.datums.eq_1, DV.datums.eq_2, DV.datum.eq_1, DV.datum.eq_2, DV.datum.eq_3, DV.fre.eq_1, DV.fre.eq_2, DV.fre.eq_3, DV.fres.eq_1, DV.fres.eq_2, DV.argSs.eq_1, DV.argSs.eq_2, DV.argS.eq_1, DV.argS.eq_2, DV.argS.eq_3, DV.nodupB.eq_1, DV.nodupB.eq_2, DV.ownIx.eq_1, DV.ownIx.eq_2, DV.ownIx.eq_3, DV.putOuts.eq_1, DV.putOuts.eq_2, DV.putOuts.eq_3, DV.biD.eq_1, DV.biD.eq_2, DV.biD.eq_3, DV.biD.eq_4, DV.biD.eq_5, DV.biD.eq_6, DV.biD.eq_7, DV.biD.eq_8, DV.biD.eq_9, DV.biD.eq_10, DV.biD.eq_11, DV.biD.eq_12, DV.biD.eq_13, DV.biD.eq_14, DV.biD.eq_15, DV.biD.eq_16, DV.biD.eq_17, DV.biD.eq_18, DV.biD.eq_19, DV.isiD.eq_1, DV.isiD.eq_2, DV.isiD.eq_3, DV.isiD.eq_4, DV.isiD.eq_5, DV.isiD.eq_6, DV.isiD.eq_7, DV.shallow.eq_1, DV.shallow.eq_2, DV.shallow.eq_3, DV.testD.eq_1, DV.truthD.eq_1, DV.truthD.eq_2, DV.truthD.eq_3, DV.truthD.eq_4, DV.truthD.eq_5, DV.truthD.eq_6, DV.truthD.eq_7, DV.truthD.eq_8, DV.finish.eq_1, DV.finish.eq_2, DV.finish.eq_3, DV.finish.eq_4, DV.finish.eq_5, DV.outsOf.eq_1, DV.outsOf.eq_2, DV.outsOf.eq_3, DV.ownPs.eq_1, DV.ownPs.eq_2, DV.ownPs.eq_3, DV.disjB.eq_1, DV.isLst.eq_1, DV.appD.eq_1, DV.extD.eq_1, DV.setD.eq_1, DV.asgT.eq_1, DV.asgT.eq_2, DV.asgT.asgTs.eq_1, DV.asgT.asgTs.eq_2, DV.tgIx.eq_1, DV.tgIx.eq_2, DV.tgIx.tgIxs.eq_1, DV.tgIx.tgIxs.eq_2, DV.iterD.eq_1, DV.iterD.eq_2, DV.iterD.eq_3, DV.it_rng, DV.binD.eq_1, DV.binD.eq_2, DV.binD.eq_3, DV.binD.eq_4, DV.binD.eq_5, DV.binD.eq_6, DV.binD.eq_7, DV.binD.eq_8, DV.binD.eq_9, DV.binD.eq_10, DV.cmpD.eq_3, DV.cmpD.eq_4, DV.cmpD.eq_5, DV.cmpD.eq_6, DV.cmpD.eq_7, DV.cmpD.eq_8, DV.cmpD.eq_9, DV.cmpD.eq_10, DV.cmpD.eq_11, DV.cmpD.eq_12, DV.isNonD.eq_1, DV.isNonD.eq_2, DV.ixD.eq_1, DV.ixD.eq_2, DV.ixD.eq_3, DV.ixD.eq_4, DV.slcD.eq_1, DV.slcD.eq_2, DV.slcD.eq_3, DV.slO.eq_1, DV.slO.eq_2, DV.plainIx.eq_1, DV.wipeG.eq_1, DV.wipeG.eq_2, DV.restG.eq_1, DV.restG.eq_2, DV.flatD.eq_1, DV.flatD.eq_2, DV.flatD.eq_3, DV.flatD.eq_4, DV.flatD.eq_5])).trans ?_
  refine (exs_nx (Γ1 := rG (wl a4 c k4) u x2 (some (.lst T, false)) (some (B, false)) (some (.lst T, true)) (some (.lst L, true))) (by simp [DV.runF.eq_1, DV.exs.eq_1, DV.exs.eq_2, DV.ex.eq_1, DV.ex.eq_2, DV.ex.eq_3, DV.ex.eq_4, DV.ex.eq_5, DV.ex.eq_6, DV.ex.eq_7, DV.ex.eq_8, DV.ex.eq_9, DV.ex.eq_10, DV.ex.eq_11, DV.ex.eq_12, DV.ex.eq_13, DV.ex.eq_14, DV.ex.eq_15, DV.ex.eq_16, DV.ev.eq_1, DV.ev.eq_2, DV.ev.eq_3, DV.ev.eq_4, DV.ev.eq_5, DV.ev.eq_6, DV.ev.eq_7, DV.ev.eq_8, DV.ev.eq_9, DV.ev.eq_10, DV.ev.eq_11, DV.ev.eq_12, DV.ev.eq_13, DV.ev.eq_14, DV.ev.eq_15, DV.ev.eq_16, DV.ev.eq_17, DV.ev.eq_18, DV.evs.eq_1, DV.evs.eq_2, DV.evc.eq_1, DV.evc.eq_2, DV.evn.eq_1, DV.evn.eq_2, DV.parS.eq_1, DV.parS.eq_2, DV.parS.eq_3, DV.datums.eq_1, DV.datums.eq_2, DV.datum.eq_1, DV.datum.eq_2, DV.datum.eq_3, DV.fre.eq_1, DV.fre.eq_2, DV.fre.eq_3, DV.fres.eq_1, DV.fres.eq_2, DV.argSs.eq_1, DV.argSs.eq_2, DV.argS.eq_1, DV.argS.eq_2, DV.argS.eq_3, DV.nodupB.eq_1, DV.nodupB.eq_2, DV.ownIx.eq_1, DV.ownIx.eq_2, DV.ownIx.eq_3, DV.putOuts.eq_1, DV.putOuts.eq_2, DV.putOuts.eq_3, DV.biD.eq_1, DV.biD.eq_2, DV.biD.eq_3, DV.biD.eq_4, DV.biD.eq_5, DV.biD.eq_6, DV.biD.eq_7, DV.biD.eq_8, DV.biD.eq_9, DV.biD.eq_10, DV.biD.eq_11, DV.biD.eq_12, DV.biD.eq_13, DV.biD.eq_14, DV.biD.eq_15, DV.biD.eq_16, DV.biD.eq_17, DV.biD.eq_18, DV.biD.eq_19, DV.isiD.eq_1, DV.isiD.eq_2, DV.isiD.eq_3, DV.isiD.eq_4, DV.isiD.eq_5, DV.isiD.eq_6, DV.isiD.eq_7, DV.shallow.eq_1, DV.shallow.eq_2, DV.shallow.eq_3, DV.testD.eq_1, DV.truthD.eq_1, DV.truthD.eq_2, DV.truthD.eq_3, DV.truthD.eq_4, DV.truthD.eq_5, DV.truthD.eq_6, DV.truthD.eq_7, DV.truthD.eq_8, DV.finish.eq_1, DV.finish.eq_2, DV.finish.eq_3, DV.finish.eq_4, DV.finish.eq_5, DV.outsOf.eq_1, DV.outsOf.eq_2, DV.outsOf.eq_3, DV.ownPs.eq_1, DV.ownPs.eq_2, DV.ownPs.eq_3, DV.disjB.eq_1, DV.isLst.eq_1, DV.appD.eq_1, DV.extD.eq_1, DV.setD.eq_1, DV.asgT.eq_1, DV.asgT.eq_2, DV.asgT.asgTs.eq_1, DV.asgT.asgTs.eq_2, DV.tgIx.eq_1, DV.tgIx.eq_2, DV.tgIx.tgIxs.eq_1, DV.tgIx.tgIxs.eq_2, DV.iterD.eq_1, DV.iterD.eq_2, DV.iterD.eq_3, DV.it_rng, DV.binD.eq_1, DV.binD.eq_2, DV.binD.eq_3, DV.binD.eq_4, DV.binD.eq_5, DV.binD.eq_6, DV.binD.eq_7, DV.binD.eq_8, DV.binD.eq_9, DV.binD.eq_10, DV.cmpD.eq_3, DV.cmpD.eq_4, DV.cmpD.eq_5, DV.cmpD.eq_6, DV.cmpD.eq_7, DV.cmpD.eq_8, DV.cmpD.eq_9, DV.cmpD.eq_10, DV.cmpD.eq_11, DV.cmpD.eq_12, DV.isNonD.eq_1, DV.isNonD.eq_2, DV.ixD.eq_1, DV.ixD.eq_2, DV.ixD.eq_3, DV.ixD.eq_4, DV.slcD.eq_1, DV.slcD.eq_2, DV.slcD.eq_3, DV.slO.eq_1, DV.slO.eq_2, DV.plainIx.eq_1, DV.wipeG.eq_1, DV.wipeG.eq_2, DV.restG.eq_1, DV.restG.eq_2, DV.flatD.eq_1, DV.flatD.eq_2, DV.flatD.eq_3, DV.flatD.eq_4, DV.flatD.eq_5, g1])).trans ?_
  refine (exs_nx (Γ1 := rG (wl a4 c k4) u x2 (some (.lst T, false)) (some (B, false)) (some (.lst T, true)) (some (.lst L, true))) (by simp [DV.runF.eq_1, DV.exs.eq_1, DV.exs.eq_2, DV.ex.eq_1, DV.ex.eq_2, DV.ex.eq_3, DV.ex.eq_4, DV.ex.eq_5, DV.ex.eq_6, DV.ex.eq_7, DV.ex.eq_8, DV.ex.eq_9, DV.ex.eq_10, DV.ex.eq_11, DV.ex.eq_12, DV.ex.eq_13, DV.ex.eq_14, DV.ex.eq_15, DV.ex.eq_16, DV.ev.eq_1, DV.ev.eq_2, DV.ev.eq_3, DV.ev.eq_4, DV.ev.eq_5, DV.ev.eq_6, DV.ev.eq_7, DV.ev.eq_8, DV.ev.eq_9, DV.ev.eq_10, DV.ev.eq_11, DV.ev.eq_12, DV.ev.eq_13, DV.ev.eq_14, DV.ev.eq_15, DV.ev.eq_16, DV.ev.eq_17, DV.ev.eq_18, DV.evs.eq_1, DV.evs.eq_2, DV.evc.eq_1, DV.evc.eq_2, DV.evn.eq_1, DV.evn.eq_2, DV.parS.eq_1, DV.parS.eq_2, DV.parS.eq_3, DV.datums.eq_1, DV.datums.eq_2, DV.datum.eq_1, DV.datum.eq_2, DV.datum.eq_3, DV.fre.eq_1, DV.fre.eq_2, DV.fre.eq_3, DV.fres.eq_1, DV.fres.eq_2, DV.argSs.eq_1, DV.argSs.eq_2, DV.argS.eq_1, DV.argS.eq_2, DV.argS.eq_3, DV.nodupB.eq_1, DV.nodupB.eq_2, DV.ownIx.eq_1, DV.ownIx.eq_2, DV.ownIx.eq_3, DV.putOuts.eq_1, DV.putOuts.eq_2, DV.putOuts.eq_3, DV.biD.eq_1, DV.biD.eq_2, DV.biD.eq_3, DV.biD.eq_4, DV.biD.eq_5, DV.biD.eq_6, DV.biD.eq_7, DV.biD.eq_8, DV.biD.eq_9, DV.biD.eq_10, DV.biD.eq_11, DV.biD.eq_12, DV.biD.eq_13, DV.biD.eq_14, DV.biD.eq_15, DV.biD.eq_16, DV.biD.eq_17, DV.biD.eq_18, DV.biD.eq_19, DV.isiD.eq_1, DV.isiD.eq_2, DV.isiD.eq_3, DV.isiD.eq_4, DV.isiD.eq_5, DV.isiD.eq_6, DV.isiD.eq_7, DV.shallow.eq_1, DV.shallow.eq_2, DV.shallow.eq_3, DV.testD.eq_1, DV.truthD.eq_1, DV.truthD.eq_2, DV.truthD.eq_3, DV.truthD.eq_4, DV.truthD.eq_5, DV.truthD.eq_6, DV.truthD.eq_7, DV.truthD.eq_8, DV.finish.eq_1, DV.finish.eq_2, DV.finish.eq_3, DV.finish.eq_4, DV.finish.eq_5, DV.outsOf.eq_1, DV.outsOf.eq_2, DV.outsOf.eq_3, DV.ownPs.eq_1, DV.ownPs.eq_2, DV.ownPs.eq_3, DV.disjB.eq_1, DV.isLst.eq_1, DV.appD.eq_1, DV.extD.eq_1, DV.setD.eq_1, DV.asgT.eq_1, DV.asgT.eq_2, DV.asgT.asgTs.eq_1, DV.asgT.asgTs.eq_2, DV.tgIx.eq_1, DV.tgIx.eq_2, DV.tgIx.tgIxs.eq_1, DV.tgIx.tgIxs.eq_2, DV.iterD.eq_1, DV.iterD.eq_2, DV.iterD.eq_3, DV.it_rng, DV.binD.eq_1, DV.binD.eq_2, DV.binD.eq_3, DV.binD.eq_4, DV.binD.eq_5, DV.binD.eq_6, DV.binD.eq_7, DV.binD.eq_8, DV.binD.eq_9, DV.binD.eq_10, DV.cmpD.eq_3, DV.cmpD.eq_4, DV.cmpD.eq_5, DV.cmpD.eq_6, DV.cmpD.eq_7, DV.cmpD.eq_8, DV.cmpD.eq_9, DV.cmpD.eq_10, DV.cmpD.eq_11, DV.cmpD.eq_12, DV.isNonD.eq_1, DV.isNonD.eq_2, DV.ixD.eq_1, DV.ixD.eq_2, DV.ixD.eq_3, DV.ixD.eq_4, DV.slcD.eq_1, DV.slcD.eq_2, DV.slcD.eq_3, DV.slO.eq_1, DV.slO.eq_2, DV.plainIx.eq_1, DV.wipeG.eq_1, DV.wipeG.eq_2, DV.restG.eq_1, DV.restG.eq_2, DV.flatD.eq_1, DV.flatD.eq_2, DV.flatD.eq_3, DV.flatD.eq_4, DV.flatD.eq_5, g3, cmp_ne_self o1, cmp_ne_self o3])).trans ?_
  refine (exs_nx (Γ1 := rG (wl a4 c k4) u x2 (some (.lst T, false)) (some (B, false)) (some (.lst T, true)) (some (.lst (L ++ [.non]), true))) (by simp [DV.runF.eq_1, DV.exs.eq_1, DV.exs.eq_2, DV.ex.eq_1, DV.ex.eq_2, DV.ex.eq_3, DV.ex.eq_4, DV.ex.eq_5, DV.ex.eq_6, DV.ex.eq_7, DV.ex.eq_8, DV.ex.eq_9, DV.ex.eq_10, DV.ex.eq_11, DV.ex.eq_12, DV.ex.eq_13, DV.ex.eq_14, DV.ex.eq_15, DV.ex.eq_16, DV.ev.eq_1, DV.ev.eq_2, DV.ev.eq_3, DV.ev.eq_4, DV.ev.eq_5, DV.ev.eq_6, DV.ev.eq_7, DV.ev.eq_8, DV.ev.eq_9, DV.ev.eq_10, DV.ev.eq_11, DV.ev.eq_12, DV.ev.eq_13, DV.ev.eq_14, DV.ev.eq_15, DV.ev.eq_16, DV.ev.eq_17, DV.ev.eq_18, DV.evs.eq_1, DV.evs.eq_2, DV.evc.eq_1, DV.evc.eq_2, DV.evn.eq_1, DV.evn.eq_2, DV.parS.eq_1, DV.parS.eq_2, DV.parS.eq_3, DV.datums.eq_1, DV.datums.eq_2, DV.datum.eq_1, DV.datum.eq_2, DV.datum.eq_3, DV.fre.eq_1, DV.fre.eq_2, DV.fre.eq_3, DV.fres.eq_1, DV.fres.eq_2, DV.argSs.eq_1, DV.argSs.eq_2, DV.argS.eq_1, DV.argS.eq_2, DV.argS.eq_3, DV.nodupB.eq_1, DV.nodupB.eq_2, DV.ownIx.eq_1, DV.ownIx.eq_2, DV.ownIx.eq_3, DV.putOuts.eq_1, DV.putOuts.eq_2, DV.putOuts.eq_3, DV.biD.eq_1, DV.biD.eq_2, DV.biD.eq_3, DV.biD.eq_4, DV.biD.eq_5, DV.biD.eq_6, DV.biD.eq_7, DV.biD.eq_8, DV.biD.eq_9, DV.biD.eq_10, DV.biD.eq_11, DV.biD.eq_12, DV.biD.eq_13, DV.biD.eq_14, DV.biD.eq_15, DV.biD.eq_16, DV.biD.eq_17, DV.biD.eq_18, DV.biD.eq_19, DV.isiD.eq_1, DV.isiD.eq_2, DV.isiD.eq_3, DV.isiD.eq_4, DV.isiD.eq_5, DV.isiD.eq_6, DV.isiD.eq_7, DV.shallow.eq_1, DV.shallow.eq_2, DV.shallow.eq_3, DV.testD.eq_1, DV.truthD.eq_1, DV.truthD.eq_2, DV.truthD.eq_3, DV.truthD.eq_4, DV.truthD.eq_5, DV.truthD.eq_6, DV.truthD.eq_7, DV.truthD.eq_8, DV.finish.eq_1, DV.finish.eq_2, DV.finish.eq_3, DV.finish.eq_4, DV.finish.eq_5, DV.outsOf.eq_1, DV.outsOf.eq_2, DV.outsOf.eq_3, DV.ownPs.eq_1, DV.ownPs.eq_2, DV.ownPs.eq_3, DV.disjB.eq_1, DV.isLst.eq_1, DV.appD.eq_1, DV.extD.eq_1, DV.setD.eq_1, DV.asgT.eq_1, DV.asgT.eq_2, DV.asgT.asgTs.eq_1, DV.asgT.asgTs.eq_2, DV.tgIx.eq_1, DV.tgIx.eq_2, DV.tgIx.tgIxs.eq_1, DV.tgIx.tgIxs.eq_2, DV.iterD.eq_1, DV.iterD.eq_2, DV.iterD.eq_3, DV.it_rng, DV.binD.eq_1, DV.binD.eq_2, DV.binD.eq_3, DV.binD.eq_4, DV.binD.eq_5, DV.binD.eq_6, DV.binD.eq_7, DV.binD.eq_8, DV.binD.eq_9, DV.binD.eq_10, DV.cmpD.eq_3, DV.cmpD.eq_4, DV.cmpD.eq_5, DV.cmpD.eq_6, DV.cmpD.eq_7, DV.cmpD.eq_8, DV.cmpD.eq_9, DV.cmpD.eq_10, DV.cmpD.eq_11, DV.cmpD.eq_12, DV.isNonD.eq_1, DV.isNonD.eq_2, DV.ixD.eq_1, DV.ixD.eq_2, DV.ixD.eq_3, DV.ixD.eq_4, DV.slcD.eq_1, DV.slcD.eq_2, DV.slcD.eq_3, DV.slO.eq_1, DV.slO.eq_2, DV.plainIx.eq_1, DV.wipeG.eq_1, DV.wipeG.eq_2, DV.restG.eq_1, DV.restG.eq_2, DV.flatD.eq_1, DV.flatD.eq_2, DV.flatD.eq_3, DV.flatD.eq_4, DV.flatD.eq_5, hL, sizeLine])).trans ?_
  refine (exs_nx (Γ1 := rG (wl a4 c k4) u x2 (some (.lst T, false)) (some (B, false)) (some (.lst T, true)) (some (.lst (L ++ [.non]), true))) (by simp [DV.runF.eq_1, DV.exs.eq_1, DV.exs.eq_2, DV.ex.eq_1, DV.ex.eq_2, DV.ex.eq_3, DV.ex.eq_4, DV.ex.eq_5, DV.ex.eq_6, DV.ex.eq_7, DV.ex.eq_8, DV.ex.eq_9, DV.ex.eq_10, DV.ex.eq_11, DV.ex.eq_12, DV.ex.eq_13, DV.ex.eq_14, DV.ex.eq_15, DV.ex.eq_16, DV.ev.eq_1, DV.ev.eq_2, DV.ev.eq_3, DV.ev.eq_4, DV.ev.eq_5, DV.ev.eq_6, DV.ev.eq_7, DV.ev.eq_8, DV.ev.eq_9, DV.ev.eq_10, DV.ev.eq_11, DV.ev.eq_12, DV.ev.eq_13, DV.ev.eq_14, DV.ev.eq_15, DV.ev.eq_16, DV.ev.eq_17, DV.ev.eq_18, DV.evs.eq_1, DV.evs.eq_2, DV.evc.eq_1, DV.evc.eq_2, DV.evn.eq_1, DV.evn.eq_2, DV.parS.eq_1, DV.parS.eq_2, DV.parS.eq_3, DV.datums.eq_1, DV.datums.eq_2, DV.datum.eq_1, DV.datum.eq_2, DV.datum.eq_3, DV.fre.eq_1, DV.fre.eq_2, DV.fre.eq_3, DV.fres.eq_1, DV.fres.eq_2, DV.argSs.eq_1, DV.argSs.eq_2, DV.argS.eq_1, DV.argS.eq_2, DV.argS.eq_3, DV.nodupB.eq_1, DV.nodupB.eq_2, DV.ownIx.eq_1, DV.ownIx.eq_2, DV.ownIx.eq_3, DV.putOuts.eq_1, DV.putOuts.eq_2, DV.putOuts.eq_3, DV.biD.eq_1, DV.biD.eq_2, DV.biD.eq_3, DV.biD.eq_4, DV.biD.eq_5, DV.biD.eq_6, DV.biD.eq_7, DV.biD.eq_8, DV.biD.eq_9, DV.biD.eq_10, DV.biD.eq_11, DV.biD.eq_12, DV.biD.eq_13, DV.biD.eq_14, DV.biD.eq_15, DV.biD.eq_16, DV.biD.eq_17, DV.biD.eq_18, DV.biD.eq_19, DV.isiD.eq_1, DV.isiD.eq_2, DV.isiD.eq_3, DV.isiD.eq_4, DV.isiD.eq_5, DV.isiD.eq_6, DV.isiD.eq_7, DV.shallow.eq_1, DV.shallow.eq_2, DV.shallow.eq_3, DV.testD.eq_1, DV.truthD.eq_1, DV.truthD.eq_2, DV.truthD.eq_3, DV.truthD.eq_4, DV.truthD.eq_5, DV.truthD.eq_6, DV.truthD.eq_7, DV.truthD.eq_8, DV.finish.eq_1, DV.finish.eq_2, DV.finish.eq_3, DV.finish.eq_4, DV.finish.eq_5, DV.outsOf.eq_1, DV.outsOf.eq_2, DV.outsOf.eq_3, DV.ownPs.eq_1, DV.ownPs.eq_2, DV.ownPs.eq_3, DV.disjB.eq_1, DV.isLst.eq_1, DV.appD.eq_1, DV.extD.eq_1, DV.setD.eq_1, DV.asgT.eq_1, DV.asgT.eq_2, DV.asgT.asgTs.eq_1, DV.asgT.asgTs.eq_2, DV.tgIx.eq_1, DV.tgIx.eq_2, DV.tgIx.tgIxs.eq_1, DV.tgIx.tgIxs.eq_2, DV.iterD.eq_1, DV.iterD.eq_2, DV.iterD.eq_3, DV.it_rng, DV.binD.eq_1, DV.binD.eq_2, DV.binD.eq_3, DV.binD.eq_4, DV.binD.eq_5, DV.binD.eq_6, DV.binD.eq_7, DV.binD.eq_8, DV.binD.eq_9, DV.binD.eq_10, DV.cmpD.eq_3, DV.cmpD.eq_4, DV.cmpD.eq_5, DV.cmpD.eq_6, DV.cmpD.eq_7, DV.cmpD.eq_8, DV.cmpD.eq_9, DV.cmpD.eq_10, DV.cmpD.eq_11, DV.cmpD.eq_12, DV.isNonD.eq_1, DV.isNonD.eq_2, DV.ixD.eq_1, DV.ixD.eq_2, DV.ixD.eq_3, DV.ixD.eq_4, DV.slcD.eq_1, DV.slcD.eq_2, DV.slcD.eq_3, DV.slO.eq_1, DV.slO.eq_2, DV.plainIx.eq_1, DV.wipeG.eq_1, DV.wipeG.eq_2, DV.restG.eq_1, DV.restG.eq_2, DV.flatD.eq_1, DV.flatD.eq_2, DV.flatD.eq_3, DV.flatD.eq_4, DV.flatD.eq_5, g2, g3, cmp_ne_self o1])).trans ?_
  have hc : ev fsR (.call 3 [.tup [.bin .pow (.cst (.int 10)) (.cst (.int 12)), .cst (.int 1), .cst (.int 1)], .var 3]) (rG (wl a4 c k4) u x2 (some (.lst T, false)) (some (B, false)) (some (.lst T, true)) (some (.lst (L ++ [.non]), true))) = some (.nw (.lst M), rG (wl a4 c k4) u x2 (some (.lst T, false)) (some (B, false)) (some (.lst T, true)) (some (.lst (L ++ [.non]), true))) := by
    simp at g4
    simp [DV.runF.eq_1, DV.exs.eq_1, DV.exs.eq_2, DV.ex.eq_1, DV.ex.eq_2, DV.ex.eq_3, DV.ex.eq_4, DV.ex.eq_5, DV.ex.eq_6, DV.ex.eq_7, DV.ex.eq_8, DV.ex.eq_9, DV.ex.eq_10, DV.ex.eq_11, DV.ex.eq_12, DV.ex.eq_13, DV.ex.eq_14, DV.ex.eq_15, DV.ex.eq_16, DV.ev.eq_1, DV.ev.eq_2, DV.ev.eq_3, DV.ev.eq_4, DV.ev.eq_5, DV.ev.eq_6, DV.ev.eq_7, DV.ev.eq_8, DV.ev.eq_9, DV.ev.eq_10, DV.ev.eq_11, DV.ev.eq_12, DV.ev.eq_13, DV.ev.eq_14, DV.ev.eq_15, DV.ev.eq_16, DV.ev.eq_17, DV.ev.eq_18, DV.evs.eq_1, DV.evs.eq_2, DV.evc.eq_1, DV.evc.eq_2, DV.evn.eq_1, DV.evn.eq_2, DV.parS.eq_1, DV.parS.eq_2, DV.parS.eq_3, DV.datums.eq_1, DV.datums.eq_2, DV.datum.eq_1, DV.datum.eq_2, DV.datum.eq_3, DV.fre.eq_1, DV.fre.eq_2, DV.fre.eq_3, DV.fres.eq_1, DV.fres.eq_2, DV.argSs.eq_1, DV.argSs.eq_2, DV.argS.eq_1, DV.argS.eq_2, DV.argS.eq_3, DV.nodupB.eq_1, DV.nodupB.eq_2, DV.ownIx.eq_1, DV.ownIx.eq_2, DV.ownIx.eq_3, DV.putOuts.eq_1, DV.putOuts.eq_2, DV.putOuts.eq_3, DV.biD.eq_1, DV.biD.eq_2, DV.biD.eq_3, DV.biD.eq_4, DV.biD.eq_5, DV.biD.eq_6, DV.biD.eq_7, DV.biD.eq_8, DV.biD.eq_9, DV.biD.eq_10, DV.biD.eq_11, DV.biD.eq_12, DV.biD.eq_13, DV.biD.eq_14, DV.biD.eq_15, DV.biD.eq_16, DV.biD.eq_17, DV.biD.eq_18, DV.biD.eq_19, DV.isiD.eq_1, DV.isiD.eq_2, DV.isiD.eq_3, DV.isiD.eq_4, DV.isiD.eq_5, DV.isiD.eq_6, DV.isiD.eq_7, DV.shallow.eq_1, DV.shallow.eq_2, DV.shallow.eq_3, DV.testD.eq_1, DV.truthD.eq_1, DV.truthD.eq_2, DV.truthD.eq_3, DV.truthD.eq_4, DV.truthD.eq_5, DV.truthD.eq_6, DV.truthD.eq_7, DV.truthD.eq_8, DV.finish.eq_1, DV.finish.eq_2, DV.finish.eq_3, DV.finish.eq_4, DV.finish.eq_5, DV.outsOf.eq_1, DV.outsOf.eq_2, DV.outsOf.eq_3, DV.ownPs.eq_1, DV.ownPs.eq_2, DV.ownPs.eq_3, DV.disjB.eq_1, DV.isLst.eq_1, DV.appD.eq_1, DV.extD.eq_1, DV.setD.eq_1, DV.asgT.eq_1, DV.asgT.eq_2, DV.asgT.asgTs.eq_1, DV.asgT.asgTs.eq_2, DV.tgIx.eq_1, DV.tgIx.eq_2, DV.tgIx.tgIxs.eq_1, DV.tgIx.tgIxs.eq_2, DV.iterD.eq_1, DV.iterD.eq_2, DV.iterD.eq_3, DV.it_rng, DV.binD.eq_1, DV.binD.eq_2, DV.binD.eq_3, DV.binD.eq_4, DV.binD.eq_5, DV.binD.eq_6, DV.binD.eq_7, DV.binD.eq_8, DV.binD.eq_9, DV.binD.eq_10, DV.cmpD.eq_3, DV.cmpD.eq_4, DV.cmpD.eq_5, DV.cmpD.eq_6, DV.cmpD.eq_7, DV.cmpD.eq_8, DV.cmpD.eq_9, DV.cmpD.eq_10, DV.cmpD.eq_11, DV.cmpD.eq_12, DV.isNonD.eq_1, DV.isNonD.eq_2, DV.ixD.eq_1, DV.ixD.eq_2, DV.ixD.eq_3, DV.ixD.eq_4, DV.slcD.eq_1, DV.slcD.eq_2, DV.slcD.eq_3, DV.slO.eq_1, DV.slO.eq_2, DV.plainIx.eq_1, DV.wipeG.eq_1, DV.wipeG.eq_2, DV.restG.eq_1, DV.restG.eq_2, DV.flatD.eq_1, DV.flatD.eq_2, DV.flatD.eq_3, DV.flatD.eq_4, DV.flatD.eq_5, g4, sizeLine]
  have hd := cR x2 (some (B, false)) (some (.lst T, true)) (some (.lst (L ++ [.non]), true))
  refine (exs_nx (Γ1 := rG (wl a4 c k4) u x2 (some (.lst T, false)) (some (B, false)) (some (.lst T, true)) (some (.lst (L ++ [.non]), true))) ?_).trans (by simp only [exs])
  refine ex_ite (t := false) (x := .fz (.bl false)) (Γ1 := rG (wl a4 c k4) u x2 (some (.lst T, false)) (some (B, false)) (some (.lst T, true)) (some (.lst (L ++ [.non]), true))) ?_ rfl rfl
  rw [DV.ev.eq_6, hc]
  simp only [Option.bind_some, hd, datum, cmp_ne_self o2, Option.map_some]
theorem right_ok (a c : Int) : ∃ W', F__law_right [some (wl a c 0, true)] = some (.fz (.bl true), [some (W', true)]) := by
  obtain ⟨r1, a1, k1, e1, p1, q1, l1, b1⟩ := draw_ok a c 0 9 (by decide) (by decide) (by decide) (by decide)
  obtain ⟨r2, a2, k2, e2, p2, q2, l2, b2⟩ := place_ok a1 c k1 (10 ^ 20) l1 (by omega) (by decide) (by decide)
  obtain ⟨a3, k3, x3, x4, x5, x6, e3, l3, b3⟩ := right_body a2 c k2 1 none none none none none l2 (by omega) (by decide) (by decide)
  obtain ⟨a4, k4, y3, y4, y5, y6, e4, l4, b4⟩ := right_body a3 c k3 (1 + r1) none x3 x4 x5 x6 l3 (by omega) (by omega) (by omega)
  obtain ⟨a5, k5, z3, z4, z5, z6, e5, l5, b5⟩ := right_body a4 c k4 (1 + r2) none y3 y4 y5 y6 l4 (by omega) (by omega) (by omega)
  have g := log_of_ok 1 (10 ^ 30) (10 ^ 12) [0, 10 ^ 30 - 1, 10 ^ 30] true ⟨by decide, by decide, by decide, by decide, by decide, by decide⟩ ⟨by decide, by decide, by decide, trivial⟩ (by decide)
  have hL : logF (10 ^ 30) 1 0 [0, 10 ^ 30 - 1, 10 ^ 30] = [.tup [.int 0, .bl true], .tup [.int (10 ^ 30 - 1), .bl false], .tup [.int (10 ^ 30), .bl true]] := by simp [logF]
  rw [hL] at g
  refine ⟨wl a5 c k5, ?_⟩
  refine runF_by (o := .rt (.fz (.bl true)) (rG (wl a5 c k5) (1 + r2) (some (.int (10 ^ 30), false)) z3 z4 z5 z6)) rfl (?_ : exs _ [0] _ [some (wl a c 0, true), none, none, none, none, none, none, none] = _) rfl
  refine (exs_nx (Γ1 := rG (wl a5 c k5) (1 + r2) none z3 z4 z5 z6) (ex_for (Γ2 := [some (wl a2 c k2, true), none, none, none, none, none, none, none]) (ds := [.int 1, .int (1 + r1), .int (1 + r2)]) ?_ rfl ?_)).trans ?_
  · simp at e2
    simp [DV.runF.eq_1, DV.exs.eq_1, DV.exs.eq_2, DV.ex.eq_1, DV.ex.eq_2, DV.ex.eq_3, DV.ex.eq_4, DV.ex.eq_5, DV.ex.eq_6, DV.ex.eq_7, DV.ex.eq_8, DV.ex.eq_9, DV.ex.eq_10, DV.ex.eq_11, DV.ex.eq_12, DV.ex.eq_13, DV.ex.eq_14, DV.ex.eq_15, DV.ex.eq_16, DV.ev.eq_1, DV.ev.eq_2, DV.ev.eq_3, DV.ev.eq_4, DV.ev.eq_5, DV.ev.eq_6, DV.ev.eq_7, DV.ev.eq_8, DV.ev.eq_9, DV.ev.eq_10, DV.ev.eq_11, DV.ev.eq_12, DV.ev.eq_13, DV.ev.eq_14, DV.ev.eq_15, DV.ev.eq_16, DV.ev.eq_17, DV.ev.eq_18, DV.evs.eq_1, DV.evs.eq_2, DV.evc.eq_1, DV.evc.eq_2, DV.evn.eq_1, DV.evn.eq_2, DV.parS.eq_1, DV.parS.eq_2, DV.parS.eq_3, DV.datums.eq_1, DV.datums.eq_2, DV.datum.eq_1, DV.datum.eq_2, DV.datum.eq_3, DV.fre.eq_1, DV.fre.eq_2, DV.fre.eq_3, DV.fres.eq_1, DV.fres.eq_2, DV.argSs.eq_1, DV.argSs.eq_2, DV.argS.eq_1, DV.argS.eq_2, DV.argS.eq_3, DV.nodupB.eq_1, DV.nodupB.eq_2, DV.ownIx.eq_1, DV.ownIx.eq_2, DV.ownIx.eq_3, DV.putOuts.eq_1, DV.putOuts.eq_2, DV.putOuts.eq_3, DV.biD.eq_1, DV.biD.eq_2, DV.biD.eq_3, DV.biD.eq_4, DV.biD.eq_5, DV.biD.eq_6, DV.biD.eq_7, DV.biD.eq_8, DV.biD.eq_9, DV.biD.eq_10, DV.biD.eq_11, DV.biD.eq_12, DV.biD.eq_13, DV.biD.eq_14, DV.biD.eq_15, DV.biD.eq_16, DV.biD.eq_17, DV.biD.eq_18, DV.biD.eq_19, DV.isiD.eq_1, DV.isiD.eq_2, DV.isiD.eq_3, DV.isiD.eq_4, DV.isiD.eq_5, DV.isiD.eq_6, DV.isiD.eq_7, DV.shallow.eq_1, DV.shallow.eq_2, DV.shallow.eq_3, DV.testD.eq_1, DV.truthD.eq_1, DV.truthD.eq_2, DV.truthD.eq_3, DV.truthD.eq_4, DV.truthD.eq_5, DV.truthD.eq_6, DV.truthD.eq_7, DV.truthD.eq_8, DV.finish.eq_1, DV.finish.eq_2, DV.finish.eq_3, DV.finish.eq_4, DV.finish.eq_5, DV.outsOf.eq_1, DV.outsOf.eq_2, DV.outsOf.eq_3, DV.ownPs.eq_1, DV.ownPs.eq_2, DV.ownPs.eq_3, DV.disjB.eq_1, DV.isLst.eq_1, DV.appD.eq_1, DV.extD.eq_1, DV.setD.eq_1, DV.asgT.eq_1, DV.asgT.eq_2, DV.asgT.asgTs.eq_1, DV.asgT.asgTs.eq_2, DV.tgIx.eq_1, DV.tgIx.eq_2, DV.tgIx.tgIxs.eq_1, DV.tgIx.tgIxs.eq_2, DV.iterD.eq_1, DV.iterD.eq_2, DV.iterD.eq_3, DV.it_rng, DV.binD.eq_1, DV.binD.eq_2, DV.binD.eq_3, DV.binD.eq_4, DV.binD.eq_5, DV.binD.eq_6, DV.binD.eq_7, DV.binD.eq_8, DV.binD.eq_9, DV.binD.eq_10, DV.cmpD.eq_3, DV.cmpD.eq_4, DV.cmpD.eq_5, DV.cmpD.eq_6, DV.cmpD.eq_7, DV.cmpD.eq_8, DV.cmpD.eq_9, DV.cmpD.eq_10, DV.cmpD.eq_11, DV.cmpD.eq_12, DV.isNonD.eq_1, DV.isNonD.eq_2, DV.ixD.eq_1, DV.ixD.eq_2, DV.ixD.eq_3, DV.ixD.eq_4, DV.slcD.eq_1, DV.slcD.eq_2, DV.slcD.eq_3, DV.slO.eq_1, DV.slO.eq_2, DV.plainIx.eq_1, DV.wipeG.eq_1, DV.wipeG.eq_2, DV.restG.eq_1, DV.restG.eq_2, DV.flatD.eq_1, DV.flatD.eq_2, DV.flatD.eq_3, DV.flatD.eq_4, DV.flatD.eq_5, e1, e2, sizeLine]
  · refine (forLoop_step (by simp [DV.runF.eq_1, DV.exs.eq_1, DV.exs.eq_2, DV.ex.eq_1, DV.ex.eq_2, DV.ex.eq_3, DV.ex.eq_4, DV.ex.eq_5, DV.ex.eq_6, DV.ex.eq_7, DV.ex.eq_8, DV.ex.eq_9, DV.ex.eq_10, DV.ex.eq_11, DV.ex.eq_12, DV.ex.eq_13, DV.ex.eq_14, DV.ex.eq_15, DV.ex.eq_16, DV.ev.eq_1, DV.ev.eq_2, DV.ev.eq_3, DV.ev.eq_4, DV.ev.eq_5, DV.ev.eq_6, DV.ev.eq_7, DV.ev.eq_8, DV.ev.eq_9, DV.ev.eq_10, DV.ev.eq_11, DV.ev.eq_12, DV.ev.eq_13, DV.ev.eq_14, DV.ev.eq_15, DV.ev.eq_16, DV.ev.eq_17, DV.ev.eq_18, DV.evs.eq_1, DV.evs.eq_2, DV.evc.eq_1, DV.evc.eq_2, DV.evn.eq_1, DV.evn.eq_2, DV.parS.eq_1, DV.parS.eq_2, DV.parS.eq_3, DV.datums.eq_1, DV.datums.eq_2, DV.datum.eq_1, DV.datum.eq_2, DV.datum.eq_3, DV.fre.eq_1, DV.fre.eq_2, DV.fre.eq_3, DV.fres.eq_1, DV.fres.eq_2, DV.argSs.eq_1, DV.argSs.eq_2, DV.argS.eq_1, DV.argS.eq_2, DV.argS.eq_3, DV.nodupB.eq_1, DV.nodupB.eq_2, DV.ownIx.eq_1, DV.ownIx.eq_2, DV.ownIx.eq_3, DV.putOuts.eq_1, DV.putOuts.eq_2, DV.putOuts.eq_3, DV.biD.eq_1, DV.biD.eq_2, DV.biD.eq_3, DV.biD.eq_4, DV.biD.eq_5, DV.biD.eq_6, DV.biD.eq_7, DV.biD.eq_8, DV.biD.eq_9, DV.biD.eq_10, DV.biD.eq_11, DV.biD.eq_12, DV.biD.eq_13, DV.biD.eq_14, DV.biD.eq_15, DV.biD.eq_16, DV.biD.eq_17, DV.biD.eq_18, DV.biD.eq_19, DV.isiD.eq_1, DV.isiD.eq_2, DV.isiD.eq_3, DV.isiD.eq_4, DV.isiD.eq_5, DV.isiD.eq_6, DV.isiD.eq_7, DV.shallow.eq_1, DV.shallow.eq_2, DV.shallow.eq_3, DV.testD.eq_1, DV.truthD.eq_1, DV.truthD.eq_2, DV.truthD.eq_3, DV.truthD.eq_4, DV.truthD.eq_5, DV.truthD.eq_6, DV.truthD.eq_7, DV.truthD.eq_8, DV.finish.eq_1, DV.finish.eq_2, DV.finish.eq_3, DV.finish.eq_4, DV.finish.eq_5, DV.outsOf.eq_1, DV.outsOf.eq_2, DV.outsOf.eq_3, DV.ownPs.eq_1, DV.ownPs.eq_2, DV.ownPs.eq_3, DV.disjB.eq_1, DV.isLst.eq_1, DV.appD.eq_1, DV.extD.eq_1, DV.setD.eq_1, DV.asgT.eq_1, DV.asgT.eq_2, DV.asgT.asgTs.eq_1, DV.asgT.asgTs.eq_2, DV.tgIx.eq_1, DV.tgIx.eq_2, DV.tgIx.tgIxs.eq_1, DV.tgIx.tgIxs.eq_2, DV.iterD.eq_1, DV.iterD.eq_2, DV.iterD.eq_3, DV.it_rng, DV.binD.eq_1, DV.binD.eq_2, DV.binD.eq_3, DV.binD.eq_4, DV.binD.eq_5, DV.binD.eq_6, DV.binD.eq_7, DV.binD.eq_8, DV.binD.eq_9, DV.binD.eq_10, DV.cmpD.eq_3, DV.cmpD.eq_4, DV.cmpD.eq_5, DV.cmpD.eq_6, DV.cmpD.eq_7, DV.cmpD.eq_8, DV.cmpD.eq_9, DV.cmpD.eq_10, DV.cmpD.eq_11, DV.cmpD.eq_12, DV.isNonD.eq_1, DV.isNonD.eq_2, DV.ixD.eq_1, DV.ixD.eq_2, DV.ixD.eq_3, DV.ixD.eq_4, DV.slcD.eq_1, DV.slcD.eq_2, DV.slcD.eq_3, DV.slO.eq_1, DV.slO.eq_2, DV.plainIx.eq_1, DV.wipeG.eq_1, DV.wipeG.eq_2, DV.restG.eq_1, DV.restG.eq_2, DV.flatD.eq_1, DV.flatD.eq_2, DV.flatD.eq_3, DV.flatD.eq_4, DV.flatD.eq_5]) e3).trans ?_
    refine (forLoop_step (by simp [DV.runF.eq_1, DV.exs.eq_1, DV.exs.eq_2, DV.ex.eq_1, DV.ex.eq_2, DV.ex.eq_3, DV.ex.eq_4, DV.ex.eq_5, DV.ex.eq_6, DV.ex.eq_7, DV.ex.eq_8, DV.ex.eq_9, DV.ex.eq_10, DV.ex.eq_11, DV.ex.eq_12, DV.ex.eq_13, DV.ex.eq_14, DV.ex.eq_15, DV.ex.eq_16, DV.ev.eq_1, DV.ev.eq_2, DV.ev.eq_3, DV.ev.eq_4, DV.ev.eq_5, DV.ev.eq_6, DV.ev.eq_7, DV.ev.eq_8, DV.ev.eq_9, DV.ev.eq_10, DV.ev.eq_11, DV.ev.eq_12, DV.ev.eq_13, DV.ev.eq_14, DV.ev.eq_15, DV.ev.eq_16, DV.ev.eq_17, DV.ev.eq_18, DV.evs.eq_1, DV.evs.eq_2, DV.evc.eq_1, DV.evc.eq_2, DV.evn.eq_1, DV.evn.eq_2, DV.parS.eq_1, DV.parS.eq_2, DV.parS.eq_3, DV.datums.eq_1, DV.datums.eq_2, DV.datum.eq_1, DV.datum.eq_2, DV.datum.eq_3, DV.fre.eq_1, DV.fre.eq_2, DV.fre.eq_3, DV.fres.eq_1, DV.fres.eq_2, DV.argSs.eq_1, DV.argSs.eq_2, DV.argS.eq_1, DV.argS.eq_2, DV.argS.eq_3, DV.nodupB.eq_1, DV.nodupB.eq_2, DV.ownIx.eq_1, DV.ownIx.eq_2, DV.ownIx.eq_3, DV.putOuts.eq_1, DV.putOuts.eq_2, DV.putOuts.eq_3, DV.biD.eq_1, DV.biD.eq_2, DV.biD.eq_3, DV.biD.eq_4, DV.biD.eq_5, DV.biD.eq_6, DV.biD.eq_7, DV.biD.eq_8, DV.biD.eq_9, DV.biD.eq_10, DV.biD.eq_11, DV.biD.eq_12, DV.biD.eq_13, DV.biD.eq_14, DV.biD.eq_15, DV.biD.eq_16, DV.biD.eq_17, DV.biD.eq_18, DV.biD.eq_19, DV.isiD.eq_1, DV.isiD.eq_2, DV.isiD.eq_3, DV.isiD.eq_4, DV.isiD.eq_5, DV.isiD.eq_6, DV.isiD.eq_7, DV.shallow.eq_1, DV.shallow.eq_2, DV.shallow.eq_3, DV.testD.eq_1, DV.truthD.eq_1, DV.truthD.eq_2, DV.truthD.eq_3, DV.truthD.eq_4, DV.truthD.eq_5, DV.truthD.eq_6, DV.truthD.eq_7, DV.truthD.eq_8, DV.finish.eq_1, DV.finish.eq_2, DV.finish.eq_3, DV.finish.eq_4, DV.finish.eq_5, DV.outsOf.eq_1, DV.outsOf.eq_2, DV.outsOf.eq_3, DV.ownPs.eq_1, DV.ownPs.eq_2, DV.ownPs.eq_3, DV.disjB.eq_1, DV.isLst.eq_1, DV.appD.eq_1, DV.extD.eq_1, DV.setD.eq_1, DV.asgT.eq_1, DV.asgT.eq_2, DV.asgT.asgTs.eq_1, DV.asgT.asgTs.eq_2, DV.tgIx.eq_1, DV.tgIx.eq_2, DV.tgIx.tgIxs.eq_1, DV.tgIx.tgIxs.eq_2, DV.iterD.eq_1, DV.iterD.eq_2, DV.iterD.eq_3, DV.it_rng, DV.binD.eq_1, DV.binD.eq_2, DV.binD.eq_3, DV.binD.eq_4, DV.binD.eq_5, DV.binD.eq_6, DV.binD.eq_7, DV.binD.eq_8, DV.binD.eq_9, DV.binD.eq_10, DV.cmpD.eq_3, DV.cmpD.eq_4, DV.cmpD.eq_5, DV.cmpD.eq_6, DV.cmpD.eq_7, DV.cmpD.eq_8, DV.cmpD.eq_9, DV.cmpD.eq_10, DV.cmpD.eq_11, DV.cmpD.eq_12, DV.isNonD.eq_1, DV.isNonD.eq_2, DV.ixD.eq_1, DV.ixD.eq_2, DV.ixD.eq_3, DV.ixD.eq_4, DV.slcD.eq_1, DV.slcD.eq_2, DV.slcD.eq_3, DV.slO.eq_1, DV.slO.eq_2, DV.plainIx.eq_1, DV.wipeG.eq_1, DV.wipeG.eq_2, DV.restG.eq_1, DV.restG.eq_2, DV.flatD.eq_1, DV.flatD.eq_2, DV.flatD.eq_3, DV.flatD.eq_4, DV.flatD.eq_5]) e4).trans ?_
    refine (forLoop_step (by simp [DV.runF.eq_1, DV.exs.eq_1, DV.exs.eq_2, DV.ex.eq_1, DV.ex.eq_2, DV.ex.eq_3, DV.ex.eq_4, DV.ex.eq_5, DV.ex.eq_6, DV.ex.eq_7, DV.ex.eq_8, DV.ex.eq_9, DV.ex.eq_10, DV.ex.eq_11, DV.ex.eq_12, DV.ex.eq_13, DV.ex.eq_14, DV.ex.eq_15, DV.ex.eq_16, DV.ev.eq_1, DV.ev.eq_2, DV.ev.eq_3, DV.ev.eq_4, DV.ev.eq_5, DV.ev.eq_6, DV.ev.eq_7, DV.ev.eq_8, DV.ev.eq_9, DV.ev.eq_10, DV.ev.eq_11, DV.ev.eq_12, DV.ev.eq_13, DV.ev.eq_14, DV.ev.eq_15, DV.ev.eq_16, DV.ev.eq_17, DV.ev.eq_18, DV.evs.eq_1, DV.evs.eq_2, DV.evc.eq_1, DV.evc.eq_2, DV.evn.eq_1, DV.evn.eq_2, DV.parS.eq_1, DV.parS.eq_2, DV.parS.eq_3, DV.datums.eq_1, DV.datums.eq_2, DV.datum.eq_1, DV.datum.eq_2, DV.datum.eq_3, DV.fre.eq_1, DV.fre.eq_2, DV.fre.eq_3, DV.fres.eq_1, DV.fres.eq_2, DV.argSs.eq_1, DV.argSs.eq_2, DV.argS.eq_1, DV.argS.eq_2, DV.argS.eq_3, DV.nodupB.eq_1, DV.nodupB.eq_2, DV.ownIx.eq_1, DV.ownIx.eq_2, DV.ownIx.eq_3, DV.putOuts.eq_1, DV.putOuts.eq_2, DV.putOuts.eq_3, DV.biD.eq_1, DV.biD.eq_2, DV.biD.eq_3, DV.biD.eq_4, DV.biD.eq_5, DV.biD.eq_6, DV.biD.eq_7, DV.biD.eq_8, DV.biD.eq_9, DV.biD.eq_10, DV.biD.eq_11, DV.biD.eq_12, DV.biD.eq_13, DV.biD.eq_14, DV.biD.eq_15, DV.biD.eq_16, DV.biD.eq_17, DV.biD.eq_18, DV.biD.eq_19, DV.isiD.eq_1, DV.isiD.eq_2, DV.isiD.eq_3, DV.isiD.eq_4, DV.isiD.eq_5, DV.isiD.eq_6, DV.isiD.eq_7, DV.shallow.eq_1, DV.shallow.eq_2, DV.shallow.eq_3, DV.testD.eq_1, DV.truthD.eq_1, DV.truthD.eq_2, DV.truthD.eq_3, DV.truthD.eq_4, DV.truthD.eq_5, DV.truthD.eq_6, DV.truthD.eq_7, DV.truthD.eq_8, DV.finish.eq_1, DV.finish.eq_2, DV.finish.eq_3, DV.finish.eq_4, DV.finish.eq_5, DV.outsOf.eq_1, DV.outsOf.eq_2, DV.outsOf.eq_3, DV.ownPs.eq_1, DV.ownPs.eq_2, DV.ownPs.eq_3, DV.disjB.eq_1, DV.isLst.eq_1, DV.appD.eq_1, DV.extD.eq_1, DV.setD.eq_1, DV.asgT.eq_1, DV.asgT.eq_2, DV.asgT.asgTs.eq_1, DV.asgT.asgTs.eq_2, DV.tgIx.eq_1, DV.tgIx.eq_2, DV.tgIx.tgIxs.eq_1, DV.tgIx.tgIxs.eq_2, DV.iterD.eq_1, DV.iterD.eq_2, DV.iterD.eq_3, DV.it_rng, DV.binD.eq_1, DV.binD.eq_2, DV.binD.eq_3, DV.binD.eq_4, DV.binD.eq_5, DV.binD.eq_6, DV.binD.eq_7, DV.binD.eq_8, DV.binD.eq_9, DV.binD.eq_10, DV.cmpD.eq_3, DV.cmpD.eq_4, DV.cmpD.eq_5, DV.cmpD.eq_6, DV.cmpD.eq_7, DV.cmpD.eq_8, DV.cmpD.eq_9, DV.cmpD.eq_10, DV.cmpD.eq_11, DV.cmpD.eq_12, DV.isNonD.eq_1, DV.isNonD.eq_2, DV.ixD.eq_1, DV.ixD.eq_2, DV.ixD.eq_3, DV.ixD.eq_4, DV.slcD.eq_1, DV.slcD.eq_2, DV.slcD.eq_3, DV.slO.eq_1, DV.slO.eq_2, DV.plainIx.eq_1, DV.wipeG.eq_1, DV.wipeG.eq_2, DV.restG.eq_1, DV.restG.eq_2, DV.flatD.eq_1, DV.flatD.eq_2, DV.flatD.eq_3, DV.flatD.eq_4, DV.flatD.eq_5]) e5).trans ?_
    simp [forLoop]
  · simp at g
    simp [DV.runF.eq_1, DV.exs.eq_1, DV.exs.eq_2, DV.ex.eq_1, DV.ex.eq_2, DV.ex.eq_3, DV.ex.eq_4, DV.ex.eq_5, DV.ex.eq_6, DV.ex.eq_7, DV.ex.eq_8, DV.ex.eq_9, DV.ex.eq_10, DV.ex.eq_11, DV.ex.eq_12, DV.ex.eq_13, DV.ex.eq_14, DV.ex.eq_15, DV.ex.eq_16, DV.ev.eq_1, DV.ev.eq_2, DV.ev.eq_3, DV.ev.eq_4, DV.ev.eq_5, DV.ev.eq_6, DV.ev.eq_7, DV.ev.eq_8, DV.ev.eq_9, DV.ev.eq_10, DV.ev.eq_11, DV.ev.eq_12, DV.ev.eq_13, DV.ev.eq_14, DV.ev.eq_15, DV.ev.eq_16, DV.ev.eq_17, DV.ev.eq_18, DV.evs.eq_1, DV.evs.eq_2, DV.evc.eq_1, DV.evc.eq_2, DV.evn.eq_1, DV.evn.eq_2, DV.parS.eq_1, DV.parS.eq_2, DV.parS.eq_3, DV.datums.eq_1, DV.datums.eq_2, DV.datum.eq_1, DV.datum.eq_2, DV.datum.eq_3, DV.fre.eq_1, DV.fre.eq_2, DV.fre.eq_3, DV.fres.eq_1, DV.fres.eq_2, DV.argSs.eq_1, DV.argSs.eq_2, DV.argS.eq_1, DV.argS.eq_2, DV.argS.eq_3, DV.nodupB.eq_1, DV.nodupB.eq_2, DV.ownIx.eq_1, DV.ownIx.eq_2, DV.ownIx.eq_3, DV.putOuts.eq_1, DV.putOuts.eq_2, DV.putOuts.eq_3, DV.biD.eq_1, DV.biD.eq_2, DV.biD.eq_3, DV.biD.eq_4, DV.biD.eq_5, DV.biD.eq_6, DV.biD.eq_7, DV.biD.eq_8, DV.biD.eq_9, DV.biD.eq_10, DV.biD.eq_11, DV.biD.eq_12, DV.biD.eq_13, DV.biD.eq_14, DV.biD.eq_15, DV.biD.eq_16, DV.biD.eq_17, DV.biD.eq_18, DV.biD.eq_19, DV.isiD.eq_1, DV.isiD.eq_2, DV.isiD.eq_3, DV.isiD.eq_4, DV.isiD.eq_5, DV.isiD.eq_6, DV.isiD.eq_7, DV.shallow.eq_1, DV.shallow.eq_2, DV.shallow.eq_3, DV.testD.eq_1, DV.truthD.eq_1, DV.truthD.eq_2, DV.truthD.eq_3, DV.truthD.eq_4, DV.truthD.eq_5, DV.truthD.eq_6, DV.truthD.eq_7, DV.truthD.eq_8, DV.finish.eq_1, DV.finish.eq_2, DV.finish.eq_3, DV.finish.eq_4, DV.finish.eq_5, DV.outsOf.eq_1, DV.outsOf.eq_2, DV.outsOf.eq_3, DV.ownPs.eq_1, DV.ownPs.eq_2, DV.ownPs.eq_3, DV.disjB.eq_1, DV.isLst.eq_1, DV.appD.eq_1, DV.extD.eq_1, DV.setD.eq_1, DV.asgT.eq_1, DV.asgT.eq_2, DV.asgT.asgTs.eq_1, DV.asgT.asgTs.eq_2, DV.tgIx.eq_1, DV.tgIx.eq_2, DV.tgIx.tgIxs.eq_1, DV.tgIx.tgIxs.eq_2, DV.iterD.eq_1, DV.iterD.eq_2, DV.iterD.eq_3, DV.it_rng, DV.binD.eq_1, DV.binD.eq_2, DV.binD.eq_3, DV.binD.eq_4, DV.binD.eq_5, DV.binD.eq_6, DV.binD.eq_7, DV.binD.eq_8, DV.binD.eq_9, DV.binD.eq_10, DV.cmpD.eq_1, DV.cmpD.eq_2, DV.cmpD.eq_3, DV.cmpD.eq_4, DV.cmpD.eq_5, DV.cmpD.eq_6, DV.cmpD.eq_7, DV.cmpD.eq_8, DV.cmpD.eq_9, DV.cmpD.eq_10, DV.cmpD.eq_11, DV.cmpD.eq_12, DV.isNonD.eq_1, DV.isNonD.eq_2, DV.ixD.eq_1, DV.ixD.eq_2, DV.ixD.eq_3, DV.ixD.eq_4, DV.slcD.eq_1, DV.slcD.eq_2, DV.slcD.eq_3, DV.slO.eq_1, DV.slO.eq_2, DV.plainIx.eq_1, DV.wipeG.eq_1, DV.wipeG.eq_2, DV.restG.eq_1, DV.restG.eq_2, DV.flatD.eq_1, DV.flatD.eq_2, DV.flatD.eq_3, DV.flatD.eq_4, DV.flatD.eq_5, DV.okB.eq_1, DV.okB.eq_2, DV.okB.eq_3, DV.okB.eq_4, DV.okB.eq_5, DV.okB.eq_6, DV.eqd.eq_1, DV.eqd.eq_2, DV.eqd.eq_3, DV.eqd.eq_4, DV.eqd.eq_5, DV.eqd.eq_6, DV.eqd.eq_7, DV.eqd.eq_8, DV.eqds.eq_1, DV.eqds.eq_2, DV.eqds.eq_3, g, sizeLine]
theorem law_loop : ∀ (cs : List Int) (S0 : D) (x1 : Sl), ∃ y1, forLoop (.nm 1) (exs [F__law_well, F__law_right] [] B_law_1) (cs.map D.int) [some (S0, false), x1] = some (.nx [some (S0, false), y1])
  | [], S0, x1 => ⟨x1, by simp [forLoop]⟩
  | c :: cs, S0, x1 => by
    obtain ⟨a, e1⟩ := well_ok c
    obtain ⟨W, e2⟩ := right_ok a c
    obtain ⟨y1, ih⟩ := law_loop cs S0 (some (.int c, false))
    refine ⟨y1, (forLoop_step (Γ1 := [some (S0, false), some (.int c, false)]) (Γ2 := [some (S0, false), some (.int c, false)]) (by simp [DV.runF.eq_1, DV.exs.eq_1, DV.exs.eq_2, DV.ex.eq_1, DV.ex.eq_2, DV.ex.eq_3, DV.ex.eq_4, DV.ex.eq_5, DV.ex.eq_6, DV.ex.eq_7, DV.ex.eq_8, DV.ex.eq_9, DV.ex.eq_10, DV.ex.eq_11, DV.ex.eq_12, DV.ex.eq_13, DV.ex.eq_14, DV.ex.eq_15, DV.ex.eq_16, DV.ev.eq_1, DV.ev.eq_2, DV.ev.eq_3, DV.ev.eq_4, DV.ev.eq_5, DV.ev.eq_6, DV.ev.eq_7, DV.ev.eq_8, DV.ev.eq_9, DV.ev.eq_10, DV.ev.eq_11, DV.ev.eq_12, DV.ev.eq_13, DV.ev.eq_14, DV.ev.eq_15, DV.ev.eq_16, DV.ev.eq_17, DV.ev.eq_18, DV.evs.eq_1, DV.evs.eq_2, DV.evc.eq_1, DV.evc.eq_2, DV.evn.eq_1, DV.evn.eq_2, DV.parS.eq_1, DV.parS.eq_2, DV.parS.eq_3, DV.datums.eq_1, DV.datums.eq_2, DV.datum.eq_1, DV.datum.eq_2, DV.datum.eq_3, DV.fre.eq_1, DV.fre.eq_2, DV.fre.eq_3, DV.fres.eq_1, DV.fres.eq_2, DV.argSs.eq_1, DV.argSs.eq_2, DV.argS.eq_1, DV.argS.eq_2, DV.argS.eq_3, DV.nodupB.eq_1, DV.nodupB.eq_2, DV.ownIx.eq_1, DV.ownIx.eq_2, DV.ownIx.eq_3, DV.putOuts.eq_1, DV.putOuts.eq_2, DV.putOuts.eq_3, DV.biD.eq_1, DV.biD.eq_2, DV.biD.eq_3, DV.biD.eq_4, DV.biD.eq_5, DV.biD.eq_6, DV.biD.eq_7, DV.biD.eq_8, DV.biD.eq_9, DV.biD.eq_10, DV.biD.eq_11, DV.biD.eq_12, DV.biD.eq_13, DV.biD.eq_14, DV.biD.eq_15, DV.biD.eq_16, DV.biD.eq_17, DV.biD.eq_18, DV.biD.eq_19, DV.isiD.eq_1, DV.isiD.eq_2, DV.isiD.eq_3, DV.isiD.eq_4, DV.isiD.eq_5, DV.isiD.eq_6, DV.isiD.eq_7, DV.shallow.eq_1, DV.shallow.eq_2, DV.shallow.eq_3, DV.testD.eq_1, DV.truthD.eq_1, DV.truthD.eq_2, DV.truthD.eq_3, DV.truthD.eq_4, DV.truthD.eq_5, DV.truthD.eq_6, DV.truthD.eq_7, DV.truthD.eq_8, DV.finish.eq_1, DV.finish.eq_2, DV.finish.eq_3, DV.finish.eq_4, DV.finish.eq_5, DV.outsOf.eq_1, DV.outsOf.eq_2, DV.outsOf.eq_3, DV.ownPs.eq_1, DV.ownPs.eq_2, DV.ownPs.eq_3, DV.disjB.eq_1, DV.isLst.eq_1, DV.appD.eq_1, DV.extD.eq_1, DV.setD.eq_1, DV.asgT.eq_1, DV.asgT.eq_2, DV.asgT.asgTs.eq_1, DV.asgT.asgTs.eq_2, DV.tgIx.eq_1, DV.tgIx.eq_2, DV.tgIx.tgIxs.eq_1, DV.tgIx.tgIxs.eq_2, DV.iterD.eq_1, DV.iterD.eq_2, DV.iterD.eq_3, DV.it_rng, DV.binD.eq_1, DV.binD.eq_2, DV.binD.eq_3, DV.binD.eq_4, DV.binD.eq_5, DV.binD.eq_6, DV.binD.eq_7, DV.binD.eq_8, DV.binD.eq_9, DV.binD.eq_10, DV.cmpD.eq_3, DV.cmpD.eq_4, DV.cmpD.eq_5, DV.cmpD.eq_6, DV.cmpD.eq_7, DV.cmpD.eq_8, DV.cmpD.eq_9, DV.cmpD.eq_10, DV.cmpD.eq_11, DV.cmpD.eq_12, DV.isNonD.eq_1, DV.isNonD.eq_2, DV.ixD.eq_1, DV.ixD.eq_2, DV.ixD.eq_3, DV.ixD.eq_4, DV.slcD.eq_1, DV.slcD.eq_2, DV.slcD.eq_3, DV.slO.eq_1, DV.slO.eq_2, DV.plainIx.eq_1, DV.wipeG.eq_1, DV.wipeG.eq_2, DV.restG.eq_1, DV.restG.eq_2, DV.flatD.eq_1, DV.flatD.eq_2, DV.flatD.eq_3, DV.flatD.eq_4, DV.flatD.eq_5]) ?_).trans ih⟩
    simp [B_law_1, DV.runF.eq_1, DV.exs.eq_1, DV.exs.eq_2, DV.ex.eq_1, DV.ex.eq_2, DV.ex.eq_3, DV.ex.eq_4, DV.ex.eq_5, DV.ex.eq_6, DV.ex.eq_7, DV.ex.eq_8, DV.ex.eq_9, DV.ex.eq_10, DV.ex.eq_11, DV.ex.eq_12, DV.ex.eq_13, DV.ex.eq_14, DV.ex.eq_15, DV.ex.eq_16, DV.ev.eq_1, DV.ev.eq_2, DV.ev.eq_3, DV.ev.eq_4, DV.ev.eq_5, DV.ev.eq_6, DV.ev.eq_7, DV.ev.eq_8, DV.ev.eq_9, DV.ev.eq_10, DV.ev.eq_11, DV.ev.eq_12, DV.ev.eq_13, DV.ev.eq_14, DV.ev.eq_15, DV.ev.eq_16, DV.ev.eq_17, DV.ev.eq_18, DV.evs.eq_1, DV.evs.eq_2, DV.evc.eq_1, DV.evc.eq_2, DV.evn.eq_1, DV.evn.eq_2, DV.parS.eq_1, DV.parS.eq_2, DV.parS.eq_3, DV.datums.eq_1, DV.datums.eq_2, DV.datum.eq_1, DV.datum.eq_2, DV.datum.eq_3, DV.fre.eq_1, DV.fre.eq_2, DV.fre.eq_3, DV.fres.eq_1, DV.fres.eq_2, DV.argSs.eq_1, DV.argSs.eq_2, DV.argS.eq_1, DV.argS.eq_2, DV.argS.eq_3, DV.nodupB.eq_1, DV.nodupB.eq_2, DV.ownIx.eq_1, DV.ownIx.eq_2, DV.ownIx.eq_3, DV.putOuts.eq_1, DV.putOuts.eq_2, DV.putOuts.eq_3, DV.biD.eq_1, DV.biD.eq_2, DV.biD.eq_3, DV.biD.eq_4, DV.biD.eq_5, DV.biD.eq_6, DV.biD.eq_7, DV.biD.eq_8, DV.biD.eq_9, DV.biD.eq_10, DV.biD.eq_11, DV.biD.eq_12, DV.biD.eq_13, DV.biD.eq_14, DV.biD.eq_15, DV.biD.eq_16, DV.biD.eq_17, DV.biD.eq_18, DV.biD.eq_19, DV.isiD.eq_1, DV.isiD.eq_2, DV.isiD.eq_3, DV.isiD.eq_4, DV.isiD.eq_5, DV.isiD.eq_6, DV.isiD.eq_7, DV.shallow.eq_1, DV.shallow.eq_2, DV.shallow.eq_3, DV.testD.eq_1, DV.truthD.eq_1, DV.truthD.eq_2, DV.truthD.eq_3, DV.truthD.eq_4, DV.truthD.eq_5, DV.truthD.eq_6, DV.truthD.eq_7, DV.truthD.eq_8, DV.finish.eq_1, DV.finish.eq_2, DV.finish.eq_3, DV.finish.eq_4, DV.finish.eq_5, DV.outsOf.eq_1, DV.outsOf.eq_2, DV.outsOf.eq_3, DV.ownPs.eq_1, DV.ownPs.eq_2, DV.ownPs.eq_3, DV.disjB.eq_1, DV.isLst.eq_1, DV.appD.eq_1, DV.extD.eq_1, DV.setD.eq_1, DV.asgT.eq_1, DV.asgT.eq_2, DV.asgT.asgTs.eq_1, DV.asgT.asgTs.eq_2, DV.tgIx.eq_1, DV.tgIx.eq_2, DV.tgIx.tgIxs.eq_1, DV.tgIx.tgIxs.eq_2, DV.iterD.eq_1, DV.iterD.eq_2, DV.iterD.eq_3, DV.it_rng, DV.binD.eq_1, DV.binD.eq_2, DV.binD.eq_3, DV.binD.eq_4, DV.binD.eq_5, DV.binD.eq_6, DV.binD.eq_7, DV.binD.eq_8, DV.binD.eq_9, DV.binD.eq_10, DV.cmpD.eq_3, DV.cmpD.eq_4, DV.cmpD.eq_5, DV.cmpD.eq_6, DV.cmpD.eq_7, DV.cmpD.eq_8, DV.cmpD.eq_9, DV.cmpD.eq_10, DV.cmpD.eq_11, DV.cmpD.eq_12, DV.isNonD.eq_1, DV.isNonD.eq_2, DV.ixD.eq_1, DV.ixD.eq_2, DV.ixD.eq_3, DV.ixD.eq_4, DV.slcD.eq_1, DV.slcD.eq_2, DV.slcD.eq_3, DV.slO.eq_1, DV.slO.eq_2, DV.plainIx.eq_1, DV.wipeG.eq_1, DV.wipeG.eq_2, DV.restG.eq_1, DV.restG.eq_2, DV.flatD.eq_1, DV.flatD.eq_2, DV.flatD.eq_3, DV.flatD.eq_4, DV.flatD.eq_5, e1, e2]
theorem law_true (ns : List Int) (hl : ns.length ≤ 63) (hb : ∀ z ∈ ns, Builtin.Int.intBits z ≤ 1048576) : ∃ os, F_law [some (.scr ns, false)] = some (.fz (.bl true), os) := by
  obtain ⟨y1, e⟩ := law_loop (ns.take 4 ++ [0]) (.scr ns) none
  refine ⟨[some (.scr ns, false)], ?_⟩
  refine runF_by (o := .rt (.fz (.bl true)) [some (.scr ns, false), y1]) rfl (?_ : exs _ [] _ [some (.scr ns, false), none] = _) rfl
  refine (exs_nx (ex_for (Γ2 := [some (.scr ns, false), none]) (ds := (ns.take 4 ++ [0]).map D.int) ?_ rfl e)).trans (by simp [DV.runF.eq_1, DV.exs.eq_1, DV.exs.eq_2, DV.ex.eq_1, DV.ex.eq_2, DV.ex.eq_3, DV.ex.eq_4, DV.ex.eq_5, DV.ex.eq_6, DV.ex.eq_7, DV.ex.eq_8, DV.ex.eq_9, DV.ex.eq_10, DV.ex.eq_11, DV.ex.eq_12, DV.ex.eq_13, DV.ex.eq_14, DV.ex.eq_15, DV.ex.eq_16, DV.ev.eq_1, DV.ev.eq_2, DV.ev.eq_3, DV.ev.eq_4, DV.ev.eq_5, DV.ev.eq_6, DV.ev.eq_7, DV.ev.eq_8, DV.ev.eq_9, DV.ev.eq_10, DV.ev.eq_11, DV.ev.eq_12, DV.ev.eq_13, DV.ev.eq_14, DV.ev.eq_15, DV.ev.eq_16, DV.ev.eq_17, DV.ev.eq_18, DV.evs.eq_1, DV.evs.eq_2, DV.evc.eq_1, DV.evc.eq_2, DV.evn.eq_1, DV.evn.eq_2, DV.parS.eq_1, DV.parS.eq_2, DV.parS.eq_3, DV.datums.eq_1, DV.datums.eq_2, DV.datum.eq_1, DV.datum.eq_2, DV.datum.eq_3, DV.fre.eq_1, DV.fre.eq_2, DV.fre.eq_3, DV.fres.eq_1, DV.fres.eq_2, DV.argSs.eq_1, DV.argSs.eq_2, DV.argS.eq_1, DV.argS.eq_2, DV.argS.eq_3, DV.nodupB.eq_1, DV.nodupB.eq_2, DV.ownIx.eq_1, DV.ownIx.eq_2, DV.ownIx.eq_3, DV.putOuts.eq_1, DV.putOuts.eq_2, DV.putOuts.eq_3, DV.biD.eq_1, DV.biD.eq_2, DV.biD.eq_3, DV.biD.eq_4, DV.biD.eq_5, DV.biD.eq_6, DV.biD.eq_7, DV.biD.eq_8, DV.biD.eq_9, DV.biD.eq_10, DV.biD.eq_11, DV.biD.eq_12, DV.biD.eq_13, DV.biD.eq_14, DV.biD.eq_15, DV.biD.eq_16, DV.biD.eq_17, DV.biD.eq_18, DV.biD.eq_19, DV.isiD.eq_1, DV.isiD.eq_2, DV.isiD.eq_3, DV.isiD.eq_4, DV.isiD.eq_5, DV.isiD.eq_6, DV.isiD.eq_7, DV.shallow.eq_1, DV.shallow.eq_2, DV.shallow.eq_3, DV.testD.eq_1, DV.truthD.eq_1, DV.truthD.eq_2, DV.truthD.eq_3, DV.truthD.eq_4, DV.truthD.eq_5, DV.truthD.eq_6, DV.truthD.eq_7, DV.truthD.eq_8, DV.finish.eq_1, DV.finish.eq_2, DV.finish.eq_3, DV.finish.eq_4, DV.finish.eq_5, DV.outsOf.eq_1, DV.outsOf.eq_2, DV.outsOf.eq_3, DV.ownPs.eq_1, DV.ownPs.eq_2, DV.ownPs.eq_3, DV.disjB.eq_1, DV.isLst.eq_1, DV.appD.eq_1, DV.extD.eq_1, DV.setD.eq_1, DV.asgT.eq_1, DV.asgT.eq_2, DV.asgT.asgTs.eq_1, DV.asgT.asgTs.eq_2, DV.tgIx.eq_1, DV.tgIx.eq_2, DV.tgIx.tgIxs.eq_1, DV.tgIx.tgIxs.eq_2, DV.iterD.eq_1, DV.iterD.eq_2, DV.iterD.eq_3, DV.it_rng, DV.binD.eq_1, DV.binD.eq_2, DV.binD.eq_3, DV.binD.eq_4, DV.binD.eq_5, DV.binD.eq_6, DV.binD.eq_7, DV.binD.eq_8, DV.binD.eq_9, DV.binD.eq_10, DV.cmpD.eq_3, DV.cmpD.eq_4, DV.cmpD.eq_5, DV.cmpD.eq_6, DV.cmpD.eq_7, DV.cmpD.eq_8, DV.cmpD.eq_9, DV.cmpD.eq_10, DV.cmpD.eq_11, DV.cmpD.eq_12, DV.isNonD.eq_1, DV.isNonD.eq_2, DV.ixD.eq_1, DV.ixD.eq_2, DV.ixD.eq_3, DV.ixD.eq_4, DV.slcD.eq_1, DV.slcD.eq_2, DV.slcD.eq_3, DV.slO.eq_1, DV.slO.eq_2, DV.plainIx.eq_1, DV.wipeG.eq_1, DV.wipeG.eq_2, DV.restG.eq_1, DV.restG.eq_2, DV.flatD.eq_1, DV.flatD.eq_2, DV.flatD.eq_3, DV.flatD.eq_4, DV.flatD.eq_5])
  have hc : cutD (ns.map D.int) none (some 4) = (ns.take 4).map D.int := by
    unfold cutD
    rw [HT.sIx_none, show (4 : Int) = ((4 : Nat) : Int) from rfl, HT.sIx_nat, List.drop_zero, Nat.sub_zero, List.length_map, List.map_take]
    rcases Nat.le_total 4 ns.length with h | h
    · rw [Nat.min_eq_left h]
    · rw [Nat.min_eq_right h, List.take_of_length_le (by simp), List.take_of_length_le (by simpa using h)]
  have hs : ((ns.take 4).map D.int).length + 1 ≤ 16777216 := by
    rw [List.length_map, List.length_take]
    omega
  simp only [List.length_map, List.length_take] at hs
  simp [DV.runF.eq_1, DV.exs.eq_1, DV.exs.eq_2, DV.ex.eq_1, DV.ex.eq_2, DV.ex.eq_3, DV.ex.eq_4, DV.ex.eq_5, DV.ex.eq_6, DV.ex.eq_7, DV.ex.eq_8, DV.ex.eq_9, DV.ex.eq_10, DV.ex.eq_11, DV.ex.eq_12, DV.ex.eq_13, DV.ex.eq_14, DV.ex.eq_15, DV.ex.eq_16, DV.ev.eq_1, DV.ev.eq_2, DV.ev.eq_3, DV.ev.eq_4, DV.ev.eq_5, DV.ev.eq_6, DV.ev.eq_7, DV.ev.eq_8, DV.ev.eq_9, DV.ev.eq_10, DV.ev.eq_11, DV.ev.eq_12, DV.ev.eq_13, DV.ev.eq_14, DV.ev.eq_15, DV.ev.eq_16, DV.ev.eq_17, DV.ev.eq_18, DV.evs.eq_1, DV.evs.eq_2, DV.evc.eq_1, DV.evc.eq_2, DV.evn.eq_1, DV.evn.eq_2, DV.parS.eq_1, DV.parS.eq_2, DV.parS.eq_3, DV.datums.eq_1, DV.datums.eq_2, DV.datum.eq_1, DV.datum.eq_2, DV.datum.eq_3, DV.fre.eq_1, DV.fre.eq_2, DV.fre.eq_3, DV.fres.eq_1, DV.fres.eq_2, DV.argSs.eq_1, DV.argSs.eq_2, DV.argS.eq_1, DV.argS.eq_2, DV.argS.eq_3, DV.nodupB.eq_1, DV.nodupB.eq_2, DV.ownIx.eq_1, DV.ownIx.eq_2, DV.ownIx.eq_3, DV.putOuts.eq_1, DV.putOuts.eq_2, DV.putOuts.eq_3, DV.biD.eq_1, DV.biD.eq_2, DV.biD.eq_3, DV.biD.eq_4, DV.biD.eq_5, DV.biD.eq_6, DV.biD.eq_7, DV.biD.eq_8, DV.biD.eq_9, DV.biD.eq_10, DV.biD.eq_11, DV.biD.eq_12, DV.biD.eq_13, DV.biD.eq_14, DV.biD.eq_15, DV.biD.eq_16, DV.biD.eq_17, DV.biD.eq_18, DV.biD.eq_19, DV.isiD.eq_1, DV.isiD.eq_2, DV.isiD.eq_3, DV.isiD.eq_4, DV.isiD.eq_5, DV.isiD.eq_6, DV.isiD.eq_7, DV.shallow.eq_1, DV.shallow.eq_2, DV.shallow.eq_3, DV.testD.eq_1, DV.truthD.eq_1, DV.truthD.eq_2, DV.truthD.eq_3, DV.truthD.eq_4, DV.truthD.eq_5, DV.truthD.eq_6, DV.truthD.eq_7, DV.truthD.eq_8, DV.finish.eq_1, DV.finish.eq_2, DV.finish.eq_3, DV.finish.eq_4, DV.finish.eq_5, DV.outsOf.eq_1, DV.outsOf.eq_2, DV.outsOf.eq_3, DV.ownPs.eq_1, DV.ownPs.eq_2, DV.ownPs.eq_3, DV.disjB.eq_1, DV.isLst.eq_1, DV.appD.eq_1, DV.extD.eq_1, DV.setD.eq_1, DV.asgT.eq_1, DV.asgT.eq_2, DV.asgT.asgTs.eq_1, DV.asgT.asgTs.eq_2, DV.tgIx.eq_1, DV.tgIx.eq_2, DV.tgIx.tgIxs.eq_1, DV.tgIx.tgIxs.eq_2, DV.iterD.eq_1, DV.iterD.eq_2, DV.iterD.eq_3, DV.it_rng, DV.binD.eq_1, DV.binD.eq_2, DV.binD.eq_3, DV.binD.eq_4, DV.binD.eq_5, DV.binD.eq_6, DV.binD.eq_7, DV.binD.eq_8, DV.binD.eq_9, DV.binD.eq_10, DV.cmpD.eq_3, DV.cmpD.eq_4, DV.cmpD.eq_5, DV.cmpD.eq_6, DV.cmpD.eq_7, DV.cmpD.eq_8, DV.cmpD.eq_9, DV.cmpD.eq_10, DV.cmpD.eq_11, DV.cmpD.eq_12, DV.isNonD.eq_1, DV.isNonD.eq_2, DV.ixD.eq_1, DV.ixD.eq_2, DV.ixD.eq_3, DV.ixD.eq_4, DV.slcD.eq_1, DV.slcD.eq_2, DV.slcD.eq_3, DV.slO.eq_1, DV.slO.eq_2, DV.plainIx.eq_1, DV.wipeG.eq_1, DV.wipeG.eq_2, DV.restG.eq_1, DV.restG.eq_2, DV.flatD.eq_1, DV.flatD.eq_2, DV.flatD.eq_3, DV.flatD.eq_4, DV.flatD.eq_5, hc, hs, sizeLine]

end L
open PySem PySem.W PyProof.Rows
set_option maxHeartbeats 0 in
theorem PySem.Challenge.cw_breakerrow_k45_logs_of_breakers_holds : PySem.Challenge.rw_breakerrow_k45_logs_of_breakers.Holds := by
  w_on; o_law; k_head; (case hw => w_witness2)
  k_fill
  refine L2.walk_ofB (l := PySem.Challenge.rw_breakerrow_k45_logs_of_breakers) (n := 63) (k := 6) (x := "_law_script") (CX := fun _ => L2.CX0) (sp := fun w => DV.spF ⟨_, fun _ => 0⟩ 1 L.F_law) rfl (by decide) rfl ⟨rfl, by decide, by decide⟩ (fun w h Y => PySem.W.kIn_of Y) ?F (fun _ H a ns hl hb _ hS => DV.sp_law (L.law_true ns hl hb).choose_spec hS) (fun _ _ _ _ _ h => h)
  case F =>
    intro w mg fa h KX G hmg
    refine' L.all_mk KX G hmg ?a0 ?l0 ?e0 ?k0 ?a1 ?l1 ?e1 ?k1 ?a2 ?l2 ?e2 ?k2 ?a3 ?l3 ?e3 ?k3 ?a4 ?l4 ?e4 ?k4 ?a5 ?l5 ?e5 ?k5 ?a6 ?l6 ?e6 ?k6 ?a7 ?l7 ?e7 ?k7 ?a8 ?l8 ?e8 ?k8 ?a9 ?l9 ?e9 ?k9 ?a10 ?l10 ?e10 ?k10 ?a11 ?l11 ?e11 ?k11 ?a12 ?l12 ?e12 ?k12 ?a13 ?l13 ?e13 ?k13 ?z_bool ?z_enumerate ?z_int ?z_isinstance ?z_len ?z_list ?z_max ?z_range ?z_tuple ?g_MOST_COUNT ?g_MOST_WAIT ?g_MOST_ENTRIES
    (case a0 => k_is)
    (case l0 => k_is)
    (case e0 => k_is)
    (case k0 => k_is)
    (case a1 => k_is)
    (case l1 => k_is)
    (case e1 => k_is)
    (case k1 => k_is)
    (case a2 => k_is)
    (case l2 => k_is)
    (case e2 => k_is)
    (case k2 => k_is)
    (case a3 => k_is)
    (case l3 => k_is)
    (case e3 => k_is)
    (case k3 => k_is)
    (case a4 => k_is)
    (case l4 => k_is)
    (case e4 => k_is)
    (case k4 => k_is)
    (case a5 => k_is)
    (case l5 => k_is)
    (case e5 => k_is)
    (case k5 => k_is)
    (case a6 => k_is)
    (case l6 => k_is)
    (case e6 => k_is)
    (case k6 => k_is)
    (case a7 => k_is)
    (case l7 => k_is)
    (case e7 => k_is)
    (case k7 => k_is)
    (case a8 => k_is)
    (case l8 => k_is)
    (case e8 => k_is)
    (case k8 => k_is)
    (case a9 => k_is)
    (case l9 => k_is)
    (case e9 => k_is)
    (case k9 => k_is)
    (case a10 => k_is)
    (case l10 => k_is)
    (case e10 => k_is)
    (case k10 => k_is)
    (case a11 => k_is)
    (case l11 => k_is)
    (case e11 => k_is)
    (case k11 => k_is)
    (case a12 => k_is)
    (case l12 => k_is)
    (case e12 => k_is)
    (case k12 => k_is)
    (case a13 => k_is)
    (case l13 => k_is)
    (case e13 => k_is)
    (case k13 => k_is)
    (case z_bool => k_is)
    (case z_enumerate => k_is)
    (case z_int => k_is)
    (case z_isinstance => k_is)
    (case z_len => k_is)
    (case z_list => k_is)
    (case z_max => k_is)
    (case z_range => k_is)
    (case z_tuple => k_is)
    (case g_MOST_COUNT => k_is)
    (case g_MOST_WAIT => k_is)
    (case g_MOST_ENTRIES => k_is)
