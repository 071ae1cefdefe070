import PyProof.Rows.All
import Wide.All
import OpenK.AllK
import Wide.FinOn
import HandS.ForMost
import HandS.Wide
import HandS.Style
import HandS.Flow
import HandS.Zip
import HandS.EndBits
import HandS.IsInst
import HandS.TupLe
import HandS.OwnEq
import PyProof.InstNe
import HandS.MakeKwOnly
import HandS.SortRule
import HandS.Conv
import HandS.SortKw
import HandS.SetFor
import KE.DataMinMax
import PyProof.Rows.CountFlat
import KE.DatumOrd
import KE.OsRunLaw
import PySem.Challenge.RW_breakerrow_k40_lowerings_and_raises_trie
set_option exponentiation.threshold 100000
set_option Elab.async false
set_option linter.all false
set_option maxRecDepth 100000
set_option maxHeartbeats 4000000
section
open PySem PySem.W PyProof.Rows
local macro_rules | `(tactic| k_head) => `(tactic| k_headL)
set_option maxHeartbeats 0 in
open_top L_top for PySem.Challenge.rw_breakerrow_k40_lowerings_and_raises_trie
end
namespace DV
open PySem L2

/-- data: what a Python value says, with its heap read off -/
inductive D where
  | non | bl (b : Bool) | int (i : Int) | str (x : Str) | lst (xs : List D) | tup (xs : List D) | obj (c : Nat) (ks : List Str) (ds : List D) | scr (ns : List Int) | dct

/-- what is static of a text behind its top -/
structure Gx where
  K : PySem.W.Frag
  cl : Nat → Addr

/-! ### what stands for a datum -/
mutual
def Rep (g : Gx) (Av : Addr → Prop) (H : Hp) : D → V → Prop
  | .non, v => v = .non
  | .bl b, v => v = .bl b
  | .int i, v => v = .int i
  | .str x, v => v = .str x
  | .lst ds, v => ∃ a vs, v = .ref a ∧ ¬ Av a ∧ H a = some (.lst vs) ∧ Reps g Av H ds vs
  | .scr ns, v => ∃ a, v = .ref a ∧ ¬ Av a ∧ SqL g.K H a (ns.map V.int)
  | .tup ds, v => ∃ a vs, v = .ref a ∧ ¬ Av a ∧ SqT g.K H a vs ∧ Reps g Av H ds vs
  | .obj c ks ds, v => ∃ a dx vs, v = .ref a ∧ ¬ Av a ∧ ks.length = vs.length ∧ H a = some (.ins (g.cl c) dx (ks.zip vs)) ∧ Reps g Av H ds vs
  | .dct, v => ∃ a, v = .ref a ∧ ¬ Av a ∧ H a = some (.dK [])
def Reps (g : Gx) (Av : Addr → Prop) (H : Hp) : List D → List V → Prop
  | [], vs => vs = []
  | d :: ds, vs => ∃ v r, vs = v :: r ∧ Rep g Av H d v ∧ Reps g Av H ds r
end

def kfree (g : Gx) (H : Hp) : Prop := ∀ a o, g.K.lookup a = some o → H a = none

section
variable {g : Gx} {Av Av' : Addr → Prop} {H H' : Hp}
theorem sqL_mono {a : Addr} {vs : List V} (h : SqL g.K H a vs) (k : ∀ o, H a = some o → H' a = some o) : SqL g.K H' a vs := by
  rcases h with (h | ⟨o, h⟩) | h
  · exact .inl (.inl (k _ h))
  · exact .inl (.inr ⟨o, k _ h⟩)
  · exact .inr h
theorem sqT_mono {a : Addr} {vs : List V} (h : SqT g.K H a vs) (k : ∀ o, H a = some o → H' a = some o) : SqT g.K H' a vs := by
  rcases h with (h | ⟨o, h⟩) | h
  · exact .inl (.inl (k _ h))
  · exact .inl (.inr ⟨o, k _ h⟩)
  · exact .inr h
theorem sqL_at {a : Addr} {vs : List V} (h : SqL g.K H a vs) : (∃ o, H a = some o) ∨ ∃ o, g.K.lookup a = some o := by
  rcases h with (h | ⟨o, h⟩) | ⟨o, _, _, h, _⟩
  · exact .inl ⟨_, h⟩
  · exact .inl ⟨_, h⟩
  · exact .inr ⟨_, h⟩
theorem sqT_at {a : Addr} {vs : List V} (h : SqT g.K H a vs) : (∃ o, H a = some o) ∨ ∃ o, g.K.lookup a = some o := by
  rcases h with (h | ⟨o, h⟩) | ⟨o, _, _, h, _⟩
  · exact .inl ⟨_, h⟩
  · exact .inl ⟨_, h⟩
  · exact .inr ⟨_, h⟩
/-- a visited address: one that may not change, and stands in H or in the written part -/
abbrev Vst (g : Gx) (Av : Addr → Prop) (H : Hp) (a : Addr) : Prop := ¬ Av a ∧ ((∃ o, H a = some o) ∨ ∃ o, g.K.lookup a = some o)
mutual
theorem rep_mono (k : ∀ a, Vst g Av H a → (∀ o, H a = some o → H' a = some o) ∧ ¬ Av' a) : ∀ (d : D) (v : V), Rep g Av H d v → Rep g Av' H' d v
  | .non, _, h => by simpa [Rep] using h
  | .bl _, _, h => by simpa [Rep] using h
  | .int _, _, h => by simpa [Rep] using h
  | .str _, _, h => by simpa [Rep] using h
  | .lst ds, v, h => by
    simp only [Rep] at h ⊢
    obtain ⟨a, vs, e, n, s, r⟩ := h
    have q := k a ⟨n, .inl ⟨_, s⟩⟩
    exact ⟨a, vs, e, q.2, q.1 _ s, reps_mono k ds vs r⟩
  | .scr ns, v, h => by
    simp only [Rep] at h ⊢
    obtain ⟨a, e, n, s⟩ := h
    have q := k a ⟨n, sqL_at s⟩
    exact ⟨a, e, q.2, sqL_mono s q.1⟩
  | .tup ds, v, h => by
    simp only [Rep] at h ⊢
    obtain ⟨a, vs, e, n, s, r⟩ := h
    have q := k a ⟨n, sqT_at s⟩
    exact ⟨a, vs, e, q.2, sqT_mono s q.1, reps_mono k ds vs r⟩
  | .obj c ks ds, v, h => by
    simp only [Rep] at h ⊢
    obtain ⟨a, dx, vs, e, n, l, s, r⟩ := h
    have q := k a ⟨n, .inl ⟨_, s⟩⟩
    exact ⟨a, dx, vs, e, q.2, l, q.1 _ s, reps_mono k ds vs r⟩
  | .dct, v, h => by
    simp only [Rep] at h ⊢
    obtain ⟨a, e, n, s⟩ := h
    have q := k a ⟨n, .inl ⟨_, s⟩⟩
    exact ⟨a, e, q.2, q.1 _ s⟩
theorem reps_mono (k : ∀ a, Vst g Av H a → (∀ o, H a = some o → H' a = some o) ∧ ¬ Av' a) : ∀ (ds : List D) (vs : List V), Reps g Av H ds vs → Reps g Av' H' ds vs
  | [], _, h => by simpa [Reps] using h
  | d :: ds, _, h => by
    simp only [Reps] at h ⊢
    obtain ⟨v, r, e, h1, h2⟩ := h
    exact ⟨v, r, e, rep_mono k d v h1, reps_mono k ds r h2⟩
end
theorem Reps.len : ∀ {ds : List D} {vs : List V}, Reps g Av H ds vs → ds.length = vs.length
  | [], _, h => by simp only [Reps] at h; subst h; rfl
  | d :: ds, _, h => by
    simp only [Reps] at h
    obtain ⟨v, r, rfl, _, h2⟩ := h
    rw [List.length_cons, List.length_cons, Reps.len h2]
theorem Reps.get : ∀ {ds : List D} {vs : List V} {i : Nat} {d : D}, Reps g Av H ds vs → ds[i]? = some d → ∃ v, vs[i]? = some v ∧ Rep g Av H d v
  | [], _, i, d, _, e => by simp at e
  | x :: ds, _, 0, d, h, e => by
    simp only [Reps] at h
    obtain ⟨v, r, rfl, h1, _⟩ := h
    simp at e; subst e
    exact ⟨v, rfl, h1⟩
  | x :: ds, _, i + 1, d, h, e => by
    simp only [Reps] at h
    obtain ⟨v, r, rfl, _, h2⟩ := h
    exact Reps.get (i := i) h2 (by simpa using e)
theorem Reps.app : ∀ {ds es : List D} {vs ws : List V}, Reps g Av H ds vs → Reps g Av H es ws → Reps g Av H (ds ++ es) (vs ++ ws)
  | [], _, _, _, h, q => by simp only [Reps] at h; subst h; exact q
  | d :: ds, _, _, _, h, q => by
    simp only [Reps] at h
    obtain ⟨v, r, rfl, h1, h2⟩ := h
    simp only [List.cons_append, Reps]
    exact ⟨v, _, rfl, h1, Reps.app h2 q⟩
theorem Reps.take : ∀ {ds : List D} {vs : List V} (n : Nat), Reps g Av H ds vs → Reps g Av H (ds.take n) (vs.take n)
  | _, _, 0, _ => by simp [Reps]
  | [], _, n + 1, h => by simp only [Reps] at h; subst h; simp [Reps]
  | d :: ds, _, n + 1, h => by
    simp only [Reps] at h
    obtain ⟨v, r, rfl, h1, h2⟩ := h
    simp only [List.take_succ_cons, Reps]
    exact ⟨v, _, rfl, h1, Reps.take n h2⟩
theorem Reps.drop : ∀ {ds : List D} {vs : List V} (n : Nat), Reps g Av H ds vs → Reps g Av H (ds.drop n) (vs.drop n)
  | _, _, 0, h => h
  | [], _, n + 1, h => by simp only [Reps] at h; subst h; simp [Reps]
  | d :: ds, _, n + 1, h => by
    simp only [Reps] at h
    obtain ⟨v, r, rfl, h1, h2⟩ := h
    simpa using Reps.drop n h2
theorem Reps.set {d : D} {v : V} (q : Rep g Av H d v) : ∀ {ds : List D} {vs : List V} (n : Nat), Reps g Av H ds vs → Reps g Av H (ds.set n d) (vs.set n v)
  | [], _, n, h => by simp only [Reps] at h; subst h; simp [Reps]
  | x :: ds, _, 0, h => by
    simp only [Reps] at h
    obtain ⟨w, r, rfl, h1, h2⟩ := h
    simp only [List.set_cons_zero, Reps]
    exact ⟨v, _, rfl, q, h2⟩
  | x :: ds, _, n + 1, h => by
    simp only [Reps] at h
    obtain ⟨w, r, rfl, h1, h2⟩ := h
    simp only [List.set_cons_succ, Reps]
    exact ⟨w, _, rfl, h1, Reps.set q n h2⟩
theorem Reps.one {d : D} {v : V} (q : Rep g Av H d v) : Reps g Av H [d] [v] := by
  simp only [Reps]
  exact ⟨v, [], rfl, q, rfl⟩
theorem Reps.rev : ∀ {ds : List D} {vs : List V}, Reps g Av H ds vs → Reps g Av H ds.reverse vs.reverse
  | [], _, h => by simp only [Reps] at h; subst h; simp [Reps]
  | d :: ds, _, h => by
    simp only [Reps] at h
    obtain ⟨v, r, rfl, h1, h2⟩ := h
    rw [List.reverse_cons, List.reverse_cons]
    exact Reps.app (Reps.rev h2) (Reps.one h1)
theorem Reps.repl {ds : List D} {vs : List V} (h : Reps g Av H ds vs) : ∀ n : Nat, Reps g Av H (List.replicate n ds).flatten (List.replicate n vs).flatten
  | 0 => by simp [Reps]
  | n + 1 => by
    rw [List.replicate_succ, List.replicate_succ, List.flatten_cons, List.flatten_cons]
    exact Reps.app h (Reps.repl h n)
end

/-! ### the frame: slots with data, some of them owned -/
abbrev Sl := Option (D × Bool)
abbrev Ct := List Sl
def Av (Bn : Addr → Prop) (Ow : List Addr) : Addr → Prop := fun a => Bn a ∨ a ∈ Ow
/-- the object at a is the owned datum d -/
def OwnA (g : Gx) (A : Addr → Prop) (H : Hp) (d : D) (a : Addr) : Prop :=
  match d with
  | .lst ds => ∃ vs, H a = some (.lst vs) ∧ Reps g A H ds vs
  | .obj c ks ds => ∃ dx vs, ks.length = vs.length ∧ H a = some (.ins (g.cl c) dx (ks.zip vs)) ∧ Reps g A H ds vs
  | _ => False
structure RS (g : Gx) (Bn : Addr → Prop) (Ow : List Addr) (H : Hp) (σ : St) (Γ : Ct) : Prop where
  len : σ.length = Γ.length
  slot : ∀ (i : Nat) d, Γ[i]? = some (some (d, false)) → ∃ v, σ[i]? = some (some v) ∧ Rep g (Av Bn Ow) H d v
  own : ∀ (i : Nat) d, Γ[i]? = some (some (d, true)) → ∃ a, σ[i]? = some (some (.ref a)) ∧ a ∈ Ow ∧ OwnA g (Av Bn Ow) H d a
  dist : ∀ (i j : Nat) d e a, Γ[i]? = some (some (d, true)) → Γ[j]? = some (some (e, true)) → σ[i]? = some (some (.ref a)) → σ[j]? = some (some (.ref a)) → i = j
  trk : ∀ a, Av Bn Ow a → H a ≠ none
  sep : ∀ a, Bn a → a ∉ Ow
  kf : ∀ a, Av Bn Ow a → g.K.lookup a = none
/-- a step of the frame -/
structure Stp (Ow : List Addr) (H : Hp) (Ow' : List Addr) (H' : Hp) : Prop where
  keep : ∀ a o, H a = some o → a ∉ Ow → H' a = some o
  grow : ∀ a, a ∈ Ow' → a ∈ Ow ∨ H a = none
  stay : ∀ a, H a ≠ none → H' a ≠ none
theorem Stp.refl (Ow : List Addr) (H : Hp) : Stp Ow H Ow H := ⟨fun _ _ h _ => h, fun _ h => .inl h, fun _ h => h⟩
theorem Stp.trans {O1 O2 O3 : List Addr} {H1 H2 H3 : Hp} (a : Stp O1 H1 O2 H2) (b : Stp O2 H2 O3 H3) : Stp O1 H1 O3 H3 where
  keep := fun x o h n => b.keep x o (a.keep x o h n) fun z => by
    rcases a.grow x z with q | q
    · exact n q
    · rw [q] at h; cases h
  grow := fun x h => by
    rcases b.grow x h with q | q
    · exact a.grow x q
    · right
      cases e : H1 x with
      | none => rfl
      | some o => exact absurd q (a.stay x (by rw [e]; simp))
  stay := fun x h => b.stay x (a.stay x h)
section
variable {g : Gx} {Bn : Addr → Prop} {Ow Ow' : List Addr} {H H' : Hp} {σ : St} {Γ Γ' : Ct}
/-- what may be carried over a step -/
theorem step_vst (s : Stp Ow H Ow' H') (kf : ∀ a, a ∈ Ow' → g.K.lookup a = none) : ∀ a, Vst g (Av Bn Ow) H a → (∀ o, H a = some o → H' a = some o) ∧ ¬ Av Bn Ow' a := fun a ⟨n, t⟩ => by
  have n1 : ¬ Bn a := fun z => n (.inl z)
  have n2 : a ∉ Ow := fun z => n (.inr z)
  refine ⟨fun o h => s.keep a o h n2, fun z => ?_⟩
  rcases z with z | z
  · exact n1 z
  · rcases t with ⟨o, t⟩ | ⟨o, t⟩
    · rcases s.grow a z with q | q
      · exact n2 q
      · rw [q] at t; cases t
    · rw [kf a z] at t; cases t
theorem Rep.step {d : D} {v : V} (h : Rep g (Av Bn Ow) H d v) (s : Stp Ow H Ow' H') (r : RS g Bn Ow' H' σ Γ) : Rep g (Av Bn Ow') H' d v :=
  rep_mono (step_vst s fun a h => r.kf a (.inr h)) d v h
theorem Reps.step {d : List D} {v : List V} (h : Reps g (Av Bn Ow) H d v) (s : Stp Ow H Ow' H') (r : RS g Bn Ow' H' σ Γ) : Reps g (Av Bn Ow') H' d v :=
  reps_mono (step_vst s fun a h => r.kf a (.inr h)) d v h
/-- the heap has grown, nothing else -/
theorem same_vst {A : Addr → Prop} (s : Same H H') : ∀ a, Vst g A H a → (∀ o, H a = some o → H' a = some o) ∧ ¬ A a := fun a ⟨n, _⟩ => ⟨fun o h => s a o h, n⟩
theorem Rep.same {A : Addr → Prop} {d : D} {v : V} (h : Rep g A H d v) (s : Same H H') : Rep g A H' d v := rep_mono (same_vst s) d v h
theorem Reps.same {A : Addr → Prop} {d : List D} {v : List V} (h : Reps g A H d v) (s : Same H H') : Reps g A H' d v := reps_mono (same_vst s) d v h
theorem OwnA.same {A : Addr → Prop} {d : D} {a : Addr} (h : OwnA g A H d a) (s : Same H H') : OwnA g A H' d a := by
  cases d with
  | lst ds => obtain ⟨vs, e, r⟩ := h; exact ⟨vs, s _ _ e, r.same s⟩
  | obj c ks ds => obtain ⟨dx, vs, l, e, r⟩ := h; exact ⟨dx, vs, l, s _ _ e, r.same s⟩
  | _ => exact h
theorem RS.same (r : RS g Bn Ow H σ Γ) (s : Same H H') : RS g Bn Ow H' σ Γ where
  len := r.len
  slot := fun i d h => let ⟨v, e, q⟩ := r.slot i d h; ⟨v, e, q.same s⟩
  own := fun i d h => let ⟨a, e, m, q⟩ := r.own i d h; ⟨a, e, m, q.same s⟩
  dist := r.dist
  trk := fun a h => by
    have := r.trk a h
    cases e : H a with
    | none => exact absurd e this
    | some o => rw [s a o e]; simp
  sep := r.sep
  kf := r.kf
theorem Stp.same (s : Same H H') : Stp Ow H Ow H' := ⟨fun a o h _ => s a o h, fun _ h => .inl h, fun a h => by
  cases e : H a with
  | none => exact absurd e h
  | some o => rw [s a o e]; simp⟩
/-- less is avoided -/
theorem rep_less {A A' : Addr → Prop} (k : ∀ a, A' a → A a) {d : D} {v : V} (h : Rep g A H d v) : Rep g A' H d v := rep_mono (fun a ⟨n, _⟩ => ⟨fun _ e => e, fun z => n (k a z)⟩) d v h
theorem reps_less {A A' : Addr → Prop} (k : ∀ a, A' a → A a) {d : List D} {v : List V} (h : Reps g A H d v) : Reps g A' H d v := reps_mono (fun a ⟨n, _⟩ => ⟨fun _ e => e, fun z => n (k a z)⟩) d v h
theorem own_less {A A' : Addr → Prop} (k : ∀ a, A' a → A a) {d : D} {a : Addr} (h : OwnA g A H d a) : OwnA g A' H d a := by
  cases d with
  | lst ds => obtain ⟨vs, e, r⟩ := h; exact ⟨vs, e, reps_less k r⟩
  | obj c ks ds => obtain ⟨dx, vs, l, e, r⟩ := h; exact ⟨dx, vs, l, e, reps_less k r⟩
  | _ => exact h
/-- an owned object becomes a plain one -/
theorem OwnA.rep {A : Addr → Prop} {d : D} {a : Addr} (h : OwnA g A H d a) (n : ¬ A a) : Rep g A H d (.ref a) := by
  cases d with
  | lst ds => obtain ⟨vs, e, r⟩ := h; simp only [Rep]; exact ⟨a, vs, rfl, n, e, r⟩
  | obj c ks ds => obtain ⟨dx, vs, l, e, r⟩ := h; simp only [Rep]; exact ⟨a, dx, vs, rfl, n, l, e, r⟩
  | _ => exact h.elim
end
end DV

namespace DV
open PySem L2

/-! ### data: equality, truth, operations -/
mutual
def eqd : D → D → Bool
  | .non, .non => true
  | .bl a, .bl b => a == b
  | .bl a, .int j => (if a then 1 else 0) == j
  | .int i, .bl b => i == (if b then 1 else 0)
  | .int i, .int j => i == j
  | .str x, .str y => x == y
  | .lst xs, .lst ys => eqds xs ys
  | .tup xs, .tup ys => eqds xs ys
  | _, _ => false
def eqds : List D → List D → Bool
  | [], [] => true
  | x :: xs, y :: ys => eqd x y && eqds xs ys
  | _, _ => false
end
/-- plain data of a depth below n -/
def okB : Nat → D → Bool
  | _, .non => true
  | _, .bl _ => true
  | _, .int _ => true
  | _, .str x => PyData.strOk x
  | n + 1, .lst ds => ds.all (okB n)
  | n + 1, .tup ds => ds.all (okB n)
  | _, _ => false
def flatD : D → Bool
  | .non => true
  | .bl _ => true
  | .int _ => true
  | .str _ => true
  | _ => false
def truthD : D → Option Bool
  | .non => some false
  | .bl b => some b
  | .int i => some (i != 0)
  | .str x => if x.length ≤ sizeLine then some ((x.length : Int) != 0) else none
  | .lst ds => some (!ds.isEmpty)
  | .tup ds => some (!ds.isEmpty)
  | .obj _ _ _ => none
  | .scr ns => some (!ns.isEmpty)
  | .dct => none

inductive RV where
  | fz (d : D) | nw (d : D) | sl (i : Nat)
inductive BOp where
  | add | sub | mul | fdiv | mod | pow
  deriving DecidableEq
inductive COp where
  | eq | ne | lt | le | gt | ge | is | isnot | inn | notin
  deriving DecidableEq
inductive OOp where
  | eq | ne | inn | notin | ix | add
  deriving DecidableEq
inductive Ty where
  | int | bool | str | list | tuple
  deriving DecidableEq
inductive Bi where
  | len | int1 | max2 | min2 | maxl | minl | suml | list | tuple | alll | anyl | isi (t : Ty) | abs | sortp | minp | min2p
  deriving DecidableEq
inductive IK where
  | seq | enum | zip | rng
  deriving DecidableEq
inductive Tg where
  | nm (i : Nat) | tp (ts : List Tg)

def tgIx : Tg → List Nat
  | .nm i => [i]
  | .tp ts => tgIxs ts
where tgIxs : List Tg → List Nat
  | [] => []
  | t :: ts => tgIx t ++ tgIxs ts
def mulOk (i j : Int) : Bool := decide (-(2 ^ 64) < i ∧ i < 2 ^ 64) || decide (-(2 ^ 64) < j ∧ j < 2 ^ 64) || decide (i.natAbs.log2 + j.natAbs.log2 < 1000000)
@[irreducible] def in1k (i : Int) : Bool := decide (i.natAbs < 2 ^ 1000)
def binD : BOp → D → D → Option RV
  | .add, .int a, .int b => some (.fz (.int (a + b)))
  | .add, .str a, .str b => if a.length + b.length ≤ sizeLine then some (.fz (.str (a ++ b))) else none
  | .add, .lst a, .lst b => if a.length + b.length ≤ sizeLine then some (.nw (.lst (a ++ b))) else none
  | .add, .tup a, .tup b => if a.length + b.length ≤ sizeLine ∧ a ≠ [] then some (.fz (.tup (a ++ b))) else none
  | .sub, .int a, .int b => some (.fz (.int (a - b)))
  | .mul, .int a, .int b => if mulOk a b then some (.fz (.int (a * b))) else none
  | .mul, .lst a, .int k => if -(2 ^ 63) ≤ k ∧ k < 2 ^ 63 ∧ a.length * k.toNat ≤ sizeLine then some (.nw (.lst (List.replicate k.toNat a).flatten)) else none
  | .fdiv, .int a, .int b => if 0 < b ∧ b.natAbs.log2 < 9000 then some (.fz (.int (a / b))) else none
  | .mod, .int a, .int b => if 0 < b then some (.fz (.int (a % b))) else none
  | .pow, .int a, .int b => if 0 ≤ b ∧ b ≤ 1000000 ∧ a.natAbs < 2 ^ 64 then some (.fz (.int (a ^ b.toNat))) else if 0 ≤ b ∧ b ≤ 1000 ∧ in1k a = true then some (.fz (.int (a ^ b.toNat))) else none
  | _, _, _ => none
def isNonD : D → Bool
  | .non => true
  | _ => false
/-- lists of other lengths -/
def lenNe : D → D → Bool
  | .lst a, .lst b => decide (a.length ≠ b.length)
  | _, _ => false
/-- (a, b) > (c, d) -/
def pGt (a b c d : Int) : Bool := decide (c < a ∨ (a = c ∧ d < b))
def tupGt : List D → List D → Option Bool
  | [.int a, .int b], [.int c, .int d] => some (pGt a b c d)
  | _, _ => none
def cmpD : COp → D → D → Option Bool
  | .eq, a, b => if okB 12 a && okB 12 b then some (eqd a b) else if lenNe a b then some false else none
  | .ne, a, b => if okB 12 a && okB 12 b then some (!eqd a b) else if lenNe a b then some true else none
  | .lt, .int a, .int b => some (decide (a < b))
  | .le, .int a, .int b => some (decide (a ≤ b))
  | .gt, .int a, .int b => some (decide (b < a))
  | .ge, .int a, .int b => some (decide (b ≤ a))
  | .is, a, .non => some (isNonD a)
  | .isnot, a, .non => some (!isNonD a)
  | .inn, a, .lst b => if flatD a && b.all flatD then some (b.any fun y => eqd y a) else none
  | .inn, a, .tup b => if flatD a && b.all flatD then some (b.any fun y => eqd y a) else none
  | .notin, a, .lst b => if flatD a && b.all flatD then some (!(b.any fun y => eqd y a)) else none
  | .notin, a, .tup b => if flatD a && b.all flatD then some (!(b.any fun y => eqd y a)) else none
  | .gt, .tup xs, .tup ys => tupGt xs ys
  | _, _, _ => none
def ixN' (n : Nat) (i : Int) : Option Nat := ixN n i
def ixD : D → D → Option D
  | .lst xs, .int i => atI xs i
  | .tup xs, .int i => atI xs i
  | .scr ns, .int i => (atI ns i).map D.int
  | .str z, .int i => if z.length ≤ sizeLine then (atI z.cps.toList i).map fun c => .str ⟨#[c]⟩ else none
  | _, _ => none
def cutD (xs : List D) (lo hi : Option Int) : List D := (xs.drop (HT.sIx xs.length 0 lo)).take (HT.sIx xs.length xs.length hi - HT.sIx xs.length 0 lo)
def slcD : D → Option Int → Option Int → Option RV
  | .lst xs, lo, hi => some (.nw (.lst (cutD xs lo hi)))
  | .scr ns, lo, hi => some (.nw (.lst (cutD (ns.map D.int) lo hi)))
  | .tup xs, lo, hi => if HT.sIx xs.length 0 lo = 0 ∧ HT.sIx xs.length xs.length hi = xs.length then none else some (.fz (.tup (cutD xs lo hi)))
  | _, _, _ => none
def shallow : D → Bool
  | .obj _ _ _ => false
  | .scr _ => false
  | _ => true
def isiD : Ty → D → Bool
  | .int, .int _ => true
  | .int, .bl _ => true
  | .bool, .bl _ => true
  | .str, .str _ => true
  | .list, .lst _ => true
  | .tuple, .tup _ => true
  | _, _ => false
/-- the ints of a list of ints -/
def intsD : List D → Option (List Int)
  | [] => some []
  | .int i :: r => (intsD r).map (i :: ·)
  | _ :: _ => none
def blsD : List D → Option (List Bool)
  | [] => some []
  | .bl i :: r => (blsD r).map (i :: ·)
  | _ :: _ => none
def maxI : List Int → Option Int
  | [] => none
  | x :: r => some (r.foldl (fun a b => if a < b then b else a) x)
def minI : List Int → Option Int
  | [] => none
  | x :: r => some (r.foldl (fun a b => if b < a then b else a) x)
/-- pairs of ints -/
def pairsD : List D → Option (List (Int × Int))
  | [] => some []
  | .tup [.int i, .int j] :: r => (pairsD r).map ((i, j) :: ·)
  | _ :: _ => none
def pLe (p q : Int × Int) : Bool := decide (p.1 < q.1 ∨ (p.1 = q.1 ∧ p.2 ≤ q.2))
def pLt (p q : Int × Int) : Bool := decide (p.1 < q.1 ∨ (p.1 = q.1 ∧ p.2 < q.2))
def minP : List (Int × Int) → Option (Int × Int)
  | [] => none
  | p :: ps => some (ps.foldl (fun a y => if pLt y a then y else a) p)
def insP (p : Int × Int) : List (Int × Int) → List (Int × Int)
  | [] => [p]
  | q :: r => if pLe p q then p :: q :: r else q :: insP p r
def sortP : List (Int × Int) → List (Int × Int)
  | [] => []
  | p :: r => insP p (sortP r)
def sortD : D → Option D
  | .lst xs => (pairsD xs).map fun ps => .lst ((sortP ps).map fun p => .tup [.int p.1, .int p.2])
  | _ => none
def biD : Bi → List D → Option RV
  | .len, [.lst xs] => some (.fz (.int xs.length))
  | .len, [.tup xs] => some (.fz (.int xs.length))
  | .len, [.scr ns] => some (.fz (.int ns.length))
  | .len, [.str x] => if x.length ≤ sizeLine then some (.fz (.int x.length)) else none
  | .int1, [.int i] => some (.fz (.int i))
  | .int1, [.bl b] => some (.fz (.int (if b then 1 else 0)))
  | .max2, [.int a, .int b] => some (.fz (.int (if b > a then b else a)))
  | .min2, [.int a, .int b] => some (.fz (.int (if b < a then b else a)))
  | .maxl, [.lst xs] => (intsD xs).bind fun ns => (maxI ns).map fun m => .fz (.int m)
  | .minl, [.lst xs] => (intsD xs).bind fun ns => (minI ns).map fun m => .fz (.int m)
  | .suml, [.lst xs] => (intsD xs).map fun ns => .fz (.int ns.sum)
  | .list, [.lst xs] => some (.nw (.lst xs))
  | .list, [.tup xs] => some (.nw (.lst xs))
  | .tuple, [.lst xs] => some (.fz (.tup xs))
  | .tuple, [.tup xs] => some (.fz (.tup xs))
  | .alll, [.lst xs] => (blsD xs).map fun bs => .fz (.bl (bs.all id))
  | .anyl, [.lst xs] => (blsD xs).map fun bs => .fz (.bl (bs.any id))
  | .isi t, [d] => if shallow d then some (.fz (.bl (isiD t d))) else none
  | .abs, [.int i] => some (.fz (.int (if i < 0 then -i else i)))
  | .sortp, [d] => (sortD d).map .nw
  | .minp, [.lst xs] => (pairsD xs).bind fun ps => (minP ps).map fun p => .fz (.tup [.int p.1, .int p.2])
  | .min2p, [.tup [.int a, .int b], .tup [.int c, .int d]] => some (.fz (if pLt (c, d) (a, b) then .tup [.int c, .int d] else .tup [.int a, .int b]))
  | _, _ => none

/-! ### the language -/
inductive E where
  | stuck
  | var (i : Nat)
  | cst (d : D)
  | bin (op : BOp) (a b : E)
  | neg (a : E)
  | cmp (op : COp) (a b : E)
  | chain (o1 o2 : COp) (a b c : E)
  | and (a b : E)
  | or (a b : E)
  | not (a : E)
  | ite (c a b : E)
  | lst (es : List E)
  | tup (es : List E)
  | ix (a b : E)
  | slc (a : E) (lo hi : List E)
  | call (k : Nat) (es : List E)
  | bi (b : Bi) (es : List E)
  | comp (own : List Nat) (tg : Tg) (ik : IK) (its : List E) (cond : List E) (elt : E)
  | fld (cs : List Nat) (a : E) (nm : Str)
  | meth (c : Nat) (nm : Str) (k : Nat) (o : E) (es : List E)
  | mk (c k : Nat) (es : List E)
  | own (o : OOp) (c k : Nat) (a b : E)
  | lenO (c k : Nat) (a : E)
  | isc (cs : List Nat) (c : Nat) (a : E)
  | callp (k : Nat) (p : List Nat) (es : List E)
  | mkp (c k : Nat) (p : List Nat) (es : List E)
  | chain3 (o1 o2 o3 : COp) (a b c d : E)
  | rev (a : E)
  | dct
  | tne (c k : Nat) (a b : E)
  | rngl (a b : E)
  | mxd (m : Bool) (a d : E)
  | cnt (a x : E)
  | pop (i : Nat)
  | idx (a x : E)
  | shr (a : E)

abbrev FS := Ct → Option (RV × Ct)

def datum (Γ : Ct) : RV → Option D
  | .fz d => some d
  | .nw d => some d
  | .sl i => match Γ[i]? with
    | some (some (d, _)) => some d
    | _ => none
/-- the value becomes a plain one -/
def fre (Γ : Ct) : RV → Option (D × Ct)
  | .fz d => some (d, Γ)
  | .nw d => some (d, Γ)
  | .sl i => match Γ[i]? with
    | some (some (d, true)) => some (d, Γ.set i (some (d, false)))
    | some (some (d, false)) => some (d, Γ)
    | _ => none
def fres : List RV → Ct → Option (List D × Ct)
  | [], Γ => some ([], Γ)
  | x :: xs, Γ => (fre Γ x).bind fun (d, Γ1) => (fres xs Γ1).map fun (ds, Γ2) => (d :: ds, Γ2)
def datums (Γ : Ct) : List RV → Option (List D)
  | [] => some []
  | x :: xs => (datum Γ x).bind fun d => (datums Γ xs).map (d :: ·)
/-- an argument's slot for the callee -/
def argS (Γ : Ct) : RV → Option (D × Bool)
  | .fz d => some (d, false)
  | .nw d => some (d, true)
  | .sl i => match Γ[i]? with
    | some (some p) => some p
    | _ => none
def argSs (Γ : Ct) : List RV → Option (List (D × Bool))
  | [] => some []
  | x :: xs => (argS Γ x).bind fun d => (argSs Γ xs).map (d :: ·)
/-- the slots that are handed over -/
def ownIx (Γ : Ct) : List RV → List Nat
  | [] => []
  | .sl i :: xs => match Γ[i]? with
    | some (some (_, true)) => i :: ownIx Γ xs
    | _ => ownIx Γ xs
  | _ :: xs => ownIx Γ xs
def nodupB : List Nat → Bool
  | [] => true
  | x :: xs => !(xs.contains x) && nodupB xs
/-- what comes back at the slots that were handed over -/
def putOuts (Γ0 : Ct) : List RV → Ct → Ct → Ct
  | .sl i :: xs, o :: os, Γ => match Γ0[i]? with
    | some (some (_, true)) => putOuts Γ0 xs os (Γ.set i o)
    | _ => putOuts Γ0 xs os Γ
  | _ :: xs, _ :: os, Γ => putOuts Γ0 xs os Γ
  | _, _, Γ => Γ

/-- values in the parameters' order -/
def permL {α : Type} (p : List Nat) (xs : List α) : List α := p.filterMap fun i => xs[i]?
def permOk (p : List Nat) (n : Nat) : Bool := nodupB p && p.all fun i => decide (i < n)
/-- a call, by its results -/
def callD (F : FS) (xs : List RV) (Γ : Ct) : Option (RV × Ct) := (argSs Γ xs).bind fun as => if nodupB (ownIx Γ xs) then (F (as.map some)).bind fun (r, os) => match r with
      | .sl _ => none
      | r => some (r, putOuts Γ xs os Γ)
    else none
/-- a new object of class c, by its __init__ -/
def mkD (F : FS) (c : Nat) (xs : List RV) (Γ : Ct) : Option (RV × Ct) := (argSs Γ xs).bind fun as => if nodupB (ownIx Γ xs) then (F (some (.obj c [] [], true) :: as.map some)).bind fun (r, os) => match r, os with
      | .fz .non, some (.obj c' ks ds, true) :: os' => some (.nw (.obj c' ks ds), putOuts Γ xs os' Γ)
      | _, _ => none
    else none
def fldL (nm : Str) : List Str → List D → Option D
  | k :: ks, d :: ds => if nm = k then some d else fldL nm ks ds
  | _, _ => none
def fldD (cs : List Nat) : D → Str → Option D
  | .obj c ks ds, nm => if cs.contains c then fldL nm ks ds else none
  | _, _ => none
def isObj (c : Nat) : D → Bool
  | .obj c' _ _ => c == c'
  | _ => false
/-- isinstance with an own class, among the classes cs -/
def iscD (cs : List Nat) (c : Nat) : D → Option Bool
  | .obj c' _ _ => if cs.contains c' then some (c == c') else none
  | .scr _ => none
  | .dct => none
  | _ => some false
def hasF (nm : Str) : D → Bool
  | .obj _ ks _ => ks.contains nm
  | _ => false
/-- plain data: no objects at the top -/
def plainB : D → Bool
  | .obj _ _ _ => false
  | .scr _ => false
  | .dct => false
  | _ => true
/-- what is asked of the other operand -/
def okO (o : OOp) (c : Nat) (e : D) : Bool := match o with
  | .eq => isObj c e || plainB e
  | .ne => isObj c e || plainB e
  | .add => isObj c e
  | _ => true
/-- what an own operator's answer becomes -/
def postO : OOp → RV → Option RV
  | .eq, .fz (.bl b) => some (.fz (.bl b))
  | .ne, .fz (.bl b) => some (.fz (.bl (!b)))
  | .inn, .fz (.bl b) => some (.fz (.bl b))
  | .notin, .fz (.bl b) => some (.fz (.bl (!b)))
  | .ix, r => some r
  | .add, r => some r
  | _, _ => none
/-- the same operator on plain data -/
def plainO : OOp → D → D → Option RV
  | .eq, d, e => (cmpD .eq d e).map fun b => .fz (.bl b)
  | .ne, d, e => (cmpD .ne d e).map fun b => .fz (.bl b)
  | .inn, d, e => (cmpD .inn d e).map fun b => .fz (.bl b)
  | .notin, d, e => (cmpD .notin d e).map fun b => .fz (.bl b)
  | .ix, d, e => (ixD d e).map .fz
  | .add, d, e => binD .add d e
/-- whose method it is -/
def selfO (o : OOp) (d e : D) : D × D := match o with
  | .inn => (e, d)
  | .notin => (e, d)
  | _ => (d, e)
def asgT : Tg → D → Ct → Option Ct
  | .nm i, d, Γ => if i < Γ.length then some (Γ.set i (some (d, false))) else none
  | .tp ts, .tup ds, Γ => asgTs ts ds Γ
  | _, _, _ => none
where asgTs : List Tg → List D → Ct → Option Ct
  | [], [], Γ => some Γ
  | t :: ts, d :: ds, Γ => (asgT t d Γ).bind fun Γ1 => asgTs ts ds Γ1
  | _, _, _ => none

/-- what is walked -/
def enumD : Nat → List D → List D
  | _, [] => []
  | n, d :: ds => .tup [.int n, d] :: enumD (n + 1) ds
def zipD : List D → List D → List D
  | a :: as, b :: bs => .tup [a, b] :: zipD as bs
  | _, _ => []
def rngD (lo : Int) (c : Int) : Nat → List D
  | 0 => []
  | n + 1 => .int lo :: rngD (lo + c) c n
@[irreducible] def in62 (i : Int) : Bool := decide (i.natAbs.log2 < 62)
def iterD : IK → List RV → Ct → Option (List D × Ct)
  | .seq, [x], Γ => (fre Γ x).bind fun (d, Γ1) => match d with
    | .lst ds => some (ds, Γ1)
    | .tup ds => some (ds, Γ1)
    | _ => none
  | .enum, [x], Γ => (fre Γ x).bind fun (d, Γ1) => match d with
    | .lst ds => some (enumD 0 ds, Γ1)
    | _ => none
  | .zip, [x, y], Γ => (fre Γ x).bind fun (d, Γ1) => (fre Γ1 y).bind fun (e, Γ2) => match d, e with
    | .lst ds, .lst es => some (zipD ds es, Γ2)
    | _, _ => none
  | .rng, xs, Γ => (datums Γ xs).bind fun ds => match ds with
    | [.int b] => if in62 b then some (rngD 0 1 b.toNat, Γ) else none
    | [.int a, .int b] => if in62 a && in62 b then some (rngD a 1 (b - a).toNat, Γ) else none
    | [.int a, .int b, .int c] => if c ≠ 0 ∧ c.natAbs.log2 < 9000 ∧ Builtin.Range.rangeSize a b c = ((Builtin.Range.rangeSize a b c).toNat : Nat) then some (rngD a c (Builtin.Range.rangeSize a b c).toNat, Γ) else none
    | _ => none
  | _, _, _ => none
def wipeG (Γ : Ct) : List Nat → Ct
  | [] => Γ
  | v :: vs => (wipeG Γ vs).set v none
def restG (Γ Γ' : Ct) : List Nat → Ct
  | [] => Γ'
  | v :: vs => (restG Γ Γ' vs).set v (Γ.getD v none)
/-- no owned slot among these -/
def plainIx (Γ : Ct) (vs : List Nat) : Bool := vs.all fun v => match Γ[v]? with
  | some (some (_, true)) => false
  | some _ => true
  | none => false
def testD (Γ : Ct) (x : RV) : Option Bool := (datum Γ x).bind truthD
def compLoop (own : List Nat) (tg : Tg) (ct : Ct → Option (Bool × Ct)) (el : Ct → Option (RV × Ct)) : List D → List D → Ct → Option (List D × Ct)
  | [], acc, Γ => some (acc, Γ)
  | d :: ds, acc, Γ => (asgT tg d Γ).bind fun Γ1 => (ct Γ1).bind fun (b, Γ2) =>
    if b then (el Γ2).bind fun (x, Γ3) => (fre Γ3 x).bind fun (e, Γ4) => if plainIx Γ4 own then compLoop own tg ct el ds (acc ++ [e]) (wipeG Γ4 own) else none
    else if plainIx Γ2 own then compLoop own tg ct el ds acc (wipeG Γ2 own) else none

@[irreducible] def lenOk (n : Int) : Bool := decide (0 ≤ n ∧ n < 1000000000)
theorem lenOk_iff {n : Int} : lenOk n = true ↔ 0 ≤ n ∧ n < 1000000000 := by unfold lenOk; exact decide_eq_true_iff
def slO : List D → Option (Option Int)
  | [] => some none
  | [.int i] => some (some i)
  | _ => none
def rnglD : D → D → Option (List D)
  | .int a, .int b => if in62 a && in62 b && decide ((b - a).toNat ≤ 1000000) then some (rngD a 1 (b - a).toNat) else none
  | _, _ => none
def tupOf : D → Option (List D)
  | .tup xs => some xs
  | _ => none
def trueR : Option (RV × Ct) → Bool
  | some (.fz (.bl true), _) => true
  | _ => false
/-- objects of class c, equal one by one by their own == -/
def tneD (F : FS) (c : Nat) : List D → List D → Bool
  | [], [] => true
  | x :: xs, y :: ys => isObj c x && isObj c y && trueR (F [some (x, false), some (y, false)]) && tneD F c xs ys
  | _, _ => false
def revD : D → Option D
  | .lst xs => some (.lst xs.reverse)
  | _ => none
/-- max(xs, default=d), min(xs, default=d) -/
def mxdD (m : Bool) : D → D → Option D
  | .lst xs, d => (intsD xs).bind fun ns => match (if m then maxI ns else minI ns) with
    | some i => some (.int i)
    | none => if flatD d then some d else none
  | _, _ => none
def cntD : D → D → Option D
  | .lst xs, d => if flatD d && xs.all flatD then some (.int ((xs.filter fun y => eqd y d).length : Int)) else none
  | _, _ => none
def isLD : D → Bool
  | .lst _ => true
  | _ => false
def idxD : D → D → Option D
  | .lst xs, d => if flatD d && xs.all flatD then (xs.findIdx? fun y => eqd y d).map fun j => .int (j : Nat) else none
  | _, _ => none
def popD (Γ : Ct) (i : Nat) : Option (D × D) := match Γ[i]? with
  | some (some (.lst xs, true)) => match xs.getLast? with
    | some d => some (d, .lst xs.dropLast)
    | none => none
  | _ => none
mutual
def ev (fs : List FS) : E → Ct → Option (RV × Ct)
  | .stuck, _ => none
  | .var i, Γ => match Γ[i]? with
    | some (some _) => some (.sl i, Γ)
    | _ => none
  | .cst d, Γ => some (.fz d, Γ)
  | .bin op a b, Γ => (ev fs a Γ).bind fun (x, Γ1) => (ev fs b Γ1).bind fun (y, Γ2) => (datum Γ2 x).bind fun d => (datum Γ2 y).bind fun e => (binD op d e).map fun r => (r, Γ2)
  | .neg a, Γ => (ev fs a Γ).bind fun (x, Γ1) => (datum Γ1 x).bind fun d => match d with
    | .int i => some (.fz (.int (-i)), Γ1)
    | _ => none
  | .cmp op a b, Γ => (ev fs a Γ).bind fun (x, Γ1) => (ev fs b Γ1).bind fun (y, Γ2) => (datum Γ2 x).bind fun d => (datum Γ2 y).bind fun e => (cmpD op d e).map fun r => (.fz (.bl r), Γ2)
  | .chain o1 o2 a b c, Γ => (ev fs a Γ).bind fun (x, Γ1) => (ev fs b Γ1).bind fun (y, Γ2) => (datum Γ2 x).bind fun d => (datum Γ2 y).bind fun e => (cmpD o1 d e).bind fun r =>
      if r then (ev fs c Γ2).bind fun (z, Γ3) => (datum Γ3 y).bind fun e => (datum Γ3 z).bind fun f => (cmpD o2 e f).map fun r => (.fz (.bl r), Γ3)
      else some (.fz (.bl false), Γ2)
  | .and a b, Γ => (ev fs a Γ).bind fun (x, Γ1) => (testD Γ1 x).bind fun t => if t then ev fs b Γ1 else some (x, Γ1)
  | .or a b, Γ => (ev fs a Γ).bind fun (x, Γ1) => (testD Γ1 x).bind fun t => if t then some (x, Γ1) else ev fs b Γ1
  | .not a, Γ => (ev fs a Γ).bind fun (x, Γ1) => (testD Γ1 x).map fun t => (.fz (.bl (!t)), Γ1)
  | .ite c a b, Γ => (ev fs c Γ).bind fun (x, Γ1) => (testD Γ1 x).bind fun t => if t then ev fs a Γ1 else ev fs b Γ1
  | .lst es, Γ => (evs fs es Γ).bind fun (xs, Γ1) => (fres xs Γ1).bind fun (ds, Γ2) => if ds.length ≤ sizeLine then some (.nw (.lst ds), Γ2) else none
  | .tup es, Γ => (evs fs es Γ).bind fun (xs, Γ1) => (fres xs Γ1).bind fun (ds, Γ2) => if ds.length ≤ sizeLine then some (.fz (.tup ds), Γ2) else none
  | .ix a b, Γ => (ev fs a Γ).bind fun (x, Γ1) => (ev fs b Γ1).bind fun (y, Γ2) => (datum Γ2 x).bind fun d => (datum Γ2 y).bind fun e => (ixD d e).map fun r => (.fz r, Γ2)
  | .slc a lo hi, Γ => (ev fs a Γ).bind fun (x, Γ1) => (evs fs lo Γ1).bind fun (ys, Γ2) => (datums Γ2 ys).bind fun l => (evs fs hi Γ2).bind fun (zs, Γ3) => (datum Γ3 x).bind fun d => (datums Γ3 zs).bind fun h =>
      (slO l).bind fun lo' => (slO h).bind fun hi' => (slcD d lo' hi').map fun r => (r, Γ3)
  | .call k es, Γ => (evs fs es Γ).bind fun (xs, Γ1) => (fs[k]?).bind fun F => (argSs Γ1 xs).bind fun as => if nodupB (ownIx Γ1 xs) then (F (as.map some)).bind fun (r, os) => match r with
      | .sl _ => none
      | r => some (r, putOuts Γ1 xs os Γ1)
    else none
  | .bi b es, Γ => (evs fs es Γ).bind fun (xs, Γ1) => (datums Γ1 xs).bind fun ds => (biD b ds).map fun r => (r, Γ1)
  | .comp own tg ik its cond elt, Γ => (evs fs its Γ).bind fun (xs, Γ1) => (iterD ik xs Γ1).bind fun (ds, Γ2) =>
      if plainIx Γ2 own && decide (ds.length ≤ sizeLine) && (tgIx tg).all (fun i => own.contains i) then
        (compLoop own tg (evc fs cond) (ev fs elt) ds [] (wipeG Γ2 own)).map fun (acc, Γ3) => (.nw (.lst acc), restG Γ2 Γ3 own)
      else none
  | .fld cs a nm, Γ => (ev fs a Γ).bind fun (x, Γ1) => (datum Γ1 x).bind fun d => (fldD cs d nm).map fun r => (.fz r, Γ1)
  | .meth c nm k o es, Γ => (ev fs o Γ).bind fun (x, Γ0) => (fre Γ0 x).bind fun (d, Γ1) => if isObj c d && !(hasF nm d) then (evs fs es Γ1).bind fun (ys, Γ2) => (fs[k]?).bind fun F => callD F (.fz d :: ys) Γ2 else none
  | .mk c k es, Γ => (evs fs es Γ).bind fun (ys, Γ1) => (fs[k]?).bind fun F => mkD F c ys Γ1
  | .own o c k a b, Γ => (ev fs a Γ).bind fun (x, Γ1) => (ev fs b Γ1).bind fun (y, Γ2) => (datum Γ2 x).bind fun d => (datum Γ2 y).bind fun e =>
      if isObj c (selfO o d e).1 then (fre Γ2 x).bind fun (d', Γ3) => (fre Γ3 y).bind fun (e', Γ4) => if isObj c (selfO o d' e').1 && okO o c (selfO o d' e').2 then (fs[k]?).bind fun F => (callD F [.fz (selfO o d' e').1, .fz (selfO o d' e').2] Γ4).bind fun (r, Γ5) => (postO o r).map fun r' => (r', Γ5) else none
      else (plainO o d e).map fun r => (r, Γ2)
  | .lenO c k a, Γ => (ev fs a Γ).bind fun (x, Γ1) => (datum Γ1 x).bind fun d =>
      if isObj c d then (fre Γ1 x).bind fun (_, Γ2) => (fs[k]?).bind fun F => (callD F [.fz d] Γ2).bind fun (r, Γ3) => match r with
        | .fz (.int n) => if lenOk n then some (.fz (.int n), Γ3) else none
        | _ => none
      else (biD .len [d]).map fun r => (r, Γ1)
  | .isc cs c a, Γ => (ev fs a Γ).bind fun (x, Γ1) => (datum Γ1 x).bind fun d => (iscD cs c d).map fun b => (.fz (.bl b), Γ1)
  | .callp k p es, Γ => (evs fs es Γ).bind fun (xs, Γ1) => (fs[k]?).bind fun F => if permOk p xs.length then callD F (permL p xs) Γ1 else none
  | .mkp c k p es, Γ => (evs fs es Γ).bind fun (xs, Γ1) => (fs[k]?).bind fun F => if permOk p xs.length then mkD F c (permL p xs) Γ1 else none
  | .chain3 o1 o2 o3 a b c d, Γ => (ev fs a Γ).bind fun (x, Γ1) => (ev fs b Γ1).bind fun (y, Γ2) => (datum Γ2 x).bind fun dx => (datum Γ2 y).bind fun dy => (cmpD o1 dx dy).bind fun r =>
      if r then (ev fs c Γ2).bind fun (z, Γ3) => (datum Γ3 y).bind fun dy => (datum Γ3 z).bind fun dz => (cmpD o2 dy dz).bind fun r =>
        if r then (ev fs d Γ3).bind fun (u, Γ4) => (datum Γ4 z).bind fun dz => (datum Γ4 u).bind fun du => (cmpD o3 dz du).map fun r => (.fz (.bl r), Γ4)
        else some (.fz (.bl false), Γ3)
      else some (.fz (.bl false), Γ2)
  | .rev a, Γ => (ev fs a Γ).bind fun (x, Γ1) => (datum Γ1 x).bind fun d => (revD d).map fun r => (.nw r, Γ1)
  | .dct, Γ => some (.fz .dct, Γ)
  | .tne c k a b, Γ => (ev fs a Γ).bind fun (x, Γ1) => (ev fs b Γ1).bind fun (y, Γ2) => (datum Γ2 x).bind fun d => (datum Γ2 y).bind fun e => (tupOf d).bind fun ds => (tupOf e).bind fun es => (fs[k]?).bind fun F => if tneD F c ds es then some (.fz (.bl false), Γ2) else none
  | .rngl a b, Γ => (ev fs a Γ).bind fun (x, Γ1) => (ev fs b Γ1).bind fun (y, Γ2) => (datum Γ2 x).bind fun d => (datum Γ2 y).bind fun e => (rnglD d e).map fun ds => (.nw (.lst ds), Γ2)
  | .mxd m a d, Γ => (ev fs a Γ).bind fun (x, Γ1) => (ev fs d Γ1).bind fun (y, Γ2) => (datum Γ2 x).bind fun dx => (datum Γ2 y).bind fun dy => (mxdD m dx dy).map fun r => (.fz r, Γ2)
  | .cnt a b, Γ => (ev fs a Γ).bind fun (x, Γ1) => (datum Γ1 x).bind fun d0 => if isLD d0 then (ev fs b Γ1).bind fun (y, Γ2) => (datum Γ2 x).bind fun dx => (datum Γ2 y).bind fun dy => (cntD dx dy).map fun r => (.fz r, Γ2) else none
  | .pop i, Γ => (popD Γ i).map fun (d, c) => (.fz d, Γ.set i (some (c, true)))
  | .idx a b, Γ => (ev fs a Γ).bind fun (x, Γ1) => (datum Γ1 x).bind fun d0 => if isLD d0 then (ev fs b Γ1).bind fun (y, Γ2) => (datum Γ2 x).bind fun dx => (datum Γ2 y).bind fun dy => (idxD dx dy).map fun r => (.fz r, Γ2) else none
  | .shr a, Γ => (ev fs a Γ).bind fun (x, Γ1) => (fre Γ1 x).map fun (d, Γ2) => (.fz d, Γ2)
def evs (fs : List FS) : List E → Ct → Option (List RV × Ct)
  | [], Γ => some ([], Γ)
  | e :: es, Γ => (ev fs e Γ).bind fun (x, Γ1) => (evs fs es Γ1).map fun (xs, Γ2) => (x :: xs, Γ2)
def evc (fs : List FS) : List E → Ct → Option (Bool × Ct)
  | [], Γ => some (true, Γ)
  | [e], Γ => (ev fs e Γ).bind fun (x, Γ1) => (testD Γ1 x).map fun t => (t, Γ1)
  | _, _ => none
end

/-! ### statements -/
inductive S where
  | stuck | pass | brk | cont | retN
  | asg (tg : Tg) (e : E)
  | asgO (i : Nat) (e : E)
  | par (is : List (Nat × Bool)) (es : List E)
  | expr (e : E)
  | app (i : Nat) (e : E)
  | ext (i : Nat) (e : E)
  | seti (i : Nat) (k e : E)
  | ret (e : E)
  | ite (c : E) (a b : List S)
  | whl (c : E) (b : List S)
  | for_ (tg : Tg) (ik : IK) (its : List E) (b : List S)
  | setf (c : Nat) (i : Nat) (nm : Str) (e : E)
  | xapp (a : E) (d : D)
  | grow (c i : Nat) (nm : Str) (e0 : E) (tg : Tg) (e1 e2 : E) (k : Nat) (es : List E)
inductive Out where
  | nx (Γ : Ct) | rt (r : RV) (Γ : Ct) | bk (Γ : Ct) | ct (Γ : Ct)

def disjB (xs ys : List Nat) : Bool := xs.all fun x => !(ys.contains x)
def forLoop (tg : Tg) (body : Ct → Option Out) : List D → Ct → Option Out
  | [], Γ => some (.nx Γ)
  | d :: ds, Γ => (asgT tg d Γ).bind fun Γ1 => (body Γ1).bind fun o => match o with
    | .nx Γ2 => forLoop tg body ds Γ2
    | .ct Γ2 => forLoop tg body ds Γ2
    | .bk Γ2 => some (.nx Γ2)
    | .rt r Γ2 => some (.rt r Γ2)
def whlLoop (c : Ct → Option (Bool × Ct)) (body : Ct → Option Out) : Nat → Ct → Option Out
  | 0, _ => none
  | n + 1, Γ => (c Γ).bind fun (b, Γ1) => if b then (body Γ1).bind fun o => match o with
    | .nx Γ2 => whlLoop c body n Γ2
    | .ct Γ2 => whlLoop c body n Γ2
    | .bk Γ2 => some (.nx Γ2)
    | .rt r Γ2 => some (.rt r Γ2)
   else some (.nx Γ1)
def fuel : Nat := 1000000000
/-- the values of a parallel assignment, one after another: plain ones, but for new ones that are to be owned; then they are stored -/
def evn (fs : List FS) : List (Nat × Bool) → List E → Ct → Option (List RV × Ct)
  | [], [], Γ => some ([], Γ)
  | (i, b) :: is, e :: es, Γ => (ev fs e Γ).bind fun (x, Γ1) => match b, x with
    | true, .nw d => (evn fs is es Γ1).map fun (ys, Γ2) => (.nw d :: ys, Γ2)
    | _, x => (fre Γ1 x).bind fun (d, Γ2) => (evn fs is es Γ2).map fun (ys, Γ3) => (.fz d :: ys, Γ3)
  | _, _, _ => none
def parS : List (Nat × Bool) → List RV → Ct → Option Ct
  | [], [], Γ => some Γ
  | (i, _) :: is, .nw d :: xs, Γ => if i < Γ.length then parS is xs (Γ.set i (some (d, true))) else none
  | (i, _) :: is, .fz d :: xs, Γ => if i < Γ.length then parS is xs (Γ.set i (some (d, false))) else none
  | _, _, _ => none
def isLst (Γ : Ct) (i : Nat) : Bool := match Γ[i]? with
  | some (some (.lst _, _)) => true
  | _ => false
def appD : D → D → Option D
  | .lst xs, d => if xs.length < sizeLine then some (.lst (xs ++ [d])) else none
  | _, _ => none
def extD : D → D → Option D
  | .lst xs, .lst ys => if xs.length + ys.length ≤ sizeLine then some (.lst (xs ++ ys)) else none
  | _, _ => none
def setD : D → D → D → Option D
  | .lst xs, .int k, d => (ixN xs.length k).map fun j => .lst (xs.set j d)
  | _, _, _ => none
def putL (nm : Str) (d : D) : List Str → List D → List Str × List D
  | k :: ks, x :: xs => if k = nm then (k :: ks, d :: xs) else let r := putL nm d ks xs; (k :: r.1, x :: r.2)
  | _, _ => ([nm], [d])
def putD (c0 : Nat) : D → Str → D → Option D
  | .obj c ks ds, nm, d => if c = c0 ∧ ks.length < 1000 ∧ ks.length = ds.length then some (.obj c (putL nm d ks ds).1 (putL nm d ks ds).2) else none
  | _, _, _ => none
/-- a list in a field grows: its last item goes to a call, whose answer is appended -/
def growLoop (tg : Tg) (F : FS) (el : Ct → Option (List RV × Ct)) : List D → List D → Ct → Option (List D × Ct)
  | [], L, Γ => some (L, Γ)
  | d :: rest, L, Γ => (asgT tg d Γ).bind fun Γ1 => (L.getLast?).bind fun l => (el Γ1).bind fun (ys, Γ2) => (callD F (.fz l :: ys) Γ2).bind fun (r, Γ3) => (fre Γ3 r).bind fun (y, Γ4) => if L.length < sizeLine then growLoop tg F el rest (L ++ [y]) Γ4 else none
mutual
def ex (fs : List FS) (pn : List Nat) : S → Ct → Option Out
  | .stuck, _ => none
  | .pass, Γ => some (.nx Γ)
  | .brk, Γ => some (.bk Γ)
  | .cont, Γ => some (.ct Γ)
  | .retN, Γ => some (.rt (.fz .non) Γ)
  | .asg tg e, Γ => (ev fs e Γ).bind fun (x, Γ1) => (fre Γ1 x).bind fun (d, Γ2) => if disjB (tgIx tg) pn then (asgT tg d Γ2).map .nx else none
  | .asgO i e, Γ => (ev fs e Γ).bind fun (x, Γ1) => match x with
    | .nw d => if i < Γ1.length ∧ disjB [i] pn = true then some (.nx (Γ1.set i (some (d, true)))) else none
    | x => (fre Γ1 x).bind fun (d, Γ2) => if i < Γ2.length ∧ disjB [i] pn = true then some (.nx (Γ2.set i (some (d, false)))) else none
  | .par is es, Γ => if disjB (is.map (·.1)) pn then (evn fs is es Γ).bind fun (ys, Γ2) => (parS is ys Γ2).map .nx else none
  | .expr e, Γ => (ev fs e Γ).map fun (_, Γ1) => .nx Γ1
  | .app i e, Γ => if isLst Γ i then (ev fs e Γ).bind fun (x, Γ1) => (fre Γ1 x).bind fun (d, Γ2) => match Γ2[i]? with
    | some (some (c, true)) => (appD c d).map fun c' => .nx (Γ2.set i (some (c', true)))
    | _ => none
   else none
  | .ext i e, Γ => if isLst Γ i then (ev fs e Γ).bind fun (x, Γ1) => (datum Γ1 x).bind fun d => match Γ1[i]? with
    | some (some (c, true)) => (extD c d).map fun c' => .nx (Γ1.set i (some (c', true)))
    | _ => none
   else none
  | .seti i k e, Γ => (ev fs e Γ).bind fun (x, Γ1) => (fre Γ1 x).bind fun (d, Γ2) => if isLst Γ2 i then (ev fs k Γ2).bind fun (y, Γ3) => (datum Γ3 y).bind fun kd => match Γ3[i]? with
    | some (some (c, true)) => (setD c kd d).map fun c' => .nx (Γ3.set i (some (c', true)))
    | _ => none
   else none
  | .ret e, Γ => (ev fs e Γ).map fun (x, Γ1) => .rt x Γ1
  | .ite c a b, Γ => (ev fs c Γ).bind fun (x, Γ1) => (testD Γ1 x).bind fun t => if t then exs fs pn a Γ1 else exs fs pn b Γ1
  | .whl c b, Γ => whlLoop (fun Γ => (ev fs c Γ).bind fun (x, Γ1) => (testD Γ1 x).map fun t => (t, Γ1)) (exs fs pn b) fuel Γ
  | .for_ tg ik its b, Γ => (evs fs its Γ).bind fun (xs, Γ1) => (iterD ik xs Γ1).bind fun (ds, Γ2) => if disjB (tgIx tg) pn then forLoop tg (exs fs pn b) ds Γ2 else none
  | .setf c0 i nm e, Γ => (ev fs e Γ).bind fun (x, Γ1) => (fre Γ1 x).bind fun (d, Γ2) => match Γ2[i]? with
    | some (some (c, true)) => (putD c0 c nm d).map fun c' => .nx (Γ2.set i (some (c', true)))
    | _ => none
  | .xapp a d, Γ => (ev fs a Γ).bind fun (x, Γ1) => match x with
    | .nw (.lst xs) => if xs.length < sizeLine ∧ flatD d = true then some (.nx Γ1) else none
    | _ => none
  | .grow c i nm e0 tg e1 e2 k es, Γ => (ev fs e0 Γ).bind fun (x, Γ1) => match x, Γ1[i]? with
    | .nw (.lst L0), some (some (.obj c1 ks ds, true)) =>
      if c1 = c ∧ ks.length < 900 ∧ ks.length = ds.length ∧ ks.contains nm = false ∧ disjB (tgIx tg) (i :: pn) = true then
        (evs fs [e1, e2] (Γ1.set i none)).bind fun (xs, Γ2) => (iterD .zip xs Γ2).bind fun (zs, Γ3) => (fs[k]?).bind fun F =>
          (growLoop tg F (evs fs es) zs L0 Γ3).map fun (L, Γ4) => .nx (Γ4.set i (some (.obj c (ks ++ [nm]) (ds ++ [.lst L]), true)))
      else none
    | _, _ => none
def exs (fs : List FS) (pn : List Nat) : List S → Ct → Option Out
  | [], Γ => some (.nx Γ)
  | s :: ss, Γ => (ex fs pn s Γ).bind fun o => match o with
    | .nx Γ1 => exs fs pn ss Γ1
    | o => some o
end
/-- the slots of the arguments that are handed over -/
def ownPs : Nat → Ct → List Nat
  | _, [] => []
  | n, some (_, true) :: r => n :: ownPs (n + 1) r
  | n, _ :: r => ownPs (n + 1) r
/-- what comes back at the arguments -/
def outsOf : Ct → Ct → Ct
  | some (_, true) :: r, x :: xs => x :: outsOf r xs
  | y :: r, _ :: xs => y :: outsOf r xs
  | _, _ => []
def finish (np : Nat) (G0 : Ct) : Out → Option (RV × Ct)
  | .nx Γ => some (.fz .non, outsOf G0 Γ)
  | .rt (.fz d) Γ => some (.fz d, outsOf G0 Γ)
  | .rt (.nw d) Γ => some (.nw d, outsOf G0 Γ)
  | .rt (.sl i) Γ => match Γ[i]? with
    | some (some (d, true)) => if i < np then some (.fz d, outsOf G0 (Γ.set i (some (d, false)))) else some (.nw d, outsOf G0 Γ)
    | some (some (d, false)) => some (.fz d, outsOf G0 Γ)
    | _ => none
  | _ => none
/-- a def: np parameters, n slots -/
def runF (fs : List FS) (np n : Nat) (body : List S) : FS := fun G0 =>
  if G0.length = np then (exs fs (ownPs 0 G0) body (G0 ++ List.replicate (n - np) none)).bind (finish np G0) else none
end DV

namespace DV
open PySem L2

/-! ### results -/
def Val (g : Gx) (Bn : Addr → Prop) (Ow : List Addr) (H : Hp) (σ : St) (Γ : Ct) : RV → V → Prop
  | .fz d, v => Rep g (Av Bn Ow) H d v
  | .nw d, v => ∃ a, v = .ref a ∧ a ∈ Ow ∧ OwnA g (Av Bn Ow) H d a ∧ ∀ (i : Nat) e, Γ[i]? = some (some (e, true)) → σ[i]? ≠ some (some (.ref a))
  | .sl i, v => σ[i]? = some (some v)
def RV.dn : RV → RV
  | .nw d => .fz d
  | r => r
theorem datum_dn (Γ : Ct) (r : RV) : datum Γ r.dn = datum Γ r := by cases r <;> rfl
theorem fre_dn (Γ : Ct) (r : RV) : fre Γ r.dn = fre Γ r := by cases r <;> rfl
/-- a value that can be read: its top may be owned -/
def Rdb (g : Gx) (A : Addr → Prop) (H : Hp) (d : D) (v : V) : Prop :=
  match d with
  | .lst ds => ∃ a vs, v = .ref a ∧ H a = some (.lst vs) ∧ Reps g A H ds vs
  | .obj c ks ds => ∃ a dx vs, v = .ref a ∧ ks.length = vs.length ∧ H a = some (.ins (g.cl c) dx (ks.zip vs)) ∧ Reps g A H ds vs
  | d => Rep g A H d v
section
variable {g : Gx} {Bn : Addr → Prop} {Ow Ow' : List Addr} {H H' : Hp} {σ : St} {Γ Γ' : Ct} {A : Addr → Prop}
theorem Rep.rdb {d : D} {v : V} (h : Rep g A H d v) : Rdb g A H d v := by
  cases d with
  | lst ds => simp only [Rep] at h; obtain ⟨a, vs, e, _, s, r⟩ := h; exact ⟨a, vs, e, s, r⟩
  | obj c ks ds => simp only [Rep] at h; obtain ⟨a, dx, vs, e, _, l, s, r⟩ := h; exact ⟨a, dx, vs, e, l, s, r⟩
  | _ => exact h
theorem OwnA.rdb {d : D} {a : Addr} (h : OwnA g A H d a) : Rdb g A H d (.ref a) := by
  cases d with
  | lst ds => obtain ⟨vs, e, r⟩ := h; exact ⟨a, vs, rfl, e, r⟩
  | obj c ks ds => obtain ⟨dx, vs, l, e, r⟩ := h; exact ⟨a, dx, vs, rfl, l, e, r⟩
  | _ => exact h.elim
theorem Rdb.same {d : D} {v : V} (h : Rdb g A H d v) (s : Same H H') : Rdb g A H' d v := by
  cases d with
  | lst ds => obtain ⟨a, vs, e, s1, r⟩ := h; exact ⟨a, vs, e, s _ _ s1, r.same s⟩
  | obj c ks ds => obtain ⟨a, dx, vs, e, l, s1, r⟩ := h; exact ⟨a, dx, vs, e, l, s _ _ s1, r.same s⟩
  | _ => exact Rep.same h s
theorem ct_get {i : Nat} {p : D × Bool} (h : Γ[i]? = some (some p)) : p = (p.1, p.2) := rfl
theorem Val.rdb {r : RV} {v : V} {d : D} (rs : RS g Bn Ow H σ Γ) (h : Val g Bn Ow H σ Γ r v) (e : datum Γ r = some d) : Rdb g (Av Bn Ow) H d v := by
  cases r with
  | fz x => simp only [datum, Option.some.injEq] at e; subst e; exact Rep.rdb h
  | nw x => simp only [datum, Option.some.injEq] at e; subst e; obtain ⟨a, rfl, _, o, _⟩ := h; exact o.rdb
  | sl i =>
    simp only [datum] at e
    have h : σ[i]? = some (some v) := h
    split at e
    · rename_i x b q
      cases e
      cases b with
      | false => obtain ⟨w, e1, r1⟩ := rs.slot i _ q; rw [h] at e1; cases e1; exact r1.rdb
      | true => obtain ⟨a, e1, _, o⟩ := rs.own i _ q; rw [h] at e1; cases e1; exact o.rdb
    · cases e
/-- pending values over a step -/
theorem Val.step {r : RV} {v : V} (h : Val g Bn Ow H σ Γ r.dn v) (s : Stp Ow H Ow' H') (rs : RS g Bn Ow' H' σ Γ') : Val g Bn Ow' H' σ Γ' r.dn v := by
  cases r with
  | fz x => exact Rep.step h s rs
  | nw x => exact Rep.step h s rs
  | sl i => exact h
/-- fewer owned -/
theorem RS.less (rs : RS g Bn Ow H σ Γ) (k : ∀ a, a ∈ Ow' → a ∈ Ow) (ks : ∀ (i : Nat) d a, Γ[i]? = some (some (d, true)) → σ[i]? = some (some (.ref a)) → a ∈ Ow → a ∈ Ow') : RS g Bn Ow' H σ Γ := by
  have kk : ∀ a, Av Bn Ow' a → Av Bn Ow a := fun a h => h.elim .inl fun z => .inr (k a z)
  refine ⟨rs.len, fun i d h => ?_, fun i d h => ?_, rs.dist, fun a h => rs.trk a (kk a h), fun a h z => rs.sep a h (k a z), fun a h => rs.kf a (kk a h)⟩
  · obtain ⟨v, e, r⟩ := rs.slot i d h; exact ⟨v, e, rep_less kk r⟩
  · obtain ⟨a, e, m, r⟩ := rs.own i d h; exact ⟨a, e, ks i d a h e m, own_less kk r⟩
theorem stp_less (k : ∀ a, a ∈ Ow' → a ∈ Ow) : Stp Ow H Ow' H := ⟨fun _ _ h _ => h, fun a h => .inl (k a h), fun _ h => h⟩
theorem mem_ne {a b : Addr} (h : a ∈ Ow.filter (fun x => decide (x ≠ b))) : a ∈ Ow ∧ a ≠ b := by
  have := List.mem_filter.mp h
  exact ⟨this.1, of_decide_eq_true this.2⟩
theorem ne_mem {a b : Addr} (h : a ∈ Ow) (n : a ≠ b) : a ∈ Ow.filter (fun x => decide (x ≠ b)) := List.mem_filter.mpr ⟨h, decide_eq_true n⟩
/-- a value becomes a plain one -/
theorem fre_ok {r : RV} {v : V} {d : D} (rs : RS g Bn Ow H σ Γ) (h : Val g Bn Ow H σ Γ r v) (e : fre Γ r = some (d, Γ')) : ∃ Ow', Stp Ow H Ow' H ∧ RS g Bn Ow' H σ Γ' ∧ Rep g (Av Bn Ow') H d v := by
  cases r with
  | fz x => simp only [fre, Option.some.injEq, Prod.mk.injEq] at e; obtain ⟨rfl, rfl⟩ := e; exact ⟨Ow, .refl _ _, rs, h⟩
  | nw x =>
    simp only [fre, Option.some.injEq, Prod.mk.injEq] at e; obtain ⟨rfl, rfl⟩ := e
    obtain ⟨a, rfl, m, o, no⟩ := h
    have kk : ∀ b, b ∈ Ow.filter (fun x => decide (x ≠ a)) → b ∈ Ow := fun b z => (mem_ne z).1
    refine ⟨Ow.filter (fun x => decide (x ≠ a)), stp_less kk, rs.less kk (fun i d b q1 q2 q3 => ne_mem q3 fun z => ?_), (own_less (fun b z => z.elim .inl fun z => .inr (kk b z)) o).rep fun z => ?_⟩
    · subst z; exact no i d q1 q2
    · rcases z with z | z
      · exact rs.sep a z m
      · exact (mem_ne z).2 rfl
  | sl i =>
    simp only [fre] at e
    have h : σ[i]? = some (some v) := h
    split at e
    · rename_i x q
      simp only [Option.some.injEq, Prod.mk.injEq] at e; obtain ⟨rfl, rfl⟩ := e
      obtain ⟨a, e1, m, o⟩ := rs.own i _ q
      rw [h] at e1; cases e1
      have kk : ∀ b, b ∈ Ow.filter (fun x => decide (x ≠ a)) → b ∈ Ow := fun b z => (mem_ne z).1
      have ka : ∀ b, Av Bn (Ow.filter (fun x => decide (x ≠ a))) b → Av Bn Ow b := fun b z => z.elim .inl fun z => .inr (kk b z)
      have hil : i < Γ.length := (List.getElem?_eq_some_iff.mp q).1
      have rp : Rep g (Av Bn (Ow.filter (fun x => decide (x ≠ a)))) H x (.ref a) := (own_less ka o).rep fun z => by
        rcases z with z | z
        · exact rs.sep a z m
        · exact (mem_ne z).2 rfl
      refine ⟨Ow.filter (fun x => decide (x ≠ a)), stp_less kk, ⟨by rw [List.length_set]; exact rs.len, fun j d' h' => ?_, fun j d' h' => ?_, fun j k d1 d2 b h1 h2 h3 h4 => ?_, fun b z => rs.trk b (ka b z), fun b z w => rs.sep b z (kk b w), fun b z => rs.kf b (ka b z)⟩, rp⟩
      · by_cases hj : i = j
        · subst hj
          rw [List.getElem?_set_self hil] at h'
          cases h'
          exact ⟨_, h, rp⟩
        · rw [List.getElem?_set_ne hj] at h'
          obtain ⟨w, e2, r2⟩ := rs.slot j d' h'
          exact ⟨w, e2, rep_less ka r2⟩
      · by_cases hj : i = j
        · subst hj
          rw [List.getElem?_set_self hil] at h'
          cases h'
        · rw [List.getElem?_set_ne hj] at h'
          obtain ⟨b, e2, m2, r2⟩ := rs.own j d' h'
          exact ⟨b, e2, ne_mem m2 fun z => hj (by subst z; exact rs.dist i j _ _ _ q h' h e2), own_less ka r2⟩
      · have ne1 : i ≠ j := fun z => by subst z; rw [List.getElem?_set_self hil] at h1; cases h1
        have ne2 : i ≠ k := fun z => by subst z; rw [List.getElem?_set_self hil] at h2; cases h2
        rw [List.getElem?_set_ne ne1] at h1
        rw [List.getElem?_set_ne ne2] at h2
        exact rs.dist j k _ _ _ h1 h2 h3 h4
    · rename_i x q
      simp only [Option.some.injEq, Prod.mk.injEq] at e; obtain ⟨rfl, rfl⟩ := e
      obtain ⟨w, e1, r1⟩ := rs.slot i _ q
      rw [h] at e1; cases e1
      exact ⟨Ow, .refl _ _, rs, r1⟩
    · cases e
theorem dn_ok {r : RV} {v : V} (rs : RS g Bn Ow H σ Γ) (h : Val g Bn Ow H σ Γ r v) : ∃ Ow', Stp Ow H Ow' H ∧ RS g Bn Ow' H σ Γ ∧ Val g Bn Ow' H σ Γ r.dn v := by
  cases r with
  | fz x => exact ⟨Ow, .refl _ _, rs, h⟩
  | sl i => exact ⟨Ow, .refl _ _, rs, h⟩
  | nw x => exact fre_ok rs h rfl
/-- a new object is laid, and owned -/
theorem RS.add {p : Addr} (rs : RS g Bn Ow H σ Γ) (s : Same H H') (np : H p = none) (hp : H' p ≠ none) (hk : g.K.lookup p = none) : RS g Bn (p :: Ow) H' σ Γ := by
  have vs : ∀ a, Vst g (Av Bn Ow) H a → (∀ o, H a = some o → H' a = some o) ∧ ¬ Av Bn (p :: Ow) a := fun a ⟨n, t⟩ => by
    refine ⟨fun o h => s a o h, fun z => ?_⟩
    rcases z with z | z
    · exact n (.inl z)
    · rcases List.mem_cons.mp z with z | z
      · subst z
        rcases t with ⟨o, t⟩ | ⟨o, t⟩
        · rw [np] at t; cases t
        · rw [hk] at t; cases t
      · exact n (.inr z)
  refine ⟨rs.len, fun i d h => ?_, fun i d h => ?_, rs.dist, fun a h => ?_, fun a h z => ?_, fun a h => ?_⟩
  · obtain ⟨v, e, r⟩ := rs.slot i d h; exact ⟨v, e, rep_mono vs d v r⟩
  · obtain ⟨a, e, m, r⟩ := rs.own i d h
    refine ⟨a, e, List.mem_cons_of_mem _ m, ?_⟩
    cases d with
    | lst ds => obtain ⟨ws, e1, r1⟩ := r; exact ⟨ws, s _ _ e1, reps_mono vs _ _ r1⟩
    | obj c ks ds => obtain ⟨dx, ws, l, e1, r1⟩ := r; exact ⟨dx, ws, l, s _ _ e1, reps_mono vs _ _ r1⟩
    | _ => exact r
  · rcases h with h | h
    · have := rs.trk a (.inl h)
      cases e : H a with
      | none => exact absurd e this
      | some o => rw [s a o e]; simp
    · rcases List.mem_cons.mp h with h | h
      · subst h; exact hp
      · have := rs.trk a (.inr h)
        cases e : H a with
        | none => exact absurd e this
        | some o => rw [s a o e]; simp
  · rcases List.mem_cons.mp z with z | z
    · subst z; exact rs.trk a (.inl h) np
    · exact rs.sep a h z
  · rcases h with h | h
    · exact rs.kf a (.inl h)
    · rcases List.mem_cons.mp h with h | h
      · subst h; exact hk
      · exact rs.kf a (.inr h)
theorem stp_add {p : Addr} (s : Same H H') (np : H p = none) : Stp Ow H (p :: Ow) H' where
  keep := fun a o h _ => s a o h
  grow := fun a h => by
    rcases List.mem_cons.mp h with h | h
    · subst h; exact .inr np
    · exact .inl h
  stay := (Stp.same (Ow := Ow) s).stay
theorem same_new {p : Addr} {o : HO} (h : H p = none) : Same H (upd H p o) := fun b x e => by
  rw [upd_ne (ne_of_none e h)]
  exact e
/-- the result of an operation that lays at most one object -/
def Res (g : Gx) (A : Addr → Prop) (H H' : Hp) : RV → V → Prop
  | .fz d, v => Rep g A H' d v
  | .nw d, v => ∃ p, v = .ref p ∧ H p = none ∧ g.K.lookup p = none ∧ OwnA g (fun a => A a ∨ a = p) H' d p
  | .sl _, _ => False
theorem Res.val {r : RV} {v : V} (rs : RS g Bn Ow H σ Γ) (s : Same H H') (h : Res g (Av Bn Ow) H H' r v) :
    ∃ Ow', Stp Ow H Ow' H' ∧ RS g Bn Ow' H' σ Γ ∧ Val g Bn Ow' H' σ Γ r v := by
  cases r with
  | fz d => exact ⟨Ow, Stp.same s, rs.same s, h⟩
  | sl i => exact h.elim
  | nw d =>
    obtain ⟨p, rfl, np, hk, o⟩ := h
    have hp : H' p ≠ none := by
      cases d with
      | lst ds => obtain ⟨ws, e1, _⟩ := o; rw [e1]; simp
      | obj c ks ds => obtain ⟨dx, ws, l, e1, _⟩ := o; rw [e1]; simp
      | _ => exact o.elim
    refine ⟨p :: Ow, stp_add s np, rs.add s np hp hk, p, rfl, List.mem_cons_self, own_less (fun a z => ?_) o, fun i e h1 h2 => ?_⟩
    · rcases z with z | z
      · exact .inl (.inl z)
      · rcases List.mem_cons.mp z with z | z
        · exact .inr z
        · exact .inl (.inr z)
    · obtain ⟨a, e2, m, _⟩ := rs.own i e h1
      rw [h2] at e2; cases e2
      exact rs.trk p (.inr m) np
end

/-! ### rules, weakened and with what the state says -/
section
variable {X : Cx}
theorem Inv.kf {pins : List (Addr × Obj)} {σ : St} {H : Hp} {s : Shared} (I : Inv X pins σ H s) : ∀ a o, X.K.lookup a = some o → H a = none := fun a o e => (I.bs a o (I.ok.mod.kin a o e)).2
theorem PE.weak {e : Expr} {t t' : TE} (h : PE X e t) (k : ∀ σ H Q, t' σ H Q → t σ H Q) : PE X e t' := ⟨fun pins s σ H Q I q => h.run pins s σ H Q I (k σ H Q q)⟩
theorem PE.kf {e : Expr} {t : TE} (h : PE X e t) : PE X e (fun σ H Q => t σ H fun v H' => (∀ a o, X.K.lookup a = some o → H' a = none) → Q v H') :=
  ⟨fun pins s σ H Q I q => thn (h.run pins s σ H _ I q) fun u s1 ⟨v, H1, I1, r, q1⟩ => ⟨v, H1, I1, r, q1 (Inv.kf I1)⟩⟩
theorem PT.weak {e : Expr} {t t' : TT} (h : PT X e t) (k : ∀ σ H Q, t' σ H Q → t σ H Q) : PT X e t' := ⟨fun pins s σ H Q I q => h.run pins s σ H Q I (k σ H Q q)⟩
theorem PA.weak {e : List Expr} {t t' : TA} (h : PA X e t) (k : ∀ σ H Q, t' σ H Q → t σ H Q) : PA X e t' := ⟨fun p pins s σ H Q I q => h.run p pins s σ H Q I (k σ H Q q)⟩
theorem OpR.weak {f : Value → Value → Sem Value} {r r' : R2} (h : OpR X f r) (k : ∀ x y H Q, r' x y H Q → r x y H Q) : OpR X f r' := fun pins s σ H x y v u Q I rx ry q => h pins s σ H x y v u Q I rx ry (k x y H Q q)
theorem OpR.kf {f : Value → Value → Sem Value} {r : R2} (h : OpR X f r) : OpR X f (fun x y H Q => r x y H fun v H' => (∀ a o, X.K.lookup a = some o → H' a = none) → Q v H') := fun pins s σ H x y v u Q I rx ry q =>
  thn (h pins s σ H x y v u _ I rx ry q) fun u s1 ⟨v, H1, I1, r, q1⟩ => ⟨v, H1, I1, r, q1 (Inv.kf I1)⟩
theorem CallR.weak {f : Value} {r r' : List V → Hp → VK → Prop} (h : CallR X f r) (k : ∀ x H Q, r' x H Q → r x H Q) : CallR X f r' := fun pins s σ H x v Q I rx q => h pins s σ H x v Q I rx (k x H Q q)
theorem CallR.kf {f : Value} {r : List V → Hp → VK → Prop} (h : CallR X f r) : CallR X f (fun x H Q => r x H fun v H' => (∀ a o, X.K.lookup a = some o → H' a = none) → Q v H') := fun pins s σ H x v Q I rx q =>
  thn (h pins s σ H x v _ I rx q) fun u s1 ⟨v, H1, I1, r, q1⟩ => ⟨v, H1, I1, r, q1 (Inv.kf I1)⟩
theorem kf_new {K : PySem.W.Frag} {H : Hp} {p : Addr} {o : HO} (kf : ∀ a o, K.lookup a = some o → H a = none) (h : H p = some o) : K.lookup p = none := by
  cases e : K.lookup p with
  | none => rfl
  | some x => rw [kf p x e] at h; cases h
theorem IxR.weak {r r' : R2} (h : IxR X r) (k : ∀ x y H Q, r' x y H Q → r x y H Q) : IxR X r' := fun a b pins s σ H x y v u Q I rx ry q => h a b pins s σ H x y v u Q I rx ry (k x y H Q q)
end
end DV

namespace DV
open PySem L2
/-! ### equality of data -/
mutual
def toPy : D → PyData
  | .non => .none
  | .bl b => .bool b
  | .int i => .int i
  | .str x => .str x
  | .lst ds => .list (toPys ds)
  | .tup ds => .tuple (toPys ds)
  | .obj _ _ _ => .none
  | .scr _ => .none
  | .dct => .none
def toPys : List D → List PyData
  | [] => []
  | d :: ds => toPy d :: toPys ds
end
theorem okB_lst {n : Nat} {ds : List D} (h : okB n (.lst ds) = true) : ∃ m, n = m + 1 ∧ ds.all (okB m) = true := by
  cases n with
  | zero => simp [okB] at h
  | succ m => exact ⟨m, rfl, by simpa only [okB] using h⟩
theorem okB_tup {n : Nat} {ds : List D} (h : okB n (.tup ds) = true) : ∃ m, n = m + 1 ∧ ds.all (okB m) = true := by
  cases n with
  | zero => simp [okB] at h
  | succ m => exact ⟨m, rfl, by simpa only [okB] using h⟩
theorem okB_obj {n : Nat} {c : Nat} {ks : List Str} {ds : List D} : okB n (.obj c ks ds) = false := by cases n <;> rfl
theorem okB_scr {n : Nat} {ns : List Int} : okB n (.scr ns) = false := by cases n <;> rfl
theorem okB_dct {n : Nat} : okB n .dct = false := by cases n <;> rfl
mutual
theorem py_lay : ∀ (d : D) (n : Nat), okB n d = true → PyData.canLay0 (toPy d) = true ∧ PyData.depth (toPy d) ≤ n
  | .non, n, h => ⟨rfl, Nat.zero_le _⟩
  | .bl _, n, h => ⟨rfl, Nat.zero_le _⟩
  | .int _, n, h => ⟨rfl, Nat.zero_le _⟩
  | .str x, n, h => by
    have h' : PyData.strOk x = true := by cases n <;> simpa only [okB] using h
    exact ⟨h', Nat.zero_le _⟩
  | .lst ds, n, h => by
    obtain ⟨m, rfl, h⟩ := okB_lst h
    have q := pys_lay ds m h
    exact ⟨by simpa only [toPy, PyData.canLay0] using q.1, by simp only [toPy, PyData.depth]; omega⟩
  | .tup ds, n, h => by
    obtain ⟨m, rfl, h⟩ := okB_tup h
    have q := pys_lay ds m h
    exact ⟨by simpa only [toPy, PyData.canLay0] using q.1, by simp only [toPy, PyData.depth]; omega⟩
  | .obj _ _ _, n, h => by rw [okB_obj] at h; cases h
  | .scr _, n, h => by rw [okB_scr] at h; cases h
  | .dct, n, h => by rw [okB_dct] at h; cases h
theorem pys_lay : ∀ (ds : List D) (n : Nat), ds.all (okB n) = true → PyData.canLayAll0 (toPys ds) = true ∧ PyData.depthAll (toPys ds) ≤ n
  | [], n, h => ⟨rfl, Nat.zero_le _⟩
  | d :: ds, n, h => by
    rw [List.all_cons, Bool.and_eq_true] at h
    have q1 := py_lay d n h.1
    have q2 := pys_lay ds n h.2
    refine ⟨by simp only [toPys, PyData.canLayAll0, q1.1, q2.1]; rfl, ?_⟩
    simp only [toPys, PyData.depthAll]
    omega
end
theorem py_shaped {d : D} (h : okB 12 d = true) : SeqAt.shaped (toPy d) = true := by
  have q := py_lay d 12 h
  unfold SeqAt.shaped
  rw [q.1, decide_eq_true (show PyData.depth (toPy d) ≤ 64 by omega)]
  rfl
mutual
theorem py_eqv : ∀ (d e : D) (n m : Nat), okB n d = true → okB m e = true → PyData.eqv (toPy d) (toPy e) = eqd d e
  | .lst xs, e, n, m, h, h' => by
    obtain ⟨k, rfl, h⟩ := okB_lst h
    cases e with
    | lst ys =>
      obtain ⟨k', rfl, h'⟩ := okB_lst h'
      simp only [toPy, PyData.eqv, eqd]
      exact pys_eqv xs ys k k' h h'
    | obj => rw [okB_obj] at h'; cases h'
    | scr => rw [okB_scr] at h'; cases h'
    | dct => rw [okB_dct] at h'; cases h'
    | _ => simp only [toPy, PyData.eqv, eqd]
  | .tup xs, e, n, m, h, h' => by
    obtain ⟨k, rfl, h⟩ := okB_tup h
    cases e with
    | tup ys =>
      obtain ⟨k', rfl, h'⟩ := okB_tup h'
      simp only [toPy, PyData.eqv, eqd]
      exact pys_eqv xs ys k k' h h'
    | obj => rw [okB_obj] at h'; cases h'
    | scr => rw [okB_scr] at h'; cases h'
    | dct => rw [okB_dct] at h'; cases h'
    | _ => simp only [toPy, PyData.eqv, eqd]
  | .non, e, n, m, h, h' => by
    cases e with
    | obj => rw [okB_obj] at h'; cases h'
    | scr => rw [okB_scr] at h'; cases h'
    | dct => rw [okB_dct] at h'; cases h'
    | _ => simp only [toPy, PyData.eqv, eqd]
  | .bl _, e, n, m, h, h' => by
    cases e with
    | obj => rw [okB_obj] at h'; cases h'
    | scr => rw [okB_scr] at h'; cases h'
    | dct => rw [okB_dct] at h'; cases h'
    | _ => simp only [toPy, PyData.eqv, eqd]
  | .int _, e, n, m, h, h' => by
    cases e with
    | obj => rw [okB_obj] at h'; cases h'
    | scr => rw [okB_scr] at h'; cases h'
    | dct => rw [okB_dct] at h'; cases h'
    | _ => simp only [toPy, PyData.eqv, eqd]
  | .str _, e, n, m, h, h' => by
    cases e with
    | obj => rw [okB_obj] at h'; cases h'
    | scr => rw [okB_scr] at h'; cases h'
    | dct => rw [okB_dct] at h'; cases h'
    | _ => simp only [toPy, PyData.eqv, eqd]
  | .obj _ _ _, e, n, m, h, h' => by rw [okB_obj] at h; cases h
  | .scr _, e, n, m, h, h' => by rw [okB_scr] at h; cases h
  | .dct, e, n, m, h, h' => by rw [okB_dct] at h; cases h
theorem pys_eqv : ∀ (xs ys : List D) (n m : Nat), xs.all (okB n) = true → ys.all (okB m) = true → PyData.eqvAll (toPys xs) (toPys ys) = eqds xs ys
  | [], ys, n, m, h, h' => by cases ys <;> simp only [toPys, PyData.eqvAll, eqds]
  | x :: xs, ys, n, m, h, h' => by
    cases ys with
    | nil => simp only [toPys, PyData.eqvAll, eqds]
    | cons y ys =>
      rw [List.all_cons, Bool.and_eq_true] at h h'
      simp only [toPys, PyData.eqvAll, eqds]
      rw [py_eqv x y n m h.1 h'.1, pys_eqv xs ys n m h.2 h'.2]
end
section
variable {g : Gx} {A : Addr → Prop} {H : Hp}
mutual
theorem rep_dp : ∀ (d : D) (n : Nat) (v : V), okB n d = true → Rep g A H d v → Dp g.K H v (toPy d)
  | .non, n, v, _, h => by simp only [Rep] at h; subst h; exact .non
  | .bl b, n, v, _, h => by simp only [Rep] at h; subst h; exact .bl b
  | .int b, n, v, _, h => by simp only [Rep] at h; subst h; exact .int b
  | .str b, n, v, _, h => by simp only [Rep] at h; subst h; exact .str b
  | .lst ds, n, v, k, h => by
    obtain ⟨m, rfl, k⟩ := okB_lst k
    simp only [Rep] at h
    obtain ⟨a, vs, rfl, _, s, r⟩ := h
    exact .lst (.inl (.inl s)) (reps_dp ds m vs k r)
  | .tup ds, n, v, k, h => by
    obtain ⟨m, rfl, k⟩ := okB_tup k
    simp only [Rep] at h
    obtain ⟨a, vs, rfl, _, s, r⟩ := h
    exact .tup s (reps_dp ds m vs k r)
  | .obj _ _ _, n, v, k, _ => by rw [okB_obj] at k; cases k
  | .scr _, n, v, k, _ => by rw [okB_scr] at k; cases k
  | .dct, n, v, k, _ => by rw [okB_dct] at k; cases k
theorem reps_dp : ∀ (ds : List D) (n : Nat) (vs : List V), ds.all (okB n) = true → Reps g A H ds vs → DpAll g.K H vs (toPys ds)
  | [], n, vs, _, h => by simp only [Reps] at h; subst h; exact .nil
  | d :: ds, n, vs, k, h => by
    rw [List.all_cons, Bool.and_eq_true] at k
    simp only [Reps] at h
    obtain ⟨v, r, rfl, h1, h2⟩ := h
    exact .cons (rep_dp d n v k.1 h1) (reps_dp ds n r k.2 h2)
end
theorem rdb_dp {d : D} {n : Nat} {v : V} (k : okB n d = true) (h : Rdb g A H d v) : Dp g.K H v (toPy d) := by
  cases d with
  | lst ds =>
    obtain ⟨m, rfl, k⟩ := okB_lst k
    obtain ⟨a, vs, rfl, s, r⟩ := h
    exact .lst (.inl (.inl s)) (reps_dp ds m vs k r)
  | obj => rw [okB_obj] at k; cases k
  | scr => rw [okB_scr] at k; cases k
  | dct => rw [okB_dct] at k; cases k
  | non => exact rep_dp (A := A) _ n v k h
  | bl => exact rep_dp (A := A) _ n v k h
  | int => exact rep_dp (A := A) _ n v k h
  | str => exact rep_dp (A := A) _ n v k h
  | tup => exact rep_dp (A := A) _ n v k h
theorem rdb_int {i : Int} {v : V} (h : Rdb g A H (.int i) v) : v = .int i := by simpa only [Rdb, Rep] using h
theorem rdb_str {i : Str} {v : V} (h : Rdb g A H (.str i) v) : v = .str i := by simpa only [Rdb, Rep] using h
theorem rdb_bl {i : Bool} {v : V} (h : Rdb g A H (.bl i) v) : v = .bl i := by simpa only [Rdb, Rep] using h
theorem rdb_non {v : V} (h : Rdb g A H .non v) : v = .non := by simpa only [Rdb, Rep] using h
theorem rdb_tup {ds : List D} {v : V} (h : Rdb g A H (.tup ds) v) : ∃ a vs, v = .ref a ∧ ¬ A a ∧ SqT g.K H a vs ∧ Reps g A H ds vs := by simpa only [Rdb, Rep] using h
theorem rdb_dct {v : V} (h : Rdb g A H .dct v) : ∃ a, v = .ref a ∧ ¬ A a ∧ H a = some (.dK []) := by simpa only [Rdb, Rep] using h
theorem rdb_scr {ns : List Int} {v : V} (h : Rdb g A H (.scr ns) v) : ∃ a, v = .ref a ∧ ¬ A a ∧ SqL g.K H a (ns.map V.int) := by simpa only [Rdb, Rep] using h
/-- flat data and flat values -/
theorem flat_rep : ∀ {d : D} {v : V}, flatD d = true → Rep g A H d v → flatV v = true ∧ ∀ {e : D} {w : V}, flatD e = true → Rep g A H e w → eqV v w = eqd d e := by
  intro d v hd h
  cases d with
  | non => simp only [Rep] at h; subst h; exact ⟨rfl, fun {e w} he q => by cases e <;> first | (simp only [Rep] at q; subst q; rfl) | (simp [flatD] at he)⟩
  | bl b => simp only [Rep] at h; subst h; exact ⟨rfl, fun {e w} he q => by cases e <;> first | (simp only [Rep] at q; subst q; rfl) | (simp [flatD] at he)⟩
  | int b => simp only [Rep] at h; subst h; exact ⟨rfl, fun {e w} he q => by cases e <;> first | (simp only [Rep] at q; subst q; rfl) | (simp [flatD] at he)⟩
  | str b => simp only [Rep] at h; subst h; exact ⟨rfl, fun {e w} he q => by cases e <;> first | (simp only [Rep] at q; subst q; rfl) | (simp [flatD] at he)⟩
  | _ => simp [flatD] at hd
theorem flat_reps : ∀ {ds : List D} {vs : List V} {e : D} {w : V}, ds.all flatD = true → Reps g A H ds vs → flatD e = true → Rep g A H e w → vs.all flatV = true ∧ inV w vs = ds.any fun y => eqd y e
  | [], _, _, _, _, h, _, _ => by simp only [Reps] at h; subst h; exact ⟨rfl, rfl⟩
  | d :: ds, _, e, w, k, h, ke, he => by
    rw [List.all_cons, Bool.and_eq_true] at k
    simp only [Reps] at h
    obtain ⟨v, r, rfl, h1, h2⟩ := h
    have q1 := flat_rep k.1 h1
    have q2 := flat_reps k.2 h2 ke he
    refine ⟨by rw [List.all_cons, q1.1, q2.1]; rfl, ?_⟩
    have q3 : (r.any fun y => eqV y w) = ds.any fun y => eqd y e := q2.2
    show ((v :: r).any fun y => eqV y w) = _
    rw [List.any_cons, List.any_cons, q1.2 ke he, q3]
theorem rdb_flat {d : D} {v : V} (k : flatD d = true) (h : Rdb g A H d v) : Rep g A H d v := by
  cases d <;> first | exact h | (simp [flatD] at k)
end

/-! ### the operators -/
def CPowB (i j : Int) : Prop := 0 ≤ j ∧ (Builtin.Int.intBits i : Int) * j ≤ 2 ^ 27
theorem op_powB {X : Cx} : OpR X (binaryOp .Pow) (rI CPowB fun i j => .int (i ^ j.toNat)) := opI fun _ _ _ _ _ _ _ hc q => PyProof.Rows.pow_int hc.1 hc.2 q
/-- what an operation on data asks and gives -/
def rBin (g : Gx) (op : BOp) : R2 := fun x y H Q => ∃ A d e r, Rdb g A H d x ∧ Rdb g A H e y ∧ (∀ a, A a → H a ≠ none) ∧ binD op d e = some r ∧ ∀ v H', Same H H' → Res g A H H' r v → Q v H'
def opOf : BOp → Operator
  | .add => .Add | .sub => .Sub | .mul => .Mult | .fdiv => .FloorDiv | .mod => .Mod | .pow => .Pow
section
variable {X : Cx} {g : Gx}
theorem same_rfl (H : Hp) : Same H H := fun _ _ h => h
theorem new_lst {A : Addr → Prop} {H : Hp} {p : Addr} {ds : List D} {vs : List V} (np : H p = none) (hk : g.K.lookup p = none) (r : Reps g A H ds vs) : Res g A H (upd H p (.lst vs)) (.nw (.lst ds)) (.ref p) := by
  refine ⟨p, rfl, np, hk, vs, upd_same, reps_mono (fun a ⟨n, t⟩ => ⟨fun o h => same_new np a o h, fun z => ?_⟩) _ _ r⟩
  rcases z with z | z
  · exact n z
  · subst z
    rcases t with ⟨o, t⟩ | ⟨o, t⟩
    · rw [np] at t; cases t
    · rw [hk] at t; cases t
theorem new_tup {A : Addr → Prop} {H : Hp} {p : Addr} {ds : List D} {vs : List V} (np : H p = none) (tr : ∀ a, A a → H a ≠ none) (r : Reps g A H ds vs) : Res g A H (upd H p (.tup vs)) (.fz (.tup ds)) (.ref p) := by
  simp only [Res, Rep]
  exact ⟨p, vs, rfl, fun z => tr p z np, .inl (.inl upd_same), r.same (same_new np)⟩
theorem mulOk_of {i j : Int} (h : mulOk i j = true) : IntMulOk i j := by
  unfold mulOk at h
  simp only [Bool.or_eq_true, decide_eq_true_eq] at h
  rcases h with (h | h) | h
  · exact CMul.ok (.inl h)
  · exact CMul.ok (.inr h)
  · exact CMulW.ok h
theorem op_mulA : OpR X (binaryOp .Mult) (rI (fun i j => mulOk i j = true) fun i j => .int (i * j)) := opI fun _ _ _ _ _ _ _ hc q => PyProof.Rows.mul_int q (mulOk_of hc)
theorem op_bin (hK : X.K = g.K) (op : BOp) : OpR X (binaryOp (opOf op)) (rBin g op) := by
  have kfe : ∀ {H : Hp} {p : Addr} {o : HO}, (∀ a o, X.K.lookup a = some o → H a = none) → H p = some o → g.K.lookup p = none := fun h e => by rw [← hK]; exact kf_new h e
  cases op with
  | add =>
    refine OpR.weak (OpR.kf (op_add.or (op_add_str.or (op_cat.or op_catT)))) ?_
    rintro x y H Q ⟨A, d, e, r, hd, he, tr, hb, hQ⟩
    cases d <;> cases e <;> simp only [binD, reduceCtorEq, Option.ite_none_right_eq_some, Option.some.injEq] at hb
    · subst hb
      refine .inl ⟨_, _, rdb_int hd, rdb_int he, fun kf => hQ _ _ (same_rfl H) ?_⟩
      simp only [Res, Rep]
    · obtain ⟨hz, rfl⟩ := hb
      refine .inr (.inl ⟨_, _, rdb_str hd, rdb_str he, hz, fun kf => hQ _ _ (same_rfl H) ?_⟩)
      simp only [Res, Rep]
    · obtain ⟨hz, rfl⟩ := hb
      obtain ⟨a, vs, rfl, e1, r1⟩ := hd
      obtain ⟨b, ws, rfl, e2, r2⟩ := he
      refine .inr (.inr (.inl ⟨a, b, vs, ws, rfl, rfl, e1, e2, by rw [← r1.len, ← r2.len]; exact hz, fun p np kf => hQ _ _ (same_new np) (new_lst np (kfe kf upd_same) (r1.app r2))⟩))
    · obtain ⟨⟨hz, hne⟩, rfl⟩ := hb
      obtain ⟨a, vs, rfl, na, e1, r1⟩ := rdb_tup hd
      obtain ⟨b, ws, rfl, nb, e2, r2⟩ := rdb_tup he
      have l1 := r1.len
      have l2 := r2.len
      refine .inr (.inr (.inr ⟨a, b, vs, ws, rfl, rfl, by rw [hK]; exact e1, by rw [hK]; exact e2, fun z => ?_, by omega, fun z kf => hQ _ _ (same_rfl H) ?_, fun z p np kf => hQ _ _ (same_new np) (new_tup np tr (r1.app r2))⟩))
      · subst z
        exact hne (List.eq_nil_of_length_eq_zero l1)
      · subst z
        have : _ = [] := List.eq_nil_of_length_eq_zero l2
        subst this
        rw [List.append_nil]
        simp only [Res, Rep]
        exact ⟨a, vs, rfl, na, e1, r1⟩
  | sub =>
    refine OpR.weak (OpR.kf op_sub) ?_
    rintro x y H Q ⟨A, d, e, r, hd, he, tr, hb, hQ⟩
    cases d <;> cases e <;> simp only [binD, reduceCtorEq, Option.some.injEq] at hb
    subst hb
    exact ⟨_, _, rdb_int hd, rdb_int he, fun kf => hQ _ _ (same_rfl H) (by simp only [Res, Rep])⟩
  | mul =>
    refine OpR.weak (OpR.kf (op_mulA.or op_rep)) ?_
    rintro x y H Q ⟨A, d, e, r, hd, he, tr, hb, hQ⟩
    cases d <;> cases e <;> simp only [binD, reduceCtorEq, Option.ite_none_right_eq_some, Option.some.injEq] at hb
    · obtain ⟨hz, rfl⟩ := hb
      exact .inl ⟨_, _, rdb_int hd, rdb_int he, hz, fun kf => hQ _ _ (same_rfl H) (by simp only [Res, Rep])⟩
    · obtain ⟨⟨h1, h2, h3⟩, rfl⟩ := hb
      obtain ⟨a, vs, rfl, e1, r1⟩ := hd
      exact .inr ⟨a, _, vs, rfl, rdb_int he, e1, h1, h2, by rw [← r1.len]; exact h3, fun p np kf => hQ _ _ (same_new np) (new_lst np (kfe kf upd_same) (r1.repl _))⟩
  | fdiv =>
    refine OpR.weak (OpR.kf op_fdivW) ?_
    rintro x y H Q ⟨A, d, e, r, hd, he, tr, hb, hQ⟩
    cases d <;> cases e <;> simp only [binD, reduceCtorEq, Option.ite_none_right_eq_some, Option.some.injEq] at hb
    obtain ⟨hz, rfl⟩ := hb
    exact ⟨_, _, rdb_int hd, rdb_int he, hz, fun kf => hQ _ _ (same_rfl H) (by simp only [Res, Rep])⟩
  | mod =>
    refine OpR.weak (OpR.kf op_mod) ?_
    rintro x y H Q ⟨A, d, e, r, hd, he, tr, hb, hQ⟩
    cases d <;> cases e <;> simp only [binD, reduceCtorEq, Option.ite_none_right_eq_some, Option.some.injEq] at hb
    obtain ⟨hz, rfl⟩ := hb
    exact ⟨_, _, rdb_int hd, rdb_int he, hz, fun kf => hQ _ _ (same_rfl H) (by simp only [Res, Rep])⟩
  | pow =>
    refine OpR.weak (OpR.kf op_powB) ?_
    rintro x y H Q ⟨A, d, e, r, hd, he, tr, hb, hQ⟩
    cases d <;> cases e <;> simp only [binD, reduceCtorEq] at hb
    rename_i a b
    by_cases c : 0 ≤ b ∧ b ≤ 1000000 ∧ a.natAbs < 2 ^ 64
    · rw [if_pos c, Option.some.injEq] at hb
      subst hb
      exact ⟨_, _, rdb_int hd, rdb_int he, ⟨c.1, PyProof.Rows.bits_mul_le c.2.2 c.1 c.2.1⟩, fun kf => hQ _ _ (same_rfl H) (by simp only [Res, Rep])⟩
    · rw [if_neg c] at hb
      by_cases c2 : 0 ≤ b ∧ b ≤ 1000 ∧ in1k a = true
      · rw [if_pos c2, Option.some.injEq] at hb
        subst hb
        refine ⟨_, _, rdb_int hd, rdb_int he, ⟨c2.1, ?_⟩, fun kf => hQ _ _ (same_rfl H) (by simp only [Res, Rep])⟩
        have h1 := c2.2.2
        unfold in1k at h1
        have h2 := PyProof.Rows.intBits_le (of_decide_eq_true h1)
        have h3 : (Builtin.Int.intBits a : Int) * b ≤ 1000 * b := Int.mul_le_mul_of_nonneg_right (by omega) c2.1
        omega
      · rw [if_neg c2] at hb
        cases hb
def cmpOf : COp → CmpOp
  | .eq => .Eq | .ne => .NotEq | .lt => .Lt | .le => .LtE | .gt => .Gt | .ge => .GtE | .is => .Is | .isnot => .IsNot | .inn => .In | .notin => .NotIn
def rCmp (g : Gx) (op : COp) : R2 := fun x y H Q => ∃ A d e b, Rdb g A H d x ∧ Rdb g A H e y ∧ cmpD op d e = some b ∧ Q (.bl b) H
theorem rdb_isnon {A : Addr → Prop} {H : Hp} {d : D} {v : V} (h : Rdb g A H d v) : decide (v = .non) = isNonD d := by
  cases d with
  | non => rw [rdb_non h]; rfl
  | bl => rw [rdb_bl h]; rfl
  | int => rw [rdb_int h]; rfl
  | str => rw [rdb_str h]; rfl
  | lst => obtain ⟨a, vs, rfl, _⟩ := h; rfl
  | tup => obtain ⟨a, vs, rfl, _⟩ := rdb_tup h; rfl
  | obj => obtain ⟨a, dx, vs, rfl, _⟩ := h; rfl
  | scr => obtain ⟨a, rfl, _⟩ := rdb_scr h; rfl
  | dct => obtain ⟨a, rfl, _⟩ := rdb_dct h; rfl
theorem OpR.or {f : Value → Value → Sem Value} {r r' : R2} (h : OpR X f r) (h' : OpR X f r') : OpR X f (fun x y H Q => r x y H Q ∨ r' x y H Q) := fun pins s σ H x y v u Q I rx ry q => q.elim (fun q => h pins s σ H x y v u Q I rx ry q) fun q => h' pins s σ H x y v u Q I rx ry q
def rLenNe (K : PySem.W.Frag) (k : Bool) : R2 := fun x y H Q => ∃ a b xs ys, x = .ref a ∧ y = .ref b ∧ SqL K H a xs ∧ SqL K H b ys ∧ xs.length ≠ ys.length ∧ Q (.bl k) H
theorem op_eqLen (hu : X.A.units < cLine) : OpR X (compareOp .Eq) (rLenNe X.K false) := by
  rintro pins s σ H x y v u Q I rx ry ⟨a, b, xs, ys, rfl, rfl, ha, hb, hne, q⟩
  cases rx
  cases ry
  obtain ⟨its, r, e, z⟩ := I.list ha
  obtain ⟨its2, r2, e2, z2⟩ := I.list hb
  have hsz : (its.toArray.size != its2.toArray.size) = true := by
    rw [List.size_toArray, List.size_toArray, ← r.length, ← r2.length]
    simpa using hne
  exact PySem.SeqAt.eq_list_lengthsAt e.isList e2.isList hsz hu ⟨.bl false, H, I, rfl, q⟩
theorem op_neLen (hu : X.A.units < cLine) : OpR X (compareOp .NotEq) (rLenNe X.K true) := by
  rintro pins s σ H x y v u Q I rx ry ⟨a, b, xs, ys, rfl, rfl, ha, hb, hne, q⟩
  cases rx
  cases ry
  obtain ⟨its, r, e, z⟩ := I.list ha
  obtain ⟨its2, r2, e2, z2⟩ := I.list hb
  have hsz : (its.toArray.size != its2.toArray.size) = true := by
    rw [List.size_toArray, List.size_toArray, ← r.length, ← r2.length]
    simpa using hne
  exact PySem.SeqAt.RcNeAt.lists_lengths e.isList e2.isList hsz hu X.prog X.w X.xe _ ⟨.bl true, H, I, rfl, q⟩
theorem lenNe_ok {A : Addr → Prop} {H : Hp} {d e : D} {x y : V} {k : Bool} {Q : VK} (h : lenNe d e = true) (hd : Rdb g A H d x) (he : Rdb g A H e y) (hQ : Q (.bl k) H) : rLenNe g.K k x y H Q := by
  cases d <;> cases e <;> simp only [lenNe, Bool.false_eq_true, decide_eq_true_eq] at h
  obtain ⟨a, vs, rfl, s1, r1⟩ := hd
  obtain ⟨b, ws, rfl, s2, r2⟩ := he
  exact ⟨a, b, vs, ws, rfl, rfl, .inl (.inl s1), .inl (.inl s2), by rw [← r1.len, ← r2.len]; exact h, hQ⟩
theorem reps_two {A : Addr → Prop} {H : Hp} {i j : Int} {vs : List V} (h : Reps g A H [.int i, .int j] vs) : vs = [i, j].map V.int := by
  simp only [Reps, Rep] at h
  obtain ⟨_, _, rfl, rfl, _, _, rfl, rfl, rfl⟩ := h
  rfl
/-- (i, j) > (k, l) -/
def rGtP (K : PySem.W.Frag) : R2 := fun x y H Q => ∃ a b i j k l, x = .ref a ∧ y = .ref b ∧ SqT K H a ([i, j].map V.int) ∧ SqT K H b ([k, l].map V.int) ∧ Q (.bl (pGt i j k l)) H
theorem op_gtP (hu : X.A.units < cLine) : OpR X (compareOp .Gt) (rGtP X.K) := by
  rintro pins s σ H x y v u Q I rx ry ⟨a, b, i, j, k, l, rfl, rfl, ha, hb, q⟩
  cases rx
  cases ry
  obtain ⟨its, r1, p1, _⟩ := I.tuple ha
  obtain ⟨its2, r2, p2, _⟩ := I.tuple hb
  have i1 := Vals.ints r1
  have i2 := Vals.ints r2
  have e1 : its.toArray.size = 2 := by rw [List.size_toArray]; exact i1.length
  have e2 : its2.toArray.size = 2 := by rw [List.size_toArray]; exact i2.length
  have at1 : ∀ n (h1 : n < its.toArray.size), ∃ t, its.toArray[n] = .int ([i, j].getD n 0) t := fun n h1 => i1.int_at n _ (by rw [List.getElem_toArray]; exact List.getElem?_eq_getElem _)
  have at2 : ∀ n (h1 : n < its2.toArray.size), ∃ t, its2.toArray[n] = .int ([k, l].getD n 0) t := fun n h1 => i2.int_at n _ (by rw [List.getElem_toArray]; exact List.getElem?_eq_getElem _)
  have R := Ob.RcOp.tuples_gt (e := fun n => [i, j].getD n 0 == [k, l].getD n 0) (r := fun n => decide ([k, l].getD n 0 < [i, j].getD n 0)) p1 p2 hu (fun n h1 h2 => by
    obtain ⟨t, et⟩ := at1 n h1
    obtain ⟨t', et'⟩ := at2 n h2
    rw [et, et']
    exact SeqAt.EqAt.int_int _ t _ t') (fun n h1 h2 _ => by
    obtain ⟨t, et⟩ := at1 n h1
    obtain ⟨t', et'⟩ := at2 n h2
    rw [et, et']
    exact Ob.RcOp.gt_int _ _ t t')
  rw [e1, e2] at R
  have lx : Ob.lexAt (fun n => [i, j].getD n 0 == [k, l].getD n 0) (fun n => decide ([k, l].getD n 0 < [i, j].getD n 0)) (decide (2 > 2)) 0 (min 2 2) = pGt i j k l := by
    show Ob.lexAt _ _ _ 0 2 = _
    rw [Ob.lexAt_succ, Ob.lexAt_succ, Ob.lexAt_zero]
    unfold pGt
    by_cases c : i = k
    · subst c
      by_cases d : j = l
      · subst d; simp
      · simp [d]
    · by_cases d : k < i <;> simp [c, d]
  rw [lx] at R
  exact R X.prog X.w X.xe (EP X pins σ Q) ⟨.bl (pGt i j k l), H, I, rfl, q⟩
theorem op_cmp (hK : X.K = g.K) (hu : X.A.units + 64 < cLine) (op : COp) : OpR X (compareOp (cmpOf op)) (rCmp g op) := by
  cases op with
  | eq =>
    refine OpR.weak (OpR.or (op_eqD hu) (op_eqLen (by omega))) ?_
    rintro x y H Q ⟨A, d, e, b, hd, he, hb, hQ⟩
    simp only [cmpD] at hb
    split at hb
    case isFalse => 
      refine .inr ?_
      split at hb
      · rename_i hl
        cases hb
        rw [hK]
        exact lenNe_ok hl hd he hQ
      · cases hb
    rename_i hk
    simp only [Bool.and_eq_true] at hk
    obtain ⟨k1, k2⟩ := hk
    simp only [Option.some.injEq] at hb
    subst hb
    refine .inl ?_
    rw [hK]
    exact ⟨toPy d, toPy e, rdb_dp k1 hd, rdb_dp k2 he, py_shaped k1, py_shaped k2, by rw [py_eqv d e 12 12 k1 k2]; exact hQ⟩
  | ne =>
    refine OpR.weak (OpR.or (op_neD hu) (op_neLen (by omega))) ?_
    rintro x y H Q ⟨A, d, e, b, hd, he, hb, hQ⟩
    simp only [cmpD] at hb
    split at hb
    case isFalse => 
      refine .inr ?_
      split at hb
      · rename_i hl
        cases hb
        rw [hK]
        exact lenNe_ok hl hd he hQ
      · cases hb
    rename_i hk
    simp only [Bool.and_eq_true] at hk
    obtain ⟨k1, k2⟩ := hk
    simp only [Option.some.injEq] at hb
    subst hb
    refine .inl ?_
    rw [hK]
    exact ⟨toPy d, toPy e, rdb_dp k1 hd, rdb_dp k2 he, py_shaped k1, py_shaped k2, by rw [py_eqv d e 12 12 k1 k2]; exact hQ⟩
  | lt =>
    refine OpR.weak op_lt ?_
    rintro x y H Q ⟨A, d, e, b, hd, he, hb, hQ⟩
    cases d <;> cases e <;> simp only [cmpD, reduceCtorEq, Option.some.injEq] at hb
    subst hb
    exact ⟨_, _, rdb_int hd, rdb_int he, hQ⟩
  | le =>
    refine OpR.weak op_le ?_
    rintro x y H Q ⟨A, d, e, b, hd, he, hb, hQ⟩
    cases d <;> cases e <;> simp only [cmpD, reduceCtorEq, Option.some.injEq] at hb
    subst hb
    exact ⟨_, _, rdb_int hd, rdb_int he, hQ⟩
  | gt =>
    refine OpR.weak (OpR.or op_gt (op_gtP (by omega))) ?_
    rintro x y H Q ⟨A, d, e, b, hd, he, hb, hQ⟩
    cases d <;> cases e <;> simp only [cmpD, reduceCtorEq, Option.some.injEq] at hb
    · subst hb
      exact .inl ⟨_, _, rdb_int hd, rdb_int he, hQ⟩
    · unfold tupGt at hb
      split at hb
      · rename_i i j k l
        cases hb
        obtain ⟨a, vs, rfl, _, s1, r1⟩ := rdb_tup hd
        obtain ⟨b, ws, rfl, _, s2, r2⟩ := rdb_tup he
        rw [reps_two r1] at s1
        rw [reps_two r2] at s2
        rw [← hK] at s1 s2
        exact .inr ⟨a, b, i, j, k, l, rfl, rfl, s1, s2, hQ⟩
      · cases hb
  | ge =>
    refine OpR.weak op_ge ?_
    rintro x y H Q ⟨A, d, e, b, hd, he, hb, hQ⟩
    cases d <;> cases e <;> simp only [cmpD, reduceCtorEq, Option.some.injEq] at hb
    subst hb
    exact ⟨_, _, rdb_int hd, rdb_int he, hQ⟩
  | is =>
    refine OpR.weak op_isN ?_
    rintro x y H Q ⟨A, d, e, b, hd, he, hb, hQ⟩
    cases e <;> simp only [cmpD, reduceCtorEq, Option.some.injEq] at hb
    subst hb
    exact ⟨rdb_non he, by rw [rdb_isnon hd]; exact hQ⟩
  | isnot =>
    refine OpR.weak op_notN ?_
    rintro x y H Q ⟨A, d, e, b, hd, he, hb, hQ⟩
    cases e <;> simp only [cmpD, reduceCtorEq, Option.some.injEq] at hb
    subst hb
    refine ⟨rdb_non he, ?_⟩
    rw [rdb_isnon hd]
    exact hQ
  | inn =>
    refine OpR.weak op_in_seq ?_
    rintro x y H Q ⟨A, d, e, b, hd, he, hb, hQ⟩
    rw [hK]
    cases e <;> simp only [cmpD, reduceCtorEq, Option.ite_none_right_eq_some, Bool.and_eq_true, Option.some.injEq] at hb
    · obtain ⟨⟨k1, k2⟩, rfl⟩ := hb
      obtain ⟨a, vs, rfl, e1, r1⟩ := he
      have q := flat_reps k2 r1 k1 (rdb_flat k1 hd)
      exact ⟨a, vs, rfl, .inl (.inl (.inl e1)), (flat_rep k1 (rdb_flat k1 hd)).1, q.1, by rw [if_neg Bool.false_ne_true, q.2]; exact hQ⟩
    · obtain ⟨⟨k1, k2⟩, rfl⟩ := hb
      obtain ⟨a, vs, rfl, na, e1, r1⟩ := rdb_tup he
      have q := flat_reps k2 r1 k1 (rdb_flat k1 hd)
      exact ⟨a, vs, rfl, .inr e1, (flat_rep k1 (rdb_flat k1 hd)).1, q.1, by rw [if_neg Bool.false_ne_true, q.2]; exact hQ⟩
  | notin =>
    refine OpR.weak op_notIn_seq ?_
    rintro x y H Q ⟨A, d, e, b, hd, he, hb, hQ⟩
    rw [hK]
    cases e <;> simp only [cmpD, reduceCtorEq, Option.ite_none_right_eq_some, Bool.and_eq_true, Option.some.injEq] at hb
    · obtain ⟨⟨k1, k2⟩, rfl⟩ := hb
      obtain ⟨a, vs, rfl, e1, r1⟩ := he
      have q := flat_reps k2 r1 k1 (rdb_flat k1 hd)
      exact ⟨a, vs, rfl, .inl (.inl (.inl e1)), (flat_rep k1 (rdb_flat k1 hd)).1, q.1, by rw [if_pos rfl, q.2]; exact hQ⟩
    · obtain ⟨⟨k1, k2⟩, rfl⟩ := hb
      obtain ⟨a, vs, rfl, na, e1, r1⟩ := rdb_tup he
      have q := flat_reps k2 r1 k1 (rdb_flat k1 hd)
      exact ⟨a, vs, rfl, .inr e1, (flat_rep k1 (rdb_flat k1 hd)).1, q.1, by rw [if_pos rfl, q.2]; exact hQ⟩
end
end DV

namespace DV
open PySem L2
/-- what is asked of a context -/
structure Cok (g : Gx) (X : Cx) : Prop where
  K : X.K = g.K
  calm : X.calm = true
  hu : X.A.units + 64 < cLine
  nd : X.N.Nodup
def tR (g : Gx) (fs : List FS) (ie : E) : TE := fun σ H Q => ∃ Bn Ow Γ r Γ', RS g Bn Ow H σ Γ ∧ ev fs ie Γ = some (r, Γ') ∧ ∀ v H' Ow', Stp Ow H Ow' H' → RS g Bn Ow' H' σ Γ' → Val g Bn Ow' H' σ Γ' r v → Q v H'
def tT (g : Gx) (fs : List FS) (ie : E) : TT := fun σ H Q => ∃ Bn Ow Γ r Γ' t, RS g Bn Ow H σ Γ ∧ ev fs ie Γ = some (r, Γ') ∧ testD Γ' r = some t ∧ ∀ H' Ow', Stp Ow H Ow' H' → RS g Bn Ow' H' σ Γ' → Q t H'
/-- values by results -/
def Vls (g : Gx) (Bn : Addr → Prop) (Ow : List Addr) (H : Hp) (σ : St) (Γ : Ct) : List RV → List V → Prop
  | [], vs => vs = []
  | x :: xs, vs => ∃ v r, vs = v :: r ∧ Val g Bn Ow H σ Γ x.dn v ∧ Vls g Bn Ow H σ Γ xs r
def tAs (g : Gx) (fs : List FS) (es : List E) : TA := fun σ H Q => ∃ Bn Ow Γ xs Γ', RS g Bn Ow H σ Γ ∧ evs fs es Γ = some (xs, Γ') ∧ ∀ vs H' Ow', Stp Ow H Ow' H' → RS g Bn Ow' H' σ Γ' → Vls g Bn Ow' H' σ Γ' xs vs → Q vs H'
section
variable {X : Cx} {g : Gx} {fs : List FS} {Bn : Addr → Prop} {Ow Ow' : List Addr} {H H' : Hp} {σ : St} {Γ Γ' Γ1 Γ2 : Ct} {a b c : Expr} {ia ib ic : E} {pos : Pos}
theorem Vls.step : ∀ {xs : List RV} {vs : List V}, Vls g Bn Ow H σ Γ xs vs → Stp Ow H Ow' H' → RS g Bn Ow' H' σ Γ' → Vls g Bn Ow' H' σ Γ' xs vs
  | [], _, h, _, _ => h
  | x :: xs, _, ⟨v, r, e, h1, h2⟩, s, q => ⟨v, r, e, h1.step s q, Vls.step h2 s q⟩
theorem Vls.len : ∀ {xs : List RV} {vs : List V}, Vls g Bn Ow H σ Γ xs vs → xs.length = vs.length
  | [], _, h => by have h : _ = [] := h; subst h; rfl
  | x :: xs, _, ⟨v, r, e, h1, h2⟩ => by subst e; rw [List.length_cons, List.length_cons, h2.len]
theorem fres_ok : ∀ {xs : List RV} {vs : List V} {ds : List D} {Ow : List Addr} {Γ Γ' : Ct}, RS g Bn Ow H σ Γ → Vls g Bn Ow H σ Γ xs vs → fres xs Γ = some (ds, Γ') → ∃ Ow', Stp Ow H Ow' H ∧ RS g Bn Ow' H σ Γ' ∧ Reps g (Av Bn Ow') H ds vs
  | [], _, ds, Ow, Γ, Γ', rs, h, e => by
    have h : _ = [] := h
    subst h
    simp only [fres, Option.some.injEq, Prod.mk.injEq] at e
    obtain ⟨rfl, rfl⟩ := e
    exact ⟨Ow, .refl _ _, rs, by simp only [Reps]⟩
  | x :: xs, _, ds, Ow, Γ, Γ', rs, ⟨v, r, e0, h1, h2⟩, e => by
    subst e0
    simp only [fres] at e
    obtain ⟨⟨d, Γ1⟩, e1, e⟩ := Option.bind_eq_some_iff.mp e
    obtain ⟨⟨es, Γ2⟩, e2, e⟩ := Option.map_eq_some_iff.mp e
    simp only [Prod.mk.injEq] at e
    obtain ⟨rfl, rfl⟩ := e
    rw [← fre_dn] at e1
    obtain ⟨O1, s1, r1, p1⟩ := fre_ok rs h1 e1
    obtain ⟨O2, s2, r2, p2⟩ := fres_ok r1 (h2.step s1 r1) e2
    refine ⟨O2, s1.trans s2, r2, ?_⟩
    simp only [Reps]
    exact ⟨v, r, rfl, p1.step s2 r2, p2⟩
theorem datums_ok : ∀ {xs : List RV} {vs : List V} {ds : List D}, RS g Bn Ow H σ Γ → Vls g Bn Ow H σ Γ xs vs → datums Γ xs = some ds → Paired (fun d v => Rdb g (Av Bn Ow) H d v) ds vs
  | [], _, ds, rs, h, e => by
    have h : _ = [] := h
    subst h
    simp only [datums, Option.some.injEq] at e
    subst e
    exact .nil
  | x :: xs, _, ds, rs, ⟨v, r, e0, h1, h2⟩, e => by
    subst e0
    simp only [datums] at e
    obtain ⟨d, e1, e⟩ := Option.bind_eq_some_iff.mp e
    obtain ⟨es, e2, rfl⟩ := Option.map_eq_some_iff.mp e
    rw [← datum_dn] at e1
    exact .cons (h1.rdb rs e1) (datums_ok rs h2 e2)

theorem tR_one {x : RV} {Q : VK} (rs : RS g Bn Ow H σ Γ) (e1 : ev fs ia Γ = some (x, Γ1)) (k : ∀ v H1 Ow1, Stp Ow H Ow1 H1 → RS g Bn Ow1 H1 σ Γ1 → Val g Bn Ow1 H1 σ Γ1 x.dn v → Q v H1) : tR g fs ia σ H Q :=
  ⟨Bn, Ow, Γ, x, Γ1, rs, e1, fun v H' Ow' s r val => let ⟨O2, s2, r2, v2⟩ := dn_ok r val; k v H' O2 (s.trans s2) r2 v2⟩
theorem tR_two {x y : RV} {R : V → V → Hp → Prop} (rs : RS g Bn Ow H σ Γ) (e1 : ev fs ia Γ = some (x, Γ1)) (e2 : ev fs ib Γ1 = some (y, Γ2))
    (k : ∀ v w H2 Ow2, Stp Ow H Ow2 H2 → RS g Bn Ow2 H2 σ Γ2 → Val g Bn Ow2 H2 σ Γ2 x.dn v → Val g Bn Ow2 H2 σ Γ2 y.dn w → R v w H2) : tR g fs ia σ H fun v H1 => tR g fs ib σ H1 fun w H2 => R v w H2 :=
  tR_one rs e1 fun v H1 O1 s1 r1 v1 => tR_one r1 e2 fun w H2 O2 s2 r2 w2 => k v w H2 O2 (s1.trans s2) r2 (v1.step s2 r2) w2

/-! ### names, constants -/
theorem p_stuck {e : Expr} : PE X e (tR g fs .stuck) := ⟨fun _ _ _ _ _ _ ⟨_, _, _, _, _, _, h, _⟩ => by simp only [ev, reduceCtorEq] at h⟩
theorem t_stuck {e : Expr} : PT X e (tT g fs .stuck) := ⟨fun _ _ _ _ _ _ ⟨_, _, _, _, _, _, _, h, _⟩ => by simp only [ev, reduceCtorEq] at h⟩
theorem p_var {i : Nat} (h : PE X a (tVar i)) : PE X a (tR g fs (.var i)) := by
  refine PE.weak h ?_
  rintro σ H Q ⟨Bn, Ow, Γ, r, Γ', rs, he, hQ⟩
  simp only [ev] at he
  split at he
  · rename_i p q
    simp only [Option.some.injEq, Prod.mk.injEq] at he
    obtain ⟨rfl, rfl⟩ := he
    obtain ⟨d, b⟩ := p
    have : ∃ v, σ[i]? = some (some v) := by
      cases b with
      | false => obtain ⟨v, e, _⟩ := rs.slot i d q; exact ⟨v, e⟩
      | true => obtain ⟨v, e, _⟩ := rs.own i d q; exact ⟨_, e⟩
    obtain ⟨v, e⟩ := this
    exact ⟨v, e, hQ v H Ow (.refl _ _) rs e⟩
  · cases he
/-- a constant; what stands for it may lean on the written part -/
theorem p_cst {d : D} {v : V} (h : PE X a (tC v)) (hK : X.K = g.K) (k : ∀ A H, (∀ a, A a → g.K.lookup a = none) → Rep g A H d v) : PE X a (tR g fs (.cst d)) := by
  refine PE.weak h ?_
  rintro σ H Q ⟨Bn, Ow, Γ, r, Γ', rs, he, hQ⟩
  simp only [ev, Option.some.injEq, Prod.mk.injEq] at he
  obtain ⟨rfl, rfl⟩ := he
  exact hQ v H Ow (.refl _ _) rs (k _ H rs.kf)

/-! ### operators -/
theorem p_bin {op : BOp} (C : Cok g X) (ha : PE X a (tR g fs ia)) (hb : PE X b (tR g fs ib)) : PE X (.BinOp a (opOf op) b pos) (tR g fs (.bin op ia ib)) := by
  refine PE.weak (pe_op (op_bin C.K op) ha hb) ?_
  rintro σ H Q ⟨Bn, Ow, Γ, r, Γ', rs, he, hQ⟩
  simp only [ev] at he
  obtain ⟨⟨x, Γ1⟩, e1, he⟩ := Option.bind_eq_some_iff.mp he
  obtain ⟨⟨y, Γ2⟩, e2, he⟩ := Option.bind_eq_some_iff.mp he
  obtain ⟨d, ed, he⟩ := Option.bind_eq_some_iff.mp he
  obtain ⟨e, ee, he⟩ := Option.bind_eq_some_iff.mp he
  obtain ⟨r', hb, he⟩ := Option.map_eq_some_iff.mp he
  simp only [Prod.mk.injEq] at he
  obtain ⟨rfl, rfl⟩ := he
  rw [← datum_dn] at ed ee
  exact tR_two rs e1 e2 fun v w H2 O2 s2 r2 v2 w2 => ⟨Av Bn O2, d, e, _, v2.rdb r2 ed, w2.rdb r2 ee, r2.trk, hb, fun v' H' sm res => let ⟨O3, s3, r3, val⟩ := res.val r2 sm; hQ v' H' O3 (s2.trans s3) r3 val⟩
theorem p_neg (ha : PE X a (tR g fs ia)) : PE X (.UnaryOp .USub a pos) (tR g fs (.neg ia)) := by
  refine PE.weak (pe_un un_neg ha) ?_
  rintro σ H Q ⟨Bn, Ow, Γ, r, Γ', rs, he, hQ⟩
  simp only [ev] at he
  obtain ⟨⟨x, Γ1⟩, e1, he⟩ := Option.bind_eq_some_iff.mp he
  obtain ⟨d, ed, he⟩ := Option.bind_eq_some_iff.mp he
  rw [← datum_dn] at ed
  refine tR_one rs e1 fun v H1 O1 s1 r1 v1 => ?_
  have q := v1.rdb r1 ed
  cases d <;> simp only [reduceCtorEq, Option.some.injEq, Prod.mk.injEq] at he
  obtain ⟨rfl, rfl⟩ := he
  exact ⟨_, rdb_int q, hQ _ H1 O1 s1 r1 (by simp only [Val, Rep])⟩
theorem cmp_core {op : COp} {Q : VK} (rs : RS g Bn Ow H σ Γ) {r : RV} (he : ev fs (.cmp op ia ib) Γ = some (r, Γ')) (hQ : ∀ v H' Ow', Stp Ow H Ow' H' → RS g Bn Ow' H' σ Γ' → Val g Bn Ow' H' σ Γ' r v → Q v H') :
    tOp (rCmp g op) (tR g fs ia) (tR g fs ib) σ H Q := by
  simp only [ev] at he
  obtain ⟨⟨x, Γ1⟩, e1, he⟩ := Option.bind_eq_some_iff.mp he
  obtain ⟨⟨y, Γ2⟩, e2, he⟩ := Option.bind_eq_some_iff.mp he
  obtain ⟨d, ed, he⟩ := Option.bind_eq_some_iff.mp he
  obtain ⟨e, ee, he⟩ := Option.bind_eq_some_iff.mp he
  obtain ⟨r', hb, he⟩ := Option.map_eq_some_iff.mp he
  simp only [Prod.mk.injEq] at he
  obtain ⟨rfl, rfl⟩ := he
  rw [← datum_dn] at ed ee
  exact tR_two rs e1 e2 fun v w H2 O2 s2 r2 v2 w2 => ⟨Av Bn O2, d, e, r', v2.rdb r2 ed, w2.rdb r2 ee, hb, hQ _ H2 O2 s2 r2 (by simp only [Val, Rep])⟩
theorem p_cmp {op : COp} (C : Cok g X) (ha : PE X a (tR g fs ia)) (hb : PE X b (tR g fs ib)) (hm : behindInMarks (cmpOf op) b = false) : PE X (.Compare a [cmpOf op] [b] pos) (tR g fs (.cmp op ia ib)) := by
  refine PE.weak (pe_cmpR (op_cmp C.K C.hu op) ha hb hm) ?_
  rintro σ H Q ⟨Bn, Ow, Γ, r, Γ', rs, he, hQ⟩
  exact cmp_core rs he hQ
theorem t_cmp {op : COp} (C : Cok g X) (ha : PE X a (tR g fs ia)) (hb : PE X b (tR g fs ib)) (hm : behindInMarks (cmpOf op) b = false) : PT X (.Compare a [cmpOf op] [b] pos) (tT g fs (.cmp op ia ib)) := by
  refine PT.weak (pt_cmpR (op_cmp C.K C.hu op) ha hb hm) ?_
  rintro σ H Q ⟨Bn, Ow, Γ, r, Γ', t, rs, he, ht, hQ⟩
  refine cmp_core rs he fun v H1 O1 s1 r1 v1 => ?_
  simp only [ev] at he
  obtain ⟨⟨x, Γ1⟩, e1, he⟩ := Option.bind_eq_some_iff.mp he
  obtain ⟨⟨y, Γ2⟩, e2, he⟩ := Option.bind_eq_some_iff.mp he
  obtain ⟨d, ed, he⟩ := Option.bind_eq_some_iff.mp he
  obtain ⟨e, ee, he⟩ := Option.bind_eq_some_iff.mp he
  obtain ⟨r', hb, he⟩ := Option.map_eq_some_iff.mp he
  simp only [Prod.mk.injEq] at he
  obtain ⟨rfl, rfl⟩ := he
  simp only [testD, datum, Option.bind_some, truthD, Option.some.injEq] at ht
  subst ht
  simp only [Val, Rep] at v1
  exact ⟨r', v1, hQ H1 O1 s1 r1⟩
theorem chain_core {o1 o2 : COp} {Q : VK} (rs : RS g Bn Ow H σ Γ) {r : RV} (he : ev fs (.chain o1 o2 ia ib ic) Γ = some (r, Γ')) (hQ : ∀ v H' Ow' (k : Bool), Stp Ow H Ow' H' → RS g Bn Ow' H' σ Γ' → v = .bl k → r = .fz (.bl k) → Q v H') :
    tChain (rCmp g o1) (rCmp g o2) (tR g fs ia) (tR g fs ib) (tR g fs ic) σ H Q := by
  simp only [ev] at he
  obtain ⟨⟨x, Γ1⟩, e1, he⟩ := Option.bind_eq_some_iff.mp he
  obtain ⟨⟨y, Γ2⟩, e2, he⟩ := Option.bind_eq_some_iff.mp he
  obtain ⟨d, ed, he⟩ := Option.bind_eq_some_iff.mp he
  obtain ⟨e, ee, he⟩ := Option.bind_eq_some_iff.mp he
  obtain ⟨k, hb, he⟩ := Option.bind_eq_some_iff.mp he
  rw [← datum_dn] at ed ee
  refine tR_two rs e1 e2 fun v w H2 O2 s2 r2 v2 w2 => ⟨Av Bn O2, d, e, k, v2.rdb r2 ed, w2.rdb r2 ee, hb, k, rfl, ?_⟩
  cases k with
  | false =>
    simp only [Bool.false_eq_true, if_false, Option.some.injEq, Prod.mk.injEq] at he ⊢
    obtain ⟨rfl, rfl⟩ := he
    exact hQ _ H2 O2 false s2 r2 rfl rfl
  | true =>
    simp only [if_true] at he ⊢
    obtain ⟨⟨z, Γ3⟩, e3, he⟩ := Option.bind_eq_some_iff.mp he
    obtain ⟨e', ee', he⟩ := Option.bind_eq_some_iff.mp he
    obtain ⟨f, ef, he⟩ := Option.bind_eq_some_iff.mp he
    obtain ⟨k', hb', he⟩ := Option.map_eq_some_iff.mp he
    simp only [Prod.mk.injEq] at he
    obtain ⟨rfl, rfl⟩ := he
    rw [← datum_dn] at ee' ef
    exact tR_one r2 e3 fun u H3 O3 s3 r3 u3 => ⟨Av Bn O3, e', f, k', (w2.step s3 r3).rdb r3 ee', u3.rdb r3 ef, hb', hQ _ H3 O3 k' (s2.trans s3) r3 rfl rfl⟩
theorem p_chain {o1 o2 : COp} (C : Cok g X) (ha : PE X a (tR g fs ia)) (hb : PE X b (tR g fs ib)) (hc : PE X c (tR g fs ic)) (hm : lastMarks [cmpOf o1, cmpOf o2] [b, c] = false) : PE X (.Compare a [cmpOf o1, cmpOf o2] [b, c] pos) (tR g fs (.chain o1 o2 ia ib ic)) := by
  refine PE.weak (pe_chain (op_cmp C.K C.hu o1) (op_cmp C.K C.hu o2) ha hb hc hm) ?_
  rintro σ H Q ⟨Bn, Ow, Γ, r, Γ', rs, he, hQ⟩
  exact chain_core rs he fun v H1 O1 k s1 r1 e1 e2 => hQ v H1 O1 s1 r1 (by subst e1 e2; simp only [Val, Rep])
theorem t_chain {o1 o2 : COp} (C : Cok g X) (ha : PE X a (tR g fs ia)) (hb : PE X b (tR g fs ib)) (hc : PE X c (tR g fs ic)) (hm : lastMarks [cmpOf o1, cmpOf o2] [b, c] = false) : PT X (.Compare a [cmpOf o1, cmpOf o2] [b, c] pos) (tT g fs (.chain o1 o2 ia ib ic)) := by
  refine PT.weak (pt_chain (op_cmp C.K C.hu o1) (op_cmp C.K C.hu o2) ha hb hc hm) ?_
  rintro σ H Q ⟨Bn, Ow, Γ, r, Γ', t, rs, he, ht, hQ⟩
  refine chain_core rs he fun v H1 O1 k s1 r1 e1 e2 => ⟨k, e1, ?_⟩
  subst e2
  simp only [testD, datum, Option.bind_some, truthD, Option.some.injEq] at ht
  subst ht
  exact hQ H1 O1 s1 r1

/-! ### truth -/
theorem truth_v {A : Addr → Prop} {d : D} {v : V} {k : Bool} (h : Rdb g A H d v) (e : truthD d = some k) : TruV g.K v H k := by
  cases d with
  | non => rw [rdb_non h]; simp only [truthD, Option.some.injEq] at e; exact e.symm
  | bl b => rw [rdb_bl h]; simp only [truthD, Option.some.injEq] at e; exact e.symm
  | int b => rw [rdb_int h]; simp only [truthD, Option.some.injEq] at e; exact e.symm
  | str b => rw [rdb_str h]; simp only [truthD, Option.ite_none_right_eq_some, Option.some.injEq] at e; exact ⟨e.1, e.2.symm⟩
  | lst ds =>
    obtain ⟨a, vs, rfl, e1, r⟩ := h
    simp only [truthD, Option.some.injEq] at e
    refine .inl ⟨vs, .inl (.inl e1), ?_⟩
    have l := r.len
    rw [← e]
    cases ds <;> cases vs <;> simp at l <;> rfl
  | tup ds =>
    obtain ⟨a, vs, rfl, _, e1, r⟩ := rdb_tup h
    simp only [truthD, Option.some.injEq] at e
    refine .inr (.inl ⟨vs, e1, ?_⟩)
    have l := r.len
    rw [← e]
    cases ds <;> cases vs <;> simp at l <;> rfl
  | obj => simp only [truthD, reduceCtorEq] at e
  | dct => simp only [truthD, reduceCtorEq] at e
  | scr ns =>
    obtain ⟨a, rfl, _, e1⟩ := rdb_scr h
    simp only [truthD, Option.some.injEq] at e
    refine .inl ⟨_, e1, ?_⟩
    rw [← e]
    cases ns <;> rfl
theorem test_v {x : RV} {v : V} {k : Bool} (rs : RS g Bn Ow H σ Γ) (h : Val g Bn Ow H σ Γ x v) (e : testD Γ x = some k) : TruV g.K v H k := by
  unfold testD at e
  obtain ⟨d, e1, e2⟩ := Option.bind_eq_some_iff.mp e
  exact truth_v (h.rdb rs e1) e2
theorem t_val (C : Cok g X) (ha : PE X a (tR g fs ia)) (he : ∀ whole, isTrue a X.env whole = (do let v ← whole; standAt a.pos; holding [v] (truthy v))) : PT X a (tT g fs ia) := by
  refine PT.weak (pt_truth ha he) ?_
  rintro σ H Q ⟨Bn, Ow, Γ, r, Γ', t, rs, he, ht, hQ⟩
  exact ⟨Bn, Ow, Γ, r, Γ', rs, he, fun v H1 O1 s1 r1 v1 => ⟨t, by rw [C.K]; exact test_v r1 v1 ht, hQ H1 O1 s1 r1⟩⟩
theorem p_and {rest : List Expr} (C : Cok g X) (ha : PE X a (tR g fs ia)) (hb : PE X (.BoolOp .And (b :: rest) pos) (tR g fs ib)) : PE X (.BoolOp .And (a :: b :: rest) pos) (tR g fs (.and ia ib)) := by
  refine PE.weak (pe_andT ha hb) ?_
  rintro σ H Q ⟨Bn, Ow, Γ, r, Γ', rs, he, hQ⟩
  simp only [ev] at he
  obtain ⟨⟨x, Γ1⟩, e1, he⟩ := Option.bind_eq_some_iff.mp he
  obtain ⟨t, et, he⟩ := Option.bind_eq_some_iff.mp he
  refine ⟨Bn, Ow, Γ, x, Γ1, rs, e1, fun v H1 O1 s1 r1 v1 => ⟨t, by rw [C.K]; exact test_v r1 v1 et, ?_⟩⟩
  cases t with
  | false =>
    simp only [Bool.false_eq_true, if_false, Option.some.injEq, Prod.mk.injEq] at he ⊢
    obtain ⟨rfl, rfl⟩ := he
    exact hQ v H1 O1 s1 r1 v1
  | true =>
    simp only [if_true] at he ⊢
    exact ⟨Bn, O1, Γ1, r, Γ', r1, he, fun w H2 O2 s2 r2 w2 => hQ w H2 O2 (s1.trans s2) r2 w2⟩
theorem p_or {rest : List Expr} (C : Cok g X) (ha : PE X a (tR g fs ia)) (hb : PE X (.BoolOp .Or (b :: rest) pos) (tR g fs ib)) : PE X (.BoolOp .Or (a :: b :: rest) pos) (tR g fs (.or ia ib)) := by
  refine PE.weak (pe_orT ha hb) ?_
  rintro σ H Q ⟨Bn, Ow, Γ, r, Γ', rs, he, hQ⟩
  simp only [ev] at he
  obtain ⟨⟨x, Γ1⟩, e1, he⟩ := Option.bind_eq_some_iff.mp he
  obtain ⟨t, et, he⟩ := Option.bind_eq_some_iff.mp he
  refine ⟨Bn, Ow, Γ, x, Γ1, rs, e1, fun v H1 O1 s1 r1 v1 => ⟨t, by rw [C.K]; exact test_v r1 v1 et, ?_⟩⟩
  cases t with
  | true =>
    simp only [if_true, Option.some.injEq, Prod.mk.injEq] at he ⊢
    obtain ⟨rfl, rfl⟩ := he
    exact hQ v H1 O1 s1 r1 v1
  | false =>
    simp only [Bool.false_eq_true, if_false] at he ⊢
    exact ⟨Bn, O1, Γ1, r, Γ', r1, he, fun w H2 O2 s2 r2 w2 => hQ w H2 O2 (s1.trans s2) r2 w2⟩
theorem p_one {op} (ha : PE X a (tR g fs ia)) : PE X (.BoolOp op [a] pos) (tR g fs ia) := pe_one ha
theorem w_and1 (ha : PT X a (tT g fs ia)) : PW X (.BoolOp .And [a] pos) (tT g fs ia) := pw_and1 ha
theorem w_or1 (ha : PT X a (tT g fs ia)) : PW X (.BoolOp .Or [a] pos) (tT g fs ia) := pw_or1 ha
theorem PW.weak {e : Expr} {t t' : TT} (h : PW X e t) (k : ∀ σ H Q, t' σ H Q → t σ H Q) : PW X e t' := ⟨fun w pins s σ H Q I q => h.run w pins s σ H Q I (k σ H Q q)⟩
theorem w_and {rest : List Expr} (ha : PT X a (tT g fs ia)) (hb : PW X (.BoolOp .And (b :: rest) pos) (tT g fs ib)) : PW X (.BoolOp .And (a :: b :: rest) pos) (tT g fs (.and ia ib)) := by
  refine PW.weak (pw_and ha hb) ?_
  rintro σ H Q ⟨Bn, Ow, Γ, r, Γ', t', rs, he, ht, hQ⟩
  simp only [ev] at he
  obtain ⟨⟨x, Γ1⟩, e1, he⟩ := Option.bind_eq_some_iff.mp he
  obtain ⟨t, et, he⟩ := Option.bind_eq_some_iff.mp he
  refine ⟨Bn, Ow, Γ, x, Γ1, t, rs, e1, et, fun H1 O1 s1 r1 => ?_⟩
  cases t with
  | false =>
    simp only [Bool.false_eq_true, if_false, Option.some.injEq, Prod.mk.injEq] at he ⊢
    obtain ⟨rfl, rfl⟩ := he
    rw [et] at ht; cases ht
    exact hQ H1 O1 s1 r1
  | true =>
    simp only [if_true] at he ⊢
    exact ⟨Bn, O1, Γ1, r, Γ', t', r1, he, ht, fun H2 O2 s2 r2 => hQ H2 O2 (s1.trans s2) r2⟩
theorem w_or {rest : List Expr} (ha : PT X a (tT g fs ia)) (hb : PW X (.BoolOp .Or (b :: rest) pos) (tT g fs ib)) : PW X (.BoolOp .Or (a :: b :: rest) pos) (tT g fs (.or ia ib)) := by
  refine PW.weak (pw_or ha hb) ?_
  rintro σ H Q ⟨Bn, Ow, Γ, r, Γ', t', rs, he, ht, hQ⟩
  simp only [ev] at he
  obtain ⟨⟨x, Γ1⟩, e1, he⟩ := Option.bind_eq_some_iff.mp he
  obtain ⟨t, et, he⟩ := Option.bind_eq_some_iff.mp he
  refine ⟨Bn, Ow, Γ, x, Γ1, t, rs, e1, et, fun H1 O1 s1 r1 => ?_⟩
  cases t with
  | true =>
    simp only [if_true, Option.some.injEq, Prod.mk.injEq] at he ⊢
    obtain ⟨rfl, rfl⟩ := he
    rw [et] at ht; cases ht
    exact hQ H1 O1 s1 r1
  | false =>
    simp only [Bool.false_eq_true, if_false] at he ⊢
    exact ⟨Bn, O1, Γ1, r, Γ', t', r1, he, ht, fun H2 O2 s2 r2 => hQ H2 O2 (s1.trans s2) r2⟩
theorem p_not (C : Cok g X) (ha : PE X a (tR g fs ia)) : PE X (.UnaryOp .Not a pos) (tR g fs (.not ia)) := by
  refine PE.weak (pe_notT ha) ?_
  rintro σ H Q ⟨Bn, Ow, Γ, r, Γ', rs, he, hQ⟩
  simp only [ev] at he
  obtain ⟨⟨x, Γ1⟩, e1, he⟩ := Option.bind_eq_some_iff.mp he
  obtain ⟨t, et, he⟩ := Option.map_eq_some_iff.mp he
  simp only [Prod.mk.injEq] at he
  obtain ⟨rfl, rfl⟩ := he
  exact ⟨Bn, Ow, Γ, x, Γ1, rs, e1, fun v H1 O1 s1 r1 v1 => ⟨t, by rw [C.K]; exact test_v r1 v1 et, hQ _ H1 O1 s1 r1 (by simp only [Val, Rep])⟩⟩
theorem t_not (ha : PT X a (tT g fs ia)) : PT X (.UnaryOp .Not a pos) (tT g fs (.not ia)) := by
  refine PT.weak (pt_not ha) ?_
  rintro σ H Q ⟨Bn, Ow, Γ, r, Γ', t', rs, he, ht, hQ⟩
  simp only [ev] at he
  obtain ⟨⟨x, Γ1⟩, e1, he⟩ := Option.bind_eq_some_iff.mp he
  obtain ⟨t, et, he⟩ := Option.map_eq_some_iff.mp he
  simp only [Prod.mk.injEq] at he
  obtain ⟨rfl, rfl⟩ := he
  simp only [testD, datum, Option.bind_some, truthD, Option.some.injEq] at ht
  subst ht
  exact ⟨Bn, Ow, Γ, x, Γ1, t, rs, e1, et, fun H1 O1 s1 r1 => hQ H1 O1 s1 r1⟩
theorem p_ite (hc : PT X c (tT g fs ic)) (ha : PE X a (tR g fs ia)) (hb : PE X b (tR g fs ib)) : PE X (.IfExp c a b pos) (tR g fs (.ite ic ia ib)) := by
  refine PE.weak (pe_ifExp hc ha hb) ?_
  rintro σ H Q ⟨Bn, Ow, Γ, r, Γ', rs, he, hQ⟩
  simp only [ev] at he
  obtain ⟨⟨x, Γ1⟩, e1, he⟩ := Option.bind_eq_some_iff.mp he
  obtain ⟨t, et, he⟩ := Option.bind_eq_some_iff.mp he
  refine ⟨Bn, Ow, Γ, x, Γ1, t, rs, e1, et, fun H1 O1 s1 r1 => ?_⟩
  cases t with
  | true =>
    simp only [if_true] at he ⊢
    exact ⟨Bn, O1, Γ1, r, Γ', r1, he, fun w H2 O2 s2 r2 w2 => hQ w H2 O2 (s1.trans s2) r2 w2⟩
  | false =>
    simp only [Bool.false_eq_true, if_false] at he ⊢
    exact ⟨Bn, O1, Γ1, r, Γ', r1, he, fun w H2 O2 s2 r2 w2 => hQ w H2 O2 (s1.trans s2) r2 w2⟩

/-! ### argument lists, displays, subscripts -/
theorem a_nil : PA X [] (tAs g fs []) := by
  refine PA.weak pa_nil ?_
  rintro σ H Q ⟨Bn, Ow, Γ, xs, Γ', rs, he, hQ⟩
  simp only [evs, Option.some.injEq, Prod.mk.injEq] at he
  obtain ⟨rfl, rfl⟩ := he
  exact hQ [] H Ow (.refl _ _) rs rfl
theorem a_cons {es : List Expr} {ies : List E} (ha : PE X a (tR g fs ia)) (hr : PA X es (tAs g fs ies)) (hs : starEach (a :: es) X.env = (false, eval a X.env) :: starEach es X.env) : PA X (a :: es) (tAs g fs (ia :: ies)) := by
  refine PA.weak (pa_cons ha hr hs) ?_
  rintro σ H Q ⟨Bn, Ow, Γ, xs, Γ', rs, he, hQ⟩
  simp only [evs] at he
  obtain ⟨⟨x, Γ1⟩, e1, he⟩ := Option.bind_eq_some_iff.mp he
  obtain ⟨⟨ys, Γ2⟩, e2, he⟩ := Option.map_eq_some_iff.mp he
  simp only [Prod.mk.injEq] at he
  obtain ⟨rfl, rfl⟩ := he
  exact tR_one rs e1 fun v H1 O1 s1 r1 v1 => ⟨Bn, O1, Γ1, ys, Γ2, r1, e2, fun vs H2 O2 s2 r2 w2 => hQ (v :: vs) H2 O2 (s1.trans s2) r2 ⟨v, vs, rfl, v1.step s2 r2, w2⟩⟩
theorem p_tup {es : List Expr} {ies : List E} {k : Nat} (C : Cok g X) (h : PA X es (tAs g fs ies)) : PE X (.Tuple es k pos) (tR g fs (.tup ies)) := by
  refine PE.weak (PE.kf (pe_tup h)) ?_
  rintro σ H Q ⟨Bn, Ow, Γ, r, Γ', rs, he, hQ⟩
  simp only [ev] at he
  obtain ⟨⟨xs, Γ1⟩, e1, he⟩ := Option.bind_eq_some_iff.mp he
  obtain ⟨⟨ds, Γ2⟩, e2, he⟩ := Option.bind_eq_some_iff.mp he
  simp only [Option.ite_none_right_eq_some, Option.some.injEq, Prod.mk.injEq] at he
  obtain ⟨hz, rfl, rfl⟩ := he
  refine ⟨Bn, Ow, Γ, xs, Γ1, rs, e1, fun vs H1 O1 s1 r1 v1 => ?_⟩
  obtain ⟨O2, s2, r2, p2⟩ := fres_ok r1 v1 e2
  refine ⟨by rw [← p2.len]; exact hz, fun p np kf => ?_⟩
  obtain ⟨O3, s3, r3, val⟩ := (new_tup np r2.trk p2).val r2 (same_new np)
  exact hQ _ _ O3 ((s1.trans s2).trans s3) r3 val
theorem p_lst {es : List Expr} {ies : List E} (C : Cok g X) (h : PA X es (tAs g fs ies)) : PE X (.List es pos) (tR g fs (.lst ies)) := by
  refine PE.weak (PE.kf (pe_lst h)) ?_
  rintro σ H Q ⟨Bn, Ow, Γ, r, Γ', rs, he, hQ⟩
  simp only [ev] at he
  obtain ⟨⟨xs, Γ1⟩, e1, he⟩ := Option.bind_eq_some_iff.mp he
  obtain ⟨⟨ds, Γ2⟩, e2, he⟩ := Option.bind_eq_some_iff.mp he
  simp only [Option.ite_none_right_eq_some, Option.some.injEq, Prod.mk.injEq] at he
  obtain ⟨hz, rfl, rfl⟩ := he
  refine ⟨Bn, Ow, Γ, xs, Γ1, rs, e1, fun vs H1 O1 s1 r1 v1 => ?_⟩
  obtain ⟨O2, s2, r2, p2⟩ := fres_ok r1 v1 e2
  refine ⟨by rw [← p2.len]; exact hz, fun p np kf => ?_⟩
  have kf' : g.K.lookup p = none := by rw [← C.K]; exact kf_new kf upd_same
  obtain ⟨O3, s3, r3, val⟩ := (new_lst np kf' p2).val r2 (same_new np)
  exact hQ _ _ O3 ((s1.trans s2).trans s3) r3 val
theorem reps_at {A : Addr → Prop} {ds : List D} {vs : List V} {i : Int} {d : D} (h : Reps g A H ds vs) (e : atI ds i = some d) : ∃ v, atI vs i = some v ∧ Rep g A H d v := by
  unfold atI at e ⊢
  rw [← h.len]
  obtain ⟨j, e1, e2⟩ := Option.bind_eq_some_iff.mp e
  obtain ⟨v, e3, r⟩ := h.get e2
  exact ⟨v, by rw [e1]; exact e3, r⟩
theorem atI_map {α β : Type} {f : α → β} {xs : List α} {i : Int} {x : α} (e : atI xs i = some x) : atI (xs.map f) i = some (f x) := by
  unfold atI at e ⊢
  obtain ⟨j, e1, e2⟩ := Option.bind_eq_some_iff.mp e
  rw [List.length_map, e1]
  show (xs.map f)[j]? = _
  rw [List.getElem?_map, e2]
  rfl
theorem ix_core {A : Addr → Prop} {d e r : D} {v w : V} {Q : VK} (hv : Rdb g A H d v) (hw : Rdb g A H e w) (h : ixD d e = some r) (hQ : ∀ u, Rep g A H r u → Q u H) : rIx g.K v w H Q := by
  cases d <;> cases e <;> simp only [ixD, reduceCtorEq] at h
  · split at h
    · obtain ⟨c, e1, rfl⟩ := Option.map_eq_some_iff.mp h
      rename_i hz
      exact .inr (.inr ⟨_, _, c, rdb_str hv, rdb_int hw, hz, e1, hQ _ (by simp only [Rep])⟩)
    · cases h
  · obtain ⟨a, vs, rfl, e1, r1⟩ := hv
    obtain ⟨u, eu, ru⟩ := reps_at r1 h
    exact .inl ⟨a, vs, _, u, rfl, rdb_int hw, .inl (.inl e1), eu, hQ _ ru⟩
  · obtain ⟨a, vs, rfl, _, e1, r1⟩ := rdb_tup hv
    obtain ⟨u, eu, ru⟩ := reps_at r1 h
    exact .inr (.inl ⟨a, vs, _, u, rfl, rdb_int hw, e1, eu, hQ _ ru⟩)
  · obtain ⟨a, rfl, _, e1⟩ := rdb_scr hv
    obtain ⟨i, e2, rfl⟩ := Option.map_eq_some_iff.mp h
    exact .inl ⟨a, _, _, _, rfl, rdb_int hw, e1, atI_map e2, hQ _ (by simp only [Rep])⟩
theorem p_ix (C : Cok g X) (ha : PE X a (tR g fs ia)) (hb : PE X b (tR g fs ib)) (hs : PlainIx b) : PE X (.Subscript a b pos) (tR g fs (.ix ia ib)) := by
  refine PE.weak (pe_ix ix_seq ha hb hs) ?_
  rintro σ H Q ⟨Bn, Ow, Γ, r, Γ', rs, he, hQ⟩
  simp only [ev] at he
  obtain ⟨⟨x, Γ1⟩, e1, he⟩ := Option.bind_eq_some_iff.mp he
  obtain ⟨⟨y, Γ2⟩, e2, he⟩ := Option.bind_eq_some_iff.mp he
  obtain ⟨d, ed, he⟩ := Option.bind_eq_some_iff.mp he
  obtain ⟨e, ee, he⟩ := Option.bind_eq_some_iff.mp he
  obtain ⟨r', hb, he⟩ := Option.map_eq_some_iff.mp he
  simp only [Prod.mk.injEq] at he
  obtain ⟨rfl, rfl⟩ := he
  rw [← datum_dn] at ed ee
  refine tR_two rs e1 e2 fun v w H2 O2 s2 r2 v2 w2 => ?_
  rw [C.K]
  exact ix_core (v2.rdb r2 ed) (w2.rdb r2 ee) hb fun u ru => hQ u H2 O2 s2 r2 ru
theorem reps_cut {A : Addr → Prop} {ds : List D} {vs : List V} (lo hi : Option Int) (h : Reps g A H ds vs) : Reps g A H (cutD ds lo hi) (cutV vs lo hi) := by
  unfold cutD cutV
  rw [h.len]
  exact (h.drop _).take _
theorem reps_ints {A : Addr → Prop} : ∀ ns : List Int, Reps g A H (ns.map D.int) (ns.map V.int)
  | [] => by simp only [List.map_nil, Reps]
  | n :: ns => by
    simp only [List.map_cons, Reps]
    exact ⟨_, _, rfl, by simp only [Rep], reps_ints ns⟩
theorem slc_core {A : Addr → Prop} {d : D} {r : RV} {v : V} {lo hi : Option Int} {Q : VK} (hv : Rdb g A H d v) (tr : ∀ a, A a → H a ≠ none) (h : slcD d lo hi = some r) (hQ : ∀ u H', Same H H' → ((∀ a o, g.K.lookup a = some o → H' a = none) → Res g A H H' r u) → Q u H') :
    rSlL g.K v lo hi H Q ∨ rSlT g.K v lo hi H Q := by
  cases d <;> simp only [slcD, reduceCtorEq, Option.some.injEq, Option.ite_none_left_eq_some] at h
  · subst h
    obtain ⟨a, vs, rfl, e1, r1⟩ := hv
    exact .inl ⟨a, vs, rfl, .inl (.inl e1), fun p np => hQ _ _ (same_new np) fun kf => new_lst np (kf_new kf upd_same) (reps_cut lo hi r1)⟩
  · obtain ⟨hz, rfl⟩ := h
    obtain ⟨a, vs, rfl, _, e1, r1⟩ := rdb_tup hv
    refine .inr ⟨a, vs, rfl, e1, by rw [← r1.len]; exact hz, fun p np => hQ _ _ (same_new np) fun kf => new_tup np tr (reps_cut lo hi r1)⟩
  · subst h
    obtain ⟨a, rfl, _, e1⟩ := rdb_scr hv
    exact .inl ⟨a, _, rfl, e1, fun p np => hQ _ _ (same_new np) fun kf => new_lst np (kf_new kf upd_same) (reps_cut lo hi (reps_ints _))⟩
/-- a part of a slice -/
def partOf : Option Expr → List Expr
  | none => []
  | some e => [e]
structure Part (g : Gx) (fs : List FS) (X : Cx) (e : Option Expr) (ies : List E) : Prop where
  run : (e = none ∧ ies = []) ∨ ∃ a ia, e = some a ∧ ies = [ia] ∧ PE X a (tR g fs ia)
theorem p_slc {lo hi : Option Expr} {il ih : List E} {p2 : Pos} (C : Cok g X) (ha : PE X a (tR g fs ia)) (hl : Part g fs X lo il) (hh : Part g fs X hi ih) : PE X (.Subscript a (.Slice lo hi none p2) pos) (tR g fs (.slc ia il ih)) := by
  -- the reading of a part
  have part : ∀ {e : Option Expr} {ies : List E}, Part g fs X e ies → ∃ t, PO X e t ∧ ∀ {Bn Ow Γ xs Γ' ds o σ H} {Q : Option Int → Hp → Prop}, RS g Bn Ow H σ Γ → evs fs ies Γ = some (xs, Γ') → datums Γ' xs = some ds → slO ds = some o →
      (∀ H' Ow', Stp Ow H Ow' H' → RS g Bn Ow' H' σ Γ' → Q o H') → t σ H Q := by
    intro e ies h
    rcases h.run with ⟨rfl, rfl⟩ | ⟨b, ib, rfl, rfl, hb⟩
    · refine ⟨_, po_none, fun {Bn Ow Γ xs Γ' ds o σ H Q} rs e1 e2 e3 k => ?_⟩
      simp only [evs, Option.some.injEq, Prod.mk.injEq] at e1
      obtain ⟨rfl, rfl⟩ := e1
      simp only [datums, Option.some.injEq] at e2
      subst e2
      simp only [slO, Option.some.injEq] at e3
      subst e3
      exact k H Ow (.refl _ _) rs
    · refine ⟨_, po_some hb, fun {Bn Ow Γ xs Γ' ds o σ H Q} rs e1 e2 e3 k => ?_⟩
      simp only [evs] at e1
      obtain ⟨⟨x, Γ1⟩, e4, e1⟩ := Option.bind_eq_some_iff.mp e1
      simp only [Option.map_some, Option.some.injEq, Prod.mk.injEq] at e1
      obtain ⟨rfl, rfl⟩ := e1
      simp only [datums] at e2
      obtain ⟨d, e5, e2⟩ := Option.bind_eq_some_iff.mp e2
      simp only [Option.map_some, Option.some.injEq] at e2
      subst e2
      rw [← datum_dn] at e5
      refine tR_one rs e4 fun v H1 O1 s1 r1 v1 => ?_
      have q := v1.rdb r1 e5
      cases d <;> simp only [slO, reduceCtorEq, Option.some.injEq] at e3
      subst e3
      exact ⟨_, rdb_int q, k H1 O1 s1 r1⟩
  obtain ⟨tl, pl, kl⟩ := part hl
  obtain ⟨th, ph, kh⟩ := part hh
  refine PE.weak (PE.kf (pe_slice (sl_list.or sl_tup) ha pl ph)) ?_
  rintro σ H Q ⟨Bn, Ow, Γ, r, Γ', rs, he, hQ⟩
  simp only [ev] at he
  obtain ⟨⟨x, Γ1⟩, e1, he⟩ := Option.bind_eq_some_iff.mp he
  obtain ⟨⟨ys, Γ2⟩, e2, he⟩ := Option.bind_eq_some_iff.mp he
  obtain ⟨l, el, he⟩ := Option.bind_eq_some_iff.mp he
  obtain ⟨⟨zs, Γ3⟩, e3, he⟩ := Option.bind_eq_some_iff.mp he
  obtain ⟨d, ed, he⟩ := Option.bind_eq_some_iff.mp he
  obtain ⟨h, eh, he⟩ := Option.bind_eq_some_iff.mp he
  obtain ⟨lo', el', he⟩ := Option.bind_eq_some_iff.mp he
  obtain ⟨hi', eh', he⟩ := Option.bind_eq_some_iff.mp he
  obtain ⟨r', hb, he⟩ := Option.map_eq_some_iff.mp he
  simp only [Prod.mk.injEq] at he
  obtain ⟨rfl, rfl⟩ := he
  rw [← datum_dn] at ed
  refine tR_one rs e1 fun v H1 O1 s1 r1 v1 => kl r1 e2 el el' fun H2 O2 s2 r2 => kh r2 e3 eh eh' fun H3 O3 s3 r3 => ?_
  rw [C.K]
  have v3 := ((v1.step s2 r2).step s3 r3).rdb r3 ed
  refine slc_core v3 r3.trk hb fun u H' sm kr kf => ?_
  obtain ⟨O4, s4, r4, val⟩ := (kr kf).val r3 sm
  exact hQ u H' O4 (((s1.trans s2).trans s3).trans s4) r4 val
end
end DV

namespace DV
open PySem L2
/-! ### built-ins on data -/
def rBi (g : Gx) (b : Bi) : List V → Hp → VK → Prop := fun vs H Q => ∃ A ds r, Paired (fun d v => Rdb g A H d v) ds vs ∧ (∀ a, A a → H a ≠ none) ∧ biD b ds = some r ∧ ∀ v H', Same H H' → Res g A H H' r v → Q v H'
theorem maxI_spec : ∀ {ns : List Int} {m : Int}, maxI ns = some m → m ∈ ns ∧ ∀ y ∈ ns, y ≤ m := by
  have go : ∀ (r : List Int) (x : Int), (r.foldl (fun a b => if a < b then b else a) x) ∈ x :: r ∧ ∀ y ∈ x :: r, y ≤ r.foldl (fun a b => if a < b then b else a) x := by
    intro r
    induction r with
    | nil => intro x; exact ⟨List.mem_cons_self, fun y hy => by simp at hy; rw [hy]; exact Int.le_refl _⟩
    | cons z r ih =>
      intro x
      rw [List.foldl_cons]
      have q := ih (if x < z then z else x)
      refine ⟨?_, fun y hy => ?_⟩
      · rcases List.mem_cons.mp q.1 with h | h
        · rw [h]; split
          · simp
          · simp
        · simp [h]
      · have q2 := q.2 _ List.mem_cons_self
        have b1 : x ≤ (if x < z then z else x) := by split <;> omega
        have b2 : z ≤ (if x < z then z else x) := by split <;> omega
        rcases List.mem_cons.mp hy with h | h
        · rw [h]; exact Int.le_trans b1 q2
        · rcases List.mem_cons.mp h with h | h
          · rw [h]; exact Int.le_trans b2 q2
          · exact q.2 y (List.mem_cons_of_mem _ h)
  intro ns m h
  cases ns with
  | nil => simp [maxI] at h
  | cons x r => simp only [maxI, Option.some.injEq] at h; subst h; exact go r x
theorem minI_spec : ∀ {ns : List Int} {m : Int}, minI ns = some m → m ∈ ns ∧ ∀ y ∈ ns, m ≤ y := by
  have go : ∀ (r : List Int) (x : Int), (r.foldl (fun a b => if b < a then b else a) x) ∈ x :: r ∧ ∀ y ∈ x :: r, r.foldl (fun a b => if b < a then b else a) x ≤ y := by
    intro r
    induction r with
    | nil => intro x; exact ⟨List.mem_cons_self, fun y hy => by simp at hy; rw [hy]; exact Int.le_refl _⟩
    | cons z r ih =>
      intro x
      rw [List.foldl_cons]
      have q := ih (if z < x then z else x)
      refine ⟨?_, fun y hy => ?_⟩
      · rcases List.mem_cons.mp q.1 with h | h
        · rw [h]; split
          · simp
          · simp
        · simp [h]
      · have q2 := q.2 _ List.mem_cons_self
        have b1 : (if z < x then z else x) ≤ x := by split <;> omega
        have b2 : (if z < x then z else x) ≤ z := by split <;> omega
        rcases List.mem_cons.mp hy with h | h
        · rw [h]; exact Int.le_trans q2 b1
        · rcases List.mem_cons.mp h with h | h
          · rw [h]; exact Int.le_trans q2 b2
          · exact q.2 y (List.mem_cons_of_mem _ h)
  intro ns m h
  cases ns with
  | nil => simp [minI] at h
  | cons x r => simp only [minI, Option.some.injEq] at h; subst h; exact go r x
section
variable {X : Cx} {g : Gx} {A : Addr → Prop} {H : Hp}
theorem ints_of : ∀ {ds : List D} {vs : List V} {ns : List Int}, Reps g A H ds vs → intsD ds = some ns → vs = ns.map V.int
  | [], _, ns, h, e => by simp only [Reps] at h; simp only [intsD, Option.some.injEq] at e; subst h e; rfl
  | d :: ds, _, ns, h, e => by
    simp only [Reps] at h
    obtain ⟨v, r, rfl, h1, h2⟩ := h
    cases d <;> simp only [intsD, reduceCtorEq] at e
    obtain ⟨ms, e1, rfl⟩ := Option.map_eq_some_iff.mp e
    simp only [Rep] at h1
    rw [List.map_cons, h1, ints_of h2 e1]
theorem bls_of : ∀ {ds : List D} {vs : List V} {ns : List Bool}, Reps g A H ds vs → blsD ds = some ns → vs = ns.map V.bl
  | [], _, ns, h, e => by simp only [Reps] at h; simp only [blsD, Option.some.injEq] at e; subst h e; rfl
  | d :: ds, _, ns, h, e => by
    simp only [Reps] at h
    obtain ⟨v, r, rfl, h1, h2⟩ := h
    cases d <;> simp only [blsD, reduceCtorEq] at e
    obtain ⟨ms, e1, rfl⟩ := Option.map_eq_some_iff.mp e
    simp only [Rep] at h1
    rw [List.map_cons, h1, bls_of h2 e1]
theorem intsD_len : ∀ {ds : List D} {ns : List Int}, intsD ds = some ns → ds.length = ns.length
  | [], ns, e => by simp only [intsD, Option.some.injEq] at e; subst e; rfl
  | d :: ds, ns, e => by
    cases d <;> simp only [intsD, reduceCtorEq] at e
    obtain ⟨ms, e1, rfl⟩ := Option.map_eq_some_iff.mp e
    rw [List.length_cons, List.length_cons, intsD_len e1]
theorem pd1 {ds : List D} {v : V} (h : Paired (fun d v => Rdb g A H d v) ds [v]) : ∃ d, ds = [d] ∧ Rdb g A H d v := by
  cases h with
  | cons a b => cases b; exact ⟨_, rfl, a⟩
theorem bi1 {b : Bi} {f : Value} {r : List V → Hp → VK → Prop} (hK : X.K = g.K) (h : CallR X f r)
    (k : ∀ (A : Addr → Prop) (H : Hp) (ds : List D) (vs : List V) (x : RV) (Q : VK), Paired (fun d v => Rdb g A H d v) ds vs → (∀ a, A a → H a ≠ none) → biD b ds = some x → (∀ v H', Same H H' → ((∀ a o, g.K.lookup a = some o → H' a = none) → Res g A H H' x v) → Q v H') → r vs H Q) : CallR X f (rBi g b) := by
  refine CallR.weak (CallR.kf h) ?_
  rintro vs H Q ⟨A, ds, x, hp, tr, hb, hQ⟩
  exact k A H ds vs x _ hp tr hb fun v H' sm kr kf => hQ v H' sm (kr fun a o e => kf a o (by rw [hK]; exact e))
theorem paired1 {x : D} {vs : List V} (h : Paired (fun d v => Rdb g A H d v) [x] vs) : ∃ v, vs = [v] ∧ Rdb g A H x v := by
  cases h with
  | cons a b => cases b; exact ⟨_, rfl, a⟩
theorem paired2 {x y : D} {vs : List V} (h : Paired (fun d v => Rdb g A H d v) [x, y] vs) : ∃ v w, vs = [v, w] ∧ Rdb g A H x v ∧ Rdb g A H y w := by
  cases h with
  | cons a b =>
    cases b with
    | cons c d => cases d; exact ⟨_, _, rfl, a, c⟩
theorem b_len (hK : X.K = g.K) : CallR X (.builtin "len") (rBi g .len) := by
  refine bi1 hK call_len ?_
  intro A H ds vs x Q hp tr hb hQ
  rw [hK]
  match ds, hb with
  | [.lst xs], hb =>
    simp only [biD, Option.some.injEq] at hb; subst hb
    obtain ⟨v, rfl, q⟩ := paired1 hp
    obtain ⟨a, ws, rfl, e1, r1⟩ := q
    exact ⟨_, ws.length, rfl, .inl ⟨ws, .inl (.inl e1), rfl⟩, hQ _ H (same_rfl H) fun _ => by simp only [Res, Rep, r1.len]⟩
  | [.tup xs], hb =>
    simp only [biD, Option.some.injEq] at hb; subst hb
    obtain ⟨v, rfl, q⟩ := paired1 hp
    obtain ⟨a, ws, rfl, _, e1, r1⟩ := rdb_tup q
    exact ⟨_, ws.length, rfl, .inr ⟨ws, e1, rfl⟩, hQ _ H (same_rfl H) fun _ => by simp only [Res, Rep, r1.len]⟩
  | [.scr ns], hb =>
    simp only [biD, Option.some.injEq] at hb; subst hb
    obtain ⟨v, rfl, q⟩ := paired1 hp
    obtain ⟨a, rfl, _, e1⟩ := rdb_scr q
    exact ⟨_, _, rfl, .inl ⟨_, e1, rfl⟩, hQ _ H (same_rfl H) fun _ => by simp only [Res, Rep, List.length_map]⟩
  | [.str s], hb =>
    simp only [biD, Option.ite_none_right_eq_some, Option.some.injEq] at hb
    obtain ⟨hz, rfl⟩ := hb
    obtain ⟨v, rfl, q⟩ := paired1 hp
    exact ⟨_, s.length, rfl, by rw [rdb_str q]; exact ⟨hz, rfl⟩, hQ _ H (same_rfl H) fun _ => by simp only [Res, Rep]⟩
theorem b_int (hK : X.K = g.K) : CallR X (.type "int") (rBi g .int1) := by
  refine bi1 hK call_int1 ?_
  intro A H ds vs x Q hp tr hb hQ
  match ds, hb with
  | [.int i], hb =>
    simp only [biD, Option.some.injEq] at hb; subst hb
    obtain ⟨v, rfl, q⟩ := paired1 hp
    exact .inl ⟨i, by rw [rdb_int q], hQ _ H (same_rfl H) fun _ => by simp only [Res, Rep]⟩
  | [.bl i], hb =>
    simp only [biD, Option.some.injEq] at hb; subst hb
    obtain ⟨v, rfl, q⟩ := paired1 hp
    exact .inr ⟨i, by rw [rdb_bl q], hQ _ H (same_rfl H) fun _ => by simp only [Res, Rep]⟩
theorem b_abs (hK : X.K = g.K) : CallR X (.builtin "abs") (rBi g .abs) := by
  refine bi1 hK call_abs ?_
  intro A H ds vs x Q hp tr hb hQ
  match ds, hb with
  | [.int i], hb =>
    simp only [biD, Option.some.injEq] at hb; subst hb
    obtain ⟨v, rfl, q⟩ := paired1 hp
    exact ⟨i, by rw [rdb_int q], hQ _ H (same_rfl H) fun _ => by simp only [Res, Rep]⟩
theorem b_max2 (C : Cok g X) : CallR X (.builtin "max") (rBi g .max2) := by
  refine bi1 C.K (call_max2 C.calm) ?_
  intro A H ds vs x Q hp tr hb hQ
  match ds, hb with
  | [.int i, .int j], hb =>
    simp only [biD, Option.some.injEq] at hb; subst hb
    obtain ⟨v, w, rfl, q, q'⟩ := paired2 hp
    exact ⟨i, j, by rw [rdb_int q, rdb_int q'], hQ _ H (same_rfl H) fun _ => by simp only [Res, Rep]⟩
theorem b_min2 (C : Cok g X) : CallR X (.builtin "min") (rBi g .min2) := by
  refine bi1 C.K (call_min2 C.calm) ?_
  intro A H ds vs x Q hp tr hb hQ
  match ds, hb with
  | [.int i, .int j], hb =>
    simp only [biD, Option.some.injEq] at hb; subst hb
    obtain ⟨v, w, rfl, q, q'⟩ := paired2 hp
    exact ⟨i, j, by rw [rdb_int q, rdb_int q'], hQ _ H (same_rfl H) fun _ => by simp only [Res, Rep]⟩
theorem b_maxl (C : Cok g X) : CallR X (.builtin "max") (rBi g .maxl) := by
  refine bi1 C.K (cr_max C.calm) ?_
  intro A H ds vs x Q hp tr hb hQ
  match ds, hb with
  | [.lst xs], hb =>
    simp only [biD] at hb
    obtain ⟨ns, e1, hb⟩ := Option.bind_eq_some_iff.mp hb
    obtain ⟨m, e2, rfl⟩ := Option.map_eq_some_iff.mp hb
    obtain ⟨v, rfl, q⟩ := paired1 hp
    obtain ⟨a, ws, rfl, e3, r1⟩ := q
    rw [ints_of r1 e1] at e3
    have sp := maxI_spec e2
    refine ⟨a, ns, rfl, .inl (.inl e3), List.length_pos_of_mem sp.1, fun m' h1 h2 => hQ _ H (same_rfl H) fun _ => ?_⟩
    simp only [Res, Rep]
    rw [Int.le_antisymm (sp.2 m' h1) (h2 m sp.1)]
theorem b_minl (C : Cok g X) : CallR X (.builtin "min") (rBi g .minl) := by
  refine bi1 C.K (cr_min C.calm) ?_
  intro A H ds vs x Q hp tr hb hQ
  match ds, hb with
  | [.lst xs], hb =>
    simp only [biD] at hb
    obtain ⟨ns, e1, hb⟩ := Option.bind_eq_some_iff.mp hb
    obtain ⟨m, e2, rfl⟩ := Option.map_eq_some_iff.mp hb
    obtain ⟨v, rfl, q⟩ := paired1 hp
    obtain ⟨a, ws, rfl, e3, r1⟩ := q
    rw [ints_of r1 e1] at e3
    have sp := minI_spec e2
    refine ⟨a, ns, rfl, .inl (.inl e3), List.length_pos_of_mem sp.1, fun m' h1 h2 => hQ _ H (same_rfl H) fun _ => ?_⟩
    simp only [Res, Rep]
    rw [Int.le_antisymm (h2 m sp.1) (sp.2 m' h1)]
theorem b_suml (C : Cok g X) : CallR X (.builtin "sum") (rBi g .suml) := by
  refine bi1 C.K (cr_sum C.calm) ?_
  intro A H ds vs x Q hp tr hb hQ
  match ds, hb with
  | [.lst xs], hb =>
    simp only [biD] at hb
    obtain ⟨ns, e1, rfl⟩ := Option.map_eq_some_iff.mp hb
    obtain ⟨v, rfl, q⟩ := paired1 hp
    obtain ⟨a, ws, rfl, e3, r1⟩ := q
    rw [ints_of r1 e1] at e3
    exact ⟨a, ns, rfl, .inl (.inl e3), hQ _ H (same_rfl H) fun _ => by simp only [Res, Rep]⟩
theorem b_alll (C : Cok g X) : CallR X (.builtin "all") (rBi g .alll) := by
  refine bi1 C.K (cr_all C.calm) ?_
  intro A H ds vs x Q hp tr hb hQ
  match ds, hb with
  | [.lst xs], hb =>
    simp only [biD] at hb
    obtain ⟨ns, e1, rfl⟩ := Option.map_eq_some_iff.mp hb
    obtain ⟨v, rfl, q⟩ := paired1 hp
    obtain ⟨a, ws, rfl, e3, r1⟩ := q
    rw [bls_of r1 e1] at e3
    exact ⟨a, ns, rfl, .inl (.inl e3), hQ _ H (same_rfl H) fun _ => by simp only [Res, Rep]⟩
theorem b_anyl (C : Cok g X) : CallR X (.builtin "any") (rBi g .anyl) := by
  refine bi1 C.K (cr_any C.calm) ?_
  intro A H ds vs x Q hp tr hb hQ
  match ds, hb with
  | [.lst xs], hb =>
    simp only [biD] at hb
    obtain ⟨ns, e1, rfl⟩ := Option.map_eq_some_iff.mp hb
    obtain ⟨v, rfl, q⟩ := paired1 hp
    obtain ⟨a, ws, rfl, e3, r1⟩ := q
    rw [bls_of r1 e1] at e3
    exact ⟨a, ns, rfl, .inl (.inl e3), hQ _ H (same_rfl H) fun _ => by simp only [Res, Rep]⟩
theorem b_list (hK : X.K = g.K) : CallR X (.type "list") (rBi g .list) := by
  refine bi1 hK call_list_of ?_
  intro A H ds vs x Q hp tr hb hQ
  rw [hK]
  match ds, hb with
  | [.lst xs], hb =>
    simp only [biD, Option.some.injEq] at hb; subst hb
    obtain ⟨v, rfl, q⟩ := paired1 hp
    obtain ⟨a, ws, rfl, e1, r1⟩ := q
    exact ⟨a, ws, rfl, .inl (.inl (.inl e1)), fun p np => hQ _ _ (same_new np) fun kf => new_lst np (kf_new kf upd_same) r1⟩
  | [.tup xs], hb =>
    simp only [biD, Option.some.injEq] at hb; subst hb
    obtain ⟨v, rfl, q⟩ := paired1 hp
    obtain ⟨a, ws, rfl, _, e1, r1⟩ := rdb_tup q
    exact ⟨a, ws, rfl, .inr e1, fun p np => hQ _ _ (same_new np) fun kf => new_lst np (kf_new kf upd_same) r1⟩
theorem b_tuple (hK : X.K = g.K) : CallR X (.type "tuple") (rBi g .tuple) := by
  refine bi1 hK call_tuple_of ?_
  intro A H ds vs x Q hp tr hb hQ
  rw [hK]
  match ds, hb with
  | [.lst xs], hb =>
    simp only [biD, Option.some.injEq] at hb; subst hb
    obtain ⟨v, rfl, q⟩ := paired1 hp
    obtain ⟨a, ws, rfl, e1, r1⟩ := q
    exact ⟨a, ws, rfl, .inl ⟨.inl (.inl e1), fun p np => hQ _ _ (same_new np) fun kf => new_tup np tr r1⟩⟩
  | [.tup xs], hb =>
    simp only [biD, Option.some.injEq] at hb; subst hb
    obtain ⟨v, rfl, q⟩ := paired1 hp
    have q0 := q
    obtain ⟨a, ws, rfl, _, e1, r1⟩ := rdb_tup q
    exact ⟨a, ws, rfl, .inr ⟨e1, hQ _ H (same_rfl H) fun _ => q0⟩⟩
def tyN : Ty → String
  | .int => "int" | .bool => "bool" | .str => "str" | .list => "list" | .tuple => "tuple"
/-- isinstance(x, T): the reading of the two arguments -/
theorem isi_core {t : Ty} {d : D} {v : V} {Q : VK} (hs : shallow d = true) (h : Rdb g A H d v) (hQ : Q (.bl (isiD t d)) H) : rIsi g.K [v, .ty (tyN t)] H Q := by
  cases d with
  | obj => simp [shallow] at hs
  | scr => simp [shallow] at hs
  | dct =>
    obtain ⟨a, rfl, _, e1⟩ := rdb_dct h
    exact ⟨_, _, _, _, isiD t .dct, rfl, .ty _, .base (.dK e1), kit_ty (by cases t <;> (simp only [isiD, tyN]; decide +kernel)), hQ⟩
  | non => rw [rdb_non h]; exact ⟨_, _, _, _, isiD t .non, rfl, .ty _, .base .non, kit_ty (by cases t <;> decide +kernel), hQ⟩
  | bl b => rw [rdb_bl h]; exact ⟨_, _, _, _, isiD t (.bl b), rfl, .ty _, .base (.bl b), kit_ty (by cases t <;> (simp only [isiD, tyN]; decide +kernel)), hQ⟩
  | int b => rw [rdb_int h]; exact ⟨_, _, _, _, isiD t (.int b), rfl, .ty _, .base (.int b), kit_ty (by cases t <;> (simp only [isiD, tyN]; decide +kernel)), hQ⟩
  | str b => rw [rdb_str h]; exact ⟨_, _, _, _, isiD t (.str b), rfl, .ty _, .base (.str b), kit_ty (by cases t <;> (simp only [isiD, tyN]; decide +kernel)), hQ⟩
  | lst b =>
    obtain ⟨a, ws, rfl, e1, r1⟩ := h
    exact ⟨_, _, _, _, isiD t (.lst b), rfl, .ty _, .base (.lst e1), kit_ty (by cases t <;> (simp only [isiD, tyN]; decide +kernel)), hQ⟩
  | tup b =>
    obtain ⟨a, ws, rfl, _, e1, r1⟩ := rdb_tup h
    have k : PySem.W.kitOne g.K (.type "tuple") (.type (tyN t)) = some (isiD t (.tup b)) := kit_ty (by cases t <;> (simp only [isiD, tyN]; decide +kernel))
    rcases e1 with (e1 | ⟨o, e1⟩) | ⟨o, its, n, e1, e2, _⟩
    · exact ⟨_, _, _, _, _, rfl, .ty _, .base (.tup e1), k, hQ⟩
    · exact ⟨_, _, _, _, _, rfl, .ty _, .fTuple e1, k, hQ⟩
    · exact ⟨_, _, _, _, _, rfl, .ty _, .kTuple e1 e2, k, hQ⟩
end
section
variable {X : Cx} {g : Gx} {fs : List FS} {e : Expr} {es : List Expr} {ies : List E} {x : Str} {id T : String} {b : Bi} {p pos : Pos}
theorem bi_core {Bn : Addr → Prop} {Ow : List Addr} {H : Hp} {σ : St} {Γ Γ' : Ct} {r : RV} {Q : VK} (rs : RS g Bn Ow H σ Γ) (he : ev fs (.bi b ies) Γ = some (r, Γ')) (hQ : ∀ v H' Ow', Stp Ow H Ow' H' → RS g Bn Ow' H' σ Γ' → Val g Bn Ow' H' σ Γ' r v → Q v H') :
    tCB (rBi g b) (tAs g fs ies) σ H Q := by
  simp only [ev] at he
  obtain ⟨⟨xs, Γ1⟩, e1, he⟩ := Option.bind_eq_some_iff.mp he
  obtain ⟨ds, e2, he⟩ := Option.bind_eq_some_iff.mp he
  obtain ⟨r', e3, he⟩ := Option.map_eq_some_iff.mp he
  simp only [Prod.mk.injEq] at he
  obtain ⟨rfl, rfl⟩ := he
  refine ⟨Bn, Ow, Γ, xs, Γ1, rs, e1, fun vs H1 O1 s1 r1 v1 => ?_⟩
  exact ⟨Av Bn O1, ds, _, datums_ok r1 v1 e2, r1.trk, e3, fun v H' sm res => let ⟨O3, s3, r3, val⟩ := res.val r1 sm; hQ v H' O3 (s1.trans s3) r3 val⟩
theorem p_biB (hc : CallR X (.builtin id) (rBi g b)) (hg : Gl X x) (hm : X.mg x = none) (hv : bootBuiltins x = some (.builtin id)) (ha : PA X (e :: es) (tAs g fs ies)) (hn : x ≠ "__name__") (hdb : (x == ("__debug__" : Str)) = false)
    (he : starEach (e :: es) X.env = (false, eval e X.env) :: starEach es X.env) (hpl : (backTo pos (starEach es X.env)).any (·.1) = false) : PE X (.Call (.Name x p) (e :: es) [] pos) (tR g fs (.bi b ies)) := by
  refine PE.weak (pe_callB hc hg hm hv ha hn hdb he hpl) ?_
  rintro σ H Q ⟨Bn, Ow, Γ, r, Γ', rs, he, hQ⟩
  exact bi_core rs he hQ
theorem p_biT (hc : CallR X (.type T) (rBi g b)) (hg : Gl X x) (hm : X.mg x = none) (hv : bootBuiltins x = some (.type T)) (ha : PA X (e :: es) (tAs g fs ies)) (hn : x ≠ "__name__") (hdb : (x == ("__debug__" : Str)) = false)
    (he : starEach (e :: es) X.env = (false, eval e X.env) :: starEach es X.env) (hpl : (backTo pos (starEach es X.env)).any (·.1) = false) : PE X (.Call (.Name x p) (e :: es) [] pos) (tR g fs (.bi b ies)) := by
  refine PE.weak (pe_callTy hc hg hm hv ha hn hdb he hpl) ?_
  rintro σ H Q ⟨Bn, Ow, Γ, r, Γ', rs, he, hQ⟩
  exact bi_core rs he hQ
theorem p_isi {a : Expr} {ia : E} {t : Ty} {y : Str} {p2 : Pos} (C : Cok g X) (ha : PE X a (tR g fs ia)) (hy : PE X (.Name y p2) (tC (.ty (tyN t)))) (hg : Gl X "isinstance") (hm : X.mg "isinstance" = none)
    (he : starEach (a :: [.Name y p2]) X.env = (false, eval a X.env) :: starEach [.Name y p2] X.env) (hpl : (backTo pos (starEach [.Name y p2] X.env)).any (·.1) = false) : PE X (.Call (.Name "isinstance" p) [a, .Name y p2] [] pos) (tR g fs (.bi (.isi t) [ia])) := by
  refine PE.weak (pe_callB call_isi hg hm PyProof.Rows.boot_isinstance (pa_cons ha (pa_cons hy pa_nil rfl) he) (by decide) (by decide) he hpl) ?_
  rintro σ H Q ⟨Bn, Ow, Γ, r, Γ', rs, he, hQ⟩
  simp only [ev, evs] at he
  obtain ⟨⟨xs, Γ1⟩, e1, he⟩ := Option.bind_eq_some_iff.mp he
  obtain ⟨⟨x, Γ2⟩, e2, e1⟩ := Option.bind_eq_some_iff.mp e1
  simp only [Option.map_some, Option.some.injEq, Prod.mk.injEq] at e1
  obtain ⟨rfl, rfl⟩ := e1
  obtain ⟨ds, e3, he⟩ := Option.bind_eq_some_iff.mp he
  obtain ⟨r', e4, he⟩ := Option.map_eq_some_iff.mp he
  simp only [Prod.mk.injEq] at he
  obtain ⟨rfl, rfl⟩ := he
  simp only [datums] at e3
  obtain ⟨d, e5, e3⟩ := Option.bind_eq_some_iff.mp e3
  simp only [Option.map_some, Option.some.injEq] at e3
  subst e3
  simp only [biD, Option.ite_none_right_eq_some, Option.some.injEq] at e4
  obtain ⟨hs, rfl⟩ := e4
  rw [← datum_dn] at e5
  refine tR_one rs e2 fun v H1 O1 s1 r1 v1 => ?_
  show rIsi X.K [v, .ty (tyN t)] H1 Q
  rw [C.K]
  exact isi_core hs (v1.rdb r1 e5) (hQ _ H1 O1 s1 r1 (by simp only [Val, Rep]))
end
end DV

namespace DV
open PySem L2
/-- the promise of a def by what it does to data -/
def spF (g : Gx) (n : Nat) (F : FS) : Sp := fun vs H Q _ => vs.length = n ∧ ∃ Bn Ow Γ r os, RS g Bn Ow H (vs.map some) Γ ∧ F Γ = some (r, os) ∧ (∀ i, r ≠ .sl i) ∧
  ∀ v H' Ow', Stp Ow H Ow' H' → RS g Bn Ow' H' (vs.map some) os → Val g Bn Ow' H' (vs.map some) os r v → Q v H'
def OwS (Γ : Ct) (j : Nat) : Prop := ∃ d, Γ[j]? = some (some (d, true))
theorem ownIx_mem {Γ : Ct} {j : Nat} : ∀ {xs : List RV}, j ∈ ownIx Γ xs ↔ .sl j ∈ xs ∧ OwS Γ j
  | [] => by simp [ownIx]
  | x :: xs => by
    have ih := @ownIx_mem Γ j xs
    cases x with
    | fz d => simp only [ownIx, List.mem_cons, reduceCtorEq, false_or]; exact ih
    | nw d => simp only [ownIx, List.mem_cons, reduceCtorEq, false_or]; exact ih
    | sl i =>
      simp only [ownIx]
      split
      · rename_i d q
        simp only [List.mem_cons, RV.sl.injEq]
        constructor
        · rintro (h | h)
          · subst h; exact ⟨.inl rfl, d, q⟩
          · exact ⟨.inr (ih.mp h).1, (ih.mp h).2⟩
        · rintro ⟨h | h, o⟩
          · exact .inl h
          · exact .inr (ih.mpr ⟨h, o⟩)
      · rename_i q
        simp only [List.mem_cons, RV.sl.injEq]
        rw [ih]
        constructor
        · rintro ⟨h, o⟩; exact ⟨.inr h, o⟩
        · rintro ⟨h | h, o⟩
          · subst h; obtain ⟨d, o⟩ := o; exact absurd o (q d)
          · exact ⟨h, o⟩
theorem nodupB_cons {x : Nat} {xs : List Nat} (h : nodupB (x :: xs) = true) : x ∉ xs ∧ nodupB xs = true := by
  simp only [nodupB, Bool.and_eq_true, Bool.not_eq_true', List.contains_eq_mem, decide_eq_false_iff_not] at h
  exact h
theorem ownIx_tail {Γ : Ct} {x : RV} {xs : List RV} (h : nodupB (ownIx Γ (x :: xs)) = true) : nodupB (ownIx Γ xs) = true := by
  cases x with
  | fz d => exact h
  | nw d => exact h
  | sl i =>
    simp only [ownIx] at h
    split at h
    · exact (nodupB_cons h).2
    · exact h
theorem ownIx_head {Γ : Ct} {j : Nat} {xs : List RV} (h : nodupB (ownIx Γ (.sl j :: xs)) = true) (o : OwS Γ j) : .sl j ∉ xs := fun z => by
  obtain ⟨d, o⟩ := o
  simp only [ownIx, o] at h
  exact (nodupB_cons h).1 (ownIx_mem.mpr ⟨z, d, o⟩)
theorem own_uniq {Γ : Ct} {j : Nat} (o : OwS Γ j) : ∀ {xs : List RV} {i k : Nat}, nodupB (ownIx Γ xs) = true → xs[i]? = some (.sl j) → xs[k]? = some (.sl j) → i = k
  | [], i, k, _, h, _ => by simp at h
  | x :: xs, 0, 0, _, _, _ => rfl
  | x :: xs, 0, k + 1, n, h1, h2 => by
    simp at h1; subst h1
    exact absurd (List.mem_of_getElem? (by simpa using h2)) (ownIx_head n o)
  | x :: xs, i + 1, 0, n, h1, h2 => by
    simp at h2; subst h2
    exact absurd (List.mem_of_getElem? (by simpa using h1)) (ownIx_head n o)
  | x :: xs, i + 1, k + 1, n, h1, h2 => by
    have := own_uniq o (i := i) (k := k) (ownIx_tail n) (by simpa using h1) (by simpa using h2)
    omega
theorem put_len {Γ0 : Ct} : ∀ {xs : List RV} {os Γ : Ct}, (putOuts Γ0 xs os Γ).length = Γ.length
  | [], os, Γ => by cases os <;> simp [putOuts]
  | x :: xs, [], Γ => by cases x <;> simp [putOuts]
  | x :: xs, o :: os, Γ => by
    cases x with
    | fz d => simp only [putOuts]; exact put_len
    | nw d => simp only [putOuts]; exact put_len
    | sl i =>
      simp only [putOuts]
      split
      · rw [put_len, List.length_set]
      · exact put_len
theorem put_miss {Γ0 : Ct} {j : Nat} : ∀ {xs : List RV} {os Γ : Ct}, (∀ i : Nat, xs[i]? = some (.sl j) → ¬ OwS Γ0 j) → (putOuts Γ0 xs os Γ)[j]? = Γ[j]?
  | [], os, Γ, _ => by cases os <;> simp [putOuts]
  | x :: xs, [], Γ, _ => by cases x <;> simp [putOuts]
  | x :: xs, o :: os, Γ, h => by
    have ih : ∀ Γ, (putOuts Γ0 xs os Γ)[j]? = Γ[j]? := fun Γ => put_miss fun i e => h (i + 1) (by simpa using e)
    cases x with
    | fz d => simp only [putOuts]; exact ih Γ
    | nw d => simp only [putOuts]; exact ih Γ
    | sl i =>
      simp only [putOuts]
      split
      · rename_i d q
        rw [ih, List.getElem?_set_ne]
        intro z
        subst z
        exact h 0 rfl ⟨d, q⟩
      · exact ih Γ
theorem put_hit {Γ0 : Ct} {j : Nat} (ow : OwS Γ0 j) : ∀ {xs : List RV} {os Γ : Ct} {i : Nat} {o : Sl}, nodupB (ownIx Γ0 xs) = true → xs[i]? = some (.sl j) → os[i]? = some o → j < Γ.length → (putOuts Γ0 xs os Γ)[j]? = some o
  | [], os, Γ, i, o, _, h, _, _ => by simp at h
  | x :: xs, [], Γ, i, o, _, _, h, _ => by simp at h
  | x :: xs, p :: os, Γ, 0, o, n, h1, h2, hl => by
    simp at h1 h2; subst h1 h2
    have hh := ownIx_head n ow
    obtain ⟨d, q⟩ := ow
    simp only [putOuts, q]
    rw [put_miss fun i e => absurd (List.mem_of_getElem? e) hh, List.getElem?_set_self hl]
  | x :: xs, p :: os, Γ, i + 1, o, n, h1, h2, hl => by
    have n' := ownIx_tail n
    have h1' : xs[i]? = some (.sl j) := by simpa using h1
    have h2' : os[i]? = some o := by simpa using h2
    cases x with
    | fz d => simp only [putOuts]; exact put_hit ow n' h1' h2' hl
    | nw d => simp only [putOuts]; exact put_hit ow n' h1' h2' hl
    | sl k =>
      simp only [putOuts]
      split
      · exact put_hit ow n' h1' h2' (by rw [List.length_set]; exact hl)
      · exact put_hit ow n' h1' h2' hl
theorem argSs_len {Γ : Ct} : ∀ {xs : List RV} {as : List (D × Bool)}, argSs Γ xs = some as → as.length = xs.length
  | [], as, h => by simp only [argSs, Option.some.injEq] at h; subst h; rfl
  | x :: xs, as, h => by
    simp only [argSs] at h
    obtain ⟨d, _, h⟩ := Option.bind_eq_some_iff.mp h
    obtain ⟨r, e, rfl⟩ := Option.map_eq_some_iff.mp h
    rw [List.length_cons, List.length_cons, argSs_len e]
theorem argSs_get {Γ : Ct} : ∀ {xs : List RV} {as : List (D × Bool)} {i : Nat} {p : D × Bool}, argSs Γ xs = some as → as[i]? = some p → ∃ x, xs[i]? = some x ∧ argS Γ x = some p
  | [], as, i, p, h, e => by simp only [argSs, Option.some.injEq] at h; subst h; simp at e
  | x :: xs, as, i, p, h, e => by
    simp only [argSs] at h
    obtain ⟨d, hd, h⟩ := Option.bind_eq_some_iff.mp h
    obtain ⟨r, e1, rfl⟩ := Option.map_eq_some_iff.mp h
    cases i with
    | zero => simp at e; subst e; exact ⟨x, rfl, hd⟩
    | succ i => obtain ⟨y, h1, h2⟩ := argSs_get (i := i) e1 (by simpa using e); exact ⟨y, by simpa using h1, h2⟩
section
variable {g : Gx} {Bn : Addr → Prop} {Ow Ow' : List Addr} {H H' : Hp} {σ : St} {Γ Γ' : Ct}
/-- values by results, new ones owned -/
def VlW (g : Gx) (Bn : Addr → Prop) (Ow : List Addr) (H : Hp) (σ : St) (Γ : Ct) : List RV → List V → Prop
  | [], vs => vs = []
  | x :: xs, vs => ∃ v r, vs = v :: r ∧ Val g Bn Ow H σ Γ x v ∧ (∀ d, x = .nw d → ∀ (j : Nat) (e : D), xs[j]? = some (.nw e) → r[j]? ≠ some v) ∧ VlW g Bn Ow H σ Γ xs r
def tAw (g : Gx) (fs : List FS) (es : List E) : TA := fun σ H Q => ∃ Bn Ow Γ xs Γ', RS g Bn Ow H σ Γ ∧ evs fs es Γ = some (xs, Γ') ∧ ∀ vs H' Ow', Stp Ow H Ow' H' → RS g Bn Ow' H' σ Γ' → VlW g Bn Ow' H' σ Γ' xs vs → Q vs H'
theorem VlW.len : ∀ {xs : List RV} {vs : List V}, VlW g Bn Ow H σ Γ xs vs → xs.length = vs.length
  | [], _, h => by have h : _ = [] := h; subst h; rfl
  | x :: xs, _, ⟨v, r, e, _, _, h2⟩ => by subst e; rw [List.length_cons, List.length_cons, h2.len]
theorem VlW.get : ∀ {xs : List RV} {vs : List V} {i : Nat} {x : RV}, VlW g Bn Ow H σ Γ xs vs → xs[i]? = some x → ∃ v, vs[i]? = some v ∧ Val g Bn Ow H σ Γ x v
  | [], _, i, x, _, e => by simp at e
  | y :: xs, _, 0, x, ⟨v, r, e0, h1, _⟩, e => by simp at e; subst e e0; exact ⟨v, rfl, h1⟩
  | y :: xs, _, i + 1, x, ⟨v, r, e0, _, _, h2⟩, e => by
    subst e0
    obtain ⟨w, h3, h4⟩ := VlW.get (i := i) h2 (by simpa using e)
    exact ⟨w, by simpa using h3, h4⟩
theorem VlW.uniq : ∀ {xs : List RV} {vs : List V} {i k : Nat} {d e : D} {v : V}, VlW g Bn Ow H σ Γ xs vs → xs[i]? = some (.nw d) → xs[k]? = some (.nw e) → vs[i]? = some v → vs[k]? = some v → i = k
  | [], _, i, k, d, e, v, _, h1, _, _, _ => by simp at h1
  | y :: xs, _, 0, 0, d, e, v, _, _, _, _, _ => rfl
  | y :: xs, _, 0, k + 1, d, e, v, ⟨w, r, e0, _, h, _⟩, h1, h2, h3, h4 => by
    subst e0
    simp at h1 h3; subst h1 h3
    exact absurd (by simpa using h4) (h d rfl k e (by simpa using h2))
  | y :: xs, _, i + 1, 0, d, e, v, ⟨w, r, e0, _, h, _⟩, h1, h2, h3, h4 => by
    subst e0
    simp at h2 h4; subst h2 h4
    exact absurd (by simpa using h3) (h e rfl i d (by simpa using h1))
  | y :: xs, _, i + 1, k + 1, d, e, v, ⟨w, r, e0, _, _, hr⟩, h1, h2, h3, h4 => by
    subst e0
    rw [VlW.uniq (i := i) (k := k) hr (by simpa using h1) (by simpa using h2) (by simpa using h3) (by simpa using h4)]
theorem map_some_get {vs : List V} {i : Nat} {v : V} : (vs.map some)[i]? = some (some v) ↔ vs[i]? = some v := by
  rw [List.getElem?_map]
  cases vs[i]? <;> simp
/-- the addresses that are handed over -/
def handed (vs : List V) (as : List (D × Bool)) : List Addr := (vs.zip as).filterMap fun p => match p with
  | (.ref a, (_, true)) => some a
  | _ => none
theorem handed_mem {vs : List V} {as : List (D × Bool)} {a : Addr} : a ∈ handed vs as ↔ ∃ (i : Nat) (d : D), vs[i]? = some (.ref a) ∧ as[i]? = some (d, true) := by
  unfold handed
  rw [List.mem_filterMap]
  constructor
  · rintro ⟨⟨v, d, b⟩, hm, e⟩
    obtain ⟨i, hi⟩ := List.mem_iff_getElem?.mp hm
    rw [List.getElem?_zip_eq_some] at hi
    cases v with
    | ref x =>
      cases b with
      | true => simp only [Option.some.injEq] at e; subst e; exact ⟨i, d, hi.1, hi.2⟩
      | false => cases e
    | _ => cases e
  · rintro ⟨i, d, h1, h2⟩
    exact ⟨(.ref a, (d, true)), List.mem_iff_getElem?.mpr ⟨i, by rw [List.getElem?_zip_eq_some]; exact ⟨h1, h2⟩⟩, rfl⟩
theorem call_core {xs : List RV} {vs : List V} {as : List (D × Bool)} {r : RV} {os : Ct} {F : FS} {Q : VK} (rs : RS g Bn Ow H σ Γ) (hv : VlW g Bn Ow H σ Γ xs vs) (ea : argSs Γ xs = some as) (nd : nodupB (ownIx Γ xs) = true) (ef : F (as.map some) = some (r, os)) (nr : ∀ i, r ≠ .sl i)
    {n : Nat} (hn : vs.length = n) {E : XK} (hQ : ∀ v H' Ow', Stp Ow H Ow' H' → RS g Bn Ow' H' σ (putOuts Γ xs os Γ) → Val g Bn Ow' H' σ (putOuts Γ xs os Γ) r v → (∀ (i : Nat) d0 d a, xs[i]? = some (.nw d0) → os[i]? = some (some (d, true)) → vs[i]? = some (.ref a) → Val g Bn Ow' H' σ (putOuts Γ xs os Γ) (.nw d) (.ref a)) → Q v H') : spF g n F vs H Q E := by
  have l1 := argSs_len ea
  have l2 := hv.len
  -- an owned argument
  have ownArg : ∀ {i : Nat} {d : D}, as[i]? = some (d, true) → ∃ a, vs[i]? = some (.ref a) ∧ a ∈ Ow ∧ OwnA g (Av Bn Ow) H d a ∧ ((∃ j, xs[i]? = some (.sl j) ∧ Γ[j]? = some (some (d, true)) ∧ σ[j]? = some (some (.ref a))) ∨ (xs[i]? = some (.nw d) ∧ ∀ (j : Nat) e, Γ[j]? = some (some (e, true)) → σ[j]? ≠ some (some (.ref a)))) := by
    intro i d h
    obtain ⟨x, h1, h2⟩ := argSs_get ea h
    obtain ⟨v, h3, h4⟩ := hv.get h1
    cases x with
    | fz e => simp [argS] at h2
    | nw e =>
      simp only [argS, Option.some.injEq, Prod.mk.injEq, and_true] at h2
      subst h2
      obtain ⟨a, rfl, m, o, no⟩ := h4
      exact ⟨a, h3, m, o, .inr ⟨h1, no⟩⟩
    | sl j =>
      simp only [argS] at h2
      split at h2
      · rename_i p q
        cases h2
        obtain ⟨a, e1, m, o⟩ := rs.own j d q
        have h4 : σ[j]? = some (some v) := h4
        rw [e1] at h4; cases h4
        exact ⟨a, h3, m, o, .inl ⟨j, h1, q, e1⟩⟩
      · cases h2
  let Io := handed vs as
  have ioOw : ∀ a, a ∈ Io → a ∈ Ow := fun a h => by
    obtain ⟨i, d, h1, h2⟩ := handed_mem.mp h
    obtain ⟨b, h3, m, _⟩ := ownArg h2
    rw [h1] at h3; cases h3
    exact m
  let Bn' : Addr → Prop := fun a => Bn a ∨ (a ∈ Ow ∧ a ∉ Io)
  have av1 : ∀ a, Av Bn' Io a → Av Bn Ow a := fun a h => by
    rcases h with (h | h) | h
    · exact .inl h
    · exact .inr h.1
    · exact .inr (ioOw a h)
  refine ⟨hn, Bn', Io, as.map some, r, os, ⟨?_, fun i d h => ?_, fun i d h => ?_, fun i k d e a h1 h2 h3 h4 => ?_, fun a h => rs.trk a (av1 a h), fun a h z => ?_, fun a h => rs.kf a (av1 a h)⟩, ef, nr, fun v H' O' st rs' val => ?_⟩
  · rw [List.length_map, List.length_map]; omega
  · have h : as[i]? = some (d, false) := by
      rw [List.getElem?_map] at h
      cases e : as[i]? with
      | none => rw [e] at h; cases h
      | some p => rw [e] at h; simp only [Option.map_some, Option.some.injEq] at h; rw [h]
    obtain ⟨x, h1, h2⟩ := argSs_get ea h
    obtain ⟨v, h3, h4⟩ := hv.get h1
    refine ⟨v, map_some_get.mpr h3, rep_less av1 ?_⟩
    cases x with
    | fz e => simp only [argS, Option.some.injEq, Prod.mk.injEq, and_true] at h2; subst h2; exact h4
    | nw e => simp [argS] at h2
    | sl j =>
      simp only [argS] at h2
      split at h2
      · rename_i p q
        cases h2
        obtain ⟨w, e1, rp⟩ := rs.slot j d q
        have h4 : σ[j]? = some (some v) := h4
        rw [e1] at h4; cases h4
        exact rp
      · cases h2
  · have h : as[i]? = some (d, true) := by
      rw [List.getElem?_map] at h
      cases e : as[i]? with
      | none => rw [e] at h; cases h
      | some p => rw [e] at h; simp only [Option.map_some, Option.some.injEq] at h; rw [h]
    obtain ⟨a, h3, m, o, _⟩ := ownArg h
    exact ⟨a, map_some_get.mpr h3, handed_mem.mpr ⟨i, d, h3, h⟩, own_less av1 o⟩
  · have h1 : as[i]? = some (d, true) := by
      rw [List.getElem?_map] at h1
      cases e : as[i]? with
      | none => rw [e] at h1; cases h1
      | some p => rw [e] at h1; simp only [Option.map_some, Option.some.injEq] at h1; rw [h1]
    have h2 : as[k]? = some (e, true) := by
      rw [List.getElem?_map] at h2
      cases z : as[k]? with
      | none => rw [z] at h2; cases h2
      | some p => rw [z] at h2; simp only [Option.map_some, Option.some.injEq] at h2; rw [h2]
    obtain ⟨a1, v1, _, _, c1⟩ := ownArg h1
    obtain ⟨a2, v2, _, _, c2⟩ := ownArg h2
    have w1 := map_some_get.mp h3
    have w2 := map_some_get.mp h4
    rw [w1] at v1; cases v1
    rw [w2] at v2; cases v2
    rcases c1 with ⟨j1, x1, q1, e1⟩ | ⟨x1, n1⟩ <;> rcases c2 with ⟨j2, x2, q2, e2⟩ | ⟨x2, n2⟩
    · have := rs.dist j1 j2 _ _ _ q1 q2 e1 e2
      subst this
      exact own_uniq ⟨_, q1⟩ nd x1 x2
    · exact absurd e1 (n2 j1 _ q1)
    · exact absurd e2 (n1 j2 _ q2)
    · exact hv.uniq x1 x2 w1 w2
  · rcases h with h | h
    · exact rs.sep a h (ioOw a z)
    · exact h.2 z
  -- behind the call
  let O2 := Ow.filter (fun a => decide (a ∉ Io)) ++ O'
  have memO2 : ∀ a, a ∈ O2 ↔ (a ∈ Ow ∧ a ∉ Io) ∨ a ∈ O' := fun a => by
    show a ∈ Ow.filter (fun a => decide (a ∉ Io)) ++ O' ↔ _
    rw [List.mem_append, List.mem_filter]
    simp
  have av2 : ∀ a, Av Bn O2 a → Av Bn' O' a := fun a h => by
    rcases h with h | h
    · exact .inl (.inl h)
    · rcases (memO2 a).mp h with h | h
      · exact .inl (.inr h)
      · exact .inr h
  have stO : Stp Ow H O2 H' := ⟨fun a o h nm => st.keep a o h fun z => nm (ioOw a z), fun a h => by
    rcases (memO2 a).mp h with h | h
    · exact .inl h.1
    · rcases st.grow a h with h | h
      · exact .inl (ioOw a h)
      · exact .inr h, st.stay⟩
  have vst := step_vst (g := g) (Bn := Bn) stO fun a h => rs'.kf a (av2 a (.inr h))
  have lo : os.length = vs.length := by rw [← rs'.len, List.length_map]
  -- a slot that is not handed over
  have missA : ∀ {j : Nat} {a : Addr} {d : D}, Γ[j]? = some (some (d, true)) → σ[j]? = some (some (.ref a)) → (∀ i : Nat, xs[i]? ≠ some (.sl j)) → a ∉ Io := fun {j a d} h1 h2 h3 z => by
    obtain ⟨i, e, q1, q2⟩ := handed_mem.mp z
    obtain ⟨a2, v2, _, _, c2⟩ := ownArg q2
    rw [q1] at v2; cases v2
    rcases c2 with ⟨j2, x2, g2, s2⟩ | ⟨x2, n2⟩
    · have := rs.dist j j2 _ _ _ h1 g2 h2 s2
      subst this
      exact h3 i x2
    · exact n2 j _ h1 h2
  have cases_ : ∀ (j : Nat), (∃ (i : Nat) (d : D) (a : Addr) (o : Sl), xs[i]? = some (.sl j) ∧ Γ[j]? = some (some (d, true)) ∧ σ[j]? = some (some (.ref a)) ∧ vs[i]? = some (.ref a) ∧ a ∈ Io ∧ os[i]? = some o ∧ (putOuts Γ xs os Γ)[j]? = some o) ∨
      ((putOuts Γ xs os Γ)[j]? = Γ[j]? ∧ ∀ d, Γ[j]? = some (some (d, true)) → ∀ i : Nat, xs[i]? ≠ some (.sl j)) := fun j => by
    by_cases h : ∃ i : Nat, xs[i]? = some (.sl j) ∧ OwS Γ j
    · obtain ⟨i, h1, h2⟩ := h
      obtain ⟨d, q⟩ := h2
      obtain ⟨a, e1, m, o⟩ := rs.own j d q
      obtain ⟨v, h3, h4⟩ := hv.get h1
      have h4 : σ[j]? = some (some v) := h4
      rw [e1] at h4; cases h4
      have ai : as[i]? = some (d, true) := by
        have hi : i < as.length := by rw [l1]; exact (List.getElem?_eq_some_iff.mp h1).1
        obtain ⟨x, q1, q2⟩ := argSs_get ea (List.getElem?_eq_getElem hi)
        rw [h1] at q1; cases q1
        simp only [argS, q, Option.some.injEq] at q2
        rw [List.getElem?_eq_getElem hi, ← q2]
      have hi : i < os.length := by rw [lo]; exact (List.getElem?_eq_some_iff.mp h3).1
      refine .inl ⟨i, d, a, os[i], h1, q, e1, h3, handed_mem.mpr ⟨i, d, h3, ai⟩, List.getElem?_eq_getElem hi, put_hit ⟨d, q⟩ nd h1 (List.getElem?_eq_getElem hi) (List.getElem?_eq_some_iff.mp q).1⟩
    · exact .inr ⟨put_miss fun i e o => h ⟨i, e, o⟩, fun d q i e => h ⟨i, e, d, q⟩⟩
  have hRS : RS g Bn O2 H' σ (putOuts Γ xs os Γ) := by
    refine ⟨by rw [put_len]; exact rs.len, fun j d h => ?_, fun j d h => ?_, fun j k d e a h1 h2 h3 h4 => ?_, fun a h => rs'.trk a (av2 a h), fun a h z => ?_, fun a h => rs'.kf a (av2 a h)⟩
    · rcases cases_ j with ⟨i, d0, a, o, x1, q1, s1, v1, m1, o1, p1⟩ | ⟨p1, _⟩
      · rw [p1] at h; cases h
        obtain ⟨w, e1, rp⟩ := rs'.slot i d o1
        rw [map_some_get.mp e1] at v1; cases v1
        exact ⟨_, s1, rep_less av2 rp⟩
      · rw [p1] at h
        obtain ⟨w, e1, rp⟩ := rs.slot j d h
        exact ⟨w, e1, rep_mono vst d w rp⟩
    · rcases cases_ j with ⟨i, d0, a, o, x1, q1, s1, v1, m1, o1, p1⟩ | ⟨p1, p2⟩
      · rw [p1] at h; cases h
        obtain ⟨b, e1, m, ow⟩ := rs'.own i d o1
        rw [map_some_get.mp e1] at v1; cases v1
        exact ⟨_, s1, (memO2 _).mpr (.inr m), own_less av2 ow⟩
      · rw [p1] at h
        obtain ⟨b, e1, m, ow⟩ := rs.own j d h
        have nb := missA h e1 (p2 d h)
        refine ⟨b, e1, (memO2 _).mpr (.inl ⟨m, nb⟩), ?_⟩
        cases d with
        | lst ds => obtain ⟨ws, z1, z2⟩ := ow; exact ⟨ws, st.keep b _ z1 nb, reps_mono vst _ _ z2⟩
        | obj c ks ds => obtain ⟨dx, ws, l, z1, z2⟩ := ow; exact ⟨dx, ws, l, st.keep b _ z1 nb, reps_mono vst _ _ z2⟩
        | _ => exact ow
    · rcases cases_ j with ⟨i1, d1, a1, o1, x1, q1, s1, v1, m1, z1, p1⟩ | ⟨p1, p1'⟩ <;> rcases cases_ k with ⟨i2, d2, a2, o2, x2, q2, s2, v2, m2, z2, p2⟩ | ⟨p2, p2'⟩
      · rw [s1] at h3; cases h3
        rw [s2] at h4; cases h4
        exact rs.dist j k _ _ _ q1 q2 s1 s2
      · rw [s1] at h3; cases h3
        rw [p2] at h2
        exact absurd m1 (missA h2 h4 (p2' _ h2))
      · rw [s2] at h4; cases h4
        rw [p1] at h1
        exact absurd m2 (missA h1 h3 (p1' _ h1))
      · rw [p1] at h1; rw [p2] at h2
        exact rs.dist j k _ _ _ h1 h2 h3 h4
    · rcases (memO2 a).mp z with z | z
      · exact rs.sep a h z.1
      · rcases st.grow a z with z | z
        · exact rs.sep a h (ioOw a z)
        · exact rs.trk a (.inl h) z
  refine hQ v H' O2 stO hRS ?_ fun i d0 d a h1 h2 h3 => ?_
  rotate_left
  · obtain ⟨b, e1, m, ow⟩ := rs'.own i d h2
    rw [map_some_get.mp e1] at h3; cases h3
    have hb := map_some_get.mp e1
    obtain ⟨w, q1, q2⟩ := hv.get h1
    rw [hb] at q1; cases q1
    obtain ⟨a', e2, m2, _, no⟩ := q2
    cases e2
    refine ⟨_, rfl, (memO2 _).mpr (.inr m), own_less av2 ow, fun j e g1 g2 => ?_⟩
    rcases cases_ j with ⟨i', d1, a1, o, x1, y1, s1, v1, m1, o1, p1⟩ | ⟨p1, _⟩
    · exact no j _ y1 g2
    · rw [p1] at g1
      exact no j _ g1 g2
  cases r with
  | sl i => exact absurd rfl (nr i)
  | fz d => exact rep_less av2 val
  | nw d =>
    obtain ⟨a, e0, m, ow, no⟩ := val
    refine ⟨a, e0, (memO2 a).mpr (.inr m), own_less av2 ow, fun j d' h1 h2 => ?_⟩
    rcases cases_ j with ⟨i, d0, a', o, x1, q1, s1, v1, m1, o1, p1⟩ | ⟨p1, p2⟩
    · rw [s1] at h2; cases h2
      rw [p1] at h1; cases h1
      exact no i _ o1 (map_some_get.mpr v1)
    · rw [p1] at h1
      obtain ⟨b, e1, mb, _⟩ := rs.own j _ h1
      rw [h2] at e1; cases e1
      have nb := missA h1 h2 (p2 _ h1)
      rcases st.grow a m with z | z
      · exact nb z
      · exact rs.trk a (.inr mb) z
end
section
variable {X : Cx} {g : Gx} {fs : List FS} {e : Expr} {es : List Expr} {ies : List E} {x : Str} {p pos : Pos} {k lv n : Nat} {f : Addr} {fd : FuncData} {ps : List Str} {F : FS}
theorem call_core2 {Bn : Addr → Prop} {Ow : List Addr} {H : Hp} {σ : St} {Γ Γ' : Ct} {r : RV} {Q : VK} {Ex : XK} (hF : fs[k]? = some F) (hn : ies.length = n) (rs : RS g Bn Ow H σ Γ) (he : ev fs (.call k ies) Γ = some (r, Γ')) (hQ : ∀ v H' Ow', Stp Ow H Ow' H' → RS g Bn Ow' H' σ Γ' → Val g Bn Ow' H' σ Γ' r v → Q v H') :
    tCall (spF g n F) [] Ex (tAw g fs ies) σ H Q := by
  simp only [ev] at he
  obtain ⟨⟨xs, Γ1⟩, e1, he⟩ := Option.bind_eq_some_iff.mp he
  obtain ⟨F', e2, he⟩ := Option.bind_eq_some_iff.mp he
  rw [hF] at e2; cases e2
  obtain ⟨as, e3, he⟩ := Option.bind_eq_some_iff.mp he
  simp only [Option.ite_none_right_eq_some] at he
  obtain ⟨nd, he⟩ := he
  obtain ⟨⟨r', os⟩, e4, he⟩ := Option.bind_eq_some_iff.mp he
  have evl : ∀ {es : List E} {Γ Γ' : Ct} {xs : List RV}, evs fs es Γ = some (xs, Γ') → es.length = xs.length := by
    intro es
    induction es with
    | nil => intro Γ Γ' xs h; simp only [evs, Option.some.injEq, Prod.mk.injEq] at h; rw [← h.1]; rfl
    | cons a es ih =>
      intro Γ Γ' xs h
      simp only [evs] at h
      obtain ⟨⟨y, G1⟩, _, h⟩ := Option.bind_eq_some_iff.mp h
      obtain ⟨⟨ys, G2⟩, h2, h⟩ := Option.map_eq_some_iff.mp h
      simp only [Prod.mk.injEq] at h
      rw [← h.1, List.length_cons, List.length_cons, ih h2]
  refine ⟨Bn, Ow, Γ, xs, Γ1, rs, e1, fun vs H1 O1 s1 r1 v1 => ?_⟩
  show spF g n F (vs ++ []) H1 Q Ex
  rw [List.append_nil]
  have hl : vs.length = n := by rw [← v1.len, ← evl e1, hn]
  cases r' with
  | sl i => cases he
  | fz d =>
    simp only [Option.some.injEq, Prod.mk.injEq] at he
    obtain ⟨rfl, rfl⟩ := he
    exact call_core r1 v1 e3 nd e4 (fun i z => nomatch z) hl fun v H' O2 s2 r2 val _ => hQ v H' O2 (s1.trans s2) r2 val
  | nw d =>
    simp only [Option.some.injEq, Prod.mk.injEq] at he
    obtain ⟨rfl, rfl⟩ := he
    exact call_core r1 v1 e3 nd e4 (fun i z => nomatch z) hl fun v H' O2 s2 r2 val _ => hQ v H' O2 (s1.trans s2) r2 val
theorem p_call (hF : fs[k]? = some F) (hn : ies.length = n) (G : FnOk X.prog X.w X.K X.mg X.base CX0 lv f fd ps (spF g n F)) (hr : Room lv X.A) (hg : Gl X x) (hm : X.mg x = some (.ref f)) (hk : PySem.W.keepIn X.K (.ref f) = true) (hb : Binds X.K fd ps [])
    (ha : PA X (e :: es) (tAw g fs ies)) (hdb : (x == ("__debug__" : Str)) = false) (he : starEach (e :: es) X.env = (false, eval e X.env) :: starEach es X.env) (hpl : (backTo pos (starEach es X.env)).any (·.1) = false) :
    PE X (.Call (.Name x p) (e :: es) [] pos) (tR g fs (.call k ies)) := by
  refine PE.weak (pe_call G hr hg hm hk hb .nil pass0 ha hdb he hpl) ?_
  rintro σ H Q ⟨Bn, Ow, Γ, r, Γ', rs, he, hQ⟩
  exact call_core2 hF hn rs he hQ
theorem p_call0 (hF : fs[k]? = some F) (G : FnOk X.prog X.w X.K X.mg X.base CX0 lv f fd ps (spF g 0 F)) (hr : Room lv X.A) (hg : Gl X x) (hm : X.mg x = some (.ref f)) (hk : PySem.W.keepIn X.K (.ref f) = true) (hb : Binds X.K fd ps [])
    (hdb : (x == ("__debug__" : Str)) = false) : PE X (.Call (.Name x p) [] [] pos) (tR g fs (.call k [])) := by
  refine PE.weak (pe_call0 G hr hg hm hk hb .nil pass0 hdb) ?_
  rintro σ H Q ⟨Bn, Ow, Γ, r, Γ', rs, he, hQ⟩
  have q := call_core2 (Ex := E0) hF rfl rs he hQ
  obtain ⟨Bn', Ow', G0, xs, G1, rs', e1, k1⟩ := q
  simp only [evs, Option.some.injEq, Prod.mk.injEq] at e1
  obtain ⟨rfl, rfl⟩ := e1
  exact k1 [] H Ow' (.refl _ _) rs' rfl
end
end DV

namespace DV
open PySem L2
/-! ### ranges with a step, also of great ints -/
section
open PySem PySem.Spec PyProof.Rows
theorem turn_longC {P : Program} {w : World} {K : PySem.W.Frag} {tg : Expr} (it : Addr) (lo c : Int) (n : Nat) : Turn P w K tg (Itc lo c n) [it] it (fun i h => IsLongIter h it (lo + (i : Nat) * c) ((n : Int) - (i : Nat)) c) where
  mem := by simp
  obj := fun i h st b hb => by
    have e : b = it := by simpa using hb
    subst e
    exact ⟨_, st, fun v z => nomatch z⟩
  keep := fun i h h' st k => k it (by simp) _ st
  item := by
    intro X hP hw hK hc i pins s σ H E I hf st hg
    subst hP hw hK
    obtain ⟨f0, f1, f2, f3, f4, f5⟩ := hf it (by simp)
    have W := Walks.longrange (prog := X.prog) (w := X.w) (I.ok.hd hc) it lo c n
    refine W.item i s _ _ hg st fun v h' tk hv st' kk => ?_
    obtain ⟨t, rfl⟩ := hv
    have I1 : Inv X pins σ H { s with heap := h', toks := tk } := I.turned (fun b o hb e => kk b o (by simpa using hb) e) f0 f1 f3 f4 f5
    exact ⟨_, rfl, go_of (s := { s with heap := h', toks := tk }) (n := "longrange_iterator") st' rfl rfl (by decide) ⟨.int (lo + (i : Nat) * c), H, I1, ⟨t, rfl⟩, ⟨rfl, rfl⟩, st', fun b hb => (hf b hb).1⟩⟩
  done := by
    intro X hP hw hK hc i pins s σ H E I hf st hg
    subst hP hw hK
    obtain ⟨f0, f1, f2, f3, f4, f5⟩ := hf it (by simp)
    exact wpAny_pyNext_long_end (I.ok.hd hc) st (by have : n ≤ i := hg; omega) fun h' eb => ⟨rfl, I.turned (t' := s.toks) (fun b o hb e => eb b o hb e) f0 f1 f3 f4 f5⟩
  self := fun A i s Q E st h => wpAny_pyIter_longiter st h
def RgG (i j c : Int) (n : Nat) : Prop := c ≠ 0 ∧ c.natAbs.log2 < 9000 ∧ Builtin.Range.rangeSize i j c = n
def iRngG (ta : TA) : TI := fun σ H R => ta σ H fun vs H1 => ∃ (i j c : Int) (n : Nat), vs = [.int i, .int j, .int c] ∧ RgG i j c n ∧ R (Itc i c n) H1
theorem pi_range3G {X : Cx} {tg : Expr} {a b c : Expr} {ta : TA} {p pos : Pos} (hg : Gl X "range") (hm : X.mg "range" = none) (ha : PA X [a, b, c] ta)
    (hs : starEach [a, b, c] X.env = (false, eval a X.env) :: starEach [b, c] X.env := by rfl) (hpl : (backTo pos (starEach [b, c] X.env)).any (·.1) = false := by rfl) :
    PI X tg (.Call (.Name "range" p) [a, b, c] [] pos) (iRngG ta) := by
  refine ⟨fun pins s σ H R I h => ?_⟩
  refine Call_ (ld_blt I hg hm boot_range (PyProof.Rows.callWith_type1 (thn (ha.run pos pins s σ H _ I h) fun us s1 ⟨vs, H1, I1, r1, q1⟩ => ?_) hs hpl))
  obtain ⟨i, j, k, n, e, ⟨c0, c1, c3⟩, q⟩ := q1
  subst e
  cases r1 with
  | cons r rr =>
    cases rr with
    | cons r' rr =>
      cases rr with
      | cons r'' rr =>
        cases rr
        obtain ⟨t, rfl⟩ := r
        obtain ⟨t', rfl⟩ := r'
        obtain ⟨t'', rfl⟩ := r''
        refine call_range_3 c0 ?_ (.inl (PyProof.noPylong_of_log2 c1))
        have I2 : Inv X pins σ H1 { s1 with heap := s1.heap.push { cls := .type "range", data := .fields #[.int i t, .int j t', .int k t''] } } := I1.kept (t' := s1.toks) fun b o e => Heap.get?_push_of_some _ e
        have e1 : i + ((0 : Nat) : Int) * k = i := by simp
        have e2 : (n : Int) - ((0 : Nat) : Int) = Builtin.Range.rangeSize i j k := by rw [c3]; simp
        by_cases hsm : Builtin.Range.small i j k = true
        · refine wpAny_pyIter_range (IsRange.new ..) hsm ?_
          refine pi_one (tk := s1.toks) I2 _ (turn_rangeC _ i k n) ?_ q
          show IsRangeIter _ _ (i + ((0 : Nat) : Int) * k) ((n : Int) - ((0 : Nat) : Int)) k
          rw [e1, e2]
          exact Heap.get?_push_size _ rfl
        · refine wpAny_pyIter_longrange (IsRange.new ..) (by simpa using hsm) ?_
          refine pi_one (tk := s1.toks) I2 _ (turn_longC _ i k n) ?_ q
          show IsLongIter _ _ (i + ((0 : Nat) : Int) * k) ((n : Int) - ((0 : Nat) : Int)) k
          rw [e1, e2]
          exact Heap.get?_push_size _ rfl
end
/-! ### targets -/
def tgT (K : PySem.W.Frag) : Tg → TG
  | .nm i => gName i
  | .tp ts => gTup K ts.length (tgTs K ts)
where tgTs (K : PySem.W.Frag) : List Tg → TGs
  | [] => gNil
  | t :: ts => gCons (tgT K t) (tgTs K ts)
section
variable {g : Gx} {Bn : Addr → Prop} {Ow Ow' : List Addr} {H H' : Hp} {σ : St} {Γ Γ' : Ct}
theorem RS.set {i : Nat} {d : D} {v : V} (rs : RS g Bn Ow H σ Γ) (r : Rep g (Av Bn Ow) H d v) (hi : i < Γ.length) : RS g Bn Ow H (σ.set i (some v)) (Γ.set i (some (d, false))) := by
  have hs : i < σ.length := by rw [rs.len]; exact hi
  refine ⟨by rw [List.length_set, List.length_set]; exact rs.len, fun j e h => ?_, fun j e h => ?_, fun j k e f a h1 h2 h3 h4 => ?_, rs.trk, rs.sep, rs.kf⟩
  · by_cases hj : i = j
    · subst hj
      rw [List.getElem?_set_self hi] at h; cases h
      exact ⟨v, List.getElem?_set_self hs, r⟩
    · rw [List.getElem?_set_ne hj] at h
      rw [List.getElem?_set_ne hj]
      exact rs.slot j e h
  · by_cases hj : i = j
    · subst hj
      rw [List.getElem?_set_self hi] at h; cases h
    · rw [List.getElem?_set_ne hj] at h
      rw [List.getElem?_set_ne hj]
      exact rs.own j e h
  · have n1 : i ≠ j := fun z => by subst z; rw [List.getElem?_set_self hi] at h1; cases h1
    have n2 : i ≠ k := fun z => by subst z; rw [List.getElem?_set_self hi] at h2; cases h2
    rw [List.getElem?_set_ne n1] at h1 h3
    rw [List.getElem?_set_ne n2] at h2 h4
    exact rs.dist j k _ _ _ h1 h2 h3 h4
theorem RS.setO {i : Nat} {d : D} {v : V} (rs : RS g Bn Ow H σ Γ) (r : Val g Bn Ow H σ Γ (.nw d) v) (hi : i < Γ.length) : RS g Bn Ow H (σ.set i (some v)) (Γ.set i (some (d, true))) := by
  have hs : i < σ.length := by rw [rs.len]; exact hi
  obtain ⟨a, rfl, m, o, no⟩ := r
  refine ⟨by rw [List.length_set, List.length_set]; exact rs.len, fun j e h => ?_, fun j e h => ?_, fun j k e f b h1 h2 h3 h4 => ?_, rs.trk, rs.sep, rs.kf⟩
  · by_cases hj : i = j
    · subst hj
      rw [List.getElem?_set_self hi] at h; cases h
    · rw [List.getElem?_set_ne hj] at h
      rw [List.getElem?_set_ne hj]
      exact rs.slot j e h
  · by_cases hj : i = j
    · subst hj
      rw [List.getElem?_set_self hi] at h; cases h
      exact ⟨a, List.getElem?_set_self hs, m, o⟩
    · rw [List.getElem?_set_ne hj] at h
      rw [List.getElem?_set_ne hj]
      exact rs.own j e h
  · by_cases n1 : i = j <;> by_cases n2 : i = k
    · omega
    · subst n1
      rw [List.getElem?_set_self hs] at h3; cases h3
      rw [List.getElem?_set_ne n2] at h2 h4
      exact absurd h4 (no k f h2)
    · subst n2
      rw [List.getElem?_set_self hs] at h4; cases h4
      rw [List.getElem?_set_ne n1] at h1 h3
      exact absurd h3 (no j e h1)
    · rw [List.getElem?_set_ne n1] at h1 h3
      rw [List.getElem?_set_ne n2] at h2 h4
      exact rs.dist j k _ _ _ h1 h2 h3 h4
mutual
theorem asgT_ok : ∀ (t : Tg) {d : D} {v : V} {σ : St} {Γ Γ' : Ct} {Q : St → Hp → Prop}, RS g Bn Ow H σ Γ → Rep g (Av Bn Ow) H d v → asgT t d Γ = some Γ' →
    (∀ σ', RS g Bn Ow H σ' Γ' → σ'.length = σ.length → (∀ i, i ∉ tgIx t → σ'[i]? = σ[i]?) → Q σ' H) → tgT g.K t v σ H Q
  | .nm i, d, v, σ, Γ, Γ', Q, rs, r, e, k => by
    simp only [asgT, Option.ite_none_right_eq_some, Option.some.injEq] at e
    obtain ⟨hi, rfl⟩ := e
    refine k _ (rs.set r hi) List.length_set fun j hj => ?_
    rw [List.getElem?_set_ne]
    intro z
    subst z
    simp [tgIx] at hj
  | .tp ts, d, v, σ, Γ, Γ', Q, rs, r, e, k => by
    cases d <;> simp only [asgT, reduceCtorEq] at e
    simp only [Rep] at r
    obtain ⟨a, vs, rfl, _, s, rr⟩ := r
    have hl : ts.length = vs.length := by
      rw [← rr.len]
      have : ∀ (ts : List Tg) (ds : List D) (Γ Γ' : Ct), asgT.asgTs ts ds Γ = some Γ' → ts.length = ds.length := by
        intro ts
        induction ts with
        | nil => intro ds Γ Γ' h; cases ds with
          | nil => rfl
          | cons => simp only [asgT.asgTs, reduceCtorEq] at h
        | cons t ts ih => intro ds Γ Γ' h; cases ds with
          | nil => simp only [asgT.asgTs, reduceCtorEq] at h
          | cons d ds =>
            simp only [asgT.asgTs] at h
            obtain ⟨G1, _, h⟩ := Option.bind_eq_some_iff.mp h
            rw [List.length_cons, List.length_cons, ih _ _ _ h]
      exact this _ _ _ _ e
    exact ⟨a, vs, rfl, s, hl.symm, asgTs_ok ts rs rr e fun σ' q1 q2 q3 => k σ' q1 q2 fun i hi => q3 i (by simpa only [tgIx] using hi)⟩
theorem asgTs_ok : ∀ (ts : List Tg) {ds : List D} {vs : List V} {σ : St} {Γ Γ' : Ct} {Q : St → Hp → Prop}, RS g Bn Ow H σ Γ → Reps g (Av Bn Ow) H ds vs → asgT.asgTs ts ds Γ = some Γ' →
    (∀ σ', RS g Bn Ow H σ' Γ' → σ'.length = σ.length → (∀ i, i ∉ tgIx.tgIxs ts → σ'[i]? = σ[i]?) → Q σ' H) → tgT.tgTs g.K ts vs σ H Q
  | [], ds, vs, σ, Γ, Γ', Q, rs, r, e, k => by
    cases ds <;> simp only [asgT.asgTs, reduceCtorEq, Option.some.injEq] at e
    subst e
    simp only [Reps] at r
    exact ⟨r, k σ rs rfl fun _ _ => rfl⟩
  | t :: ts, ds, vs, σ, Γ, Γ', Q, rs, r, e, k => by
    cases ds with
    | nil => simp only [asgT.asgTs, reduceCtorEq] at e
    | cons d ds =>
      simp only [asgT.asgTs] at e
      obtain ⟨G1, e1, e⟩ := Option.bind_eq_some_iff.mp e
      simp only [Reps] at r
      obtain ⟨v, w, rfl, r1, r2⟩ := r
      refine ⟨v, w, rfl, asgT_ok t rs r1 e1 fun σ1 q1 q2 q3 => asgTs_ok ts q1 r2 e fun σ2 p1 p2 p3 => k σ2 p1 (p2.trans q2) fun i hi => ?_⟩
      simp only [tgIx.tgIxs, List.mem_append, not_or] at hi
      rw [p3 i hi.2, q3 i hi.1]
end

/-! ### what is walked -/
structure WalkD (g : Gx) (Bn : Addr → Prop) (Ow : List Addr) (H : Hp) (J : It) (ds : List D) : Prop where
  go : ∀ i H', i < ds.length → (∀ a o, H a = some o → a ∉ Ow → H' a = some o) → J.go i H'
  stop : ∀ H', (∀ a o, H a = some o → a ∉ Ow → H' a = some o) → J.stop ds.length H'
  same : ∀ i H' x H'', J.yld i H' x H'' → Same H' H''
  yld : ∀ (i : Nat) d Bn' Ow' H' σ' Γ' x H'', ds[i]? = some d → (∀ a, Bn a → Bn' a) → (∀ a, Bn' a → Bn a ∨ H a = none) → Stp Ow H Ow' H' → RS g Bn' Ow' H' σ' Γ' → J.yld i H' x H'' → Same H' H'' ∧ Rep g (Av Bn' Ow') H'' d x
theorem vst2 {Bn' : Addr → Prop} (hB : ∀ a, Bn' a → Bn a ∨ H a = none) (s : Stp Ow H Ow' H') (rs : RS g Bn' Ow' H' σ Γ) : ∀ a, Vst g (Av Bn Ow) H a → (∀ o, H a = some o → H' a = some o) ∧ ¬ Av Bn' Ow' a := fun a ⟨n, t⟩ => by
  refine ⟨fun o h => s.keep a o h fun z => n (.inr z), fun z => ?_⟩
  rcases t with ⟨o, t⟩ | ⟨o, t⟩
  · rcases z with z | z
    · rcases hB a z with z | z
      · exact n (.inl z)
      · rw [z] at t; cases t
    · rcases s.grow a z with z | z
      · exact n (.inr z)
      · rw [z] at t; cases t
  · rw [rs.kf a z] at t; cases t
theorem walk_list {a : Addr} {vs : List V} {ds : List D} (na : a ∉ Ow) (h : H a = some (.lst vs)) (r : Reps g (Av Bn Ow) H ds vs) : WalkD g Bn Ow H (Itl g.K a) ds where
  go := fun i H' hi k => by
    have hi' : i < vs.length := by rw [← r.len]; exact hi
    exact ⟨vs, vs[i], .inl (.inl (k a _ h na)), List.getElem?_eq_getElem hi'⟩
  stop := fun H' k => ⟨vs, .inl (.inl (k a _ h na)), by rw [r.len]; exact Nat.le_refl _⟩
  same := fun i H' x H'' y => by obtain ⟨rfl, _⟩ := y; exact same_rfl _
  yld := fun i d Bn' Ow' H' σ' Γ' x H'' e b1 b2 s rs y => by
    obtain ⟨rfl, y⟩ := y
    obtain ⟨v, e1, r1⟩ := r.get e
    have e2 := y vs (.inl (.inl (s.keep a _ h na)))
    rw [e1] at e2; cases e2
    exact ⟨same_rfl _, rep_mono (vst2 b2 s rs) _ _ r1⟩
theorem walk_tup {a : Addr} {vs : List V} {ds : List D} (na : a ∉ Ow) (h : SqT g.K H a vs) (r : Reps g (Av Bn Ow) H ds vs) : WalkD g Bn Ow H (Itt g.K a) ds where
  go := fun i H' hi k => by
    have hi' : i < vs.length := by rw [← r.len]; exact hi
    exact ⟨vs, vs[i], sqT_mono h fun o e => k a o e na, List.getElem?_eq_getElem hi'⟩
  stop := fun H' k => ⟨vs, sqT_mono h fun o e => k a o e na, by rw [r.len]; exact Nat.le_refl _⟩
  same := fun i H' x H'' y => by obtain ⟨rfl, _⟩ := y; exact same_rfl _
  yld := fun i d Bn' Ow' H' σ' Γ' x H'' e b1 b2 s rs y => by
    obtain ⟨rfl, y⟩ := y
    obtain ⟨v, e1, r1⟩ := r.get e
    have e2 := y vs (sqT_mono h fun o e => s.keep a o e na)
    rw [e1] at e2; cases e2
    exact ⟨same_rfl _, rep_mono (vst2 b2 s rs) _ _ r1⟩
theorem enumD_get : ∀ {ds : List D} {n i : Nat} {d : D}, (enumD n ds)[i]? = some d → ∃ e, ds[i]? = some e ∧ d = .tup [.int ((n + i : Nat) : Int), e]
  | [], n, i, d, h => by simp [enumD] at h
  | e :: ds, n, 0, d, h => by simp [enumD] at h; subst h; exact ⟨e, rfl, rfl⟩
  | e :: ds, n, i + 1, d, h => by
    simp only [enumD, List.getElem?_cons_succ] at h
    obtain ⟨f, h1, h2⟩ := enumD_get h
    exact ⟨f, by simpa using h1, by rw [h2, show n + 1 + i = n + (i + 1) by omega]⟩
theorem enumD_len : ∀ (ds : List D) (n : Nat), (enumD n ds).length = ds.length
  | [], _ => rfl
  | _ :: ds, n => by simp only [enumD, List.length_cons]; rw [enumD_len ds (n + 1)]
theorem zipD_get : ∀ {ds es : List D} {i : Nat} {d : D}, (zipD ds es)[i]? = some d → ∃ a b, ds[i]? = some a ∧ es[i]? = some b ∧ d = .tup [a, b]
  | [], es, i, d, h => by simp [zipD] at h
  | a :: ds, [], i, d, h => by simp [zipD] at h
  | a :: ds, b :: es, 0, d, h => by simp [zipD] at h; subst h; exact ⟨a, b, rfl, rfl, rfl⟩
  | a :: ds, b :: es, i + 1, d, h => by
    simp only [zipD, List.getElem?_cons_succ] at h
    obtain ⟨x, y, h1, h2, h3⟩ := zipD_get h
    exact ⟨x, y, by simpa using h1, by simpa using h2, h3⟩
theorem zipD_len : ∀ (ds es : List D), (zipD ds es).length = min ds.length es.length
  | [], es => by simp [zipD]
  | a :: ds, [] => by simp [zipD]
  | a :: ds, b :: es => by simp only [zipD, List.length_cons]; rw [zipD_len ds es]; omega
theorem tup2 {Bn' : Addr → Prop} {T : Addr} {d e : D} {x y : V} {H'' : Hp} (nT : H' T = none) (e0 : H'' = upd H' T (.tup [x, y])) (tr : ∀ a, Av Bn' Ow' a → H' a ≠ none) (r1 : Rep g (Av Bn' Ow') H' d x) (r2 : Rep g (Av Bn' Ow') H' e y) : Same H' H'' ∧ Rep g (Av Bn' Ow') H'' (.tup [d, e]) (.ref T) := by
  subst e0
  refine ⟨same_new nT, ?_⟩
  simp only [Rep]
  refine ⟨T, [x, y], rfl, fun z => tr T z nT, .inl (.inl upd_same), ?_⟩
  simp only [Reps]
  exact ⟨_, _, rfl, r1.same (same_new nT), _, _, rfl, r2.same (same_new nT), rfl⟩
theorem walk_enum {a : Addr} {vs : List V} {ds : List D} (na : a ∉ Ow) (h : H a = some (.lst vs)) (r : Reps g (Av Bn Ow) H ds vs) : WalkD g Bn Ow H (Ite g.K a) (enumD 0 ds) where
  go := fun i H' hi k => by
    rw [enumD_len] at hi
    have hi' : i < vs.length := by rw [← r.len]; exact hi
    exact ⟨vs, vs[i], .inl (.inl (k a _ h na)), List.getElem?_eq_getElem hi'⟩
  stop := fun H' k => ⟨vs, .inl (.inl (k a _ h na)), by rw [enumD_len, r.len]; exact Nat.le_refl _⟩
  same := fun i H' x H'' y => by obtain ⟨T, v, rfl, nT, rfl, _⟩ := y; exact same_new nT
  yld := fun i d Bn' Ow' H' σ' Γ' x H'' e b1 b2 s rs y => by
    obtain ⟨T, v, rfl, nT, e0, y⟩ := y
    obtain ⟨f, e1, rfl⟩ := enumD_get e
    obtain ⟨w, e2, r1⟩ := r.get e1
    have e3 := y vs (.inl (.inl (s.keep a _ h na)))
    rw [e2] at e3; cases e3
    rw [Nat.zero_add]
    exact tup2 nT e0 rs.trk (by simp only [Rep]) (rep_mono (vst2 b2 s rs) _ _ r1)
theorem walk_zip {a b : Addr} {vs ws : List V} {ds es : List D} (na : a ∉ Ow) (nb : b ∉ Ow) (h : H a = some (.lst vs)) (h' : H b = some (.lst ws)) (r : Reps g (Av Bn Ow) H ds vs) (r' : Reps g (Av Bn Ow) H es ws) : WalkD g Bn Ow H (Itz g.K a b) (zipD ds es) where
  go := fun i H' hi k => by
    rw [zipD_len] at hi
    have hi1 : i < vs.length := by rw [← r.len]; omega
    have hi2 : i < ws.length := by rw [← r'.len]; omega
    exact ⟨vs, ws, vs[i], ws[i], .inl (.inl (k a _ h na)), .inl (.inl (k b _ h' nb)), List.getElem?_eq_getElem hi1, List.getElem?_eq_getElem hi2⟩
  stop := fun H' k => ⟨vs, ws, .inl (.inl (k a _ h na)), .inl (.inl (k b _ h' nb)), by
    rw [zipD_len, ← r.len, ← r'.len]
    omega⟩
  same := fun i H' x H'' y => by obtain ⟨T, v, w, rfl, nT, rfl, _⟩ := y; exact same_new nT
  yld := fun i d Bn' Ow' H' σ' Γ' x H'' e b1 b2 s rs y => by
    obtain ⟨T, v, w, rfl, nT, e0, y1, y2⟩ := y
    obtain ⟨p, q, e1, e2, rfl⟩ := zipD_get e
    obtain ⟨v', e3, r1⟩ := r.get e1
    obtain ⟨w', e4, r2⟩ := r'.get e2
    have e5 := y1 vs (.inl (.inl (s.keep a _ h na)))
    have e6 := y2 ws (.inl (.inl (s.keep b _ h' nb)))
    rw [e3] at e5; cases e5
    rw [e4] at e6; cases e6
    exact tup2 nT e0 rs.trk (rep_mono (vst2 b2 s rs) _ _ r1) (rep_mono (vst2 b2 s rs) _ _ r2)
theorem rngD_get : ∀ {n : Nat} {lo c : Int} {i : Nat} {d : D}, (rngD lo c n)[i]? = some d → i < n ∧ d = .int (lo + (i : Nat) * c)
  | 0, lo, c, i, d, h => by simp [rngD] at h
  | n + 1, lo, c, 0, d, h => by simp [rngD] at h; subst h; exact ⟨by omega, by simp⟩
  | n + 1, lo, c, i + 1, d, h => by
    simp only [rngD, List.getElem?_cons_succ] at h
    obtain ⟨h1, h2⟩ := rngD_get h
    refine ⟨by omega, ?_⟩
    rw [h2]
    have : lo + c + (i : Int) * c = lo + ((i + 1 : Nat) : Int) * c := by
      have : ((i + 1 : Nat) : Int) = (i : Int) + 1 := by omega
      rw [this, Int.add_mul]; omega
    rw [this]
theorem rngD_len : ∀ (n : Nat) (lo c : Int), (rngD lo c n).length = n
  | 0, _, _ => rfl
  | n + 1, lo, c => by simp only [rngD, List.length_cons]; rw [rngD_len n]
theorem walk_rng (lo : Int) (n : Nat) : WalkD g Bn Ow H (Itr lo n) (rngD lo 1 n) where
  go := fun i H' hi k => by rw [rngD_len] at hi; exact hi
  stop := fun H' k => by rw [rngD_len]; exact Nat.le_refl _
  same := fun i H' x H'' y => by obtain ⟨rfl, _⟩ := y; exact same_rfl _
  yld := fun i d Bn' Ow' H' σ' Γ' x H'' e b1 b2 s rs y => by
    obtain ⟨rfl, rfl⟩ := y
    obtain ⟨_, rfl⟩ := rngD_get e
    exact ⟨same_rfl _, by simp only [Rep, Int.mul_one]⟩
theorem walk_rngC (lo c : Int) (n : Nat) : WalkD g Bn Ow H (Itc lo c n) (rngD lo c n) where
  go := fun i H' hi k => by rw [rngD_len] at hi; exact hi
  stop := fun H' k => by rw [rngD_len]; exact Nat.le_refl _
  same := fun i H' x H'' y => by obtain ⟨rfl, _⟩ := y; exact same_rfl _
  yld := fun i d Bn' Ow' H' σ' Γ' x H'' e b1 b2 s rs y => by
    obtain ⟨rfl, rfl⟩ := y
    obtain ⟨_, rfl⟩ := rngD_get e
    exact ⟨same_rfl _, by simp only [Rep]⟩
end
def tI (g : Gx) (fs : List FS) (ik : IK) (its : List E) : TI := fun σ H R => ∃ Bn Ow Γ xs Γ1 ds Γ2, RS g Bn Ow H σ Γ ∧ evs fs its Γ = some (xs, Γ1) ∧ iterD ik xs Γ1 = some (ds, Γ2) ∧ ∀ J H' Ow', Stp Ow H Ow' H' → RS g Bn Ow' H' σ Γ2 → WalkD g Bn Ow' H' J ds → R J H'
section
variable {X : Cx} {g : Gx} {fs : List FS} {tg l : Expr} {il : E} {p pos tpos : Pos} {elts : List Expr} {kk : Nat} {es : List Expr} {ies : List E}
theorem PI.weak {it : Expr} {w w' : TI} (h : PI X tg it w) (k : ∀ σ H R, w' σ H R → w σ H R) : PI X tg it w' := ⟨fun pins s σ H R I q => h.run pins s σ H R I (k σ H R q)⟩
theorem PI.or {it : Expr} {w w' : TI} (h : PI X tg it w) (h' : PI X tg it w') : PI X tg it (fun σ H R => w σ H R ∨ w' σ H R) := ⟨fun pins s σ H R I q => q.elim (fun q => h.run pins s σ H R I q) fun q => h'.run pins s σ H R I q⟩
theorem evs_one {Γ Γ1 : Ct} {xs : List RV} (h : evs fs [il] Γ = some (xs, Γ1)) : ∃ x, xs = [x] ∧ ev fs il Γ = some (x, Γ1) := by
  simp only [evs] at h
  obtain ⟨⟨x, G⟩, e1, h⟩ := Option.bind_eq_some_iff.mp h
  simp only [Option.map_some, Option.some.injEq, Prod.mk.injEq] at h
  obtain ⟨rfl, rfl⟩ := h
  exact ⟨x, rfl, e1⟩
/-- by what is walked, on what the value says: a list, a tuple -/
theorem i_seq_or (C : Cok g X) (h : PI X tg l (fun σ H R => iList X.K (tR g fs il) σ H R ∨ iTup X.K (tR g fs il) σ H R)) : PI X tg l (tI g fs .seq [il]) := by
  refine PI.weak h ?_
  rintro σ H R ⟨Bn, Ow, Γ, xs, Γ1, ds, Γ2, rs, e1, e2, k⟩
  obtain ⟨x, rfl, e9⟩ := evs_one e1
  simp only [iterD] at e2
  obtain ⟨⟨d, G2⟩, e3, e2⟩ := Option.bind_eq_some_iff.mp e2
  cases d <;> simp only [reduceCtorEq, Option.some.injEq, Prod.mk.injEq] at e2
  · obtain ⟨rfl, rfl⟩ := e2
    refine .inl ⟨Bn, Ow, Γ, x, Γ1, rs, e9, fun v H1 O1 s1 r1 v1 => ?_⟩
    obtain ⟨O2, s2, r2, rp⟩ := fre_ok r1 v1 e3
    simp only [Rep] at rp
    obtain ⟨a, vs, rfl, na, ha, rr⟩ := rp
    refine ⟨a, rfl, ⟨vs, .inl (.inl ha)⟩, ?_⟩
    rw [C.K]
    exact k _ H1 O2 (s1.trans s2) r2 (walk_list (fun z => na (.inr z)) ha rr)
  · obtain ⟨rfl, rfl⟩ := e2
    refine .inr ⟨Bn, Ow, Γ, x, Γ1, rs, e9, fun v H1 O1 s1 r1 v1 => ?_⟩
    obtain ⟨O2, s2, r2, rp⟩ := fre_ok r1 v1 e3
    simp only [Rep] at rp
    obtain ⟨a, vs, rfl, na, ha, rr⟩ := rp
    refine ⟨a, rfl, ⟨vs, by rw [C.K]; exact ha⟩, ?_⟩
    rw [C.K]
    exact k _ H1 O2 (s1.trans s2) r2 (walk_tup (fun z => na (.inr z)) ha rr)
theorem i_seq (C : Cok g X) (hl : PE X l (tR g fs il)) : PI X tg l (tI g fs .seq [il]) := i_seq_or C (PI.or (pi_list hl) (pi_tup hl))
theorem i_enum (C : Cok g X) (hg : Gl X "enumerate") (hm : X.mg "enumerate" = none) (ha : PA X [l] (tAs g fs [il])) (hs : starEach [l] X.env = [(false, eval l X.env)]) : PI X (.Tuple elts kk tpos) (.Call (.Name "enumerate" p) [l] [] pos) (tI g fs .enum [il]) := by
  refine PI.weak (pi_enum hg hm ha hs) ?_
  rintro σ H R ⟨Bn, Ow, Γ, xs, Γ1, ds, Γ2, rs, e1, e2, k⟩
  refine ⟨Bn, Ow, Γ, xs, Γ1, rs, e1, fun vs H1 O1 s1 r1 v1 => ?_⟩
  obtain ⟨x, rfl, e1⟩ := evs_one e1
  simp only [iterD] at e2
  obtain ⟨⟨d, G2⟩, e3, e2⟩ := Option.bind_eq_some_iff.mp e2
  cases d <;> simp only [reduceCtorEq, Option.some.injEq, Prod.mk.injEq] at e2
  obtain ⟨rfl, rfl⟩ := e2
  obtain ⟨v, w, rfl, v1, z⟩ := v1
  have z : w = [] := z
  subst z
  rw [← fre_dn] at e3
  obtain ⟨O2, s2, r2, rp⟩ := fre_ok r1 v1 e3
  simp only [Rep] at rp
  obtain ⟨a, vs, rfl, na, ha, rr⟩ := rp
  refine ⟨a, vs, rfl, .inl (.inl ha), ?_⟩
  rw [C.K]
  exact k _ H1 O2 (s1.trans s2) r2 (walk_enum (fun z => na (.inr z)) ha rr)
theorem i_zip {l2 : Expr} {il2 : E} (C : Cok g X) (hg : Gl X "zip") (hm : X.mg "zip" = none) (ha : PA X [l, l2] (tAs g fs [il, il2])) (hs : starEach [l, l2] X.env = (false, eval l X.env) :: starEach [l2] X.env) (hpl : (backTo pos (starEach [l2] X.env)).any (·.1) = false) :
    PI X (.Tuple elts kk tpos) (.Call (.Name "zip" p) [l, l2] [] pos) (tI g fs .zip [il, il2]) := by
  refine PI.weak (pi_zip hg hm ha hs hpl) ?_
  rintro σ H R ⟨Bn, Ow, Γ, xs, Γ1, ds, Γ2, rs, e1, e2, k⟩
  refine ⟨Bn, Ow, Γ, xs, Γ1, rs, e1, fun vs H1 O1 s1 r1 v1 => ?_⟩
  simp only [evs] at e1
  obtain ⟨⟨x, G1⟩, e3, e1⟩ := Option.bind_eq_some_iff.mp e1
  obtain ⟨⟨ys, G2⟩, e4, e1⟩ := Option.map_eq_some_iff.mp e1
  obtain ⟨⟨y, G3⟩, e5, e4⟩ := Option.bind_eq_some_iff.mp e4
  simp only [Option.map_some, Option.some.injEq, Prod.mk.injEq] at e4 e1
  obtain ⟨rfl, rfl⟩ := e4
  obtain ⟨rfl, rfl⟩ := e1
  simp only [iterD] at e2
  obtain ⟨⟨d, F1⟩, e6, e2⟩ := Option.bind_eq_some_iff.mp e2
  obtain ⟨⟨e, F2⟩, e7, e2⟩ := Option.bind_eq_some_iff.mp e2
  cases d <;> cases e <;> simp only [reduceCtorEq, Option.some.injEq, Prod.mk.injEq] at e2
  obtain ⟨rfl, rfl⟩ := e2
  obtain ⟨v, w, rfl, v1, w', w'', rfl, v2, z⟩ := v1
  have z : w'' = [] := z
  subst z
  rw [← fre_dn] at e6 e7
  obtain ⟨O2, s2, r2, rp⟩ := fre_ok r1 v1 e6
  obtain ⟨O3, s3, r3, rq⟩ := fre_ok r2 (v2.step s2 r2) e7
  have rp := rp.step s3 r3
  simp only [Rep] at rp rq
  obtain ⟨a, vs, rfl, na, ha, rr⟩ := rp
  obtain ⟨b, ws, rfl, nb, hb, rr'⟩ := rq
  refine ⟨a, b, vs, ws, rfl, .inl (.inl ha), .inl (.inl hb), ?_⟩
  rw [C.K]
  exact k _ H1 O3 ((s1.trans s2).trans s3) r3 (walk_zip (fun z => na (.inr z)) (fun z => nb (.inr z)) ha hb rr rr')
theorem in62_of {i : Int} (h : in62 i = true) : -(2 ^ 62) ≤ i ∧ i < 2 ^ 62 := by
  unfold in62 at h
  have h := of_decide_eq_true h
  by_cases h0 : i.natAbs = 0
  · omega
  · rw [Nat.log2_lt h0] at h
    omega
theorem i_rng1 {a : Expr} {ia : E} (C : Cok g X) (hg : Gl X "range") (hm : X.mg "range" = none) (ha : PA X [a] (tAs g fs [ia])) (hs : starEach [a] X.env = [(false, eval a X.env)]) : PI X tg (.Call (.Name "range" p) [a] [] pos) (tI g fs .rng [ia]) := by
  refine PI.weak (pi_range1 hg hm ha hs) ?_
  rintro σ H R ⟨Bn, Ow, Γ, xs, Γ1, ds, Γ2, rs, e1, e2, k⟩
  refine ⟨Bn, Ow, Γ, xs, Γ1, rs, e1, fun vs H1 O1 s1 r1 v1 => ?_⟩
  obtain ⟨x, rfl, e1⟩ := evs_one e1
  simp only [iterD] at e2
  obtain ⟨dd, e3, e2⟩ := Option.bind_eq_some_iff.mp e2
  have pd := datums_ok r1 v1 e3
  simp only [datums] at e3
  obtain ⟨d, _, e3⟩ := Option.bind_eq_some_iff.mp e3
  simp only [Option.map_some, Option.some.injEq] at e3
  subst e3
  cases d <;> simp only [reduceCtorEq, Option.ite_none_right_eq_some, Option.some.injEq, Prod.mk.injEq] at e2
  obtain ⟨h6, rfl, rfl⟩ := e2
  obtain ⟨v, rfl, q⟩ := paired1 pd
  rw [rdb_int q]
  exact ⟨_, rfl, (in62_of h6).1, (in62_of h6).2, k _ H1 O1 s1 r1 (walk_rng _ _)⟩
theorem i_rng2 {a b : Expr} {ia ib : E} (C : Cok g X) (hg : Gl X "range") (hm : X.mg "range" = none) (ha : PA X [a, b] (tAs g fs [ia, ib])) (hs : starEach [a, b] X.env = [(false, eval a X.env), (false, eval b X.env)]) (hs2 : starEach [b] X.env = [(false, eval b X.env)]) :
    PI X tg (.Call (.Name "range" p) [a, b] [] pos) (tI g fs .rng [ia, ib]) := by
  refine PI.weak (pi_range2 hg hm ha hs hs2) ?_
  rintro σ H R ⟨Bn, Ow, Γ, xs, Γ1, ds, Γ2, rs, e1, e2, k⟩
  refine ⟨Bn, Ow, Γ, xs, Γ1, rs, e1, fun vs H1 O1 s1 r1 v1 => ?_⟩
  simp only [evs] at e1
  obtain ⟨⟨x, G1⟩, _, e1⟩ := Option.bind_eq_some_iff.mp e1
  obtain ⟨⟨ys, G2⟩, e4, e1⟩ := Option.map_eq_some_iff.mp e1
  obtain ⟨⟨y, G3⟩, _, e4⟩ := Option.bind_eq_some_iff.mp e4
  simp only [Option.map_some, Option.some.injEq, Prod.mk.injEq] at e4 e1
  obtain ⟨rfl, rfl⟩ := e4
  obtain ⟨rfl, rfl⟩ := e1
  simp only [iterD] at e2
  obtain ⟨dd, e3, e2⟩ := Option.bind_eq_some_iff.mp e2
  have pd := datums_ok r1 v1 e3
  simp only [datums] at e3
  obtain ⟨d, _, e3⟩ := Option.bind_eq_some_iff.mp e3
  obtain ⟨dr, e5, e3⟩ := Option.map_eq_some_iff.mp e3
  obtain ⟨e, _, e5⟩ := Option.bind_eq_some_iff.mp e5
  simp only [Option.map_some, Option.some.injEq] at e5
  subst e5 e3
  cases d <;> cases e <;> simp only [reduceCtorEq, Option.ite_none_right_eq_some, Option.some.injEq, Prod.mk.injEq, Bool.and_eq_true] at e2
  obtain ⟨⟨h6, h7⟩, rfl, rfl⟩ := e2
  obtain ⟨v, w, rfl, q, q'⟩ := paired2 pd
  rw [rdb_int q, rdb_int q']
  exact ⟨_, _, rfl, ⟨(in62_of h6).1, (in62_of h6).2, (in62_of h7).1, (in62_of h7).2⟩, k _ H1 O1 s1 r1 (walk_rng _ _)⟩
theorem i_rng3 {a b c : Expr} {ia ib ic : E} (C : Cok g X) (hg : Gl X "range") (hm : X.mg "range" = none) (ha : PA X [a, b, c] (tAs g fs [ia, ib, ic])) (hs : starEach [a, b, c] X.env = (false, eval a X.env) :: starEach [b, c] X.env) (hpl : (backTo pos (starEach [b, c] X.env)).any (·.1) = false) :
    PI X tg (.Call (.Name "range" p) [a, b, c] [] pos) (tI g fs .rng [ia, ib, ic]) := by
  refine PI.weak (pi_range3G hg hm ha hs hpl) ?_
  rintro σ H R ⟨Bn, Ow, Γ, xs, Γ1, ds, Γ2, rs, e1, e2, k⟩
  refine ⟨Bn, Ow, Γ, xs, Γ1, rs, e1, fun vs H1 O1 s1 r1 v1 => ?_⟩
  simp only [evs] at e1
  obtain ⟨⟨x, G1⟩, _, e1⟩ := Option.bind_eq_some_iff.mp e1
  obtain ⟨⟨ys, G2⟩, e4, e1⟩ := Option.map_eq_some_iff.mp e1
  obtain ⟨⟨y, G3⟩, _, e4⟩ := Option.bind_eq_some_iff.mp e4
  obtain ⟨⟨zs, G4⟩, e5, e4⟩ := Option.map_eq_some_iff.mp e4
  obtain ⟨⟨z, G5⟩, _, e5⟩ := Option.bind_eq_some_iff.mp e5
  simp only [Option.map_some, Option.some.injEq, Prod.mk.injEq] at e5 e4 e1
  obtain ⟨rfl, rfl⟩ := e5
  obtain ⟨rfl, rfl⟩ := e4
  obtain ⟨rfl, rfl⟩ := e1
  simp only [iterD] at e2
  obtain ⟨dd, e3, e2⟩ := Option.bind_eq_some_iff.mp e2
  have pd := datums_ok r1 v1 e3
  simp only [datums] at e3
  obtain ⟨d, _, e3⟩ := Option.bind_eq_some_iff.mp e3
  obtain ⟨dr, e6, e3⟩ := Option.map_eq_some_iff.mp e3
  obtain ⟨e, _, e6⟩ := Option.bind_eq_some_iff.mp e6
  obtain ⟨er, e7, e6⟩ := Option.map_eq_some_iff.mp e6
  obtain ⟨f, _, e7⟩ := Option.bind_eq_some_iff.mp e7
  simp only [Option.map_some, Option.some.injEq] at e7
  subst e7 e6 e3
  cases d <;> cases e <;> cases f <;> simp only [reduceCtorEq, Option.ite_none_right_eq_some, Option.some.injEq, Prod.mk.injEq] at e2
  obtain ⟨⟨h6, h7, h9⟩, rfl, rfl⟩ := e2
  cases pd with
  | cons q1 pd =>
    cases pd with
    | cons q2 pd =>
      cases pd with
      | cons q3 pd =>
        cases pd
        rw [rdb_int q1, rdb_int q2, rdb_int q3]
        exact ⟨_, _, _, _, rfl, ⟨h6, h7, h9⟩, k _ H1 O1 s1 r1 (walk_rngC _ _ _)⟩
end
end DV

namespace DV
open PySem L2
/-! ### slots wiped and restored -/
theorem wipe_nout {σ : St} {i : Nat} : ∀ {vs : List Nat}, i ∉ vs → (wipe σ vs)[i]? = σ[i]?
  | [], _ => rfl
  | v :: vs, h => by
    simp only [List.mem_cons, not_or] at h
    unfold wipe
    rw [List.getElem?_set_ne (fun z => h.1 z.symm)]
    exact wipe_nout h.2
theorem wipe_in {σ : St} {i : Nat} : ∀ {vs : List Nat}, i ∈ vs → i < σ.length → (wipe σ vs)[i]? = some none
  | v :: vs, h, hl => by
    unfold wipe
    by_cases e : v = i
    · subst e
      exact List.getElem?_set_self (by rw [wipe_length]; exact hl)
    · rw [List.getElem?_set_ne e]
      rcases List.mem_cons.mp h with h | h
      · exact absurd h.symm e
      · exact wipe_in h hl
theorem wipeG_len (Γ : Ct) : ∀ vs : List Nat, (wipeG Γ vs).length = Γ.length
  | [] => rfl
  | v :: vs => by unfold wipeG; rw [List.length_set, wipeG_len Γ vs]
theorem wipeG_some {Γ : Ct} {i : Nat} {p : D × Bool} : ∀ {vs : List Nat}, (wipeG Γ vs)[i]? = some (some p) → Γ[i]? = some (some p) ∧ i ∉ vs
  | [], h => ⟨h, by simp⟩
  | v :: vs, h => by
    unfold wipeG at h
    by_cases e : v = i
    · subst e
      by_cases hl : v < (wipeG Γ vs).length
      · rw [List.getElem?_set_self hl] at h; cases h
      · rw [List.getElem?_eq_none (by rw [List.length_set]; omega)] at h; cases h
    · rw [List.getElem?_set_ne e] at h
      obtain ⟨h1, h2⟩ := wipeG_some h
      exact ⟨h1, by simp only [List.mem_cons, not_or]; exact ⟨fun z => e z.symm, h2⟩⟩
theorem restG_len (Γ Γ' : Ct) : ∀ vs : List Nat, (restG Γ Γ' vs).length = Γ'.length
  | [] => rfl
  | v :: vs => by unfold restG; rw [List.length_set, restG_len Γ Γ' vs]
theorem restG_out {Γ Γ' : Ct} {i : Nat} : ∀ {vs : List Nat}, i ∉ vs → (restG Γ Γ' vs)[i]? = Γ'[i]?
  | [], _ => rfl
  | v :: vs, h => by
    simp only [List.mem_cons, not_or] at h
    unfold restG
    rw [List.getElem?_set_ne (fun z => h.1 z.symm)]
    exact restG_out h.2
theorem restG_in {Γ Γ' : Ct} {i : Nat} : ∀ {vs : List Nat}, i ∈ vs → i < Γ'.length → (restG Γ Γ' vs)[i]? = some (Γ.getD i none)
  | v :: vs, h, hl => by
    unfold restG
    by_cases e : v = i
    · subst e
      exact List.getElem?_set_self (by rw [restG_len]; exact hl)
    · rw [List.getElem?_set_ne e]
      rcases List.mem_cons.mp h with h | h
      · exact absurd h.symm e
      · exact restG_in h hl
theorem wipe_same {σ σ' : St} {vs : List Nat} (hl : σ'.length = σ.length) (h : ∀ i, i ∉ vs → σ'[i]? = σ[i]?) : wipe σ' vs = wipe σ vs := by
  apply List.ext_getElem?
  intro i
  by_cases hi : i ∈ vs
  · by_cases hlt : i < σ.length
    · rw [wipe_in hi hlt, wipe_in hi (by omega)]
    · rw [List.getElem?_eq_none (by rw [wipe_length]; omega), List.getElem?_eq_none (by rw [wipe_length]; omega)]
  · rw [wipe_nout hi, wipe_nout hi, h i hi]
theorem wipe_wipe (σ : St) (vs : List Nat) : wipe (wipe σ vs) vs = wipe σ vs := wipe_same (wipe_length σ vs) fun i hi => wipe_nout hi
section
variable {g : Gx} {Bn : Addr → Prop} {Ow Ow' : List Addr} {H H' : Hp} {σ : St} {Γ Γ' : Ct}
theorem RS.wipe (own : List Nat) (rs : RS g Bn Ow H σ Γ) : RS g Bn Ow H (L2.wipe σ own) (wipeG Γ own) := by
  refine ⟨by rw [wipe_length, wipeG_len]; exact rs.len, fun i d h => ?_, fun i d h => ?_, fun i j d e a h1 h2 h3 h4 => ?_, rs.trk, rs.sep, rs.kf⟩
  · obtain ⟨h1, h2⟩ := wipeG_some h
    rw [wipe_nout h2]
    exact rs.slot i d h1
  · obtain ⟨h1, h2⟩ := wipeG_some h
    rw [wipe_nout h2]
    exact rs.own i d h1
  · obtain ⟨q1, n1⟩ := wipeG_some h1
    obtain ⟨q2, n2⟩ := wipeG_some h2
    rw [wipe_nout n1] at h3
    rw [wipe_nout n2] at h4
    exact rs.dist i j _ _ _ q1 q2 h3 h4
/-- the block is over: its own names are what they were -/
theorem RS.rest {Bn' : Addr → Prop} {own : List Nat} (r0 : RS g Bn Ow H σ Γ) (hp : plainIx Γ own = true) (s : Stp Ow H Ow' H') (hB : ∀ a, Bn' a → Bn a ∨ H a = none) (rs : RS g Bn' Ow' H' (L2.wipe σ own) Γ') : RS g Bn' Ow' H' σ (restG Γ Γ' own) := by
  have hl : σ.length = Γ'.length := by rw [← rs.len, wipe_length]
  have pl : ∀ i, i ∈ own → ∀ d, Γ[i]? ≠ some (some (d, true)) := fun i hi d z => by
    unfold plainIx at hp
    have q := List.all_eq_true.mp hp i hi
    rw [z] at q
    cases q
  have inn : ∀ {i : Nat} {p : D × Bool}, i ∈ own → (restG Γ Γ' own)[i]? = some (some p) → Γ[i]? = some (some p) := fun {i p} hi h => by
    have hlt : i < Γ'.length := by
      rw [← restG_len Γ Γ' own]
      exact (List.getElem?_eq_some_iff.mp h).1
    rw [restG_in hi hlt] at h
    have hlt2 : i < Γ.length := by rw [← r0.len, hl]; exact hlt
    rw [List.getD_eq_getElem?_getD, List.getElem?_eq_getElem hlt2] at h
    rw [List.getElem?_eq_getElem hlt2]
    simpa using h
  refine ⟨by rw [restG_len]; exact hl, fun i d h => ?_, fun i d h => ?_, fun i j d e a h1 h2 h3 h4 => ?_, rs.trk, rs.sep, rs.kf⟩
  · by_cases hi : i ∈ own
    · obtain ⟨v, e, r⟩ := r0.slot i d (inn hi h)
      exact ⟨v, e, rep_mono (vst2 hB s rs) _ _ r⟩
    · rw [restG_out hi] at h
      obtain ⟨v, e, r⟩ := rs.slot i d h
      rw [wipe_nout hi] at e
      exact ⟨v, e, r⟩
  · by_cases hi : i ∈ own
    · exact absurd (inn hi h) (pl i hi d)
    · rw [restG_out hi] at h
      obtain ⟨v, e, r⟩ := rs.own i d h
      rw [wipe_nout hi] at e
      exact ⟨v, e, r⟩
  · have n1 : i ∉ own := fun z => pl i z d (inn z h1)
    have n2 : j ∉ own := fun z => pl j z e (inn z h2)
    rw [restG_out n1] at h1
    rw [restG_out n2] at h2
    exact rs.dist i j _ _ _ h1 h2 (by rw [wipe_nout n1]; exact h3) (by rw [wipe_nout n2]; exact h4)
abbrev orB (Bn : Addr → Prop) (p : Addr) : Addr → Prop := fun a => Bn a ∨ a = p
theorem RS.addB {p : Addr} (rs : RS g Bn Ow H σ Γ) (s : Same H H') (np : H p = none) (hp : H' p ≠ none) (hk : g.K.lookup p = none) : RS g (orB Bn p) Ow H' σ Γ := by
  have r := rs.add s np hp hk
  have np' : p ∉ Ow := fun z => rs.trk p (.inr z) np
  have av : ∀ a, Av (orB Bn p) Ow a → Av Bn (p :: Ow) a := fun a h => by
    rcases h with (h | h) | h
    · exact .inl h
    · exact .inr (by rw [h]; exact List.mem_cons_self)
    · exact .inr (List.mem_cons_of_mem _ h)
  refine ⟨r.len, fun i d h => ?_, fun i d h => ?_, r.dist, fun a h => r.trk a (av a h), fun a h z => ?_, fun a h => r.kf a (av a h)⟩
  · obtain ⟨v, e, q⟩ := r.slot i d h; exact ⟨v, e, rep_less av q⟩
  · obtain ⟨a, e, m, q⟩ := r.own i d h
    obtain ⟨a', e', m', _⟩ := rs.own i d h
    rw [e] at e'; cases e'
    exact ⟨a, e, m', own_less av q⟩
  · rcases h with h | h
    · exact rs.sep a h z
    · rw [h] at z; exact np' z
theorem RS.unB {p : Addr} (rs : RS g (orB Bn p) Ow H σ Γ) (nb : ¬ Bn p) : RS g Bn (p :: Ow) H σ Γ := by
  have av : ∀ a, Av Bn (p :: Ow) a → Av (orB Bn p) Ow a := fun a h => by
    rcases h with h | h
    · exact .inl (.inl h)
    · rcases List.mem_cons.mp h with h | h
      · exact .inl (.inr h)
      · exact .inr h
  refine ⟨rs.len, fun i d h => ?_, fun i d h => ?_, rs.dist, fun a h => rs.trk a (av a h), fun a h z => ?_, fun a h => rs.kf a (av a h)⟩
  · obtain ⟨v, e, q⟩ := rs.slot i d h; exact ⟨v, e, rep_less av q⟩
  · obtain ⟨a, e, m, q⟩ := rs.own i d h
    exact ⟨a, e, List.mem_cons_of_mem _ m, own_less av q⟩
  · rcases List.mem_cons.mp z with z | z
    · subst z; exact nb h
    · exact rs.sep a (.inl h) z
/-- what is banned may change -/
theorem ban_vst {p : Addr} {o : HO} {A : Addr → Prop} (h : A p) : ∀ a, Vst g A H a → (∀ x, H a = some x → (upd H p o) a = some x) ∧ ¬ A a := fun a ⟨n, _⟩ => ⟨fun x e => by
  rw [upd_ne (fun z => n (by rw [z]; exact h))]
  exact e, n⟩
theorem RS.updB {p : Addr} {o : HO} (rs : RS g Bn Ow H σ Γ) (hp : Bn p) : RS g Bn Ow (upd H p o) σ Γ := by
  have v := ban_vst (g := g) (H := H) (o := o) (A := Av Bn Ow) (p := p) (.inl hp)
  refine ⟨rs.len, fun i d h => ?_, fun i d h => ?_, rs.dist, fun a h => ?_, rs.sep, rs.kf⟩
  · obtain ⟨w, e, q⟩ := rs.slot i d h; exact ⟨w, e, rep_mono v _ _ q⟩
  · obtain ⟨a, e, m, q⟩ := rs.own i d h
    have ne : a ≠ p := fun z => by subst z; exact rs.sep a hp m
    refine ⟨a, e, m, ?_⟩
    cases d with
    | lst ds => obtain ⟨ws, z1, z2⟩ := q; exact ⟨ws, by rw [upd_ne ne]; exact z1, reps_mono v _ _ z2⟩
    | obj c ks ds => obtain ⟨dx, ws, l, z1, z2⟩ := q; exact ⟨dx, ws, l, by rw [upd_ne ne]; exact z1, reps_mono v _ _ z2⟩
    | _ => exact q
  · by_cases e : a = p
    · subst e; rw [upd_same]; simp
    · rw [upd_ne e]; exact rs.trk a h
theorem Stp.updN {O O' : List Addr} {p : Addr} {o : HO} (s : Stp O H O' H') (np : H p = none) : Stp O H O' (upd H' p o) where
  keep := fun a x h n => by
    rw [upd_ne (ne_of_none h np)]
    exact s.keep a x h n
  grow := s.grow
  stay := fun a h => by
    by_cases e : a = p
    · subst e; rw [upd_same]; simp
    · rw [upd_ne e]; exact s.stay a h
end
def tTc (g : Gx) (fs : List FS) (cond : List E) : TT := fun σ H Q => ∃ Bn Ow Γ t Γ', RS g Bn Ow H σ Γ ∧ evc fs cond Γ = some (t, Γ') ∧ ∀ H' Ow', Stp Ow H Ow' H' → RS g Bn Ow' H' σ Γ' → Q t H'
abbrev kfs (K : PySem.W.Frag) (H : Hp) : Prop := ∀ a o, K.lookup a = some o → H a = none
def tgK (K : PySem.W.Frag) (tg : Tg) : TG := fun v σ H Q => kfs K H → tgT K tg v σ H Q
section
variable {g : Gx} {fs : List FS} {Bn : Addr → Prop} {Ow : List Addr} {H : Hp} {σ : St} {Γ Γ' : Ct}
theorem comp_core {own : List Nat} {tg : Tg} {ik : IK} {its cond : List E} {elt : E} {r : RV} {Q : VK} (rs : RS g Bn Ow H σ Γ) (he : ev fs (.comp own tg ik its cond elt) Γ = some (r, Γ'))
    (hQ : ∀ v H' Ow', Stp Ow H Ow' H' → RS g Bn Ow' H' σ Γ' → Val g Bn Ow' H' σ Γ' r v → Q v H') :
    tLc (tI g fs ik its) (tgK g.K tg) (tTc g fs cond) (tR g fs elt) own σ H (fun v H' => kfs g.K H' → Q v H') := by
  simp only [ev] at he
  obtain ⟨⟨xs, Γ1⟩, e1, he⟩ := Option.bind_eq_some_iff.mp he
  obtain ⟨⟨ds, Γ2⟩, e2, he⟩ := Option.bind_eq_some_iff.mp he
  simp only [Option.ite_none_right_eq_some, Bool.and_eq_true, decide_eq_true_eq] at he
  obtain ⟨⟨⟨hp, hz⟩, htg⟩, he⟩ := he
  obtain ⟨⟨acc, Γ3⟩, e3, he⟩ := Option.map_eq_some_iff.mp he
  simp only [Prod.mk.injEq] at he
  obtain ⟨rfl, rfl⟩ := he
  refine ⟨Bn, Ow, Γ, xs, Γ1, ds, Γ2, rs, e1, e2, fun J H1 O1 s1 r1 wk Dl hD => ?_⟩
  have nbD : ¬ Bn Dl := fun z => r1.trk Dl (.inl z) hD
  have tgO : ∀ i, i ∉ own → i ∉ tgIx tg := fun i hi z => by
    have := List.all_eq_true.mp htg i z
    simp only [List.contains_eq_mem, decide_eq_true_eq] at this
    exact hi this
  let Cn : Nat → Hp → Prop := fun i H => g.K.lookup Dl = none → ∃ O Γi acci vs, Stp O1 H1 O H ∧ RS g (orB Bn Dl) O H (L2.wipe σ own) Γi ∧ H Dl = some (.lst vs) ∧ vs.length ≤ i ∧ Reps g (Av (orB Bn Dl) O) H acci vs ∧ compLoop own tg (evc fs cond) (ev fs elt) (ds.drop i) acci Γi = some (acc, Γ3)
  let U : Nat → Hp → Prop := fun i H => (∀ a o, H1 a = some o → a ∉ O1 → H a = some o) ∧ ∃ vs, H Dl = some (.lst vs)
  refine ⟨fun i m H => m = ds.length - i ∧ i ≤ ds.length ∧ U i H ∧ Cn i H, ⟨ds.length, by simp, Nat.zero_le _, ⟨fun a o h _ => by rw [upd_ne (ne_of_none h hD)]; exact h, [], upd_same⟩, fun hk => ?_⟩, ?_⟩
  · exact ⟨O1, _, [], [], (Stp.refl O1 H1).updN hD, (r1.wipe own).addB (same_new hD) hD (by rw [upd_same]; simp) hk, upd_same, Nat.le_refl _, by simp only [Reps], e3⟩
  rintro i m H ⟨rfl, hi, ⟨hU1, vs0, hU2⟩, hC⟩
  by_cases hlt : i < ds.length
  · refine .inr ⟨wk.go i H hlt hU1, fun H' => U (i + 1) H' ∧ Cn (i + 1) H', fun H' q => ⟨ds.length - (i + 1), by omega, rfl, hlt, q.1, q.2⟩, fun x H' y kf => ?_⟩
    have sm := wk.same i H x H' y
    have hk : g.K.lookup Dl = none := kf_new kf (sm _ _ hU2)
    obtain ⟨O, Γi, acci, vs, st, r2, hDl, hvl, rp, lp⟩ := hC hk
    have ed : ds[i]? = some ds[i] := List.getElem?_eq_getElem hlt
    have edr : ds.drop i = ds[i] :: ds.drop (i + 1) := List.drop_eq_getElem_cons hlt
    rw [edr] at lp
    simp only [compLoop] at lp
    obtain ⟨G1, a1, lp⟩ := Option.bind_eq_some_iff.mp lp
    obtain ⟨⟨b, G2⟩, a2, lp⟩ := Option.bind_eq_some_iff.mp lp
    obtain ⟨_, rx⟩ := wk.yld i _ (orB Bn Dl) O H _ _ x H' ed (fun a z => .inl z) (fun a z => z.elim .inl fun z => .inr (by rw [z]; exact hD)) st r2 y
    have r2' := r2.same sm
    refine asgT_ok tg r2' rx a1 fun σ2 q1 q2 q3 => ?_
    have hw : L2.wipe σ2 own = L2.wipe σ own := by
      rw [← wipe_wipe σ own]
      exact wipe_same q2 fun j hj => q3 j (tgO j hj)
    refine ⟨hw, orB Bn Dl, O, G1, b, G2, q1, a2, fun H3 O3 s3 r3 => ?_⟩
    have st3 : Stp O1 H1 O3 H3 := (st.trans (Stp.same sm)).trans s3
    have dO : Dl ∉ O := r2.sep Dl (.inr rfl)
    have hDl3 : H3 Dl = some (.lst vs) := s3.keep _ _ (sm _ _ hDl) dO
    have rp3 : Reps g (Av (orB Bn Dl) O3) H3 acci vs := (rp.same sm).step s3 r3
    cases b with
    | false =>
      simp only [Bool.false_eq_true, if_false, Option.ite_none_right_eq_some] at lp ⊢
      obtain ⟨_, lp⟩ := lp
      refine ⟨⟨fun a o h n => st3.keep a o h n, vs, hDl3⟩, fun _ => ⟨O3, _, acci, vs, st3, ?_, hDl3, by omega, rp3, lp⟩⟩
      have := r3.wipe own
      rw [hw] at this
      exact this
    | true =>
      simp only [if_true] at lp ⊢
      obtain ⟨⟨ye, G3⟩, a3, lp⟩ := Option.bind_eq_some_iff.mp lp
      obtain ⟨⟨e, G4⟩, a4, lp⟩ := Option.bind_eq_some_iff.mp lp
      simp only [Option.ite_none_right_eq_some] at lp
      obtain ⟨_, lp⟩ := lp
      refine ⟨orB Bn Dl, O3, G2, ye, G3, r3, a3, fun y4 H4 O4 s4 r4 v4 => ?_⟩
      obtain ⟨O5, s5, r5, p5⟩ := fre_ok r4 v4 a4
      have dO3 : Dl ∉ O3 := r3.sep Dl (.inr rfl)
      have hDl4 : H4 Dl = some (.lst vs) := s4.keep _ _ hDl3 dO3
      have st5 : Stp O1 H1 O5 H4 := (st3.trans s4).trans s5
      have rp5 : Reps g (Av (orB Bn Dl) O5) H4 acci vs := (rp3.step s4 r4).step s5 r5
      have st6 : Stp O1 H1 O5 (upd H4 Dl (.lst (vs ++ [y4]))) := st5.updN hD
      refine ⟨vs, hDl4, by omega, ⟨fun a o h n => st6.keep a o h n, vs ++ [y4], upd_same⟩, fun _ => ⟨O5, _, acci ++ [e], vs ++ [y4], st6, ?_, upd_same, by rw [List.length_append, List.length_singleton]; omega, ?_, lp⟩⟩
      · have := r5.wipe own
        rw [hw] at this
        exact this.updB (.inr rfl)
      · exact reps_mono (ban_vst (.inl (.inr rfl))) _ _ (rp5.app (Reps.one p5))
  · have e : i = ds.length := by omega
    subst e
    refine .inl ⟨wk.stop H hU1, fun kf => ?_⟩
    have hk : g.K.lookup Dl = none := kf_new kf hU2
    obtain ⟨O, Γi, acci, vs, st, r2, hDl, hvl, rp, lp⟩ := hC hk
    rw [List.drop_length] at lp
    simp only [compLoop, Option.some.injEq, Prod.mk.injEq] at lp
    obtain ⟨rfl, rfl⟩ := lp
    have r3 := r1.rest hp st (fun a z => z.elim .inl fun z => .inr (by rw [z]; exact hD)) r2
    have r4 := r3.unB nbD
    refine hQ _ H (Dl :: O) (s1.trans ⟨st.keep, fun a h => ?_, st.stay⟩) r4 ⟨Dl, rfl, List.mem_cons_self, ⟨vs, hDl, ?_⟩, fun j e h1 h2 => ?_⟩
    · rcases List.mem_cons.mp h with h | h
      · rw [h]; exact .inr hD
      · exact st.grow a h
    · refine reps_less (fun a z => ?_) rp
      rcases z with z | z
      · exact .inl (.inl z)
      · rcases List.mem_cons.mp z with z | z
        · exact .inl (.inr z)
        · exact .inr z
    · obtain ⟨a, e2, m2, _⟩ := r3.own j e h1
      rw [h2] at e2; cases e2
      exact r2.sep Dl (.inr rfl) m2
end
section
variable {X : Cx} {g : Gx} {fs : List FS}
theorem PG.kf {tg : Expr} {t : TG} (h : PG X tg t) : PG X tg (fun v σ H Q => kfs X.K H → t v σ H Q) := ⟨fun pins s σ H v u Q I r q => h.run pins s σ H v u Q I r (q (Inv.kf I))⟩
theorem PTs.weak {e : List Expr} {t t' : TT} (h : PTs X e t) (k : ∀ σ H Q, t' σ H Q → t σ H Q) : PTs X e t' := ⟨fun pins s σ H Q I q => h.run pins s σ H Q I (k σ H Q q)⟩
theorem c_nil : PTs X [] (tTc g fs []) := by
  refine PTs.weak pts_nil ?_
  rintro σ H Q ⟨Bn, Ow, Γ, t, Γ', rs, he, hQ⟩
  simp only [evc, Option.some.injEq, Prod.mk.injEq] at he
  obtain ⟨rfl, rfl⟩ := he
  exact hQ H Ow (.refl _ _) rs
theorem c_one {c : Expr} {ic : E} (h : PT X c (tT g fs ic)) : PTs X [c] (tTc g fs [ic]) := by
  refine PTs.weak (pts_one h) ?_
  rintro σ H Q ⟨Bn, Ow, Γ, t, Γ', rs, he, hQ⟩
  simp only [evc] at he
  obtain ⟨⟨x, Γ1⟩, e1, he⟩ := Option.bind_eq_some_iff.mp he
  obtain ⟨t', e2, he⟩ := Option.map_eq_some_iff.mp he
  simp only [Prod.mk.injEq] at he
  obtain ⟨rfl, rfl⟩ := he
  exact ⟨Bn, Ow, Γ, x, Γ1, t', rs, e1, e2, hQ⟩
theorem p_comp {elt tg iter : Expr} {ifs : List Expr} {scope : Scope} {own : List (Str × Nat)} {pos : Pos} {itg : Tg} {ik : IK} {its cond : List E} {ielt : E} (C : Cok g X) (hi : PI X tg iter (tI g fs ik its)) (ok : BlkOk X.N X.env.scope scope own)
    (hg : ∀ (s : Shared) (H : Hp) (C : Addr) (cl : List (Str × Addr)) (fp : List Addr), PG (X.blk s H scope (compEnvC scope cl C X.env) fp) tg (tgT g.K itg)) (ht : ∀ (s : Shared) (H : Hp) (C : Addr) (cl : List (Str × Addr)) (fp : List Addr), PTs (X.blk s H scope (compEnvC scope cl C X.env) fp) ifs (tTc g fs cond))
    (he : ∀ (s : Shared) (H : Hp) (C : Addr) (cl : List (Str × Addr)) (fp : List Addr), PE (X.blk s H scope (compEnvC scope cl C X.env) fp) elt (tR g fs ielt)) (hs : ∀ x, foldedSetIterable iter X.env x = pure x) :
    PE X (.ListComp elt [⟨tg, iter, ifs, 0⟩] scope pos) (tR g fs (.comp (own.map (·.2)) itg ik its cond ielt)) := by
  refine PE.weak (PE.kf (pe_lc (g := tgK g.K itg) C.calm C.nd hi ok (fun s H Ca cl fp => ?_) ht he hs)) ?_
  · have := PG.kf (hg s H Ca cl fp)
    exact ⟨fun pins s σ H v u Q I r q => this.run pins s σ H v u Q I r fun kf => q fun a o e => kf a o (by show X.K.lookup a = some o; rw [C.K]; exact e)⟩
  · rintro σ H Q ⟨Bn, Ow, Γ, r, Γ', rs, he, hQ⟩
    have q := comp_core rs he hQ
    rw [C.K]
    exact q
end
end DV

namespace DV
open PySem L2
def Pin (pv : Nat × List (Nat × V)) (σ : St) : Prop := σ.length = pv.1 ∧ ∀ p ∈ pv.2, σ[p.1]? = some (some p.2)
def Post (g : Gx) (Dn : Ends) (pv : Nat × List (Nat × V)) (Bn : Addr → Prop) (Ow : List Addr) (H : Hp) : Out → Prop
  | .nx Γ' => ∀ σ' H' Ow', Stp Ow H Ow' H' → RS g Bn Ow' H' σ' Γ' → Pin pv σ' → Dn.nx σ' H'
  | .bk Γ' => ∀ σ' H' Ow', Stp Ow H Ow' H' → RS g Bn Ow' H' σ' Γ' → Pin pv σ' → Dn.bk σ' H'
  | .ct Γ' => ∀ σ' H' Ow', Stp Ow H Ow' H' → RS g Bn Ow' H' σ' Γ' → Pin pv σ' → Dn.ct σ' H'
  | .rt r Γ' => ∀ v σ' H' Ow', Stp Ow H Ow' H' → RS g Bn Ow' H' σ' Γ' → Pin pv σ' → Val g Bn Ow' H' σ' Γ' r v → Dn.rt v H'
def tSt (g : Gx) (fs : List FS) (is : S) : TS := fun Dn σ H => ∃ pv Bn Ow Γ o, RS g Bn Ow H σ Γ ∧ Pin pv σ ∧ ex fs (pv.2.map (·.1)) is Γ = some o ∧ Post g Dn pv Bn Ow H o
def tSs (g : Gx) (fs : List FS) (is : List S) : TS := fun Dn σ H => ∃ pv Bn Ow Γ o, RS g Bn Ow H σ Γ ∧ Pin pv σ ∧ exs fs (pv.2.map (·.1)) is Γ = some o ∧ Post g Dn pv Bn Ow H o
section
variable {X : Cx} {g : Gx} {fs : List FS} {st : Stmt} {pos : Pos}
theorem PS.weak {t t' : TS} (h : PS X st t) (k : ∀ Dn σ H, t' Dn σ H → t Dn σ H) : PS X st t' := ⟨fun pins s σ H Dn I q => h.run pins s σ H Dn I (k Dn σ H q)⟩
theorem PSs.weak {ss : List Stmt} {t t' : TS} (h : PSs X ss t) (k : ∀ Dn σ H, t' Dn σ H → t Dn σ H) : PSs X ss t' := ⟨fun pins s σ H Dn I q => h.run pins s σ H Dn I (k Dn σ H q)⟩
theorem PS.kf {t : TS} (h : PS X st t) : PS X st (fun Dn σ H => t { nx := fun σ H => kfs X.K H → Dn.nx σ H, rt := fun v H => kfs X.K H → Dn.rt v H, bk := fun σ H => kfs X.K H → Dn.bk σ H, ct := fun σ H => kfs X.K H → Dn.ct σ H } σ H) := ⟨fun pins s σ H Dn I q => thn (h.run pins s σ H _ I q) fun f s1 r => by
  cases f with
  | next => obtain ⟨a, b, I1, c⟩ := r; exact ⟨a, b, I1, c (Inv.kf I1)⟩
  | brk => obtain ⟨a, b, I1, c⟩ := r; exact ⟨a, b, I1, c (Inv.kf I1)⟩
  | cont => obtain ⟨a, b, I1, c⟩ := r; exact ⟨a, b, I1, c (Inv.kf I1)⟩
  | ret v => obtain ⟨x, a, b, I1, r1, c⟩ := r; exact ⟨x, a, b, I1, r1, c (Inv.kf I1)⟩⟩
section
variable {Bn : Addr → Prop} {Ow Ow' : List Addr} {H H' : Hp} {σ : St} {Γ Γ' : Ct} {Dn : Ends} {pv : Nat × List (Nat × V)}
theorem Post.step {o : Out} (h : Post g Dn pv Bn Ow H o) (s : Stp Ow H Ow' H') : Post g Dn pv Bn Ow' H' o := by
  cases o with
  | nx G => exact fun σ1 H1 O1 s1 r p => h σ1 H1 O1 (s.trans s1) r p
  | bk G => exact fun σ1 H1 O1 s1 r p => h σ1 H1 O1 (s.trans s1) r p
  | ct G => exact fun σ1 H1 O1 s1 r p => h σ1 H1 O1 (s.trans s1) r p
  | rt r G => exact fun v σ1 H1 O1 s1 r p => h v σ1 H1 O1 (s.trans s1) r p
theorem Pin.set {i : Nat} {v : Option V} (h : Pin pv σ) (d : disjB [i] (pv.2.map (·.1)) = true) : Pin pv (σ.set i v) := ⟨by rw [List.length_set]; exact h.1, fun p hp => by
  rw [List.getElem?_set_ne]
  · exact h.2 p hp
  · intro z
    simp only [disjB, List.all_cons, List.all_nil, Bool.and_true, Bool.not_eq_true', List.contains_eq_mem, decide_eq_false_iff_not] at d
    exact d (by rw [z]; exact List.mem_map.mpr ⟨p, hp, rfl⟩)⟩
theorem Pin.keep {σ' : St} {xs : List Nat} (h : Pin pv σ) (d : disjB xs (pv.2.map (·.1)) = true) (hl : σ'.length = σ.length) (k : ∀ i, i ∉ xs → σ'[i]? = σ[i]?) : Pin pv σ' := ⟨hl.trans h.1, fun p hp => by
  rw [k]
  · exact h.2 p hp
  · intro z
    have := List.all_eq_true.mp d _ z
    simp only [Bool.not_eq_true', List.contains_eq_mem, decide_eq_false_iff_not] at this
    exact this (List.mem_map.mpr ⟨p, hp, rfl⟩)⟩
/-- an owned list is rewritten -/
theorem RS.mut {i : Nat} {c : D} {a : Addr} {ds : List D} {ws : List V} (rs : RS g Bn Ow H σ Γ) (hi : Γ[i]? = some (some (c, true))) (hs : σ[i]? = some (some (.ref a))) (r : Reps g (Av Bn Ow) H ds ws) :
    RS g Bn Ow (upd H a (.lst ws)) σ (Γ.set i (some (.lst ds, true))) ∧ Stp Ow H Ow (upd H a (.lst ws)) := by
  have hil : i < Γ.length := (List.getElem?_eq_some_iff.mp hi).1
  obtain ⟨b, e1, m, _⟩ := rs.own i _ hi
  rw [hs] at e1; cases e1
  have vs := ban_vst (g := g) (H := H) (o := .lst ws) (A := Av Bn Ow) (p := a) (.inr m)
  refine ⟨⟨by rw [List.length_set]; exact rs.len, fun j e h => ?_, fun j e h => ?_, fun j k e f b h1 h2 h3 h4 => ?_, fun b h => ?_, rs.sep, rs.kf⟩, ⟨fun b o h n => ?_, fun _ h => .inl h, fun b h => ?_⟩⟩
  · have hj : i ≠ j := fun z => by subst z; rw [List.getElem?_set_self hil] at h; cases h
    rw [List.getElem?_set_ne hj] at h
    obtain ⟨v, e1, r1⟩ := rs.slot j e h
    exact ⟨v, e1, rep_mono vs _ _ r1⟩
  · by_cases hj : i = j
    · subst hj
      rw [List.getElem?_set_self hil] at h; cases h
      exact ⟨a, hs, m, ws, upd_same, reps_mono vs _ _ r⟩
    · rw [List.getElem?_set_ne hj] at h
      obtain ⟨b, e1, m1, o1⟩ := rs.own j e h
      have nb : b ≠ a := fun z => hj (by subst z; exact rs.dist i j _ _ _ hi h hs e1)
      refine ⟨b, e1, m1, ?_⟩
      cases e with
      | lst es => obtain ⟨us, e2, r2⟩ := o1; exact ⟨us, by rw [upd_ne nb]; exact e2, reps_mono vs _ _ r2⟩
      | obj c ks es => obtain ⟨dx, us, l, e2, r2⟩ := o1; exact ⟨dx, us, l, by rw [upd_ne nb]; exact e2, reps_mono vs _ _ r2⟩
      | _ => exact o1
  · have ex : ∀ (j : Nat) e, (Γ.set i (some (.lst ds, true)))[j]? = some (some (e, true)) → ∃ e', Γ[j]? = some (some (e', true)) := fun j e h => by
      by_cases hj : i = j
      · subst hj; exact ⟨_, hi⟩
      · rw [List.getElem?_set_ne hj] at h; exact ⟨_, h⟩
    obtain ⟨e', h1⟩ := ex j e h1
    obtain ⟨f', h2⟩ := ex k f h2
    exact rs.dist j k _ _ _ h1 h2 h3 h4
  · by_cases z : b = a
    · subst z; rw [upd_same]; simp
    · rw [upd_ne z]; exact rs.trk b h
  · have z : b ≠ a := fun z => n (by rw [z]; exact m)
    rw [upd_ne z]; exact h
  · by_cases z : b = a
    · subst z; rw [upd_same]; simp
    · rw [upd_ne z]; exact h
end
/-! ### simple statements -/
theorem s_pass : PS X (.Pass pos) (tSt g fs .pass) := by
  refine PS.weak ps_pass ?_
  rintro Dn σ H ⟨pv, Bn, Ow, Γ, o, rs, pn, he, po⟩
  simp only [ex, Option.some.injEq] at he; subst he
  exact po σ H Ow (.refl _ _) rs pn
theorem s_doc {x j pos'} : PS X (.Expr (.Constant (.str x) j pos) pos') (tSt g fs .pass) := by
  refine PS.weak ps_doc ?_
  rintro Dn σ H ⟨pv, Bn, Ow, Γ, o, rs, pn, he, po⟩
  simp only [ex, Option.some.injEq] at he; subst he
  exact po σ H Ow (.refl _ _) rs pn
theorem s_brk : PS X (.Break pos) (tSt g fs .brk) := by
  refine PS.weak ps_break ?_
  rintro Dn σ H ⟨pv, Bn, Ow, Γ, o, rs, pn, he, po⟩
  simp only [ex, Option.some.injEq] at he; subst he
  exact po σ H Ow (.refl _ _) rs pn
theorem s_cont : PS X (.Continue pos) (tSt g fs .cont) := by
  refine PS.weak ps_continue ?_
  rintro Dn σ H ⟨pv, Bn, Ow, Γ, o, rs, pn, he, po⟩
  simp only [ex, Option.some.injEq] at he; subst he
  exact po σ H Ow (.refl _ _) rs pn
theorem s_retN : PS X (.Return none pos) (tSt g fs .retN) := by
  refine PS.weak ps_retN ?_
  rintro Dn σ H ⟨pv, Bn, Ow, Γ, o, rs, pn, he, po⟩
  simp only [ex, Option.some.injEq] at he; subst he
  exact po .non σ H Ow (.refl _ _) rs pn (show Rep g _ _ _ _ by simp only [Rep])
theorem s_stuck : PS X st (tSt g fs .stuck) := by
  refine PS.weak ps_never ?_
  rintro Dn σ H ⟨pv, Bn, Ow, Γ, o, rs, pn, he, po⟩
  simp only [ex, reduceCtorEq] at he
theorem s_expr {e : Expr} {ie : E} (h : PE X e (tR g fs ie)) (hs : swapsWith e none pos.line X.env = pure false) : PS X (.Expr e pos) (tSt g fs (.expr ie)) := by
  refine PS.weak (ps_expr h hs) ?_
  rintro Dn σ H ⟨pv, Bn, Ow, Γ, o, rs, pn, he, po⟩
  simp only [ex] at he
  obtain ⟨⟨x, Γ1⟩, e1, rfl⟩ := Option.map_eq_some_iff.mp he
  exact ⟨Bn, Ow, Γ, x, Γ1, rs, e1, fun v H1 O1 s1 r1 _ => po σ H1 O1 s1 r1 pn⟩
theorem s_ret {e : Expr} {ie : E} (h : PE X e (tR g fs ie)) : PS X (.Return (some e) pos) (tSt g fs (.ret ie)) := by
  refine PS.weak (ps_ret h) ?_
  rintro Dn σ H ⟨pv, Bn, Ow, Γ, o, rs, pn, he, po⟩
  simp only [ex] at he
  obtain ⟨⟨x, Γ1⟩, e1, rfl⟩ := Option.map_eq_some_iff.mp he
  exact ⟨Bn, Ow, Γ, x, Γ1, rs, e1, fun v H1 O1 s1 r1 vl => po v σ H1 O1 s1 r1 pn vl⟩
theorem asg_core {tg : Tg} {ie : E} {Dn : Ends} {σ : St} {H : Hp} (h : tSt g fs (.asg tg ie) Dn σ H) : tAsg (tR g fs ie) (tgT g.K tg) Dn σ H := by
  obtain ⟨pv, Bn, Ow, Γ, o, rs, pn, he, po⟩ := h
  simp only [ex] at he
  obtain ⟨⟨x, Γ1⟩, e1, he⟩ := Option.bind_eq_some_iff.mp he
  obtain ⟨⟨d, Γ2⟩, e2, he⟩ := Option.bind_eq_some_iff.mp he
  simp only [Option.ite_none_right_eq_some] at he
  obtain ⟨dj, he⟩ := he
  obtain ⟨Γ3, e3, rfl⟩ := Option.map_eq_some_iff.mp he
  refine ⟨Bn, Ow, Γ, x, Γ1, rs, e1, fun v H1 O1 s1 r1 vl => ?_⟩
  obtain ⟨O2, s2, r2, p2⟩ := fre_ok r1 vl e2
  exact asgT_ok tg r2 p2 e3 fun σ' q1 q2 q3 => po σ' H1 O2 (s1.trans s2) q1 (pn.keep dj q2 q3)
theorem s_asg {tg e : Expr} {itg : Tg} {ie : E} (h : PE X e (tR g fs ie)) (hg : PG X tg (tgT g.K itg)) (hs : swapsWithSole [tg] e pos.line X.env = pure false) (hw : swappedStores [tg] e X.env = pure none)
    (h1 : (assignEach [tg] X.env).map (·.2) = [assign tg X.env]) : PS X (.Assign [tg] e pos) (tSt g fs (.asg itg ie)) := PS.weak (ps_asg h hg hs hw h1) fun _ _ _ => asg_core
theorem asgO_core {i : Nat} {ie : E} {Dn : Ends} {σ : St} {H : Hp} {te : TE} (hte : ∀ Q, tR g fs ie σ H Q → te σ H Q) (h : tSt g fs (.asgO i ie) Dn σ H) : tAsg te (gName i) Dn σ H := by
  obtain ⟨pv, Bn, Ow, Γ, o, rs, pn, he, po⟩ := h
  simp only [ex] at he
  obtain ⟨⟨x, Γ1⟩, e1, he⟩ := Option.bind_eq_some_iff.mp he
  refine hte _ ⟨Bn, Ow, Γ, x, Γ1, rs, e1, fun v H1 O1 s1 r1 vl => ?_⟩
  have plain : ∀ {o : Out}, ((fre Γ1 x).bind fun (p : D × Ct) => if i < p.2.length ∧ disjB [i] (pv.2.map (·.1)) = true then some (Out.nx (p.2.set i (some (p.1, false)))) else none) = some o → Post g Dn pv Bn Ow H o → gName i v σ H1 Dn.nx := fun {o} he po => by
    obtain ⟨⟨d, Γ2⟩, e2, he⟩ := Option.bind_eq_some_iff.mp he
    simp only [Option.ite_none_right_eq_some, Option.some.injEq] at he
    obtain ⟨⟨hi, dj⟩, rfl⟩ := he
    obtain ⟨O2, s2, r2, p2⟩ := fre_ok r1 vl e2
    exact po _ H1 O2 (s1.trans s2) (r2.set p2 hi) (pn.set dj)
  cases x with
  | nw d =>
    simp only [Option.ite_none_right_eq_some, Option.some.injEq] at he
    obtain ⟨⟨hi, dj⟩, rfl⟩ := he
    exact po _ H1 O1 s1 (r1.setO vl hi) (pn.set dj)
  | fz d => exact plain he po
  | sl j => exact plain he po
theorem s_asgO {i : Nat} {y : Str} {e : Expr} {ie : E} {pos' : Pos} (C : Cok g X) (hi : X.N[i]? = some y) (hx : Loc X.env.scope y) (h : PE X e (tR g fs ie)) (hs : swapsWith e (some (.Name y pos')) pos.line X.env = pure false) (hf : X.fn y = true ∨ X.env.scope.names.lookup y = some .local) :
    PS X (.Assign [.Name y pos'] e pos) (tSt g fs (.asgO i ie)) := PS.weak (ps_set C.nd hi hx h hs hf) fun _ _ _ q => asgO_core (fun _ q => q) q
theorem s_setLc {i : Nat} {y : Str} {py : Pos} {elt tg iter : Expr} {ifs : List Expr} {scope : Scope} {own : List (Str × Nat)} {pos spos : Pos} {itg : Tg} {ik : IK} {its cond : List E} {ielt : E} (C : Cok g X) (hy : X.N[i]? = some y) (hyl : X.env.scope.names.lookup y = some .local)
    (hsw : swapsWith (.ListComp elt [⟨tg, iter, ifs, 0⟩] scope pos) (some (.Name y py)) spos.line X.env = pure true) (hi : PI X tg iter (tI g fs ik its)) (ok : BlkOk X.N X.env.scope scope own)
    (hg : ∀ (s : Shared) (H : Hp) (C : Addr) (cl : List (Str × Addr)) (fp : List Addr), PG (X.blk s H scope (compEnvC scope cl C X.env) fp) tg (tgT g.K itg)) (ht : ∀ (s : Shared) (H : Hp) (C : Addr) (cl : List (Str × Addr)) (fp : List Addr), PTs (X.blk s H scope (compEnvC scope cl C X.env) fp) ifs (tTc g fs cond))
    (he : ∀ (s : Shared) (H : Hp) (C : Addr) (cl : List (Str × Addr)) (fp : List Addr), PE (X.blk s H scope (compEnvC scope cl C X.env) fp) elt (tR g fs ielt)) (hs : ∀ x, foldedSetIterable iter X.env x = pure x) :
    PS X (.Assign [.Name y py] (.ListComp elt [⟨tg, iter, ifs, 0⟩] scope pos) spos) (tSt g fs (.asgO i (.comp (own.map (·.2)) itg ik its cond ielt))) := by
  refine PS.weak (PS.kf (ps_setLc (g := tgK g.K itg) C.calm C.nd hy hyl hsw hi ok (fun s H Ca cl fp => ?_) ht he hs)) ?_
  · have := PG.kf (hg s H Ca cl fp)
    exact ⟨fun pins s σ H v u Q I r q => this.run pins s σ H v u Q I r fun kf => q fun a o e => kf a o (by show X.K.lookup a = some o; rw [C.K]; exact e)⟩
  · intro Dn σ H q
    have := asgO_core (te := fun σ H Q => tLc (tI g fs ik its) (tgK g.K itg) (tTc g fs cond) (tR g fs ielt) (own.map (·.2)) σ H (fun v H' => kfs g.K H' → Q v H')) (fun Q ⟨Bn, Ow, Γ, r, Γ', rs, he, hQ⟩ => comp_core rs he hQ) q
    rw [C.K]
    exact this
theorem s_ite {c : Expr} {a b : List Stmt} {ic : E} {ia ib : List S} (hc : PT X c (tT g fs ic)) (ha : PSs X a (tSs g fs ia)) (hb : PSs X b (tSs g fs ib)) : PS X (.If c a b pos) (tSt g fs (.ite ic ia ib)) := by
  refine PS.weak (ps_if hc ha hb) ?_
  rintro Dn σ H ⟨pv, Bn, Ow, Γ, o, rs, pn, he, po⟩
  simp only [ex] at he
  obtain ⟨⟨x, Γ1⟩, e1, he⟩ := Option.bind_eq_some_iff.mp he
  obtain ⟨t, e2, he⟩ := Option.bind_eq_some_iff.mp he
  refine ⟨Bn, Ow, Γ, x, Γ1, t, rs, e1, e2, fun H1 O1 s1 r1 => ?_⟩
  cases t with
  | true => rw [if_pos rfl] at he ⊢; exact ⟨pv, Bn, O1, Γ1, o, r1, pn, he, po.step s1⟩
  | false => rw [if_neg Bool.false_ne_true] at he ⊢; exact ⟨pv, Bn, O1, Γ1, o, r1, pn, he, po.step s1⟩
theorem ss_nil : PSs X [] (tSs g fs []) := by
  refine PSs.weak pss_nil ?_
  rintro Dn σ H ⟨pv, Bn, Ow, Γ, o, rs, pn, he, po⟩
  simp only [exs, Option.some.injEq] at he; subst he
  exact po σ H Ow (.refl _ _) rs pn
theorem ss_cons {rest : List Stmt} {a : S} {b : List S} (h1 : PS X st (tSt g fs a)) (h2 : PSs X rest (tSs g fs b)) : PSs X (st :: rest) (tSs g fs (a :: b)) := by
  refine PSs.weak (pss_cons h1 h2) ?_
  rintro Dn σ H ⟨pv, Bn, Ow, Γ, o, rs, pn, he, po⟩
  simp only [exs] at he
  obtain ⟨o1, e1, he⟩ := Option.bind_eq_some_iff.mp he
  refine ⟨pv, Bn, Ow, Γ, o1, rs, pn, e1, ?_⟩
  cases o1 with
  | nx G => exact fun σ1 H1 O1 s1 r1 p1 => ⟨pv, Bn, O1, G, o, r1, p1, he, po.step s1⟩
  | bk G => simp only [Option.some.injEq] at he; subst he; exact po
  | ct G => simp only [Option.some.injEq] at he; subst he; exact po
  | rt r G => simp only [Option.some.injEq] at he; subst he; exact po
theorem s_whl {c : Expr} {b : List Stmt} {ic : E} {ib : List S} (hp : PassesOwn (model X.prog X.w) X.A X.env X.xe) (hc : PT X c (tT g fs ic)) (hb : PSs X b (tSs g fs ib)) : PS X (.While c b [] pos) (tSt g fs (.whl ic ib)) := by
  refine PS.weak (ps_while hp hc hb) ?_
  rintro Dn σ H ⟨pv, Bn, Ow, Γ, o, rs, pn, he, po⟩
  simp only [ex] at he
  let W : Nat → St → Hp → Prop := fun m σ1 H1 => ∃ O1 Γ1, Stp Ow H O1 H1 ∧ RS g Bn O1 H1 σ1 Γ1 ∧ Pin pv σ1 ∧ whlLoop (fun Γ => (ev fs ic Γ).bind fun (x, Γ1) => (testD Γ1 x).map fun t => (t, Γ1)) (exs fs (pv.2.map (·.1)) ib) m Γ1 = some o
  refine ⟨W, ⟨fuel, Ow, Γ, .refl _ _, rs, pn, he⟩, ?_⟩
  rintro m σ1 H1 ⟨O1, Γ1, s1, r1, p1, l1⟩
  cases m with
  | zero => simp only [whlLoop, reduceCtorEq] at l1
  | succ n =>
    simp only [whlLoop] at l1
    obtain ⟨⟨t, Γ2⟩, e2, l1⟩ := Option.bind_eq_some_iff.mp l1
    obtain ⟨⟨x, Γ3⟩, e3, e2⟩ := Option.bind_eq_some_iff.mp e2
    obtain ⟨t', e4, e2⟩ := Option.map_eq_some_iff.mp e2
    simp only [Prod.mk.injEq] at e2
    obtain ⟨rfl, rfl⟩ := e2
    refine ⟨Bn, O1, Γ1, x, Γ3, t', r1, e3, e4, fun H2 O2 s2 r2 => ?_⟩
    cases t' with
    | false =>
      simp only [Bool.false_eq_true, if_false, Option.some.injEq] at l1 ⊢
      subst l1
      exact po σ1 H2 O2 (s1.trans s2) r2 p1
    | true =>
      simp only [if_true] at l1 ⊢
      obtain ⟨o1, e5, l1⟩ := Option.bind_eq_some_iff.mp l1
      refine ⟨fun σ' H' => W n σ' H', fun σ' H' w => ⟨n, Nat.lt_succ_self n, w⟩, pv, Bn, O2, Γ3, o1, r2, p1, e5, ?_⟩
      cases o1 with
      | nx G => exact fun σ4 H4 O4 s4 r4 p4 => ⟨O4, G, (s1.trans s2).trans s4, r4, p4, l1⟩
      | ct G => exact fun σ4 H4 O4 s4 r4 p4 => ⟨O4, G, (s1.trans s2).trans s4, r4, p4, l1⟩
      | bk G =>
        simp only [Option.some.injEq] at l1; subst l1
        exact fun σ4 H4 O4 s4 r4 p4 => po σ4 H4 O4 ((s1.trans s2).trans s4) r4 p4
      | rt r G =>
        simp only [Option.some.injEq] at l1; subst l1
        exact fun v σ4 H4 O4 s4 r4 p4 => po v σ4 H4 O4 ((s1.trans s2).trans s4) r4 p4
theorem s_for {tg iter : Expr} {b : List Stmt} {itg : Tg} {ik : IK} {its : List E} {ib : List S} (C : Cok g X) (hp : PassesOwn (model X.prog X.w) X.A X.env X.xe) (hi : PI X tg iter (tI g fs ik its)) (hg : PG X tg (tgT g.K itg)) (hb : PSs X b (tSs g fs ib)) (hs : ∀ x, foldedSetIterable iter X.env x = pure x) :
    PS X (.For tg iter b [] pos) (tSt g fs (.for_ itg ik its ib)) := by
  refine PS.weak (ps_for hp C.calm hi hg hb hs) ?_
  rintro Dn σ H ⟨pv, Bn, Ow, Γ, o, rs, pn, he, po⟩
  simp only [ex] at he
  obtain ⟨⟨xs, Γ1⟩, e1, he⟩ := Option.bind_eq_some_iff.mp he
  obtain ⟨⟨ds, Γ2⟩, e2, he⟩ := Option.bind_eq_some_iff.mp he
  simp only [Option.ite_none_right_eq_some] at he
  obtain ⟨dj, he⟩ := he
  refine ⟨Bn, Ow, Γ, xs, Γ1, ds, Γ2, rs, e1, e2, fun J H1 O1 s1 r1 wk => ?_⟩
  let C1 : Nat → St → Hp → Prop := fun i σ2 H2 => ∃ O2 G2, Stp O1 H1 O2 H2 ∧ RS g Bn O2 H2 σ2 G2 ∧ Pin pv σ2 ∧ forLoop itg (exs fs (pv.2.map (·.1)) ib) (ds.drop i) G2 = some o
  refine ⟨fun i m σ2 H2 => m = ds.length - i ∧ i ≤ ds.length ∧ C1 i σ2 H2, ⟨ds.length, by simp, Nat.zero_le _, O1, Γ2, .refl _ _, r1, pn, he⟩, ?_⟩
  rintro i m σ2 H2 ⟨rfl, hle, O2, G2, s2, r2, p2, l2⟩
  by_cases hlt : i < ds.length
  · refine .inr ⟨wk.go i H2 hlt fun a o h n => s2.keep a o h n, fun σ' H' => C1 (i + 1) σ' H', fun σ' H' q => ⟨ds.length - (i + 1), by omega, rfl, hlt, q⟩, fun x H3 y => ?_⟩
    have edr : ds.drop i = ds[i] :: ds.drop (i + 1) := List.drop_eq_getElem_cons hlt
    rw [edr] at l2
    simp only [forLoop] at l2
    obtain ⟨G3, a1, l2⟩ := Option.bind_eq_some_iff.mp l2
    obtain ⟨o1, a2, l2⟩ := Option.bind_eq_some_iff.mp l2
    obtain ⟨sm, rx⟩ := wk.yld i _ Bn O2 H2 _ _ x H3 (List.getElem?_eq_getElem hlt) (fun a z => z) (fun a z => .inl z) s2 r2 y
    have s3 : Stp O1 H1 O2 H3 := s2.trans (Stp.same sm)
    refine asgT_ok itg (r2.same sm) rx a1 fun σ3 q1 q2 q3 => ⟨pv, Bn, O2, G3, o1, q1, p2.keep dj q2 q3, a2, ?_⟩
    cases o1 with
    | nx G => exact fun σ4 H4 O4 s4 r4 p4 => ⟨O4, G, s3.trans s4, r4, p4, l2⟩
    | ct G => exact fun σ4 H4 O4 s4 r4 p4 => ⟨O4, G, s3.trans s4, r4, p4, l2⟩
    | bk G =>
      simp only [Option.some.injEq] at l2; subst l2
      exact fun σ4 H4 O4 s4 r4 p4 => po σ4 H4 O4 (s1.trans (s3.trans s4)) r4 p4
    | rt r G =>
      simp only [Option.some.injEq] at l2; subst l2
      exact fun v σ4 H4 O4 s4 r4 p4 => po v σ4 H4 O4 (s1.trans (s3.trans s4)) r4 p4
  · have e : i = ds.length := by omega
    subst e
    rw [List.drop_length] at l2
    simp only [forLoop, Option.some.injEq] at l2
    subst l2
    exact .inl ⟨wk.stop H2 fun a o h n => s2.keep a o h n, po σ2 H2 O2 (s1.trans s2) r2 p2⟩
end
end DV

namespace DV
open PySem L2
section
variable {X : Cx} {g : Gx} {fs : List FS} {st : Stmt} {pos : Pos} {Bn : Addr → Prop} {Ow Ow' : List Addr} {H H' : Hp} {σ : St} {Γ Γ' : Ct}
theorem isLst_ty {i : Nat} (rs : RS g Bn Ow H σ Γ) (h : isLst Γ i = true) : ∃ a, σ[i]? = some (some (.ref a)) ∧ tyV g.K "list" (.ref a) H := by
  unfold isLst at h
  split at h
  · rename_i ds b q
    cases b with
    | false =>
      obtain ⟨v, e1, r1⟩ := rs.slot i _ q
      simp only [Rep] at r1
      obtain ⟨a, vs, rfl, _, s, _⟩ := r1
      exact ⟨a, e1, .inl ⟨rfl, vs, .inl (.inl s)⟩⟩
    | true =>
      obtain ⟨a, e1, _, vs, s, _⟩ := rs.own i _ q
      exact ⟨a, e1, .inl ⟨rfl, vs, .inl (.inl s)⟩⟩
  · cases h
theorem s_app {o e : Expr} {i : Nat} {ie : E} {apos cpos : Pos} (C : Cok g X) (ho : PE X o (tVar i)) (he : PE X e (tR g fs ie)) (hbase : attributeBase o "append" X.env (eval o X.env) = eval o X.env)
    (hline : (apos.endLine == cpos.line) = true) (hs : starEach [e] X.env = [(false, eval e X.env)]) (hsw : swapsWith (.Call (.Attribute o "append" apos) [e] [] cpos) none pos.line X.env = pure false) :
    PS X (.Expr (.Call (.Attribute o "append" apos) [e] [] cpos) pos) (tSt g fs (.app i ie)) := by
  refine PS.weak (ps_expr (pe_bm PySem.F.plainAttrs_list PySem.F.slot_list_append PySem.F.type_list_append mt_append ho (pa_cons he pa_nil (by rw [hs]; rfl)) hbase (by rw [hs]; rfl) hline (by rw [hs]; rfl) rfl) hsw) ?_
  rintro Dn σ H ⟨pv, Bn, Ow, Γ, o, rs, pn, he, po⟩
  simp only [ex, Option.ite_none_right_eq_some] at he
  obtain ⟨hl, he⟩ := he
  obtain ⟨⟨x, Γ1⟩, e1, he⟩ := Option.bind_eq_some_iff.mp he
  obtain ⟨⟨d, Γ2⟩, e2, he⟩ := Option.bind_eq_some_iff.mp he
  obtain ⟨a, ea, ty⟩ := isLst_ty rs hl
  refine ⟨_, ea, by rw [C.K]; exact ty, Bn, Ow, Γ, x, Γ1, rs, e1, fun v H1 O1 s1 r1 vl => ?_⟩
  obtain ⟨O2, s2, r2, p2⟩ := fre_ok r1 vl e2
  split at he
  · rename_i c q
    obtain ⟨c', e3, rfl⟩ := Option.map_eq_some_iff.mp he
    obtain ⟨b, eb, m, ow⟩ := r2.own i _ q
    rw [ea] at eb; cases eb
    cases c <;> simp only [appD, reduceCtorEq, Option.ite_none_right_eq_some, Option.some.injEq] at e3
    rename_i xs
    obtain ⟨hz, rfl⟩ := e3
    obtain ⟨vs, hv, rp⟩ := ow
    obtain ⟨r3, s3⟩ := r2.mut q ea (rp.app (Reps.one p2))
    exact ⟨a, vs, v, rfl, rfl, hv, by rw [← rp.len]; exact hz, po _ _ O2 ((s1.trans s2).trans s3) r3 pn⟩
  · cases he
theorem s_ext {o e : Expr} {i : Nat} {ie : E} {apos cpos : Pos} (C : Cok g X) (ho : PE X o (tVar i)) (he : PE X e (tR g fs ie)) (hbase : attributeBase o "extend" X.env (eval o X.env) = eval o X.env)
    (hline : (apos.endLine == cpos.line) = true) (hs : starEach [e] X.env = [(false, eval e X.env)]) (hsw : swapsWith (.Call (.Attribute o "extend" apos) [e] [] cpos) none pos.line X.env = pure false) :
    PS X (.Expr (.Call (.Attribute o "extend" apos) [e] [] cpos) pos) (tSt g fs (.ext i ie)) := by
  refine PS.weak (ps_expr (pe_bm PySem.F.plainAttrs_list PySem.F.slot_list_extend PySem.F.type_list_extend mt_extend ho (pa_cons he pa_nil (by rw [hs]; rfl)) hbase (by rw [hs]; rfl) hline (by rw [hs]; rfl) rfl) hsw) ?_
  rintro Dn σ H ⟨pv, Bn, Ow, Γ, o, rs, pn, he, po⟩
  simp only [ex, Option.ite_none_right_eq_some] at he
  obtain ⟨hl, he⟩ := he
  obtain ⟨⟨x, Γ1⟩, e1, he⟩ := Option.bind_eq_some_iff.mp he
  obtain ⟨d, e2, he⟩ := Option.bind_eq_some_iff.mp he
  obtain ⟨a, ea, ty⟩ := isLst_ty rs hl
  refine ⟨_, ea, by rw [C.K]; exact ty, Bn, Ow, Γ, x, Γ1, rs, e1, fun v H1 O1 s1 r1 vl => ?_⟩
  have rd := vl.rdb r1 e2
  split at he
  · rename_i c q
    obtain ⟨c', e3, rfl⟩ := Option.map_eq_some_iff.mp he
    obtain ⟨b, eb, m, ow⟩ := r1.own i _ q
    rw [ea] at eb; cases eb
    cases c <;> simp only [extD, reduceCtorEq] at e3
    cases d <;> simp only [extD, reduceCtorEq, Option.ite_none_right_eq_some, Option.some.injEq] at e3
    obtain ⟨hz, rfl⟩ := e3
    obtain ⟨vs, hv, rp⟩ := ow
    obtain ⟨b, ws, rfl, hw, rq⟩ := rd
    obtain ⟨r3, s3⟩ := r1.mut q ea (rp.app rq)
    exact ⟨a, b, vs, ws, rfl, rfl, hv, hw, by rw [← rp.len, ← rq.len]; exact hz, po _ _ O1 (s1.trans s3) r3 pn⟩
  · cases he
theorem s_seti {o k e : Expr} {i : Nat} {ik ie : E} {tpos : Pos} (C : Cok g X) (ho : PE X o (tVar i)) (hk : PE X k (tR g fs ik)) (he : PE X e (tR g fs ie)) (hs : swapsWithSole [.Subscript o k tpos] e pos.line X.env = pure false) (hw : swappedStores [.Subscript o k tpos] e X.env = pure none)
    (h1 : (assignEach [.Subscript o k tpos] X.env).map (·.2) = [assign (.Subscript o k tpos) X.env])
    (ha : ∀ v, assign (.Subscript o k tpos) X.env v = (do
      let ov ← holding [v] (eval o X.env)
      let iv ← holding [v, ov] (eval k X.env)
      standAt tpos
      holding [v, ov, iv] (setItem ov iv v)
      release [v, ov, iv] [])) : PS X (.Assign [.Subscript o k tpos] e pos) (tSt g fs (.seti i ik ie)) := by
  refine PS.weak (ps_asg he (pg_sub ho hk set_list ha) hs hw h1) ?_
  rintro Dn σ H ⟨pv, Bn, Ow, Γ, o, rs, pn, he, po⟩
  simp only [ex] at he
  obtain ⟨⟨x, Γ1⟩, e1, he⟩ := Option.bind_eq_some_iff.mp he
  obtain ⟨⟨d, Γ2⟩, e2, he⟩ := Option.bind_eq_some_iff.mp he
  simp only [Option.ite_none_right_eq_some] at he
  obtain ⟨hil, he⟩ := he
  obtain ⟨⟨y, Γ3⟩, e3, he⟩ := Option.bind_eq_some_iff.mp he
  obtain ⟨kd, e4, he⟩ := Option.bind_eq_some_iff.mp he
  refine ⟨Bn, Ow, Γ, x, Γ1, rs, e1, fun v H1 O1 s1 r1 vl => ?_⟩
  obtain ⟨O2, s2, r2, p2⟩ := fre_ok r1 vl e2
  split at he
  · rename_i c q
    obtain ⟨c', e5, rfl⟩ := Option.map_eq_some_iff.mp he
    obtain ⟨a, ea, _⟩ := isLst_ty r2 hil
    refine ⟨_, ea, Bn, O2, Γ2, y, Γ3, r2, e3, fun w H3 O3 s3 r3 v3 => ?_⟩
    have rd := v3.rdb r3 e4
    obtain ⟨b, eb, m, ow⟩ := r3.own i _ q
    rw [ea] at eb; cases eb
    cases c <;> simp only [setD, reduceCtorEq] at e5
    cases kd <;> simp only [setD, reduceCtorEq] at e5
    rename_i ki
    obtain ⟨j, e6, rfl⟩ := Option.map_eq_some_iff.mp e5
    obtain ⟨vs, hv, rp⟩ := ow
    have rd : w = .int ki := by simpa only [Rdb, Rep] using rd
    obtain ⟨r4, s4⟩ := r3.mut q ea (rp.set (p2.step s3 r3) j)
    exact ⟨a, vs, _, j, rfl, rd, hv, by rw [← rp.len]; exact e6, po _ _ O3 (((s1.trans s2).trans s3).trans s4) r4 pn⟩
  · cases he
/-! ### parallel assignment -/
def VlN (g : Gx) (Bn : Addr → Prop) (Ow : List Addr) (H : Hp) (σ : St) (Γ : Ct) : List RV → List V → Prop
  | [], vs => vs = []
  | x :: xs, vs => ∃ v r, vs = v :: r ∧ Val g Bn Ow H σ Γ x v ∧ (∀ d, x = .nw d → v ∉ r) ∧ (∀ i, x ≠ .sl i) ∧ VlN g Bn Ow H σ Γ xs r
def tAn (g : Gx) (fs : List FS) (is : List (Nat × Bool)) (es : List E) : TA := fun σ H Q => ∃ Bn Ow Γ xs Γ', RS g Bn Ow H σ Γ ∧ evn fs is es Γ = some (xs, Γ') ∧ ∀ vs H' Ow', Stp Ow H Ow' H' → RS g Bn Ow' H' σ Γ' → VlN g Bn Ow' H' σ Γ' xs vs → Q vs H'
theorem evn_nil {σ : St} {H : Hp} {Q : List V → Hp → Prop} : tAn g fs [] [] σ H Q → tNil σ H Q := by
  rintro ⟨Bn, Ow, Γ, xs, Γ', rs, he, hQ⟩
  simp only [evn, Option.some.injEq, Prod.mk.injEq] at he
  obtain ⟨rfl, rfl⟩ := he
  exact hQ [] H Ow (.refl _ _) rs rfl
theorem Rep.nav {A : Addr → Prop} {d : D} {a : Addr} (h : Rep g A H d (.ref a)) : ¬ A a := by
  cases d <;> simp only [Rep, reduceCtorEq] at h
  · obtain ⟨b, vs, e, n, _⟩ := h; cases e; exact n
  · obtain ⟨b, vs, e, n, _⟩ := h; cases e; exact n
  · obtain ⟨b, vs, ws, e, n, _⟩ := h; cases e; exact n
  · obtain ⟨b, e, n, _⟩ := h; cases e; exact n
  · obtain ⟨b, e, n, _⟩ := h; cases e; exact n
theorem OwnA.step {d : D} {p : Addr} (o : OwnA g (Av Bn Ow) H d p) (np : p ∉ Ow) (s : Stp Ow H Ow' H') (rs : RS g Bn Ow' H' σ Γ) : OwnA g (Av Bn Ow') H' d p := by
  cases d with
  | lst es => obtain ⟨us, e2, r2⟩ := o; exact ⟨us, s.keep _ _ e2 np, r2.step s rs⟩
  | obj c ks es => obtain ⟨dx, us, l, e2, r2⟩ := o; exact ⟨dx, us, l, s.keep _ _ e2 np, r2.step s rs⟩
  | _ => exact o
theorem RS.ban {d : D} {p : Addr} (rs : RS g Bn Ow H σ Γ) (m : p ∈ Ow) (no : ∀ (i : Nat) e, Γ[i]? = some (some (e, true)) → σ[i]? ≠ some (some (.ref p))) : RS g (orB Bn p) (Ow.filter (fun x => decide (x ≠ p))) H σ Γ := by
  have k1 : ∀ a, Av (orB Bn p) (Ow.filter (fun x => decide (x ≠ p))) a → Av Bn Ow a := fun a z => by
    rcases z with (z | z) | z
    · exact .inl z
    · rw [z]; exact .inr m
    · exact .inr (mem_ne z).1
  refine ⟨rs.len, fun i d h => ?_, fun i d h => ?_, rs.dist, fun a h => rs.trk a (k1 a h), fun a h z => ?_, fun a h => rs.kf a (k1 a h)⟩
  · obtain ⟨v, e, r⟩ := rs.slot i d h; exact ⟨v, e, rep_less k1 r⟩
  · obtain ⟨a, e, ma, r⟩ := rs.own i d h
    exact ⟨a, e, ne_mem ma fun z => no i d h (by rw [e, z]), own_less k1 r⟩
  · rcases h with h | h
    · exact rs.sep a h (mem_ne z).1
    · exact (mem_ne z).2 h
theorem VlN.unB {p : Addr} : ∀ {xs : List RV} {vs : List V}, VlN g (orB Bn p) Ow H σ Γ xs vs → VlN g Bn (p :: Ow) H σ Γ xs vs
  | [], _, h => h
  | x :: xs, _, ⟨v, r, e, h1, h2, h3, h4⟩ => by
    refine ⟨v, r, e, ?_, h2, h3, VlN.unB h4⟩
    have k1 : ∀ a, Av Bn (p :: Ow) a → Av (orB Bn p) Ow a := fun a z => by
      rcases z with z | z
      · exact .inl (.inl z)
      · rcases List.mem_cons.mp z with z | z
        · exact .inl (.inr z)
        · exact .inr z
    cases x with
    | fz d => exact rep_less k1 h1
    | nw d => obtain ⟨a, e1, m1, o1, n1⟩ := h1; exact ⟨a, e1, List.mem_cons_of_mem _ m1, own_less k1 o1, n1⟩
    | sl i => exact h1
theorem VlN.nin {p : Addr} : ∀ {xs : List RV} {vs : List V}, VlN g Bn Ow H σ Γ xs vs → Bn p → (∀ a, Bn a → a ∉ Ow) → V.ref p ∉ vs
  | [], _, h, _, _ => by have h : _ = [] := h; subst h; simp
  | x :: xs, _, ⟨v, r, e, h1, h2, h3, h4⟩, hp, sp => by
    subst e
    intro z
    rcases List.mem_cons.mp z with z | z
    · subst z
      cases x with
      | fz d => exact Rep.nav h1 (.inl hp)
      | nw d => obtain ⟨a, e1, m1, _⟩ := h1; cases e1; exact sp p hp m1
      | sl i => exact h3 i rfl
    · exact VlN.nin h4 hp sp z
theorem an_nil : PA X [] (tAn g fs [] []) := PA.weak pa_nil fun _ _ _ q => evn_nil q
theorem an_cons {a : Expr} {es : List Expr} {ia : E} {ies : List E} {i : Nat} {b : Bool} {is : List (Nat × Bool)} (ha : PE X a (tR g fs ia)) (hr : PA X es (tAn g fs is ies)) (hs : starEach (a :: es) X.env = (false, eval a X.env) :: starEach es X.env) : PA X (a :: es) (tAn g fs ((i, b) :: is) (ia :: ies)) := by
  refine PA.weak (pa_cons ha hr hs) ?_
  rintro σ H Q ⟨Bn, Ow, Γ, xs, Γ', rs, he, hQ⟩
  simp only [evn] at he
  obtain ⟨⟨x, Γ1⟩, e1, he⟩ := Option.bind_eq_some_iff.mp he
  refine ⟨Bn, Ow, Γ, x, Γ1, rs, e1, fun v H1 O1 s1 r1 vl => ?_⟩
  have plain : ((fre Γ1 x).bind fun (p : D × Ct) => (evn fs is ies p.2).map fun (q : List RV × Ct) => (RV.fz p.1 :: q.1, q.2)) = some (xs, Γ') → tAn g fs is ies σ H1 (fun vs H2 => Q (v :: vs) H2) := fun he => by
    obtain ⟨⟨d, Γ2⟩, e2, he⟩ := Option.bind_eq_some_iff.mp he
    obtain ⟨⟨ys, Γ3⟩, e3, he⟩ := Option.map_eq_some_iff.mp he
    simp only [Prod.mk.injEq] at he
    obtain ⟨rfl, rfl⟩ := he
    obtain ⟨O2, s2, r2, p2⟩ := fre_ok r1 vl e2
    exact ⟨Bn, O2, Γ2, ys, Γ3, r2, e3, fun vs H3 O3 s3 r3 v3 => hQ (v :: vs) H3 O3 ((s1.trans s2).trans s3) r3 ⟨v, vs, rfl, p2.step s3 r3, nofun, nofun, v3⟩⟩
  cases b with
  | false => cases x <;> exact plain he
  | true =>
    cases x with
    | fz d => exact plain he
    | sl i => exact plain he
    | nw d =>
      obtain ⟨⟨ys, Γ3⟩, e3, he⟩ := Option.map_eq_some_iff.mp he
      simp only [Prod.mk.injEq] at he
      obtain ⟨rfl, rfl⟩ := he
      obtain ⟨p, rfl, m, ow, no⟩ := vl
      have r2 := r1.ban (d := d) m no
      have nb : ¬ Bn p := fun z => r1.sep p z m
      have np : p ∉ O1.filter (fun x => decide (x ≠ p)) := fun z => (mem_ne z).2 rfl
      have ow2 : OwnA g (Av (orB Bn p) (O1.filter (fun x => decide (x ≠ p)))) H1 d p := own_less (fun a z => by
        rcases z with (z | z) | z
        · exact .inl z
        · rw [z]; exact .inr m
        · exact .inr (mem_ne z).1) ow
      refine ⟨orB Bn p, _, Γ1, ys, Γ3, r2, e3, fun vs H3 O3 s3 r3 v3 => hQ (.ref p :: vs) H3 (p :: O3) (s1.trans ⟨fun a o h n => s3.keep a o h fun z => n (mem_ne z).1, fun a h => ?_, s3.stay⟩) (r3.unB nb) ⟨.ref p, vs, rfl, ⟨p, rfl, List.mem_cons_self, ?_, fun j e h1 h2 => ?_⟩, fun _ _ => VlN.nin v3 (.inr rfl) r3.sep, nofun, v3.unB⟩⟩
      · rcases List.mem_cons.mp h with h | h
        · rw [h]; exact .inl m
        · rcases s3.grow a h with z | z
          · exact .inl (mem_ne z).1
          · exact .inr z
      · exact own_less (fun a z => by
          rcases z with z | z
          · exact .inl (.inl z)
          · rcases List.mem_cons.mp z with z | z
            · exact .inl (.inr z)
            · exact .inr z) (ow2.step np s3 r3)
      · obtain ⟨b, e2, m2, _⟩ := r3.own j e h1
        rw [h2] at e2; cases e2
        exact r3.sep p (.inr rfl) m2
theorem VlW.unB {p : Addr} : ∀ {xs : List RV} {vs : List V}, VlW g (orB Bn p) Ow H σ Γ xs vs → VlW g Bn (p :: Ow) H σ Γ xs vs
  | [], _, h => h
  | x :: xs, _, ⟨v, r, e, h1, h2, h4⟩ => by
    refine ⟨v, r, e, ?_, h2, VlW.unB h4⟩
    have k1 : ∀ a, Av Bn (p :: Ow) a → Av (orB Bn p) Ow a := fun a z => by
      rcases z with z | z
      · exact .inl (.inl z)
      · rcases List.mem_cons.mp z with z | z
        · exact .inl (.inr z)
        · exact .inr z
    cases x with
    | fz d => exact rep_less k1 h1
    | nw d => obtain ⟨a, e1, m1, o1, n1⟩ := h1; exact ⟨a, e1, List.mem_cons_of_mem _ m1, own_less k1 o1, n1⟩
    | sl i => exact h1
theorem aw_nil : PA X [] (tAw g fs []) := by
  refine PA.weak pa_nil ?_
  rintro σ H Q ⟨Bn, Ow, Γ, xs, Γ', rs, he, hQ⟩
  simp only [evs, Option.some.injEq, Prod.mk.injEq] at he
  obtain ⟨rfl, rfl⟩ := he
  exact hQ [] H Ow (.refl _ _) rs rfl
theorem aw_split {ia : E} {ies : List E} {σ : St} {H : Hp} {Q : List V → Hp → Prop} (h : tAw g fs (ia :: ies) σ H Q) : tR g fs ia σ H fun v H1 => tAw g fs ies σ H1 fun vs H2 => Q (v :: vs) H2 := by
  obtain ⟨Bn, Ow, Γ, xs, Γ', rs, he, hQ⟩ := h
  simp only [evs] at he
  obtain ⟨⟨x, Γ1⟩, e1, he⟩ := Option.bind_eq_some_iff.mp he
  obtain ⟨⟨ys, Γ3⟩, e3, he⟩ := Option.map_eq_some_iff.mp he
  simp only [Prod.mk.injEq] at he
  obtain ⟨rfl, rfl⟩ := he
  refine ⟨Bn, Ow, Γ, x, Γ1, rs, e1, fun v H1 O1 s1 r1 vl => ?_⟩
  cases x with
  | fz d => exact ⟨Bn, O1, Γ1, ys, Γ3, r1, e3, fun vs H3 O3 s3 r3 v3 => hQ (v :: vs) H3 O3 (s1.trans s3) r3 ⟨v, vs, rfl, Val.step (r := .fz d) vl s3 r3, nofun, v3⟩⟩
  | sl i => exact ⟨Bn, O1, Γ1, ys, Γ3, r1, e3, fun vs H3 O3 s3 r3 v3 => hQ (v :: vs) H3 O3 (s1.trans s3) r3 ⟨v, vs, rfl, vl, nofun, v3⟩⟩
  | nw d =>
    obtain ⟨p, rfl, m, ow, no⟩ := vl
    have r2 := r1.ban (d := d) m no
    have nb : ¬ Bn p := fun z => r1.sep p z m
    have np : p ∉ O1.filter (fun x => decide (x ≠ p)) := fun z => (mem_ne z).2 rfl
    have ow2 : OwnA g (Av (orB Bn p) (O1.filter (fun x => decide (x ≠ p)))) H1 d p := own_less (fun a z => by
      rcases z with (z | z) | z
      · exact .inl z
      · rw [z]; exact .inr m
      · exact .inr (mem_ne z).1) ow
    refine ⟨orB Bn p, _, Γ1, ys, Γ3, r2, e3, fun vs H3 O3 s3 r3 v3 => hQ (.ref p :: vs) H3 (p :: O3) (s1.trans ⟨fun a o h n => s3.keep a o h fun z => n (mem_ne z).1, fun a h => ?_, s3.stay⟩) (r3.unB nb) ⟨.ref p, vs, rfl, ⟨p, rfl, List.mem_cons_self, ?_, fun j e h1 h2 => ?_⟩, fun _ _ j e h1 h2 => ?_, v3.unB⟩⟩
    · rcases List.mem_cons.mp h with h | h
      · rw [h]; exact .inl m
      · rcases s3.grow a h with z | z
        · exact .inl (mem_ne z).1
        · exact .inr z
    · exact own_less (fun a z => by
        rcases z with z | z
        · exact .inl (.inl z)
        · rcases List.mem_cons.mp z with z | z
          · exact .inl (.inr z)
          · exact .inr z) (ow2.step np s3 r3)
    · obtain ⟨b, e2, m2, _⟩ := r3.own j e h1
      rw [h2] at e2; cases e2
      exact r3.sep p (.inr rfl) m2
    · obtain ⟨w, h3, h4⟩ := v3.get h1
      rw [h2] at h3; cases h3
      obtain ⟨b, e4, m4, _⟩ := h4
      cases e4
      exact r3.sep p (.inr rfl) m4
theorem aw_cons {a : Expr} {es : List Expr} {ia : E} {ies : List E} (ha : PE X a (tR g fs ia)) (hr : PA X es (tAw g fs ies)) (hs : starEach (a :: es) X.env = (false, eval a X.env) :: starEach es X.env) : PA X (a :: es) (tAw g fs (ia :: ies)) := 
  PA.weak (pa_cons ha hr hs) fun _ _ _ h => aw_split h
def setsV (σ : St) : List (Nat × Bool) → List V → St
  | (i, _) :: is, v :: vs => setsV (σ.set i (some v)) is vs
  | _, _ => σ
theorem VlN.set {i : Nat} {d : D} {b : Bool} {v : V} (hi : i < Γ.length) (hs : i < σ.length) : ∀ {xs : List RV} {vs : List V}, v ∉ vs ∨ b = false → VlN g Bn Ow H σ Γ xs vs → VlN g Bn Ow H (σ.set i (some v)) (Γ.set i (some (d, b))) xs vs
  | [], _, _, h => h
  | x :: xs, _, n, ⟨w, r, e, h1, h2, h3, h4⟩ => by
    subst e
    refine ⟨w, r, rfl, ?_, h2, h3, VlN.set hi hs (n.imp (fun n z => n (List.mem_cons_of_mem _ z)) id) h4⟩
    cases x with
    | fz d => exact h1
    | nw d =>
      obtain ⟨a, e1, m1, o1, n1⟩ := h1
      refine ⟨a, e1, m1, o1, fun j e q1 q2 => ?_⟩
      by_cases hj : i = j
      · subst hj
        rw [List.getElem?_set_self hi] at q1
        rw [List.getElem?_set_self hs] at q2
        cases q1; cases q2; cases e1
        exact n.elim (fun n => n List.mem_cons_self) nofun
      · rw [List.getElem?_set_ne hj] at q1 q2
        exact n1 j e q1 q2
    | sl i => exact (h3 i rfl).elim
theorem parS_ok {pv : Nat × List (Nat × V)} : ∀ {is : List (Nat × Bool)} {xs : List RV} {vs : List V} {σ : St} {Γ Γ' : Ct}, RS g Bn Ow H σ Γ → VlN g Bn Ow H σ Γ xs vs → parS is xs Γ = some Γ' → Pin pv σ → disjB (is.map (·.1)) (pv.2.map (·.1)) = true → RS g Bn Ow H (setsV σ is vs) Γ' ∧ Pin pv (setsV σ is vs)
  | [], [], vs, σ, Γ, Γ', rs, _, e, pn, _ => by
    simp only [parS, Option.some.injEq] at e; subst e
    exact ⟨by unfold setsV; exact rs, by unfold setsV; exact pn⟩
  | [], x :: xs, vs, σ, Γ, Γ', rs, _, e, pn, _ => by simp only [parS, reduceCtorEq] at e
  | (i, b) :: is, [], vs, σ, Γ, Γ', rs, _, e, pn, _ => by simp only [parS, reduceCtorEq] at e
  | (i, b) :: is, x :: xs, _, σ, Γ, Γ', rs, ⟨v, r, rfl, h1, h2, h3, h4⟩, e, pn, dj => by
    have d1 : disjB [i] (pv.2.map (·.1)) = true ∧ disjB (is.map (·.1)) (pv.2.map (·.1)) = true := by
      simp only [disjB, List.map_cons, List.all_cons, Bool.and_eq_true] at dj
      exact ⟨by simp only [disjB, List.all_cons, List.all_nil, Bool.and_true]; exact dj.1, dj.2⟩
    cases x with
    | sl j => exact (h3 j rfl).elim
    | fz d =>
      simp only [parS, Option.ite_none_right_eq_some] at e
      obtain ⟨hi, e⟩ := e
      exact parS_ok (σ := σ.set i (some v)) (rs.set h1 hi) (h4.set hi (by rw [rs.len]; exact hi) (.inr rfl)) e (pn.set d1.1) d1.2
    | nw d =>
      simp only [parS, Option.ite_none_right_eq_some] at e
      obtain ⟨hi, e⟩ := e
      exact parS_ok (σ := σ.set i (some v)) (rs.setO h1 hi) (h4.set hi (by rw [rs.len]; exact hi) (.inl (h2 d rfl))) e (pn.set d1.1) d1.2
theorem parS_len : ∀ {is : List (Nat × Bool)} {xs : List RV} {Γ Γ' : Ct}, parS is xs Γ = some Γ' → is.length = xs.length
  | [], [], _, _, _ => rfl
  | [], x :: xs, Γ, Γ', e => by simp only [parS, reduceCtorEq] at e
  | (i, b) :: is, [], Γ, Γ', e => by simp only [parS, reduceCtorEq] at e
  | (i, b) :: is, .sl j :: xs, Γ, Γ', e => by simp only [parS, reduceCtorEq] at e
  | (i, b) :: is, .fz d :: xs, Γ, Γ', e => by
    simp only [parS, Option.ite_none_right_eq_some] at e
    rw [List.length_cons, List.length_cons, parS_len e.2]
  | (i, b) :: is, .nw d :: xs, Γ, Γ', e => by
    simp only [parS, Option.ite_none_right_eq_some] at e
    rw [List.length_cons, List.length_cons, parS_len e.2]
theorem VlN.len : ∀ {xs : List RV} {vs : List V}, VlN g Bn Ow H σ Γ xs vs → xs.length = vs.length
  | [], _, h => by have h : _ = [] := h; subst h; rfl
  | x :: xs, _, ⟨v, r, e, _, _, _, h2⟩ => by subst e; rw [List.length_cons, List.length_cons, h2.len]
theorem par_core {is : List (Nat × Bool)} {es : List E} {Dn : Ends} {σ : St} {H : Hp} (h : tSt g fs (.par is es) Dn σ H) : tAn g fs is es σ H fun vs H1 => vs.length = is.length ∧ Dn.nx (setsV σ is vs) H1 := by
  obtain ⟨pv, Bn, Ow, Γ, o, rs, pn, he, po⟩ := h
  simp only [ex, Option.ite_none_right_eq_some] at he
  obtain ⟨dj, he⟩ := he
  obtain ⟨⟨ys, Γ2⟩, e1, he⟩ := Option.bind_eq_some_iff.mp he
  obtain ⟨Γ3, e2, rfl⟩ := Option.map_eq_some_iff.mp he
  refine ⟨Bn, Ow, Γ, ys, Γ2, rs, e1, fun vs H1 O1 s1 r1 v1 => ⟨by rw [parS_len e2, v1.len], ?_⟩⟩
  obtain ⟨r2, p2⟩ := parS_ok r1 v1 e2 pn dj
  exact po _ H1 O1 s1 r2 p2
theorem s_par2 {i j : Nat} {bi bj : Bool} {x y : Str} {a b : Expr} {ia ib : E} {px py pt : Pos} {kt k2 pt2} (C : Cok g X) (hi : X.N[i]? = some x) (hj : X.N[j]? = some y) (hij : i ≠ j)
    (hx : X.env.scope.names.lookup x = some .local) (hy : X.env.scope.names.lookup y = some .local) (ha : PA X [a, b] (tAn g fs [(i, bi), (j, bj)] [ia, ib]))
    (hw : swappedStores [.Tuple [.Name x px, .Name y py] kt pt] (.Tuple [a, b] k2 pt2) X.env = pure (some [x, y]))
    (hs : swapsWithSole [.Tuple [.Name x px, .Name y py] kt pt] (.Tuple [a, b] k2 pt2) pos.line X.env = pure false) :
    PS X (.Assign [.Tuple [.Name x px, .Name y py] kt pt] (.Tuple [a, b] k2 pt2) pos) (tSt g fs (.par [(i, bi), (j, bj)] [ia, ib])) := by
  refine PS.weak (ps_par C.calm C.nd hi hj hij hx hy ha hw hs) ?_
  intro Dn σ H q
  obtain ⟨Bn, Ow, Γ, xs, Γ', rs, he, hQ⟩ := par_core q
  refine ⟨Bn, Ow, Γ, xs, Γ', rs, he, fun vs H1 O1 s1 r1 v1 => ?_⟩
  obtain ⟨hl, q⟩ := hQ vs H1 O1 s1 r1 v1
  obtain ⟨v, w, rfl⟩ : ∃ v w, vs = [v, w] := by
    match vs, hl with
    | [v, w], _ => exact ⟨v, w, rfl⟩
  exact ⟨v, w, rfl, q⟩
theorem s_par3 {i j l : Nat} {bi bj bl : Bool} {x y z : Str} {a b c : Expr} {ia ib ic : E} {px py pz pt : Pos} {kt k2 pt2} (C : Cok g X) (hi : X.N[i]? = some x) (hj : X.N[j]? = some y) (hl : X.N[l]? = some z) (hij : i ≠ j) (hil : i ≠ l) (hjl : j ≠ l)
    (hx : X.env.scope.names.lookup x = some .local) (hy : X.env.scope.names.lookup y = some .local) (hz : X.env.scope.names.lookup z = some .local) (ha : PA X [a, b, c] (tAn g fs [(i, bi), (j, bj), (l, bl)] [ia, ib, ic]))
    (hw : swappedStores [.Tuple [.Name x px, .Name y py, .Name z pz] kt pt] (.Tuple [a, b, c] k2 pt2) X.env = pure (some [x, y, z]))
    (hs : swapsWithSole [.Tuple [.Name x px, .Name y py, .Name z pz] kt pt] (.Tuple [a, b, c] k2 pt2) pos.line X.env = pure false) :
    PS X (.Assign [.Tuple [.Name x px, .Name y py, .Name z pz] kt pt] (.Tuple [a, b, c] k2 pt2) pos) (tSt g fs (.par [(i, bi), (j, bj), (l, bl)] [ia, ib, ic])) := by
  refine PS.weak (ps_par3 C.calm C.nd hi hj hl hij hil hjl hx hy hz ha hw hs) ?_
  intro Dn σ H q
  obtain ⟨Bn, Ow, Γ, xs, Γ', rs, he, hQ⟩ := par_core q
  refine ⟨Bn, Ow, Γ, xs, Γ', rs, he, fun vs H1 O1 s1 r1 v1 => ?_⟩
  obtain ⟨hl, q⟩ := hQ vs H1 O1 s1 r1 v1
  obtain ⟨u, v, w, rfl⟩ : ∃ u v w, vs = [u, v, w] := by
    match vs, hl with
    | [u, v, w], _ => exact ⟨u, v, w, rfl⟩
  exact ⟨u, v, w, rfl, q⟩
end
end DV

namespace DV
open PySem L2
theorem Cok.blk {g : Gx} {X : Cx} (C : Cok g X) (s : Shared) (H : Hp) (scope : Scope) (ce : Env) (fp : List Addr) : Cok g (X.blk s H scope ce fp) := ⟨C.K, C.calm, C.hu, C.nd⟩
theorem part0 {g : Gx} {fs : List FS} {X : Cx} : Part g fs X none [] := ⟨.inl ⟨rfl, rfl⟩⟩
theorem part1 {g : Gx} {fs : List FS} {X : Cx} {a : Expr} {ia : E} (h : PE X a (tR g fs ia)) : Part g fs X (some a) [ia] := ⟨.inr ⟨a, ia, rfl, rfl, h⟩⟩
section
variable {g : Gx} {Bn : Addr → Prop} {Ow Ow' : List Addr} {H H' : Hp} {σ : St} {Γ Γ' : Ct}
theorem ownPs_mem : ∀ {G : Ct} {n i : Nat}, i ∈ ownPs n G ↔ ∃ j d, i = n + j ∧ G[j]? = some (some (d, true))
  | [], n, i => by simp [ownPs]
  | none :: r, n, i => by
    simp only [ownPs]
    rw [ownPs_mem]
    constructor
    · rintro ⟨j, d, rfl, h⟩; exact ⟨j + 1, d, by omega, by simpa using h⟩
    · rintro ⟨j, d, rfl, h⟩
      cases j with
      | zero => simp at h
      | succ j => exact ⟨j, d, by omega, by simpa using h⟩
  | some (c, false) :: r, n, i => by
    simp only [ownPs]
    rw [ownPs_mem]
    constructor
    · rintro ⟨j, d, rfl, h⟩; exact ⟨j + 1, d, by omega, by simpa using h⟩
    · rintro ⟨j, d, rfl, h⟩
      cases j with
      | zero => simp at h
      | succ j => exact ⟨j, d, by omega, by simpa using h⟩
  | some (c, true) :: r, n, i => by
    simp only [ownPs, List.mem_cons]
    rw [ownPs_mem]
    constructor
    · rintro (rfl | ⟨j, d, rfl, h⟩)
      · exact ⟨0, c, rfl, rfl⟩
      · exact ⟨j + 1, d, by omega, by simpa using h⟩
    · rintro ⟨j, d, rfl, h⟩
      cases j with
      | zero => exact .inl rfl
      | succ j => exact .inr ⟨j, d, by omega, by simpa using h⟩
theorem outsOf_len : ∀ {G G' : Ct}, G.length ≤ G'.length → (outsOf G G').length = G.length
  | [], G', _ => by cases G' <;> simp [outsOf]
  | x :: r, [], h => by simp at h
  | x :: r, y :: s, h => by
    have ih := outsOf_len (G := r) (G' := s) (by simpa using h)
    match x with
    | some (_, true) => simp [outsOf, ih]
    | some (_, false) => simp [outsOf, ih]
    | none => simp [outsOf, ih]
theorem outsOf_get : ∀ {G G' : Ct} {i : Nat} {p : D × Bool}, (outsOf G G')[i]? = some (some p) → (OwS G i ∧ G'[i]? = some (some p)) ∨ (¬ OwS G i ∧ G[i]? = some (some p))
  | [], G', i, p, h => by cases G' <;> simp [outsOf] at h
  | x :: r, [], i, p, h => by match x with
    | some (_, true) => simp [outsOf] at h
    | some (_, false) => simp [outsOf] at h
    | none => simp [outsOf] at h
  | x :: r, y :: s, 0, p, h => by
    match x with
    | some (d, true) => simp [outsOf] at h; exact .inl ⟨⟨d, rfl⟩, by simp [h]⟩
    | some (d, false) => simp [outsOf] at h; exact .inr ⟨by rintro ⟨e, he⟩; simp at he, by simp [h]⟩
    | none => simp [outsOf] at h
  | x :: r, y :: s, i + 1, p, h => by
    have h' : (outsOf r s)[i]? = some (some p) := by
      match x with
      | some (d, true) => simpa [outsOf] using h
      | some (d, false) => simpa [outsOf] using h
      | none => simpa [outsOf] using h
    rcases outsOf_get h' with ⟨⟨e, h1⟩, h2⟩ | ⟨h1, h2⟩
    · exact .inl ⟨⟨e, by simpa using h1⟩, by simpa using h2⟩
    · exact .inr ⟨by rintro ⟨e, he⟩; exact h1 ⟨e, by simpa using he⟩, by simpa using h2⟩
/-- what comes back at the parameters -/
theorem outs_ok {vs : List V} {G0 : Ct} (r0 : RS g Bn Ow H (vs.map some) G0) (st : Stp Ow H Ow' H') (r1 : RS g Bn Ow' H' σ Γ) (hl : G0.length ≤ Γ.length) (pn : ∀ i, OwS G0 i → σ[i]? = (vs.map some)[i]?) : RS g Bn Ow' H' (vs.map some) (outsOf G0 Γ) := by
  refine ⟨by rw [outsOf_len hl]; exact r0.len, fun i d h => ?_, fun i d h => ?_, fun i j d e a h1 h2 h3 h4 => ?_, r1.trk, r1.sep, r1.kf⟩
  · rcases outsOf_get h with ⟨o, h1⟩ | ⟨_, h1⟩
    · obtain ⟨v, e, r⟩ := r1.slot i d h1
      exact ⟨v, by rw [← pn i o]; exact e, r⟩
    · obtain ⟨v, e, r⟩ := r0.slot i d h1
      exact ⟨v, e, r.step st r1⟩
  · rcases outsOf_get h with ⟨o, h1⟩ | ⟨n, h1⟩
    · obtain ⟨v, e, r⟩ := r1.own i d h1
      exact ⟨v, by rw [← pn i o]; exact e, r⟩
    · exact (n ⟨d, h1⟩).elim
  · rcases outsOf_get h1 with ⟨o1, h1⟩ | ⟨n, h1⟩
    · rcases outsOf_get h2 with ⟨o2, h2⟩ | ⟨n, h2⟩
      · exact r1.dist i j d e a h1 h2 (by rw [pn i o1]; exact h3) (by rw [pn j o2]; exact h4)
      · exact (n ⟨e, h2⟩).elim
    · exact (n ⟨d, h1⟩).elim
theorem RS.start {vs : List V} {G0 : Ct} (k : Nat) (r0 : RS g Bn Ow H (vs.map some) G0) : RS g Bn Ow H (vs.map some ++ List.replicate k none) (G0 ++ List.replicate k none) := by
  have low : ∀ {i : Nat} {p : D × Bool}, (G0 ++ List.replicate k none)[i]? = some (some p) → G0[i]? = some (some p) ∧ (vs.map some ++ List.replicate k none)[i]? = (vs.map some)[i]? := fun {i p} h => by
    rw [List.getElem?_append] at h
    split at h
    · rename_i hi
      refine ⟨h, ?_⟩
      rw [List.getElem?_append_left (by rw [r0.len]; exact hi)]
    · rw [List.getElem?_replicate] at h
      split at h <;> cases h
  refine ⟨by rw [List.length_append, List.length_append, r0.len, List.length_replicate, List.length_replicate], fun i d h => ?_, fun i d h => ?_, fun i j d e a h1 h2 h3 h4 => ?_, r0.trk, r0.sep, r0.kf⟩
  · obtain ⟨h1, h2⟩ := low h
    rw [h2]
    exact r0.slot i d h1
  · obtain ⟨h1, h2⟩ := low h
    rw [h2]
    exact r0.own i d h1
  · obtain ⟨p1, p2⟩ := low h1
    obtain ⟨q1, q2⟩ := low h2
    exact r0.dist i j d e a p1 q1 (by rw [← p2]; exact h3) (by rw [← q2]; exact h4)
theorem finish_ok {vs : List V} {G0 : Ct} {n : Nat} {o : Out} {r : RV} {os : Ct} {Q : VK} (r0 : RS g Bn Ow H (vs.map some) G0) (hn : G0.length ≤ n) (hf : finish G0.length G0 o = some (r, os))
    (hQ : ∀ v H' Ow', Stp Ow H Ow' H' → RS g Bn Ow' H' (vs.map some) os → Val g Bn Ow' H' (vs.map some) os r v → Q v H') :
    Post g { nx := fun _ H' => Q .non H', rt := Q } (n, (ownPs 0 G0).map fun i => (i, vs.getD i .non)) Bn Ow H o := by
  have pin : ∀ {σ' : St}, Pin (n, (ownPs 0 G0).map fun i => (i, vs.getD i .non)) σ' → ∀ i, OwS G0 i → σ'[i]? = (vs.map some)[i]? := fun {σ'} pn i ⟨d, h⟩ => by
    have := pn.2 (i, vs.getD i .non) (List.mem_map.mpr ⟨i, ownPs_mem.mpr ⟨i, d, by omega, h⟩, rfl⟩)
    have hi : i < vs.length := by
      have h1 := (List.getElem?_eq_some_iff.mp h).1
      have h2 := r0.len
      rw [List.length_map] at h2
      omega
    rw [this, List.getElem?_map, List.getElem?_eq_getElem hi, List.getD_eq_getElem?_getD, List.getElem?_eq_getElem hi]
    rfl
  have len : ∀ {σ' : St} {Γ' : Ct} {Ow' : List Addr} {H' : Hp}, RS g Bn Ow' H' σ' Γ' → Pin (n, (ownPs 0 G0).map fun i => (i, vs.getD i .non)) σ' → G0.length ≤ Γ'.length := fun r pn => by
    rw [← r.len, pn.1]; exact hn
  cases o with
  | bk G => simp only [finish, reduceCtorEq] at hf
  | ct G => simp only [finish, reduceCtorEq] at hf
  | nx G =>
    simp only [finish, Option.some.injEq, Prod.mk.injEq] at hf
    obtain ⟨rfl, rfl⟩ := hf
    exact fun σ' H' O' s' r' p' => hQ .non H' O' s' (outs_ok r0 s' r' (len r' p') (pin p')) (show Rep g _ _ _ _ by simp only [Rep])
  | rt x G =>
    intro v σ' H' O' s' r' p' vl
    have lo := len r' p'
    cases x with
    | fz d =>
      simp only [finish, Option.some.injEq, Prod.mk.injEq] at hf
      obtain ⟨rfl, rfl⟩ := hf
      exact hQ v H' O' s' (outs_ok r0 s' r' lo (pin p')) vl
    | nw d =>
      simp only [finish, Option.some.injEq, Prod.mk.injEq] at hf
      obtain ⟨rfl, rfl⟩ := hf
      obtain ⟨a, e, m, ow, no⟩ := vl
      refine hQ v H' O' s' (outs_ok r0 s' r' lo (pin p')) ⟨a, e, m, ow, fun j f h1 h2 => ?_⟩
      rcases outsOf_get h1 with ⟨o1, h1⟩ | ⟨n1, h1⟩
      · exact no j f h1 (by rw [pin p' j o1]; exact h2)
      · exact n1 ⟨f, h1⟩
    | sl i =>
      have vl' : σ'[i]? = some (some v) := vl
      simp only [finish] at hf
      split at hf
      · rename_i d q
        split at hf
        · rename_i hi
          simp only [Option.some.injEq, Prod.mk.injEq] at hf
          obtain ⟨rfl, rfl⟩ := hf
          have fe : fre G (.sl i) = some (d, G.set i (some (d, false))) := by simp only [fre, q]
          obtain ⟨O2, s2, r2, p2⟩ := fre_ok r' vl fe
          exact hQ v H' O2 (s'.trans s2) (outs_ok r0 (s'.trans s2) r2 (by rw [List.length_set]; exact lo) (pin p')) p2
        · rename_i hi
          simp only [Option.some.injEq, Prod.mk.injEq] at hf
          obtain ⟨rfl, rfl⟩ := hf
          obtain ⟨a, e, m, ow⟩ := r'.own i d q
          rw [vl'] at e; cases e
          refine hQ _ H' O' s' (outs_ok r0 s' r' lo (pin p')) ⟨a, rfl, m, ow, fun j f h1 h2 => ?_⟩
          rcases outsOf_get h1 with ⟨o1, h1⟩ | ⟨n1, h1⟩
          · have e2 := r'.dist i j _ _ a q h1 vl' (by rw [pin p' j o1]; exact h2)
            subst e2
            obtain ⟨d1, h3⟩ := o1
            exact hi (List.getElem?_eq_some_iff.mp h3).1
          · exact n1 ⟨f, h1⟩
      · rename_i d q
        simp only [Option.some.injEq, Prod.mk.injEq] at hf
        obtain ⟨rfl, rfl⟩ := hf
        obtain ⟨w, e, rp⟩ := r'.slot i d q
        rw [vl'] at e; cases e
        exact hQ v H' O' s' (outs_ok r0 s' r' lo (pin p')) rp
      · cases hf
end
/-- a def that can be called -/
structure Cal (P : Program) (w : World) (mg : Str → Option Value) (base : Heap) (g : Gx) (k : Nat) (x : Str) (n : Nat) (F : FS) : Prop where
  ex : ∃ f fd ps, mg x = some (.ref f) ∧ PySem.W.keepIn g.K (.ref f) = true ∧ Binds g.K fd ps [] ∧ FnOk P w g.K mg base CX0 k f fd ps (spF g n F)
section
variable {P : Program} {w : World} {mg : Str → Option Value} {base : Heap} {g : Gx} {fs : List FS}
theorem Cal.mono {j k : Nat} {x : Str} {n : Nat} {F : FS} (h : Cal P w mg base g j x n F) (l : j ≤ k) : Cal P w mg base g k x n F := by
  obtain ⟨f, fd, ps, h1, h2, h3, h4⟩ := h.ex
  exact ⟨f, fd, ps, h1, h2, h3, h4.mono l⟩
theorem def_fn {x qual : Str} {st : Stmt} {f : Addr} {fd : FuncData} {N ps : List Str} {k np n : Nat} {ir : List S} (F : Fun g.K x qual st f fd) (S : FnScope N ps (defScope st)) (hp : ps.length = np) (hN : N.length = n)
    (hbody : ∀ (cdv : Value) (A : Around) (outer : List Env) (s : Shared) (H : Hp) (E : XK), Room k (cxOf CX0 P w g.K mg base N qual (defScope st) f cdv A outer s H E).nox.A → Cok g (cxOf CX0 P w g.K mg base N qual (defScope st) f cdv A outer s H E).nox →
      PSs (cxOf CX0 P w g.K mg base N qual (defScope st) f cdv A outer s H E).nox (defBody st) (tSs g fs ir)) : FnOk P w g.K mg base CX0 (k + 1) f fd ps (spF g np (runF fs np n ir)) := by
  refine F.ok S (fun vs H Q E h => by rw [h.1, hp]) fun cdv A outer s H vs Q E hr h => ?_
  refine ⟨_, hbody cdv A outer s H E hr ⟨rfl, rfl, hr.units, S.nd⟩, ?_⟩
  obtain ⟨hl, Bn, Ow, Γ, r, os, rs, ef, nr, hQ⟩ := h
  have hG : Γ.length = np := by rw [← rs.len, List.length_map, hl]
  have hle : np ≤ n := by
    rw [← hN, ← hp]
    have := congrArg List.length S.pre
    rw [List.length_take] at this
    omega
  simp only [runF, hG, if_true] at ef
  obtain ⟨o, e1, e2⟩ := Option.bind_eq_some_iff.mp ef
  have est : L2.start N vs = vs.map some ++ List.replicate (n - np) none := by rw [← hN, ← hl]; rfl
  refine ⟨(n, (ownPs 0 Γ).map fun i => (i, vs.getD i .non)), Bn, Ow, Γ ++ List.replicate (n - np) none, o, ?_, ⟨?_, fun p hp => ?_⟩, ?_, ?_⟩
  · rw [est]; exact rs.start _
  · rw [est, List.length_append, List.length_map, List.length_replicate, hl]; show np + (n - np) = n; omega
  · obtain ⟨i, hi, rfl⟩ := List.mem_map.mp hp
    obtain ⟨j, d, rfl, h⟩ := ownPs_mem.mp hi
    have hj : j < vs.length := by
      have h1 := (List.getElem?_eq_some_iff.mp h).1
      omega
    rw [est]
    show (vs.map some ++ List.replicate (n - np) none)[0 + j]? = some (some (vs.getD (0 + j) .non))
    rw [Nat.zero_add, List.getElem?_append_left (by rw [List.length_map]; exact hj), List.getElem?_map, List.getElem?_eq_getElem hj, List.getD_eq_getElem?_getD, List.getElem?_eq_getElem hj]
    rfl
  · rw [List.map_map]
    show exs fs ((ownPs 0 Γ).map id) ir _ = some o
    rw [List.map_id]
    exact e1
  · rw [← hG] at e2
    exact finish_ok rs (by omega) e2 hQ
theorem def_ok {x qual : Str} {st : Stmt} {f : Addr} {fd : FuncData} {N ps : List Str} {k np n : Nat} {ir : List S} (F : Fun g.K x qual st f fd) (hm : mg x = some (.ref f)) (S : FnScope N ps (defScope st)) (hb : Binds g.K fd ps []) (hp : ps.length = np) (hN : N.length = n)
    (hbody : ∀ (cdv : Value) (A : Around) (outer : List Env) (s : Shared) (H : Hp) (E : XK), Room k (cxOf CX0 P w g.K mg base N qual (defScope st) f cdv A outer s H E).nox.A → Cok g (cxOf CX0 P w g.K mg base N qual (defScope st) f cdv A outer s H E).nox →
      PSs (cxOf CX0 P w g.K mg base N qual (defScope st) f cdv A outer s H E).nox (defBody st) (tSs g fs ir)) : Cal P w mg base g (k + 1) x np (runF fs np n ir) :=
  ⟨f, fd, ps, hm, F.kp, hb, def_fn F S hp hN hbody⟩
end
section
variable {X : Cx} {g : Gx} {fs : List FS} {e : Expr} {es : List Expr} {ies : List E} {x : Str} {p pos : Pos} {k i n : Nat} {F : FS}
theorem c_call (c : Cal X.prog X.w X.mg X.base g k x n F) (C : Cok g X) (hF : fs[i]? = some F) (hn : ies.length = n) (hr : Room k X.A) (hg : Gl X x)
    (ha : PA X (e :: es) (tAw g fs ies)) (hdb : (x == ("__debug__" : Str)) = false) (he : starEach (e :: es) X.env = (false, eval e X.env) :: starEach es X.env) (hpl : (backTo pos (starEach es X.env)).any (·.1) = false) :
    PE X (.Call (.Name x p) (e :: es) [] pos) (tR g fs (.call i ies)) := by
  obtain ⟨f, fd, ps, h1, h2, h3, h4⟩ := c.ex
  rw [← C.K] at h2 h3 h4
  exact p_call hF hn h4 hr hg h1 h2 h3 ha hdb he hpl
theorem c_call0 (c : Cal X.prog X.w X.mg X.base g k x 0 F) (C : Cok g X) (hF : fs[i]? = some F) (hr : Room k X.A) (hg : Gl X x) (hdb : (x == ("__debug__" : Str)) = false) :
    PE X (.Call (.Name x p) [] [] pos) (tR g fs (.call i [])) := by
  obtain ⟨f, fd, ps, h1, h2, h3, h4⟩ := c.ex
  rw [← C.K] at h2 h3 h4
  exact p_call0 hF h4 hr hg h1 h2 h3 hdb
end
end DV

namespace DV
open PySem L2
section
variable {X : Cx} {g : Gx} {fs : List FS} {e : Expr} {es : List Expr} {ies : List E} {x : Str} {p pos : Pos}
theorem k_int {i j pos} (C : Cok g X) : PE X (.Constant (.int i) j pos) (tR g fs (.cst (.int i))) := p_cst pe_int C.K fun _ _ _ => by simp only [Rep]
theorem k_bl {b j pos} (C : Cok g X) : PE X (.Constant (.bool b) j pos) (tR g fs (.cst (.bl b))) := p_cst pe_bl C.K fun _ _ _ => by simp only [Rep]
theorem k_str {b j pos} (C : Cok g X) : PE X (.Constant (.str b) j pos) (tR g fs (.cst (.str b))) := p_cst pe_str C.K fun _ _ _ => by simp only [Rep]
theorem k_non {j pos} (C : Cok g X) : PE X (.Constant .none j pos) (tR g fs (.cst .non)) := p_cst pe_non C.K fun _ _ _ => by simp only [Rep]
/-- a number that the top has written -/
def GInt (mg : Str → Option Value) (x : Str) (n : Int) : Prop := ∃ t, mg x = some (.int n t)
theorem k_gint {n : Int} (C : Cok g X) (h : GInt X.mg x n) (hg : Gl X x) (hd : (x == ("__debug__" : Str)) = false) : PE X (.Name x pos) (tR g fs (.cst (.int n))) := by
  obtain ⟨t, h⟩ := h
  exact p_cst (pe_glob (v := .int n) hg h ⟨t, rfl⟩ hd) C.K fun _ _ _ => by simp only [Rep]
theorem k_var (i : Nat) (hN : X.N[i]? = some x) (hv : Vis X.env.scope x) (hd : (x == ("__debug__" : Str)) = false) (hcd : (x == ("__classdict__" : Str)) = false) : PE X (.Name x pos) (tR g fs (.var i)) := p_var (pe_var hN hv hd hcd)
section
variable (C : Cok g X) (ha : PA X (e :: es) (tAs g fs ies)) (he : starEach (e :: es) X.env = (false, eval e X.env) :: starEach es X.env) (hpl : (backTo pos (starEach es X.env)).any (·.1) = false)
include C ha he hpl
theorem k_len (hm : X.mg "len" = none) (hg : Gl X "len") : PE X (.Call (.Name "len" p) (e :: es) [] pos) (tR g fs (.bi .len ies)) := p_biB (b_len C.K) hg hm (by decide +kernel) ha (by decide) (by decide) he hpl
theorem k_abs (hm : X.mg "abs" = none) (hg : Gl X "abs") : PE X (.Call (.Name "abs" p) (e :: es) [] pos) (tR g fs (.bi .abs ies)) := p_biB (b_abs C.K) hg hm PyProof.Rows.boot_abs ha (by decide) (by decide) he hpl
theorem k_max2 (hm : X.mg "max" = none) (hg : Gl X "max") : PE X (.Call (.Name "max" p) (e :: es) [] pos) (tR g fs (.bi .max2 ies)) := p_biB (b_max2 C) hg hm PyProof.Rows.boot_max ha (by decide) (by decide) he hpl
theorem k_min2 (hm : X.mg "min" = none) (hg : Gl X "min") : PE X (.Call (.Name "min" p) (e :: es) [] pos) (tR g fs (.bi .min2 ies)) := p_biB (b_min2 C) hg hm PyProof.Rows.boot_min ha (by decide) (by decide) he hpl
theorem k_maxl (hm : X.mg "max" = none) (hg : Gl X "max") : PE X (.Call (.Name "max" p) (e :: es) [] pos) (tR g fs (.bi .maxl ies)) := p_biB (b_maxl C) hg hm PyProof.Rows.boot_max ha (by decide) (by decide) he hpl
theorem k_minl (hm : X.mg "min" = none) (hg : Gl X "min") : PE X (.Call (.Name "min" p) (e :: es) [] pos) (tR g fs (.bi .minl ies)) := p_biB (b_minl C) hg hm PyProof.Rows.boot_min ha (by decide) (by decide) he hpl
theorem k_sum (hm : X.mg "sum" = none) (hg : Gl X "sum") : PE X (.Call (.Name "sum" p) (e :: es) [] pos) (tR g fs (.bi .suml ies)) := p_biB (b_suml C) hg hm PyProof.Rows.boot_sum ha (by decide) (by decide) he hpl
theorem k_all (hm : X.mg "all" = none) (hg : Gl X "all") : PE X (.Call (.Name "all" p) (e :: es) [] pos) (tR g fs (.bi .alll ies)) := p_biB (b_alll C) hg hm PyProof.Rows.boot_all ha (by decide) (by decide) he hpl
theorem k_any (hm : X.mg "any" = none) (hg : Gl X "any") : PE X (.Call (.Name "any" p) (e :: es) [] pos) (tR g fs (.bi .anyl ies)) := p_biB (b_anyl C) hg hm PyProof.Rows.boot_any ha (by decide) (by decide) he hpl
theorem k_int1 (hm : X.mg "int" = none) (hg : Gl X "int") : PE X (.Call (.Name "int" p) (e :: es) [] pos) (tR g fs (.bi .int1 ies)) := p_biT (b_int C.K) hg hm PyProof.Rows.boot_int ha (by decide) (by decide) he hpl
theorem k_list (hm : X.mg "list" = none) (hg : Gl X "list") : PE X (.Call (.Name "list" p) (e :: es) [] pos) (tR g fs (.bi .list ies)) := p_biT (b_list C.K) hg hm PyProof.Rows.boot_list ha (by decide) (by decide) he hpl
theorem k_tuple (hm : X.mg "tuple" = none) (hg : Gl X "tuple") : PE X (.Call (.Name "tuple" p) (e :: es) [] pos) (tR g fs (.bi .tuple ies)) := p_biT (b_tuple C.K) hg hm PyProof.Rows.boot_tuple ha (by decide) (by decide) he hpl
end
theorem ty_int {p2 : Pos} (hm : X.mg "int" = none) (hg : Gl X "int") : PE X (.Name "int" p2) (tC (.ty (tyN .int))) := pe_bltn hg hm PyProof.Rows.boot_int rfl
theorem ty_bool {p2 : Pos} (hm : X.mg "bool" = none) (hg : Gl X "bool") : PE X (.Name "bool" p2) (tC (.ty (tyN .bool))) := pe_bltn hg hm PyProof.Rows.boot_bool rfl
theorem ty_str {p2 : Pos} (hm : X.mg "str" = none) (hg : Gl X "str") : PE X (.Name "str" p2) (tC (.ty (tyN .str))) := pe_bltn hg hm PyProof.Rows.boot_str rfl
theorem ty_list {p2 : Pos} (hm : X.mg "list" = none) (hg : Gl X "list") : PE X (.Name "list" p2) (tC (.ty (tyN .list))) := pe_bltn hg hm PyProof.Rows.boot_list rfl
theorem ty_tuple {p2 : Pos} (hm : X.mg "tuple" = none) (hg : Gl X "tuple") : PE X (.Name "tuple" p2) (tC (.ty (tyN .tuple))) := pe_bltn hg hm PyProof.Rows.boot_tuple rfl
theorem tg_nm {i : Nat} (h : PG X e (gName i)) : PG X e (tgT g.K (.nm i)) := by simp only [tgT]; exact h
theorem tgs_nil : PGs X [] (tgT.tgTs g.K []) := by simp only [tgT.tgTs]; exact pgs_nil
theorem tgs_cons {t : Tg} {ts : List Tg} (h1 : PG X e (tgT g.K t)) (h2 : PGs X es (tgT.tgTs g.K ts)) (hs : (assignEach (e :: es) X.env).map (·.2) = assign e X.env :: (assignEach es X.env).map (·.2)) : PGs X (e :: es) (tgT.tgTs g.K (t :: ts)) := by
  simp only [tgT.tgTs]
  exact pgs_cons h1 h2 hs
theorem tgp {ts : List Tg} {k : Nat} (C : Cok g X) (h : PGs X es (tgT.tgTs g.K ts)) (hn : (assignEach es X.env).length = ts.length) (hst : (assignEach es X.env).findIdx? (·.1) = none) : PG X (.Tuple es k pos) (tgT g.K (.tp ts)) := by
  have := pg_tup (pos := pos) (k := k) C.calm h hn hst
  rw [C.K] at this
  simp only [tgT]
  exact this
/-- the law itself: the end -/
theorem law_end {P : Program} {w : World} {mg : Str → Option Value} {base : Heap} {k : Nat} {y : Str} {F : FS} {fa : Addr} (c : Cal P w mg base g k y 1 F) (hm : mg y = some (.ref fa)) :
    ∃ fd ps, Binds g.K fd ps [] ∧ FnOk P w g.K mg base CX0 k fa fd ps (spF g 1 F) := by
  obtain ⟨f, fd, ps, h1, h2, h3, h4⟩ := c.ex
  rw [hm] at h1; cases h1
  exact ⟨fd, ps, h3, h4⟩
theorem sp_law {K : PySem.W.Frag} {cl : Nat → Addr} {F : FS} {ns : List Int} {a : Addr} {H : Hp} {os : Ct} (hF : F [some (.scr ns, false)] = some (.fz (.bl true), os)) (hS : SqL K H a (ns.map V.int)) : spF ⟨K, cl⟩ 1 F [.ref a] H (fun v _ => v = .bl true) fun _ _ _ => False := by
  refine ⟨rfl, fun _ => False, [], [some (.scr ns, false)], _, os, ⟨rfl, fun i d h => ?_, fun i d h => ?_, fun i j d e b h1 => ?_, fun b z => ?_, nofun, fun b z => ?_⟩, hF, nofun, fun v H' O' _ _ vl => ?_⟩
  · cases i with
    | zero => simp at h; subst h; exact ⟨.ref a, rfl, by simp only [Rep]; exact ⟨a, rfl, fun z => z.elim (fun z => z) (fun z => nomatch z), hS⟩⟩
    | succ i => simp at h
  · cases i with
    | zero => simp at h
    | succ i => simp at h
  · cases i with
    | zero => simp at h1
    | succ i => simp at h1
  · rcases z with z | z
    · exact z.elim
    · cases z
  · rcases z with z | z
    · exact z.elim
    · cases z
  · have vl : Rep _ _ _ _ _ := vl
    simpa only [Rep] using vl
end
end DV

namespace DV
open PySem L2
mutual
theorem eqd_refl : ∀ (d : D) (n : Nat), okB n d = true → eqd d d = true
  | .non, _, _ => by simp [eqd]
  | .bl _, _, _ => by simp [eqd]
  | .int _, _, _ => by simp [eqd]
  | .str _, _, _ => by simp [eqd]
  | .lst ds, n, h => by
    obtain ⟨m, rfl, h⟩ := okB_lst h
    simp only [eqd]
    exact eqds_refl ds m h
  | .tup ds, n, h => by
    obtain ⟨m, rfl, h⟩ := okB_tup h
    simp only [eqd]
    exact eqds_refl ds m h
  | .obj _ _ _, n, h => by rw [okB_obj] at h; cases h
  | .scr _, n, h => by rw [okB_scr] at h; cases h
  | .dct, n, h => by rw [okB_dct] at h; cases h
theorem eqds_refl : ∀ (ds : List D) (n : Nat), ds.all (okB n) = true → eqds ds ds = true
  | [], _, _ => by simp [eqds]
  | d :: ds, n, h => by
    simp only [List.all_cons, Bool.and_eq_true] at h
    simp only [eqds, Bool.and_eq_true]
    exact ⟨eqd_refl d n h.1, eqds_refl ds n h.2⟩
end
theorem okB_ints (n : Nat) (ts : List Int) : okB (n + 1) (.lst (ts.map D.int)) = true := by
  simp only [okB, List.all_eq_true, List.mem_map]
  rintro d ⟨t, _, rfl⟩
  cases n <;> rfl
theorem cmp_eq_self {d : D} (h : okB 12 d = true) : cmpD .eq d d = some true := by simp only [cmpD, h, eqd_refl d 12 h, Bool.and_self, if_true]
theorem cmp_ne_self {d : D} (h : okB 12 d = true) : cmpD .ne d d = some false := by simp only [cmpD, h, eqd_refl d 12 h, Bool.and_self, if_true, Bool.not_true]
theorem ixN_int (ts : List Int) (j : Nat) {x : Int} (h : ts[j]? = some x) : ixD (.lst (ts.map D.int)) (.int (j : Nat)) = some (.int x) := by
  simp only [ixD]
  exact atI_nat (by rw [List.getElem?_map, h]; rfl)
theorem forLoop_step {tg : Tg} {body : Ct → Option Out} {d : D} {ds : List D} {Γ Γ1 Γ2 : Ct} (h1 : asgT tg d Γ = some Γ1) (h2 : body Γ1 = some (.nx Γ2)) : forLoop tg body (d :: ds) Γ = forLoop tg body ds Γ2 := by
  simp only [forLoop, h1, h2, Option.bind_some]
theorem exs_nx {fs : List FS} {pn : List Nat} {s : S} {ss : List S} {Γ Γ1 : Ct} (h : ex fs pn s Γ = some (.nx Γ1)) : exs fs pn (s :: ss) Γ = exs fs pn ss Γ1 := by
  simp only [exs, h, Option.bind_some]
theorem exs_rt {fs : List FS} {pn : List Nat} {s : S} {ss : List S} {Γ Γ1 : Ct} {r : RV} (h : ex fs pn s Γ = some (.rt r Γ1)) : exs fs pn (s :: ss) Γ = some (.rt r Γ1) := by
  simp only [exs, h, Option.bind_some]
theorem compLoop_map {own : List Nat} {tg : Tg} {ct : Ct → Option (Bool × Ct)} {el : Ct → Option (RV × Ct)} {Γ : Ct} (f : D → D) : ∀ {ds acc : List D}, (∀ d ∈ ds, ∀ acc rest, compLoop own tg ct el (d :: rest) acc Γ = compLoop own tg ct el rest (acc ++ [f d]) Γ) → compLoop own tg ct el ds acc Γ = some (acc ++ ds.map f, Γ)
  | [], acc, _ => by simp only [compLoop, List.map_nil, List.append_nil]
  | d :: ds, acc, h => by
    rw [h d List.mem_cons_self acc ds, compLoop_map f fun e he => h e (List.mem_cons_of_mem _ he)]
    simp
theorem whl_step {c : Ct → Option (Bool × Ct)} {body : Ct → Option Out} {n : Nat} {Γ Γ1 Γ2 : Ct} (h1 : c Γ = some (true, Γ1)) (h2 : body Γ1 = some (.nx Γ2)) : whlLoop c body (n + 1) Γ = whlLoop c body n Γ2 := by
  simp only [whlLoop, h1, h2, Option.bind_some, if_true]
theorem whl_done {c : Ct → Option (Bool × Ct)} {body : Ct → Option Out} {n : Nat} {Γ Γ1 : Ct} (h1 : c Γ = some (false, Γ1)) : whlLoop c body (n + 1) Γ = some (.nx Γ1) := by
  simp only [whlLoop, h1, Option.bind_some, Bool.false_eq_true, if_false]
theorem runF_by {fs : List FS} {np n : Nat} {body : List S} {G0 : Ct} {o : Out} {r : RV × Ct} (hl : G0.length = np) (e : exs fs (ownPs 0 G0) body (G0 ++ List.replicate (n - np) none) = some o) (f : DV.finish np G0 o = some r) : runF fs np n body G0 = some r := by
  simp only [runF, hl, if_true, e, Option.bind_some, f]
theorem ex_for {fs : List FS} {pn : List Nat} {tg : Tg} {ik : IK} {its : List E} {b : List S} {Γ Γ2 : Ct} {ds : List D} {o : Out} (h1 : ((evs fs its Γ).bind fun p => iterD ik p.1 p.2) = some (ds, Γ2)) (h3 : disjB (tgIx tg) pn = true) (h4 : forLoop tg (exs fs pn b) ds Γ2 = some o) : ex fs pn (.for_ tg ik its b) Γ = some o := by
  obtain ⟨⟨xs, Γ1⟩, e1, e2⟩ := Option.bind_eq_some_iff.mp h1
  simp only [ex, e1, e2, Option.bind_some, h3, if_true, h4]
/-- a while's test -/
def tst (fs : List FS) (c : E) (Γ : Ct) : Option (Bool × Ct) := (ev fs c Γ).bind fun (x, Γ1) => (testD Γ1 x).map fun t => (t, Γ1)
theorem ex_whl {fs : List FS} {pn : List Nat} {c : E} {b : List S} {Γ : Ct} {o : Out} (h : whlLoop (tst fs c) (exs fs pn b) fuel Γ = some o) : ex fs pn (.whl c b) Γ = some o := by
  simp only [ex]
  exact h
theorem ex_ite {fs : List FS} {pn : List Nat} {c : E} {a b : List S} {Γ Γ1 : Ct} {x : RV} {t : Bool} {o : Out} (h1 : ev fs c Γ = some (x, Γ1)) (h2 : testD Γ1 x = some t) (h3 : exs fs pn (if t then a else b) Γ1 = some o) : ex fs pn (.ite c a b) Γ = some o := by
  simp only [ex, h1, Option.bind_some, h2]
  cases t <;> simpa using h3
/-- a range's turns -/
@[irreducible] def rngO (Γ : Ct) (ds : List D) : Option (List D × Ct) := iterD .rng (ds.map .fz) Γ
theorem datums_fz (Γ : Ct) : ∀ ds : List D, datums Γ (ds.map .fz) = some ds
  | [] => rfl
  | d :: ds => by simp only [List.map_cons, datums, datum, datums_fz Γ ds, Option.bind_some, Option.map_some]
theorem it_rng (xs : List RV) (Γ : Ct) : iterD .rng xs Γ = (datums Γ xs).bind (rngO Γ) := by
  cases e : datums Γ xs with
  | none => simp only [iterD, e, Option.bind_none]
  | some ds => simp only [iterD, e, Option.bind_some, rngO, datums_fz]
theorem in62_int {n : Int} (h0 : -1000000000 < n) (h : n < 1000000000) : in62 n = true := by
  unfold in62
  refine decide_eq_true ?_
  by_cases z : n.natAbs = 0
  · rw [z]
    decide
  · rw [Nat.log2_lt z]
    omega
theorem in62_nat {n : Nat} (h : n < 1000000000) : in62 (n : Int) = true := in62_int (by omega) (by omega)
theorem rngO1 (Γ : Ct) (b : Int) (h : in62 b = true) : rngO Γ [.int b] = some (rngD 0 1 b.toNat, Γ) := by
  unfold rngO
  simp only [iterD, datums_fz, Option.bind_some]
  rw [if_pos h]
theorem rngN1 (Γ : Ct) (n : Nat) (h : n < 1000000000) : rngO Γ [.int (n : Int)] = some (rngD 0 1 n, Γ) := by
  rw [rngO1 Γ _ (in62_nat h), Int.toNat_natCast]
theorem rngO2 (Γ : Ct) (a b : Int) (h1 : in62 a = true) (h2 : in62 b = true) : rngO Γ [.int a, .int b] = some (rngD a 1 (b - a).toNat, Γ) := by
  unfold rngO
  simp only [iterD, datums_fz, Option.bind_some]
  rw [if_pos (by rw [h1, h2]; rfl)]
theorem mulOk_l {i j : Int} (h1 : -(2 ^ 64) < i) (h2 : i < 2 ^ 64) : mulOk i j = true := by simp only [mulOk, h1, h2, and_self, decide_true, Bool.true_or]
theorem mulOk_r {i j : Int} (h1 : -(2 ^ 64) < j) (h2 : j < 2 ^ 64) : mulOk i j = true := by simp only [mulOk, h1, h2, and_self, decide_true, Bool.true_or, Bool.or_true]
end DV

namespace DV
open PySem L2
def plainTy : List String := ["NoneType", "bool", "int", "str", "list", "tuple"]
/-- a class of the text -/
structure ClsX (g : Gx) (c : Nat) : Prop where
  cl : Cls g.K (g.cl c)
  ha : PySem.W.findIn g.K (.ref (g.cl c)) "__class__" = some (some (.builtin "object.__class__"))
  hn : PySem.W.specialIn g.K (.builtin "object.__class__") "__get__" = some (some (.builtin "getset_descriptor.__get__"))
  htk : PySem.W.takesIn g.K (.builtin "object.__class__") = some true
  hm : PySem.W.mroIn g.K (g.cl c) (.type "object") = some true
  nf : ∀ t ∈ plainTy, PySem.W.subIn g.K (.type t) (.ref (g.cl c)) = some false
theorem ClsX.ty {g : Gx} {c : Nat} (x : ClsX g c) {H : Hp} {a dx : Addr} {fl : List (Str × V)} (e : H a = some (.ins (g.cl c) dx fl)) : TyX g.K H (.ref a) (.ref (g.cl c)) := .base (.ins e x.cl x.ha x.hn x.htk x.hm)
def tyS : D → String
  | .non => "NoneType"
  | .bl _ => "bool"
  | .int _ => "int"
  | .str _ => "str"
  | .lst _ => "list"
  | .tup _ => "tuple"
  | .scr _ => "list"
  | .dct => "dict"
  | .obj _ _ _ => ""
theorem tyS_mem {d : D} (h : plainB d = true) : tyS d ∈ plainTy := by
  cases d <;> first | (simp only [plainB, Bool.false_eq_true] at h; done) | (simp only [tyS, plainTy]; decide)
theorem tyx_of {g : Gx} {A : Addr → Prop} {H : Hp} {d : D} {v : V} (h : plainB d = true) (r : Rdb g A H d v) : TyX g.K H v (.type (tyS d)) := by
  cases d with
  | obj => simp [plainB] at h
  | scr => simp [plainB] at h
  | dct => simp [plainB] at h
  | non => rw [rdb_non r]; exact .base .non
  | bl b => rw [rdb_bl r]; exact .base (.bl b)
  | int b => rw [rdb_int r]; exact .base (.int b)
  | str b => rw [rdb_str r]; exact .base (.str b)
  | lst b =>
    obtain ⟨a, ws, rfl, e1, r1⟩ := r
    exact .base (.lst e1)
  | tup b =>
    obtain ⟨a, ws, rfl, _, e1, r1⟩ := rdb_tup r
    rcases e1 with (e1 | ⟨o, e1⟩) | ⟨o, its, n, e1, e2, _⟩
    · exact .base (.tup e1)
    · exact .fTuple e1
    · exact .kTuple e1 e2
section
variable {g : Gx} {A : Addr → Prop} {H : Hp}
theorem fldL_ok {nm : Str} : ∀ {ks : List Str} {ds : List D} {vs : List V} {d : D}, ks.length = vs.length → Reps g A H ds vs → fldL nm ks ds = some d → ∃ v, (ks.zip vs).lookup nm = some v ∧ Rep g A H d v
  | [], ds, vs, d, _, _, h => by simp only [fldL, reduceCtorEq] at h
  | k :: ks, [], vs, d, _, _, h => by simp only [fldL, reduceCtorEq] at h
  | k :: ks, e :: ds, vs, d, l, r, h => by
    simp only [Reps] at r
    obtain ⟨v, w, rfl, r1, r2⟩ := r
    simp only [fldL] at h
    rw [List.zip_cons_cons, List.lookup_cons]
    split at h
    · rename_i q
      subst q
      cases h
      exact ⟨v, by simp, r1⟩
    · rename_i q
      obtain ⟨u, h1, h2⟩ := fldL_ok (by simpa using l) r2 h
      have : (nm == k) = false := by simpa using q
      exact ⟨u, by simp only [this]; exact h1, h2⟩
theorem putL_ok {nm : Str} {d : D} {v : V} (rd : Rep g A H d v) : ∀ {ks : List Str} {ds : List D} {vs : List V}, ks.length = vs.length → ks.length = ds.length → Reps g A H ds vs → ∃ ws, (putL nm d ks ds).1.zip ws = putF nm v (ks.zip vs) ∧ (putL nm d ks ds).1.length = ws.length ∧ Reps g A H (putL nm d ks ds).2 ws
  | [], ds, vs, _, l2, r => by
    cases ds with
    | nil => exact ⟨[v], rfl, rfl, Reps.one rd⟩
    | cons => simp at l2
  | k :: ks, [], vs, _, l2, _ => by simp at l2
  | k :: ks, e :: ds, vs, l, l2, r => by
    simp only [Reps] at r
    obtain ⟨u, w, rfl, r1, r2⟩ := r
    simp only [putL, List.zip_cons_cons, putF]
    split
    · exact ⟨v :: w, rfl, by simpa using l, by simp only [Reps]; exact ⟨v, w, rfl, rd, r2⟩⟩
    · obtain ⟨ws, h1, h2, h3⟩ := putL_ok rd (by simpa using l) (by simpa using l2) r2
      exact ⟨u :: ws, by rw [List.zip_cons_cons, h1], by simpa using h2, by simp only [Reps]; exact ⟨u, ws, rfl, r1, h3⟩⟩
end
section
variable {X : Cx} {g : Gx} {fs : List FS} {a : Expr} {ia : E} {nm : Str} {pos : Pos}
theorem p_fld {cs : List Nat} (C : Cok g X) (ha : PE X a (tR g fs ia)) (hc : ∀ c ∈ cs, Cls g.K (g.cl c) ∧ NoAttr g.K (g.cl c) nm) (hb : attributeBase a nm X.env (eval a X.env) = eval a X.env) : PE X (.Attribute a nm pos) (tR g fs (.fld cs ia nm)) := by
  refine PE.weak (pe_fld ha hb) ?_
  rintro σ H Q ⟨Bn, Ow, Γ, r, Γ', rs, he, hQ⟩
  simp only [ev] at he
  obtain ⟨⟨x, Γ1⟩, e1, he⟩ := Option.bind_eq_some_iff.mp he
  obtain ⟨d, e2, he⟩ := Option.bind_eq_some_iff.mp he
  obtain ⟨d', e3, he⟩ := Option.map_eq_some_iff.mp he
  simp only [Prod.mk.injEq] at he
  obtain ⟨rfl, rfl⟩ := he
  refine ⟨Bn, Ow, Γ, x, Γ1, rs, e1, fun v H1 O1 s1 r1 v1 => ?_⟩
  have rd := v1.rdb r1 e2
  cases d <;> simp only [fldD, reduceCtorEq] at e3
  rename_i c ks ds
  simp only [Option.ite_none_right_eq_some, List.contains_eq_mem, decide_eq_true_eq] at e3
  obtain ⟨hm, e3⟩ := e3
  obtain ⟨p, dx, vs, rfl, l, hp, rp⟩ := rd
  obtain ⟨v, h1, h2⟩ := fldL_ok l rp e3
  rw [C.K]
  exact ⟨p, g.cl c, dx, _, v, rfl, hp, (hc c hm).1, (hc c hm).2, h1, hQ v H1 O1 s1 r1 h2⟩
/-- an owned object is rewritten -/
theorem RS.mutO {Bn : Addr → Prop} {Ow : List Addr} {H : Hp} {σ : St} {Γ : Ct} {i : Nat} {c : Nat} {d0 : D} {p dx : Addr} {ks : List Str} {ds : List D} {ws : List V} (rs : RS g Bn Ow H σ Γ) (hi : Γ[i]? = some (some (d0, true))) (hs : σ[i]? = some (some (.ref p))) (l : ks.length = ws.length) (r : Reps g (Av Bn Ow) H ds ws) :
    RS g Bn Ow (upd H p (.ins (g.cl c) dx (ks.zip ws))) σ (Γ.set i (some (.obj c ks ds, true))) ∧ Stp Ow H Ow (upd H p (.ins (g.cl c) dx (ks.zip ws))) := by
  have hil : i < Γ.length := (List.getElem?_eq_some_iff.mp hi).1
  obtain ⟨b, e1, m, _⟩ := rs.own i _ hi
  rw [hs] at e1; cases e1
  have vs := ban_vst (g := g) (H := H) (o := .ins (g.cl c) dx (ks.zip ws)) (A := Av Bn Ow) (p := p) (.inr m)
  refine ⟨⟨by rw [List.length_set]; exact rs.len, fun j e h => ?_, fun j e h => ?_, fun j k e f b h1 h2 h3 h4 => ?_, fun b h => ?_, rs.sep, rs.kf⟩, ⟨fun b o h n => ?_, fun _ h => .inl h, fun b h => ?_⟩⟩
  · have hj : i ≠ j := fun z => by subst z; rw [List.getElem?_set_self hil] at h; cases h
    rw [List.getElem?_set_ne hj] at h
    obtain ⟨v, e1, r1⟩ := rs.slot j e h
    exact ⟨v, e1, rep_mono vs _ _ r1⟩
  · by_cases hj : i = j
    · subst hj
      rw [List.getElem?_set_self hil] at h; cases h
      exact ⟨p, hs, m, dx, ws, l, upd_same, reps_mono vs _ _ r⟩
    · rw [List.getElem?_set_ne hj] at h
      obtain ⟨b, e1, m1, o1⟩ := rs.own j e h
      have nb : b ≠ p := fun z => hj (by subst z; exact rs.dist i j _ _ _ hi h hs e1)
      refine ⟨b, e1, m1, ?_⟩
      cases e with
      | lst es => obtain ⟨us, e2, r2⟩ := o1; exact ⟨us, by rw [upd_ne nb]; exact e2, reps_mono vs _ _ r2⟩
      | obj c ks es => obtain ⟨dx, us, l, e2, r2⟩ := o1; exact ⟨dx, us, l, by rw [upd_ne nb]; exact e2, reps_mono vs _ _ r2⟩
      | _ => exact o1
  · have ex : ∀ (j : Nat) e, (Γ.set i (some (.obj c ks ds, true)))[j]? = some (some (e, true)) → ∃ e', Γ[j]? = some (some (e', true)) := fun j e h => by
      by_cases hj : i = j
      · subst hj; exact ⟨_, hi⟩
      · rw [List.getElem?_set_ne hj] at h; exact ⟨_, h⟩
    obtain ⟨e', h1⟩ := ex j e h1
    obtain ⟨f', h2⟩ := ex k f h2
    exact rs.dist j k _ _ _ h1 h2 h3 h4
  · by_cases z : b = p
    · subst z; rw [upd_same]; simp
    · rw [upd_ne z]; exact rs.trk b h
  · have z : b ≠ p := fun z => n (by rw [z]; exact m)
    rw [upd_ne z]; exact h
  · by_cases z : b = p
    · subst z; rw [upd_same]; simp
    · rw [upd_ne z]; exact h
theorem s_setf {c i : Nat} {o e : Expr} {ie : E} {tpos : Pos} (C : Cok g X) (ho : PE X o (tVar i)) (he : PE X e (tR g fs ie)) (hc : Cls g.K (g.cl c) ∧ NoAttr g.K (g.cl c) nm) (hs : swapsWith e (some (.Attribute o nm tpos)) pos.line X.env = pure false) :
    PS X (.Assign [.Attribute o nm tpos] e pos) (tSt g fs (.setf c i nm ie)) := by
  refine PS.weak (ps_fld ho he hs) ?_
  rintro Dn σ H ⟨pv, Bn, Ow, Γ, o, rs, pn, he, po⟩
  simp only [ex] at he
  obtain ⟨⟨x, Γ1⟩, e1, he⟩ := Option.bind_eq_some_iff.mp he
  obtain ⟨⟨d, Γ2⟩, e2, he⟩ := Option.bind_eq_some_iff.mp he
  refine ⟨Bn, Ow, Γ, x, Γ1, rs, e1, fun v H1 O1 s1 r1 vl => ?_⟩
  obtain ⟨O2, s2, r2, p2⟩ := fre_ok r1 vl e2
  split at he
  · rename_i c0 q
    obtain ⟨c', e3, rfl⟩ := Option.map_eq_some_iff.mp he
    obtain ⟨p, ea, m, ow⟩ := r2.own i _ q
    cases c0 <;> simp only [putD, reduceCtorEq] at e3
    rename_i c1 ks ds
    simp only [Option.ite_none_right_eq_some, Option.some.injEq] at e3
    obtain ⟨⟨rfl, hz, hl⟩, rfl⟩ := e3
    obtain ⟨dx, vs, l, hp, rp⟩ := ow
    obtain ⟨ws, h1, h2, h3⟩ := putL_ok (nm := nm) p2 l hl rp
    have key := r2.mutO (c := c1) (dx := dx) q ea h2 h3
    rw [h1] at key
    rw [C.K]
    exact ⟨_, ea, p, g.cl c1, dx, ks.zip vs, rfl, hp, hc.1, hc.2, by rw [List.length_zip]; omega, po _ _ O2 ((s1.trans s2).trans key.2) key.1 pn⟩
  · cases he
/-! ### calls, by what they do -/
theorem callD_core {F : FS} {xs : List RV} {vs : List V} {Bn : Addr → Prop} {Ow : List Addr} {H : Hp} {σ : St} {Γ Γ' : Ct} {r : RV} {n : Nat} {Q : VK} {E : XK} (rs : RS g Bn Ow H σ Γ) (hv : VlW g Bn Ow H σ Γ xs vs) (he : callD F xs Γ = some (r, Γ')) (hn : vs.length = n)
    (hQ : ∀ v H' Ow', Stp Ow H Ow' H' → RS g Bn Ow' H' σ Γ' → Val g Bn Ow' H' σ Γ' r v → Q v H') : spF g n F vs H Q E := by
  simp only [callD] at he
  obtain ⟨as, e3, he⟩ := Option.bind_eq_some_iff.mp he
  simp only [Option.ite_none_right_eq_some] at he
  obtain ⟨nd, he⟩ := he
  obtain ⟨⟨r', os⟩, e4, he⟩ := Option.bind_eq_some_iff.mp he
  cases r' with
  | sl i => cases he
  | fz d =>
    simp only [Option.some.injEq, Prod.mk.injEq] at he
    obtain ⟨rfl, rfl⟩ := he
    exact call_core rs hv e3 nd e4 (fun i z => nomatch z) hn fun v H' O2 s2 r2 val _ => hQ v H' O2 s2 r2 val
  | nw d =>
    simp only [Option.some.injEq, Prod.mk.injEq] at he
    obtain ⟨rfl, rfl⟩ := he
    exact call_core rs hv e3 nd e4 (fun i z => nomatch z) hn fun v H' O2 s2 r2 val _ => hQ v H' O2 s2 r2 val
theorem evs_len {es : List E} : ∀ {Γ Γ' : Ct} {xs : List RV}, evs fs es Γ = some (xs, Γ') → es.length = xs.length := by
  induction es with
  | nil => intro Γ Γ' xs h; simp only [evs, Option.some.injEq, Prod.mk.injEq] at h; rw [← h.1]; rfl
  | cons a es ih =>
    intro Γ Γ' xs h
    simp only [evs] at h
    obtain ⟨⟨y, G1⟩, _, h⟩ := Option.bind_eq_some_iff.mp h
    obtain ⟨⟨ys, G2⟩, h2, h⟩ := Option.map_eq_some_iff.mp h
    simp only [Prod.mk.injEq] at h
    rw [← h.1, List.length_cons, List.length_cons, ih h2]
theorem lookup_no {nm : Str} : ∀ {ks : List Str} {vs : List V}, ks.contains nm = false → (ks.zip vs).lookup nm = none
  | [], _, _ => by simp
  | k :: ks, [], _ => by simp
  | k :: ks, v :: vs, h => by
    simp only [List.contains_cons, Bool.or_eq_false_iff] at h
    rw [List.zip_cons_cons, List.lookup_cons, h.1]
    exact lookup_no h.2
/-- a method of the class c -/
structure Mtd (P : Program) (w : World) (mg : Str → Option Value) (base : Heap) (g : Gx) (k : Nat) (c : Nat) (x : Str) (n : Nat) (F : FS) : Prop where
  ex : ∃ f fd ps, Cls g.K (g.cl c) ∧ Meth g.K (g.cl c) x f ∧ Binds g.K fd ps [] ∧ FnOk P w g.K mg base CX0 k f fd ps (spF g n F)
theorem Mtd.mono {P : Program} {w : World} {mg : Str → Option Value} {base : Heap} {j k c : Nat} {x : Str} {n : Nat} {F : FS} (h : Mtd P w mg base g j c x n F) (l : j ≤ k) : Mtd P w mg base g k c x n F := by
  obtain ⟨f, fd, ps, h1, h2, h3, h4⟩ := h.ex
  exact ⟨f, fd, ps, h1, h2, h3, h4.mono l⟩
theorem meth_core {c i n : Nat} {io : E} {ies : List E} {F : FS} {m : Str} {σ : St} {H : Hp} {Q : VK} {Ex : XK} (hF : fs[i]? = some F) (hn : ies.length + 1 = n) (h : tR g fs (.meth c m i io ies) σ H Q) : tMeth (g.cl c) m (spF g n F) [] Ex (tR g fs io) (tAw g fs ies) σ H Q := by
  obtain ⟨Bn, Ow, Γ, r, Γ', rs, he, hQ⟩ := h
  simp only [ev] at he
  obtain ⟨⟨x, Γ0⟩, e1, he⟩ := Option.bind_eq_some_iff.mp he
  obtain ⟨⟨d, Γ1⟩, e2, he⟩ := Option.bind_eq_some_iff.mp he
  simp only [Option.ite_none_right_eq_some, Bool.and_eq_true, Bool.not_eq_true'] at he
  obtain ⟨⟨ho, hf⟩, he⟩ := he
  obtain ⟨⟨ys, Γ2⟩, e3, he⟩ := Option.bind_eq_some_iff.mp he
  obtain ⟨F', e4, he⟩ := Option.bind_eq_some_iff.mp he
  rw [hF] at e4; cases e4
  refine ⟨Bn, Ow, Γ, x, Γ0, rs, e1, fun v H1 O1 s1 r1 v1 => ?_⟩
  obtain ⟨O2, s2, r2, p2⟩ := fre_ok r1 v1 e2
  obtain ⟨ks, ds, rfl⟩ : ∃ ks ds, d = .obj c ks ds := by
    cases d <;> simp only [isObj, Bool.false_eq_true, beq_iff_eq] at ho
    exact ⟨_, _, by rw [ho]⟩
  have p3 := p2
  simp only [Rep] at p3
  obtain ⟨p, dx, vs, rfl, _, l, hp, rp⟩ := p3
  refine ⟨p, dx, _, rfl, hp, lookup_no hf, Bn, O2, Γ1, ys, Γ2, r2, e3, fun ws H3 O3 s3 r3 v3 => ?_⟩
  show spF g n F (.ref p :: (ws ++ [])) H3 Q Ex
  rw [List.append_nil]
  have q := p2.step s3 r3
  refine callD_core (xs := .fz (.obj c ks ds) :: ys) r3 ⟨_, ws, rfl, q, nofun, v3⟩ he ?_ fun w H4 O4 s4 r4 v4 => hQ w H4 O4 (((s1.trans s2).trans s3).trans s4) r4 v4
  rw [List.length_cons, ← v3.len, ← evs_len e3]
  exact hn
section
variable {o e : Expr} {es : List Expr} {io : E} {ies : List E} {c k i n : Nat} {F : FS} {m : Str} {apos : Pos}
theorem p_meth {pl : Sem Bool} (M : Mtd X.prog X.w X.mg X.base g k c m n F) (C : Cok g X) (hF : fs[i]? = some F) (hn : ies.length + 1 = n) (hr : Room k X.A) (ho : PE X o (tR g fs io)) (ha : PA X (e :: es) (tAw g fs ies))
    (hst : starEach (e :: es) X.env = (false, eval e X.env) :: starEach es X.env) (hpl : (backTo pos (starEach es X.env)).any (·.1) = false)
    (ht : eval (.Call (.Attribute o m apos) (e :: es) [] pos) X.env = (do
      let ov ← eval o X.env
      standAt apos.atName
      let (f, first) ← holding [ov] (getMethod ov m pl)
      callWith pos f first (backTo pos (starEach (e :: es) X.env)) (backToKw pos (keywordEach [] X.env)))) : PE X (.Call (.Attribute o m apos) (e :: es) [] pos) (tR g fs (.meth c m i io ies)) := by
  obtain ⟨f, fd, ps, h1, h2, h3, h4⟩ := M.ex
  rw [← C.K] at h1 h2 h3 h4
  exact PE.weak (pe_meth (pl := pl) ho h1 h2 h4 hr h3 .nil pass0 ha hst hpl ht) fun σ H Q q => meth_core hF hn q
theorem p_meth0 {pl : Sem Bool} (M : Mtd X.prog X.w X.mg X.base g k c m 1 F) (C : Cok g X) (hF : fs[i]? = some F) (hr : Room k X.A) (ho : PE X o (tR g fs io))
    (ht : eval (.Call (.Attribute o m apos) [] [] pos) X.env = (do
      let ov ← eval o X.env
      standAt apos.atName
      let (f, first) ← holding [ov] (getMethod ov m pl)
      callWith pos f first (backTo pos (starEach [] X.env)) (backToKw pos (keywordEach [] X.env)))) : PE X (.Call (.Attribute o m apos) [] [] pos) (tR g fs (.meth c m i io [])) := by
  obtain ⟨f, fd, ps, h1, h2, h3, h4⟩ := M.ex
  rw [← C.K] at h1 h2 h3 h4
  refine PE.weak (pe_meth0 (pl := pl) ho h1 h2 h4 hr h3 .nil pass0 ht) fun σ H Q q => ?_
  obtain ⟨Bn, Ow, Γ, x, Γ0, rs, e1, kk⟩ := meth_core (Ex := E0) hF rfl q
  refine ⟨Bn, Ow, Γ, x, Γ0, rs, e1, fun v H1 O1 s1 r1 v1 => ?_⟩
  obtain ⟨p, dx, fl, h5, h6, h7, Bn', Ow', Γ', xs, Γ'', rs', e2, kk2⟩ := kk v H1 O1 s1 r1 v1
  simp only [evs, Option.some.injEq, Prod.mk.injEq] at e2
  obtain ⟨rfl, rfl⟩ := e2
  exact ⟨p, dx, fl, h5, h6, h7, kk2 [] H1 Ow' (.refl _ _) rs' rfl⟩
end
/-! ### a new object -/
theorem FnOk.kf {P : Program} {w : World} {K : PySem.W.Frag} {mg : Str → Option Value} {base : Heap} {CX : CXT} {k : Nat} {f : Addr} {fd : FuncData} {ps : List Str} {sp : Sp} (F : FnOk P w K mg base CX k f fd ps sp) :
    FnOk P w K mg base CX k f fd ps (fun vs H Q E => vs.length = ps.length ∧ (kfs K H → sp vs H Q E)) :=
  ⟨fun vs H Q E q => q.1, fun A outer s H args us vs Q E hr he hb hv hs => F.run A outer s H args us vs Q E hr he hb hv (hs.2 fun a o l => (he.bs a o (he.mod.kin a o l)).2)⟩
structure Mkd (P : Program) (w : World) (mg : Str → Option Value) (base : Heap) (g : Gx) (k : Nat) (c : Nat) (x : Str) (n : Nat) (F : FS) : Prop where
  ex : ∃ f fd ps, mg x = some (.ref (g.cl c)) ∧ Mk g.K (g.cl c) f ∧ Binds g.K fd ps [] ∧ ps.length = n + 1 ∧ FnOk P w g.K mg base CX0 k f fd ps (spF g (n + 1) F)
theorem Mkd.mono {P : Program} {w : World} {mg : Str → Option Value} {base : Heap} {j k c : Nat} {x : Str} {n : Nat} {F : FS} (h : Mkd P w mg base g j c x n F) (l : j ≤ k) : Mkd P w mg base g k c x n F := by
  obtain ⟨f, fd, ps, h1, h2, h3, h5, h4⟩ := h.ex
  exact ⟨f, fd, ps, h1, h2, h3, h5, h4.mono l⟩
theorem mkD_core {c n np : Nat} {F : FS} {ys : List RV} {vs : List V} {Bn : Addr → Prop} {O1 : List Addr} {H1 : Hp} {σ : St} {Γ1 Γ' : Ct} {r : RV} {Q : VK} {Ex : XK} (r1 : RS g Bn O1 H1 σ Γ1) (v1 : VlW g Bn O1 H1 σ Γ1 ys vs) (he : mkD F c ys Γ1 = some (r, Γ')) (hl : vs.length = n) (hp : np = n + 1)
    (hQ : ∀ v H' Ow', Stp O1 H1 Ow' H' → RS g Bn Ow' H' σ Γ' → Val g Bn Ow' H' σ Γ' r v → Q v H') : ∀ x dx, H1 x = none → H1 dx = none → dx ≠ x →
    (V.ref x :: vs).length = np ∧ (kfs g.K (upd (upd H1 dx (.own x)) x (.ins (g.cl c) dx [])) → spF g (n + 1) F (V.ref x :: vs) (upd (upd H1 dx (.own x)) x (.ins (g.cl c) dx [])) (fun v H2 => v = .non ∧ Q (.ref x) H2) Ex) := by
  simp only [mkD] at he
  obtain ⟨as, e2, he⟩ := Option.bind_eq_some_iff.mp he
  simp only [Option.ite_none_right_eq_some] at he
  obtain ⟨nd, he⟩ := he
  obtain ⟨⟨r', os⟩, e3, he⟩ := Option.bind_eq_some_iff.mp he
  intro p dx np0 ndx ne
  refine ⟨by rw [List.length_cons, hl, hp], fun kf => ?_⟩
  have sm : Same H1 (upd (upd H1 dx (.own p)) p (.ins (g.cl c) dx [])) := fun b x e => by
    rw [upd_ne (ne_of_none e np0), upd_ne (ne_of_none e ndx)]; exact e
  have hp' : (upd (upd H1 dx (.own p)) p (.ins (g.cl c) dx [])) p = some (.ins (g.cl c) dx []) := upd_same
  have hk : g.K.lookup p = none := kf_new kf hp'
  have r2 := r1.add sm np0 (by rw [hp']; simp) hk
  have st2 : Stp O1 H1 (p :: O1) _ := stp_add sm np0
  have nin : ∀ (j : Nat) (e : D), Γ1[j]? = some (some (e, true)) → σ[j]? ≠ some (some (.ref p)) := fun j e h1 h2 => by
    obtain ⟨b, e5, m5, _⟩ := r1.own j e h1
    rw [h2] at e5; cases e5
    exact r1.trk p (.inr m5) np0
  have vw : ∀ {xs : List RV} {ws : List V}, VlW g Bn O1 H1 σ Γ1 xs ws → VlW g Bn (p :: O1) (upd (upd H1 dx (.own p)) p (.ins (g.cl c) dx [])) σ Γ1 xs ws ∧ ∀ (j : Nat) (e : D), xs[j]? = some (.nw e) → ws[j]? ≠ some (.ref p) := by
    intro xs
    induction xs with
    | nil => intro ws h; exact ⟨h, fun j e h => by simp at h⟩
    | cons x xs ih =>
      rintro ws ⟨v, w, rfl, q1, q2, q3⟩
      obtain ⟨i1, i2⟩ := ih q3
      have kstep := step_vst (g := g) (Bn := Bn) st2 fun a h => r2.kf a (.inr h)
      refine ⟨⟨v, w, rfl, ?_, q2, i1⟩, fun j e h => ?_⟩
      · cases x with
        | fz d => exact rep_mono kstep _ _ q1
        | sl j => exact q1
        | nw d =>
          obtain ⟨b, rfl, m, ow, no⟩ := q1
          refine ⟨b, rfl, List.mem_cons_of_mem _ m, ?_, no⟩
          cases d with
          | lst ds => obtain ⟨us, f1, f2⟩ := ow; exact ⟨us, sm _ _ f1, reps_mono kstep _ _ f2⟩
          | obj c ks ds => obtain ⟨dx, us, l, f1, f2⟩ := ow; exact ⟨dx, us, l, sm _ _ f1, reps_mono kstep _ _ f2⟩
          | _ => exact ow
      · cases j with
        | zero =>
          simp at h
          subst h
          obtain ⟨b, rfl, m, _⟩ := q1
          intro z
          simp at z
          subst z
          exact r1.trk b (.inr m) np0
        | succ j => exact i2 j e (by simpa using h)
  obtain ⟨v2, n2⟩ := vw v1
  have v3 : VlW g Bn (p :: O1) (upd (upd H1 dx (.own p)) p (.ins (g.cl c) dx [])) σ Γ1 (.nw (.obj c [] []) :: ys) (.ref p :: vs) :=
    ⟨_, vs, rfl, ⟨p, rfl, List.mem_cons_self, ⟨dx, [], rfl, hp', by simp only [Reps]⟩, nin⟩, fun _ _ j e h1 => n2 j e h1, v2⟩
  have ea : argSs Γ1 (.nw (.obj c [] []) :: ys) = some ((.obj c [] [], true) :: as) := by simp only [argSs, argS, Option.bind_some, e2, Option.map_some]
  have nd2 : nodupB (ownIx Γ1 (.nw (.obj c [] []) :: ys)) = true := by simpa only [ownIx] using nd
  match r', os, he, e3 with
  | .fz .non, some (.obj c' ks ds, true) :: os', he, e3 =>
    simp only [Option.some.injEq, Prod.mk.injEq] at he
    obtain ⟨rfl, rfl⟩ := he
    refine call_core r2 v3 ea nd2 (by simpa using e3) (fun i z => by cases z) (by rw [List.length_cons, hl]) fun v H' O2 s2 r3 val nws => ⟨by simpa only [Val, Rep] using val, ?_⟩
    have w1 := nws 0 _ _ p rfl rfl rfl
    exact hQ _ H' O2 (st2.trans s2) (by simpa only [putOuts] using r3) (by simpa only [putOuts] using w1)
theorem make_core {c i n : Nat} {ies : List E} {F : FS} {σ : St} {H : Hp} {Q : VK} {Ex : XK} {np : Nat} (hF : fs[i]? = some F) (hn : ies.length = n) (hp : np = n + 1) (h : tR g fs (.mk c i ies) σ H Q) :
    tMake (g.cl c) (fun vs H Q E => vs.length = np ∧ (kfs g.K H → spF g (n + 1) F vs H Q E)) [] Ex (tAw g fs ies) σ H Q := by
  obtain ⟨Bn, Ow, Γ, r, Γ', rs, he, hQ⟩ := h
  simp only [ev] at he
  obtain ⟨⟨ys, Γ1⟩, e1, he⟩ := Option.bind_eq_some_iff.mp he
  obtain ⟨F', e4, he⟩ := Option.bind_eq_some_iff.mp he
  rw [hF] at e4; cases e4
  refine ⟨Bn, Ow, Γ, ys, Γ1, rs, e1, fun vs H1 O1 s1 r1 v1 => ?_⟩
  intro p dx np0 ndx ne
  show (_ ∧ _)
  rw [List.append_nil]
  exact mkD_core r1 v1 he (by rw [← v1.len, ← evs_len e1, hn]) hp (fun v H' O' st => hQ v H' O' (s1.trans st)) p dx np0 ndx ne
section
variable {e : Expr} {es : List Expr} {ies : List E} {c k i n : Nat} {F : FS} {x : Str} {p : Pos}
theorem p_mk (M : Mkd X.prog X.w X.mg X.base g k c x n F) (C : Cok g X) (hF : fs[i]? = some F) (hn : ies.length = n) (hr : Room (k + 1) X.A) (hg : Gl X x) (ha : PA X (e :: es) (tAw g fs ies)) (hdb : (x == ("__debug__" : Str)) = false)
    (he : starEach (e :: es) X.env = (false, eval e X.env) :: starEach es X.env) (hpl : (backTo pos (starEach es X.env)).any (·.1) = false) : PE X (.Call (.Name x p) (e :: es) [] pos) (tR g fs (.mk c i ies)) := by
  obtain ⟨f, fd, ps, h1, h2, h3, h5, h4⟩ := M.ex
  have h6 := FnOk.kf h4
  rw [← C.K] at h2 h3 h6
  refine PE.weak (pe_make h2 h6 hr hg h1 h3 .nil pass0 ha hdb he hpl) fun σ H Q q => ?_
  have := make_core (Ex := E0) hF hn h5 q
  rw [← C.K] at this
  exact this
end
end
end DV

namespace DV
open PySem L2
section
variable {X : Cx} {g : Gx} {k : Nat} {f C : Addr} {fd : FuncData} {ps : List Str} {sp : Sp}
/-- a def called by values, somewhere below -/
theorem run_sub {A : Around} {pins : List (Addr × Obj)} {σ : St} {H : Hp} {s : Shared} {Q : VK} {us : List Value} {vs : List V} (F : FnOk X.prog X.w X.K X.mg X.base CX0 k f fd ps sp) (sb : L2.Sub X k A) (hb : Binds X.K fd ps [])
    (I : Inv X pins σ H s) (r : Vals vs us) (h : sp vs H Q E0) : wpAny (model X.prog X.w) A (call (.ref f) us) (EP X pins σ Q) X.xe s := by
  have e := I.env0
  have e0 : Env0 X.prog X.w X.K X.mg X.base A X.stack s H := { frames := by rw [sb.fr]; exact e.frames, mod := e.mod, bs := e.bs, bsz := e.bsz, funs := e.funs, frf := e.frf, hok := e.hok, bare := e.bare }
  have hl : us.length = ps.length := by rw [← r.length]; exact F.len _ _ _ _ h
  have b0 := hb s us I.kIn (by rw [List.append_nil]; exact hl)
  rw [List.append_nil] at b0
  refine wpAny_call (codeAny_mono (F.run A X.stack s H ⟨us, []⟩ us vs Q E0 sb.room e0 b0 r h) fun fl s' hq => ?_)
  match fl, hq with
  | .ok (.ret u), hq => exact I.after hq
/-- an own operator, by values: the object first -/
def rOwn (C : Addr) (sp : Sp) : R2 := fun x y H Q => ∃ a dx fl, x = .ref a ∧ H a = some (.ins C dx fl) ∧ sp [x, y] H (fun v H' => Q v H') E0
def rOwn2 (K : PySem.W.Frag) (C : Addr) (sp : Sp) (p : Bool → Bool) : R2 := fun x y H Q => ∃ a dx fl tb, x = .ref a ∧ H a = some (.ins C dx fl) ∧ TyX K H y tb ∧ PySem.W.notFirst K C tb = true ∧ sp [x, y] H (fun v H' => ∃ t, v = .bl t ∧ Q (.bl (p t)) H') E0
theorem op_ownEq (F : FnOk X.prog X.w X.K X.mg X.base CX0 k f fd ps sp) (hr : Room k X.A) (hb : Binds X.K fd ps []) (hm : Meth X.K C "__eq__" f) : OpR X (compareOp .Eq) (rOwn2 X.K C sp id) := by
  intro pins s σ H x y v u Q I rx ry h
  obtain ⟨a, dx, fl, tb, rfl, ha, ty, nf, h⟩ := h
  cases rx
  obtain ⟨mA, J, _⟩ := ins_get I.hok ha
  obtain ⟨od, J, _⟩ := J.look
  obtain ⟨m, hF⟩ := I.fr
  obtain ⟨Pk, Z, pk, _⟩ := kit_of I ry ty
  show wpAny (model X.prog X.w) X.A (richCompare .Eq (.ref a) u) (EP X pins σ Q) X.xe s
  refine PySem.W.cmp_K (op := .Eq) (tb := tb) hr.units0 hF I.ok.mod.kin J (Z.ty _ _ I.kIn pk) nf hm.at_ hm.fn ?_
  refine wpAny_mono (run_sub (vs := [.ref a, y]) F ⟨hr, rfl⟩ hb I (.cons rfl (.cons ry .nil)) h) (fun z s' q => ?_) fun _ _ z => z
  obtain ⟨w, H', I', rz, t, rfl, q⟩ := q
  cases (show z = Value.bool t from rz)
  exact ⟨.bl t, H', I', rfl, q⟩
/-- x in o: the object second -/
def rOwnIn (C : Addr) (sp : Sp) (p : Bool → Bool) : R2 := fun x y H Q => ∃ b dy gl, y = .ref b ∧ H b = some (.ins C dy gl) ∧ sp [y, x] H (fun v H' => ∃ t, v = .bl t ∧ Q (.bl (p t)) H') E0
theorem op_ownIn (F : FnOk X.prog X.w X.K X.mg X.base CX0 k f fd ps sp) (hr : Room k X.A) (hb : Binds X.K fd ps []) (hm : Meth X.K C "__contains__" f) : OpR X (compareOp .In) (rOwnIn C sp id) := by
  intro pins s σ H x y v u Q I rx ry h
  obtain ⟨b, dy, gl, rfl, hb', h⟩ := h
  cases ry
  obtain ⟨mB, J', _⟩ := ins_get I.hok hb'
  obtain ⟨od', J', _⟩ := J'.look
  obtain ⟨m, hF⟩ := I.fr
  refine PySem.W.in_K hF I.ok.mod.kin J' hm.at_ hm.fn ?_
  refine wpAny_mono (run_sub (vs := [.ref b, x]) F ⟨hr, rfl⟩ hb I (.cons rfl (.cons rx .nil)) h) (fun z s' q => ?_) fun _ _ z => z
  obtain ⟨w, H', I', rz, t, rfl, q⟩ := q
  cases (show z = Value.bool t from rz)
  exact wpAny_truthy_bool ⟨.bl t, H', I', rfl, q⟩
theorem op_ownNotIn (F : FnOk X.prog X.w X.K X.mg X.base CX0 k f fd ps sp) (hr : Room k X.A) (hb : Binds X.K fd ps []) (hm : Meth X.K C "__contains__" f) : OpR X (compareOp .NotIn) (rOwnIn C sp not) := by
  intro pins s σ H x y v u Q I rx ry h
  obtain ⟨b, dy, gl, rfl, hb', h⟩ := h
  cases ry
  obtain ⟨mB, J', _⟩ := ins_get I.hok hb'
  obtain ⟨od', J', _⟩ := J'.look
  obtain ⟨m, hF⟩ := I.fr
  refine PySem.W.notIn_K hF I.ok.mod.kin J' hm.at_ hm.fn ?_
  refine wpAny_mono (run_sub (vs := [.ref b, x]) F ⟨hr, rfl⟩ hb I (.cons rfl (.cons rx .nil)) h) (fun z s' q => ?_) fun _ _ z => z
  obtain ⟨w, H', I', rz, t, rfl, q⟩ := q
  cases (show z = Value.bool t from rz)
  exact wpAny_truthy_bool ⟨.bl (!t), H', I', rfl, q⟩
end
end DV

namespace DV
open PySem L2
section
variable {X : Cx} {g : Gx} {k : Nat} {f C : Addr} {fd : FuncData} {ps : List Str} {sp : Sp}
theorem op_ownNe (F : FnOk X.prog X.w X.K X.mg X.base CX0 k f fd ps sp) (hr : Room (k + 1) X.A) (hb : Binds X.K fd ps []) (hm : Meth X.K C "__eq__" f) (hne : PySem.W.findIn X.K (.ref C) "__ne__" = some (some (.builtin "object.__ne__"))) (hi : PySem.W.mroIn X.K C (.type "object") = some true) :
    OpR X (compareOp .NotEq) (rOwn2 X.K C sp not) := by
  intro pins s σ H x y v u Q I rx ry h
  obtain ⟨a, dx, fl, tb, rfl, ha, ty, nf, h⟩ := h
  cases rx
  obtain ⟨mA, J, _⟩ := ins_get I.hok ha
  obtain ⟨od, J, _⟩ := J.look
  have KX := I.kIn
  obtain ⟨Pk, Z, pk, _⟩ := kit_of I ry ty
  have tyb : PySem.W.Looks (model X.prog X.w) s.heap (typeOf u) tb := Z.ty _ _ KX pk
  have fin : wpAny (model X.prog X.w) X.A.in1 (call (.ref f) [.ref a, u]) (fun z s' => ∃ t, z = Value.bool t ∧ EP X pins σ Q (.bool (!t)) s') X.xe s := by
    refine wpAny_mono (run_sub (vs := [.ref a, y]) F ⟨hr.in1, rfl⟩ hb I (.cons rfl (.cons ry .nil)) h) (fun z s' q => ?_) fun _ _ z => z
    obtain ⟨w, H', I', rz, t, rfl, q⟩ := q
    exact ⟨t, rz, .bl (!t), H', I', rfl, q⟩
  have sub : PySem.W.Looks (model X.prog X.w) s.heap (isInstance (.ref a) (.type "object")) true := J.type.andThen (PySem.W.looks_mroIn KX hi)
  have body : wpAny (model X.prog X.w) X.A (call (.builtin "object.__ne__") [.ref a, u]) (fun v s' => ∃ t, v = Value.bool t ∧ EP X pins σ Q v s') X.xe s := by
    refine wpAny_call (codeAny_call_builtin PySem.F.cmp_object.ne.plain PySem.F.cmpEntry_ne (PySem.W.check_slot PySem.F.cmpKind_ne PySem.F.cmpSplit_ne sub (PySem.F.cmpArgs_ne _ _) ?_))
    unfold Builtin.«object.__ne__»
    refine wpAny_bind (wpAny_pure ?_)
    refine wpAny_bind (wpAny_cRoomFor hr.in1.units0 ?_)
    refine wpAny_bind (PySem.W.ifBound_K KX J hm.at_ hm.fn (wpAny_mono fin (fun z s' q => ?_) fun _ _ z => z))
    obtain ⟨t, rfl, q⟩ := q
    refine wpAny_bind (wpAny_truthy_bool ?_)
    exact wpAny_pure ⟨!t, rfl, q⟩
  show wpAny (model X.prog X.w) X.A (richCompare .NotEq (.ref a) u) (EP X pins σ Q) X.xe s
  unfold richCompare
  simp only [oneThing_ref]
  refine wpAny_holding (wpAny_bind (wpAny_cRoomFor hr.units0 ?_))
  have one : wpAny (model X.prog X.w) X.A (callSpecialIfBound? (.ref a) "__ne__" [u]) (fun r s' => ∃ t, r = some (Value.bool t) ∧ EP X pins σ Q (.bool t) s') X.xe s := by
    simp only [callSpecialIfBound?, bindSpecialIfBound?]
    refine wpAny_holding (wpAny_bind (wpAny_bind (wpAny_bind (J.type.here ((PySem.W.looks_findIn KX hne).here ?_)))))
    refine wpAny_bind (wpAny_askSetting (wpAny_ite ?_))
    have go : wpAny (model X.prog X.w) X.A (call (.builtin "object.__ne__") ([.ref a] ++ [u]) >>= fun v => pure (some v)) (fun r s' => ∃ t, r = some (Value.bool t) ∧ EP X pins σ Q (.bool t) s') X.xe s := wpAny_bind (wpAny_mono body (fun v s' ⟨t, e, h'⟩ => wpAny_pure ⟨t, by rw [e], by rw [← e]; exact h'⟩) fun _ _ h' => h')
    split
    · rw [PySem.F.cmp_object.ne.bind]
      exact wpAny_bind (wpAny_pure (wpAny_pure go))
    · rw [PySem.F.cmp_object.ne.bind]
      exact wpAny_tryCatch (wpAny_bind (wpAny_pure (wpAny_pure go)))
  have two : wpAny (model X.prog X.w) X.A (tryCompare (.ref a) "__ne__" u) (fun r s' => ∃ t, r = some (Value.bool t) ∧ EP X pins σ Q (.bool t) s') X.xe s := by
    unfold tryCompare
    refine wpAny_bind (wpAny_mono one (fun r s' z => ?_) fun _ _ e => e)
    obtain ⟨t, rfl, q⟩ := z
    exact wpAny_pure ⟨t, rfl, q⟩
  refine wpAny_bind (J.type.here (wpAny_bind (tyb.here ?_)))
  split
  · rename_i q
    have e : PySem.W.subIn X.K tb (.ref C) = some false := by
      rcases Bool.or_eq_true_iff.mp nf with e | e
      · rw [beq_iff_eq.mp e] at q; simp at q
      · exact beq_iff_eq.mp e
    refine wpAny_bind ((PySem.W.looks_subIn KX e).here ?_)
    simp only [Bool.false_eq_true, if_false]
    refine wpAny_bind (wpAny_mono two (fun r s' z => ?_) fun _ _ e => e)
    obtain ⟨t, rfl, q⟩ := z
    exact wpAny_pure q
  · refine wpAny_bind (wpAny_pure ?_)
    simp only [Bool.false_eq_true, if_false]
    refine wpAny_bind (wpAny_mono two (fun r s' z => ?_) fun _ _ e => e)
    obtain ⟨t, rfl, q⟩ := z
    exact wpAny_pure q
end
end DV

namespace DV
open PySem L2
section
variable {X : Cx} {g : Gx} {fs : List FS} {a b : Expr} {ia ib : E} {pos : Pos} {c k i : Nat} {F : FS}
theorem obj_of {d : D} (h : isObj c d = true) : ∃ ks ds, d = .obj c ks ds := by
  cases d <;> simp only [isObj, Bool.false_eq_true, beq_iff_eq] at h
  exact ⟨_, _, by rw [h]⟩
theorem rep_ins {A : Addr → Prop} {H : Hp} {d : D} {v : V} (h : isObj c d = true) (r : Rep g A H d v) : ∃ p dx fl, v = .ref p ∧ H p = some (.ins (g.cl c) dx fl) := by
  obtain ⟨ks, ds, rfl⟩ := obj_of h
  simp only [Rep] at r
  obtain ⟨p, dx, vs, rfl, _, _, hp, _⟩ := r
  exact ⟨p, dx, _, rfl, hp⟩
/-- the two ways of a comparison -/
theorem own_bool {o : OOp} {op : COp} {p : Bool → Bool} {Bn : Addr → Prop} {Ow : List Addr} {H : Hp} {σ : St} {Γ Γ' : Ct} {r : RV} {Q : VK} (hpo : ∀ r5 r, postO o r5 = some r → ∃ t, r5 = .fz (.bl t) ∧ r = .fz (.bl (p t))) (hpl : ∀ d e, plainO o d e = (cmpD op d e).map fun b => .fz (.bl b))
    (hF : fs[i]? = some F) (rs : RS g Bn Ow H σ Γ) (he : ev fs (.own o c i ia ib) Γ = some (r, Γ')) (hQ : ∀ v H' Ow', Stp Ow H Ow' H' → RS g Bn Ow' H' σ Γ' → Val g Bn Ow' H' σ Γ' r v → Q v H') :
    tR g fs ia σ H fun v H1 => tR g fs ib σ H1 fun w H2 => rCmp g op v w H2 Q ∨ ∃ A d e, Rep g A H2 d v ∧ Rep g A H2 e w ∧ isObj c (selfO o d e).1 = true ∧ okO o c (selfO o d e).2 = true ∧
      ∀ sv ov, Rep g A H2 (selfO o d e).1 sv → Rep g A H2 (selfO o d e).2 ov → spF g 2 F [sv, ov] H2 (fun z H' => ∃ t, z = .bl t ∧ Q (.bl (p t)) H') E0 := by
  simp only [ev] at he
  obtain ⟨⟨x, Γ1⟩, e1, he⟩ := Option.bind_eq_some_iff.mp he
  obtain ⟨⟨y, Γ2⟩, e2, he⟩ := Option.bind_eq_some_iff.mp he
  obtain ⟨d, ed, he⟩ := Option.bind_eq_some_iff.mp he
  obtain ⟨e, ee, he⟩ := Option.bind_eq_some_iff.mp he
  simp only at ed ee he
  split at he
  · obtain ⟨⟨d', Γ3⟩, f1, he⟩ := Option.bind_eq_some_iff.mp he
    obtain ⟨⟨e', Γ4⟩, f2, he⟩ := Option.bind_eq_some_iff.mp he
    simp only [Option.ite_none_right_eq_some, Bool.and_eq_true] at he
    obtain ⟨⟨ho1, ho2⟩, he⟩ := he
    obtain ⟨F', hF', he⟩ := Option.bind_eq_some_iff.mp he
    rw [hF] at hF'; cases hF'
    obtain ⟨⟨r5, Γ5⟩, e5, he⟩ := Option.bind_eq_some_iff.mp he
    obtain ⟨r', e6, he⟩ := Option.map_eq_some_iff.mp he
    simp only [Prod.mk.injEq] at he
    obtain ⟨rfl, rfl⟩ := he
    obtain ⟨t, rfl, rfl⟩ := hpo _ _ e6
    rw [← fre_dn] at f1 f2
    refine tR_two rs e1 e2 fun v w H2 O2 s2 r2 v2 w2 => .inr ?_
    obtain ⟨O3, s3, r3, p3⟩ := fre_ok r2 v2 f1
    obtain ⟨O4, s4, r4, p4⟩ := fre_ok r3 (w2.step s3 r3) f2
    refine ⟨Av Bn O4, d', e', p3.step s4 r4, p4, ho1, ho2, fun sv ov q1 q2 => ?_⟩
    refine callD_core (xs := [.fz (selfO o d' e').1, .fz (selfO o d' e').2]) (vs := [sv, ov]) r4 ⟨sv, [ov], rfl, q1, nofun, ov, [], rfl, q2, nofun, rfl⟩ e5 rfl fun z H' O5 s5 r5 v5 => ⟨t, ?_, ?_⟩
    · simpa only [Val, Rep] using v5
    · exact hQ _ H' O5 (((s2.trans s3).trans s4).trans s5) r5 (by simp only [Val, Rep])
  · obtain ⟨r', e6, he⟩ := Option.map_eq_some_iff.mp he
    simp only [Prod.mk.injEq] at he
    obtain ⟨rfl, rfl⟩ := he
    rw [hpl] at e6
    obtain ⟨t, e7, rfl⟩ := Option.map_eq_some_iff.mp e6
    rw [← datum_dn] at ed ee
    exact tR_two rs e1 e2 fun v w H2 O2 s2 r2 v2 w2 => .inl ⟨Av Bn O2, d, e, t, v2.rdb r2 ed, w2.rdb r2 ee, e7, hQ _ H2 O2 s2 r2 (by simp only [Val, Rep])⟩
theorem post_eq (r5 r : RV) (h : postO .eq r5 = some r) : ∃ t, r5 = .fz (.bl t) ∧ r = .fz (.bl (id t)) := by
  cases r5 with
  | fz d =>
    cases d with
    | bl t => simp only [postO, Option.some.injEq] at h; exact ⟨t, rfl, h.symm⟩
    | _ => simp only [postO, reduceCtorEq] at h
  | _ => simp only [postO, reduceCtorEq] at h
theorem post_ne (r5 r : RV) (h : postO .ne r5 = some r) : ∃ t, r5 = .fz (.bl t) ∧ r = .fz (.bl (not t)) := by
  cases r5 with
  | fz d =>
    cases d with
    | bl t => simp only [postO, Option.some.injEq] at h; exact ⟨t, rfl, h.symm⟩
    | _ => simp only [postO, reduceCtorEq] at h
  | _ => simp only [postO, reduceCtorEq] at h
theorem post_inn (r5 r : RV) (h : postO .inn r5 = some r) : ∃ t, r5 = .fz (.bl t) ∧ r = .fz (.bl (id t)) := by
  cases r5 with
  | fz d =>
    cases d with
    | bl t => simp only [postO, Option.some.injEq] at h; exact ⟨t, rfl, h.symm⟩
    | _ => simp only [postO, reduceCtorEq] at h
  | _ => simp only [postO, reduceCtorEq] at h
theorem post_notin (r5 r : RV) (h : postO .notin r5 = some r) : ∃ t, r5 = .fz (.bl t) ∧ r = .fz (.bl (not t)) := by
  cases r5 with
  | fz d =>
    cases d with
    | bl t => simp only [postO, Option.some.injEq] at h; exact ⟨t, rfl, h.symm⟩
    | _ => simp only [postO, reduceCtorEq] at h
  | _ => simp only [postO, reduceCtorEq] at h
section
variable {op : COp} {o : OOp} {p : Bool → Bool}
theorem own2_core {Bn : Addr → Prop} {Ow : List Addr} {H : Hp} {σ : St} {Γ Γ' : Ct} {r : RV} {Q : VK} (hs : ∀ d e, selfO o d e = (d, e)) (hk : ∀ e, okO o c e = (isObj c e || plainB e)) (cx : ClsX g c) (hpo : ∀ r5 r, postO o r5 = some r → ∃ t, r5 = .fz (.bl t) ∧ r = .fz (.bl (p t))) (hpl : ∀ d e, plainO o d e = (cmpD op d e).map fun b => .fz (.bl b))
    (hF : fs[i]? = some F) (rs : RS g Bn Ow H σ Γ) (he : ev fs (.own o c i ia ib) Γ = some (r, Γ')) (hQ : ∀ v H' Ow', Stp Ow H Ow' H' → RS g Bn Ow' H' σ Γ' → Val g Bn Ow' H' σ Γ' r v → Q v H') :
    tOp (fun x y H Q => rCmp g op x y H Q ∨ rOwn2 g.K (g.cl c) (spF g 2 F) p x y H Q) (tR g fs ia) (tR g fs ib) σ H Q := by
  obtain ⟨B, O, G, x, G1, q1, q2, q3⟩ := own_bool hpo hpl hF rs he hQ
  refine ⟨B, O, G, x, G1, q1, q2, fun v H1 O1 s1 r1 v1 => ?_⟩
  obtain ⟨B', O', G', y, G2, t1, t2, t3⟩ := q3 v H1 O1 s1 r1 v1
  refine ⟨B', O', G', y, G2, t1, t2, fun w H2 O2 s2 r2 w2 => ?_⟩
  rcases t3 w H2 O2 s2 r2 w2 with h | ⟨A, d, e, h1, h2, h3, h4, h5⟩
  · exact .inl h
  · rw [hs] at h3 h4 h5
    rw [hk] at h4
    obtain ⟨pa, dx, fl, rfl, e1⟩ := rep_ins h3 h1
    rcases Bool.or_eq_true_iff.mp h4 with h4 | h4
    · obtain ⟨pb, dy, gl, rfl, e2⟩ := rep_ins h4 h2
      exact .inr ⟨pa, dx, fl, _, rfl, e1, cx.ty e2, by simp [PySem.W.notFirst], h5 _ _ h1 h2⟩
    · exact .inr ⟨pa, dx, fl, _, rfl, e1, tyx_of h4 h2.rdb, by simp [PySem.W.notFirst, cx.nf _ (tyS_mem h4)], h5 _ _ h1 h2⟩
theorem ownIn_core {Bn : Addr → Prop} {Ow : List Addr} {H : Hp} {σ : St} {Γ Γ' : Ct} {r : RV} {Q : VK} (hs : ∀ d e, selfO o d e = (e, d)) (hpo : ∀ r5 r, postO o r5 = some r → ∃ t, r5 = .fz (.bl t) ∧ r = .fz (.bl (p t))) (hpl : ∀ d e, plainO o d e = (cmpD op d e).map fun b => .fz (.bl b))
    (hF : fs[i]? = some F) (rs : RS g Bn Ow H σ Γ) (he : ev fs (.own o c i ia ib) Γ = some (r, Γ')) (hQ : ∀ v H' Ow', Stp Ow H Ow' H' → RS g Bn Ow' H' σ Γ' → Val g Bn Ow' H' σ Γ' r v → Q v H') :
    tOp (fun x y H Q => rCmp g op x y H Q ∨ rOwnIn (g.cl c) (spF g 2 F) p x y H Q) (tR g fs ia) (tR g fs ib) σ H Q := by
  obtain ⟨B, O, G, x, G1, q1, q2, q3⟩ := own_bool hpo hpl hF rs he hQ
  refine ⟨B, O, G, x, G1, q1, q2, fun v H1 O1 s1 r1 v1 => ?_⟩
  obtain ⟨B', O', G', y, G2, t1, t2, t3⟩ := q3 v H1 O1 s1 r1 v1
  refine ⟨B', O', G', y, G2, t1, t2, fun w H2 O2 s2 r2 w2 => ?_⟩
  rcases t3 w H2 O2 s2 r2 w2 with h | ⟨A, d, e, h1, h2, h3, h4, h5⟩
  · exact .inl h
  · rw [hs] at h3 h5
    obtain ⟨pb, dy, gl, rfl, e2⟩ := rep_ins h3 h2
    exact .inr ⟨pb, dy, gl, rfl, e2, h5 _ _ h2 h1⟩
end
/-- the facts of an own class with == -/
theorem p_ownEq (cx : ClsX g c) (M : Mtd X.prog X.w X.mg X.base g k c "__eq__" 2 F) (C : Cok g X) (hF : fs[i]? = some F) (hr : Room k X.A) (ha : PE X a (tR g fs ia)) (hb : PE X b (tR g fs ib)) (hm : behindInMarks .Eq b = false) : PE X (.Compare a [.Eq] [b] pos) (tR g fs (.own .eq c i ia ib)) := by
  obtain ⟨f, fd, ps, h1, h2, h3, h4⟩ := M.ex
  rw [← C.K] at h1 h2 h3 h4
  refine PE.weak (pe_cmpR ((op_cmp C.K C.hu .eq).or (op_ownEq h4 hr h3 h2)) ha hb hm) ?_
  rintro σ H Q ⟨Bn, Ow, Γ, r, Γ', rs, he, hQ⟩
  rw [C.K]
  exact own2_core (fun _ _ => rfl) (fun _ => rfl) cx post_eq (fun _ _ => rfl) hF rs he hQ
theorem p_ownNe (cx : ClsX g c) (M : Mtd X.prog X.w X.mg X.base g k c "__eq__" 2 F) (hne : PySem.W.findIn g.K (.ref (g.cl c)) "__ne__" = some (some (.builtin "object.__ne__"))) (C : Cok g X) (hF : fs[i]? = some F) (hr : Room (k + 1) X.A) (ha : PE X a (tR g fs ia)) (hb : PE X b (tR g fs ib)) (hm : behindInMarks .NotEq b = false) : PE X (.Compare a [.NotEq] [b] pos) (tR g fs (.own .ne c i ia ib)) := by
  obtain ⟨f, fd, ps, h1, h2, h3, h4⟩ := M.ex
  have hi := cx.hm
  rw [← C.K] at h1 h2 h3 h4 hne hi
  refine PE.weak (pe_cmpR ((op_cmp C.K C.hu .ne).or (op_ownNe h4 hr h3 h2 hne hi)) ha hb hm) ?_
  rintro σ H Q ⟨Bn, Ow, Γ, r, Γ', rs, he, hQ⟩
  rw [C.K]
  exact own2_core (fun _ _ => rfl) (fun _ => rfl) cx post_ne (fun _ _ => rfl) hF rs he hQ
theorem p_ownIn (M : Mtd X.prog X.w X.mg X.base g k c "__contains__" 2 F) (C : Cok g X) (hF : fs[i]? = some F) (hr : Room k X.A) (ha : PE X a (tR g fs ia)) (hb : PE X b (tR g fs ib)) (hm : behindInMarks .In b = false) : PE X (.Compare a [.In] [b] pos) (tR g fs (.own .inn c i ia ib)) := by
  obtain ⟨f, fd, ps, h1, h2, h3, h4⟩ := M.ex
  rw [← C.K] at h1 h2 h3 h4
  refine PE.weak (pe_cmpR ((op_cmp C.K C.hu .inn).or (op_ownIn h4 hr h3 h2)) ha hb hm) ?_
  rintro σ H Q ⟨Bn, Ow, Γ, r, Γ', rs, he, hQ⟩
  exact ownIn_core (fun _ _ => rfl) post_inn (fun _ _ => rfl) hF rs he hQ
theorem p_ownNotIn (M : Mtd X.prog X.w X.mg X.base g k c "__contains__" 2 F) (C : Cok g X) (hF : fs[i]? = some F) (hr : Room k X.A) (ha : PE X a (tR g fs ia)) (hb : PE X b (tR g fs ib)) (hm : behindInMarks .NotIn b = false) : PE X (.Compare a [.NotIn] [b] pos) (tR g fs (.own .notin c i ia ib)) := by
  obtain ⟨f, fd, ps, h1, h2, h3, h4⟩ := M.ex
  rw [← C.K] at h1 h2 h3 h4
  refine PE.weak (pe_cmpR ((op_cmp C.K C.hu .notin).or (op_ownNotIn h4 hr h3 h2)) ha hb hm) ?_
  rintro σ H Q ⟨Bn, Ow, Γ, r, Γ', rs, he, hQ⟩
  exact ownIn_core (fun _ _ => rfl) post_notin (fun _ _ => rfl) hF rs he hQ
end
end DV

namespace DV
open PySem L2
section
variable {X : Cx} {g : Gx} {k : Nat} {f C : Addr} {fd : FuncData} {ps : List Str} {sp : Sp}
/-! ### o + p -/
def rOwnA (C : Addr) (sp : Sp) : R2 := fun x y H Q => ∃ a b dx fl dy gl, x = .ref a ∧ y = .ref b ∧ H a = some (.ins C dx fl) ∧ H b = some (.ins C dy gl) ∧ sp [x, y] H (fun v H' => Q v H') E0
theorem op_ownAdd (F : FnOk X.prog X.w X.K X.mg X.base CX0 k f fd ps sp) (hr : Room k X.A) (hb : Binds X.K fd ps []) (hm : Meth X.K C "__add__" f) (hc : PySem.W.selfFirst X.K C = true) : OpR X (binaryOp .Add) (rOwnA C sp) := by
  intro pins s σ H x y v u Q I rx ry h
  obtain ⟨a, b, dx, fl, dy, gl, rfl, rfl, ha, hb', h⟩ := h
  cases rx
  cases ry
  obtain ⟨mA, J, _⟩ := ins_get I.hok ha
  obtain ⟨mB, J', _⟩ := ins_get I.hok hb'
  obtain ⟨od, J, _⟩ := J.look
  obtain ⟨od', J', _⟩ := J'.look
  obtain ⟨m, hF⟩ := I.fr
  refine PySem.W.binop_K (op := .Add) hF I.ok.mod.kin J J'.type hc hm.at_ hm.fn ?_
  refine wpAny_mono (run_sub (vs := [.ref a, .ref b]) F ⟨hr, rfl⟩ hb I (.cons rfl (.cons rfl .nil)) h) (fun z s' q => ?_) fun _ _ z => z
  obtain ⟨w, H', I', rz, q⟩ := q
  have fin : EP X pins σ Q z s' := ⟨w, H', I', rz, q⟩
  cases w with
  | non => cases (show z = Value.none from rz); exact fin
  | bl b => cases (show z = Value.bool b from rz); exact fin
  | int b => obtain ⟨t, rfl⟩ := (show ∃ t, z = Value.int b t from rz); exact fin
  | str b => obtain ⟨t, rfl⟩ := (show ∃ t, z = Value.str b t from rz); exact fin
  | byt b => obtain ⟨t, rfl⟩ := (show ∃ t, z = Value.bytes b t from rz); exact fin
  | flt b => obtain ⟨t, rfl⟩ := (show ∃ t, z = Value.float b t from rz); exact fin
  | ref b => cases (show z = Value.ref b from rz); exact fin
  | ty b => cases (show z = Value.type b from rz); exact fin
/-! ### o[i] -/
def IxO (X : Cx) (r : R2) : Prop :=
  ∀ (value slice : Expr) (pins : List (Addr × Obj)) (s : Shared) (σ : St) (H : Hp) (x y : V) (v u : Value) (Q : VK), Inv X pins σ H s → RelV x v → RelV y u → r x y H Q →
    subscripted slice true v u = runValue (.builtin "lifetime.subscript" ⟨[v, u], []⟩) → wpAny (model X.prog X.w) X.A (PyProof.Rows.subscriptTail value slice v u) (EP X pins σ Q) X.xe s
theorem pe_ixO {a b : Expr} {ta tb : TE} {pos : Pos} {r r' : R2} (hr : IxR X r) (hr' : IxO X r') (ha : PE X a ta) (hb : PE X b tb) (hs : PlainIx b) (hs' : ∀ o i, subscripted b true o i = runValue (.builtin "lifetime.subscript" ⟨[o, i], []⟩)) : PE X (.Subscript a b pos) (tOp (fun x y H Q => r x y H Q ∨ r' x y H Q) ta tb) := by
  refine ⟨fun pins s σ H Q I h => ?_⟩
  refine PyProof.Rows.Subscript_ (binT ha hb I h fun v u s2 x y H2 I2 rx ry q => ?_)
  rcases q with q | q
  · exact hr a b pins s2 σ H2 x y v u Q I2 rx ry q (hs _ _)
  · exact hr' a b pins s2 σ H2 x y v u Q I2 rx ry q (hs' _ _)
theorem ix_own (F : FnOk X.prog X.w X.K X.mg X.base CX0 k f fd ps sp) (hr : Room (k + 1) X.A) (hb : Binds X.K fd ps []) (hm : Meth X.K C "__getitem__" f) (hf : PySem.W.fnIn X.K f = true) : IxO X (rOwn C sp) := by
  intro value slice pins s σ H x y v u Q I rx ry h hs
  obtain ⟨a, dx, fl, rfl, ha, h⟩ := h
  cases rx
  obtain ⟨mA, J, _⟩ := ins_get I.hok ha
  obtain ⟨od, J, _⟩ := J.look
  obtain ⟨m, hF⟩ := I.fr
  refine PySem.W.sub_K hF I.ok.mod.kin J hm.at_ hf hm.fn ?_ hs
  exact run_sub (vs := [.ref a, y]) F ⟨hr.in1, rfl⟩ hb I (.cons rfl (.cons ry .nil)) h
/-! ### len(o) -/
def rOwnL (C : Addr) (sp : Sp) : List V → Hp → VK → Prop := fun xs H Q => ∃ a dx fl, xs = [.ref a] ∧ H a = some (.ins C dx fl) ∧ sp [.ref a] H (fun v H' => ∃ n, v = .int n ∧ 0 ≤ n ∧ n < 1000000000 ∧ Q (.int n) H') E0
theorem call_ownLen (F : FnOk X.prog X.w X.K X.mg X.base CX0 k f fd ps sp) (hr : Room (k + 1) X.A) (hb : Binds X.K fd ps []) (hm : Meth X.K C "__len__" f) : CallR X (.builtin "len") (rOwnL C sp) := by
  intro pins s σ H xs us Q I r h
  obtain ⟨a, dx, fl, rfl, ha, h⟩ := h
  obtain ⟨u, rfl, r1⟩ := vals1 r
  cases r1
  obtain ⟨mA, J, _⟩ := ins_get I.hok ha
  obtain ⟨od, J, _⟩ := J.look
  obtain ⟨m, hF⟩ := I.fr
  refine PySem.W.len_K hF I.ok.mod.kin J hm.at_ hm.fn ?_
  refine wpAny_mono (run_sub (vs := [.ref a]) F ⟨hr.in1, rfl⟩ hb I (.cons rfl .nil) h) (fun z s' q => ?_) fun _ _ z => z
  obtain ⟨w, H', I', rz, n, rfl, h0, h1, q⟩ := q
  obtain ⟨t, rfl⟩ := (show ∃ t, z = Value.int n t from rz)
  exact ⟨⟨h0, by omega⟩, .int n, H', I'.tok _, ⟨_, rfl⟩, q⟩
end
section
variable {X : Cx} {g : Gx} {fs : List FS} {a b : Expr} {ia ib : E} {pos : Pos} {c k i : Nat} {F : FS}
/-- the two ways of an operator whose answer is a value -/
theorem own_val {o : OOp} {Bn : Addr → Prop} {Ow : List Addr} {H : Hp} {σ : St} {Γ Γ' : Ct} {r : RV} {Q : VK} {R : V → V → Hp → Prop} (hs : ∀ d e, selfO o d e = (d, e)) (hpo : ∀ r5, postO o r5 = some r5)
    (hF : fs[i]? = some F) (rs : RS g Bn Ow H σ Γ) (he : ev fs (.own o c i ia ib) Γ = some (r, Γ')) (hQ : ∀ v H' Ow', Stp Ow H Ow' H' → RS g Bn Ow' H' σ Γ' → Val g Bn Ow' H' σ Γ' r v → Q v H')
    (k1 : ∀ A d e v w H2, Rdb g A H2 d v → Rdb g A H2 e w → (∀ a, A a → H2 a ≠ none) → (∀ u H', Same H2 H' → Res g A H2 H' r u → Q u H') → plainO o d e = some r → R v w H2)
    (k2 : ∀ A d e v w H2, Rep g A H2 d v → Rep g A H2 e w → isObj c d = true → okO o c e = true → spF g 2 F [v, w] H2 Q E0 → R v w H2) :
    tR g fs ia σ H fun v H1 => tR g fs ib σ H1 fun w H2 => R v w H2 := by
  simp only [ev] at he
  obtain ⟨⟨x, Γ1⟩, e1, he⟩ := Option.bind_eq_some_iff.mp he
  obtain ⟨⟨y, Γ2⟩, e2, he⟩ := Option.bind_eq_some_iff.mp he
  obtain ⟨d, ed, he⟩ := Option.bind_eq_some_iff.mp he
  obtain ⟨e, ee, he⟩ := Option.bind_eq_some_iff.mp he
  simp only at ed ee he
  split at he
  · obtain ⟨⟨d', Γ3⟩, f1, he⟩ := Option.bind_eq_some_iff.mp he
    obtain ⟨⟨e', Γ4⟩, f2, he⟩ := Option.bind_eq_some_iff.mp he
    simp only [Option.ite_none_right_eq_some, Bool.and_eq_true] at he
    obtain ⟨⟨ho1, ho2⟩, he⟩ := he
    obtain ⟨F', hF', he⟩ := Option.bind_eq_some_iff.mp he
    rw [hF] at hF'; cases hF'
    obtain ⟨⟨r5, Γ5⟩, e5, he⟩ := Option.bind_eq_some_iff.mp he
    obtain ⟨r', e6, he⟩ := Option.map_eq_some_iff.mp he
    simp only [Prod.mk.injEq] at he
    obtain ⟨rfl, rfl⟩ := he
    rw [hpo] at e6; cases e6
    rw [← fre_dn] at f1 f2
    refine tR_two rs e1 e2 fun v w H2 O2 s2 r2 v2 w2 => ?_
    obtain ⟨O3, s3, r3, p3⟩ := fre_ok r2 v2 f1
    obtain ⟨O4, s4, r4, p4⟩ := fre_ok r3 (w2.step s3 r3) f2
    rw [hs] at ho1 ho2 e5
    have p3' := p3.step s4 r4
    refine k2 (Av Bn O4) d' e' v w H2 p3' p4 ho1 ho2 ?_
    exact callD_core (xs := [.fz d', .fz e']) (vs := [v, w]) r4 ⟨v, [w], rfl, p3', nofun, w, [], rfl, p4, nofun, rfl⟩ e5 rfl fun z H' O5 s5 r5 v5 => hQ _ H' O5 (((s2.trans s3).trans s4).trans s5) r5 v5
  · obtain ⟨r', e6, he⟩ := Option.map_eq_some_iff.mp he
    simp only [Prod.mk.injEq] at he
    obtain ⟨rfl, rfl⟩ := he
    rw [← datum_dn] at ed ee
    exact tR_two rs e1 e2 fun v w H2 O2 s2 r2 v2 w2 => k1 (Av Bn O2) d e v w H2 (v2.rdb r2 ed) (w2.rdb r2 ee) r2.trk (fun u H' sm res => let ⟨O3, s3, r3, val⟩ := res.val r2 sm; hQ u H' O3 (s2.trans s3) r3 val) e6
theorem p_ownIx (M : Mtd X.prog X.w X.mg X.base g k c "__getitem__" 2 F) (hfn : ∀ f, Meth g.K (g.cl c) "__getitem__" f → PySem.W.fnIn g.K f = true) (C : Cok g X) (hF : fs[i]? = some F) (hr : Room (k + 1) X.A) (ha : PE X a (tR g fs ia)) (hb : PE X b (tR g fs ib)) (hs : PlainIx b) (hs' : ∀ o i, subscripted b true o i = runValue (.builtin "lifetime.subscript" ⟨[o, i], []⟩)) : PE X (.Subscript a b pos) (tR g fs (.own .ix c i ia ib)) := by
  obtain ⟨f, fd, ps, h1, h2, h3, h4⟩ := M.ex
  have hf := hfn f h2
  rw [← C.K] at h1 h2 h3 h4 hf
  refine PE.weak (pe_ixO ix_seq (ix_own h4 hr h3 h2 hf) ha hb hs hs') ?_
  rintro σ H Q ⟨Bn, Ow, Γ, r, Γ', rs, he, hQ⟩
  refine own_val (fun _ _ => rfl) (fun _ => rfl) hF rs he hQ (fun A d e v w H2 q1 q2 tr q3 q4 => .inl ?_) fun A d e v w H2 q1 q2 q3 q4 q5 => .inr ?_
  · rw [C.K]
    simp only [plainO] at q4
    obtain ⟨z, q6, rfl⟩ := Option.map_eq_some_iff.mp q4
    exact ix_core q1 q2 q6 fun u ru => q3 u H2 (same_rfl H2) ru
  · obtain ⟨pa, dx, fl, rfl, e1⟩ := rep_ins q3 q1
    exact ⟨pa, dx, fl, rfl, e1, q5⟩
theorem p_ownAdd (M : Mtd X.prog X.w X.mg X.base g k c "__add__" 2 F) (hsf : PySem.W.selfFirst g.K (g.cl c) = true) (C : Cok g X) (hF : fs[i]? = some F) (hr : Room k X.A) (ha : PE X a (tR g fs ia)) (hb : PE X b (tR g fs ib)) : PE X (.BinOp a .Add b pos) (tR g fs (.own .add c i ia ib)) := by
  obtain ⟨f, fd, ps, h1, h2, h3, h4⟩ := M.ex
  rw [← C.K] at h1 h2 h3 h4 hsf
  refine PE.weak (pe_op ((op_bin C.K .add).or (op_ownAdd h4 hr h3 h2 hsf)) ha hb) ?_
  rintro σ H Q ⟨Bn, Ow, Γ, r, Γ', rs, he, hQ⟩
  refine own_val (fun _ _ => rfl) (fun _ => rfl) hF rs he hQ (fun A d e v w H2 q1 q2 tr q3 q4 => .inl ?_) fun A d e v w H2 q1 q2 q3 q4 q5 => .inr ?_
  · simp only [plainO] at q4
    exact ⟨A, d, e, r, q1, q2, tr, q4, q3⟩
  · obtain ⟨pa, dx, fl, rfl, e1⟩ := rep_ins q3 q1
    obtain ⟨pb, dy, gl, rfl, e2⟩ := rep_ins (g := g) (c := c) q4 q2
    exact ⟨pa, pb, dx, fl, dy, gl, rfl, rfl, e1, e2, q5⟩
theorem p_lenO {p : Pos} (M : Mtd X.prog X.w X.mg X.base g k c "__len__" 1 F) (C : Cok g X) (hF : fs[i]? = some F) (hr : Room (k + 1) X.A) (ha : PE X a (tR g fs ia)) (hg : Gl X "len") (hm : X.mg "len" = none)
    (he : starEach (a :: []) X.env = (false, eval a X.env) :: starEach [] X.env) (hpl : (backTo pos (starEach [] X.env)).any (·.1) = false) : PE X (.Call (.Name "len" p) [a] [] pos) (tR g fs (.lenO c i ia)) := by
  obtain ⟨f, fd, ps, h1, h2, h3, h4⟩ := M.ex
  rw [← C.K] at h1 h2 h3 h4
  have cr : CallR X (.builtin "len") (fun xs H Q => rBi g .len xs H Q ∨ rOwnL (g.cl c) (spF g 1 F) xs H Q) := by
    intro pins s σ H x v Q I rx q
    rcases q with q | q
    · exact b_len C.K pins s σ H x v Q I rx q
    · exact call_ownLen h4 hr h3 h2 pins s σ H x v Q I rx q
  refine PE.weak (pe_callB cr hg hm (by decide +kernel) (pa_cons ha pa_nil he) (by decide) (by decide) he hpl) ?_
  rintro σ H Q ⟨Bn, Ow, Γ, r, Γ', rs, he, hQ⟩
  simp only [ev] at he
  obtain ⟨⟨x, Γ1⟩, e1, he⟩ := Option.bind_eq_some_iff.mp he
  obtain ⟨d, ed, he⟩ := Option.bind_eq_some_iff.mp he
  simp only at ed he
  split at he
  · rename_i ho
    obtain ⟨⟨d', Γ2⟩, f1, he⟩ := Option.bind_eq_some_iff.mp he
    obtain ⟨F', hF', he⟩ := Option.bind_eq_some_iff.mp he
    rw [hF] at hF'; cases hF'
    obtain ⟨⟨r5, Γ5⟩, e5, he6⟩ := Option.bind_eq_some_iff.mp he
    refine ⟨Bn, Ow, Γ, x, Γ1, rs, e1, fun v H1 O1 s1 r1 v1 => .inr ?_⟩
    obtain ⟨O2, s2, r2, p2⟩ := fre_ok r1 v1 f1
    have dd : d' = d := by
      cases x with
      | fz z => simp only [fre, datum, Option.some.injEq, Prod.mk.injEq] at f1 ed; rw [← f1.1, ← ed]
      | nw z => simp only [fre, datum, Option.some.injEq, Prod.mk.injEq] at f1 ed; rw [← f1.1, ← ed]
      | sl j =>
        simp only [fre, datum] at f1 ed
        split at ed
        · rename_i y bb q
          rw [q] at f1
          cases bb <;> (simp only [Option.some.injEq, Prod.mk.injEq] at f1 ed; rw [← f1.1, ← ed])
        · cases ed
    subst dd
    obtain ⟨pa, dx, fl, rfl, e2⟩ := rep_ins ho p2
    refine ⟨pa, dx, fl, rfl, e2, ?_⟩
    refine callD_core (xs := [.fz d']) (vs := [.ref pa]) r2 ⟨_, [], rfl, p2, nofun, rfl⟩ e5 rfl fun z H' O5 s5 r5' v5 => ?_
    split at he6
    · rename_i n e7
      simp only at e7
      subst e7
      simp only [Option.ite_none_right_eq_some, Option.some.injEq, Prod.mk.injEq] at he6
      obtain ⟨hb, rfl, rfl⟩ := he6
      have hb := lenOk_iff.mp hb
      exact ⟨n, by simpa only [Val, Rep] using v5, hb.1, hb.2, hQ _ H' O5 ((s1.trans s2).trans s5) r5' (by simp only [Val, Rep])⟩
    · cases he6
  · obtain ⟨r', e6, he⟩ := Option.map_eq_some_iff.mp he
    simp only [Prod.mk.injEq] at he
    obtain ⟨rfl, rfl⟩ := he
    rw [← datum_dn] at ed
    exact tR_one rs e1 fun v H1 O1 s1 r1 v1 => .inl ⟨Av Bn O1, [d], r', .cons (v1.rdb r1 ed) .nil, r1.trk, e6, fun v H' sm res => let ⟨O3, s3, r3, val⟩ := res.val r1 sm; hQ v H' O3 (s1.trans s3) r3 val⟩
theorem p_isc {cs : List Nat} {y : Str} {p p2 : Pos} (hcs : ∀ c' ∈ cs, ClsX g c' ∧ PySem.W.kitOne g.K (.ref (g.cl c')) (.ref (g.cl c)) = some (c == c')) (hpl' : ∀ t ∈ plainTy, PySem.W.kitOne g.K (.type t) (.ref (g.cl c)) = some false) (C : Cok g X) (ha : PE X a (tR g fs ia)) (hgy : Gl X y) (hmy : X.mg y = some (.ref (g.cl c))) (hdy : (y == ("__debug__" : Str)) = false) (hg : Gl X "isinstance") (hm : X.mg "isinstance" = none)
    (he : starEach (a :: [.Name y p2]) X.env = (false, eval a X.env) :: starEach [.Name y p2] X.env) (hpl : (backTo pos (starEach [.Name y p2] X.env)).any (·.1) = false) : PE X (.Call (.Name "isinstance" p) [a, .Name y p2] [] pos) (tR g fs (.isc cs c ia)) := by
  have hy : PE X (.Name y p2) (tC (.ref (g.cl c))) := pe_glob (v := .ref (g.cl c)) hgy hmy rfl hdy
  refine PE.weak (pe_callB call_isi hg hm PyProof.Rows.boot_isinstance (pa_cons ha (pa_cons hy pa_nil rfl) he) (by decide) (by decide) he hpl) ?_
  rintro σ H Q ⟨Bn, Ow, Γ, r, Γ', rs, he, hQ⟩
  simp only [ev] at he
  obtain ⟨⟨x, Γ1⟩, e1, he⟩ := Option.bind_eq_some_iff.mp he
  obtain ⟨d, ed, he⟩ := Option.bind_eq_some_iff.mp he
  obtain ⟨bb, eb, he⟩ := Option.map_eq_some_iff.mp he
  simp only [Prod.mk.injEq] at he
  obtain ⟨rfl, rfl⟩ := he
  rw [← datum_dn] at ed
  refine tR_one rs e1 fun v H1 O1 s1 r1 v1 => ?_
  show rIsi X.K [v, .ref (g.cl c)] H1 Q
  rw [C.K]
  have rd := v1.rdb r1 ed
  have q := hQ _ H1 O1 s1 r1 (show Val g Bn O1 H1 σ Γ1 (.fz (.bl bb)) (.bl bb) by simp only [Val, Rep])
  by_cases hp : plainB d = true
  · have : bb = false := by cases d <;> simp only [iscD, Option.some.injEq, plainB, Bool.false_eq_true] at eb hp <;> exact eb.symm
    subst this
    exact ⟨v, _, _, _, false, rfl, .own _, tyx_of hp rd, hpl' _ (tyS_mem hp), q⟩
  · cases d <;> simp only [iscD, plainB, not_true_eq_false, reduceCtorEq] at eb hp
    rename_i c' ks ds
    simp only [Option.ite_none_right_eq_some, List.contains_eq_mem, decide_eq_true_eq, Option.some.injEq] at eb
    obtain ⟨hm', rfl⟩ := eb
    obtain ⟨pa, dx, vs, rfl, _, e2, _⟩ := rd
    exact ⟨_, _, _, _, _, rfl, .own _, (hcs c' hm').1.ty e2, (hcs c' hm').2, q⟩
end
end DV

namespace DV
open PySem L2
section
variable {g : Gx} {Bn : Addr → Prop} {Ow : List Addr} {H : Hp} {σ : St} {Γ : Ct}
theorem VlW.of : ∀ {xs : List RV} {vs : List V}, xs.length = vs.length → (∀ (i : Nat) x, xs[i]? = some x → ∃ v, vs[i]? = some v ∧ Val g Bn Ow H σ Γ x v) → (∀ (i k : Nat) d e v, xs[i]? = some (.nw d) → xs[k]? = some (.nw e) → vs[i]? = some v → vs[k]? = some v → i = k) → VlW g Bn Ow H σ Γ xs vs
  | [], vs, l, _, _ => by
    have : vs = [] := List.length_eq_zero_iff.mp l.symm
    exact this
  | x :: xs, [], l, _, _ => by simp at l
  | x :: xs, v :: vs, l, h, u => by
    refine ⟨v, vs, rfl, ?_, ?_, VlW.of (by simpa using l) (fun i y e => ?_) fun i k d e w h1 h2 h3 h4 => ?_⟩
    · obtain ⟨w, e1, e2⟩ := h 0 x rfl
      simp at e1; subst e1
      exact e2
    · intro d e j e' h1 h2
      have := u 0 (j + 1) d e' v (by simp [e]) (by simpa using h1) rfl (by simpa using h2)
      omega
    · obtain ⟨w, e1, e2⟩ := h (i + 1) y (by simpa using e)
      exact ⟨w, by simpa using e1, e2⟩
    · have := u (i + 1) (k + 1) d e w (by simpa using h1) (by simpa using h2) (by simpa using h3) (by simpa using h4)
      omega
theorem permL_get {α : Type} : ∀ {p : List Nat} {xs : List α}, (∀ i ∈ p, i < xs.length) → ∀ j : Nat, (permL p xs)[j]? = (p[j]?).bind fun i => xs[i]?
  | [], xs, _, j => by simp [permL]
  | i :: p, xs, h, j => by
    have hi := h i List.mem_cons_self
    have e : permL (i :: p) xs = xs[i] :: permL p xs := by simp [permL, List.getElem?_eq_getElem hi]
    rw [e]
    cases j with
    | zero => simp [List.getElem?_eq_getElem hi]
    | succ j => simpa using permL_get (fun k hk => h k (List.mem_cons_of_mem _ hk)) j
theorem permL_len {α : Type} {p : List Nat} {xs : List α} (h : ∀ i ∈ p, i < xs.length) : (permL p xs).length = p.length := by
  induction p with
  | nil => simp [permL]
  | cons i p ih =>
    have hi := h i List.mem_cons_self
    have e : permL (i :: p) xs = xs[i] :: permL p xs := by simp [permL, List.getElem?_eq_getElem hi]
    rw [e, List.length_cons, List.length_cons, ih fun k hk => h k (List.mem_cons_of_mem _ hk)]
theorem nodupB_iff : ∀ {p : List Nat}, nodupB p = true → p.Nodup
  | [], _ => List.nodup_nil
  | x :: p, h => by
    obtain ⟨h1, h2⟩ := nodupB_cons h
    exact List.nodup_cons.mpr ⟨h1, nodupB_iff h2⟩
theorem VlW.perm {p : List Nat} {xs : List RV} {vs : List V} (h : VlW g Bn Ow H σ Γ xs vs) (hp : permOk p xs.length = true) : VlW g Bn Ow H σ Γ (permL p xs) (permL p vs) := by
  simp only [permOk, Bool.and_eq_true, List.all_eq_true, decide_eq_true_eq] at hp
  obtain ⟨nd, hr⟩ := hp
  have hr' : ∀ i ∈ p, i < vs.length := fun i m => by rw [← h.len]; exact hr i m
  refine VlW.of (by rw [permL_len hr, permL_len hr']) (fun i x e => ?_) fun i k d e v h1 h2 h3 h4 => ?_
  · rw [permL_get hr] at e
    obtain ⟨j, e1, e2⟩ := Option.bind_eq_some_iff.mp e
    obtain ⟨v, e3, e4⟩ := h.get e2
    exact ⟨v, by rw [permL_get hr', e1]; exact e3, e4⟩
  · rw [permL_get hr] at h1 h2
    rw [permL_get hr'] at h3 h4
    obtain ⟨j1, a1, a2⟩ := Option.bind_eq_some_iff.mp h1
    obtain ⟨j2, b1, b2⟩ := Option.bind_eq_some_iff.mp h2
    rw [a1] at h3
    rw [b1] at h4
    have := h.uniq a2 b2 h3 h4
    subst this
    exact ((List.getElem?_inj (List.getElem?_eq_some_iff.mp a1).1 (nodupB_iff nd)).mp (a1.trans b1.symm))
end
section
variable {X : Cx} {g : Gx} {fs : List FS}
/-- one behind another -/
def tFold (g : Gx) (fs : List FS) : List E → TA
  | [] => tNil
  | ie :: ies => tCons (tR g fs ie) (tFold g fs ies)
theorem fold_mono : ∀ {is : List E} {σ : St} {H : Hp} {Q Q' : List V → Hp → Prop}, (∀ vs H', Q vs H' → Q' vs H') → tFold g fs is σ H Q → tFold g fs is σ H Q'
  | [], _, _, _, _, k, h => k _ _ h
  | i :: is, σ, H, Q, Q', k, h => by
    obtain ⟨Bn, Ow, Γ, x, Γ1, rs, e1, kk⟩ := h
    exact ⟨Bn, Ow, Γ, x, Γ1, rs, e1, fun v H1 O1 s1 r1 v1 => fold_mono (fun vs H' q => k _ _ q) (kk v H1 O1 s1 r1 v1)⟩
theorem pf_nil : PA X [] (tFold g fs []) := pa_nil
theorem pf_cons {a : Expr} {es : List Expr} {ia : E} {ies : List E} (ha : PE X a (tR g fs ia)) (hr : PA X es (tFold g fs ies)) (hs : starEach (a :: es) X.env = (false, eval a X.env) :: starEach es X.env) : PA X (a :: es) (tFold g fs (ia :: ies)) := pa_cons ha hr hs
theorem kf_nil : PK X [] (tFold g fs []) := pk_nil
theorem kf_cons {a : Expr} {kws : List Keyword} {nm : Option Str} {kpos : Pos} {ia : E} {ies : List E} (ha : PE X a (tR g fs ia)) (hr : PK X kws (tFold g fs ies)) : PK X (⟨nm, a, kpos⟩ :: kws) (tFold g fs (ia :: ies)) := pk_cons ha hr
theorem fold_one {ies : List E} : ∀ {jes : List E} {σ : St} {H : Hp} {Q : List V → Hp → Prop}, tAw g fs (jes ++ ies) σ H Q → tFold g fs jes σ H fun vs H1 => tAw g fs ies σ H1 fun zs H2 => Q (vs ++ zs) H2
  | [], _, _, _, h => h
  | j :: jes, σ, H, Q, h => by
    obtain ⟨Bn, Ow, Γ, x, Γ1, rs, e1, kk⟩ := aw_split h
    exact ⟨Bn, Ow, Γ, x, Γ1, rs, e1, fun v H1 O1 s1 r1 v1 => fold_one (kk v H1 O1 s1 r1 v1)⟩
theorem aw_done {σ : St} {H : Hp} {Q : List V → Hp → Prop} (h : tAw g fs [] σ H Q) : Q [] H := by
  obtain ⟨Bn, Ow, Γ, xs, Γ', rs, he, hQ⟩ := h
  simp only [evs, Option.some.injEq, Prod.mk.injEq] at he
  obtain ⟨rfl, rfl⟩ := he
  exact hQ [] H Ow (.refl _ _) rs rfl
def dfl (ns : List Int) : List E := ns.map fun n => .cst (.int n)
theorem aw_dfl : ∀ {ns : List Int} {σ : St} {H : Hp} {Q : List V → Hp → Prop}, tAw g fs (dfl ns) σ H Q → Q (ns.map .int) H
  | [], _, _, _, h => aw_done h
  | n :: ns, σ, H, Q, h => by
    obtain ⟨Bn, Ow, Γ, x, Γ1, rs, e1, kk⟩ := aw_split h
    simp only [ev, Option.some.injEq, Prod.mk.injEq] at e1
    obtain ⟨rfl, rfl⟩ := e1
    exact aw_dfl (Q := fun vs H2 => Q (.int n :: vs) H2) (kk (.int n) H Ow (.refl _ _) rs (by simp only [Val, Rep]))
theorem fold_all {ies jes : List E} {ns : List Int} {σ : St} {H : Hp} {Q : List V → Hp → Prop} (h : tAw g fs (ies ++ (jes ++ dfl ns)) σ H Q) : tFold g fs ies σ H fun vs H1 => tFold g fs jes σ H1 fun zs H2 => Q (vs ++ (zs ++ ns.map .int)) H2 := by
  exact fold_mono (fun vs H1 q => fold_mono (fun zs H2 q => aw_dfl q) (fold_one q)) (fold_one h)
theorem fold_len : ∀ {ies : List E} {σ : St} {H : Hp} {Q : List V → Hp → Prop}, tFold g fs ies σ H Q → tFold g fs ies σ H fun vs H1 => vs.length = ies.length ∧ Q vs H1
  | [], _, _, _, h => ⟨rfl, h⟩
  | i :: is, σ, H, Q, h => by
    obtain ⟨Bn, Ow, Γ, x, Γ1, rs, e1, kk⟩ := h
    refine ⟨Bn, Ow, Γ, x, Γ1, rs, e1, fun v H1 O1 s1 r1 v1 => ?_⟩
    have q := fold_len (kk v H1 O1 s1 r1 v1)
    exact fold_mono (fun vs H' q => ⟨by rw [List.length_cons, List.length_cons, q.1], q.2⟩) q
theorem fold_len2 {ies jes : List E} {σ : St} {H : Hp} {Q : List V → List V → Hp → Prop} (h : tFold g fs ies σ H fun vs H1 => tFold g fs jes σ H1 fun zs H2 => Q vs zs H2) : tFold g fs ies σ H fun vs H1 => tFold g fs jes σ H1 fun zs H2 => vs.length = ies.length ∧ zs.length = jes.length ∧ Q vs zs H2 := by
  exact fold_mono (fun vs H1 q => fold_mono (fun zs H2 q2 => ⟨q.1, q2.1, q2.2⟩) (fold_len q.2)) (fold_len h)
/-- a def called with n values and keywords ks; p: where each parameter stands -/
structure CalK (P : Program) (w : World) (mg : Str → Option Value) (base : Heap) (g : Gx) (k : Nat) (x : Str) (n : Nat) (ks : List Str) (p : List Nat) (F : FS) : Prop where
  ex : ∃ f fd ps gg gV, mg x = some (.ref f) ∧ PySem.W.keepIn g.K (.ref f) = true ∧ KBn g.K fd ps n ks gg gV ∧ (∀ vs zs : List V, vs.length = n → zs.length = ks.length → gV vs zs = permL p (vs ++ zs)) ∧ FnOk P w g.K mg base CX0 k f fd ps (spF g p.length F)
theorem CalK.mono {P : Program} {w : World} {mg : Str → Option Value} {base : Heap} {j k n : Nat} {x : Str} {ks : List Str} {p : List Nat} {F : FS} (h : CalK P w mg base g j x n ks p F) (l : j ≤ k) : CalK P w mg base g k x n ks p F := by
  obtain ⟨f, fd, ps, gg, gV, h1, h2, h3, h5, h4⟩ := h.ex
  exact ⟨f, fd, ps, gg, gV, h1, h2, h3, h5, h4.mono l⟩
theorem callp_core {i : Nat} {ies jes : List E} {p : List Nat} {F : FS} {σ : St} {H : Hp} {Q : VK} {Ex : XK} (hF : fs[i]? = some F) (h : tR g fs (.callp i p (ies ++ jes)) σ H Q) :
    tFold g fs ies σ H fun vs H1 => tFold g fs jes σ H1 fun zs H2 => vs.length = ies.length ∧ zs.length = jes.length ∧ spF g p.length F (permL p (vs ++ zs)) H2 Q Ex := by
  obtain ⟨Bn, Ow, Γ, r, Γ', rs, he, hQ⟩ := h
  simp only [ev] at he
  obtain ⟨⟨xs, Γ1⟩, e1, he⟩ := Option.bind_eq_some_iff.mp he
  obtain ⟨F', e4, he⟩ := Option.bind_eq_some_iff.mp he
  rw [hF] at e4; cases e4
  simp only [Option.ite_none_right_eq_some] at he
  obtain ⟨hp, he⟩ := he
  have key : tAw g fs (ies ++ (jes ++ dfl [])) σ H fun ws H2 => spF g p.length F (permL p ws) H2 Q Ex := by
    rw [show dfl [] = ([] : List E) from rfl, List.append_nil]
    refine ⟨Bn, Ow, Γ, xs, Γ1, rs, e1, fun ws H1 O1 s1 r1 v1 => ?_⟩
    have hr : ∀ i ∈ p, i < ws.length := by
      simp only [permOk, Bool.and_eq_true, List.all_eq_true, decide_eq_true_eq] at hp
      rw [← v1.len]; exact hp.2
    exact callD_core r1 (v1.perm hp) he (permL_len hr) fun v H' O' st => hQ v H' O' (s1.trans st)
  have := fold_len2 (fold_all key)
  simpa only [List.map_nil, List.append_nil] using this
section
variable {e : Expr} {es : List Expr} {kws : List Keyword} {ies jes : List E} {c k i n : Nat} {ks : List Str} {F : FS} {x : Str} {p : List Nat} {q pos : Pos} {ns : List Int}
theorem c_callK (c : CalK X.prog X.w X.mg X.base g k x n ks p F) (C : Cok g X) (hF : fs[i]? = some F) (hn : ies.length = n) (hj : jes.length = ks.length) (hr : Room k X.A) (hg : Gl X x) (ha : PA X (e :: es) (tFold g fs ies)) (hkw : PK X kws (tFold g fs jes))
    (hall : (backToKw pos (keywordEach kws X.env)).all (·.1.isSome) = true) (hks : (backToKw pos (keywordEach kws X.env)).filterMap (·.1) = ks) (hdb : (x == ("__debug__" : Str)) = false) (he : starEach (e :: es) X.env = (false, eval e X.env) :: starEach es X.env)
    (hpl : ((backTo pos (starEach (e :: es) X.env)).any (·.1) || (backToKw pos (keywordEach kws X.env)).any (·.1.isNone)) = false) :
    PE X (.Call (.Name x q) (e :: es) kws pos) (tR g fs (.callp i p (ies ++ jes))) := by
  obtain ⟨f, fd, ps, gg, gV, h1, h2, h3, h5, h4⟩ := c.ex
  rw [← C.K] at h2 h3 h4
  refine PE.weak (pe_callN h4 hr hg h1 h2 h3 pass0 ha hkw hall hks hdb he hpl) fun σ H Q h => ?_
  have core := callp_core (Ex := E0) hF h
  exact fold_mono (fun vs H1 q => fold_mono (fun zs H2 q => ⟨q.1.trans hn, q.2.1.trans hj, by rw [h5 vs zs (q.1.trans hn) (q.2.1.trans hj)]; exact q.2.2⟩) q) core
theorem c_callK0 (c : CalK X.prog X.w X.mg X.base g k x 0 ks p F) (C : Cok g X) (hF : fs[i]? = some F) (hj : jes.length = ks.length) (hr : Room k X.A) (hg : Gl X x) (hkw : PK X kws (tFold g fs jes))
    (hall : (backToKw pos (keywordEach kws X.env)).all (·.1.isSome) = true) (hks : (backToKw pos (keywordEach kws X.env)).filterMap (·.1) = ks) (hdb : (x == ("__debug__" : Str)) = false)
    (hpl : ((backTo pos (starEach [] X.env)).any (·.1) || (backToKw pos (keywordEach kws X.env)).any (·.1.isNone)) = false) :
    PE X (.Call (.Name x q) [] kws pos) (tR g fs (.callp i p jes)) := by
  obtain ⟨f, fd, ps, gg, gV, h1, h2, h3, h5, h4⟩ := c.ex
  rw [← C.K] at h2 h3 h4
  refine ⟨fun pins s σ H Q I h => ?_⟩
  have core : tFold g fs jes σ H fun zs H2 => zs.length = jes.length ∧ spF g p.length F (permL p zs) H2 Q E0 := by
    have := callp_core (Ex := E0) (ies := []) hF h
    exact fold_mono (fun vs H1 q => ⟨q.2.1, by simpa using q.2.2⟩) this
  refine wpAny_Call_Name_kw (ld_glob I hg h1 ?_ hdb)
  refine PySem.W.callWith_KW0 (h₀ := X.base) I.ok.mod.kin h2 hall ?_ hpl
  refine thn (hkw.run pos pins s σ H _ I core) fun ws s2 ⟨zs, H2, I2, rz, l1, q2⟩ => ⟨I2.kIn, ?_⟩
  rw [hks]
  exact run_fnN (us := []) (vs := []) h4 hr h3 pass0 I2 .nil rz rfl (l1.trans hj) (by rw [h5 [] zs rfl (l1.trans hj)]; exact q2)
/-- a new object, called with n values and keywords ks; ns: the numbers that lack -/
structure MkdK (P : Program) (w : World) (mg : Str → Option Value) (base : Heap) (g : Gx) (k : Nat) (c : Nat) (x : Str) (n : Nat) (ks : List Str) (p : List Nat) (ns : List Int) (F : FS) : Prop where
  ex : ∃ f fd ps gg gV, mg x = some (.ref (g.cl c)) ∧ Mk g.K (g.cl c) f ∧ KBn g.K fd ps (n + 1) ks gg gV ∧ (∀ (s : V) (vs zs : List V), vs.length = n → zs.length = ks.length → gV (s :: vs) zs = s :: permL p (vs ++ (zs ++ ns.map .int))) ∧ ps.length = p.length + 1 ∧ FnOk P w g.K mg base CX0 k f fd ps (spF g (p.length + 1) F)
theorem MkdK.mono {P : Program} {w : World} {mg : Str → Option Value} {base : Heap} {j k c n : Nat} {x : Str} {ks : List Str} {p : List Nat} {ns : List Int} {F : FS} (h : MkdK P w mg base g j c x n ks p ns F) (l : j ≤ k) : MkdK P w mg base g k c x n ks p ns F := by
  obtain ⟨f, fd, ps, gg, gV, h1, h2, h3, h5, h6, h4⟩ := h.ex
  exact ⟨f, fd, ps, gg, gV, h1, h2, h3, h5, h6, h4.mono l⟩
theorem mkp_core {i c np : Nat} {ies jes : List E} {p : List Nat} {F : FS} {σ : St} {H : Hp} {Q : VK} {Ex : XK} (hF : fs[i]? = some F) (hp : np = p.length + 1) (h : tR g fs (.mkp c i p (ies ++ (jes ++ dfl ns))) σ H Q) :
    tFold g fs ies σ H fun vs H1 => tFold g fs jes σ H1 fun zs H2 => vs.length = ies.length ∧ zs.length = jes.length ∧ ∀ x dx, H2 x = none → H2 dx = none → dx ≠ x →
    (V.ref x :: permL p (vs ++ (zs ++ ns.map .int))).length = np ∧ (kfs g.K (upd (upd H2 dx (.own x)) x (.ins (g.cl c) dx [])) → spF g (p.length + 1) F (V.ref x :: permL p (vs ++ (zs ++ ns.map .int))) (upd (upd H2 dx (.own x)) x (.ins (g.cl c) dx [])) (fun v H2 => v = .non ∧ Q (.ref x) H2) Ex) := by
  obtain ⟨Bn, Ow, Γ, r, Γ', rs, he, hQ⟩ := h
  simp only [ev] at he
  obtain ⟨⟨xs, Γ1⟩, e1, he⟩ := Option.bind_eq_some_iff.mp he
  obtain ⟨F', e4, he⟩ := Option.bind_eq_some_iff.mp he
  rw [hF] at e4; cases e4
  simp only [Option.ite_none_right_eq_some] at he
  obtain ⟨hpk, he⟩ := he
  refine fold_len2 (fold_all (Q := fun ws H2 => ∀ x dx, H2 x = none → H2 dx = none → dx ≠ x →
    (V.ref x :: permL p ws).length = np ∧ (kfs g.K (upd (upd H2 dx (.own x)) x (.ins (g.cl c) dx [])) → spF g (p.length + 1) F (V.ref x :: permL p ws) (upd (upd H2 dx (.own x)) x (.ins (g.cl c) dx [])) (fun v H2 => v = .non ∧ Q (.ref x) H2) Ex)) ⟨Bn, Ow, Γ, xs, Γ1, rs, e1, fun ws H1 O1 s1 r1 v1 => ?_⟩)
  have hr : ∀ i ∈ p, i < ws.length := by
    simp only [permOk, Bool.and_eq_true, List.all_eq_true, decide_eq_true_eq] at hpk
    rw [← v1.len]; exact hpk.2
  exact mkD_core r1 (v1.perm hpk) he (permL_len hr) hp fun v H' O' st => hQ v H' O' (s1.trans st)
theorem p_mkK (M : MkdK X.prog X.w X.mg X.base g k c x n ks p ns F) (C : Cok g X) (hF : fs[i]? = some F) (hn : ies.length = n) (hj : jes.length = ks.length) (hr : Room (k + 1) X.A) (hg : Gl X x) (ha : PA X (e :: es) (tFold g fs ies)) (hkw : PK X kws (tFold g fs jes))
    (hall : (backToKw pos (keywordEach kws X.env)).all (·.1.isSome) = true) (hks : (backToKw pos (keywordEach kws X.env)).filterMap (·.1) = ks) (hdb : (x == ("__debug__" : Str)) = false) (he : starEach (e :: es) X.env = (false, eval e X.env) :: starEach es X.env)
    (hpl : ((backTo pos (starEach (e :: es) X.env)).any (·.1) || (backToKw pos (keywordEach kws X.env)).any (·.1.isNone)) = false) :
    PE X (.Call (.Name x q) (e :: es) kws pos) (tR g fs (.mkp c i p (ies ++ (jes ++ dfl ns)))) := by
  obtain ⟨f, fd, ps, gg, gV, h1, h2, h3, h5, h6, h4⟩ := M.ex
  have h7 := FnOk.kf h4
  rw [← C.K] at h2 h3 h7
  refine PE.weak (pe_makeK h2 h7 hr hg h1 h3 pass0 ha hkw hall hks hdb he hpl) fun σ H Q h => ?_
  have core := mkp_core (Ex := E0) hF h6 h
  rw [← C.K] at core
  exact fold_mono (fun vs H1 q => fold_mono (fun zs H2 q => ⟨q.1.trans hn, q.2.1.trans hj, fun x dx a1 a2 a3 => by rw [h5 _ vs zs (q.1.trans hn) (q.2.1.trans hj)]; exact q.2.2 x dx a1 a2 a3⟩) q) core
theorem p_mkK0 (M : MkdK X.prog X.w X.mg X.base g k c x 0 ks p ns F) (C : Cok g X) (hF : fs[i]? = some F) (hj : jes.length = ks.length) (hr : Room (k + 1) X.A) (hg : Gl X x) (hkw : PK X kws (tFold g fs jes))
    (hall : (backToKw pos (keywordEach kws X.env)).all (·.1.isSome) = true) (hks : (backToKw pos (keywordEach kws X.env)).filterMap (·.1) = ks) (hdb : (x == ("__debug__" : Str)) = false)
    (hpl : ((backTo pos (starEach [] X.env)).any (·.1) || (backToKw pos (keywordEach kws X.env)).any (·.1.isNone)) = false) :
    PE X (.Call (.Name x q) [] kws pos) (tR g fs (.mkp c i p (jes ++ dfl ns))) := by
  obtain ⟨f, fd, ps, gg, gV, h1, h2, h3, h5, h6, h4⟩ := M.ex
  have h7 := FnOk.kf h4
  rw [← C.K] at h2 h3 h7
  refine PE.weak (pe_makeK0 h2 h7 hr hg h1 h3 pass0 hkw hall hks hdb hpl) fun σ H Q h => ?_
  have core := mkp_core (Ex := E0) (ies := []) hF h6 h
  rw [← C.K] at core
  exact fold_mono (fun zs H2 q => ⟨rfl, q.2.1.trans hj, fun x dx a1 a2 a3 => by rw [h5 _ [] zs rfl (q.2.1.trans hj)]; exact q.2.2 x dx a1 a2 a3⟩) core
/-- positional values alone, with numbers that lack -/
theorem p_mkD (M : MkdK X.prog X.w X.mg X.base g k c x n [] p ns F) (C : Cok g X) (hF : fs[i]? = some F) (hn : ies.length = n) (hr : Room (k + 1) X.A) (hg : Gl X x) (ha : PA X (e :: es) (tFold g fs ies)) (hdb : (x == ("__debug__" : Str)) = false) (he : starEach (e :: es) X.env = (false, eval e X.env) :: starEach es X.env)
    (hpl : (backTo pos (starEach es X.env)).any (·.1) = false) :
    PE X (.Call (.Name x q) (e :: es) [] pos) (tR g fs (.mkp c i p (ies ++ ([] ++ dfl ns)))) := by
  obtain ⟨f, fd, ps, gg, gV, h1, h2, h3, h5, h6, h4⟩ := M.ex
  have h7 := FnOk.kf h4
  rw [← C.K] at h2 h3 h7
  refine ⟨fun pins s σ H Q I h => ?_⟩
  have core := mkp_core (Ex := E0) (jes := []) hF h6 h
  rw [← C.K] at core
  refine wpAny_Call_Name_kw (ld_glob I hg h1 ?_ hdb)
  refine PySem.W.callWith_K (h₀ := X.base) I.ok.mod.kin h2.kp (thn (ha.run pos pins s σ H _ I core) fun us s1 ⟨vs, H1, I1, r, q⟩ => ⟨I1.kIn, ?_⟩) he hpl
  exact run_makeK (us := us) (vs := vs) (ws := []) (zs := []) h2 h7 hr h3 pass0 I1 r .nil (q.1.trans hn) rfl (fun x dx a1 a2 a3 => by rw [h5 _ vs [] (q.1.trans hn) rfl]; exact q.2.2 x dx a1 a2 a3)
end
end
end DV

namespace DV
open PySem L2
section
variable {P : Program} {w : World} {mg : Str → Option Value} {base : Heap} {g : Gx} {fs : List FS}
theorem def_fnD {x qual : Str} {params : Arguments} {body : List Stmt} {scope : Scope} {dvs : List V} {kws : List (Str × V)} {f : Addr} {fd : FuncData} {N ps : List Str} {k np n : Nat} {ir : List S} (F : FunD g.K x qual params body scope dvs kws f fd) (S : FnScope N ps scope) (hp : ps.length = np) (hN : N.length = n)
    (hbody : ∀ (cdv : Value) (A : Around) (outer : List Env) (s : Shared) (H : Hp) (E : XK), Room k (cxOf CX0 P w g.K mg base N qual scope f cdv A outer s H E).nox.A → Cok g (cxOf CX0 P w g.K mg base N qual scope f cdv A outer s H E).nox →
      PSs (cxOf CX0 P w g.K mg base N qual scope f cdv A outer s H E).nox body (tSs g fs ir)) : FnOk P w g.K mg base CX0 (k + 1) f fd ps (spF g np (runF fs np n ir)) := by
  refine F.ok S (fun vs H Q E h => by rw [h.1, hp]) fun cdv A outer s H vs Q E hr h => ?_
  refine ⟨_, (hbody cdv A outer s H E hr ⟨rfl, rfl, hr.units, S.nd⟩).nox, ?_⟩
  obtain ⟨hl, Bn, Ow, Γ, r, os, rs, ef, nr, hQ⟩ := h
  have hG : Γ.length = np := by rw [← rs.len, List.length_map, hl]
  have hle : np ≤ n := by
    rw [← hN, ← hp]
    have := congrArg List.length S.pre
    rw [List.length_take] at this
    omega
  simp only [runF, hG, if_true] at ef
  obtain ⟨o, e1, e2⟩ := Option.bind_eq_some_iff.mp ef
  have est : L2.start N vs = vs.map some ++ List.replicate (n - np) none := by rw [← hN, ← hl]; rfl
  refine ⟨(n, (ownPs 0 Γ).map fun i => (i, vs.getD i .non)), Bn, Ow, Γ ++ List.replicate (n - np) none, o, ?_, ⟨?_, fun p hp => ?_⟩, ?_, ?_⟩
  · rw [est]; exact rs.start _
  · rw [est, List.length_append, List.length_map, List.length_replicate, hl]; show np + (n - np) = n; omega
  · obtain ⟨i, hi, rfl⟩ := List.mem_map.mp hp
    obtain ⟨j, d, rfl, h⟩ := ownPs_mem.mp hi
    have hj : j < vs.length := by
      have h1 := (List.getElem?_eq_some_iff.mp h).1
      omega
    rw [est]
    show (vs.map some ++ List.replicate (n - np) none)[0 + j]? = some (some (vs.getD (0 + j) .non))
    rw [Nat.zero_add, List.getElem?_append_left (by rw [List.length_map]; exact hj), List.getElem?_map, List.getElem?_eq_getElem hj, List.getD_eq_getElem?_getD, List.getElem?_eq_getElem hj]
    rfl
  · rw [List.map_map]
    show exs fs ((ownPs 0 Γ).map id) ir _ = some o
    rw [List.map_id]
    exact e1
  · rw [← hG] at e2
    exact finish_ok rs (by omega) e2 hQ
theorem paired_get {α β : Type} {R : α → β → Prop} : ∀ {xs : List α} {ys : List β}, Paired R xs ys → ∀ i : Nat, (∃ x y, xs[i]? = some x ∧ ys[i]? = some y ∧ R x y) ∨ (xs[i]? = none ∧ ys[i]? = none)
  | _, _, .nil, i => .inr ⟨by simp, by simp⟩
  | _, _, .cons r t, 0 => .inl ⟨_, _, rfl, rfl, r⟩
  | _, _, .cons r t, i + 1 => by simpa using paired_get t i
theorem paired_perm {α β : Type} {R : α → β → Prop} {xs : List α} {ys : List β} (h : Paired R xs ys) : ∀ p : List Nat, Paired R (permL p xs) (permL p ys)
  | [] => .nil
  | i :: p => by
    have ih := paired_perm h p
    rcases paired_get h i with ⟨x, y, e1, e2, r⟩ | ⟨e1, e2⟩
    · have a1 : permL (i :: p) xs = x :: permL p xs := by simp [permL, e1]
      have a2 : permL (i :: p) ys = y :: permL p ys := by simp [permL, e2]
      rw [a1, a2]
      exact .cons r ih
    · have a1 : permL (i :: p) xs = permL p xs := by simp [permL, e1]
      have a2 : permL (i :: p) ys = permL p ys := by simp [permL, e2]
      rw [a1, a2]
      exact ih
/-- keywords of a def without defaults -/
theorem fun_kbn {K : PySem.W.Frag} {x qual : Str} {st : Stmt} {f : Addr} {fd : FuncData} {ps : List Str} (F : Fun K x qual st f fd) {n : Nat} {ks : List Str} {p : List Nat}
    (h : ∀ (kV doc pm : Value) (an : Option Addr) (cdv ct : Value) (us ws : List Value), us.length = n → ws.length = ks.length → bindArgs (PySem.W.fnOf x qual (defArgs st) (defBody st) (defScope st) .none kV doc pm an cdv ct) ⟨us, ks.zip ws⟩ = pure (ps.zip (permL p (us ++ ws)))) :
    KBn K fd ps n ks (fun us ws => permL p (us ++ ws)) (fun vs zs => permL p (vs ++ zs)) := by
  obtain ⟨oc, od, kV, doc, pm, an, cdv, ct, osl, rfl, lk, hcd⟩ := F.ex
  exact ⟨fun s us ws _ l1 l2 => .of_eq (h kV doc pm an cdv ct us ws l1 l2), fun r1 r2 => paired_perm (r1.append r2) p⟩
theorem calk_of {x qual : Str} {st : Stmt} {f : Addr} {fd : FuncData} {ps : List Str} {n np k : Nat} {ks : List Str} {p : List Nat} {F : FS} (Fu : Fun g.K x qual st f fd) (hm : mg x = some (.ref f)) (hp : p.length = np) (G : FnOk P w g.K mg base CX0 k f fd ps (spF g np F))
    (h : ∀ (kV doc pm : Value) (an : Option Addr) (cdv ct : Value) (us ws : List Value), us.length = n → ws.length = ks.length → bindArgs (PySem.W.fnOf x qual (defArgs st) (defBody st) (defScope st) .none kV doc pm an cdv ct) ⟨us, ks.zip ws⟩ = pure (ps.zip (permL p (us ++ ws)))) : CalK P w mg base g k x n ks p F := by
  subst hp
  exact ⟨f, fd, ps, _, _, hm, Fu.kp, fun_kbn Fu h, fun vs zs _ _ => rfl, G⟩
/-- the order of an __init__: the object, then p -/
def gI {α : Type} (p : List Nat) (us mv ws : List α) : List α := match us with
  | [] => []
  | s :: r => s :: permL p (r ++ (ws ++ mv))
theorem gI_rel (p : List Nat) {vs mz zs : List V} {us mv ws : List Value} (h1 : Vals vs us) (h2 : Vals mz mv) (h3 : Vals zs ws) : Vals (gI p vs mz zs) (gI p us mv ws) := by
  cases h1 with
  | nil => exact .nil
  | cons r t => exact .cons r (paired_perm (Vals.append t (h3.append h2)) p)
theorem mkdk_of {c k n np : Nat} {x qual : Str} {params : Arguments} {body : List Stmt} {scope : Scope} {kws : List (Str × V)} {f : Addr} {fd : FuncData} {ps ks : List Str} {p : List Nat} {ms : List (Str × V)} {ns : List Int} {F : FS} {y : Str} (Fu : FunD g.K y qual params body scope [] kws f fd) (hk : kws ≠ []) (hms : ∀ q ∈ ms, q ∈ kws) (hns : ms.map (·.2) = ns.map V.int)
    (hm : mg x = some (.ref (g.cl c))) (M : Mk g.K (g.cl c) f) (hp : p.length = np) (hps : ps.length = np + 1) (G : FnOk P w g.K mg base CX0 k f fd ps (spF g (np + 1) F))
    (h : ∀ (D : Addr) (doc pm : Value) (an : Option Addr) (cdv ct : Value) (us mv ws : List Value), us.length = n + 1 → mv.length = ms.length → ws.length = ks.length →
      KwChain D ((ms.map (·.1)).zip mv) (bindArgs (PySem.W.fnOf y qual params body scope .none (.ref D) doc pm an cdv ct) ⟨us, ks.zip ws⟩) (ps.zip (gI p us mv ws))) : MkdK P w mg base g k c x n ks p ns F := by
  subst hp
  obtain ⟨mv, kb⟩ := Fu.kbinds0 (n + 1) ks ms (fun us mv ws => gI p us mv ws) hk hms (fun h1 h2 h3 => gI_rel p h1 h2 h3) h
  refine ⟨f, fd, ps, _, _, hm, M, kb, fun s vs zs _ _ => ?_, hps, G⟩
  show s :: permL p (vs ++ (zs ++ ms.map (·.2))) = _
  rw [hns]
theorem mkdk_of0 {c k n np : Nat} {x qual : Str} {st : Stmt} {f : Addr} {fd : FuncData} {ps ks : List Str} {p : List Nat} {F : FS} {y : Str} (Fu : Fun g.K y qual st f fd)
    (hm : mg x = some (.ref (g.cl c))) (M : Mk g.K (g.cl c) f) (hp : p.length = np) (hps : ps.length = np + 1) (G : FnOk P w g.K mg base CX0 k f fd ps (spF g (np + 1) F))
    (h : ∀ (kV doc pm : Value) (an : Option Addr) (cdv ct : Value) (us ws : List Value), us.length = n + 1 → ws.length = ks.length → bindArgs (PySem.W.fnOf y qual (defArgs st) (defBody st) (defScope st) .none kV doc pm an cdv ct) ⟨us, ks.zip ws⟩ = pure (ps.zip (gI p us [] ws))) : MkdK P w mg base g k c x n ks p [] F := by
  subst hp
  obtain ⟨oc, od, kV, doc, pm, an, cdv, ct, osl, rfl, lk, hcd⟩ := Fu.ex
  exact ⟨f, _, ps, fun us ws => gI p us [] ws, fun vs zs => gI p vs [] zs, hm, M, ⟨fun s us ws _ l1 l2 => .of_eq (h kV doc pm an cdv ct us ws l1 l2), fun r1 r2 => gI_rel p r1 .nil r2⟩, fun s vs zs _ _ => by simp [gI], hps, G⟩
/-- an __init__ with keyword-only numbers -/
theorem fund_mk {K : PySem.W.Frag} {x qual : Str} {st : Stmt} {f D : Addr} {oc : Value} {od an : Option Addr} {osl : Array (Option Value)} {doc pm cdv ct : Value} {y : Str} {n : Int} {t : Tok} (l : K.lookup f = some ⟨oc, od, .func (PySem.W.fnOf x qual (defArgs st) (defBody st) (defScope st) .none (.ref D) doc pm an cdv ct), osl⟩)
    (c : PySem.W.codeIn K cdv qual = true) (k : PySem.W.keepIn K (.ref f) = true) (d : PySem.W.nsIn K D y = some (some (.int n t))) : FunD K x qual (defArgs st) (defBody st) (defScope st) [] [(y, .int n)] f (PySem.W.fnOf x qual (defArgs st) (defBody st) (defScope st) .none (.ref D) doc pm an cdv ct) :=
  ⟨⟨oc, od, .none, .ref D, doc, pm, an, cdv, ct, osl, rfl, l, c, .inl ⟨rfl, rfl⟩, .inr ⟨D, rfl, fun q hq => by
    rcases List.mem_cons.mp hq with rfl | hq
    · exact ⟨_, d, t, rfl⟩
    · cases hq⟩⟩, k⟩
end
section
variable {X : Cx} {g : Gx} {fs : List FS} {x : Str} {pos : Pos}
/-- a text that the top has written -/
def GStr (mg : Str → Option Value) (x : Str) (z : Str) : Prop := ∃ t, mg x = some (.str z t)
theorem k_gstr {z : Str} (C : Cok g X) (h : GStr X.mg x z) (hg : Gl X x) (hd : (x == ("__debug__" : Str)) = false) : PE X (.Name x pos) (tR g fs (.cst (.str z))) := by
  obtain ⟨t, h⟩ := h
  exact p_cst (pe_glob (v := .str z) hg h ⟨t, rfl⟩ hd) C.K fun _ _ _ => by simp only [Rep]
/-- a tuple that the top has written -/
def GTup (K : PySem.W.Frag) (mg : Str → Option Value) (x : Str) (ds : List D) (vs : List V) : Prop := ∃ a o its n, mg x = some (.ref a) ∧ K.lookup a = some o ∧ o.cls = .type "tuple" ∧ o.data = .seq its n ∧ its.size ≤ sizeLine ∧ Vals vs its.toList
theorem k_gtup {ds : List D} {vs : List V} (C : Cok g X) (h : GTup g.K X.mg x ds vs) (hr : ∀ A H, Reps g A H ds vs) (hg : Gl X x) (hd : (x == ("__debug__" : Str)) = false) : PE X (.Name x pos) (tR g fs (.cst (.tup ds))) := by
  obtain ⟨a, o, its, n, h1, h2, h3, h4, h5, h6⟩ := h
  refine p_cst (pe_glob (v := .ref a) hg h1 rfl hd) C.K fun A H ka => ?_
  simp only [Rep]
  exact ⟨a, vs, rfl, (fun z => by rw [ka a z] at h2; simp at h2), .inr ⟨o, its, n, h2, h3, h4, h5, h6⟩, hr A H⟩
end
end DV

namespace DV
open PySem L2
theorem all_nil {α : Type} (P : α → Prop) : ∀ c ∈ ([] : List α), P c := fun _ h => nomatch h
theorem all_cons {α : Type} {P : α → Prop} {c : α} {cs : List α} (h : P c) (t : ∀ c ∈ cs, P c) : ∀ d ∈ c :: cs, P d := fun d m => by
  rcases List.mem_cons.mp m with rfl | m
  · exact h
  · exact t d m
theorem kit_pl {K : PySem.W.Frag} {C : Addr} {t : Value} {b : Bool} (h1 : PySem.W.isClsIn K C = true) (h2 : PySem.W.typeIn K (.ref C) = some (.type "type")) (h4 : (t == .ref C) = false) (h3 : PySem.W.subIn K t (.ref C) = some b) : PySem.W.kitOne K t (.ref C) = some b := by
  unfold PySem.W.kitOne PySem.W.kitCls
  unfold PySem.W.isClsIn at h1
  simp only [h4, h1, h2, Bool.false_eq_true, if_false, beq_self_eq_true, Bool.and_self, if_true]
  exact h3
theorem kit_me {K : PySem.W.Frag} {C : Addr} : PySem.W.kitOne K (.ref C) (.ref C) = some true := by
  unfold PySem.W.kitOne
  simp
theorem so_eq (d e : D) : selfO .eq d e = (d, e) := rfl
theorem so_ne (d e : D) : selfO .ne d e = (d, e) := rfl
theorem so_in (d e : D) : selfO .inn d e = (e, d) := rfl
theorem so_ni (d e : D) : selfO .notin d e = (e, d) := rfl
theorem so_ix (d e : D) : selfO .ix d e = (d, e) := rfl
theorem so_ad (d e : D) : selfO .add d e = (d, e) := rfl
theorem oo_eq (c : Nat) (e : D) : okO .eq c e = (isObj c e || plainB e) := rfl
theorem oo_ne (c : Nat) (e : D) : okO .ne c e = (isObj c e || plainB e) := rfl
theorem oo_in (c : Nat) (e : D) : okO .inn c e = true := rfl
theorem oo_ni (c : Nat) (e : D) : okO .notin c e = true := rfl
theorem oo_ix (c : Nat) (e : D) : okO .ix c e = true := rfl
theorem oo_ad (c : Nat) (e : D) : okO .add c e = isObj c e := rfl
theorem pb_non : plainB .non = true := rfl
theorem pb_int (i : Int) : plainB (.int i) = true := rfl
theorem pb_bl (i : Bool) : plainB (.bl i) = true := rfl
theorem pb_str (i : Str) : plainB (.str i) = true := rfl
theorem pb_lst (i : List D) : plainB (.lst i) = true := rfl
theorem pb_tup (i : List D) : plainB (.tup i) = true := rfl
theorem ic_non (cs : List Nat) (c : Nat) : iscD cs c .non = some false := rfl
theorem ic_int (cs : List Nat) (c : Nat) (i : Int) : iscD cs c (.int i) = some false := rfl
theorem ic_bl (cs : List Nat) (c : Nat) (i : Bool) : iscD cs c (.bl i) = some false := rfl
theorem ic_str (cs : List Nat) (c : Nat) (i : Str) : iscD cs c (.str i) = some false := rfl
theorem ic_lst (cs : List Nat) (c : Nat) (i : List D) : iscD cs c (.lst i) = some false := rfl
theorem ic_tup (cs : List Nat) (c : Nat) (i : List D) : iscD cs c (.tup i) = some false := rfl
theorem io_non (c : Nat) : isObj c .non = false := rfl
theorem io_int (c : Nat) (i : Int) : isObj c (.int i) = false := rfl
theorem io_bl (c : Nat) (i : Bool) : isObj c (.bl i) = false := rfl
theorem io_str (c : Nat) (i : Str) : isObj c (.str i) = false := rfl
theorem io_lst (c : Nat) (i : List D) : isObj c (.lst i) = false := rfl
theorem io_tup (c : Nat) (i : List D) : isObj c (.tup i) = false := rfl
def clOf (cs : List Addr) : Nat → Addr := fun c => cs.getD c 0
/-- the law's promise, the classes left open -/
def spN (K : PySem.W.Frag) (F : FS) : Sp := fun vs H Q E => vs.length = 1 ∧ ∀ cl, spF ⟨K, cl⟩ 1 F vs H Q E
theorem spN_of {P : Program} {w : World} {K : PySem.W.Frag} {mg : Str → Option Value} {base : Heap} {k : Nat} {f : Addr} {fd : FuncData} {ps : List Str} {F : FS} {cl : Nat → Addr} (h : FnOk P w K mg base CX0 k f fd ps (spF ⟨K, cl⟩ 1 F)) : FnOk P w K mg base CX0 k f fd ps (spN K F) :=
  ⟨fun vs H Q E q => h.len vs H Q E (q.2 cl), fun A outer s H args us vs Q E hr he hb hv hs => h.run A outer s H args us vs Q E hr he hb hv (hs.2 cl)⟩
theorem sp_lawN {K : PySem.W.Frag} {F : FS} {ns : List Int} {a : Addr} {H : Hp} {os : Ct} (hF : F [some (.scr ns, false)] = some (.fz (.bl true), os)) (hS : SqL K H a (ns.map V.int)) : spN K F [.ref a] H (fun v _ => v = .bl true) fun _ _ _ => False := ⟨rfl, fun cl => sp_law hF hS⟩
section
variable {X : Cx} {g : Gx} {fs : List FS} {a b : Expr} {ia ib : E} {pos : Pos} {c k i : Nat} {F : FS}
theorem own_isb {o : OOp} {op : COp} {p : Bool → Bool} {Γ Γ' : Ct} {r : RV} (hpo : ∀ r5 r, postO o r5 = some r → ∃ t, r5 = .fz (.bl t) ∧ r = .fz (.bl (p t))) (hpl : ∀ d e, plainO o d e = (cmpD op d e).map fun b => .fz (.bl b)) (he : ev fs (.own o c i ia ib) Γ = some (r, Γ')) : ∃ b, r = .fz (.bl b) := by
  simp only [ev] at he
  obtain ⟨⟨x, Γ1⟩, e1, he⟩ := Option.bind_eq_some_iff.mp he
  obtain ⟨⟨y, Γ2⟩, e2, he⟩ := Option.bind_eq_some_iff.mp he
  obtain ⟨d, ed, he⟩ := Option.bind_eq_some_iff.mp he
  obtain ⟨e, ee, he⟩ := Option.bind_eq_some_iff.mp he
  simp only at ed ee he
  split at he
  · obtain ⟨⟨d', Γ3⟩, f1, he⟩ := Option.bind_eq_some_iff.mp he
    obtain ⟨⟨e', Γ4⟩, f2, he⟩ := Option.bind_eq_some_iff.mp he
    simp only [Option.ite_none_right_eq_some, Bool.and_eq_true] at he
    obtain ⟨⟨ho1, ho2⟩, he⟩ := he
    obtain ⟨F', hF', he⟩ := Option.bind_eq_some_iff.mp he
    obtain ⟨⟨r5, Γ5⟩, e5, he⟩ := Option.bind_eq_some_iff.mp he
    obtain ⟨r', e6, he⟩ := Option.map_eq_some_iff.mp he
    simp only [Prod.mk.injEq] at he
    obtain ⟨rfl, rfl⟩ := he
    obtain ⟨t, rfl, rfl⟩ := hpo _ _ e6
    exact ⟨_, rfl⟩
  · obtain ⟨r', e6, he⟩ := Option.map_eq_some_iff.mp he
    simp only [Prod.mk.injEq] at he
    obtain ⟨rfl, rfl⟩ := he
    rw [hpl] at e6
    obtain ⟨t, e7, rfl⟩ := Option.map_eq_some_iff.mp e6
    exact ⟨_, rfl⟩
theorem test_of {Bn : Addr → Prop} {Ow : List Addr} {H : Hp} {σ : St} {Γ' : Ct} {r : RV} {t : Bool} {Q : Bool → Hp → Prop} (hr : ∃ b, r = .fz (.bl b)) (ht : testD Γ' r = some t) (hQ : ∀ H' Ow', Stp Ow H Ow' H' → RS g Bn Ow' H' σ Γ' → Q t H') :
    ∀ v H' Ow', Stp Ow H Ow' H' → RS g Bn Ow' H' σ Γ' → Val g Bn Ow' H' σ Γ' r v → ∃ k, v = .bl k ∧ Q k H' := by
  obtain ⟨b, rfl⟩ := hr
  simp only [testD, datum, Option.bind_some, truthD, Option.some.injEq] at ht
  subst ht
  intro v H' O' s1 r1 v1
  simp only [Val, Rep] at v1
  exact ⟨b, v1, hQ H' O' s1 r1⟩
theorem t_ownEq (cx : ClsX g c) (M : Mtd X.prog X.w X.mg X.base g k c "__eq__" 2 F) (C : Cok g X) (hF : fs[i]? = some F) (hr : Room k X.A) (ha : PE X a (tR g fs ia)) (hb : PE X b (tR g fs ib)) (hm : behindInMarks .Eq b = false) : PT X (.Compare a [.Eq] [b] pos) (tT g fs (.own .eq c i ia ib)) := by
  obtain ⟨f, fd, ps, h1, h2, h3, h4⟩ := M.ex
  rw [← C.K] at h1 h2 h3 h4
  refine PT.weak (pt_cmpR ((op_cmp C.K C.hu .eq).or (op_ownEq h4 hr h3 h2)) ha hb hm) ?_
  rintro σ H Q ⟨Bn, Ow, Γ, r, Γ', t, rs, he, ht, hQ⟩
  rw [C.K]
  exact own2_core (fun _ _ => rfl) (fun _ => rfl) cx post_eq (fun _ _ => rfl) hF rs he (test_of (own_isb post_eq (op := .eq) (fun _ _ => rfl) he) ht hQ)
theorem t_ownNe (cx : ClsX g c) (M : Mtd X.prog X.w X.mg X.base g k c "__eq__" 2 F) (hne : PySem.W.findIn g.K (.ref (g.cl c)) "__ne__" = some (some (.builtin "object.__ne__"))) (C : Cok g X) (hF : fs[i]? = some F) (hr : Room (k + 1) X.A) (ha : PE X a (tR g fs ia)) (hb : PE X b (tR g fs ib)) (hm : behindInMarks .NotEq b = false) : PT X (.Compare a [.NotEq] [b] pos) (tT g fs (.own .ne c i ia ib)) := by
  obtain ⟨f, fd, ps, h1, h2, h3, h4⟩ := M.ex
  have hi := cx.hm
  rw [← C.K] at h1 h2 h3 h4 hne hi
  refine PT.weak (pt_cmpR ((op_cmp C.K C.hu .ne).or (op_ownNe h4 hr h3 h2 hne hi)) ha hb hm) ?_
  rintro σ H Q ⟨Bn, Ow, Γ, r, Γ', t, rs, he, ht, hQ⟩
  rw [C.K]
  exact own2_core (fun _ _ => rfl) (fun _ => rfl) cx post_ne (fun _ _ => rfl) hF rs he (test_of (own_isb post_ne (op := .ne) (fun _ _ => rfl) he) ht hQ)
theorem t_ownIn (M : Mtd X.prog X.w X.mg X.base g k c "__contains__" 2 F) (C : Cok g X) (hF : fs[i]? = some F) (hr : Room k X.A) (ha : PE X a (tR g fs ia)) (hb : PE X b (tR g fs ib)) (hm : behindInMarks .In b = false) : PT X (.Compare a [.In] [b] pos) (tT g fs (.own .inn c i ia ib)) := by
  obtain ⟨f, fd, ps, h1, h2, h3, h4⟩ := M.ex
  rw [← C.K] at h1 h2 h3 h4
  refine PT.weak (pt_cmpR ((op_cmp C.K C.hu .inn).or (op_ownIn h4 hr h3 h2)) ha hb hm) ?_
  rintro σ H Q ⟨Bn, Ow, Γ, r, Γ', t, rs, he, ht, hQ⟩
  exact ownIn_core (fun _ _ => rfl) post_inn (fun _ _ => rfl) hF rs he (test_of (own_isb post_inn (op := .inn) (fun _ _ => rfl) he) ht hQ)
theorem t_ownNotIn (M : Mtd X.prog X.w X.mg X.base g k c "__contains__" 2 F) (C : Cok g X) (hF : fs[i]? = some F) (hr : Room k X.A) (ha : PE X a (tR g fs ia)) (hb : PE X b (tR g fs ib)) (hm : behindInMarks .NotIn b = false) : PT X (.Compare a [.NotIn] [b] pos) (tT g fs (.own .notin c i ia ib)) := by
  obtain ⟨f, fd, ps, h1, h2, h3, h4⟩ := M.ex
  rw [← C.K] at h1 h2 h3 h4
  refine PT.weak (pt_cmpR ((op_cmp C.K C.hu .notin).or (op_ownNotIn h4 hr h3 h2)) ha hb hm) ?_
  rintro σ H Q ⟨Bn, Ow, Γ, r, Γ', t, rs, he, ht, hQ⟩
  exact ownIn_core (fun _ _ => rfl) post_notin (fun _ _ => rfl) hF rs he (test_of (own_isb post_notin (op := .notin) (fun _ _ => rfl) he) ht hQ)
end
end DV

namespace DV
open PySem L2
/-! ### single steps of the evaluation -/
section
variable {fs : List FS} {a b c : E} {es : List E} {Γ Γ1 Γ2 Γ3 Γ4 Γ5 : Ct} {x y r r' : RV} {xs : List RV} {d e d' e' : D} {F : FS} {k i : Nat} {t : Bool}
theorem ev_mk (h1 : evs fs es Γ = some (xs, Γ1)) (h2 : fs[k]? = some F) (h3 : mkD F i xs Γ1 = some (r, Γ2)) : ev fs (.mk i k es) Γ = some (r, Γ2) := by
  rw [DV.ev.eq_21]
  simp only [h1, h2, Option.bind_some, h3]
theorem ev_call (h1 : evs fs es Γ = some (xs, Γ1)) (h2 : fs[k]? = some F) (h3 : callD F xs Γ1 = some (r, Γ2)) : ev fs (.call k es) Γ = some (r, Γ2) := by
  rw [DV.ev.eq_16]
  simp only [h1, h2, Option.bind_some]
  unfold callD at h3
  exact h3
theorem evs_1 (h : ev fs a Γ = some (x, Γ1)) : evs fs [a] Γ = some ([x], Γ1) := by
  simp only [DV.evs.eq_2, DV.evs.eq_1, h, Option.bind_some, Option.map_some]
theorem evs_c (h : ev fs a Γ = some (x, Γ1)) (h2 : evs fs es Γ1 = some (xs, Γ2)) : evs fs (a :: es) Γ = some (x :: xs, Γ2) := by
  simp only [DV.evs.eq_2, h, h2, Option.bind_some, Option.map_some]
theorem ev_own {o : OOp} (h1 : ev fs a Γ = some (x, Γ1)) (h2 : ev fs b Γ1 = some (y, Γ2)) (h3 : datum Γ2 x = some d) (h4 : datum Γ2 y = some e) (h5 : isObj i (selfO o d e).1 = true) (h6 : fre Γ2 x = some (d', Γ3)) (h7 : fre Γ3 y = some (e', Γ4)) (h8 : isObj i (selfO o d' e').1 = true) (h9 : okO o i (selfO o d' e').2 = true)
    (h10 : fs[k]? = some F) (h11 : callD F [.fz (selfO o d' e').1, .fz (selfO o d' e').2] Γ4 = some (r, Γ5)) (h12 : postO o r = some r') : ev fs (.own o i k a b) Γ = some (r', Γ5) := by
  rw [DV.ev.eq_22]
  simp only [h1, h2, Option.bind_some, h3, h4, h5, if_true, h6, h7, h8, h9, Bool.and_self, h10, h11, h12, Option.map_some]
theorem ev_or_f (h1 : ev fs a Γ = some (x, Γ1)) (h2 : testD Γ1 x = some false) (h3 : ev fs b Γ1 = some (y, Γ2)) : ev fs (.or a b) Γ = some (y, Γ2) := by
  rw [DV.ev.eq_9]
  simp only [h1, Option.bind_some, h2, Bool.false_eq_true, if_false, h3]
theorem ev_or_t (h1 : ev fs a Γ = some (x, Γ1)) (h2 : testD Γ1 x = some true) : ev fs (.or a b) Γ = some (x, Γ1) := by
  rw [DV.ev.eq_9]
  simp only [h1, Option.bind_some, h2, if_true]
theorem ev_and_t (h1 : ev fs a Γ = some (x, Γ1)) (h2 : testD Γ1 x = some true) (h3 : ev fs b Γ1 = some (y, Γ2)) : ev fs (.and a b) Γ = some (y, Γ2) := by
  rw [DV.ev.eq_8]
  simp only [h1, Option.bind_some, h2, if_true, h3]
theorem ev_and_f (h1 : ev fs a Γ = some (x, Γ1)) (h2 : testD Γ1 x = some false) : ev fs (.and a b) Γ = some (x, Γ1) := by
  rw [DV.ev.eq_8]
  simp only [h1, Option.bind_some, h2, Bool.false_eq_true, if_false]
theorem ev_not (h1 : ev fs a Γ = some (x, Γ1)) (h2 : testD Γ1 x = some t) : ev fs (.not a) Γ = some (.fz (.bl (!t)), Γ1) := by
  rw [DV.ev.eq_10]
  simp only [h1, Option.bind_some, h2, Option.map_some]
theorem ev_cmp {o : COp} (h1 : ev fs a Γ = some (x, Γ1)) (h2 : ev fs b Γ1 = some (y, Γ2)) (h3 : datum Γ2 x = some d) (h4 : datum Γ2 y = some e) (h5 : cmpD o d e = some t) : ev fs (.cmp o a b) Γ = some (.fz (.bl t), Γ2) := by
  rw [DV.ev.eq_6]
  simp only [h1, h2, Option.bind_some, h3, h4, h5, Option.map_some]
theorem ev_bin {o : BOp} (h1 : ev fs a Γ = some (x, Γ1)) (h2 : ev fs b Γ1 = some (y, Γ2)) (h3 : datum Γ2 x = some d) (h4 : datum Γ2 y = some e) (h5 : binD o d e = some r) : ev fs (.bin o a b) Γ = some (r, Γ2) := by
  rw [DV.ev.eq_4]
  simp only [h1, h2, Option.bind_some, h3, h4, h5, Option.map_some]
theorem ev_ite {z : RV} (h1 : ev fs a Γ = some (x, Γ1)) (h2 : testD Γ1 x = some t) (h3 : ev fs (if t then b else c) Γ1 = some (z, Γ2)) : ev fs (.ite a b c) Γ = some (z, Γ2) := by
  rw [DV.ev.eq_11]
  simp only [h1, Option.bind_some, h2]
  cases t <;> simpa using h3
theorem test_b (Γ : Ct) (b : Bool) : testD Γ (.fz (.bl b)) = some b := by simp only [testD, datum, Option.bind_some, truthD]
end
end DV

namespace DV
/-- the evaluation equations, as one fact -/
def SC := And.intro (And.intro (And.intro (And.intro (And.intro (And.intro (And.intro (@DV.runF.eq_1) (And.intro (@DV.exs.eq_1) (@DV.exs.eq_2))) (And.intro (And.intro (@DV.ex.eq_1) (@DV.ex.eq_2)) (And.intro (@DV.ex.eq_3) (@DV.ex.eq_4)))) (And.intro (And.intro (And.intro (@DV.ex.eq_5) (@DV.ex.eq_6)) (And.intro (@DV.ex.eq_7) (@DV.ex.eq_8))) (And.intro (And.intro (@DV.ex.eq_9) (@DV.ex.eq_10)) (And.intro (@DV.ex.eq_11) (@DV.ex.eq_12))))) (And.intro (And.intro (And.intro (@DV.ex.eq_13) (And.intro (@DV.ex.eq_14) (@DV.ex.eq_15))) (And.intro (And.intro (@DV.ex.eq_16) (@DV.ev.eq_1)) (And.intro (@DV.ev.eq_2) (@DV.ev.eq_3)))) (And.intro (And.intro (And.intro (@DV.ev.eq_4) (@DV.ev.eq_5)) (And.intro (@DV.ev.eq_6) (@DV.ev.eq_7))) (And.intro (And.intro (@DV.ev.eq_8) (@DV.ev.eq_9)) (And.intro (@DV.ev.eq_10) (@DV.ev.eq_11)))))) (And.intro (And.intro (And.intro (And.intro (@DV.ev.eq_12) (And.intro (@DV.ev.eq_13) (@DV.ev.eq_14))) (And.intro (And.intro (@DV.ev.eq_15) (@DV.ev.eq_16)) (And.intro (@DV.ev.eq_17) (@DV.ev.eq_18)))) (And.intro (And.intro (And.intro (@DV.evs.eq_1) (@DV.evs.eq_2)) (And.intro (@DV.evc.eq_1) (@DV.evc.eq_2))) (And.intro (And.intro (@DV.evn.eq_1) (@DV.evn.eq_2)) (And.intro (@DV.parS.eq_1) (@DV.parS.eq_2))))) (And.intro (And.intro (And.intro (And.intro (@DV.parS.eq_3) (@DV.datums.eq_1)) (And.intro (@DV.datums.eq_2) (@DV.datum.eq_1))) (And.intro (And.intro (@DV.datum.eq_2) (@DV.datum.eq_3)) (And.intro (@DV.fre.eq_1) (@DV.fre.eq_2)))) (And.intro (And.intro (And.intro (@DV.fre.eq_3) (@DV.fres.eq_1)) (And.intro (@DV.fres.eq_2) (@DV.argSs.eq_1))) (And.intro (And.intro (@DV.argSs.eq_2) (@DV.argS.eq_1)) (And.intro (@DV.argS.eq_2) (@DV.argS.eq_3))))))) (And.intro (And.intro (And.intro (And.intro (And.intro (@DV.nodupB.eq_1) (And.intro (@DV.nodupB.eq_2) (@DV.ownIx.eq_1))) (And.intro (And.intro (@DV.ownIx.eq_2) (@DV.ownIx.eq_3)) (And.intro (@DV.putOuts.eq_1) (@DV.putOuts.eq_2)))) (And.intro (And.intro (And.intro (@DV.putOuts.eq_3) (@DV.biD.eq_1)) (And.intro (@DV.biD.eq_2) (@DV.biD.eq_3))) (And.intro (And.intro (@DV.biD.eq_4) (@DV.biD.eq_5)) (And.intro (@DV.biD.eq_6) (@DV.biD.eq_7))))) (And.intro (And.intro (And.intro (And.intro (@DV.biD.eq_8) (@DV.biD.eq_9)) (And.intro (@DV.biD.eq_10) (@DV.biD.eq_11))) (And.intro (And.intro (@DV.biD.eq_12) (@DV.biD.eq_13)) (And.intro (@DV.biD.eq_14) (@DV.biD.eq_15)))) (And.intro (And.intro (And.intro (@DV.biD.eq_16) (@DV.biD.eq_17)) (And.intro (@DV.biD.eq_18) (@DV.biD.eq_19))) (And.intro (And.intro (@DV.isiD.eq_1) (@DV.isiD.eq_2)) (And.intro (@DV.isiD.eq_3) (@DV.isiD.eq_4)))))) (And.intro (And.intro (And.intro (And.intro (@DV.isiD.eq_5) (And.intro (@DV.isiD.eq_6) (@DV.isiD.eq_7))) (And.intro (And.intro (@DV.shallow.eq_1) (@DV.shallow.eq_2)) (And.intro (@DV.shallow.eq_3) (@DV.testD.eq_1)))) (And.intro (And.intro (And.intro (@DV.truthD.eq_1) (@DV.truthD.eq_2)) (And.intro (@DV.truthD.eq_3) (@DV.truthD.eq_4))) (And.intro (And.intro (@DV.truthD.eq_5) (@DV.truthD.eq_6)) (And.intro (@DV.truthD.eq_7) (@DV.truthD.eq_8))))) (And.intro (And.intro (And.intro (And.intro (@DV.finish.eq_1) (@DV.finish.eq_2)) (And.intro (@DV.finish.eq_3) (@DV.finish.eq_4))) (And.intro (And.intro (@DV.finish.eq_5) (@DV.outsOf.eq_1)) (And.intro (@DV.outsOf.eq_2) (@DV.outsOf.eq_3)))) (And.intro (And.intro (And.intro (@DV.ownPs.eq_1) (@DV.ownPs.eq_2)) (And.intro (@DV.ownPs.eq_3) (@DV.disjB.eq_1))) (And.intro (And.intro (@DV.isLst.eq_1) (@DV.appD.eq_1)) (And.intro (@DV.extD.eq_1) (@DV.setD.eq_1)))))))) (And.intro (And.intro (And.intro (And.intro (And.intro (And.intro (@DV.asgT.eq_1) (And.intro (@DV.asgT.eq_2) (@DV.asgT.asgTs.eq_1))) (And.intro (And.intro (@DV.asgT.asgTs.eq_2) (@DV.tgIx.eq_1)) (And.intro (@DV.tgIx.eq_2) (@DV.tgIx.tgIxs.eq_1)))) (And.intro (And.intro (And.intro (@DV.tgIx.tgIxs.eq_2) (@DV.iterD.eq_1)) (And.intro (@DV.iterD.eq_2) (@DV.iterD.eq_3))) (And.intro (And.intro (@DV.it_rng) (@DV.binD.eq_1)) (And.intro (@DV.binD.eq_2) (@DV.binD.eq_3))))) (And.intro (And.intro (And.intro (And.intro (@DV.binD.eq_4) (@DV.binD.eq_5)) (And.intro (@DV.binD.eq_6) (@DV.binD.eq_7))) (And.intro (And.intro (@DV.binD.eq_8) (@DV.binD.eq_9)) (And.intro (@DV.binD.eq_10) (@DV.cmpD.eq_3)))) (And.intro (And.intro (And.intro (@DV.cmpD.eq_4) (@DV.cmpD.eq_5)) (And.intro (@DV.cmpD.eq_6) (@DV.cmpD.eq_7))) (And.intro (And.intro (@DV.cmpD.eq_8) (@DV.cmpD.eq_9)) (And.intro (@DV.cmpD.eq_10) (@DV.cmpD.eq_11)))))) (And.intro (And.intro (And.intro (And.intro (@DV.cmpD.eq_12) (And.intro (@DV.isNonD.eq_1) (@DV.isNonD.eq_2))) (And.intro (And.intro (@DV.ixD.eq_1) (@DV.ixD.eq_2)) (And.intro (@DV.ixD.eq_3) (@DV.ixD.eq_4)))) (And.intro (And.intro (And.intro (@DV.slcD.eq_1) (@DV.slcD.eq_2)) (And.intro (@DV.slcD.eq_3) (@DV.slO.eq_1))) (And.intro (And.intro (@DV.slO.eq_2) (@DV.plainIx.eq_1)) (And.intro (@DV.wipeG.eq_1) (@DV.wipeG.eq_2))))) (And.intro (And.intro (And.intro (And.intro (@DV.restG.eq_1) (@DV.restG.eq_2)) (And.intro (@DV.flatD.eq_1) (@DV.flatD.eq_2))) (And.intro (And.intro (@DV.flatD.eq_3) (@DV.flatD.eq_4)) (And.intro (@DV.flatD.eq_5) (@DV.ex.eq_17)))) (And.intro (And.intro (And.intro (@DV.ev.eq_19) (@DV.ev.eq_20)) (And.intro (@DV.ev.eq_21) (@DV.ev.eq_22))) (And.intro (And.intro (@DV.ev.eq_23) (@DV.ev.eq_24)) (And.intro (@DV.ev.eq_25) (@DV.ev.eq_26))))))) (And.intro (And.intro (And.intro (And.intro (And.intro (@DV.callD.eq_1) (And.intro (@DV.mkD.eq_1) (@DV.fldL.eq_1))) (And.intro (And.intro (@DV.fldL.eq_2) (@DV.fldD.eq_1)) (And.intro (@DV.fldD.eq_2) (@DV.isObj.eq_1)))) (And.intro (And.intro (And.intro (@DV.hasF.eq_1) (@DV.hasF.eq_2)) (And.intro (@DV.postO.eq_1) (@DV.postO.eq_2))) (And.intro (And.intro (@DV.postO.eq_3) (@DV.postO.eq_4)) (And.intro (@DV.postO.eq_5) (@DV.postO.eq_6))))) (And.intro (And.intro (And.intro (And.intro (@DV.plainO.eq_1) (@DV.plainO.eq_2)) (And.intro (@DV.plainO.eq_3) (@DV.plainO.eq_4))) (And.intro (And.intro (@DV.plainO.eq_5) (@DV.plainO.eq_6)) (And.intro (@DV.so_eq) (@DV.so_ne)))) (And.intro (And.intro (And.intro (@DV.so_in) (@DV.so_ni)) (And.intro (@DV.so_ix) (@DV.so_ad))) (And.intro (And.intro (@DV.oo_eq) (@DV.oo_ne)) (And.intro (@DV.oo_in) (@DV.oo_ni)))))) (And.intro (And.intro (And.intro (And.intro (@DV.oo_ix) (And.intro (@DV.oo_ad) (@DV.pb_non))) (And.intro (And.intro (@DV.pb_int) (@DV.pb_bl)) (And.intro (@DV.pb_str) (@DV.pb_lst)))) (And.intro (And.intro (And.intro (@DV.pb_tup) (@DV.ic_non)) (And.intro (@DV.ic_int) (@DV.ic_bl))) (And.intro (And.intro (@DV.ic_str) (@DV.ic_lst)) (And.intro (@DV.ic_tup) (@DV.io_non))))) (And.intro (And.intro (And.intro (And.intro (@DV.io_int) (@DV.io_bl)) (And.intro (@DV.io_str) (@DV.io_lst))) (And.intro (And.intro (@DV.io_tup) (@DV.putL.eq_1)) (And.intro (@DV.putL.eq_2) (@DV.putD.eq_1)))) (And.intro (And.intro (And.intro (@DV.putD.eq_2) (@DV.iscD.eq_1)) (And.intro (@DV.iscD.eq_2) (@DV.plainB.eq_1))) (And.intro (And.intro (@DV.plainB.eq_2) (@DV.permL.eq_1)) (And.intro (@DV.permOk.eq_1) (@DV.dfl.eq_1))))))))
/-- those of == -/
def SE := And.intro (And.intro (And.intro (And.intro (@DV.cmpD.eq_1) (@DV.cmpD.eq_2)) (And.intro (@DV.okB.eq_1) (@DV.okB.eq_2))) (And.intro (And.intro (@DV.okB.eq_3) (@DV.okB.eq_4)) (And.intro (@DV.okB.eq_5) (And.intro (@DV.okB.eq_6) (@DV.eqd.eq_1))))) (And.intro (And.intro (And.intro (@DV.eqd.eq_2) (@DV.eqd.eq_3)) (And.intro (@DV.eqd.eq_4) (And.intro (@DV.eqd.eq_5) (@DV.eqd.eq_6)))) (And.intro (And.intro (@DV.eqd.eq_7) (@DV.eqd.eq_8)) (And.intro (@DV.eqds.eq_1) (And.intro (@DV.eqds.eq_2) (@DV.eqds.eq_3)))))
end DV

namespace DV
open PySem L2
/-! ### what is pinned matters only where it is stored -/
mutual
def asgOf : S → List Nat
  | .asg tg _ => tgIx tg
  | .asgO i _ => [i]
  | .par is _ => is.map (·.1)
  | .ite _ a b => asgOfs a ++ asgOfs b
  | .whl _ b => asgOfs b
  | .for_ tg _ _ b => tgIx tg ++ asgOfs b
  | .grow _ _ _ _ tg _ _ _ _ => tgIx tg
  | _ => []
def asgOfs : List S → List Nat
  | [] => []
  | s :: ss => asgOf s ++ asgOfs ss
end
theorem disjB_app {a b c : List Nat} (h : disjB (a ++ b) c = true) : disjB a c = true ∧ disjB b c = true := by
  simp only [disjB, List.all_append, Bool.and_eq_true] at h
  exact h
theorem forLoop_imp {tg : Tg} {f g : Ct → Option Out} (h : ∀ Γ o, f Γ = some o → g Γ = some o) : ∀ (ds : List D) (Γ : Ct) (o : Out), forLoop tg f ds Γ = some o → forLoop tg g ds Γ = some o
  | [], Γ, o, e => e
  | d :: ds, Γ, o, e => by
    simp only [forLoop] at e ⊢
    obtain ⟨Γ1, e1, e⟩ := Option.bind_eq_some_iff.mp e
    obtain ⟨o1, e2, e⟩ := Option.bind_eq_some_iff.mp e
    rw [e1]
    simp only [Option.bind_some]
    rw [h Γ1 o1 e2]
    simp only [Option.bind_some]
    cases o1 with
    | nx Γ2 => exact forLoop_imp h ds Γ2 o e
    | ct Γ2 => exact forLoop_imp h ds Γ2 o e
    | bk Γ2 => exact e
    | rt r Γ2 => exact e
theorem whlLoop_imp {c : Ct → Option (Bool × Ct)} {f g : Ct → Option Out} (h : ∀ Γ o, f Γ = some o → g Γ = some o) : ∀ (n : Nat) (Γ : Ct) (o : Out), whlLoop c f n Γ = some o → whlLoop c g n Γ = some o
  | 0, Γ, o, e => e
  | n + 1, Γ, o, e => by
    simp only [whlLoop] at e ⊢
    obtain ⟨⟨b, Γ1⟩, e1, e⟩ := Option.bind_eq_some_iff.mp e
    rw [e1]
    simp only [Option.bind_some] at e ⊢
    cases b with
    | false => exact e
    | true =>
      simp only [if_true] at e ⊢
      obtain ⟨o1, e2, e⟩ := Option.bind_eq_some_iff.mp e
      rw [h Γ1 o1 e2]
      simp only [Option.bind_some]
      cases o1 with
      | nx Γ2 => exact whlLoop_imp h n Γ2 o e
      | ct Γ2 => exact whlLoop_imp h n Γ2 o e
      | bk Γ2 => exact e
      | rt r Γ2 => exact e
mutual
theorem ex_pn {fs : List FS} {pn pn' : List Nat} : ∀ (s : S), disjB (asgOf s) pn' = true → ∀ (Γ : Ct) (o : Out), ex fs pn s Γ = some o → ex fs pn' s Γ = some o
  | .stuck, _, Γ, o, e => by simp only [ex, reduceCtorEq] at e
  | .pass, _, Γ, o, e => e
  | .brk, _, Γ, o, e => e
  | .cont, _, Γ, o, e => e
  | .retN, _, Γ, o, e => e
  | .asg tg a, h, Γ, o, e => by
    simp only [asgOf] at h
    simp only [ex] at e ⊢
    obtain ⟨⟨x, Γ1⟩, e1, e⟩ := Option.bind_eq_some_iff.mp e
    obtain ⟨⟨d, Γ2⟩, e2, e⟩ := Option.bind_eq_some_iff.mp e
    simp only [Option.ite_none_right_eq_some] at e
    simp only [e1, Option.bind_some, e2, h, if_true]
    exact e.2
  | .asgO i a, h, Γ, o, e => by
    simp only [asgOf] at h
    simp only [ex] at e ⊢
    obtain ⟨⟨x, Γ1⟩, e1, e⟩ := Option.bind_eq_some_iff.mp e
    simp only [e1, Option.bind_some]
    simp only at e
    cases x with
    | nw d =>
      simp only [Option.ite_none_right_eq_some] at e ⊢
      exact ⟨⟨e.1.1, h⟩, e.2⟩
    | fz d =>
      simp only at e ⊢
      obtain ⟨⟨d, Γ2⟩, e2, e⟩ := Option.bind_eq_some_iff.mp e
      simp only [e2, Option.bind_some, Option.ite_none_right_eq_some] at e ⊢
      exact ⟨⟨e.1.1, h⟩, e.2⟩
    | sl j =>
      simp only at e ⊢
      obtain ⟨⟨d, Γ2⟩, e2, e⟩ := Option.bind_eq_some_iff.mp e
      simp only [e2, Option.bind_some, Option.ite_none_right_eq_some] at e ⊢
      exact ⟨⟨e.1.1, h⟩, e.2⟩
  | .par is es, h, Γ, o, e => by
    simp only [asgOf] at h
    simp only [ex, Option.ite_none_right_eq_some] at e ⊢
    exact ⟨h, e.2⟩
  | .expr a, _, Γ, o, e => e
  | .app i a, _, Γ, o, e => e
  | .ext i a, _, Γ, o, e => e
  | .seti i k a, _, Γ, o, e => e
  | .ret a, _, Γ, o, e => e
  | .ite c a b, h, Γ, o, e => by
    simp only [asgOf] at h
    obtain ⟨h1, h2⟩ := disjB_app h
    simp only [ex] at e ⊢
    obtain ⟨⟨x, Γ1⟩, e1, e⟩ := Option.bind_eq_some_iff.mp e
    obtain ⟨t, e2, e⟩ := Option.bind_eq_some_iff.mp e
    simp only [e1, Option.bind_some, e2]
    simp only at e
    cases t with
    | true => exact exs_pn a h1 _ _ e
    | false => exact exs_pn b h2 _ _ e
  | .whl c b, h, Γ, o, e => by
    simp only [asgOf] at h
    simp only [ex] at e ⊢
    exact whlLoop_imp (fun Γ o => exs_pn b h Γ o) _ _ _ e
  | .for_ tg ik its b, h, Γ, o, e => by
    simp only [asgOf] at h
    obtain ⟨h1, h2⟩ := disjB_app h
    simp only [ex] at e ⊢
    obtain ⟨⟨xs, Γ1⟩, e1, e⟩ := Option.bind_eq_some_iff.mp e
    obtain ⟨⟨ds, Γ2⟩, e2, e⟩ := Option.bind_eq_some_iff.mp e
    simp only [Option.ite_none_right_eq_some] at e
    simp only [e1, Option.bind_some, e2, h1, if_true]
    exact forLoop_imp (fun Γ o => exs_pn b h2 Γ o) _ _ _ e.2
  | .setf c i nm a, _, Γ, o, e => e
  | .xapp a d, _, Γ, o, e => e
  | .grow c i nm e0 tg e1 e2 k a, h, Γ, o, e => by
    simp only [asgOf] at h
    simp only [ex] at e ⊢
    obtain ⟨⟨x, Γ1⟩, q1, e⟩ := Option.bind_eq_some_iff.mp e
    rw [q1]
    simp only [Option.bind_some] at e ⊢
    split at e
    · rename_i L0 c1 ks ds z
      simp only [Option.ite_none_right_eq_some] at e ⊢
      refine ⟨⟨e.1.1, e.1.2.1, e.1.2.2.1, e.1.2.2.2.1, ?_⟩, e.2⟩
      have h2 := e.1.2.2.2.2
      simp only [disjB, List.all_eq_true] at h h2 ⊢
      intro y hy
      have q2 := h y hy
      have q3 := h2 y hy
      simp only [List.contains_cons, Bool.not_or, Bool.and_eq_true] at q3 ⊢
      exact ⟨q3.1, q2⟩
    · cases e
theorem exs_pn {fs : List FS} {pn pn' : List Nat} : ∀ (ss : List S), disjB (asgOfs ss) pn' = true → ∀ (Γ : Ct) (o : Out), exs fs pn ss Γ = some o → exs fs pn' ss Γ = some o
  | [], _, Γ, o, e => e
  | s :: ss, h, Γ, o, e => by
    simp only [asgOfs] at h
    obtain ⟨h1, h2⟩ := disjB_app h
    simp only [exs] at e ⊢
    obtain ⟨o1, e1, e⟩ := Option.bind_eq_some_iff.mp e
    rw [ex_pn s h1 Γ o1 e1]
    simp only [Option.bind_some]
    cases o1 with
    | nx Γ1 => exact exs_pn ss h2 Γ1 o e
    | ct Γ2 => exact e
    | bk Γ2 => exact e
    | rt r Γ2 => exact e
end
theorem exs_app {fs : List FS} {pn : List Nat} : ∀ {l1 l2 : List S} {Γ Γ1 : Ct}, exs fs pn l1 Γ = some (.nx Γ1) → exs fs pn (l1 ++ l2) Γ = exs fs pn l2 Γ1
  | [], l2, Γ, Γ1, h => by simp only [DV.exs.eq_1, Option.some.injEq, Out.nx.injEq] at h; rw [h]; rfl
  | s :: l1, l2, Γ, Γ1, h => by
    rw [List.cons_append]
    simp only [DV.exs.eq_2] at h ⊢
    obtain ⟨o, e1, h⟩ := Option.bind_eq_some_iff.mp h
    rw [e1]
    cases o with
    | nx Γ2 => exact exs_app h
    | bk _ => cases h
    | ct _ => cases h
    | rt _ _ => cases h
/-- a def, whatever of its arguments is owned -/
theorem runF_pn {fs : List FS} {np n : Nat} {body : List S} {G0 : Ct} {o : Out} {r : RV × Ct} {pn : List Nat} (hl : G0.length = np) (hd : disjB (asgOfs body) (ownPs 0 G0) = true) (e : exs fs pn body (G0 ++ List.replicate (n - np) none) = some o) (f : DV.finish np G0 o = some r) : runF fs np n body G0 = some r :=
  runF_by hl (exs_pn body hd _ _ e) f
end DV

namespace DV
open PySem L2 PySem.Spec
/-! ### a op b op c op d -/
section
open PyProof.Rows
variable {X : Cx} {a b c d : Expr} {ta tb tc td : TE} {pos : Pos}
def tChain3 (r r' r'' : R2) (ta tb tc td : TE) : TE := fun σ H Q => ta σ H fun x H1 => tb σ H1 fun y H2 => r x y H2 fun z H3 => ∃ k, z = .bl k ∧
  (if k = true then tc σ H3 fun w' H4 => r' y w' H4 fun z' H5 => ∃ k', z' = .bl k' ∧ (if k' = true then td σ H5 fun u H6 => r'' w' u H6 Q else Q (.bl false) H5) else Q (.bl false) H3)
theorem pe_chain3 {op op' op'' : CmpOp} {r r' r'' : R2} (ho : OpR X (compareOp op) r) (ho' : OpR X (compareOp op') r') (ho'' : OpR X (compareOp op'') r'') (ha : PE X a ta) (hb : PE X b tb) (hc : PE X c tc) (hd : PE X d td)
    (hm : lastMarks [op, op', op''] [b, c, d] = false) : PE X (.Compare a [op, op', op''] [b, c, d] pos) (tChain3 r r' r'' ta tb tc td) := by
  refine ⟨fun pins s σ H Q I h => ?_⟩
  refine Compare_chain (thn (ha.run pins s σ H _ I h) fun v s1 ⟨x, H1, I1, r1, q1⟩ => chain_link (thn (hb.run pins s1 σ H1 _ I1 q1) fun u s2 ⟨y, H2, I2, r2, q2⟩ =>
    thn (ho pins s2 σ H2 x y v u _ I2 r1 r2 q2) fun d s3 ⟨z, H3, I3, r3, k, e, q3⟩ => ?_)) hm
  subst e
  cases r3
  refine wpAny_truthy_bool ?_
  cases k with
  | false => exact ite_ff ⟨.bl false, H3, I3, rfl, q3⟩
  | true =>
    refine ite_tt (chain_link (thn (hc.run pins s3 σ H3 _ I3 q3) fun w' s4 ⟨z', H4, I4, r4, q4⟩ => thn (ho' pins s4 σ H4 y z' u w' _ I4 r2 r4 q4) fun d' s5 ⟨z2, H5, I5, r5, k2, e2, q5⟩ => ?_))
    subst e2
    cases r5
    refine wpAny_truthy_bool ?_
    cases k2 with
    | false => exact ite_ff ⟨.bl false, H5, I5, rfl, q5⟩
    | true => exact ite_tt (chain_last (thn (hd.run pins s5 σ H5 _ I5 q5) fun w3 s6 ⟨z3, H6, I6, r6, q6⟩ => ho'' pins s6 σ H6 z' z3 w' w3 Q I6 r4 r6 q6))
end
section
variable {X : Cx} {g : Gx} {fs : List FS} {a b c d : Expr} {ia ib ic id' : E} {pos : Pos} {Bn : Addr → Prop} {Ow : List Addr} {H : Hp} {σ : St} {Γ Γ' : Ct}
theorem chain3_core {o1 o2 o3 : COp} {Q : VK} (rs : RS g Bn Ow H σ Γ) {r : RV} (he : ev fs (.chain3 o1 o2 o3 ia ib ic id') Γ = some (r, Γ')) (hQ : ∀ v H' Ow' (k : Bool), Stp Ow H Ow' H' → RS g Bn Ow' H' σ Γ' → v = .bl k → r = .fz (.bl k) → Q v H') :
    tChain3 (rCmp g o1) (rCmp g o2) (rCmp g o3) (tR g fs ia) (tR g fs ib) (tR g fs ic) (tR g fs id') σ H Q := by
  simp only [ev] at he
  obtain ⟨⟨x, Γ1⟩, e1, he⟩ := Option.bind_eq_some_iff.mp he
  obtain ⟨⟨y, Γ2⟩, e2, he⟩ := Option.bind_eq_some_iff.mp he
  obtain ⟨d, ed, he⟩ := Option.bind_eq_some_iff.mp he
  obtain ⟨e, ee, he⟩ := Option.bind_eq_some_iff.mp he
  obtain ⟨k, hb, he⟩ := Option.bind_eq_some_iff.mp he
  rw [← datum_dn] at ed ee
  refine tR_two rs e1 e2 fun v w H2 O2 s2 r2 v2 w2 => ⟨Av Bn O2, d, e, k, v2.rdb r2 ed, w2.rdb r2 ee, hb, k, rfl, ?_⟩
  cases k with
  | false =>
    simp only [Bool.false_eq_true, if_false, Option.some.injEq, Prod.mk.injEq] at he ⊢
    obtain ⟨rfl, rfl⟩ := he
    exact hQ _ H2 O2 false s2 r2 rfl rfl
  | true =>
    simp only [if_true] at he ⊢
    obtain ⟨⟨z, Γ3⟩, e3, he⟩ := Option.bind_eq_some_iff.mp he
    obtain ⟨e', ee', he⟩ := Option.bind_eq_some_iff.mp he
    obtain ⟨f, ef, he⟩ := Option.bind_eq_some_iff.mp he
    obtain ⟨k', hb', he⟩ := Option.bind_eq_some_iff.mp he
    rw [← datum_dn] at ee' ef
    refine tR_one r2 e3 fun u H3 O3 s3 r3 u3 => ⟨Av Bn O3, e', f, k', (w2.step s3 r3).rdb r3 ee', u3.rdb r3 ef, hb', k', rfl, ?_⟩
    cases k' with
    | false =>
      simp only [Bool.false_eq_true, if_false, Option.some.injEq, Prod.mk.injEq] at he ⊢
      obtain ⟨rfl, rfl⟩ := he
      exact hQ _ H3 O3 false (s2.trans s3) r3 rfl rfl
    | true =>
      simp only [if_true] at he ⊢
      obtain ⟨⟨u4, Γ4⟩, e4, he⟩ := Option.bind_eq_some_iff.mp he
      obtain ⟨f', ef', he⟩ := Option.bind_eq_some_iff.mp he
      obtain ⟨h, eh, he⟩ := Option.bind_eq_some_iff.mp he
      obtain ⟨k4, hb4, he⟩ := Option.map_eq_some_iff.mp he
      simp only [Prod.mk.injEq] at he
      obtain ⟨rfl, rfl⟩ := he
      rw [← datum_dn] at ef' eh
      exact tR_one r3 e4 fun v5 H5 O5 s5 r5 v6 => ⟨Av Bn O5, f', h, k4, (u3.step s5 r5).rdb r5 ef', v6.rdb r5 eh, hb4, hQ _ H5 O5 k4 ((s2.trans s3).trans s5) r5 rfl rfl⟩
theorem p_chain3 {o1 o2 o3 : COp} (C : Cok g X) (ha : PE X a (tR g fs ia)) (hb : PE X b (tR g fs ib)) (hc : PE X c (tR g fs ic)) (hd : PE X d (tR g fs id')) (hm : lastMarks [cmpOf o1, cmpOf o2, cmpOf o3] [b, c, d] = false) :
    PE X (.Compare a [cmpOf o1, cmpOf o2, cmpOf o3] [b, c, d] pos) (tR g fs (.chain3 o1 o2 o3 ia ib ic id')) := by
  refine PE.weak (pe_chain3 (op_cmp C.K C.hu o1) (op_cmp C.K C.hu o2) (op_cmp C.K C.hu o3) ha hb hc hd hm) ?_
  rintro σ H Q ⟨Bn, Ow, Γ, r, Γ', rs, he, hQ⟩
  exact chain3_core rs he fun v H1 O1 k s1 r1 e1 e2 => hQ v H1 O1 s1 r1 (by subst e1 e2; simp only [Val, Rep])
/-! ### xs[::-1] -/
theorem p_rev {k : Nat} {p1 p2 p3 : Pos} (C : Cok g X) (ha : PE X a (tR g fs ia)) : PE X (.Subscript a (.Slice none none (some (.UnaryOp .USub (.Constant (.int 1) k p1) p2)) p3) pos) (tR g fs (.rev ia)) := by
  refine PE.weak (PE.kf (pe_revL ha)) ?_
  rintro σ H Q ⟨Bn, Ow, Γ, r, Γ', rs, he, hQ⟩
  simp only [ev] at he
  obtain ⟨⟨x, Γ1⟩, e1, he⟩ := Option.bind_eq_some_iff.mp he
  obtain ⟨d, e2, he⟩ := Option.bind_eq_some_iff.mp he
  obtain ⟨d', e3, he⟩ := Option.map_eq_some_iff.mp he
  simp only [Prod.mk.injEq] at he
  obtain ⟨rfl, rfl⟩ := he
  refine ⟨Bn, Ow, Γ, x, Γ1, rs, e1, fun v H1 O1 s1 r1 v1 => ?_⟩
  have rd := v1.rdb r1 e2
  cases d <;> simp only [revD, reduceCtorEq, Option.some.injEq] at e3
  rename_i xs
  subst e3
  obtain ⟨p, vs, rfl, hp, rp⟩ := rd
  rw [C.K]
  refine ⟨p, vs, rfl, .inl (.inl hp), fun q hq kf => ?_⟩
  have sm : Same H1 (upd H1 q (.lst vs.reverse)) := same_new hq
  obtain ⟨O2, s2, r2, v2⟩ := Res.val (r := .nw (.lst xs.reverse)) r1 sm (new_lst hq (kf_new kf upd_same) rp.rev)
  exact hQ _ _ O2 (s1.trans s2) r2 v2
end
end DV

namespace DV
open PySem L2 PySem.Spec
/-! ### sorted pairs of ints -/
theorem insP_perm (p : Int × Int) : ∀ l, (insP p l).Perm (p :: l)
  | [] => .refl _
  | q :: r => by
    unfold insP
    split
    · exact .refl _
    · exact ((insP_perm p r).cons q).trans (.swap p q r)
theorem sortP_perm : ∀ l, (sortP l).Perm l
  | [] => .refl _
  | p :: r => (insP_perm p _).trans ((sortP_perm r).cons p)
theorem pLe_total (p q : Int × Int) (h : pLe p q = false) : pLe q p = true := by
  unfold pLe at *
  simp only [decide_eq_false_iff_not, decide_eq_true_eq] at *
  omega
theorem pLe_trans {p q r : Int × Int} (h1 : pLe p q = true) (h2 : pLe q r = true) : pLe p r = true := by
  unfold pLe at *
  simp only [decide_eq_true_eq] at *
  omega
theorem insP_sorted {p : Int × Int} : ∀ {l}, l.Pairwise (fun a b => pLe a b = true) → (insP p l).Pairwise (fun a b => pLe a b = true)
  | [], _ => by simp [insP]
  | q :: r, h => by
    obtain ⟨h1, h2⟩ := List.pairwise_cons.mp h
    unfold insP
    split
    · rename_i c
      refine List.pairwise_cons.mpr ⟨fun x m => ?_, h⟩
      rcases List.mem_cons.mp m with rfl | m
      · exact c
      · exact pLe_trans c (h1 x m)
    · rename_i c
      have c' := pLe_total p q (by simpa using c)
      refine List.pairwise_cons.mpr ⟨fun x m => ?_, insP_sorted h2⟩
      rcases List.mem_cons.mp ((insP_perm p r).mem_iff.mp m) with rfl | m
      · exact c'
      · exact h1 x m
theorem sortP_sorted : ∀ l, (sortP l).Pairwise (fun a b => pLe a b = true)
  | [] => by simp [sortP]
  | p :: r => insP_sorted (sortP_sorted r)
theorem sorted_uniq : ∀ {l m : List (Int × Int)}, l.Perm m → l.Pairwise (fun a b => pLe a b = true) → m.Pairwise (fun a b => pLe a b = true) → l = m
  | [], m, h, _, _ => h.symm.eq_nil.symm
  | x :: l, [], h, _, _ => absurd h.length_eq (by simp)
  | x :: l, y :: m, h, h1, h2 => by
    obtain ⟨a1, a2⟩ := List.pairwise_cons.mp h1
    obtain ⟨b1, b2⟩ := List.pairwise_cons.mp h2
    have e : x = y := by
      rcases List.mem_cons.mp (h.mem_iff.mp List.mem_cons_self) with e | m1
      · exact e
      · rcases List.mem_cons.mp (h.symm.mem_iff.mp List.mem_cons_self) with e | m2
        · exact e.symm
        · have q1 := b1 x m1
          have q2 := a1 y m2
          unfold pLe at q1 q2
          simp only [decide_eq_true_eq] at q1 q2
          exact Prod.ext (by omega) (by omega)
    subst e
    rw [sorted_uniq h.cons_inv a2 b2]
theorem pairs_reps {g : Gx} {A : Addr → Prop} {H : Hp} : ∀ {ds : List D} {vs : List V} {ps : List (Int × Int)}, Reps g A H ds vs → pairsD ds = some ps → Paired (fun p v => ∃ t, v = V.ref t ∧ ¬ A t ∧ SqT g.K H t [.int p.1, .int p.2]) ps vs
  | [], vs, ps, h, e => by
    simp only [pairsD, Option.some.injEq] at e
    simp only [Reps] at h
    subst e h
    exact .nil
  | d :: ds, vs, ps, h, e => by
    simp only [Reps] at h
    obtain ⟨v, r, rfl, h1, h2⟩ := h
    match d, e with
    | .tup [.int i, .int j], e =>
      simp only [pairsD] at e
      obtain ⟨ps', e1, rfl⟩ := Option.map_eq_some_iff.mp e
      simp only [Rep, Reps] at h1
      obtain ⟨a, ws, rfl, na, sq, w1, r1, rfl, rfl, w2, r2, rfl, rfl, rfl⟩ := h1
      exact .cons ⟨a, rfl, na, sq⟩ (pairs_reps h2 e1)
theorem paired_map {α β : Type} {R : α → β → Prop} {f : β → α} (h : ∀ p v, R p v → f v = p) : ∀ {ps : List α} {vs : List β}, Paired R ps vs → vs.map f = ps
  | _, _, .nil => rfl
  | _, _, .cons q r => by rw [List.map_cons, h _ _ q, paired_map h r]
theorem paired_mem {α β : Type} {R : α → β → Prop} : ∀ {ps : List α} {vs : List β}, Paired R ps vs → ∀ v ∈ vs, ∃ p, R p v
  | _, _, .nil, v, m => by cases m
  | p :: _, _, .cons q r, v, m => by
    rcases List.mem_cons.mp m with rfl | m
    · exact ⟨p, q⟩
    · exact paired_mem r v m
theorem paired_map' {α β : Type} {R : α → β → Prop} {f : β → α} : ∀ {ps : List α} {vs : List β}, Paired R ps vs → (∀ v ∈ vs, ∀ p, R p v → f v = p) → vs.map f = ps
  | _, _, .nil, _ => rfl
  | _, _, .cons q r, h => by rw [List.map_cons, h _ List.mem_cons_self _ q, paired_map' r fun v m => h v (List.mem_cons_of_mem _ m)]
theorem reps_pairs {g : Gx} {A : Addr → Prop} {H : Hp} (k : V → Int × Int) : ∀ {ys : List V}, (∀ y ∈ ys, ∃ t, y = V.ref t ∧ ¬ A t ∧ SqT g.K H t [.int (k y).1, .int (k y).2]) → Reps g A H ((ys.map k).map fun p => .tup [.int p.1, .int p.2]) ys
  | [], _ => by simp [Reps]
  | y :: ys, h => by
    obtain ⟨t, e, na, sq⟩ := h y List.mem_cons_self
    simp only [List.map_cons, Reps]
    refine ⟨y, ys, rfl, ?_, reps_pairs k fun z m => h z (List.mem_cons_of_mem _ m)⟩
    simp only [Rep, Reps]
    exact ⟨t, _, e, na, sq, _, _, rfl, rfl, _, _, rfl, rfl, rfl⟩
section
variable {X : Cx} {g : Gx}
open Classical in
theorem b_sortp (hK : X.K = g.K) : CallR X (.builtin "sorted") (rBi g .sortp) := by
  intro pins s σ H vs us Q I r h
  obtain ⟨A, ds, r0, hp, tr, hb, hQ⟩ := h
  match ds, hb with
  | [d], hb =>
    obtain ⟨v, rfl, q⟩ := paired1 hp
    simp only [biD] at hb
    obtain ⟨d', hb1, rfl⟩ := Option.map_eq_some_iff.mp hb
    obtain ⟨xs, rfl⟩ : ∃ xs, d = .lst xs := by
      cases d with
      | lst xs => exact ⟨xs, rfl⟩
      | _ => simp [sortD] at hb1
    simp only [sortD] at hb1
    obtain ⟨ps, e1, rfl⟩ := Option.map_eq_some_iff.mp hb1
    obtain ⟨a, ws, rfl, ha, rp⟩ := q
    have pr := pairs_reps rp e1
    rw [← hK] at pr
    have hs : SqL X.K H a ws := .inl (.inl ha)
    let k : V → Int × Int := fun w => if h : ∃ p : Int × Int, ∃ t, w = V.ref t ∧ ¬ A t ∧ SqT X.K H t [.int p.1, .int p.2] then h.choose else (0, 0)
    have hk : ∀ w ∈ ws, ∃ t, w = V.ref t ∧ ¬ A t ∧ SqT X.K H t [.int (k w).1, .int (k w).2] := by
      intro w hw
      have ex := paired_mem pr w hw
      have e : k w = ex.choose := dif_pos ex
      rw [e]
      exact ex.choose_spec
    have ek : ws.map k = ps := paired_map' pr fun w hw p ⟨t, e, _, sq⟩ => by
      obtain ⟨t', e', _, sq'⟩ := hk w hw
      rw [e] at e'; cases e'
      have := I.tuple_inj sq' sq
      simp only [List.cons.injEq, V.int.injEq, and_true] at this
      exact Prod.ext this.1 this.2
    obtain ⟨its, rv, hl, hz⟩ := I.list hs
    obtain ⟨u, rfl, ru⟩ := vals1 r
    obtain rfl : u = Value.ref a := ru
    obtain ⟨f1, f2⟩ := refs_back rv fun x m => by
      obtain ⟨t, e, _⟩ := hk x m
      exact ⟨t, e⟩
    refine SrtO.sorted_pairsO (k := fun u => k (backV u)) hl.isList (by rw [← rv.length]; exact hz) (fun v hv => ?_) fun h' d out h1 h2 kp hd hn => ?_
    · obtain ⟨t, rfl⟩ := f2 v hv
      have hm : V.ref t ∈ ws := by rw [f1]; exact List.mem_map.mpr ⟨_, hv, rfl⟩
      obtain ⟨t', e, _, ht⟩ := hk _ hm
      cases e
      obtain ⟨its2, r2, ⟨o, ho, hc, n, hd⟩, _⟩ := I.tuple ht
      obtain ⟨u1, u2, rfl, ri, rj⟩ := vals2 r2
      obtain ⟨t1, rfl⟩ := ri
      obtain ⟨t2, rfl⟩ := rj
      exact ⟨t, o, t1, t2, n, rfl, ho, hc, hd⟩
    · have h3 : ∀ u ∈ out, ∃ a, u = Value.ref a := fun u hu => f2 u (h2.perm.mem_iff.mp hu)
      obtain ⟨n, hn⟩ := hn
      have hb : SrtO.Stb (ltP k) (out.map backV) ws := by
        rw [f1]
        exact SrtO.Stb.map (ltP_swo k) backV h2
      have I' := I.laid (t' := s.toks) kp hd (o := .lst (out.map backV)) ⟨by rw [hb.len]; exact hz, out, n, vals_back h3, hn⟩
      have hsr : SrtO.Srtd (ltP k) (out.map backV) := SrtO.srtd_map h1
      have nd := I.hok.fresh hd
      refine ⟨.ref d, upd H d (.lst (out.map backV)), I', rfl, hQ _ _ (same_new nd) ?_⟩
      have kf : g.K.lookup d = none := by rw [← hK]; exact kf_new (Inv.kf I') upd_same
      have es : sortP ps = (out.map backV).map k := by
        refine sorted_uniq ((sortP_perm ps).trans (by rw [← ek]; exact (hb.perm.map k).symm)) (sortP_sorted ps) ?_
        rw [List.pairwise_map]
        refine hsr.imp fun {x y} h => ?_
        have := SrtO.lexB_no.mp h
        unfold pLe
        rw [decide_eq_true_eq]
        omega
      rw [es]
      refine new_lst nd kf (reps_pairs k fun y hy => ?_)
      rw [← hK]
      exact hk y (hb.perm.mem_iff.mp hy)
variable {fs : List FS} {e : Expr} {es : List Expr} {ies : List E} {p pos : Pos}
theorem k_sortp (C : Cok g X) (ha : PA X (e :: es) (tAs g fs ies)) (he : starEach (e :: es) X.env = (false, eval e X.env) :: starEach es X.env) (hpl : (backTo pos (starEach es X.env)).any (·.1) = false) (hm : X.mg "sorted" = none) (hg : Gl X "sorted") : PE X (.Call (.Name "sorted" p) (e :: es) [] pos) (tR g fs (.bi .sortp ies)) :=
  p_biB (b_sortp C.K) hg hm PyProof.Rows.boot_sorted ha (by decide) (by decide) he hpl
/-! ### X.append(constant), X new -/
theorem RS.updO {Bn : Addr → Prop} {Ow : List Addr} {H : Hp} {σ : St} {Γ : Ct} {p : Addr} {o : HO} (rs : RS g Bn Ow H σ Γ) (hp : p ∈ Ow) (no : ∀ (i : Nat) e, Γ[i]? = some (some (e, true)) → σ[i]? ≠ some (some (.ref p))) : RS g Bn Ow (upd H p o) σ Γ ∧ Stp Ow H Ow (upd H p o) := by
  have v := ban_vst (g := g) (H := H) (o := o) (A := Av Bn Ow) (p := p) (.inr hp)
  refine ⟨⟨rs.len, fun i d h => ?_, fun i d h => ?_, rs.dist, fun a h => ?_, rs.sep, rs.kf⟩, ⟨fun b x h n => ?_, fun _ h => .inl h, fun b h => ?_⟩⟩
  · obtain ⟨w, e, q⟩ := rs.slot i d h; exact ⟨w, e, rep_mono v _ _ q⟩
  · obtain ⟨a, e, m, q⟩ := rs.own i d h
    have ne : a ≠ p := fun z => by subst z; exact no i d h e
    refine ⟨a, e, m, ?_⟩
    cases d with
    | lst ds => obtain ⟨ws, z1, z2⟩ := q; exact ⟨ws, by rw [upd_ne ne]; exact z1, reps_mono v _ _ z2⟩
    | obj c ks ds => obtain ⟨dx, ws, l, z1, z2⟩ := q; exact ⟨dx, ws, l, by rw [upd_ne ne]; exact z1, reps_mono v _ _ z2⟩
    | _ => exact q
  · by_cases e : a = p
    · subst e; rw [upd_same]; simp
    · rw [upd_ne e]; exact rs.trk a h
  · have z : b ≠ p := fun z => n (by rw [z]; exact hp)
    rw [upd_ne z]; exact h
  · by_cases z : b = p
    · subst z; rw [upd_same]; simp
    · rw [upd_ne z]; exact h
theorem s_xapp {o e : Expr} {io : E} {d : D} {v : V} {apos cpos : Pos} (C : Cok g X) (ho : PE X o (tR g fs io)) (he : PE X e (tC v)) (hbase : attributeBase o "append" X.env (eval o X.env) = eval o X.env)
    (hline : (apos.endLine == cpos.line) = true) (hs : starEach [e] X.env = [(false, eval e X.env)]) (hsw : swapsWith (.Call (.Attribute o "append" apos) [e] [] cpos) none pos.line X.env = pure false) :
    PS X (.Expr (.Call (.Attribute o "append" apos) [e] [] cpos) pos) (tSt g fs (.xapp io d)) := by
  refine PS.weak (ps_expr (pe_bm PySem.F.plainAttrs_list PySem.F.slot_list_append PySem.F.type_list_append mt_append ho (pa_cons he pa_nil (by rw [hs]; rfl)) hbase (by rw [hs]; rfl) hline (by rw [hs]; rfl) rfl) hsw) ?_
  rintro Dn σ H ⟨pv, Bn, Ow, Γ, o, rs, pn, he, po⟩
  simp only [ex] at he
  obtain ⟨⟨x, Γ1⟩, e1, he⟩ := Option.bind_eq_some_iff.mp he
  match x, he, e1 with
  | .nw (.lst xs), he, e1 =>
    simp only [Option.ite_none_right_eq_some, Option.some.injEq] at he
    obtain ⟨⟨hz, hf⟩, rfl⟩ := he
    refine ⟨Bn, Ow, Γ, _, Γ1, rs, e1, fun w H1 O1 s1 r1 vl => ?_⟩
    obtain ⟨a, rfl, m, ⟨ws, ha, rp⟩, no⟩ := vl
    refine ⟨by rw [C.K]; exact .inl ⟨rfl, ws, .inl (.inl ha)⟩, ?_⟩
    obtain ⟨r2, s2⟩ := r1.updO (o := .lst (ws ++ [v])) m no
    exact ⟨a, ws, v, rfl, rfl, ha, by rw [← rp.len]; exact hz, po _ _ O1 (s1.trans s2) r2 pn⟩
end
/-! ### an empty dict, as a datum that says nothing -/
theorem p_dct {X : Cx} {g : Gx} {fs : List FS} {pos : Pos} : PE X (.Dict [] [] pos) (tR g fs .dct) := by
  refine PE.weak pe_dnewK ?_
  rintro σ H Q ⟨Bn, Ow, Γ, r, Γ', rs, he, hQ⟩
  simp only [ev, Option.some.injEq, Prod.mk.injEq] at he
  obtain ⟨rfl, rfl⟩ := he
  intro p hp
  have sm : Same H (upd H p (.dK [])) := same_new hp
  refine hQ _ _ Ow (.same sm) (rs.same sm) ?_
  simp only [Val, Rep]
  exact ⟨p, rfl, fun z => rs.trk p z hp, upd_same⟩
end DV

namespace DV
open PySem L2
/-! ### an argument that was only read comes back as it was handed over -/
mutual
/-- no list and no object inside -/
def noL : D → Bool
  | .lst _ => false
  | .obj _ _ _ => false
  | .scr _ => false
  | .dct => false
  | .tup ds => noLs ds
  | _ => true
def noLs : List D → Bool
  | [] => true
  | d :: ds => noL d && noLs ds
end
section
variable {g : Gx} {A : Addr → Prop} {H : Hp} {a : Addr} {ws : List V}
theorem sqT_ne {t : Addr} {vs : List V} (ha : H a = some (.lst ws)) (hk : g.K.lookup a = none) (h : SqT g.K H t vs) : t ≠ a := by
  intro z
  subst z
  rcases h with (h | ⟨o, h⟩) | ⟨o, _, _, h, _⟩
  · rw [ha] at h; cases h
  · rw [ha] at h; cases h
  · rw [hk] at h; cases h
mutual
theorem noL_rep (ha : H a = some (.lst ws)) (hk : g.K.lookup a = none) : ∀ (d : D) (v : V), noL d = true → Rep g A H d v → Rep g (fun x => A x ∨ x = a) H d v
  | .non, _, _, h => by simpa [Rep] using h
  | .bl _, _, _, h => by simpa [Rep] using h
  | .int _, _, _, h => by simpa [Rep] using h
  | .str _, _, _, h => by simpa [Rep] using h
  | .lst ds, v, n, h => by simp [noL] at n
  | .scr ns, v, n, h => by simp [noL] at n
  | .dct, v, n, h => by simp [noL] at n
  | .obj c ks ds, v, n, h => by simp [noL] at n
  | .tup ds, v, n, h => by
    simp only [Rep] at h ⊢
    simp only [noL] at n
    obtain ⟨t, vs, e, na, s, r⟩ := h
    exact ⟨t, vs, e, fun z => z.elim na (sqT_ne ha hk s), s, noLs_reps ha hk ds vs n r⟩
theorem noLs_reps (ha : H a = some (.lst ws)) (hk : g.K.lookup a = none) : ∀ (ds : List D) (vs : List V), noLs ds = true → Reps g A H ds vs → Reps g (fun x => A x ∨ x = a) H ds vs
  | [], _, _, h => by simpa [Reps] using h
  | d :: ds, _, n, h => by
    simp only [Reps] at h ⊢
    simp only [noLs, Bool.and_eq_true] at n
    obtain ⟨v, r, e, h1, h2⟩ := h
    exact ⟨v, r, e, noL_rep ha hk d v n.1 h1, noLs_reps ha hk ds r n.2 h2⟩
end
end
def resOk : RV → Bool
  | .fz d => noL d
  | .nw (.lst ds) => noLs ds
  | _ => false
/-- the other slots: owned ones hold lists of plain items and come back owned -/
def othOk (i : Nat) : Nat → Ct → Ct → Bool
  | _, [], [] => true
  | j, x :: xs, y :: ys => (match x, y with
    | some (_, true), some (.lst ds, true) => decide (j = i) || noLs ds
    | some (_, true), _ => decide (j = i)
    | some (_, false), some _ => true
    | _, _ => false) && othOk i (j + 1) xs ys
  | _, _, _ => false
def putBack (i : Nat) (ds : List D) : Nat → Ct → Ct → Ct
  | j, x :: xs, y :: ys => (if j = i then some (.lst ds, true) else match x with
    | some (_, true) => y
    | _ => x) :: putBack i ds (j + 1) xs ys
  | _, _, _ => []
def reown (i : Nat) (F : FS) : FS := fun G => (F G).bind fun (r, os) => match G[i]?, os[i]? with
  | some (some (_, true)), some (some (.lst ds, false)) => if resOk r && noLs ds && othOk i 0 G os then some (r, putBack i ds 0 G os) else some (r, os)
  | _, _ => some (r, os)
theorem putBack_get (i : Nat) (ds : List D) : ∀ {n j : Nat} {G os : Ct} {p : D × Bool}, othOk i n G os = true → (putBack i ds n G os)[j]? = some (some p) → (n + j = i ∧ p = (.lst ds, true)) ∨ (n + j ≠ i ∧ ((∃ c es, G[j]? = some (some (c, true)) ∧ os[j]? = some (some (.lst es, true)) ∧ noLs es = true ∧ p = (.lst es, true)) ∨ (∃ c, G[j]? = some (some (c, false)) ∧ p = (c, false))))
  | n, j, [], [], p, _, h => by simp [putBack] at h
  | n, j, [], y :: ys, p, q, h => by simp [othOk] at q
  | n, j, x :: xs, [], p, q, h => by simp [othOk] at q
  | n, 0, x :: xs, y :: ys, p, q, h => by
    simp only [putBack, List.getElem?_cons_zero, Option.some.injEq] at h
    by_cases e : n = i
    · rw [if_pos e] at h
      simp only [Option.some.injEq] at h
      exact .inl ⟨by omega, h.symm⟩
    · rw [if_neg e] at h
      simp only [othOk, Bool.and_eq_true] at q
      refine .inr ⟨by omega, ?_⟩
      match x, y, q.1, h with
      | some (c, true), some (.lst es, true), q1, h =>
        simp only [Bool.or_eq_true, decide_eq_true_eq] at q1
        simp only [Option.some.injEq] at h
        exact .inl ⟨c, es, rfl, rfl, q1.resolve_left e, h.symm⟩
      | some (c, false), some y', q1, h =>
        simp only [Option.some.injEq] at h
        exact .inr ⟨c, rfl, h.symm⟩
      | some (c, true), none, q1, h => simp at q1; exact absurd q1 e
      | some (c, true), some (.non, _), q1, h => simp at q1; exact absurd q1 e
      | some (c, true), some (.bl _, _), q1, h => simp at q1; exact absurd q1 e
      | some (c, true), some (.int _, _), q1, h => simp at q1; exact absurd q1 e
      | some (c, true), some (.str _, _), q1, h => simp at q1; exact absurd q1 e
      | some (c, true), some (.tup _, _), q1, h => simp at q1; exact absurd q1 e
      | some (c, true), some (.obj _ _ _, _), q1, h => simp at q1; exact absurd q1 e
      | some (c, true), some (.scr _, _), q1, h => simp at q1; exact absurd q1 e
      | some (c, true), some (.dct, _), q1, h => simp at q1; exact absurd q1 e
      | some (c, true), some (.lst _, false), q1, h => simp at q1; exact absurd q1 e
      | some (c, false), none, q1, h => simp at q1
      | none, _, q1, h => simp at q1
  | n, j + 1, x :: xs, y :: ys, p, q, h => by
    simp only [putBack, List.getElem?_cons_succ] at h
    simp only [othOk, Bool.and_eq_true] at q
    have := putBack_get i ds (n := n + 1) (j := j) q.2 h
    simp only [List.getElem?_cons_succ]
    rw [show n + (j + 1) = n + 1 + j by omega]
    exact this
theorem putBack_len (i : Nat) (ds : List D) : ∀ {n : Nat} {G os : Ct}, othOk i n G os = true → (putBack i ds n G os).length = G.length
  | n, [], [], _ => rfl
  | n, [], y :: ys, q => by simp [othOk] at q
  | n, x :: xs, [], q => by simp [othOk] at q
  | n, x :: xs, y :: ys, q => by
    simp only [othOk, Bool.and_eq_true] at q
    simp only [putBack, List.length_cons, putBack_len i ds q.2]
theorem spF_reown {g : Gx} {n i : Nat} {F : FS} {vs : List V} {H : Hp} {Q : VK} {E : XK} (h : spF g n (reown i F) vs H Q E) : spF g n F vs H Q E := by
  obtain ⟨hl, Bn, Ow, Γ, r, os, rs, ef, nr, hQ⟩ := h
  simp only [reown] at ef
  obtain ⟨⟨r1, os1⟩, e1, ef⟩ := Option.bind_eq_some_iff.mp ef
  have plain : some (r1, os1) = some (r, os) → spF g n F vs H Q E := fun z => by
    simp only [Option.some.injEq, Prod.mk.injEq] at z
    obtain ⟨rfl, rfl⟩ := z
    exact ⟨hl, Bn, Ow, Γ, _, _, rs, e1, nr, hQ⟩
  simp only at ef
  split at ef
  · rename_i c ds hG hO
    split at ef
    · rename_i cond
      simp only [Bool.and_eq_true] at cond
      obtain ⟨⟨c1, c2⟩, c3⟩ := cond
      simp only [Option.some.injEq, Prod.mk.injEq] at ef
      obtain ⟨rfl, rfl⟩ := ef
      refine ⟨hl, Bn, Ow, Γ, _, _, rs, e1, nr, fun v H' O' st ro vl => ?_⟩
      obtain ⟨a, ea, ma, _⟩ := rs.own i _ hG
      obtain ⟨v', ev', rp⟩ := ro.slot i _ hO
      rw [ea] at ev'
      cases ev'
      simp only [Rep] at rp
      obtain ⟨a', ws, e2, na, ha, rp⟩ := rp
      cases e2
      have hk : g.K.lookup a = none := rs.kf a (.inr ma)
      have naO : a ∉ O' := fun z => na (.inr z)
      have naB : ¬ Bn a := fun z => na (.inl z)
      have av : ∀ x, Av Bn (a :: O') x → Av Bn O' x ∨ x = a := fun x z => by
        rcases z with z | z
        · exact .inl (.inl z)
        · rcases List.mem_cons.mp z with z | z
          · exact .inr z
          · exact .inl (.inr z)
      have inner : ∀ {ds : List D} {us : List V}, noLs ds = true → Reps g (Av Bn O') H' ds us → Reps g (Av Bn (a :: O')) H' ds us := fun n r => reps_less av (noLs_reps ha hk _ _ n r)
      have stp : Stp Ow H (a :: O') H' := ⟨st.keep, fun x z => (List.mem_cons.mp z).elim (fun z => .inl (by rw [z]; exact ma)) (st.grow x), st.stay⟩
      have kf2 : ∀ x, x ∈ a :: O' → g.K.lookup x = none := fun x z => (List.mem_cons.mp z).elim (fun z => by rw [z]; exact hk) fun z => ro.kf x (.inr z)
      refine hQ v H' (a :: O') stp ⟨?_, fun j d h => ?_, fun j d h => ?_, fun j k d e x h1 h2 h3 h4 => ?_, fun x z => ?_, fun x z w => ?_, fun x z => ?_⟩ ?_
      · rw [putBack_len i ds c3]; exact rs.len
      · rcases putBack_get i ds c3 h with ⟨_, z⟩ | ⟨_, ⟨_, _, _, _, _, z⟩ | ⟨c', z1, z2⟩⟩
        · cases z
        · cases z
        · cases z2
          obtain ⟨w, e3, rp3⟩ := rs.slot j _ z1
          exact ⟨w, e3, rep_mono (step_vst stp kf2) _ _ rp3⟩
      · rcases putBack_get i ds c3 h with ⟨z0, z⟩ | ⟨z0, ⟨c', es, z1, z2, z3, z⟩ | ⟨c', z1, z2⟩⟩
        · cases z
          obtain rfl : j = i := by omega
          exact ⟨a, ea, List.mem_cons_self, ws, ha, inner c2 rp⟩
        · cases z
          obtain ⟨b, e3, m3, us, hb, rb⟩ := ro.own j _ z2
          exact ⟨b, e3, List.mem_cons_of_mem _ m3, us, hb, inner z3 rb⟩
        · cases z2
      · have one : ∀ {j : Nat} {d : D}, (putBack i ds 0 Γ os1)[j]? = some (some (d, true)) → (vs.map some)[j]? = some (some (.ref x)) → (j = i ∧ x = a) ∨ (x ∈ O' ∧ ∃ d', os1[j]? = some (some (d', true))) := fun {j d} h1 h3 => by
          rcases putBack_get i ds c3 h1 with ⟨z0, z⟩ | ⟨z0, ⟨c', es, z1, z2, z3, z⟩ | ⟨c', z1, z2⟩⟩
          · obtain rfl : j = i := by omega
            rw [ea] at h3; cases h3
            exact .inl ⟨rfl, rfl⟩
          · obtain ⟨b, e3, m3, _⟩ := ro.own j _ z2
            rw [h3] at e3; cases e3
            exact .inr ⟨m3, _, z2⟩
          · cases z2
        rcases one h1 h3 with ⟨q1, q2⟩ | ⟨q1, d1, q2⟩
        · rcases one h2 h4 with ⟨q3, q4⟩ | ⟨q3, d2, q4⟩
          · omega
          · rw [q2] at q3; exact absurd q3 naO
        · rcases one h2 h4 with ⟨q3, q4⟩ | ⟨q3, d2, q4⟩
          · rw [q4] at q1; exact absurd q1 naO
          · exact ro.dist j k _ _ x q2 q4 h3 h4
      · rcases z with z | z
        · exact ro.trk x (.inl z)
        · rcases List.mem_cons.mp z with z | z
          · rw [z, ha]; simp
          · exact ro.trk x (.inr z)
      · rcases List.mem_cons.mp w with w | w
        · rw [w] at z; exact naB z
        · exact ro.sep x z w
      · rcases z with z | z
        · exact ro.kf x (.inl z)
        · exact kf2 x z
      · match r1, c1, vl with
        | .fz d, c1, vl => exact rep_less av (noL_rep ha hk _ _ c1 vl)
        | .nw (.lst es), c1, vl =>
          obtain ⟨p, e3, m3, ⟨us, hb, rb⟩, no⟩ := vl
          refine ⟨p, e3, List.mem_cons_of_mem _ m3, ⟨us, hb, inner c1 rb⟩, fun j d h1 h2 => ?_⟩
          rcases putBack_get i ds c3 h1 with ⟨z0, z⟩ | ⟨z0, ⟨c', es', z1, z2, z3, z⟩ | ⟨c', z1, z2⟩⟩
          · obtain rfl : j = i := by omega
            rw [ea] at h2; cases h2
            exact naO m3
          · exact no j _ z2 h2
          · cases z2
    · exact plain ef
  · exact plain ef
theorem fnok_reown {P : Program} {w : World} {g : Gx} {mg : Str → Option Value} {base : Heap} {k n : Nat} {f : Addr} {fd : FuncData} {ps : List Str} {F : FS} (i : Nat) (h : FnOk P w g.K mg base CX0 k f fd ps (spF g n F)) : FnOk P w g.K mg base CX0 k f fd ps (spF g n (reown i F)) :=
  ⟨fun vs H Q E q => h.len vs H Q E (spF_reown q), fun A outer s H args us vs Q E hr he hb hv hs => h.run A outer s H args us vs Q E hr he hb hv (spF_reown hs)⟩
end DV

namespace DV
/-- further evaluation equations -/
def SX := And.intro (@DV.tupGt.eq_1) <| And.intro (@DV.cmpD.eq_13) <| And.intro (@DV.ev.eq_36) <| And.intro (@DV.ev.eq_35) <| And.intro (@DV.isLD.eq_1) <| And.intro (@DV.idxD.eq_1) <| And.intro (@DV.ev.eq_32) <| And.intro (@DV.ev.eq_33) <| And.intro (@DV.ev.eq_34) <| And.intro (@DV.mxdD.eq_1) <| And.intro (@DV.cntD.eq_1) <| And.intro (@DV.ev.eq_27) (And.intro (@DV.ev.eq_28) (And.intro (@DV.ev.eq_29) (And.intro (@DV.ev.eq_30) (And.intro (@DV.ev.eq_31) (And.intro (@DV.rnglD.eq_1) (And.intro (@DV.tupOf.eq_1) (And.intro (@DV.tneD.eq_1) (And.intro (@DV.tneD.eq_2) (And.intro (@DV.trueR.eq_1) (And.intro (@DV.ex.eq_18) (And.intro (@DV.revD.eq_1) (And.intro (@DV.biD.eq_20) (@DV.sortD.eq_1)))))))))))))
end DV

namespace DV
open PySem PySem.SeqAt
open AutoSeq1 (wpAny_loadPart')
open MeetsSeq MeetsSeq2 MeetsSeq3 SeqRoads2
section
variable {prog : Program} {w : World} {A : Around} {R : Result → Shared → Prop}
/-- != of two tuples whose items are equal, one by one -/
theorem tuple_neG (l b : Addr) (items items2 : Array Value) (n n2 : Nat) (dd dd2 : Option Addr) (sl sl2 : Array (Option Value)) (hsz : items.size = items2.size) (I : Nat → Shared → Prop)
    (turn : ∀ i (h1 : i < items.size) (h2 : i < items2.size) s, I i s → wpAny (model prog w) A.in1 (eqBool items[i] items2[i]) (fun r s' => r = true ∧ I (i + 1) s') (fun e s' => R (.error e) s') s)
    (fin : ∀ s, I items.size s → R (.ok (.ret (.bool false))) s) {s : Shared} (hl1 : s.heap.get? l = some { cls := .type "tuple", dict := dd, data := .seq items n, slots := sl }) (hb1 : s.heap.get? b = some { cls := .type "tuple", dict := dd2, data := .seq items2 n2, slots := sl2 }) (h : I 0 s) :
    wpAny (model prog w) A.in1 (Builtin.«tuple.__ne__» ⟨[.ref l, .ref b], []⟩) (GQ.FinOf prog w A R) (fun e s' => R (.error e) s') s := by
  have f2 := AutoSeq1.sub_tuple_tuple
  have hZ : (items.toList.zip items2.toList).length = items.size := by simp [hsz]
  have h0 := h
  obtain ⟨hp, g, d, tk, os⟩ := s
  wp_walk using wpAny_loadPart' hl1, wpAny_loadPart' hb1, wpAny_forIn_list _ (fun rest b s' => b.1 = none ∧ ∃ i, rest = (items.toList.zip items2.toList).drop i ∧ i ≤ items.size ∧ I i s') _
  case turn =>
    rintro ⟨y, x⟩ rest b s' ⟨hb', i, hz, hi, hI⟩
    have hlt : i < (items.toList.zip items2.toList).length := by
      rcases Nat.lt_or_ge i (items.toList.zip items2.toList).length with h' | h'
      · exact h'
      · rw [List.drop_of_length_le h'] at hz; cases hz
    have h1 : i < items.size := hZ ▸ hlt
    have h2 : i < items2.size := hsz ▸ h1
    rw [List.drop_eq_getElem_cons hlt] at hz
    injection hz with hyx hrest
    have hy : y = items[i] := by have := congrArg Prod.fst hyx; simpa using this
    have hx : x = items2[i] := by have := congrArg Prod.snd hyx; simpa using this
    subst hy hx
    refine wpAny_bind (wpAny_mono (turn i h1 h2 s' hI) (fun r s2 q2 => ?_) fun _ _ x => x)
    obtain ⟨hr, q2⟩ := q2
    subst hr
    wp_walk
    exact ⟨rfl, i + 1, hrest, h1, q2⟩
  case fin =>
    rintro ⟨b1, b2⟩ s' ⟨hb', i, hz, hi, hI⟩
    simp only at hb'
    subst hb'
    have hge : items.size ≤ i := by
      rcases Nat.lt_or_ge i (items.toList.zip items2.toList).length with h' | h'
      · rw [List.drop_eq_getElem_cons h'] at hz; cases hz
      · exact hZ ▸ h'
    have hi' : i = items.size := by omega
    have hR : R (.ok (.ret (.bool false))) s' := fin s' (hi' ▸ hI)
    wp_walk
    simpa [Builtin.Tuple.tupleCompareSizes, hsz] using hR
  case h =>
    exact ⟨rfl, 0, rfl, Nat.zero_le _, h0⟩
end
section
variable {prog : Program} {w : World} {A : Around} {E : Value → Shared → Prop} {s : Shared}
theorem rc_netupG {l b : Addr} {items items2 : Array Value} {Q : Value → Shared → Prop} (hsz : items.size = items2.size) (hu : A.units < cLine) (I : Nat → Shared → Prop)
    (hl : s.heap.IsTuple l items) (hb : s.heap.IsTuple b items2)
    (turn : ∀ i (h1 : i < items.size) (h2 : i < items2.size) s, I i s → wpAny (model prog w) A.in1 (eqBool items[i] items2[i]) (fun r s' => r = true ∧ I (i + 1) s') E s)
    (fin : ∀ s, I items.size s → Q (.bool false) s) (h : I 0 s) : wpAny (model prog w) A (richCompare .NotEq (.ref l) (.ref b)) Q E s := by
  obtain ⟨⟨cls, dd, data, sl⟩, ho, hc, n, hd⟩ := id hl
  obtain ⟨⟨cls2, dd2, data2, sl2⟩, ho2, hc2, n2, hd2⟩ := id hb
  simp only at hc hd hc2 hd2
  subst hc hd hc2 hd2
  refine wpAny_richCompare_same_room (op := .NotEq) ⟨_, ho, rfl⟩ ⟨_, ho2, rfl⟩ F.slot_tuple_ne (GQ.call_here F.slot_tuple_ne ⟨_, ho, rfl⟩ F.entry_tuple_ne (F.args_tuple_ne_2 _ _) ?_) hu
  exact tuple_neG (R := wants (fun v s' => v ≠ .notImplemented ∧ Q v s') E) l b items items2 n n2 dd dd2 sl sl2 hsz I turn (fun s' q => ⟨(fun x => nomatch x), fin s' q⟩) ho ho2 h
end
open L2 PySem.Spec PyProof.Rows
section
variable {X : Cx} {n : Nat} {D : Eqv}
/-- x != y for tuples of equal items -/
def rNeG (D : Eqv) : R2 := fun x y H Q => D x y H ∧ ∀ H', Ext H H' → Q (.bl false) H'
theorem op_netupG (hD : Mon D) (h : EqG X n D) (hr : Room (n + 1) X.A) : OpR X (compareOp .NotEq) (rNeG (DTup X.K D)) := by
  intro pins s σ H x y u v Q I rx ry hq
  obtain ⟨⟨a, b, xs, ys, rfl, rfl, ha, hb, p⟩, q⟩ := hq
  cases rx
  cases ry
  obtain ⟨its, r, e, z⟩ := I.tuple ha
  obtain ⟨its2, r2, e2, z2⟩ := I.tuple hb
  have hsz : its.toArray.size = its2.toArray.size := by rw [List.size_toArray, List.size_toArray, ← r.length, ← r2.length]; exact p.1
  show wpAny (model X.prog X.w) X.A (richCompare .NotEq (.ref a) (.ref b)) (EP X pins σ Q) X.xe s
  have sb : Sub X (n + 1) X.A := ⟨hr, rfl⟩
  refine rc_netupG hsz sb.room.units0 (fun _ s' => LoopI X pins σ H s') e e2 (fun i h1 h2 s' q => turnG hD h sb p r r2 i h1 h2 s' q) (fun s' w => ?_) ⟨H, I, Ext.rfl'⟩
  obtain ⟨H', I', e'⟩ := w
  exact ⟨.bl false, H', I', rfl, q H' e'⟩
end
section
variable {X : Cx} {g : Gx} {fs : List FS} {a b : Expr} {ia ib : E} {pos : Pos} {c i k : Nat} {F : FS}
/-- what the own == says of two objects -/
def Req (g : Gx) (F : FS) (c : Nat) : Addr → Addr → Hp → Prop := fun p q H => ∃ d e os, Rep g (fun _ => False) H d (.ref p) ∧ Rep g (fun _ => False) H e (.ref q) ∧ isObj c d = true ∧ isObj c e = true ∧ F [some (d, false), some (e, false)] = some (.fz (.bl true), os)
theorem req_ext {p q : Addr} {H H' : Hp} (e : Ext H H') (h : Req g F c p q H) : Req g F c p q H' := by
  obtain ⟨d, e1, os, h1, h2, h3, h4, h5⟩ := h
  exact ⟨d, e1, os, h1.same e, h2.same e, h3, h4, h5⟩
theorem req_sp {vs : List V} {H : Hp} {Q : VK} {E : XK} (h : spEq (Req g F c) vs H Q E) : spF g 2 F vs H Q E := by
  obtain ⟨p, q, rfl, ⟨d, e, os, h1, h2, h3, h4, h5⟩, hq⟩ := h
  have em : ∀ x : Addr, ¬ Av (fun _ => False) [] x := fun x z => z.elim id (fun z => nomatch z)
  refine ⟨rfl, fun _ => False, [], [some (d, false), some (e, false)], _, os, ⟨rfl, fun i u h => ?_, fun i u h => ?_, fun i j u u' b h1 => ?_, fun b z => (em b z).elim, nofun, fun b z => (em b z).elim⟩, h5, nofun, fun v H' O' st _ vl => ?_⟩
  · match i, h with
    | 0, h => simp at h; subst h; exact ⟨.ref p, rfl, rep_less (fun x z => em x z) h1⟩
    | 1, h => simp at h; subst h; exact ⟨.ref q, rfl, rep_less (fun x z => em x z) h2⟩
    | i + 2, h => simp at h
  · match i, h with
    | 0, h => simp at h
    | 1, h => simp at h
    | i + 2, h => simp at h
  · match i, h1 with
    | 0, h => simp at h
    | 1, h => simp at h
    | i + 2, h => simp at h
  · have vl : Rep _ _ _ _ _ := vl
    simp only [Rep] at vl
    subst vl
    exact hq H' fun x o hx => st.keep x o hx (by simp)
theorem tne_prs : ∀ {ds es : List D} {xs ys : List V} {A : Addr → Prop} {H : Hp}, tneD F c ds es = true → Reps g A H ds xs → Reps g A H es ys → Prs (DIns (g.cl c) (Req g F c)) xs ys H
  | [], [], _, _, A, H, _, h1, h2 => by
    simp only [Reps] at h1 h2
    subst h1 h2
    exact Prs.nil
  | [], e :: es, _, _, A, H, h, _, _ => by simp [tneD] at h
  | d :: ds, [], _, _, A, H, h, _, _ => by simp [tneD] at h
  | d :: ds, e :: es, _, _, A, H, h, h1, h2 => by
    simp only [tneD, Bool.and_eq_true] at h
    simp only [Reps] at h1 h2
    obtain ⟨x, xs, rfl, r1, r2⟩ := h1
    obtain ⟨y, ys, rfl, t1, t2⟩ := h2
    obtain ⟨⟨⟨q1, q2⟩, q3⟩, q4⟩ := h
    obtain ⟨p, dx, fl, rfl, e1⟩ := rep_ins q1 r1
    obtain ⟨q, dy, gl, rfl, e2⟩ := rep_ins q2 t1
    refine Prs.cons ⟨p, q, dx, dy, fl, gl, rfl, rfl, e1, e2, d, e, ?_⟩ (tne_prs q4 r2 t2)
    have l1 := rep_less (A' := fun _ => False) (fun _ z => z.elim) r1
    have l2 := rep_less (A' := fun _ => False) (fun _ z => z.elim) t1
    cases z : F [some (d, false), some (e, false)] with
    | none => rw [z] at q3; simp [trueR] at q3
    | some r =>
      obtain ⟨r, os⟩ := r
      rw [z] at q3
      have : r = .fz (.bl true) := by
        cases r with
        | fz u =>
          cases u with
          | bl u => cases u <;> simp [trueR] at q3 ⊢
          | _ => simp [trueR] at q3
        | _ => simp [trueR] at q3
      subst this
      exact ⟨os, l1, l2, q1, q2, rfl⟩
theorem tne_core {Bn : Addr → Prop} {Ow : List Addr} {H : Hp} {σ : L2.St} {Γ Γ' : Ct} {r : RV} {Q : VK} (hF : fs[i]? = some F) (rs : RS g Bn Ow H σ Γ) (he : ev fs (.tne c i ia ib) Γ = some (r, Γ')) (hQ : ∀ v H' Ow', Stp Ow H Ow' H' → RS g Bn Ow' H' σ Γ' → Val g Bn Ow' H' σ Γ' r v → Q v H') :
    r = .fz (.bl false) ∧ tOp (rNeG (DTup g.K (DIns (g.cl c) (Req g F c)))) (tR g fs ia) (tR g fs ib) σ H Q := by
  simp only [ev] at he
  obtain ⟨⟨x, Γ1⟩, e1, he⟩ := Option.bind_eq_some_iff.mp he
  obtain ⟨⟨y, Γ2⟩, e2, he⟩ := Option.bind_eq_some_iff.mp he
  obtain ⟨d, ed, he⟩ := Option.bind_eq_some_iff.mp he
  obtain ⟨e, ee, he⟩ := Option.bind_eq_some_iff.mp he
  obtain ⟨ds, h6, he⟩ := Option.bind_eq_some_iff.mp he
  obtain ⟨es, h7, he⟩ := Option.bind_eq_some_iff.mp he
  obtain ⟨F', hF', he⟩ := Option.bind_eq_some_iff.mp he
  rw [hF] at hF'; cases hF'
  split at he
  · rename_i ht
    simp only [Option.some.injEq, Prod.mk.injEq] at he
    obtain ⟨rfl, rfl⟩ := he
    refine ⟨rfl, ?_⟩
    rw [← datum_dn] at ed ee
    refine tR_two rs e1 e2 fun v w H2 O2 s2 r2 v2 w2 => ?_
    have q1 := v2.rdb r2 ed
    have q2 := w2.rdb r2 ee
    cases d <;> simp only [tupOf, reduceCtorEq, Option.some.injEq] at h6
    cases e <;> simp only [tupOf, reduceCtorEq, Option.some.injEq] at h7
    subst h6 h7
    obtain ⟨p, vs, rfl, _, t1, p1⟩ := rdb_tup q1
    obtain ⟨q, ws, rfl, _, t2, p2⟩ := rdb_tup q2
    refine ⟨⟨p, q, vs, ws, rfl, rfl, t1, t2, tne_prs ht p1 p2⟩, fun H' e' => ?_⟩
    exact hQ _ H' O2 (s2.trans (.same e')) (r2.same e') (by simp only [Val, Rep])
  · cases he
theorem op_tne (M : Mtd X.prog X.w X.mg X.base g k c "__eq__" 2 F) (C : Cok g X) (hr : Room (k + 1) X.A) : OpR X (compareOp .NotEq) (rNeG (DTup g.K (DIns (g.cl c) (Req g F c)))) := by
  obtain ⟨f, fd, ps, h1, h2, h3, h4⟩ := M.ex
  rw [← C.K] at h1 h2 h3 h4
  have h5 : FnOk X.prog X.w X.K X.mg X.base CX0 k f fd ps (spEq (Req g F c)) := ⟨fun vs H Q E q => h4.len vs H Q E (req_sp q), fun A outer s H args us vs Q E hr he hb hv hs => h4.run A outer s H args us vs Q E hr he hb hv (req_sp hs)⟩
  have mn : Mon (DIns (g.cl c) (Req g F c)) := mon_ins fun _ _ _ _ e h => req_ext e h
  rw [← C.K]
  exact op_netupG mn (eqG_ins (E := fun _ _ _ => False) h5 h2.at_ h2.fn h3 pass0) hr
theorem p_tne (M : Mtd X.prog X.w X.mg X.base g k c "__eq__" 2 F) (C : Cok g X) (hF : fs[i]? = some F) (hr : Room (k + 1) X.A) (ha : PE X a (tR g fs ia)) (hb : PE X b (tR g fs ib)) (hm : behindInMarks .NotEq b = false) : PE X (.Compare a [.NotEq] [b] pos) (tR g fs (.tne c i ia ib)) := by
  refine PE.weak (pe_cmpR (op_tne M C hr) ha hb hm) ?_
  rintro σ H Q ⟨Bn, Ow, Γ, r, Γ', rs, he, hQ⟩
  exact (tne_core hF rs he hQ).2
theorem t_tne (M : Mtd X.prog X.w X.mg X.base g k c "__eq__" 2 F) (C : Cok g X) (hF : fs[i]? = some F) (hr : Room (k + 1) X.A) (ha : PE X a (tR g fs ia)) (hb : PE X b (tR g fs ib)) (hm : behindInMarks .NotEq b = false) : PT X (.Compare a [.NotEq] [b] pos) (tT g fs (.tne c i ia ib)) := by
  refine PT.weak (pt_cmpR (op_tne M C hr) ha hb hm) ?_
  rintro σ H Q ⟨Bn, Ow, Γ, r, Γ', t, rs, he, ht, hQ⟩
  have e := (tne_core (Q := fun _ _ => True) hF rs he fun _ _ _ _ _ _ => trivial).1
  exact (tne_core hF rs he (test_of ⟨false, e⟩ ht hQ)).2
end
end DV

namespace DV
open PySem L2 PySem.Spec
section
variable {X : Cx} {g : Gx} {fs : List FS} {a b : Expr} {ia ib : E} {pos p p2 pos2 : Pos}
theorem reps_rg {A : Addr → Prop} {H : Hp} : ∀ (n : Nat) (lo : Int) (f : Nat → V), (∀ i, f i = .int (lo + (i : Nat))) → Reps g A H (rngD lo 1 n) ((List.range n).map f)
  | 0, lo, f, _ => by simp [rngD, Reps]
  | n + 1, lo, f, h => by
    rw [List.range_succ_eq_map, List.map_cons, List.map_map, rngD]
    simp only [Reps]
    refine ⟨_, _, rfl, ?_, reps_rg n (lo + 1) _ fun i => ?_⟩
    · rw [h 0]; simp [Rep]
    · show f (i + 1) = _
      rw [h (i + 1)]
      congr 1
      omega
/-- list(range(a, b)) -/
theorem p_rngl (C : Cok g X) (hg : Gl X "list") (hm : X.mg "list" = none) (hg2 : Gl X "range") (hm2 : X.mg "range" = none) (ha : PE X a (tR g fs ia)) (hb : PE X b (tR g fs ib)) (na : starEach [a, b] X.env = (false, eval a X.env) :: starEach [b] X.env)
    (nb : starEach [b] X.env = (false, eval b X.env) :: starEach [] X.env) (hp : (backTo pos2 (starEach [b] X.env)).any (·.1) = false)
    (nc : starEach [.Call (.Name "range" p2) [a, b] [] pos2] X.env = (false, eval (.Call (.Name "range" p2) [a, b] [] pos2) X.env) :: starEach [] X.env) : PE X (.Call (.Name "list" p) [.Call (.Name "range" p2) [a, b] [] pos2] [] pos) (tR g fs (.rngl ia ib)) := by
  refine PE.weak (PE.kf (pe_listRg C.calm hg hm (prg_2 hg2 hm2 ha hb na nb hp) nc)) ?_
  rintro σ H Q ⟨Bn, Ow, Γ, r, Γ', rs, he, hQ⟩
  simp only [ev] at he
  obtain ⟨⟨x, Γ1⟩, e1, he⟩ := Option.bind_eq_some_iff.mp he
  obtain ⟨⟨y, Γ2⟩, e2, he⟩ := Option.bind_eq_some_iff.mp he
  obtain ⟨d, ed, he⟩ := Option.bind_eq_some_iff.mp he
  obtain ⟨e, ee, he⟩ := Option.bind_eq_some_iff.mp he
  obtain ⟨ds, h6, he⟩ := Option.map_eq_some_iff.mp he
  simp only [Prod.mk.injEq] at he
  obtain ⟨rfl, rfl⟩ := he
  rw [← datum_dn] at ed ee
  rw [C.K]
  refine tR_two rs e1 e2 fun v w H2 O2 s2 r2 v2 w2 => ?_
  have q1 := v2.rdb r2 ed
  have q2 := w2.rdb r2 ee
  cases d with
  | int i =>
    cases e with
    | int j =>
      simp only [rnglD] at h6
      split at h6
      · rename_i hc
        simp only [Bool.and_eq_true, decide_eq_true_eq] at hc
        cases h6
        have t1 := in62_of hc.1.1
        have t2 := in62_of hc.1.2
        refine ⟨i, j, rdb_int q1, rdb_int q2, ⟨t1.1, t1.2, t2.1, t2.2, by have := hc.2; omega⟩, fun q hq kf => ?_⟩
        have sm : Same H2 (upd H2 q (.lst (rgV i j))) := same_new hq
        obtain ⟨O3, s3, r3, v3⟩ := Res.val (r := .nw (.lst (rngD i 1 (j - i).toNat))) r2 sm (new_lst hq (kf_new kf upd_same) (reps_rg _ i _ fun _ => rfl))
        exact hQ _ _ O3 (s2.trans s3) r3 v3
      · cases h6
    | _ => simp only [rnglD, reduceCtorEq] at h6
  | _ => simp only [rnglD, reduceCtorEq] at h6
end
end DV

namespace DV
open PySem L2 PySem.Spec
section
variable {X : Cx} {g : Gx} {fs : List FS} {pos : Pos}
theorem VlN.same {Bn : Addr → Prop} {Ow : List Addr} {H H' : Hp} {σ : St} {Γ : Ct} (s : Same H H') : ∀ {xs : List RV} {vs : List V}, VlN g Bn Ow H σ Γ xs vs → VlN g Bn Ow H' σ Γ xs vs
  | [], _, h => h
  | x :: xs, _, ⟨v, r, e, h1, h2, h3, h4⟩ => by
    refine ⟨v, r, e, ?_, h2, h3, VlN.same s h4⟩
    cases x with
    | fz d => exact Rep.same h1 s
    | nw d => obtain ⟨a, e1, m1, o1, n1⟩ := h1; exact ⟨a, e1, m1, o1.same s, n1⟩
    | sl i => exact (h3 i rfl).elim
/-- x, y = a, b over a new tuple: new lists stay owned -/
theorem s_parT2 {i j : Nat} {bi bj : Bool} {x y : Str} {a b : Expr} {ia ib : E} {px py pt : Pos} {kt k2 pt2} (C : Cok g X) (ha : PA X [a, b] (tAn g fs [(i, bi), (j, bj)] [ia, ib])) (hg : PG X (.Tuple [.Name x px, .Name y py] kt pt) (tgT g.K (.tp [.nm i, .nm j])))
    (hs : swapsWithSole [.Tuple [.Name x px, .Name y py] kt pt] (.Tuple [a, b] k2 pt2) pos.line X.env = pure false) (hw : swappedStores [.Tuple [.Name x px, .Name y py] kt pt] (.Tuple [a, b] k2 pt2) X.env = pure none)
    (h1 : (assignEach [.Tuple [.Name x px, .Name y py] kt pt] X.env).map (·.2) = [assign (.Tuple [.Name x px, .Name y py] kt pt) X.env]) :
    PS X (.Assign [.Tuple [.Name x px, .Name y py] kt pt] (.Tuple [a, b] k2 pt2) pos) (tSt g fs (.par [(i, bi), (j, bj)] [ia, ib])) := by
  refine PS.weak (ps_asg (pe_tup ha) hg hs hw h1) ?_
  intro Dn σ H q
  obtain ⟨pv, Bn, Ow, Γ, o, rs, pn, he, po⟩ := q
  simp only [ex, Option.ite_none_right_eq_some] at he
  obtain ⟨dj, he⟩ := he
  obtain ⟨⟨ys, Γ2⟩, e1, he⟩ := Option.bind_eq_some_iff.mp he
  obtain ⟨Γ3, e2, rfl⟩ := Option.map_eq_some_iff.mp he
  refine ⟨Bn, Ow, Γ, ys, Γ2, rs, e1, fun vs H1 O1 s1 r1 v1 => ?_⟩
  have hl : vs.length = 2 := by rw [← v1.len, ← parS_len e2]; rfl
  refine ⟨by rw [hl, sizeLine_eq]; decide, fun p hp => ?_⟩
  have sm : Same H1 (upd H1 p (.tup vs)) := same_new hp
  obtain ⟨v, w, rfl⟩ : ∃ v w, vs = [v, w] := by
    match vs, hl with
    | [v, w], _ => exact ⟨v, w, rfl⟩
  obtain ⟨r2, p2⟩ := parS_ok (r1.same sm) (v1.same sm) e2 pn dj
  simp only [tgT, tgT.tgTs]
  refine ⟨p, [v, w], rfl, .inl (.inl upd_same), rfl, v, [w], rfl, w, [], rfl, rfl, ?_⟩
  exact po _ _ O1 (s1.trans (.same sm)) r2 p2
end
end DV

namespace DV
open PySem L2 PySem.Spec
/-! ### a list in a field of a new object grows -/
theorem putF_new {nm : Str} {v : V} : ∀ {ks : List Str} {vs : List V}, ks.length = vs.length → ks.contains nm = false → putF nm v (ks.zip vs) = (ks ++ [nm]).zip (vs ++ [v])
  | [], vs, l, _ => by
    have : vs = [] := by cases vs with | nil => rfl | cons _ _ => simp at l
    subst this; rfl
  | k :: ks, [], l, _ => by simp at l
  | k :: ks, u :: vs, l, h => by
    simp only [List.contains_cons, Bool.or_eq_false_iff] at h
    have hk : ¬ k = nm := fun z => by rw [z] at h; simp at h
    simp only [List.zip_cons_cons, putF, List.cons_append]
    rw [if_neg (by first | exact hk | simpa using hk), putF_new (by simpa using l) h.2]
theorem lookup_newF {nm : Str} {v : V} {ks : List Str} {vs : List V} (l : ks.length = vs.length) (h : ks.contains nm = false) : ((ks ++ [nm]).zip (vs ++ [v])).lookup nm = some v := by
  rw [List.zip_append l, List.lookup_append, lookup_no h]
  simp
theorem Stp.cons {O O' : List Addr} {H H' : Hp} (s : Stp O H O' H') (p : Addr) : Stp (p :: O) H (p :: O') H' where
  keep := fun a o h n => s.keep a o h fun z => n (List.mem_cons_of_mem _ z)
  grow := fun a h => by
    rcases List.mem_cons.mp h with h | h
    · exact .inl (by rw [h]; exact List.mem_cons_self)
    · rcases s.grow a h with z | z
      · exact .inl (List.mem_cons_of_mem _ z)
      · exact .inr z
  stay := s.stay
theorem stp_upd {O : List Addr} {H : Hp} {p : Addr} {o : HO} (h : p ∈ O) : Stp O H O (upd H p o) where
  keep := fun a x e n => by rw [upd_ne (fun z => n (by rw [z]; exact h))]; exact e
  grow := fun _ h => .inl h
  stay := fun a e => by
    by_cases z : a = p
    · subst z; rw [upd_same]; simp
    · rw [upd_ne z]; exact e
section
variable {g : Gx} {Bn : Addr → Prop} {Ow Ow' : List Addr} {H H' : Hp} {σ : St} {Γ Γ' : Ct}
theorem RS.drop (rs : RS g Bn Ow H σ Γ) (i : Nat) : RS g Bn Ow H σ (Γ.set i none) := by
  have low : ∀ {j : Nat} {p : D × Bool}, (Γ.set i none)[j]? = some (some p) → Γ[j]? = some (some p) := fun {j p} h => by
    by_cases hj : i = j
    · subst hj
      by_cases hl : i < Γ.length
      · rw [List.getElem?_set_self hl] at h; cases h
      · rw [List.getElem?_eq_none (by rw [List.length_set]; omega)] at h; cases h
    · rw [List.getElem?_set_ne hj] at h; exact h
  exact ⟨by rw [List.length_set]; exact rs.len, fun j d h => rs.slot j d (low h), fun j d h => rs.own j d (low h), fun j k d e a h1 h2 => rs.dist j k d e a (low h1) (low h2), rs.trk, rs.sep, rs.kf⟩
/-- what stands while the list grows -/
structure GrowS (g : Gx) (B : Addr → Prop) (p L dx : Addr) (c : Nat) (ks : List Str) (ds : List D) (nm : Str) (O : List Addr) (H : Hp) (Ls : List D) : Prop where
  bp : B p
  bL : B L
  ne : L ≠ p
  self : ∃ vs, ks.length = vs.length ∧ H p = some (.ins (g.cl c) dx ((ks ++ [nm]).zip (vs ++ [.ref L]))) ∧ Reps g (Av B O) H ds vs
  list : ∃ ws, H L = some (.lst ws) ∧ Reps g (Av B O) H Ls ws
theorem GrowS.step {B : Addr → Prop} {p L dx : Addr} {c : Nat} {ks : List Str} {ds : List D} {nm : Str} {Ls : List D} (G : GrowS g B p L dx c ks ds nm Ow H Ls) (sp : ∀ a, B a → a ∉ Ow) (s : Stp Ow H Ow' H') (rs : RS g B Ow' H' σ Γ) : GrowS g B p L dx c ks ds nm Ow' H' Ls := by
  obtain ⟨vs, l, h, r⟩ := G.self
  obtain ⟨ws, h2, r2⟩ := G.list
  exact ⟨G.bp, G.bL, G.ne, ⟨vs, l, s.keep _ _ h (sp _ G.bp), r.step s rs⟩, ⟨ws, s.keep _ _ h2 (sp _ G.bL), r2.step s rs⟩⟩
theorem GrowS.app {B : Addr → Prop} {p L dx : Addr} {c : Nat} {ks : List Str} {ds : List D} {nm : Str} {Ls : List D} {d : D} {v : V} {ws : List V} (G : GrowS g B p L dx c ks ds nm Ow H Ls) (hw : H L = some (.lst ws)) (r : Rep g (Av B Ow) H d v) : GrowS g B p L dx c ks ds nm Ow (upd H L (.lst (ws ++ [v]))) (Ls ++ [d]) := by
  obtain ⟨vs, l, h, r1⟩ := G.self
  obtain ⟨ws', h2, r2⟩ := G.list
  rw [hw] at h2; cases h2
  have vst := ban_vst (g := g) (H := H) (o := .lst (ws ++ [v])) (A := Av B Ow) (p := L) (.inl G.bL)
  exact ⟨G.bp, G.bL, G.ne, ⟨vs, l, by rw [upd_ne (fun z => G.ne z.symm)]; exact h, reps_mono vst _ _ r1⟩, ⟨_, upd_same, reps_mono vst _ _ (r2.app (Reps.one r))⟩⟩
end
section
variable {X : Cx} {g : Gx} {fs : List FS}
theorem ss_grow {c i k n lv : Nat} {nm : Str} {o0 o1 o2 e0 l l2 : Expr} {es elts : List Expr} {rest : List Stmt} {ie0 ie1 ie2 : E} {ies : List E} {ir : List S} {itg : Tg} {F : FS} {x : Str} {j1} {kk} {tpos0 pos0 tpos pz posz pa1 apos px pa2 pc1 pu1 psb cpos cpos2 spos pos : Pos}
    (C : Cok g X) (ho0 : PE X o0 (tVar i)) (he0 : PE X e0 (tR g fs ie0)) (hc : Cls g.K (g.cl c) ∧ NoAttr g.K (g.cl c) nm) (hs0 : swapsWith e0 (some (.Attribute o0 nm tpos0)) pos0.line X.env = pure false)
    (hp : PassesOwn (model X.prog X.w) X.A X.env X.xe) (hg1 : Gl X "zip") (hm1 : X.mg "zip" = none) (hz : PA X [l, l2] (tAs g fs [ie1, ie2])) (hz1 : starEach [l, l2] X.env = (false, eval l X.env) :: starEach [l2] X.env) (hz2 : (backTo posz (starEach [l2] X.env)).any (·.1) = false)
    (hg : PG X (.Tuple elts kk tpos) (tgT g.K itg)) (hfs : ∀ x, foldedSetIterable (.Call (.Name "zip" pz) [l, l2] [] posz) X.env x = pure x)
    (ho1 : PE X o1 (tVar i)) (hb1 : attributeBase o1 nm X.env (eval o1 X.env) = eval o1 X.env) (ho2 : PE X o2 (tVar i)) (hb2 : attributeBase o2 nm X.env (eval o2 X.env) = eval o2 X.env)
    (cal : Cal X.prog X.w X.mg X.base g lv x n F) (hF : fs[k]? = some F) (hn : ies.length + 1 = n) (hr : Room lv X.A) (hgx : Gl X x) (ha : PA X es (tAw g fs ies))
    (hdb : (x == ("__debug__" : Str)) = false) (hplx : PlainIx (.UnaryOp .USub (.Constant (.int 1) j1 pc1) pu1))
    (hst : starEach (.Subscript (.Attribute o2 nm pa2) (.UnaryOp .USub (.Constant (.int 1) j1 pc1) pu1) psb :: es) X.env = (false, eval (.Subscript (.Attribute o2 nm pa2) (.UnaryOp .USub (.Constant (.int 1) j1 pc1) pu1) psb) X.env) :: starEach es X.env) (hpl : (backTo cpos (starEach es X.env)).any (·.1) = false)
    (hbase : attributeBase (.Attribute o1 nm pa1) "append" X.env (eval (.Attribute o1 nm pa1) X.env) = eval (.Attribute o1 nm pa1) X.env) (hline : (apos.endLine == cpos2.line) = true)
    (hs : starEach [.Call (.Name x px) (.Subscript (.Attribute o2 nm pa2) (.UnaryOp .USub (.Constant (.int 1) j1 pc1) pu1) psb :: es) [] cpos] X.env = [(false, eval (.Call (.Name x px) (.Subscript (.Attribute o2 nm pa2) (.UnaryOp .USub (.Constant (.int 1) j1 pc1) pu1) psb :: es) [] cpos) X.env)])
    (hsw : swapsWith (.Call (.Attribute (.Attribute o1 nm pa1) "append" apos) [.Call (.Name x px) (.Subscript (.Attribute o2 nm pa2) (.UnaryOp .USub (.Constant (.int 1) j1 pc1) pu1) psb :: es) [] cpos] [] cpos2) none spos.line X.env = pure false)
    (hrest : PSs X rest (tSs g fs ir)) :
    PSs X (.Assign [.Attribute o0 nm tpos0] e0 pos0 :: .For (.Tuple elts kk tpos) (.Call (.Name "zip" pz) [l, l2] [] posz) [.Expr (.Call (.Attribute (.Attribute o1 nm pa1) "append" apos) [.Call (.Name x px) (.Subscript (.Attribute o2 nm pa2) (.UnaryOp .USub (.Constant (.int 1) j1 pc1) pu1) psb :: es) [] cpos] [] cpos2) spos] [] pos :: rest)
      (tSs g fs (.grow c i nm ie0 itg ie1 ie2 k ies :: ir)) := by
  obtain ⟨f, fd, ps, c1, c2, c3, c4⟩ := cal.ex
  rw [← C.K] at c2 c3 c4
  refine PSs.weak (pss_cons (ps_fld ho0 he0 hs0) (pss_cons (ps_for hp C.calm (pi_zip hg1 hm1 hz hz1 hz2) hg
    (pss_one (ps_expr (pe_bm PySem.F.plainAttrs_list PySem.F.slot_list_append PySem.F.type_list_append mt_append (pe_fld ho1 hb1)
      (pa_cons (pe_call c4 hr hgx c1 c2 c3 .nil pass0 (pa_cons (pe_ix ix_list (pe_fld ho2 hb2) (pe_un un_neg pe_int) hplx) ha hst) hdb hst hpl) pa_nil (by rw [hs]; rfl)) hbase (by rw [hs]; rfl) hline (by rw [hs]; rfl) rfl) hsw)) hfs) hrest)) ?_
  rintro Dn σ H ⟨pv, Bn, Ow, Γ, o, rs, pn, he, po⟩
  simp only [exs, ex] at he
  obtain ⟨oo, e0', he⟩ := Option.bind_eq_some_iff.mp he
  obtain ⟨⟨x0, Γ1⟩, e1, e0'⟩ := Option.bind_eq_some_iff.mp e0'
  simp only at e0'
  split at e0'
  rotate_left
  · cases e0'
  rename_i L0 cc ks ds hΓi
  simp only [Option.ite_none_right_eq_some] at e0'
  obtain ⟨⟨hcc, kl, kd, kn, dj⟩, e0'⟩ := e0'
  subst hcc
  obtain ⟨⟨xs, Γ2⟩, e2, e0'⟩ := Option.bind_eq_some_iff.mp e0'
  obtain ⟨⟨zs, Γ3⟩, e3, e0'⟩ := Option.bind_eq_some_iff.mp e0'
  obtain ⟨F', e4, e0'⟩ := Option.bind_eq_some_iff.mp e0'
  rw [hF] at e4; cases e4
  obtain ⟨⟨Lf, Γ4⟩, e5, e0'⟩ := Option.map_eq_some_iff.mp e0'
  subst e0'
  simp only at he e2 e3 e5
  refine ⟨Bn, Ow, Γ, _, Γ1, rs, e1, fun v H1 O1 s1 r1 vl => ?_⟩
  obtain ⟨L, rfl, mL, ⟨ws0, hL0, rL0⟩, noL⟩ := vl
  obtain ⟨p, ep, mp, dx, vs0, lv0, hp0, rp0⟩ := r1.own i _ hΓi
  rw [C.K]
  refine ⟨_, ep, p, g.cl cc, dx, ks.zip vs0, rfl, hp0, hc.1, hc.2, by rw [List.length_zip]; omega, ?_⟩
  rw [putF_new lv0 kn]
  have neL : L ≠ p := fun z => by subst z; rw [hL0] at hp0; cases hp0
  have hil : i < Γ1.length := (List.getElem?_eq_some_iff.mp hΓi).1
  have low : ∀ {j : Nat} {q : D × Bool}, (Γ1.set i none)[j]? = some (some q) → i ≠ j ∧ Γ1[j]? = some (some q) := fun {j q} h => by
    by_cases hj : i = j
    · subst hj; rw [List.getElem?_set_self hil] at h; cases h
    · rw [List.getElem?_set_ne hj] at h; exact ⟨hj, h⟩
  have r2 := (r1.drop i).ban (d := .non) mp fun j e h1 h2 => (low h1).1 (r1.dist i j _ _ p hΓi (low h1).2 ep h2)
  have r3 := r2.ban (d := .non) (p := L) (ne_mem mL neL) fun j e h1 h2 => noL j e (low h1).2 h2
  have r4 := r3.updB (p := p) (o := .ins (g.cl cc) dx ((ks ++ [nm]).zip (vs0 ++ [.ref L]))) (.inl (.inr rfl))
  generalize hB : orB (orB Bn p) L = B at r3 r4
  generalize hO : (O1.filter (fun x => decide (x ≠ p))).filter (fun x => decide (x ≠ L)) = O3 at r3 r4
  have bp : B p := by rw [← hB]; exact .inl (.inr rfl)
  have bL : B L := by rw [← hB]; exact .inr rfl
  have kB : ∀ a, Av B O3 a → Av Bn O1 a := fun a z => by
    rw [← hB, ← hO] at z
    rcases z with ((z | z) | z) | z
    · exact .inl z
    · rw [z]; exact .inr mp
    · rw [z]; exact .inr mL
    · exact .inr (mem_ne (mem_ne z).1).1
  have vst := ban_vst (g := g) (H := H1) (o := .ins (g.cl cc) dx ((ks ++ [nm]).zip (vs0 ++ [.ref L]))) (A := Av B O3) (p := p) (.inl bp)
  have G0 : GrowS g B p L dx cc ks ds nm O3 (upd H1 p (.ins (g.cl cc) dx ((ks ++ [nm]).zip (vs0 ++ [.ref L])))) L0 :=
    ⟨bp, bL, neL, ⟨vs0, lv0, upd_same, reps_mono vst _ _ (reps_less kB rp0)⟩, ⟨ws0, by rw [upd_ne neL]; exact hL0, reps_mono vst _ _ (reps_less kB rL0)⟩⟩
  have s4 : Stp O1 H1 (p :: L :: O3) (upd H1 p (.ins (g.cl cc) dx ((ks ++ [nm]).zip (vs0 ++ [.ref L])))) := ⟨fun a o h n => by rw [upd_ne (fun z => n (by rw [z]; exact mp))]; exact h, fun a h => .inl (by
    rcases List.mem_cons.mp h with h | h
    · rw [h]; exact mp
    · rcases List.mem_cons.mp h with h | h
      · rw [h]; exact mL
      · rw [← hO] at h; exact (mem_ne (mem_ne h).1).1), (stp_upd mp).stay⟩
  refine ⟨B, O3, Γ1.set i none, xs, Γ2, r4, e2, fun vs H5 O5 s5 r5 v5 => ?_⟩
  simp only [evs] at e2
  obtain ⟨⟨x1, G1⟩, e6, e2⟩ := Option.bind_eq_some_iff.mp e2
  obtain ⟨⟨ys, G2⟩, e7, e2⟩ := Option.map_eq_some_iff.mp e2
  obtain ⟨⟨x2, G3⟩, e8, e7⟩ := Option.bind_eq_some_iff.mp e7
  simp only [Option.map_some, Option.some.injEq, Prod.mk.injEq] at e7 e2
  obtain ⟨rfl, rfl⟩ := e7
  obtain ⟨rfl, rfl⟩ := e2
  simp only [iterD] at e3
  obtain ⟨⟨d, F1⟩, e9, e3⟩ := Option.bind_eq_some_iff.mp e3
  obtain ⟨⟨e, F2⟩, e10, e3⟩ := Option.bind_eq_some_iff.mp e3
  cases d <;> cases e <;> simp only [reduceCtorEq, Option.some.injEq, Prod.mk.injEq] at e3
  rename_i D1 _ D2
  obtain ⟨rfl, rfl⟩ := e3
  obtain ⟨v, w, rfl, v1, w', w'', rfl, v2, z⟩ := v5
  have z : w'' = [] := z
  subst z
  rw [← fre_dn] at e9 e10
  obtain ⟨O6, s6, r6, rp⟩ := fre_ok r5 v1 e9
  obtain ⟨O7, s7, r7, rq⟩ := fre_ok r6 (v2.step s6 r6) e10
  have rp := rp.step s7 r7
  have G7 := G0.step r4.sep ((s5.trans s6).trans s7) r7
  have ra := rp
  have rb := rq
  simp only [Rep] at ra rb
  obtain ⟨a, va, rfl, na, hva, rra⟩ := ra
  obtain ⟨b, vb, rfl, nb, hvb, rrb⟩ := rb
  refine ⟨a, b, va, vb, rfl, .inl (.inl hva), .inl (.inl hvb), ?_⟩
  have S7 : Stp Ow H (p :: L :: O7) H5 := (s1.trans s4).trans ((((s5.trans s6).trans s7).cons L).cons p)
  have hip : i ∉ tgIx itg := fun z => by
    have := List.all_eq_true.mp dj _ z
    simp at this
  have djp : disjB (tgIx itg) (pv.2.map (·.1)) = true := List.all_eq_true.mpr fun y hy => by
    have := List.all_eq_true.mp dj y hy
    simp only [List.contains_cons, Bool.not_or, Bool.and_eq_true] at this
    exact this.2
  let C1 : Nat → St → Hp → Prop := fun m σ2 H2 => ∃ O2 G2 Ls, Stp (p :: L :: O7) H5 (p :: L :: O2) H2 ∧ RS g B O2 H2 σ2 G2 ∧ Pin pv σ2 ∧ σ2[i]? = some (some (.ref p)) ∧ GrowS g B p L dx cc ks ds nm O2 H2 Ls ∧ Rep g (Av B O2) H2 (.lst D1) (.ref a) ∧ Rep g (Av B O2) H2 (.lst D2) (.ref b) ∧ growLoop itg F (evs fs ies) ((zipD D1 D2).drop m) Ls G2 = some (Lf, Γ4)
  refine ⟨fun m r σ2 H2 => r = (zipD D1 D2).length - m ∧ m ≤ (zipD D1 D2).length ∧ C1 m σ2 H2, ⟨(zipD D1 D2).length, by simp, Nat.zero_le _, O7, _, L0, .refl _ _, r7, pn, ep, G7, rp, rq, e5⟩, ?_⟩
  rintro m r σ2 H2 ⟨rfl, hle, O2, G2, Ls, s2', r2', p2', ei, GS, qa, qb, l2'⟩
  have qa' := qa
  have qb' := qb
  simp only [Rep] at qa' qb'
  obtain ⟨a', wa, ea', nwa, hwa, rwa⟩ := qa'
  obtain ⟨b', wb, eb', nwb, hwb, rwb⟩ := qb'
  cases ea'; cases eb'
  by_cases hlt : m < (zipD D1 D2).length
  · have hlt2 := hlt
    rw [zipD_len] at hlt2
    have hm1 : m < wa.length := by rw [← rwa.len]; omega
    have hm2 : m < wb.length := by rw [← rwb.len]; omega
    refine .inr ⟨⟨wa, wb, wa[m], wb[m], .inl (.inl hwa), .inl (.inl hwb), List.getElem?_eq_getElem hm1, List.getElem?_eq_getElem hm2⟩, fun σ' H' => C1 (m + 1) σ' H', fun σ' H' q => ⟨(zipD D1 D2).length - (m + 1), by omega, rfl, hlt, q⟩, fun x' H3 y' => ?_⟩
    have edr : (zipD D1 D2).drop m = (zipD D1 D2)[m] :: (zipD D1 D2).drop (m + 1) := List.drop_eq_getElem_cons hlt
    rw [edr] at l2'
    simp only [growLoop] at l2'
    obtain ⟨G3', a1, l2'⟩ := Option.bind_eq_some_iff.mp l2'
    obtain ⟨ll, a2, l2'⟩ := Option.bind_eq_some_iff.mp l2'
    obtain ⟨⟨ys, G4'⟩, a3, l2'⟩ := Option.bind_eq_some_iff.mp l2'
    obtain ⟨⟨rr, G5'⟩, a4, l2'⟩ := Option.bind_eq_some_iff.mp l2'
    obtain ⟨⟨yd, G6'⟩, a5, l2'⟩ := Option.bind_eq_some_iff.mp l2'
    simp only [Option.ite_none_right_eq_some] at l2'
    obtain ⟨hsz, l2'⟩ := l2'
    obtain ⟨T, v', w', rfl, nT, e0, y1, y2⟩ := y'
    obtain ⟨p1, q1', e1', e2', ez⟩ := zipD_get (List.getElem?_eq_getElem hlt)
    obtain ⟨u1, e3', rr1⟩ := rwa.get e1'
    obtain ⟨u2, e4', rr2⟩ := rwb.get e2'
    have e5' := y1 wa (.inl (.inl hwa))
    have e6' := y2 wb (.inl (.inl hwb))
    rw [e3'] at e5'; cases e5'
    rw [e4'] at e6'; cases e6'
    obtain ⟨sm, rx⟩ := tup2 nT e0 r2'.trk rr1 rr2
    rw [← ez] at rx
    have r3' := r2'.same sm
    have GS3 := GS.step r2'.sep (Stp.same sm) r3'
    refine asgT_ok itg r3' rx a1 fun σ3 q1 q2 q3 => ?_
    have ei3 : σ3[i]? = some (some (.ref p)) := by rw [q3 i hip]; exact ei
    obtain ⟨fv, lfv, hp3, rfv⟩ := GS3.self
    obtain ⟨lw, hL3, rlw⟩ := GS3.list
    refine ⟨_, ei3, p, g.cl cc, dx, _, .ref L, rfl, hp3, hc.1, hc.2, lookup_newF lfv kn, ?_⟩
    refine ⟨.inl ⟨rfl, lw, .inl (.inl hL3)⟩, ?_⟩
    have hll : atI lw (-1) = some (lw.getLast?.getD .non) ∧ Rep g (Av B O2) H3 ll (lw.getLast?.getD .non) := by
      have hne : Ls ≠ [] := fun z => by rw [z] at a2; cases a2
      obtain ⟨Li, rfl⟩ : ∃ Li, Ls = Li ++ [ll] := ⟨Ls.dropLast, by rw [List.getLast?_eq_getLast hne, Option.some.injEq] at a2; rw [← a2, List.dropLast_concat_getLast]⟩
      obtain ⟨vl, g1, g2⟩ := rlw.get (i := Li.length) (d := ll) (by simp)
      have hlen := rlw.len
      rw [List.length_append, List.length_singleton] at hlen
      have : lw = lw.take Li.length ++ [vl] := by
        apply List.ext_getElem?
        intro q
        by_cases hq : q < Li.length
        · rw [List.getElem?_append_left (by rw [List.length_take]; omega), List.getElem?_take_of_lt hq]
        · by_cases hq2 : q = Li.length
          · subst hq2
            rw [g1, List.getElem?_append_right (by rw [List.length_take]; omega), List.length_take]
            rw [show Li.length - min Li.length lw.length = 0 by omega]; rfl
          · rw [List.getElem?_eq_none (by omega), List.getElem?_eq_none (by simp; omega)]
      rw [this, List.getLast?_concat]
      exact ⟨atI_last _ _, g2⟩
    refine ⟨_, ei3, p, g.cl cc, dx, _, .ref L, rfl, hp3, hc.1, hc.2, lookup_newF lfv kn, 1, rfl, L, lw, _, _, rfl, rfl, .inl (.inl hL3), hll.1, ?_⟩
    refine ⟨B, O2, G3', ys, G4', q1, a3, fun vs H6 O6 s6' r6' v6 => ?_⟩
    have rl6 := hll.2.step s6' r6'
    have GS6 := GS3.step q1.sep s6' r6'
    show spF g n F (_ ++ []) H6 _ _
    rw [List.append_nil]
    refine callD_core (xs := .fz ll :: ys) r6' ⟨_, vs, rfl, rl6, nofun, v6⟩ a4 ?_ fun u H7 O7' s7' r7' v7 => ?_
    · rw [List.length_cons, ← v6.len, ← evs_len a3]; exact hn
    obtain ⟨O8, s8, r8, rp8⟩ := fre_ok r7' v7 a5
    have GS8 := GS6.step r6'.sep (s7'.trans s8) r8
    obtain ⟨lw8, hL8, rlw8⟩ := GS8.list
    refine ⟨L, lw8, u, rfl, rfl, hL8, by rw [← rlw8.len]; exact hsz, ?_⟩
    have st8 : Stp O2 H2 O8 H7 := (Stp.same sm).trans (s6'.trans (s7'.trans s8))
    have vst8 := ban_vst (g := g) (H := H7) (o := .lst (lw8 ++ [u])) (A := Av B O8) (p := L) (.inl bL)
    refine ⟨O8, G6', Ls ++ [yd], s2'.trans (((st8.cons L).cons p).trans (stp_upd (List.mem_cons_of_mem _ List.mem_cons_self))), r8.updB bL, p2'.keep djp q2 q3, ei3, GS8.app hL8 rp8, rep_mono vst8 _ _ (qa.step st8 r8), rep_mono vst8 _ _ (qb.step st8 r8), l2'⟩
  · have e : m = (zipD D1 D2).length := by omega
    subst e
    rw [List.drop_length] at l2'
    simp only [growLoop, Option.some.injEq, Prod.mk.injEq] at l2'
    obtain ⟨rfl, rfl⟩ := l2'
    refine .inl ⟨⟨wa, wb, .inl (.inl hwa), .inl (.inl hwb), by rw [zipD_len, ← rwa.len, ← rwb.len]; omega⟩, ?_⟩
    have nbp : ¬ Bn p := fun z => r1.sep p z mp
    have nbL : ¬ Bn L := fun z => r1.sep L z mL
    obtain ⟨fv, lfv, hp3, rfv⟩ := GS.self
    obtain ⟨lw, hL3, rlw⟩ := GS.list
    have npO : p ∉ O2 := r2'.sep p bp
    have nLO : L ∉ O2 := r2'.sep L bL
    have kA : ∀ a, Av Bn (p :: O2) a → Av B O2 a := fun a z => by
      rcases z with z | z
      · exact .inl (by rw [← hB]; exact .inl (.inl z))
      · rcases List.mem_cons.mp z with z | z
        · rw [z]; exact .inl bp
        · exact .inr z
    have nAL : ¬ Av Bn (p :: O2) L := fun z => by
      rcases z with z | z
      · exact nbL z
      · rcases List.mem_cons.mp z with z | z
        · exact neL z
        · exact nLO z
    have rLf : Rep g (Av Bn (p :: O2)) H2 (.lst Ls) (.ref L) := by
      simp only [Rep]
      exact ⟨L, lw, rfl, nAL, hL3, reps_less kA rlw⟩
    have own : OwnA g (Av Bn (p :: O2)) H2 (.obj cc (ks ++ [nm]) (ds ++ [.lst Ls])) p := ⟨dx, fv ++ [.ref L], by rw [List.length_append, List.length_append, lfv]; rfl, hp3, (reps_less kA rfv).app (Reps.one rLf)⟩
    have hiG : i < G2.length := by rw [← r2'.len]; exact (List.getElem?_eq_some_iff.mp ei).1
    have rfin : RS g Bn (p :: O2) H2 σ2 (G2.set i (some (.obj cc (ks ++ [nm]) (ds ++ [.lst Ls]), true))) := by
      refine ⟨by rw [List.length_set]; exact r2'.len, fun j d h => ?_, fun j d h => ?_, fun j k d e a h1 h2 h3 h4 => ?_, fun a h => r2'.trk a (kA a h), fun a h z => ?_, fun a h => r2'.kf a (kA a h)⟩
      · have hj : i ≠ j := fun z => by subst z; rw [List.getElem?_set_self hiG] at h; cases h
        rw [List.getElem?_set_ne hj] at h
        obtain ⟨u, h1, h2⟩ := r2'.slot j d h
        exact ⟨u, h1, rep_less kA h2⟩
      · by_cases hj : i = j
        · subst hj
          rw [List.getElem?_set_self hiG] at h; cases h
          exact ⟨p, ei, List.mem_cons_self, own⟩
        · rw [List.getElem?_set_ne hj] at h
          obtain ⟨u, h1, h2, h3⟩ := r2'.own j d h
          exact ⟨u, h1, List.mem_cons_of_mem _ h2, own_less kA h3⟩
      · by_cases hj : i = j
        · by_cases hk : i = k
          · rw [← hj, ← hk]
          · subst hj
            rw [List.getElem?_set_ne hk] at h2
            rw [ei] at h3; cases h3
            obtain ⟨u, q1, q2, _⟩ := r2'.own k e h2
            rw [h4] at q1; cases q1
            exact absurd q2 npO
        · by_cases hk : i = k
          · subst hk
            rw [List.getElem?_set_ne hj] at h1
            rw [ei] at h4; cases h4
            obtain ⟨u, q1, q2, _⟩ := r2'.own j d h1
            rw [h3] at q1; cases q1
            exact absurd q2 npO
          · rw [List.getElem?_set_ne hj] at h1
            rw [List.getElem?_set_ne hk] at h2
            exact r2'.dist j k d e a h1 h2 h3 h4
      · rcases List.mem_cons.mp z with z | z
        · rw [z] at h; exact nbp h
        · exact r2'.sep a (by rw [← hB]; exact .inl (.inl h)) z
    have sfin : Stp Ow H (p :: O2) H2 := ⟨(S7.trans s2').keep, fun a h => (S7.trans s2').grow a (by
      rcases List.mem_cons.mp h with h | h
      · rw [h]; exact List.mem_cons_self
      · exact List.mem_cons_of_mem _ (List.mem_cons_of_mem _ h)), (S7.trans s2').stay⟩
    exact ⟨pv, Bn, p :: O2, _, o, rfin, p2', he, po.step sfin⟩
end
end DV

namespace DV
open PySem L2 PySem.Spec PyProof.Rows
/-! ### max, min with default= -/
theorem depth_ints : ∀ ns : List Int, PyData.depthAll (ns.map PyData.int) ≤ 1
  | [] => Nat.zero_le _
  | n :: ns => Nat.max_le.mpr ⟨by simp [PyData.depth], depth_ints ns⟩
theorem alike_ints' (ns : List Int) : PySem.W.AlikeAll (ns.map PyData.int) := by
  constructor
  · intro x hx y hy
    obtain ⟨i, _, rfl⟩ := List.mem_map.mp hx
    obtain ⟨j, _, rfl⟩ := List.mem_map.mp hy
    rfl
  · intro x hx
    obtain ⟨i, _, rfl⟩ := List.mem_map.mp hx
    exact fun z => nomatch z
theorem foldMax : ∀ (ns : List Int) (n : Int), ns.foldl max n ∈ n :: ns ∧ ∀ y ∈ n :: ns, y ≤ ns.foldl max n
  | [], n => ⟨List.mem_cons_self, fun y hy => by simp at hy; rw [hy]; exact Int.le_refl _⟩
  | k :: ns, n => by
    have ih := foldMax ns (max n k)
    rw [List.foldl_cons]
    constructor
    · rcases List.mem_cons.mp ih.1 with e | e
      · rw [e]
        rcases Int.le_total n k with h | h
        · rw [Int.max_eq_right h]; simp
        · rw [Int.max_eq_left h]; simp
      · exact List.mem_cons_of_mem _ (List.mem_cons_of_mem _ e)
    · intro y hy
      have a := ih.2 _ List.mem_cons_self
      rcases List.mem_cons.mp hy with rfl | hy
      · omega
      · rcases List.mem_cons.mp hy with rfl | hy
        · omega
        · exact ih.2 y (List.mem_cons_of_mem _ hy)
theorem foldMin : ∀ (ns : List Int) (n : Int), ns.foldl min n ∈ n :: ns ∧ ∀ y ∈ n :: ns, ns.foldl min n ≤ y
  | [], n => ⟨List.mem_cons_self, fun y hy => by simp at hy; rw [hy]; exact Int.le_refl _⟩
  | k :: ns, n => by
    have ih := foldMin ns (min n k)
    rw [List.foldl_cons]
    constructor
    · rcases List.mem_cons.mp ih.1 with e | e
      · rw [e]
        rcases Int.le_total n k with h | h
        · rw [Int.min_eq_left h]; simp
        · rw [Int.min_eq_right h]; simp
      · exact List.mem_cons_of_mem _ (List.mem_cons_of_mem _ e)
    · intro y hy
      have a := ih.2 _ List.mem_cons_self
      rcases List.mem_cons.mp hy with rfl | hy
      · omega
      · rcases List.mem_cons.mp hy with rfl | hy
        · omega
        · exact ih.2 y (List.mem_cons_of_mem _ hy)
def rMxd (K : PySem.W.Frag) (m : Bool) : List V → List V → Hp → VK → Prop := fun vs zs H Q => ∃ (a : Addr) (ns : List Int) (z : V), vs = [V.ref a] ∧ zs = [z] ∧ SqL K H a (ns.map V.int) ∧ (ns = [] → Q z H) ∧ ∀ M, M ∈ ns → (∀ y, y ∈ ns → if m then y ≤ M else M ≤ y) → Q (.int M) H
section
variable {X : Cx}
theorem cr_maxDef (hc : X.calm = true) (hu : X.A.units + 64 < cLine) : CallRK X (.builtin "max") [Str.ofString "default"] (rMxd X.K true) := by
  intro pins s σ H vs zs us ws Q I r rz h
  obtain ⟨a, ns, z, rfl, rfl, hs, h0, q⟩ := h
  obtain ⟨its, rv, hl, _⟩ := I.list hs
  rw [Vals.ref1 r]
  obtain ⟨u, rfl, ru⟩ := rz.one
  have hd := depth_ints ns
  refine PySem.W.max_list_default (I.ok.hd hc) hl.isList (ints_readAll s.heap rv.ints) (alike_ints' ns) (by omega) (fun e h' tk hk => ?_) (fun y ys i v h' tk bs e hv hr hk => ?_)
  · have e : ns = [] := by cases ns with
      | nil => rfl
      | cons x l => simp at e
    exact ⟨z, H, I.kept hk, ru, h0 e⟩
  · cases ns with
    | nil => simp at e
    | cons x l =>
      simp only [List.map_cons, List.cons.injEq] at e
      obtain ⟨rfl, rfl⟩ := e
      rw [PySem.W.maxD_ints] at hr
      obtain ⟨t, rfl, _⟩ := reads_int_inv hr
      have f := foldMax l x
      exact ⟨.int _, H, I.kept hk, ⟨_, rfl⟩, q _ f.1 (fun y hy => by simpa using f.2 y hy)⟩
theorem cr_minDef (hc : X.calm = true) (hu : X.A.units + 64 < cLine) : CallRK X (.builtin "min") [Str.ofString "default"] (rMxd X.K false) := by
  intro pins s σ H vs zs us ws Q I r rz h
  obtain ⟨a, ns, z, rfl, rfl, hs, h0, q⟩ := h
  obtain ⟨its, rv, hl, _⟩ := I.list hs
  rw [Vals.ref1 r]
  obtain ⟨u, rfl, ru⟩ := rz.one
  have hd := depth_ints ns
  refine PySem.W.min_list_default (I.ok.hd hc) hl.isList (ints_readAll s.heap rv.ints) (alike_ints' ns) (by omega) (fun e h' tk hk => ?_) (fun y ys i v h' tk bs e hv hr hk => ?_)
  · have e : ns = [] := by cases ns with
      | nil => rfl
      | cons x l => simp at e
    exact ⟨z, H, I.kept hk, ru, h0 e⟩
  · cases ns with
    | nil => simp at e
    | cons x l =>
      simp only [List.map_cons, List.cons.injEq] at e
      obtain ⟨rfl, rfl⟩ := e
      rw [PySem.W.minD_ints] at hr
      obtain ⟨t, rfl, _⟩ := reads_int_inv hr
      have f := foldMin l x
      exact ⟨.int _, H, I.kept hk, ⟨_, rfl⟩, q _ f.1 (fun y hy => by simpa using f.2 y hy)⟩
end
section
variable {X : Cx} {g : Gx} {fs : List FS} {a b : Expr} {ia ib : E} {pos p kp : Pos} {es : List Expr}
theorem maxI_nil {ns : List Int} (h : maxI ns = none) : ns = [] := by cases ns <;> simp_all [maxI]
theorem minI_nil {ns : List Int} (h : minI ns = none) : ns = [] := by cases ns <;> simp_all [minI]
theorem mxd_core {m : Bool} {Q : VK} {σ : L2.St} {H : Hp} (hK : X.K = g.K) (h : tR g fs (.mxd m ia ib) σ H Q) : tCKw (rMxd X.K m) (tCons (tR g fs ia) tNil) (tCons (tR g fs ib) tNil) σ H Q := by
  obtain ⟨Bn, Ow, Γ, r, Γ', rs, he, hQ⟩ := h
  simp only [ev] at he
  obtain ⟨⟨x, Γ1⟩, e1, he⟩ := Option.bind_eq_some_iff.mp he
  obtain ⟨⟨y, Γ2⟩, e2, he⟩ := Option.bind_eq_some_iff.mp he
  obtain ⟨d, ed, he⟩ := Option.bind_eq_some_iff.mp he
  obtain ⟨e, ee, he⟩ := Option.bind_eq_some_iff.mp he
  obtain ⟨d', h6, he⟩ := Option.map_eq_some_iff.mp he
  simp only [Prod.mk.injEq] at he
  obtain ⟨rfl, rfl⟩ := he
  rw [← datum_dn] at ed ee
  rw [hK]
  show tR g fs ia σ H fun v H1 => tR g fs ib σ H1 fun w H2 => rMxd g.K m [v] [w] H2 Q
  refine tR_two rs e1 e2 fun v w H2 O2 s2 r2 v2 w2 => ?_
  have q1 := v2.rdb r2 ed
  have q2 := w2.rdb r2 ee
  cases d with
  | lst xs =>
    simp only [mxdD] at h6
    obtain ⟨ns, e3, h6⟩ := Option.bind_eq_some_iff.mp h6
    obtain ⟨l, ws, rfl, e4, r1⟩ := q1
    rw [ints_of r1 e3] at e4
    refine ⟨l, ns, w, rfl, rfl, .inl (.inl e4), fun hn => ?_, fun M hM hy => ?_⟩
    · subst hn
      have h7 : (if flatD e then some e else none) = some d' := by
        cases m
        · simpa only [Bool.false_eq_true, if_false, minI] using h6
        · simpa only [if_true, maxI] using h6
      simp only [Option.ite_none_right_eq_some, Option.some.injEq] at h7
      obtain ⟨hf, rfl⟩ := h7
      refine hQ w H2 O2 s2 r2 ?_
      show Rep g (Av Bn O2) H2 e w
      cases e <;> first | exact q2 | (simp [flatD] at hf)
    · have : d' = .int M := by
        cases m with
        | true =>
          simp only [if_true] at h6 hy
          cases hm : maxI ns with
          | none => have := maxI_nil hm; subst this; cases hM
          | some k =>
            rw [hm] at h6
            have sp := maxI_spec hm
            simp only [Option.some.injEq] at h6
            rw [← h6, Int.le_antisymm (hy k sp.1) (sp.2 M hM)]
        | false =>
          simp only [Bool.false_eq_true, if_false] at h6 hy
          cases hm : minI ns with
          | none => have := minI_nil hm; subst this; cases hM
          | some k =>
            rw [hm] at h6
            have sp := minI_spec hm
            simp only [Option.some.injEq] at h6
            rw [← h6, Int.le_antisymm (sp.2 M hM) (hy k sp.1)]
      subst this
      exact hQ _ H2 O2 s2 r2 (show Rep g (Av Bn O2) H2 (.int M) (.int M) by simp only [Rep])
  | _ => simp only [mxdD, reduceCtorEq] at h6
theorem p_maxd (C : Cok g X) (hg : Gl X "max") (hm : X.mg "max" = none) (ha : PE X a (tR g fs ia)) (hb : PE X b (tR g fs ib))
    (na : starEach [a] X.env = (false, eval a X.env) :: starEach [] X.env)
    (he : backTo pos (starEach [a] X.env) = (false, eval a X.env) :: backTo pos (starEach [] X.env)) (hpl : (backTo pos (starEach [a] X.env)).any (·.1) = false)
    (hall : (backToKw pos (keywordEach [⟨some "default", b, kp⟩] X.env)).all (·.1.isSome) = true) (hnone : (backToKw pos (keywordEach [⟨some "default", b, kp⟩] X.env)).any (·.1.isNone) = false) (hks : (backToKw pos (keywordEach [⟨some "default", b, kp⟩] X.env)).filterMap (·.1) = [Str.ofString "default"]) :
    PE X (.Call (.Name "max" p) [a] [⟨some "default", b, kp⟩] pos) (tR g fs (.mxd true ia ib)) :=
  PE.weak (pe_callBK (cr_maxDef C.calm C.hu) hg hm PyProof.Rows.boot_max (pa_cons ha pa_nil na) (pk_cons hb pk_nil) (by decide) (by decide) he hpl hall hnone hks) fun σ H Q h => mxd_core C.K h
theorem p_mind (C : Cok g X) (hg : Gl X "min") (hm : X.mg "min" = none) (ha : PE X a (tR g fs ia)) (hb : PE X b (tR g fs ib))
    (na : starEach [a] X.env = (false, eval a X.env) :: starEach [] X.env)
    (he : backTo pos (starEach [a] X.env) = (false, eval a X.env) :: backTo pos (starEach [] X.env)) (hpl : (backTo pos (starEach [a] X.env)).any (·.1) = false)
    (hall : (backToKw pos (keywordEach [⟨some "default", b, kp⟩] X.env)).all (·.1.isSome) = true) (hnone : (backToKw pos (keywordEach [⟨some "default", b, kp⟩] X.env)).any (·.1.isNone) = false) (hks : (backToKw pos (keywordEach [⟨some "default", b, kp⟩] X.env)).filterMap (·.1) = [Str.ofString "default"]) :
    PE X (.Call (.Name "min" p) [a] [⟨some "default", b, kp⟩] pos) (tR g fs (.mxd false ia ib)) :=
  PE.weak (pe_callBK (cr_minDef C.calm C.hu) hg hm PyProof.Rows.boot_min (pa_cons ha pa_nil na) (pk_cons hb pk_nil) (by decide) (by decide) he hpl hall hnone hks) fun σ H Q h => mxd_core C.K h
end

/-! ### list.count, list.index of flat items; list.pop() -/
def rCntV (K : PySem.W.Frag) : V → List V → Hp → VK → Prop := fun x xs H Q => ∃ (a : Addr) (ys : List V) (y : V), x = V.ref a ∧ xs = [y] ∧ SqL K H a ys ∧ flatV y = true ∧ ys.all flatV = true ∧ Q (.int ((ys.countP fun z => eqV z y : Nat) : Int)) H
theorem countP_eqU (y : V) : ∀ {ys : List V} {us : List Value}, Vals ys us → ys.all flatV = true → us.countP (eqU y) = ys.countP fun z => eqV z y
  | _, _, .nil, _ => rfl
  | z :: ys, u :: us, .cons r t, f => by
    rw [List.all_cons, Bool.and_eq_true] at f
    rw [List.countP_cons, List.countP_cons, countP_eqU y t f.2, eqU_of r f.1]
theorem mt_countV {X : Cx} : MtR X "list.count" (rCntV X.K) := by
  intro pins s σ H x xs v us Q I rx rxs h
  obtain ⟨a, ys, y, rfl, rfl, hs, fy, fys, q⟩ := h
  cases rx
  obtain ⟨u, rfl, ru⟩ := rxs.one
  obtain ⟨its, rv, ⟨⟨cls, dd, data, sl⟩, n, ho, hc, hdn, hd⟩, hlen⟩ := I.list hs
  simp only at hc hd
  subst hc hd
  refine call_meets PySem.F.slot_list_count ⟨_, ho, rfl⟩ PySem.F.entry_list_count (PySem.F.args_list_count_2 _ _)
    (SeqAt.list_countAt a its.toArray n dd sl u (eqU y)) ⟨ho, fun u' hu' => mem_eqAt ru fy rv fys u' (by simpa using hu'), ?_⟩
  refine ⟨.int ((ys.countP fun z => eqV z y : Nat) : Int), H, I.tok _, ⟨s.toks, ?_⟩, q⟩
  show Value.int ((its.toArray.toList.countP (eqU y) : Nat) : Int) s.toks = _
  rw [show its.toArray.toList = its from rfl, countP_eqU y rv fys]
section
variable {X : Cx} {g : Gx} {fs : List FS} {a b : Expr} {ia ib : E} {apos cpos : Pos}
theorem isLD_lst {d : D} (h : isLD d = true) : ∃ xs, d = .lst xs := by
  cases d <;> first | exact ⟨_, rfl⟩ | (simp [isLD] at h)
theorem cnt_eq {A : Addr → Prop} {H : Hp} {y : D} {w : V} (hy : flatD y = true) (hw : Rep g A H y w) : ∀ {ds : List D} {vs : List V}, ds.all flatD = true → Reps g A H ds vs → (vs.countP fun z => eqV z w) = (ds.filter fun d => eqd d y).length
  | [], _, _, h => by simp only [Reps] at h; subst h; rfl
  | d :: ds, _, k, h => by
    rw [List.all_cons, Bool.and_eq_true] at k
    simp only [Reps] at h
    obtain ⟨v, r, rfl, h1, h2⟩ := h
    rw [List.countP_cons, cnt_eq hy hw k.2 h2, (flat_rep k.1 h1).2 hy hw, List.filter_cons]
    cases eqd d y <;> simp
theorem idx_eq {A : Addr → Prop} {H : Hp} {y : D} {w : V} (hy : flatD y = true) (hw : Rep g A H y w) : ∀ {ds : List D} {vs : List V}, ds.all flatD = true → Reps g A H ds vs → ∀ (j : Nat), (ds.findIdx? fun d => eqd d y) = some j → ∃ z, vs[j]? = some z ∧ eqV z w = true ∧ ∀ (m : Nat) (z' : V), m < j → vs[m]? = some z' → eqV z' w = false
  | [], _, _, h, j, hj => by simp at hj
  | d :: ds, _, k, h, j, hj => by
    rw [List.all_cons, Bool.and_eq_true] at k
    simp only [Reps] at h
    obtain ⟨v, r, rfl, h1, h2⟩ := h
    have e := (flat_rep k.1 h1).2 hy hw
    rw [List.findIdx?_cons] at hj
    cases hc : eqd d y with
    | true =>
      rw [hc] at hj
      simp only [if_true, Option.some.injEq] at hj
      subst hj
      exact ⟨v, rfl, by rw [e, hc], fun m z' hm => absurd hm (Nat.not_lt_zero _)⟩
    | false =>
      rw [hc] at hj
      simp only [Bool.false_eq_true, if_false] at hj
      obtain ⟨i, hi, rfl⟩ := Option.map_eq_some_iff.mp hj
      obtain ⟨z, q1, q2, q3⟩ := idx_eq hy hw k.2 h2 i hi
      refine ⟨z, by simpa using q1, q2, fun m z' hm hz => ?_⟩
      cases m with
      | zero => simp at hz; subst hz; rw [e, hc]
      | succ m => exact q3 m z' (by omega) (by simpa using hz)
theorem cnt_flat {xs : List D} {d r : D} (h : cntD (.lst xs) d = some r) : flatD d = true ∧ xs.all flatD = true ∧ r = .int ((xs.filter fun y => eqd y d).length : Int) := by
  simp only [cntD, Option.ite_none_right_eq_some, Bool.and_eq_true, Option.some.injEq] at h
  exact ⟨h.1.1, h.1.2, h.2.symm⟩
theorem p_cnt (C : Cok g X) (ho : PE X a (tR g fs ia)) (he : PE X b (tR g fs ib)) (hbase : attributeBase a "count" X.env (eval a X.env) = eval a X.env)
    (hline : (apos.endLine == cpos.line) = true) (hs : starEach [b] X.env = [(false, eval b X.env)]) :
    PE X (.Call (.Attribute a "count" apos) [b] [] cpos) (tR g fs (.cnt ia ib)) := by
  refine PE.weak (pe_bm PySem.F.plainAttrs_list PySem.F.slot_list_count PySem.F.type_list_count mt_countV ho (pa_cons he pa_nil (by rw [hs]; rfl)) hbase (by rw [hs]; rfl) hline (by rw [hs]; rfl) rfl) ?_
  rintro σ H Q ⟨Bn, Ow, Γ, r, Γ', rs, he, hQ⟩
  simp only [ev] at he
  obtain ⟨⟨x, Γ1⟩, e1, he⟩ := Option.bind_eq_some_iff.mp he
  obtain ⟨d0, e0, he⟩ := Option.bind_eq_some_iff.mp he
  simp only [Option.ite_none_right_eq_some] at he
  obtain ⟨hl, he⟩ := he
  obtain ⟨⟨y, Γ2⟩, e2, he⟩ := Option.bind_eq_some_iff.mp he
  obtain ⟨d, ed, he⟩ := Option.bind_eq_some_iff.mp he
  obtain ⟨e, ee, he⟩ := Option.bind_eq_some_iff.mp he
  obtain ⟨r', h6, he⟩ := Option.map_eq_some_iff.mp he
  simp only [Prod.mk.injEq] at he
  obtain ⟨rfl, rfl⟩ := he
  rw [← datum_dn] at e0 ed ee
  obtain ⟨xs0, rfl⟩ := isLD_lst hl
  refine tR_one rs e1 fun v H1 O1 s1 r1 v1 => ?_
  obtain ⟨l, ws, rfl, e3, _⟩ := v1.rdb r1 e0
  refine ⟨.inl ⟨rfl, ws, .inl (.inl e3)⟩, tR_one r1 e2 fun w H2 O2 s2 r2 w2 => ?_⟩
  have q1 := (v1.step s2 r2).rdb r2 ed
  have q2 := w2.rdb r2 ee
  cases d with
  | lst xs =>
    obtain ⟨fe, fx, rfl⟩ := cnt_flat h6
    obtain ⟨l', ws', el, e4, rp⟩ := q1
    cases el
    have hw := rdb_flat fe q2
    refine ⟨_, ws', w, rfl, rfl, ?_, (flat_rep fe hw).1, (flat_reps fx rp fe hw).1, ?_⟩
    · exact .inl (.inl e4)
    · rw [cnt_eq fe hw fx rp]
      exact hQ _ _ O2 (s1.trans s2) r2 (show Rep g (Av Bn O2) H2 _ _ by simp only [Rep])
  | _ => simp only [cntD, reduceCtorEq] at h6
theorem p_idx (C : Cok g X) (ho : PE X a (tR g fs ia)) (he : PE X b (tR g fs ib)) (hbase : attributeBase a "index" X.env (eval a X.env) = eval a X.env)
    (hline : (apos.endLine == cpos.line) = true) (hs : starEach [b] X.env = [(false, eval b X.env)]) :
    PE X (.Call (.Attribute a "index" apos) [b] [] cpos) (tR g fs (.idx ia ib)) := by
  refine PE.weak (pe_bm PySem.F.plainAttrs_list PySem.F.slot_list_index PySem.F.type_list_index mt_index ho (pa_cons he pa_nil (by rw [hs]; rfl)) hbase (by rw [hs]; rfl) hline (by rw [hs]; rfl) rfl) ?_
  rintro σ H Q ⟨Bn, Ow, Γ, r, Γ', rs, he, hQ⟩
  simp only [ev] at he
  obtain ⟨⟨x, Γ1⟩, e1, he⟩ := Option.bind_eq_some_iff.mp he
  obtain ⟨d0, e0, he⟩ := Option.bind_eq_some_iff.mp he
  simp only [Option.ite_none_right_eq_some] at he
  obtain ⟨hl, he⟩ := he
  obtain ⟨⟨y, Γ2⟩, e2, he⟩ := Option.bind_eq_some_iff.mp he
  obtain ⟨d, ed, he⟩ := Option.bind_eq_some_iff.mp he
  obtain ⟨e, ee, he⟩ := Option.bind_eq_some_iff.mp he
  obtain ⟨r', h6, he⟩ := Option.map_eq_some_iff.mp he
  simp only [Prod.mk.injEq] at he
  obtain ⟨rfl, rfl⟩ := he
  rw [← datum_dn] at e0 ed ee
  obtain ⟨xs0, rfl⟩ := isLD_lst hl
  refine tR_one rs e1 fun v H1 O1 s1 r1 v1 => ?_
  obtain ⟨l, ws, rfl, e3, _⟩ := v1.rdb r1 e0
  refine ⟨.inl ⟨rfl, ws, .inl (.inl e3)⟩, tR_one r1 e2 fun w H2 O2 s2 r2 w2 => ?_⟩
  have q1 := (v1.step s2 r2).rdb r2 ed
  have q2 := w2.rdb r2 ee
  cases d with
  | lst xs =>
    simp only [idxD, Option.ite_none_right_eq_some, Bool.and_eq_true] at h6
    obtain ⟨⟨fe, fx⟩, h6⟩ := h6
    obtain ⟨j, hj, rfl⟩ := Option.map_eq_some_iff.mp h6
    obtain ⟨l', ws', el, e4, rp⟩ := q1
    cases el
    have hw := rdb_flat fe q2
    obtain ⟨z, k1, k2, k3⟩ := idx_eq fe hw fx rp j hj
    exact ⟨_, ws', w, j, z, rfl, rfl, .inl (.inl e4), (flat_rep fe hw).1, (flat_reps fx rp fe hw).1, k1, k2, k3, hQ _ _ O2 (s1.trans s2) r2 (show Rep g (Av Bn O2) H2 _ _ by simp only [Rep])⟩
  | _ => simp only [idxD, reduceCtorEq] at h6
theorem Reps.dropLast {A : Addr → Prop} {H : Hp} {ds : List D} {vs : List V} (h : Reps g A H ds vs) : Reps g A H ds.dropLast vs.dropLast := by
  rw [List.dropLast_eq_take, List.dropLast_eq_take, ← h.len]
  exact h.take _
theorem p_pop {i : Nat} (C : Cok g X) (ho : PE X a (tVar i)) (hbase : attributeBase a "pop" X.env (eval a X.env) = eval a X.env) (hline : (apos.endLine == cpos.line) = true) :
    PE X (.Call (.Attribute a "pop" apos) [] [] cpos) (tR g fs (.pop i)) := by
  refine PE.weak (pe_bm0 PySem.F.plainAttrs_list PySem.F.slot_list_pop PySem.F.type_list_pop mt_pop ho hbase hline) ?_
  rintro σ H Q ⟨Bn, Ow, Γ, r, Γ', rs, he, hQ⟩
  simp only [ev] at he
  obtain ⟨⟨d, c⟩, e1, he⟩ := Option.map_eq_some_iff.mp he
  simp only [Prod.mk.injEq] at he
  obtain ⟨rfl, rfl⟩ := he
  unfold popD at e1
  split at e1
  · rename_i xs q
    split at e1
    · rename_i dl el
      simp only [Option.some.injEq, Prod.mk.injEq] at e1
      obtain ⟨rfl, rfl⟩ := e1
      obtain ⟨p, ep, mp, vs, hv, rp⟩ := rs.own i _ q
      have e2 : xs[xs.length - 1]? = some dl := by rw [← List.getLast?_eq_getElem?]; exact el
      obtain ⟨v, e3, rv⟩ := rp.get e2
      obtain ⟨r3, s3⟩ := rs.mut q ep rp.dropLast
      refine ⟨_, ep, .inl ⟨rfl, vs, .inl (.inl hv)⟩, p, vs, v, rfl, rfl, hv, by rw [← rp.len]; exact e3, ?_⟩
      exact hQ v _ Ow s3 r3 (rv.step s3 r3)
    · cases e1
  · cases e1
/-- a new value, shared from now on -/
theorem p_shr (h : PE X a (tR g fs ia)) : PE X a (tR g fs (.shr ia)) := by
  refine PE.weak h ?_
  rintro σ H Q ⟨Bn, Ow, Γ, r, Γ', rs, he, hQ⟩
  simp only [ev] at he
  obtain ⟨⟨x, Γ1⟩, e1, he⟩ := Option.bind_eq_some_iff.mp he
  obtain ⟨⟨d, Γ2⟩, e2, he⟩ := Option.map_eq_some_iff.mp he
  simp only [Prod.mk.injEq] at he
  obtain ⟨rfl, rfl⟩ := he
  refine ⟨Bn, Ow, Γ, x, Γ1, rs, e1, fun v H1 O1 s1 r1 vl => ?_⟩
  obtain ⟨O2, s2, r2, p2⟩ := fre_ok r1 vl e2
  exact hQ v H1 O2 (s1.trans s2) r2 (by simpa only [Val] using p2)
end
end DV

namespace DV
open PySem L2 PySem.Spec PyProof.Rows
/-! ### min of pairs of ints -/
theorem lt_pLt (p q : Int × Int) : PySem.W.DatumOrd.lt p q = pLt p q := by
  show (if p.1 = q.1 then decide (p.2 < q.2) else decide (p.1 < q.1)) = pLt p q
  unfold pLt
  by_cases h : p.1 = q.1
  · rw [if_pos h]
    exact decide_eq_decide.mpr ⟨fun k => .inr ⟨h, k⟩, fun k => by omega⟩
  · rw [if_neg h]
    exact decide_eq_decide.mpr ⟨fun k => .inl k, fun k => by omega⟩
theorem minOf_minP (p : Int × Int) (ps : List (Int × Int)) : minP (p :: ps) = some (PySem.W.minOf p ps) := by
  unfold minP PySem.W.minOf
  simp only [lt_pLt]
def pyP (p : Int × Int) : PyData := .tuple [.int p.1, .int p.2]
theorem pyP_toD (p : Int × Int) : pyP p = PySem.W.Datum.toD p := rfl
theorem pyP_inj {p q : Int × Int} (h : pyP p = pyP q) : p = q := by
  unfold pyP at h
  simp only [PyData.tuple.injEq, List.cons.injEq, PyData.int.injEq, and_true] at h
  exact Prod.ext h.1 h.2
theorem pairs_dp {K : PySem.W.Frag} {A : Addr → Prop} {H : Hp} : ∀ {ps : List (Int × Int)} {vs : List V}, Paired (fun p v => ∃ t, v = V.ref t ∧ ¬ A t ∧ SqT K H t [.int p.1, .int p.2]) ps vs → DpAll K H vs (ps.map pyP)
  | _, _, .nil => .nil
  | _, _, .cons ⟨t, e, _, sq⟩ r => by
    subst e
    exact .cons (.tup sq (.cons (.int _) (.cons (.int _) .nil))) (pairs_dp r)
section
variable {X : Cx} {g : Gx}
theorem vals_getR : ∀ {vs : List V} {us : List Value}, Vals vs us → ∀ {i : Nat} {u : Value}, us[i]? = some u → ∃ v, vs[i]? = some v ∧ RelV v u
  | _, _, .nil, i, u, h => by simp at h
  | _, _, .cons r t, i, u, h => by
    cases i with
    | zero => simp at h; subst h; exact ⟨_, rfl, r⟩
    | succ i => simp at h; obtain ⟨v, e, q⟩ := vals_getR t h; exact ⟨v, by simpa using e, q⟩
theorem paired_getR {α β : Type} {R : α → β → Prop} : ∀ {ps : List α} {vs : List β}, Paired R ps vs → ∀ {i : Nat} {v : β}, vs[i]? = some v → ∃ p, ps[i]? = some p ∧ R p v
  | _, _, .nil, i, v, h => by simp at h
  | _, _, .cons r t, i, v, h => by
    cases i with
    | zero => simp at h; subst h; exact ⟨_, rfl, r⟩
    | succ i => simp at h; obtain ⟨p, e, q⟩ := paired_getR t h; exact ⟨p, by simpa using e, q⟩
theorem pair_reads {A : Addr → Prop} {pins : List (Addr × Obj)} {σ : L2.St} {H : Hp} {s : Shared} (I : Inv X pins σ H s) {p : Int × Int} {v : V} {u : Value} (h : ∃ t, v = V.ref t ∧ ¬ A t ∧ SqT X.K H t [.int p.1, .int p.2]) (r : RelV v u) : ∃ as, Reads s.heap u (pyP p) as := by
  obtain ⟨t, rfl, _, sq⟩ := h
  exact Dp.reads I (pyP p) _ _ (.tup sq (.cons (.int _) (.cons (.int _) .nil))) r
theorem b_minp (C : Cok g X) : CallR X (.builtin "min") (rBi g .minp) := by
  intro pins s σ H vs us Q I r h
  obtain ⟨A, ds, r0, hp, tr, hb, hQ⟩ := h
  match ds, hb with
  | [.lst xs], hb =>
    simp only [biD] at hb
    obtain ⟨ps, e1, hb⟩ := Option.bind_eq_some_iff.mp hb
    obtain ⟨m, e2, rfl⟩ := Option.map_eq_some_iff.mp hb
    obtain ⟨v, rfl, q⟩ := paired1 hp
    obtain ⟨a, ws, rfl, ha, rp⟩ := q
    have pr := pairs_reps rp e1
    rw [← C.K] at pr
    obtain ⟨its, rv, hl, hz⟩ := I.list (show SqL X.K H a ws from .inl (.inl ha))
    rw [Vals.ref1 r]
    obtain ⟨as, hr⟩ := Dp.readsAll I _ _ _ (pairs_dp pr) rv
    cases ps with
    | nil => simp [minP] at e2
    | cons p ps =>
      rw [minOf_minP] at e2
      simp only [Option.some.injEq] at e2
      have hA := PySem.W.alikeAll_datum (p :: ps)
      have hdp : PyData.depthAll ((p :: ps).map pyP) ≤ 1 := PySem.W.depthAll_map (p :: ps)
      have hu := C.hu
      refine PySem.W.min_list_data (I.ok.hd C.calm) hl.isList (xs := ps.map pyP) (x := pyP p) hr hA (by
        have : PyData.depthAll (pyP p :: ps.map pyP) ≤ 1 := hdp
        omega) fun i v h' tk bs hv hr' hk => ?_
      obtain ⟨wv, hw, rw'⟩ := vals_getR rv (by simpa using hv)
      obtain ⟨q0, hq, sq⟩ := paired_getR pr hw
      obtain ⟨cs, r3⟩ := pair_reads I sq rw'
      have e4 : pyP q0 = PySem.W.minD (pyP p) (ps.map pyP) := (Reads.unique (Reads.keeps hk r3) _ _ hr').1
      have e5 : q0 = m := by
        apply pyP_inj
        rw [e4, ← e2]
        exact PySem.W.minD_map p ps
      subst e5
      refine ⟨wv, H, I.kept hk, rw', hQ _ H (same_rfl H) ?_⟩
      obtain ⟨t, rfl, na, sq⟩ := sq
      rw [C.K] at sq
      simp only [Res, Rep, Reps]
      exact ⟨t, _, rfl, na, sq, _, _, rfl, rfl, _, _, rfl, rfl, rfl⟩
end
section
variable {prog : Program} {w : World} {A : Around} {E : Value → Shared → Prop} {s : Shared}
theorem call_min_twoH {a b : Value} {Q : Value → Shared → Prop}
    (h : wpAny (model prog w) A.in1 (pyIter (.ref s.heap.objs.size)) (fun it s₂ => ∃ I fp wr G n P St H bt, it = .ref I ∧ WalksS prog w A.in1 I fp wr G n P St ∧ St 0 s₂ ∧ (∀ b ∈ fp, b < s₂.heap.objs.size) ∧ 0 < n ∧
      (∀ b o, H.get? b = some o → b ∉ wr) ∧ (∀ b o, H.get? b = some o → s₂.heap.get? b = some o) ∧ CmpIn prog w A.in1 .Lt H P bt ∧ ∀ v s', P (argBest bt (n - 1)) v → Moved wr G s₂ s' → Q v s') E
      { s with heap := s.heap.push { cls := .type "tuple", data := .seq #[a, b] } }) :
    wpAny (model prog w) A (call (.builtin "min") [a, b]) Q E s := by
  have hname : (toString "min" ++ toString ".loop" : String) = "min.loop" := by decide
  refine call_function_tree F.kind_min F.plain_min F.entry_min (F.args_min2 _ _) ?_
  show wpAny _ A.in1 (Builtin.Builtins.bindParams "min" ["key", "default"] 0 ⟨[], []⟩ >>= _) _ _ s
  refine wpAny_bind (wpAny_of_eq (show Builtin.Builtins.bindParams "min" ["key", "default"] 0 ⟨[], []⟩ = pure [none, none] from rfl) ?_)
  show wpAny _ A.in1 (newTuple [a, b] >>= _) _ _ s
  refine wpAny_bind (wpAny_newObj_type ?_)
  refine wpAny_bind (wpAny_mono h (fun it s₂ h₂ => ?_) fun _ _ e => e)
  obtain ⟨I, fp, wr, G, n, P, St, H, bt, rfl, W, hst, hfp, hn, hw, hkeep, hcmp, hQ⟩ := h₂
  refine wpAny_bind (wpAny_newObj_type ?_)
  have hSf : s₂.heap.objs.size ∉ fp := fun hm => Nat.lt_irrefl _ (hfp _ hm)
  rw [hname]
  refine wpAny_pure ⟨plainId_quiet F.plain_min_loop _, codeAny_min_loop_firstH W H hw bt hcmp s₂.heap.objs.size hSf (fresh_in hkeep) _ hn (fun b o e => Heap.get?_push_of_some _ (hkeep b o e)) (W.frame 0 s₂ _ s₂.toks hst (Nat.le_refl _) fun b _ o e => Heap.get?_push_of_some _ e) (Heap.get?_push_size _ rfl) fun v s' hP hm => ?_⟩
  exact hQ v s' hP (Moved.drop_new (tk := s₂.toks) hm (Nat.le_refl _))
theorem min_two_data {a b : Value} {da db : PyData} {as bs : List Addr} {Q : Value → Shared → Prop} (hh : A.handled = none) (ra : Reads s.heap a da as) (rb : Reads s.heap b db bs) (hA : PySem.W.AlikeAll [da, db]) (hu : A.units + 1 + PyData.depthAll [da, db] < cLine)
    (h : ∀ h' tk, (∀ c o, s.heap.get? c = some o → h'.get? c = some o) → Q (if PySem.W.dataLt db da then b else a) { s with heap := h', toks := tk }) :
    wpAny (model prog w) A (call (.builtin "min") [a, b]) Q E s := by
  refine call_min_twoH ?_
  have k1 : ∀ c o, s.heap.get? c = some o → (s.heap.push { cls := .type "tuple", data := .seq #[a, b] }).get? c = some o := fun c o e => Heap.get?_push_of_some _ e
  have hT : (s.heap.push { cls := .type "tuple", data := .seq #[a, b] }).IsTuple s.heap.objs.size #[a, b] := ⟨_, Heap.get?_push_size _ rfl, rfl, 0, rfl⟩
  have hr : ReadsAll (s.heap.push { cls := .type "tuple", data := .seq #[a, b] }) (#[a, b] : Array Value).toList [da, db] _ := .cons (Reads.keeps k1 ra) (.cons (Reads.keeps k1 rb) .nil)
  refine PySem.W.iter_tupleW (A := A.in1) hh hT fun s₂ e W st hfp hw hk => ?_
  refine ⟨_, _, _, _, _, _, _, _, _, rfl, W, st, hfp, by simp, hw, hk, PySem.W.cmpIn_lt (s := { s with heap := s.heap.push { cls := .type "tuple", data := .seq #[a, b] } }) (A := A.in1) hr hA (by show A.units + 1 + _ < _; exact hu), fun v s' hP m => ?_⟩
  obtain ⟨h', tk, rfl, hk'⟩ := PySem.W.moved_old e rfl m
  have := h h' tk fun c o e => hk' c o (k1 c o e)
  have hv : v = if PySem.W.dataLt db da then b else a := by
    have e1 : argBest (fun i j => PySem.W.dataLt ([da, db].getD i .none) ([da, db].getD j .none)) 1 = if PySem.W.dataLt db da then 1 else 0 := rfl
    have hP' : (#[a, b] : Array Value)[argBest (fun i j => PySem.W.dataLt ([da, db].getD i .none) ([da, db].getD j .none)) 1]? = some v := hP
    rw [e1] at hP'
    cases hd : PySem.W.dataLt db da with
    | true => simp [hd] at hP'; simp [hP']
    | false => simp [hd] at hP'; simp [hP']
  rw [hv]; exact this
end
section
variable {X : Cx} {g : Gx}
theorem b_min2p (C : Cok g X) : CallR X (.builtin "min") (rBi g .min2p) := by
  intro pins s σ H vs us Q I r h
  obtain ⟨A, ds, r0, hp, tr, hb, hQ⟩ := h
  match ds, hb with
  | [.tup [.int i, .int j], .tup [.int k, .int l]], hb =>
    simp only [biD, Option.some.injEq] at hb; subst hb
    obtain ⟨v, w, rfl, q, q'⟩ := paired2 hp
    obtain ⟨u, w', rfl, rv, rw'⟩ := vals2 r
    have rp : Reps g A H [.tup [.int i, .int j], .tup [.int k, .int l]] [v, w] := by
      simp only [Reps]
      exact ⟨v, _, rfl, q, w, _, rfl, q', rfl⟩
    have pr := pairs_reps (ps := [(i, j), (k, l)]) rp rfl
    rw [← C.K] at pr
    obtain ⟨s1, s2⟩ : (∃ t, v = V.ref t ∧ ¬ A t ∧ SqT X.K H t [.int i, .int j]) ∧ (∃ t, w = V.ref t ∧ ¬ A t ∧ SqT X.K H t [.int k, .int l]) := by
      cases pr with
      | cons a1 t1 => cases t1 with | cons a2 t2 => exact ⟨a1, a2⟩
    obtain ⟨as, r1⟩ := pair_reads I (p := (i, j)) s1 rv
    obtain ⟨bs, r2⟩ := pair_reads I (p := (k, l)) s2 rw'
    have hu := C.hu
    have hdp : PyData.depthAll [pyP (i, j), pyP (k, l)] ≤ 1 := PySem.W.depthAll_map [(i, j), (k, l)]
    refine min_two_data (I.ok.hd C.calm) r1 r2 (PySem.W.alikeAll_datum [(i, j), (k, l)]) (by omega) fun h' tk hk => ?_
    have e : PySem.W.dataLt (pyP (k, l)) (pyP (i, j)) = pLt (k, l) (i, j) := (PySem.W.DatumOrd.lt_eq (k, l) (i, j)).trans (lt_pLt _ _)
    rw [e]
    have fin : ∀ (p : Int × Int) (v : V) (u : Value), RelV v u → (∃ t, v = V.ref t ∧ ¬ A t ∧ SqT X.K H t [.int p.1, .int p.2]) → (∀ v H', Same H H' → Res g A H H' (.fz (.tup [.int p.1, .int p.2])) v → Q v H') → ∃ x H1, Inv X pins σ H1 { s with heap := h', toks := tk } ∧ RelV x u ∧ Q x H1 := by
      intro p v u rv ⟨t, ev, na, sq⟩ hq
      subst ev
      rw [C.K] at sq
      refine ⟨_, H, I.kept hk, rv, hq _ H (same_rfl H) ?_⟩
      simp only [Res, Rep, Reps]
      exact ⟨t, _, rfl, na, sq, _, _, rfl, rfl, _, _, rfl, rfl, rfl⟩
    cases hb : pLt (k, l) (i, j) with
    | true => rw [hb] at hQ; exact fin (k, l) w w' rw' s2 hQ
    | false => rw [hb] at hQ; exact fin (i, j) v u rv s1 hQ
variable {fs : List FS} {e : Expr} {es : List Expr} {ies : List E} {p pos : Pos}
theorem k_minp (C : Cok g X) (ha : PA X (e :: es) (tAs g fs ies)) (he : starEach (e :: es) X.env = (false, eval e X.env) :: starEach es X.env) (hpl : (backTo pos (starEach es X.env)).any (·.1) = false) (hm : X.mg "min" = none) (hg : Gl X "min") : PE X (.Call (.Name "min" p) (e :: es) [] pos) (tR g fs (.bi .minp ies)) :=
  p_biB (b_minp C) hg hm PyProof.Rows.boot_min ha (by decide) (by decide) he hpl
theorem k_min2p (C : Cok g X) (ha : PA X (e :: es) (tAs g fs ies)) (he : starEach (e :: es) X.env = (false, eval e X.env) :: starEach es X.env) (hpl : (backTo pos (starEach es X.env)).any (·.1) = false) (hm : X.mg "min" = none) (hg : Gl X "min") : PE X (.Call (.Name "min" p) (e :: es) [] pos) (tR g fs (.bi .min2p ies)) :=
  p_biB (b_min2p C) hg hm PyProof.Rows.boot_min ha (by decide) (by decide) he hpl
end
end DV

namespace L
open PySem L2 DV
def F__law_cell_at : FS := runF [] 2 2 [.ite (.cmp .lt (.var 1) (.bi .len [.var 0])) [.ret (.ix (.var 0) (.var 1))] [],
  .ret (.cst (.int 0))]
def F__law_source_of : FS := runF [] 1 1 [.ret (.lst [.bin .mul (.var 0) (.bi .int1 [.cmp .ge (.var 0) (.bin .pow (.cst (.int 10)) (.cst (.int 18)))]), .bin .mod (.bi .int1 [.var 0]) (.cst (.int 2147483647)), .cst (.int 0)])]
def F__law_next : FS := runF [] 2 5 [.ite (.cmp .gt (.ix (.var 0) (.cst (.int 0))) (.cst (.int 0))) [.asgO 4 (.bin .mod (.bi .int1 [.ix (.var 0) (.cst (.int 0))]) (.var 1)),
  .seti 0 (.cst (.int 0)) (.bin .fdiv (.ix (.var 0) (.cst (.int 0))) (.var 1)),
  .ret (.var 4)] [],
  .seti 0 (.cst (.int 2)) (.bin .add (.ix (.var 0) (.cst (.int 2))) (.cst (.int 1))),
  .asg (.nm 2) (.ix (.lst [.cst (.int 2147483647), .cst (.int 2147483629), .cst (.int 2147483587), .cst (.int 2147483579), .cst (.int 2147483563), .cst (.int 2147483549), .cst (.int 2147483543)]) (.bin .mod (.bi .int1 [.ix (.var 0) (.cst (.int 2))]) (.cst (.int 7)))),
  .asgO 3 (.bin .mod (.bi .int1 [.bin .pow (.bin .add (.bin .add (.ix (.var 0) (.cst (.int 1))) (.bin .mul (.cst (.int 7919)) (.ix (.var 0) (.cst (.int 2))))) (.cst (.int 1))) (.cst (.int 5))]) (.var 2)),
  .asgO 3 (.bin .mod (.bi .int1 [.bin .mul (.bin .add (.var 3) (.ix (.var 0) (.cst (.int 2)))) (.bin .add (.bin .fdiv (.var 3) (.cst (.int 1009))) (.cst (.int 69621)))]) (.var 2)),
  .ret (.bin .mod (.bi .int1 [.bin .fdiv (.var 3) (.cst (.int 7))]) (.var 1))]
def F__law_one : FS := runF [F__law_next] 2 2 [.ret (.ix (.var 1) (.call 0 [.var 0, .bi .len [.var 1]]))]
def B__law_specs_1 : List S := [.asg (.nm 6) (.bin .add (.cst (.int 1)) (.call 0 [.var 0, .call 1 [.var 0, .lst [.cst (.int 3), .var 2]]])),
  .asg (.nm 7) (.bin .add (.cst (.int 1)) (.call 0 [.var 0, .call 1 [.var 0, .lst [.cst (.int 2), .var 3]]])),
  .app 4 (.tup [.var 7, .var 6, .bin .add (.cst (.int 1)) (.call 0 [.var 0, .call 1 [.var 0, .lst [.cst (.int 2), .var 3]]])])]
def F__law_specs : FS := runF [F__law_next, F__law_one] 4 8 [.asgO 4 (.lst []),
  .for_ (.nm 5) .rng [.call 0 [.var 0, .bin .add (.var 1) (.cst (.int 1))]] B__law_specs_1,
  .ret (.var 4)]
def F_is_integer : FS := runF [] 1 1 [.ret (.and (.bi (.isi .int) [.var 0]) (.not (.bi (.isi .bool) [.var 0])))]
def F_is_between : FS := runF [F_is_integer] 3 3 [.ret (.and (.call 0 [.var 0]) (.chain .le .le (.var 1) (.var 0) (.var 2)))]
def F_is_breaker : FS := runF [F_is_between] 1 1 [.ite (.or (.not (.bi (.isi .tuple) [.var 0])) (.cmp .ne (.bi .len [.var 0]) (.cst (.int 3)))) [.ret (.cst (.bl false))] [],
  .ite (.or (.not (.call 0 [.ix (.var 0) (.cst (.int 0)), .cst (.int 1), .cst (.int 1000000000000)])) (.not (.call 0 [.ix (.var 0) (.cst (.int 1)), .cst (.int 1), .cst (.int 1000000000000000000000000000000)]))) [.ret (.cst (.bl false))] [],
  .ret (.call 0 [.ix (.var 0) (.cst (.int 2)), .cst (.int 1), .cst (.int 1000000000000)])]
def B_check_breakers_1 : List S := [.ite (.not (.call 0 [.var 2])) [.stuck] []]
def F_check_breakers : FS := runF [F_is_breaker] 1 3 [.ite (.or (.not (.bi (.isi .list) [.var 0])) (.cmp .gt (.bi .len [.var 0]) (.cst (.int 12)))) [.stuck] [],
  .for_ (.tp [.nm 1, .nm 2]) .enum [.var 0] B_check_breakers_1]
def F_Row___init__ : FS := runF [F_check_breakers, F_is_between] 4 4 [.expr (.call 0 [.var 1]),
  .ite (.not (.call 1 [.var 2, .cst (.int 1), .cst (.int 1000000000000000000000000000000)])) [.stuck] [],
  .ite (.not (.call 1 [.var 3, .cst (.int 0), .cst (.int 1000000000000000000000000000000)])) [.stuck] [],
  .setf 1 0 "specs" (.bi .list [.var 1]),
  .setf 1 0 "pace" (.var 2),
  .setf 1 0 "shift" (.var 3)]
def B__law_period_1 : List S := [.asgO 1 (.bin .mul (.bin .fdiv (.bin .sub (.bin .add (.var 2) (.var 1)) (.cst (.int 1))) (.var 1)) (.var 1))]
def F__law_period : FS := runF [] 2 3 [.for_ (.nm 2) .seq [.var 0] B__law_period_1,
  .ret (.var 1)]
def B__law_ranges_1 : List S := [.ite (.and (.cmp .ne (.var 1) (.lst [])) (.cmp .eq (.ix (.ix (.var 1) (.neg (.cst (.int 1)))) (.cst (.int 1))) (.bin .sub (.var 2) (.cst (.int 1))))) [.seti 1 (.neg (.cst (.int 1))) (.tup [.ix (.ix (.var 1) (.neg (.cst (.int 1)))) (.cst (.int 0)), .var 2])] [.app 1 (.tup [.var 2, .var 2])]]
def F__law_ranges : FS := runF [] 1 3 [.asgO 1 (.lst []),
  .for_ (.nm 2) .seq [.var 0] B__law_ranges_1,
  .ret (.var 1)]
def F_Row___getitem__ : FS := runF [F_is_between] 2 2 [.ite (.not (.call 0 [.var 1, .cst (.int 0), .bin .sub (.bi .len [.fld [1] (.var 0) "specs"]) (.cst (.int 1))])) [.stuck] [],
  .ret (.ix (.fld [1] (.var 0) "specs") (.var 1))]
def F_round_up : FS := runF [] 2 2 [.ret (.bin .mul (.bin .fdiv (.bin .sub (.bin .add (.var 0) (.var 1)) (.cst (.int 1))) (.var 1)) (.var 1))]
def B_periods_1 : List S := [.app 1 (.call 0 [.var 3, .ix (.var 1) (.neg (.cst (.int 1)))])]
def F_periods : FS := runF [F_round_up] 1 5 [.asgO 1 (.lst [.fld [1] (.var 0) "pace"]),
  .for_ (.tp [.nm 2, .nm 3, .nm 4]) .seq [.fld [1] (.var 0) "specs"] B_periods_1,
  .ret (.var 1)]
def F_row_period : FS := runF [F_periods] 1 1 [.ret (.ix (.call 0 [.var 0]) (.neg (.cst (.int 1))))]
def F_Row_breaker_list : FS := runF [] 1 1 [.ret (.bi .list [.fld [1] (.var 0) "specs"])]
def B_period_behind_1 : List S := [.asgO 2 (.call 1 [.var 4, .var 2])]
def F_period_behind : FS := runF [F_Row_breaker_list, F_round_up] 3 6 [.for_ (.tp [.nm 3, .nm 4, .nm 5]) .seq [.slc (.meth 1 "breaker_list" 0 (.var 0) []) [.bin .add (.var 1) (.cst (.int 1))] []] B_period_behind_1,
  .ret (.var 2)]
def B_harmful_lowerings_1 : List S := [.ite (.cmp .gt (.call 3 [.var 0, .var 1, .var 5]) (.var 3)) [.asgO 8 (.bin .add (.bin .sub (.var 5) (.var 6)) (.cst (.int 1))),
  .ite (.and (.cmp .ne (.var 4) (.lst [])) (.cmp .eq (.ix (.ix (.var 4) (.neg (.cst (.int 1)))) (.cst (.int 1))) (.bin .sub (.var 8) (.cst (.int 1))))) [.asgO 8 (.ix (.pop 4) (.cst (.int 0)))] [],
  .app 4 (.tup [.var 8, .var 5])] []]
def F_harmful_lowerings : FS := runF [F_Row___getitem__, F_periods, F_row_period, F_period_behind] 2 9 [.asgO 2 (.ix (.own .ix 1 0 (.var 0) (.var 1)) (.cst (.int 1))),
  .par [(6, true), (7, true)] [.ix (.call 1 [.var 0]) (.var 1), .ix (.call 1 [.var 0]) (.bin .add (.var 1) (.cst (.int 1)))],
  .ite (.cmp .gt (.bin .sub (.bin .fdiv (.var 7) (.var 6)) (.cst (.int 1))) (.cst (.int 2000))) [.stuck] [],
  .asgO 3 (.call 2 [.var 0]),
  .asgO 4 (.lst []),
  .for_ (.nm 5) .rng [.var 6, .var 7, .var 6] B_harmful_lowerings_1,
  .ret (.var 4)]
def B_best_raise_1 : List S := [.asgO 4 (.bi .min2p [.var 4, .tup [.call 5 [.var 0, .var 1, .var 5], .bin .add (.bin .sub (.var 5) (.var 6)) (.cst (.int 1))]])]
def F_best_raise : FS := runF [F_Row___getitem__, F_is_between, F_periods, F_round_up, F_row_period, F_period_behind] 3 8 [.asgO 3 (.ix (.own .ix 1 0 (.var 0) (.var 1)) (.cst (.int 1))),
  .ite (.not (.call 1 [.var 2, .var 3, .cst (.int 1000000000000000000000000000000)])) [.stuck] [],
  .par [(6, true), (7, true)] [.ix (.call 2 [.var 0]) (.var 1), .ix (.call 2 [.var 0]) (.bin .add (.var 1) (.cst (.int 1)))],
  .ite (.cmp .gt (.bin .fdiv (.bin .sub (.call 3 [.var 2, .var 6]) (.var 7)) (.var 6)) (.cst (.int 2000))) [.stuck] [],
  .asgO 4 (.tup [.call 4 [.var 0], .var 3]),
  .for_ (.nm 5) .rng [.bin .add (.var 7) (.var 6), .bin .add (.call 3 [.var 2, .var 6]) (.cst (.int 1)), .var 6] B_best_raise_1,
  .ret (.var 4)]
def B_law_1 : List S := [.app 11 (.tup [.call 6 [.bin .add (.bin .add (.slc (.var 6) [] [.var 10]) (.lst [.var 15])) (.slc (.var 6) [.bin .add (.var 10) (.cst (.int 1))] []), .var 3], .var 15])]
def B_law_2 : List S := [.asgO 11 (.comp [15] (.nm 15) .rng [.cst (.int 1), .ix (.var 6) (.var 10)] [] (.tup [.call 6 [.bin .add (.bin .add (.slc (.var 6) [] [.var 10]) (.lst [.var 15])) (.slc (.var 6) [.bin .add (.var 10) (.cst (.int 1))] []), .var 3], .var 15])),
  .asg (.nm 12) (.call 7 [.comp [20, 15] (.tp [.nm 20, .nm 15]) .seq [.var 11] [.cmp .gt (.var 20) (.var 7)] (.var 15)]),
  .ite (.or (.cmp .ne (.call 8 [.var 5, .var 10]) (.var 12)) (.cmp .ne (.callp 8 [1, 0] [.var 10, .var 5]) (.var 12))) [.ret (.cst (.bl false))] [],
  .asgO 13 (.comp [18, 19] (.tp [.nm 18, .nm 19]) .seq [.var 12] [] (.tup [.bin .add (.bin .mul (.bin .sub (.var 18) (.cst (.int 1))) (.var 8)) (.cst (.int 1)), .bin .mul (.var 19) (.var 8)])),
  .ite (.cmp .ne (.call 8 [.var 9, .var 10]) (.var 13)) [.ret (.cst (.bl false))] [],
  .asg (.nm 14) (.bin .add (.ix (.var 6) (.var 10)) (.call 2 [.var 2, .call 3 [.var 2, .lst [.cst (.int 60), .cst (.int 60), .cst (.int 400)]]])),
  .asgO 11 (.lst []),
  .for_ (.nm 15) .rng [.ix (.var 6) (.var 10), .bin .add (.var 14) (.cst (.int 1))] B_law_1,
  .asgO 16 (.bi .minp [.var 11]),
  .ite (.or (.cmp .ne (.call 9 [.var 5, .var 10, .var 14]) (.var 16)) (.cmp .ne (.callp 9 [2, 1, 0] [.var 14, .var 10, .var 5]) (.var 16))) [.ret (.cst (.bl false))] [],
  .ite (.cmp .ne (.ix (.call 9 [.var 9, .var 10, .bin .mul (.var 14) (.var 8)]) (.cst (.int 0))) (.bin .mul (.ix (.var 16) (.cst (.int 0))) (.var 8))) [.ret (.cst (.bl false))] [],
  .xapp (.call 8 [.var 5, .var 10]) .non,
  .ite (.cmp .ne (.call 8 [.var 5, .var 10]) (.var 12)) [.ret (.cst (.bl false))] []]
def B_law_3 : List S := [.asgO 2 (.call 1 [.var 1]),
  .asg (.nm 3) (.bin .add (.cst (.int 1)) (.call 2 [.var 2, .cst (.int 3)])),
  .asg (.nm 4) (.call 4 [.var 2, .cst (.int 5), .call 3 [.var 2, .lst [.cst (.int 40), .cst (.int 40), .cst (.int 40), .cst (.int 300)]], .cst (.int 3)]),
  .asg (.nm 5) (.mkp 1 5 [0, 1, 2] ([.var 4, .var 3] ++ ([] ++ dfl [0]))),
  .asg (.nm 6) (.comp [17] (.nm 17) .seq [.var 4] [] (.ix (.var 17) (.cst (.int 1)))),
  .asg (.nm 7) (.call 6 [.var 6, .var 3]),
  .asg (.nm 8) (.bin .add (.cst (.int 1)) (.call 2 [.var 2, .bin .pow (.cst (.int 10)) (.cst (.int 26))])),
  .asg (.nm 9) (.mkp 1 5 [0, 1, 2] ([.comp [17] (.nm 17) .seq [.var 4] [] (.tup [.ix (.var 17) (.cst (.int 0)), .bin .mul (.ix (.var 17) (.cst (.int 1))) (.var 8), .ix (.var 17) (.cst (.int 2))]), .bin .mul (.var 3) (.var 8)] ++ ([] ++ dfl [0]))),
  .for_ (.nm 10) .rng [.bi .len [.var 4]] B_law_2]
def F_law : FS := runF [F__law_cell_at, F__law_source_of, F__law_next, F__law_one, F__law_specs, F_Row___init__, F__law_period, F__law_ranges, F_harmful_lowerings, F_best_raise] 1 21 [.for_ (.nm 1) .seq [.bin .add (.lst [.call 0 [.var 0, .cst (.int 0)]]) (.slc (.var 0) [.cst (.int 1)] [.cst (.int 5)])] B_law_3,
  .ret (.cst (.bl true))]
end L
namespace L
open PySem L2 DV
def topS (i : Nat) : Stmt := PySem.Challenge.pw_breakerrow_k40_lowerings_and_raises_trie.main.body.getD i (.Pass ⟨0, 0, 0, 0⟩)
structure Txt (g : Gx) (mg : Str → Option Value) : Prop where
  tt : True
  z_bool : mg "bool" = none
  z_enumerate : mg "enumerate" = none
  z_int : mg "int" = none
  z_isinstance : mg "isinstance" = none
  z_len : mg "len" = none
  z_list : mg "list" = none
  z_min : mg "min" = none
  z_range : mg "range" = none
  z_tuple : mg "tuple" = none
  g_MOST_BREAKERS : GInt mg "MOST_BREAKERS" 12
  g_MOST_COUNT : GInt mg "MOST_COUNT" 1000000000000
  g_MOST_WAIT : GInt mg "MOST_WAIT" 1000000000000000000000000000000
  g_MOST_STEPS : GInt mg "MOST_STEPS" 2000
  x_Row : ClsX g 1
  na_Row_specs : NoAttr g.K (g.cl 1) "specs"
  na_Row_pace : NoAttr g.K (g.cl 1) "pace"
  na_Row_shift : NoAttr g.K (g.cl 1) "shift"
  fn_Row : ∀ f, Meth g.K (g.cl 1) "__getitem__" f → PySem.W.fnIn g.K f = true
section
variable {P : Program} {w : World} {mg : Str → Option Value} {base : Heap} {g : Gx}
abbrev s__law_cell_at : Stmt := topS 29
theorem sc__law_cell_at : FnScope ["_law_script", "_law_k"] ["_law_script", "_law_k"] (defScope s__law_cell_at) := ⟨rfl, rfl, rfl, by decide +kernel, rfl, by decide +kernel, by decide +kernel⟩
theorem ok__law_cell_at {k : Nat} {f : Addr} {fd : FuncData} (T : Txt g mg) (F : Fun g.K "_law_cell_at" "_law_cell_at" s__law_cell_at f fd)  : FnOk P w g.K mg base CX0 (k + 1) f fd ["_law_script", "_law_k"] (spF g 2 F__law_cell_at) := by
  refine def_fn (fs := []) F sc__law_cell_at rfl rfl fun cdv A outer s H E hr C => ?_
  exact (ss_cons (s_ite (t_cmp (op := .lt) C (k_var 1 rfl (by first | exact .inl rfl | exact .inr (.inl rfl) | exact .inr (.inr rfl)) rfl rfl) (k_len C (a_cons (k_var 0 rfl (by first | exact .inl rfl | exact .inr (.inl rfl) | exact .inr (.inr rfl)) rfl rfl) a_nil rfl) rfl rfl (T.z_len) rfl) rfl) (ss_cons (s_ret (p_ix C (k_var 0 rfl (by first | exact .inl rfl | exact .inr (.inl rfl) | exact .inr (.inr rfl)) rfl rfl) (k_var 1 rfl (by first | exact .inl rfl | exact .inr (.inl rfl) | exact .inr (.inr rfl)) rfl rfl) (fun _ _ => rfl)))
  ss_nil) ss_nil)
  (ss_cons (s_ret (k_int C))
  ss_nil))
abbrev s__law_source_of : Stmt := topS 26
theorem sc__law_source_of : FnScope ["_law_cell"] ["_law_cell"] (defScope s__law_source_of) := ⟨rfl, rfl, rfl, by decide +kernel, rfl, by decide +kernel, by decide +kernel⟩
theorem ok__law_source_of {k : Nat} {f : Addr} {fd : FuncData} (T : Txt g mg) (F : Fun g.K "_law_source_of" "_law_source_of" s__law_source_of f fd)  : FnOk P w g.K mg base CX0 (k + 1) f fd ["_law_cell"] (spF g 1 F__law_source_of) := by
  refine def_fn (fs := []) F sc__law_source_of rfl rfl fun cdv A outer s H E hr C => ?_
  exact (ss_cons (s_ret (p_lst C (a_cons (p_bin (op := .mul) C (k_var 0 rfl (by first | exact .inl rfl | exact .inr (.inl rfl) | exact .inr (.inr rfl)) rfl rfl) (k_int1 C (a_cons (p_cmp (op := .ge) C (k_var 0 rfl (by first | exact .inl rfl | exact .inr (.inl rfl) | exact .inr (.inr rfl)) rfl rfl) (p_bin (op := .pow) C (k_int C) (k_int C)) rfl) a_nil rfl) rfl rfl (T.z_int) rfl)) (a_cons (p_bin (op := .mod) C (k_int1 C (a_cons (k_var 0 rfl (by first | exact .inl rfl | exact .inr (.inl rfl) | exact .inr (.inr rfl)) rfl rfl) a_nil rfl) rfl rfl (T.z_int) rfl) (k_int C)) (a_cons (k_int C) a_nil rfl) rfl) rfl)))
  ss_nil)
abbrev s__law_next : Stmt := topS 27
theorem sc__law_next : FnScope ["_law_source", "_law_many", "_law_prime", "_law_figure", "_law_found"] ["_law_source", "_law_many"] (defScope s__law_next) := ⟨rfl, rfl, rfl, by decide +kernel, rfl, by decide +kernel, by decide +kernel⟩
theorem ok__law_next {k : Nat} {f : Addr} {fd : FuncData} (T : Txt g mg) (F : Fun g.K "_law_next" "_law_next" s__law_next f fd)  : FnOk P w g.K mg base CX0 (k + 1) f fd ["_law_source", "_law_many"] (spF g 2 F__law_next) := by
  refine def_fn (fs := []) F sc__law_next rfl rfl fun cdv A outer s H E hr C => ?_
  exact (ss_cons (s_ite (t_cmp (op := .gt) C (p_ix C (k_var 0 rfl (by first | exact .inl rfl | exact .inr (.inl rfl) | exact .inr (.inr rfl)) rfl rfl) (k_int C) (fun _ _ => rfl)) (k_int C) rfl) (ss_cons (s_asgO (i := 4) C rfl (by first | exact .inl rfl | exact .inr rfl) (p_bin (op := .mod) C (k_int1 C (a_cons (p_ix C (k_var 0 rfl (by first | exact .inl rfl | exact .inr (.inl rfl) | exact .inr (.inr rfl)) rfl rfl) (k_int C) (fun _ _ => rfl)) a_nil rfl) rfl rfl (T.z_int) rfl) (k_var 1 rfl (by first | exact .inl rfl | exact .inr (.inl rfl) | exact .inr (.inr rfl)) rfl rfl)) rfl (by first | exact .inr rfl | exact .inl rfl))
  (ss_cons (s_seti C (pe_var (i := 0) rfl (by first | exact .inl rfl | exact .inr (.inl rfl) | exact .inr (.inr rfl)) rfl rfl) (k_int C) (p_bin (op := .fdiv) C (p_ix C (k_var 0 rfl (by first | exact .inl rfl | exact .inr (.inl rfl) | exact .inr (.inr rfl)) rfl rfl) (k_int C) (fun _ _ => rfl)) (k_var 1 rfl (by first | exact .inl rfl | exact .inr (.inl rfl) | exact .inr (.inr rfl)) rfl rfl)) rfl rfl rfl (fun _ => rfl))
  (ss_cons (s_ret (k_var 4 rfl (by first | exact .inl rfl | exact .inr (.inl rfl) | exact .inr (.inr rfl)) rfl rfl))
  ss_nil))) ss_nil)
  (ss_cons (s_seti C (pe_var (i := 0) rfl (by first | exact .inl rfl | exact .inr (.inl rfl) | exact .inr (.inr rfl)) rfl rfl) (k_int C) (p_bin (op := .add) C (p_ix C (k_var 0 rfl (by first | exact .inl rfl | exact .inr (.inl rfl) | exact .inr (.inr rfl)) rfl rfl) (k_int C) (fun _ _ => rfl)) (k_int C)) rfl rfl rfl (fun _ => rfl))
  (ss_cons (s_asg (p_ix C (p_lst C (a_cons (k_int C) (a_cons (k_int C) (a_cons (k_int C) (a_cons (k_int C) (a_cons (k_int C) (a_cons (k_int C) (a_cons (k_int C) a_nil rfl) rfl) rfl) rfl) rfl) rfl) rfl)) (p_bin (op := .mod) C (k_int1 C (a_cons (p_ix C (k_var 0 rfl (by first | exact .inl rfl | exact .inr (.inl rfl) | exact .inr (.inr rfl)) rfl rfl) (k_int C) (fun _ _ => rfl)) a_nil rfl) rfl rfl (T.z_int) rfl) (k_int C)) (fun _ _ => rfl)) (tg_nm (pg_name (i := 2) C.nd rfl (by first | exact .inl rfl | exact .inr rfl) (by first | exact .inr rfl | exact .inl rfl))) rfl rfl rfl)
  (ss_cons (s_asgO (i := 3) C rfl (by first | exact .inl rfl | exact .inr rfl) (p_bin (op := .mod) C (k_int1 C (a_cons (p_bin (op := .pow) C (p_bin (op := .add) C (p_bin (op := .add) C (p_ix C (k_var 0 rfl (by first | exact .inl rfl | exact .inr (.inl rfl) | exact .inr (.inr rfl)) rfl rfl) (k_int C) (fun _ _ => rfl)) (p_bin (op := .mul) C (k_int C) (p_ix C (k_var 0 rfl (by first | exact .inl rfl | exact .inr (.inl rfl) | exact .inr (.inr rfl)) rfl rfl) (k_int C) (fun _ _ => rfl)))) (k_int C)) (k_int C)) a_nil rfl) rfl rfl (T.z_int) rfl) (k_var 2 rfl (by first | exact .inl rfl | exact .inr (.inl rfl) | exact .inr (.inr rfl)) rfl rfl)) rfl (by first | exact .inr rfl | exact .inl rfl))
  (ss_cons (s_asgO (i := 3) C rfl (by first | exact .inl rfl | exact .inr rfl) (p_bin (op := .mod) C (k_int1 C (a_cons (p_bin (op := .mul) C (p_bin (op := .add) C (k_var 3 rfl (by first | exact .inl rfl | exact .inr (.inl rfl) | exact .inr (.inr rfl)) rfl rfl) (p_ix C (k_var 0 rfl (by first | exact .inl rfl | exact .inr (.inl rfl) | exact .inr (.inr rfl)) rfl rfl) (k_int C) (fun _ _ => rfl))) (p_bin (op := .add) C (p_bin (op := .fdiv) C (k_var 3 rfl (by first | exact .inl rfl | exact .inr (.inl rfl) | exact .inr (.inr rfl)) rfl rfl) (k_int C)) (k_int C))) a_nil rfl) rfl rfl (T.z_int) rfl) (k_var 2 rfl (by first | exact .inl rfl | exact .inr (.inl rfl) | exact .inr (.inr rfl)) rfl rfl)) rfl (by first | exact .inr rfl | exact .inl rfl))
  (ss_cons (s_ret (p_bin (op := .mod) C (k_int1 C (a_cons (p_bin (op := .fdiv) C (k_var 3 rfl (by first | exact .inl rfl | exact .inr (.inl rfl) | exact .inr (.inr rfl)) rfl rfl) (k_int C)) a_nil rfl) rfl rfl (T.z_int) rfl) (k_var 1 rfl (by first | exact .inl rfl | exact .inr (.inl rfl) | exact .inr (.inr rfl)) rfl rfl)))
  ss_nil))))))
abbrev s__law_one : Stmt := topS 28
theorem sc__law_one : FnScope ["_law_source", "_law_options"] ["_law_source", "_law_options"] (defScope s__law_one) := ⟨rfl, rfl, rfl, by decide +kernel, rfl, by decide +kernel, by decide +kernel⟩
theorem ok__law_one {k : Nat} {f : Addr} {fd : FuncData} (T : Txt g mg) (F : Fun g.K "_law_one" "_law_one" s__law_one f fd) (c__law_next : Cal P w mg base g k "_law_next" 2 F__law_next) : FnOk P w g.K mg base CX0 (k + 1) f fd ["_law_source", "_law_options"] (spF g 2 F__law_one) := by
  refine def_fn (fs := [F__law_next]) F sc__law_one rfl rfl fun cdv A outer s H E hr C => ?_
  exact (ss_cons (s_ret (p_ix C (k_var 1 rfl (by first | exact .inl rfl | exact .inr (.inl rfl) | exact .inr (.inr rfl)) rfl rfl) (c_call c__law_next C rfl rfl hr rfl (aw_cons (k_var 0 rfl (by first | exact .inl rfl | exact .inr (.inl rfl) | exact .inr (.inr rfl)) rfl rfl) (aw_cons (k_len C (a_cons (k_var 1 rfl (by first | exact .inl rfl | exact .inr (.inl rfl) | exact .inr (.inr rfl)) rfl rfl) a_nil rfl) rfl rfl (T.z_len) rfl) aw_nil rfl) rfl) rfl rfl rfl) (fun _ _ => rfl)))
  ss_nil)
abbrev s__law_specs : Stmt := topS 30
theorem sc__law_specs : FnScope ["_law_source", "_law_high", "_law_wide", "_law_many", "_law_found", "_law_k", "_law_wait", "_law_fails"] ["_law_source", "_law_high", "_law_wide", "_law_many"] (defScope s__law_specs) := ⟨rfl, rfl, rfl, by decide +kernel, rfl, by decide +kernel, by decide +kernel⟩
theorem ok__law_specs {k : Nat} {f : Addr} {fd : FuncData} (T : Txt g mg) (F : Fun g.K "_law_specs" "_law_specs" s__law_specs f fd) (c__law_next : Cal P w mg base g k "_law_next" 2 F__law_next) (c__law_one : Cal P w mg base g k "_law_one" 2 F__law_one) : FnOk P w g.K mg base CX0 (k + 1) f fd ["_law_source", "_law_high", "_law_wide", "_law_many"] (spF g 4 F__law_specs) := by
  refine def_fn (fs := [F__law_next, F__law_one]) F sc__law_specs rfl rfl fun cdv A outer s H E hr C => ?_
  exact (ss_cons (s_asgO (i := 4) C rfl (by first | exact .inl rfl | exact .inr rfl) (p_lst C a_nil) rfl (by first | exact .inr rfl | exact .inl rfl))
  (ss_cons (s_for C PassesOwn.never (i_rng1 C rfl (T.z_range) (a_cons (c_call c__law_next C rfl rfl hr rfl (aw_cons (k_var 0 rfl (by first | exact .inl rfl | exact .inr (.inl rfl) | exact .inr (.inr rfl)) rfl rfl) (aw_cons (p_bin (op := .add) C (k_var 1 rfl (by first | exact .inl rfl | exact .inr (.inl rfl) | exact .inr (.inr rfl)) rfl rfl) (k_int C)) aw_nil rfl) rfl) rfl rfl rfl) a_nil rfl) rfl) (tg_nm (pg_name (i := 5) C.nd rfl (by first | exact .inl rfl | exact .inr rfl) (by first | exact .inr rfl | exact .inl rfl))) (ss_cons (s_asg (p_bin (op := .add) C (k_int C) (c_call c__law_next C rfl rfl hr rfl (aw_cons (k_var 0 rfl (by first | exact .inl rfl | exact .inr (.inl rfl) | exact .inr (.inr rfl)) rfl rfl) (aw_cons (c_call c__law_one C rfl rfl hr rfl (aw_cons (k_var 0 rfl (by first | exact .inl rfl | exact .inr (.inl rfl) | exact .inr (.inr rfl)) rfl rfl) (aw_cons (p_lst C (a_cons (k_int C) (a_cons (k_var 2 rfl (by first | exact .inl rfl | exact .inr (.inl rfl) | exact .inr (.inr rfl)) rfl rfl) a_nil rfl) rfl)) aw_nil rfl) rfl) rfl rfl rfl) aw_nil rfl) rfl) rfl rfl rfl)) (tg_nm (pg_name (i := 6) C.nd rfl (by first | exact .inl rfl | exact .inr rfl) (by first | exact .inr rfl | exact .inl rfl))) rfl rfl rfl)
  (ss_cons (s_asg (p_bin (op := .add) C (k_int C) (c_call c__law_next C rfl rfl hr rfl (aw_cons (k_var 0 rfl (by first | exact .inl rfl | exact .inr (.inl rfl) | exact .inr (.inr rfl)) rfl rfl) (aw_cons (c_call c__law_one C rfl rfl hr rfl (aw_cons (k_var 0 rfl (by first | exact .inl rfl | exact .inr (.inl rfl) | exact .inr (.inr rfl)) rfl rfl) (aw_cons (p_lst C (a_cons (k_int C) (a_cons (k_var 3 rfl (by first | exact .inl rfl | exact .inr (.inl rfl) | exact .inr (.inr rfl)) rfl rfl) a_nil rfl) rfl)) aw_nil rfl) rfl) rfl rfl rfl) aw_nil rfl) rfl) rfl rfl rfl)) (tg_nm (pg_name (i := 7) C.nd rfl (by first | exact .inl rfl | exact .inr rfl) (by first | exact .inr rfl | exact .inl rfl))) rfl rfl rfl)
  (ss_cons (s_app C (pe_var (i := 4) rfl (by first | exact .inl rfl | exact .inr (.inl rfl) | exact .inr (.inr rfl)) rfl rfl) (p_tup C (a_cons (k_var 7 rfl (by first | exact .inl rfl | exact .inr (.inl rfl) | exact .inr (.inr rfl)) rfl rfl) (a_cons (k_var 6 rfl (by first | exact .inl rfl | exact .inr (.inl rfl) | exact .inr (.inr rfl)) rfl rfl) (a_cons (p_bin (op := .add) C (k_int C) (c_call c__law_next C rfl rfl hr rfl (aw_cons (k_var 0 rfl (by first | exact .inl rfl | exact .inr (.inl rfl) | exact .inr (.inr rfl)) rfl rfl) (aw_cons (c_call c__law_one C rfl rfl hr rfl (aw_cons (k_var 0 rfl (by first | exact .inl rfl | exact .inr (.inl rfl) | exact .inr (.inr rfl)) rfl rfl) (aw_cons (p_lst C (a_cons (k_int C) (a_cons (k_var 3 rfl (by first | exact .inl rfl | exact .inr (.inl rfl) | exact .inr (.inr rfl)) rfl rfl) a_nil rfl) rfl)) aw_nil rfl) rfl) rfl rfl rfl) aw_nil rfl) rfl) rfl rfl rfl)) a_nil rfl) rfl) rfl)) rfl rfl rfl rfl)
  ss_nil))) (fun _ => rfl))
  (ss_cons (s_ret (k_var 4 rfl (by first | exact .inl rfl | exact .inr (.inl rfl) | exact .inr (.inr rfl)) rfl rfl))
  ss_nil)))
abbrev s_is_integer : Stmt := topS 8
theorem sc_is_integer : FnScope ["value"] ["value"] (defScope s_is_integer) := ⟨rfl, rfl, rfl, by decide +kernel, rfl, by decide +kernel, by decide +kernel⟩
theorem ok_is_integer {k : Nat} {f : Addr} {fd : FuncData} (T : Txt g mg) (F : Fun g.K "is_integer" "is_integer" s_is_integer f fd)  : FnOk P w g.K mg base CX0 (k + 1) f fd ["value"] (spF g 1 F_is_integer) := by
  refine def_fn (fs := []) F sc_is_integer rfl rfl fun cdv A outer s H E hr C => ?_
  exact (ss_cons (s_ret (p_and C (p_isi (t := .int) C (k_var 0 rfl (by first | exact .inl rfl | exact .inr (.inl rfl) | exact .inr (.inr rfl)) rfl rfl) (ty_int (T.z_int) rfl) rfl (T.z_isinstance) rfl rfl) (p_one (p_not C (p_isi (t := .bool) C (k_var 0 rfl (by first | exact .inl rfl | exact .inr (.inl rfl) | exact .inr (.inr rfl)) rfl rfl) (ty_bool (T.z_bool) rfl) rfl (T.z_isinstance) rfl rfl)))))
  ss_nil)
abbrev s_is_between : Stmt := topS 9
theorem sc_is_between : FnScope ["value", "low", "high"] ["value", "low", "high"] (defScope s_is_between) := ⟨rfl, rfl, rfl, by decide +kernel, rfl, by decide +kernel, by decide +kernel⟩
theorem ok_is_between {k : Nat} {f : Addr} {fd : FuncData} (T : Txt g mg) (F : Fun g.K "is_between" "is_between" s_is_between f fd) (c_is_integer : Cal P w mg base g k "is_integer" 1 F_is_integer) : FnOk P w g.K mg base CX0 (k + 1) f fd ["value", "low", "high"] (spF g 3 F_is_between) := by
  refine def_fn (fs := [F_is_integer]) F sc_is_between rfl rfl fun cdv A outer s H E hr C => ?_
  exact (ss_cons (s_ret (p_and C (c_call c_is_integer C rfl rfl hr rfl (aw_cons (k_var 0 rfl (by first | exact .inl rfl | exact .inr (.inl rfl) | exact .inr (.inr rfl)) rfl rfl) aw_nil rfl) rfl rfl rfl) (p_one (p_chain (o1 := .le) (o2 := .le) C (k_var 1 rfl (by first | exact .inl rfl | exact .inr (.inl rfl) | exact .inr (.inr rfl)) rfl rfl) (k_var 0 rfl (by first | exact .inl rfl | exact .inr (.inl rfl) | exact .inr (.inr rfl)) rfl rfl) (k_var 2 rfl (by first | exact .inl rfl | exact .inr (.inl rfl) | exact .inr (.inr rfl)) rfl rfl) rfl))))
  ss_nil)
abbrev s_is_breaker : Stmt := topS 15
theorem sc_is_breaker : FnScope ["value"] ["value"] (defScope s_is_breaker) := ⟨rfl, rfl, rfl, by decide +kernel, rfl, by decide +kernel, by decide +kernel⟩
theorem ok_is_breaker {k : Nat} {f : Addr} {fd : FuncData} (T : Txt g mg) (F : Fun g.K "is_breaker" "is_breaker" s_is_breaker f fd) (c_is_between : Cal P w mg base g k "is_between" 3 F_is_between) : FnOk P w g.K mg base CX0 (k + 1) f fd ["value"] (spF g 1 F_is_breaker) := by
  refine def_fn (fs := [F_is_between]) F sc_is_breaker rfl rfl fun cdv A outer s H E hr C => ?_
  exact (ss_cons (s_ite (PW.pt (w_or (t_not (t_val C (p_isi (t := .tuple) C (k_var 0 rfl (by first | exact .inl rfl | exact .inr (.inl rfl) | exact .inr (.inr rfl)) rfl rfl) (ty_tuple (T.z_tuple) rfl) rfl (T.z_isinstance) rfl rfl) (fun _ => rfl))) (w_or1 (t_cmp (op := .ne) C (k_len C (a_cons (k_var 0 rfl (by first | exact .inl rfl | exact .inr (.inl rfl) | exact .inr (.inr rfl)) rfl rfl) a_nil rfl) rfl rfl (T.z_len) rfl) (k_int C) rfl)))) (ss_cons (s_ret (k_bl C))
  ss_nil) ss_nil)
  (ss_cons (s_ite (PW.pt (w_or (t_not (t_val C (c_call c_is_between C rfl rfl hr rfl (aw_cons (p_ix C (k_var 0 rfl (by first | exact .inl rfl | exact .inr (.inl rfl) | exact .inr (.inr rfl)) rfl rfl) (k_int C) (fun _ _ => rfl)) (aw_cons (k_int C) (aw_cons (k_gint C T.g_MOST_COUNT rfl rfl) aw_nil rfl) rfl) rfl) rfl rfl rfl) (fun _ => rfl))) (w_or1 (t_not (t_val C (c_call c_is_between C rfl rfl hr rfl (aw_cons (p_ix C (k_var 0 rfl (by first | exact .inl rfl | exact .inr (.inl rfl) | exact .inr (.inr rfl)) rfl rfl) (k_int C) (fun _ _ => rfl)) (aw_cons (k_int C) (aw_cons (k_gint C T.g_MOST_WAIT rfl rfl) aw_nil rfl) rfl) rfl) rfl rfl rfl) (fun _ => rfl)))))) (ss_cons (s_ret (k_bl C))
  ss_nil) ss_nil)
  (ss_cons (s_ret (c_call c_is_between C rfl rfl hr rfl (aw_cons (p_ix C (k_var 0 rfl (by first | exact .inl rfl | exact .inr (.inl rfl) | exact .inr (.inr rfl)) rfl rfl) (k_int C) (fun _ _ => rfl)) (aw_cons (k_int C) (aw_cons (k_gint C T.g_MOST_COUNT rfl rfl) aw_nil rfl) rfl) rfl) rfl rfl rfl))
  ss_nil)))
abbrev s_check_breakers : Stmt := topS 16
theorem sc_check_breakers : FnScope ["breakers", "at", "breaker"] ["breakers"] (defScope s_check_breakers) := ⟨rfl, rfl, rfl, by decide +kernel, rfl, by decide +kernel, by decide +kernel⟩
theorem ok_check_breakers {k : Nat} {f : Addr} {fd : FuncData} (T : Txt g mg) (F : Fun g.K "check_breakers" "check_breakers" s_check_breakers f fd) (c_is_breaker : Cal P w mg base g k "is_breaker" 1 F_is_breaker) : FnOk P w g.K mg base CX0 (k + 1) f fd ["breakers"] (spF g 1 F_check_breakers) := by
  refine def_fn (fs := [F_is_breaker]) F sc_check_breakers rfl rfl fun cdv A outer s H E hr C => ?_
  exact (ss_cons (s_ite (PW.pt (w_or (t_not (t_val C (p_isi (t := .list) C (k_var 0 rfl (by first | exact .inl rfl | exact .inr (.inl rfl) | exact .inr (.inr rfl)) rfl rfl) (ty_list (T.z_list) rfl) rfl (T.z_isinstance) rfl rfl) (fun _ => rfl))) (w_or1 (t_cmp (op := .gt) C (k_len C (a_cons (k_var 0 rfl (by first | exact .inl rfl | exact .inr (.inl rfl) | exact .inr (.inr rfl)) rfl rfl) a_nil rfl) rfl rfl (T.z_len) rfl) (k_gint C T.g_MOST_BREAKERS rfl rfl) rfl)))) (ss_cons s_stuck
  ss_nil) ss_nil)
  (ss_cons (s_for C PassesOwn.never (i_enum C rfl (T.z_enumerate) (a_cons (k_var 0 rfl (by first | exact .inl rfl | exact .inr (.inl rfl) | exact .inr (.inr rfl)) rfl rfl) a_nil rfl) rfl) (tgp C (tgs_cons (tg_nm (pg_name (i := 1) C.nd rfl (by first | exact .inl rfl | exact .inr rfl) (by first | exact .inr rfl | exact .inl rfl))) (tgs_cons (tg_nm (pg_name (i := 2) C.nd rfl (by first | exact .inl rfl | exact .inr rfl) (by first | exact .inr rfl | exact .inl rfl))) tgs_nil rfl) rfl) rfl rfl) (ss_cons (s_ite (t_not (t_val C (c_call c_is_breaker C rfl rfl hr rfl (aw_cons (k_var 2 rfl (by first | exact .inl rfl | exact .inr (.inl rfl) | exact .inr (.inr rfl)) rfl rfl) aw_nil rfl) rfl rfl rfl) (fun _ => rfl))) (ss_cons s_stuck
  ss_nil) ss_nil)
  ss_nil) (fun _ => rfl))
  ss_nil))
abbrev s_Row___init__ : Stmt := inClass (topS 17) 0
theorem sc_Row___init__ : FnScope ["self", "breakers", "step", "phase"] ["self", "breakers", "step", "phase"] (defScope s_Row___init__) := ⟨rfl, rfl, rfl, by decide +kernel, rfl, by decide +kernel, by decide +kernel⟩
theorem ok_Row___init__ {k : Nat} {f : Addr} {fd : FuncData} (T : Txt g mg) (F : FunD g.K "__init__" "Row.__init__" (defArgs s_Row___init__) (defBody s_Row___init__) (defScope s_Row___init__) [] [("phase", V.int 0)] f fd) (c_check_breakers : Cal P w mg base g k "check_breakers" 1 F_check_breakers) (c_is_between : Cal P w mg base g k "is_between" 3 F_is_between) : FnOk P w g.K mg base CX0 (k + 1) f fd ["self", "breakers", "step", "phase"] (spF g 4 F_Row___init__) := by
  refine def_fnD (fs := [F_check_breakers, F_is_between]) F sc_Row___init__ rfl rfl fun cdv A outer s H E hr C => ?_
  exact (ss_cons (s_expr (c_call c_check_breakers C rfl rfl hr rfl (aw_cons (k_var 1 rfl (by first | exact .inl rfl | exact .inr (.inl rfl) | exact .inr (.inr rfl)) rfl rfl) aw_nil rfl) rfl rfl rfl) rfl)
  (ss_cons (s_ite (t_not (t_val C (c_call c_is_between C rfl rfl hr rfl (aw_cons (k_var 2 rfl (by first | exact .inl rfl | exact .inr (.inl rfl) | exact .inr (.inr rfl)) rfl rfl) (aw_cons (k_int C) (aw_cons (k_gint C T.g_MOST_WAIT rfl rfl) aw_nil rfl) rfl) rfl) rfl rfl rfl) (fun _ => rfl))) (ss_cons s_stuck
  ss_nil) ss_nil)
  (ss_cons (s_ite (t_not (t_val C (c_call c_is_between C rfl rfl hr rfl (aw_cons (k_var 3 rfl (by first | exact .inl rfl | exact .inr (.inl rfl) | exact .inr (.inr rfl)) rfl rfl) (aw_cons (k_int C) (aw_cons (k_gint C T.g_MOST_WAIT rfl rfl) aw_nil rfl) rfl) rfl) rfl rfl rfl) (fun _ => rfl))) (ss_cons s_stuck
  ss_nil) ss_nil)
  (ss_cons (s_setf (c := 1) (i := 0) C (pe_var (i := 0) rfl (by first | exact .inl rfl | exact .inr (.inl rfl) | exact .inr (.inr rfl)) rfl rfl) (k_list C (a_cons (k_var 1 rfl (by first | exact .inl rfl | exact .inr (.inl rfl) | exact .inr (.inr rfl)) rfl rfl) a_nil rfl) rfl rfl (T.z_list) rfl) ⟨T.x_Row.cl, T.na_Row_specs⟩ rfl)
  (ss_cons (s_setf (c := 1) (i := 0) C (pe_var (i := 0) rfl (by first | exact .inl rfl | exact .inr (.inl rfl) | exact .inr (.inr rfl)) rfl rfl) (k_var 2 rfl (by first | exact .inl rfl | exact .inr (.inl rfl) | exact .inr (.inr rfl)) rfl rfl) ⟨T.x_Row.cl, T.na_Row_pace⟩ rfl)
  (ss_cons (s_setf (c := 1) (i := 0) C (pe_var (i := 0) rfl (by first | exact .inl rfl | exact .inr (.inl rfl) | exact .inr (.inr rfl)) rfl rfl) (k_var 3 rfl (by first | exact .inl rfl | exact .inr (.inl rfl) | exact .inr (.inr rfl)) rfl rfl) ⟨T.x_Row.cl, T.na_Row_shift⟩ rfl)
  ss_nil))))))
abbrev s__law_period : Stmt := topS 31
theorem sc__law_period : FnScope ["_law_waits", "_law_step", "_law_wait"] ["_law_waits", "_law_step"] (defScope s__law_period) := ⟨rfl, rfl, rfl, by decide +kernel, rfl, by decide +kernel, by decide +kernel⟩
theorem ok__law_period {k : Nat} {f : Addr} {fd : FuncData} (T : Txt g mg) (F : Fun g.K "_law_period" "_law_period" s__law_period f fd)  : FnOk P w g.K mg base CX0 (k + 1) f fd ["_law_waits", "_law_step"] (spF g 2 F__law_period) := by
  refine def_fn (fs := []) F sc__law_period rfl rfl fun cdv A outer s H E hr C => ?_
  exact (ss_cons (s_for C PassesOwn.never (i_seq C (k_var 0 rfl (by first | exact .inl rfl | exact .inr (.inl rfl) | exact .inr (.inr rfl)) rfl rfl)) (tg_nm (pg_name (i := 2) C.nd rfl (by first | exact .inl rfl | exact .inr rfl) (by first | exact .inr rfl | exact .inl rfl))) (ss_cons (s_asgO (i := 1) C rfl (by first | exact .inl rfl | exact .inr rfl) (p_bin (op := .mul) C (p_bin (op := .fdiv) C (p_bin (op := .sub) C (p_bin (op := .add) C (k_var 2 rfl (by first | exact .inl rfl | exact .inr (.inl rfl) | exact .inr (.inr rfl)) rfl rfl) (k_var 1 rfl (by first | exact .inl rfl | exact .inr (.inl rfl) | exact .inr (.inr rfl)) rfl rfl)) (k_int C)) (k_var 1 rfl (by first | exact .inl rfl | exact .inr (.inl rfl) | exact .inr (.inr rfl)) rfl rfl)) (k_var 1 rfl (by first | exact .inl rfl | exact .inr (.inl rfl) | exact .inr (.inr rfl)) rfl rfl)) rfl (by first | exact .inr rfl | exact .inl rfl))
  ss_nil) (fun _ => rfl))
  (ss_cons (s_ret (k_var 1 rfl (by first | exact .inl rfl | exact .inr (.inl rfl) | exact .inr (.inr rfl)) rfl rfl))
  ss_nil))
abbrev s__law_ranges : Stmt := topS 32
theorem sc__law_ranges : FnScope ["_law_some", "_law_found", "_law_one_here"] ["_law_some"] (defScope s__law_ranges) := ⟨rfl, rfl, rfl, by decide +kernel, rfl, by decide +kernel, by decide +kernel⟩
theorem ok__law_ranges {k : Nat} {f : Addr} {fd : FuncData} (T : Txt g mg) (F : Fun g.K "_law_ranges" "_law_ranges" s__law_ranges f fd)  : FnOk P w g.K mg base CX0 (k + 1) f fd ["_law_some"] (spF g 1 F__law_ranges) := by
  refine def_fn (fs := []) F sc__law_ranges rfl rfl fun cdv A outer s H E hr C => ?_
  exact (ss_cons (s_asgO (i := 1) C rfl (by first | exact .inl rfl | exact .inr rfl) (p_lst C a_nil) rfl (by first | exact .inr rfl | exact .inl rfl))
  (ss_cons (s_for C PassesOwn.never (i_seq C (k_var 0 rfl (by first | exact .inl rfl | exact .inr (.inl rfl) | exact .inr (.inr rfl)) rfl rfl)) (tg_nm (pg_name (i := 2) C.nd rfl (by first | exact .inl rfl | exact .inr rfl) (by first | exact .inr rfl | exact .inl rfl))) (ss_cons (s_ite (PW.pt (w_and (t_cmp (op := .ne) C (k_var 1 rfl (by first | exact .inl rfl | exact .inr (.inl rfl) | exact .inr (.inr rfl)) rfl rfl) (p_lst C a_nil) rfl) (w_and1 (t_cmp (op := .eq) C (p_ix C (p_ix C (k_var 1 rfl (by first | exact .inl rfl | exact .inr (.inl rfl) | exact .inr (.inr rfl)) rfl rfl) (p_neg (k_int C)) (fun _ _ => rfl)) (k_int C) (fun _ _ => rfl)) (p_bin (op := .sub) C (k_var 2 rfl (by first | exact .inl rfl | exact .inr (.inl rfl) | exact .inr (.inr rfl)) rfl rfl) (k_int C)) rfl)))) (ss_cons (s_seti C (pe_var (i := 1) rfl (by first | exact .inl rfl | exact .inr (.inl rfl) | exact .inr (.inr rfl)) rfl rfl) (p_neg (k_int C)) (p_tup C (a_cons (p_ix C (p_ix C (k_var 1 rfl (by first | exact .inl rfl | exact .inr (.inl rfl) | exact .inr (.inr rfl)) rfl rfl) (p_neg (k_int C)) (fun _ _ => rfl)) (k_int C) (fun _ _ => rfl)) (a_cons (k_var 2 rfl (by first | exact .inl rfl | exact .inr (.inl rfl) | exact .inr (.inr rfl)) rfl rfl) a_nil rfl) rfl)) rfl rfl rfl (fun _ => rfl))
  ss_nil) (ss_cons (s_app C (pe_var (i := 1) rfl (by first | exact .inl rfl | exact .inr (.inl rfl) | exact .inr (.inr rfl)) rfl rfl) (p_tup C (a_cons (k_var 2 rfl (by first | exact .inl rfl | exact .inr (.inl rfl) | exact .inr (.inr rfl)) rfl rfl) (a_cons (k_var 2 rfl (by first | exact .inl rfl | exact .inr (.inl rfl) | exact .inr (.inr rfl)) rfl rfl) a_nil rfl) rfl)) rfl rfl rfl rfl)
  ss_nil))
  ss_nil) (fun _ => rfl))
  (ss_cons (s_ret (k_var 1 rfl (by first | exact .inl rfl | exact .inr (.inl rfl) | exact .inr (.inr rfl)) rfl rfl))
  ss_nil)))
abbrev s_Row___getitem__ : Stmt := inClass (topS 17) 3
theorem sc_Row___getitem__ : FnScope ["self", "index"] ["self", "index"] (defScope s_Row___getitem__) := ⟨rfl, rfl, rfl, by decide +kernel, rfl, by decide +kernel, by decide +kernel⟩
theorem ok_Row___getitem__ {k : Nat} {f : Addr} {fd : FuncData} (T : Txt g mg) (F : Fun g.K "__getitem__" "Row.__getitem__" s_Row___getitem__ f fd) (c_is_between : Cal P w mg base g k "is_between" 3 F_is_between) : FnOk P w g.K mg base CX0 (k + 1) f fd ["self", "index"] (spF g 2 F_Row___getitem__) := by
  refine def_fn (fs := [F_is_between]) F sc_Row___getitem__ rfl rfl fun cdv A outer s H E hr C => ?_
  exact (ss_cons (s_ite (t_not (t_val C (c_call c_is_between C rfl rfl hr rfl (aw_cons (k_var 1 rfl (by first | exact .inl rfl | exact .inr (.inl rfl) | exact .inr (.inr rfl)) rfl rfl) (aw_cons (k_int C) (aw_cons (p_bin (op := .sub) C (k_len C (a_cons (p_fld C (k_var 0 rfl (by first | exact .inl rfl | exact .inr (.inl rfl) | exact .inr (.inr rfl)) rfl rfl) (all_cons ⟨T.x_Row.cl, T.na_Row_specs⟩ (all_nil _)) rfl) a_nil rfl) rfl rfl (T.z_len) rfl) (k_int C)) aw_nil rfl) rfl) rfl) rfl rfl rfl) (fun _ => rfl))) (ss_cons s_stuck
  ss_nil) ss_nil)
  (ss_cons (s_ret (p_ix C (p_fld C (k_var 0 rfl (by first | exact .inl rfl | exact .inr (.inl rfl) | exact .inr (.inr rfl)) rfl rfl) (all_cons ⟨T.x_Row.cl, T.na_Row_specs⟩ (all_nil _)) rfl) (k_var 1 rfl (by first | exact .inl rfl | exact .inr (.inl rfl) | exact .inr (.inr rfl)) rfl rfl) (fun _ _ => rfl)))
  ss_nil))
abbrev s_round_up : Stmt := topS 10
theorem sc_round_up : FnScope ["value", "unit"] ["value", "unit"] (defScope s_round_up) := ⟨rfl, rfl, rfl, by decide +kernel, rfl, by decide +kernel, by decide +kernel⟩
theorem ok_round_up {k : Nat} {f : Addr} {fd : FuncData} (T : Txt g mg) (F : Fun g.K "round_up" "round_up" s_round_up f fd)  : FnOk P w g.K mg base CX0 (k + 1) f fd ["value", "unit"] (spF g 2 F_round_up) := by
  refine def_fn (fs := []) F sc_round_up rfl rfl fun cdv A outer s H E hr C => ?_
  exact (ss_cons (s_ret (p_bin (op := .mul) C (p_bin (op := .fdiv) C (p_bin (op := .sub) C (p_bin (op := .add) C (k_var 0 rfl (by first | exact .inl rfl | exact .inr (.inl rfl) | exact .inr (.inr rfl)) rfl rfl) (k_var 1 rfl (by first | exact .inl rfl | exact .inr (.inl rfl) | exact .inr (.inr rfl)) rfl rfl)) (k_int C)) (k_var 1 rfl (by first | exact .inl rfl | exact .inr (.inl rfl) | exact .inr (.inr rfl)) rfl rfl)) (k_var 1 rfl (by first | exact .inl rfl | exact .inr (.inl rfl) | exact .inr (.inr rfl)) rfl rfl)))
  ss_nil)
abbrev s_periods : Stmt := topS 18
theorem sc_periods : FnScope ["row", "found", "failures", "wait", "successes"] ["row"] (defScope s_periods) := ⟨rfl, rfl, rfl, by decide +kernel, rfl, by decide +kernel, by decide +kernel⟩
theorem ok_periods {k : Nat} {f : Addr} {fd : FuncData} (T : Txt g mg) (F : Fun g.K "periods" "periods" s_periods f fd) (c_round_up : Cal P w mg base g k "round_up" 2 F_round_up) : FnOk P w g.K mg base CX0 (k + 1) f fd ["row"] (spF g 1 F_periods) := by
  refine def_fn (fs := [F_round_up]) F sc_periods rfl rfl fun cdv A outer s H E hr C => ?_
  exact (ss_cons (s_asgO (i := 1) C rfl (by first | exact .inl rfl | exact .inr rfl) (p_lst C (a_cons (p_fld C (k_var 0 rfl (by first | exact .inl rfl | exact .inr (.inl rfl) | exact .inr (.inr rfl)) rfl rfl) (all_cons ⟨T.x_Row.cl, T.na_Row_pace⟩ (all_nil _)) rfl) a_nil rfl)) rfl (by first | exact .inr rfl | exact .inl rfl))
  (ss_cons (s_for C PassesOwn.never (i_seq C (p_fld C (k_var 0 rfl (by first | exact .inl rfl | exact .inr (.inl rfl) | exact .inr (.inr rfl)) rfl rfl) (all_cons ⟨T.x_Row.cl, T.na_Row_specs⟩ (all_nil _)) rfl)) (tgp C (tgs_cons (tg_nm (pg_name (i := 2) C.nd rfl (by first | exact .inl rfl | exact .inr rfl) (by first | exact .inr rfl | exact .inl rfl))) (tgs_cons (tg_nm (pg_name (i := 3) C.nd rfl (by first | exact .inl rfl | exact .inr rfl) (by first | exact .inr rfl | exact .inl rfl))) (tgs_cons (tg_nm (pg_name (i := 4) C.nd rfl (by first | exact .inl rfl | exact .inr rfl) (by first | exact .inr rfl | exact .inl rfl))) tgs_nil rfl) rfl) rfl) rfl rfl) (ss_cons (s_app C (pe_var (i := 1) rfl (by first | exact .inl rfl | exact .inr (.inl rfl) | exact .inr (.inr rfl)) rfl rfl) (c_call c_round_up C rfl rfl hr rfl (aw_cons (k_var 3 rfl (by first | exact .inl rfl | exact .inr (.inl rfl) | exact .inr (.inr rfl)) rfl rfl) (aw_cons (p_ix C (k_var 1 rfl (by first | exact .inl rfl | exact .inr (.inl rfl) | exact .inr (.inr rfl)) rfl rfl) (p_neg (k_int C)) (fun _ _ => rfl)) aw_nil rfl) rfl) rfl rfl rfl) rfl rfl rfl rfl)
  ss_nil) (fun _ => rfl))
  (ss_cons (s_ret (k_var 1 rfl (by first | exact .inl rfl | exact .inr (.inl rfl) | exact .inr (.inr rfl)) rfl rfl))
  ss_nil)))
abbrev s_row_period : Stmt := topS 19
theorem sc_row_period : FnScope ["row"] ["row"] (defScope s_row_period) := ⟨rfl, rfl, rfl, by decide +kernel, rfl, by decide +kernel, by decide +kernel⟩
theorem ok_row_period {k : Nat} {f : Addr} {fd : FuncData} (T : Txt g mg) (F : Fun g.K "row_period" "row_period" s_row_period f fd) (c_periods : Cal P w mg base g k "periods" 1 F_periods) : FnOk P w g.K mg base CX0 (k + 1) f fd ["row"] (spF g 1 F_row_period) := by
  refine def_fn (fs := [F_periods]) F sc_row_period rfl rfl fun cdv A outer s H E hr C => ?_
  exact (ss_cons (s_ret (p_ix C (c_call c_periods C rfl rfl hr rfl (aw_cons (k_var 0 rfl (by first | exact .inl rfl | exact .inr (.inl rfl) | exact .inr (.inr rfl)) rfl rfl) aw_nil rfl) rfl rfl rfl) (p_neg (k_int C)) (fun _ _ => rfl)))
  ss_nil)
abbrev s_Row_breaker_list : Stmt := inClass (topS 17) 8
theorem sc_Row_breaker_list : FnScope ["self"] ["self"] (defScope s_Row_breaker_list) := ⟨rfl, rfl, rfl, by decide +kernel, rfl, by decide +kernel, by decide +kernel⟩
theorem ok_Row_breaker_list {k : Nat} {f : Addr} {fd : FuncData} (T : Txt g mg) (F : Fun g.K "breaker_list" "Row.breaker_list" s_Row_breaker_list f fd)  : FnOk P w g.K mg base CX0 (k + 1) f fd ["self"] (spF g 1 F_Row_breaker_list) := by
  refine def_fn (fs := []) F sc_Row_breaker_list rfl rfl fun cdv A outer s H E hr C => ?_
  exact (ss_cons (s_ret (k_list C (a_cons (p_fld C (k_var 0 rfl (by first | exact .inl rfl | exact .inr (.inl rfl) | exact .inr (.inr rfl)) rfl rfl) (all_cons ⟨T.x_Row.cl, T.na_Row_specs⟩ (all_nil _)) rfl) a_nil rfl) rfl rfl (T.z_list) rfl))
  ss_nil)
abbrev s_period_behind : Stmt := topS 22
theorem sc_period_behind : FnScope ["row", "index", "period", "failures", "wait", "successes"] ["row", "index", "period"] (defScope s_period_behind) := ⟨rfl, rfl, rfl, by decide +kernel, rfl, by decide +kernel, by decide +kernel⟩
theorem ok_period_behind {k : Nat} {f : Addr} {fd : FuncData} (T : Txt g mg) (F : Fun g.K "period_behind" "period_behind" s_period_behind f fd) (m_Row_breaker_list : Mtd P w mg base g k 1 "breaker_list" 1 F_Row_breaker_list) (c_round_up : Cal P w mg base g k "round_up" 2 F_round_up) : FnOk P w g.K mg base CX0 (k + 1) f fd ["row", "index", "period"] (spF g 3 F_period_behind) := by
  refine def_fn (fs := [F_Row_breaker_list, F_round_up]) F sc_period_behind rfl rfl fun cdv A outer s H E hr C => ?_
  exact (ss_cons (s_for C PassesOwn.never (i_seq C (p_slc C (p_meth0 m_Row_breaker_list C rfl hr (k_var 0 rfl (by first | exact .inl rfl | exact .inr (.inl rfl) | exact .inr (.inr rfl)) rfl rfl) rfl) (part1 (p_bin (op := .add) C (k_var 1 rfl (by first | exact .inl rfl | exact .inr (.inl rfl) | exact .inr (.inr rfl)) rfl rfl) (k_int C))) part0)) (tgp C (tgs_cons (tg_nm (pg_name (i := 3) C.nd rfl (by first | exact .inl rfl | exact .inr rfl) (by first | exact .inr rfl | exact .inl rfl))) (tgs_cons (tg_nm (pg_name (i := 4) C.nd rfl (by first | exact .inl rfl | exact .inr rfl) (by first | exact .inr rfl | exact .inl rfl))) (tgs_cons (tg_nm (pg_name (i := 5) C.nd rfl (by first | exact .inl rfl | exact .inr rfl) (by first | exact .inr rfl | exact .inl rfl))) tgs_nil rfl) rfl) rfl) rfl rfl) (ss_cons (s_asgO (i := 2) C rfl (by first | exact .inl rfl | exact .inr rfl) (c_call c_round_up C rfl rfl hr rfl (aw_cons (k_var 4 rfl (by first | exact .inl rfl | exact .inr (.inl rfl) | exact .inr (.inr rfl)) rfl rfl) (aw_cons (k_var 2 rfl (by first | exact .inl rfl | exact .inr (.inl rfl) | exact .inr (.inr rfl)) rfl rfl) aw_nil rfl) rfl) rfl rfl rfl) rfl (by first | exact .inr rfl | exact .inl rfl))
  ss_nil) (fun _ => rfl))
  (ss_cons (s_ret (k_var 2 rfl (by first | exact .inl rfl | exact .inr (.inl rfl) | exact .inr (.inr rfl)) rfl rfl))
  ss_nil))
abbrev s_harmful_lowerings : Stmt := topS 23
theorem sc_harmful_lowerings : FnScope ["row", "index", "wait", "now", "found", "lower", "unit", "period", "first"] ["row", "index"] (defScope s_harmful_lowerings) := ⟨rfl, rfl, rfl, by decide +kernel, rfl, by decide +kernel, by decide +kernel⟩
theorem ok_harmful_lowerings {k : Nat} {f : Addr} {fd : FuncData} (T : Txt g mg) (F : Fun g.K "harmful_lowerings" "harmful_lowerings" s_harmful_lowerings f fd) (m_Row___getitem__ : Mtd P w mg base g k 1 "__getitem__" 2 F_Row___getitem__) (c_periods : Cal P w mg base g k "periods" 1 F_periods) (c_row_period : Cal P w mg base g k "row_period" 1 F_row_period) (c_period_behind : Cal P w mg base g k "period_behind" 3 F_period_behind) : FnOk P w g.K mg base CX0 (k + 2) f fd ["row", "index"] (spF g 2 F_harmful_lowerings) := by
  refine def_fn (fs := [F_Row___getitem__, F_periods, F_row_period, F_period_behind]) F sc_harmful_lowerings rfl rfl fun cdv A outer s H E hr1 C => ?_
  have hr := hr1.mono (Nat.le_succ k)
  exact (ss_cons (s_asgO (i := 2) C rfl (by first | exact .inl rfl | exact .inr rfl) (p_ix C (p_ownIx m_Row___getitem__ T.fn_Row C rfl hr1 (k_var 0 rfl (by first | exact .inl rfl | exact .inr (.inl rfl) | exact .inr (.inr rfl)) rfl rfl) (k_var 1 rfl (by first | exact .inl rfl | exact .inr (.inl rfl) | exact .inr (.inr rfl)) rfl rfl) (fun _ _ => rfl) (fun _ _ => rfl)) (k_int C) (fun _ _ => rfl)) rfl (by first | exact .inr rfl | exact .inl rfl))
  (ss_cons (s_par2 (i := 6) (j := 7) C rfl rfl (by decide) rfl rfl (an_cons (p_ix C (c_call c_periods C rfl rfl hr rfl (aw_cons (k_var 0 rfl (by first | exact .inl rfl | exact .inr (.inl rfl) | exact .inr (.inr rfl)) rfl rfl) aw_nil rfl) rfl rfl rfl) (k_var 1 rfl (by first | exact .inl rfl | exact .inr (.inl rfl) | exact .inr (.inr rfl)) rfl rfl) (fun _ _ => rfl)) (an_cons (p_ix C (c_call c_periods C rfl rfl hr rfl (aw_cons (k_var 0 rfl (by first | exact .inl rfl | exact .inr (.inl rfl) | exact .inr (.inr rfl)) rfl rfl) aw_nil rfl) rfl rfl rfl) (p_bin (op := .add) C (k_var 1 rfl (by first | exact .inl rfl | exact .inr (.inl rfl) | exact .inr (.inr rfl)) rfl rfl) (k_int C)) (fun _ _ => rfl)) an_nil rfl) rfl) rfl rfl)
  (ss_cons (s_ite (t_cmp (op := .gt) C (p_bin (op := .sub) C (p_bin (op := .fdiv) C (k_var 7 rfl (by first | exact .inl rfl | exact .inr (.inl rfl) | exact .inr (.inr rfl)) rfl rfl) (k_var 6 rfl (by first | exact .inl rfl | exact .inr (.inl rfl) | exact .inr (.inr rfl)) rfl rfl)) (k_int C)) (k_gint C T.g_MOST_STEPS rfl rfl) rfl) (ss_cons s_stuck
  ss_nil) ss_nil)
  (ss_cons (s_asgO (i := 3) C rfl (by first | exact .inl rfl | exact .inr rfl) (c_call c_row_period C rfl rfl hr rfl (aw_cons (k_var 0 rfl (by first | exact .inl rfl | exact .inr (.inl rfl) | exact .inr (.inr rfl)) rfl rfl) aw_nil rfl) rfl rfl rfl) rfl (by first | exact .inr rfl | exact .inl rfl))
  (ss_cons (s_asgO (i := 4) C rfl (by first | exact .inl rfl | exact .inr rfl) (p_lst C a_nil) rfl (by first | exact .inr rfl | exact .inl rfl))
  (ss_cons (s_for C PassesOwn.never (i_rng3 C rfl (T.z_range) (a_cons (k_var 6 rfl (by first | exact .inl rfl | exact .inr (.inl rfl) | exact .inr (.inr rfl)) rfl rfl) (a_cons (k_var 7 rfl (by first | exact .inl rfl | exact .inr (.inl rfl) | exact .inr (.inr rfl)) rfl rfl) (a_cons (k_var 6 rfl (by first | exact .inl rfl | exact .inr (.inl rfl) | exact .inr (.inr rfl)) rfl rfl) a_nil rfl) rfl) rfl) rfl rfl) (tg_nm (pg_name (i := 5) C.nd rfl (by first | exact .inl rfl | exact .inr rfl) (by first | exact .inr rfl | exact .inl rfl))) (ss_cons (s_ite (t_cmp (op := .gt) C (c_call c_period_behind C rfl rfl hr rfl (aw_cons (k_var 0 rfl (by first | exact .inl rfl | exact .inr (.inl rfl) | exact .inr (.inr rfl)) rfl rfl) (aw_cons (k_var 1 rfl (by first | exact .inl rfl | exact .inr (.inl rfl) | exact .inr (.inr rfl)) rfl rfl) (aw_cons (k_var 5 rfl (by first | exact .inl rfl | exact .inr (.inl rfl) | exact .inr (.inr rfl)) rfl rfl) aw_nil rfl) rfl) rfl) rfl rfl rfl) (k_var 3 rfl (by first | exact .inl rfl | exact .inr (.inl rfl) | exact .inr (.inr rfl)) rfl rfl) rfl) (ss_cons (s_asgO (i := 8) C rfl (by first | exact .inl rfl | exact .inr rfl) (p_bin (op := .add) C (p_bin (op := .sub) C (k_var 5 rfl (by first | exact .inl rfl | exact .inr (.inl rfl) | exact .inr (.inr rfl)) rfl rfl) (k_var 6 rfl (by first | exact .inl rfl | exact .inr (.inl rfl) | exact .inr (.inr rfl)) rfl rfl)) (k_int C)) rfl (by first | exact .inr rfl | exact .inl rfl))
  (ss_cons (s_ite (PW.pt (w_and (t_cmp (op := .ne) C (k_var 4 rfl (by first | exact .inl rfl | exact .inr (.inl rfl) | exact .inr (.inr rfl)) rfl rfl) (p_lst C a_nil) rfl) (w_and1 (t_cmp (op := .eq) C (p_ix C (p_ix C (k_var 4 rfl (by first | exact .inl rfl | exact .inr (.inl rfl) | exact .inr (.inr rfl)) rfl rfl) (p_neg (k_int C)) (fun _ _ => rfl)) (k_int C) (fun _ _ => rfl)) (p_bin (op := .sub) C (k_var 8 rfl (by first | exact .inl rfl | exact .inr (.inl rfl) | exact .inr (.inr rfl)) rfl rfl) (k_int C)) rfl)))) (ss_cons (s_asgO (i := 8) C rfl (by first | exact .inl rfl | exact .inr rfl) (p_ix C (p_pop (i := 4) C (pe_var (i := 4) rfl (by first | exact .inl rfl | exact .inr (.inl rfl) | exact .inr (.inr rfl)) rfl rfl) rfl rfl) (k_int C) (fun _ _ => rfl)) rfl (by first | exact .inr rfl | exact .inl rfl))
  ss_nil) ss_nil)
  (ss_cons (s_app C (pe_var (i := 4) rfl (by first | exact .inl rfl | exact .inr (.inl rfl) | exact .inr (.inr rfl)) rfl rfl) (p_tup C (a_cons (k_var 8 rfl (by first | exact .inl rfl | exact .inr (.inl rfl) | exact .inr (.inr rfl)) rfl rfl) (a_cons (k_var 5 rfl (by first | exact .inl rfl | exact .inr (.inl rfl) | exact .inr (.inr rfl)) rfl rfl) a_nil rfl) rfl)) rfl rfl rfl rfl)
  ss_nil))) ss_nil)
  ss_nil) (fun _ => rfl))
  (ss_cons (s_ret (k_var 4 rfl (by first | exact .inl rfl | exact .inr (.inl rfl) | exact .inr (.inr rfl)) rfl rfl))
  ss_nil)))))))
abbrev s_best_raise : Stmt := topS 24
theorem sc_best_raise : FnScope ["row", "index", "most", "wait", "best", "greater", "unit", "period"] ["row", "index", "most"] (defScope s_best_raise) := ⟨rfl, rfl, rfl, by decide +kernel, rfl, by decide +kernel, by decide +kernel⟩
theorem ok_best_raise {k : Nat} {f : Addr} {fd : FuncData} (T : Txt g mg) (F : Fun g.K "best_raise" "best_raise" s_best_raise f fd) (m_Row___getitem__ : Mtd P w mg base g k 1 "__getitem__" 2 F_Row___getitem__) (c_is_between : Cal P w mg base g k "is_between" 3 F_is_between) (c_periods : Cal P w mg base g k "periods" 1 F_periods) (c_round_up : Cal P w mg base g k "round_up" 2 F_round_up) (c_row_period : Cal P w mg base g k "row_period" 1 F_row_period) (c_period_behind : Cal P w mg base g k "period_behind" 3 F_period_behind) : FnOk P w g.K mg base CX0 (k + 2) f fd ["row", "index", "most"] (spF g 3 F_best_raise) := by
  refine def_fn (fs := [F_Row___getitem__, F_is_between, F_periods, F_round_up, F_row_period, F_period_behind]) F sc_best_raise rfl rfl fun cdv A outer s H E hr1 C => ?_
  have hr := hr1.mono (Nat.le_succ k)
  exact (ss_cons (s_asgO (i := 3) C rfl (by first | exact .inl rfl | exact .inr rfl) (p_ix C (p_ownIx m_Row___getitem__ T.fn_Row C rfl hr1 (k_var 0 rfl (by first | exact .inl rfl | exact .inr (.inl rfl) | exact .inr (.inr rfl)) rfl rfl) (k_var 1 rfl (by first | exact .inl rfl | exact .inr (.inl rfl) | exact .inr (.inr rfl)) rfl rfl) (fun _ _ => rfl) (fun _ _ => rfl)) (k_int C) (fun _ _ => rfl)) rfl (by first | exact .inr rfl | exact .inl rfl))
  (ss_cons (s_ite (t_not (t_val C (c_call c_is_between C rfl rfl hr rfl (aw_cons (k_var 2 rfl (by first | exact .inl rfl | exact .inr (.inl rfl) | exact .inr (.inr rfl)) rfl rfl) (aw_cons (k_var 3 rfl (by first | exact .inl rfl | exact .inr (.inl rfl) | exact .inr (.inr rfl)) rfl rfl) (aw_cons (k_gint C T.g_MOST_WAIT rfl rfl) aw_nil rfl) rfl) rfl) rfl rfl rfl) (fun _ => rfl))) (ss_cons s_stuck
  ss_nil) ss_nil)
  (ss_cons (s_par2 (i := 6) (j := 7) C rfl rfl (by decide) rfl rfl (an_cons (p_ix C (c_call c_periods C rfl rfl hr rfl (aw_cons (k_var 0 rfl (by first | exact .inl rfl | exact .inr (.inl rfl) | exact .inr (.inr rfl)) rfl rfl) aw_nil rfl) rfl rfl rfl) (k_var 1 rfl (by first | exact .inl rfl | exact .inr (.inl rfl) | exact .inr (.inr rfl)) rfl rfl) (fun _ _ => rfl)) (an_cons (p_ix C (c_call c_periods C rfl rfl hr rfl (aw_cons (k_var 0 rfl (by first | exact .inl rfl | exact .inr (.inl rfl) | exact .inr (.inr rfl)) rfl rfl) aw_nil rfl) rfl rfl rfl) (p_bin (op := .add) C (k_var 1 rfl (by first | exact .inl rfl | exact .inr (.inl rfl) | exact .inr (.inr rfl)) rfl rfl) (k_int C)) (fun _ _ => rfl)) an_nil rfl) rfl) rfl rfl)
  (ss_cons (s_ite (t_cmp (op := .gt) C (p_bin (op := .fdiv) C (p_bin (op := .sub) C (c_call c_round_up C rfl rfl hr rfl (aw_cons (k_var 2 rfl (by first | exact .inl rfl | exact .inr (.inl rfl) | exact .inr (.inr rfl)) rfl rfl) (aw_cons (k_var 6 rfl (by first | exact .inl rfl | exact .inr (.inl rfl) | exact .inr (.inr rfl)) rfl rfl) aw_nil rfl) rfl) rfl rfl rfl) (k_var 7 rfl (by first | exact .inl rfl | exact .inr (.inl rfl) | exact .inr (.inr rfl)) rfl rfl)) (k_var 6 rfl (by first | exact .inl rfl | exact .inr (.inl rfl) | exact .inr (.inr rfl)) rfl rfl)) (k_gint C T.g_MOST_STEPS rfl rfl) rfl) (ss_cons s_stuck
  ss_nil) ss_nil)
  (ss_cons (s_asgO (i := 4) C rfl (by first | exact .inl rfl | exact .inr rfl) (p_tup C (a_cons (c_call c_row_period C rfl rfl hr rfl (aw_cons (k_var 0 rfl (by first | exact .inl rfl | exact .inr (.inl rfl) | exact .inr (.inr rfl)) rfl rfl) aw_nil rfl) rfl rfl rfl) (a_cons (k_var 3 rfl (by first | exact .inl rfl | exact .inr (.inl rfl) | exact .inr (.inr rfl)) rfl rfl) a_nil rfl) rfl)) rfl (by first | exact .inr rfl | exact .inl rfl))
  (ss_cons (s_for C PassesOwn.never (i_rng3 C rfl (T.z_range) (a_cons (p_bin (op := .add) C (k_var 7 rfl (by first | exact .inl rfl | exact .inr (.inl rfl) | exact .inr (.inr rfl)) rfl rfl) (k_var 6 rfl (by first | exact .inl rfl | exact .inr (.inl rfl) | exact .inr (.inr rfl)) rfl rfl)) (a_cons (p_bin (op := .add) C (c_call c_round_up C rfl rfl hr rfl (aw_cons (k_var 2 rfl (by first | exact .inl rfl | exact .inr (.inl rfl) | exact .inr (.inr rfl)) rfl rfl) (aw_cons (k_var 6 rfl (by first | exact .inl rfl | exact .inr (.inl rfl) | exact .inr (.inr rfl)) rfl rfl) aw_nil rfl) rfl) rfl rfl rfl) (k_int C)) (a_cons (k_var 6 rfl (by first | exact .inl rfl | exact .inr (.inl rfl) | exact .inr (.inr rfl)) rfl rfl) a_nil rfl) rfl) rfl) rfl rfl) (tg_nm (pg_name (i := 5) C.nd rfl (by first | exact .inl rfl | exact .inr rfl) (by first | exact .inr rfl | exact .inl rfl))) (ss_cons (s_asgO (i := 4) C rfl (by first | exact .inl rfl | exact .inr rfl) (k_min2p C (a_cons (k_var 4 rfl (by first | exact .inl rfl | exact .inr (.inl rfl) | exact .inr (.inr rfl)) rfl rfl) (a_cons (p_tup C (a_cons (c_call c_period_behind C rfl rfl hr rfl (aw_cons (k_var 0 rfl (by first | exact .inl rfl | exact .inr (.inl rfl) | exact .inr (.inr rfl)) rfl rfl) (aw_cons (k_var 1 rfl (by first | exact .inl rfl | exact .inr (.inl rfl) | exact .inr (.inr rfl)) rfl rfl) (aw_cons (k_var 5 rfl (by first | exact .inl rfl | exact .inr (.inl rfl) | exact .inr (.inr rfl)) rfl rfl) aw_nil rfl) rfl) rfl) rfl rfl rfl) (a_cons (p_bin (op := .add) C (p_bin (op := .sub) C (k_var 5 rfl (by first | exact .inl rfl | exact .inr (.inl rfl) | exact .inr (.inr rfl)) rfl rfl) (k_var 6 rfl (by first | exact .inl rfl | exact .inr (.inl rfl) | exact .inr (.inr rfl)) rfl rfl)) (k_int C)) a_nil rfl) rfl)) a_nil rfl) rfl) rfl rfl (T.z_min) rfl) rfl (by first | exact .inr rfl | exact .inl rfl))
  ss_nil) (fun _ => rfl))
  (ss_cons (s_ret (k_var 4 rfl (by first | exact .inl rfl | exact .inr (.inl rfl) | exact .inr (.inr rfl)) rfl rfl))
  ss_nil)))))))
abbrev s_law : Stmt := topS 33
theorem sc_law : FnScope ["_law_script", "_law_cell", "_law_source", "_law_step", "_law_specs_here", "_law_lane", "_law_waits", "_law_now", "_law_more", "_law_great", "_law_k", "_law_tried", "_law_due", "_law_far", "_law_high", "_law_wait", "_law_best", "_law_spec", "_law_first", "_law_last", "_law_period_here"] ["_law_script"] (defScope s_law) := ⟨rfl, rfl, rfl, by decide +kernel, rfl, by decide +kernel, by decide +kernel⟩
theorem ok_law {k : Nat} {f : Addr} {fd : FuncData} (T : Txt g mg) (F : Fun g.K "law" "law" s_law f fd) (c__law_cell_at : Cal P w mg base g k "_law_cell_at" 2 F__law_cell_at) (c__law_source_of : Cal P w mg base g k "_law_source_of" 1 F__law_source_of) (c__law_next : Cal P w mg base g k "_law_next" 2 F__law_next) (c__law_one : Cal P w mg base g k "_law_one" 2 F__law_one) (c__law_specs : Cal P w mg base g k "_law_specs" 4 F__law_specs) (ik_Row_2_ : MkdK P w mg base g k 1 "Row" 2 [] [0, 1, 2] [0] F_Row___init__) (c__law_period : Cal P w mg base g k "_law_period" 2 F__law_period) (c__law_ranges : Cal P w mg base g k "_law_ranges" 1 F__law_ranges) (c_harmful_lowerings : Cal P w mg base g k "harmful_lowerings" 2 F_harmful_lowerings) (ck_harmful_lowerings_0_index_row : CalK P w mg base g k "harmful_lowerings" 0 ["index", "row"] [1, 0] F_harmful_lowerings) (c_best_raise : Cal P w mg base g k "best_raise" 3 F_best_raise) (ck_best_raise_0_most_index_row : CalK P w mg base g k "best_raise" 0 ["most", "index", "row"] [2, 1, 0] F_best_raise) : FnOk P w g.K mg base CX0 (k + 2) f fd ["_law_script"] (spF g 1 F_law) := by
  refine def_fn (fs := [F__law_cell_at, F__law_source_of, F__law_next, F__law_one, F__law_specs, F_Row___init__, F__law_period, F__law_ranges, F_harmful_lowerings, F_best_raise]) F sc_law rfl rfl fun cdv A outer s H E hr1 C => ?_
  have hr := hr1.mono (Nat.le_succ k)
  exact (ss_cons (s_for C PassesOwn.never (i_seq C (p_bin (op := .add) C (p_lst C (a_cons (c_call c__law_cell_at C rfl rfl hr rfl (aw_cons (k_var 0 rfl (by first | exact .inl rfl | exact .inr (.inl rfl) | exact .inr (.inr rfl)) rfl rfl) (aw_cons (k_int C) aw_nil rfl) rfl) rfl rfl rfl) a_nil rfl)) (p_slc C (k_var 0 rfl (by first | exact .inl rfl | exact .inr (.inl rfl) | exact .inr (.inr rfl)) rfl rfl) (part1 (k_int C)) (part1 (k_int C))))) (tg_nm (pg_name (i := 1) C.nd rfl (by first | exact .inl rfl | exact .inr rfl) (by first | exact .inr rfl | exact .inl rfl))) (ss_cons (s_asgO (i := 2) C rfl (by first | exact .inl rfl | exact .inr rfl) (c_call c__law_source_of C rfl rfl hr rfl (aw_cons (k_var 1 rfl (by first | exact .inl rfl | exact .inr (.inl rfl) | exact .inr (.inr rfl)) rfl rfl) aw_nil rfl) rfl rfl rfl) rfl (by first | exact .inr rfl | exact .inl rfl))
  (ss_cons (s_asg (p_bin (op := .add) C (k_int C) (c_call c__law_next C rfl rfl hr rfl (aw_cons (k_var 2 rfl (by first | exact .inl rfl | exact .inr (.inl rfl) | exact .inr (.inr rfl)) rfl rfl) (aw_cons (k_int C) aw_nil rfl) rfl) rfl rfl rfl)) (tg_nm (pg_name (i := 3) C.nd rfl (by first | exact .inl rfl | exact .inr rfl) (by first | exact .inr rfl | exact .inl rfl))) rfl rfl rfl)
  (ss_cons (s_asg (c_call c__law_specs C rfl rfl hr rfl (aw_cons (k_var 2 rfl (by first | exact .inl rfl | exact .inr (.inl rfl) | exact .inr (.inr rfl)) rfl rfl) (aw_cons (k_int C) (aw_cons (c_call c__law_one C rfl rfl hr rfl (aw_cons (k_var 2 rfl (by first | exact .inl rfl | exact .inr (.inl rfl) | exact .inr (.inr rfl)) rfl rfl) (aw_cons (p_lst C (a_cons (k_int C) (a_cons (k_int C) (a_cons (k_int C) (a_cons (k_int C) a_nil rfl) rfl) rfl) rfl)) aw_nil rfl) rfl) rfl rfl rfl) (aw_cons (k_int C) aw_nil rfl) rfl) rfl) rfl) rfl rfl rfl) (tg_nm (pg_name (i := 4) C.nd rfl (by first | exact .inl rfl | exact .inr rfl) (by first | exact .inr rfl | exact .inl rfl))) rfl rfl rfl)
  (ss_cons (s_asg (p_mkD ik_Row_2_ C rfl rfl hr1 rfl (pf_cons (k_var 4 rfl (by first | exact .inl rfl | exact .inr (.inl rfl) | exact .inr (.inr rfl)) rfl rfl) (pf_cons (k_var 3 rfl (by first | exact .inl rfl | exact .inr (.inl rfl) | exact .inr (.inr rfl)) rfl rfl) pf_nil rfl) rfl) rfl rfl rfl) (tg_nm (pg_name (i := 5) C.nd rfl (by first | exact .inl rfl | exact .inr rfl) (by first | exact .inr rfl | exact .inl rfl))) rfl rfl rfl)
  (ss_cons (s_asg (p_comp C (i_seq C (k_var 4 rfl (by first | exact .inl rfl | exact .inr (.inl rfl) | exact .inr (.inr rfl)) rfl rfl)) (blkOk_by (own := [("_law_spec", 17)]) rfl) (fun _ _ _ _ _ => (tg_nm (pg_name (i := 17) (C.blk _ _ _ _ _).nd rfl (by first | exact .inl rfl | exact .inr rfl) (by first | exact .inr rfl | exact .inl rfl)))) (fun _ _ _ _ _ => c_nil) (fun _ _ _ _ _ => (p_ix (C.blk _ _ _ _ _) (k_var 17 rfl (by first | exact .inl rfl | exact .inr (.inl rfl) | exact .inr (.inr rfl)) rfl rfl) (k_int (C.blk _ _ _ _ _)) (fun _ _ => rfl))) (fun _ => rfl)) (tg_nm (pg_name (i := 6) C.nd rfl (by first | exact .inl rfl | exact .inr rfl) (by first | exact .inr rfl | exact .inl rfl))) rfl rfl rfl)
  (ss_cons (s_asg (c_call c__law_period C rfl rfl hr rfl (aw_cons (k_var 6 rfl (by first | exact .inl rfl | exact .inr (.inl rfl) | exact .inr (.inr rfl)) rfl rfl) (aw_cons (k_var 3 rfl (by first | exact .inl rfl | exact .inr (.inl rfl) | exact .inr (.inr rfl)) rfl rfl) aw_nil rfl) rfl) rfl rfl rfl) (tg_nm (pg_name (i := 7) C.nd rfl (by first | exact .inl rfl | exact .inr rfl) (by first | exact .inr rfl | exact .inl rfl))) rfl rfl rfl)
  (ss_cons (s_asg (p_bin (op := .add) C (k_int C) (c_call c__law_next C rfl rfl hr rfl (aw_cons (k_var 2 rfl (by first | exact .inl rfl | exact .inr (.inl rfl) | exact .inr (.inr rfl)) rfl rfl) (aw_cons (p_bin (op := .pow) C (k_int C) (k_int C)) aw_nil rfl) rfl) rfl rfl rfl)) (tg_nm (pg_name (i := 8) C.nd rfl (by first | exact .inl rfl | exact .inr rfl) (by first | exact .inr rfl | exact .inl rfl))) rfl rfl rfl)
  (ss_cons (s_asg (p_mkD ik_Row_2_ C rfl rfl hr1 rfl (pf_cons (p_comp C (i_seq C (k_var 4 rfl (by first | exact .inl rfl | exact .inr (.inl rfl) | exact .inr (.inr rfl)) rfl rfl)) (blkOk_by (own := [("_law_spec", 17)]) rfl) (fun _ _ _ _ _ => (tg_nm (pg_name (i := 17) (C.blk _ _ _ _ _).nd rfl (by first | exact .inl rfl | exact .inr rfl) (by first | exact .inr rfl | exact .inl rfl)))) (fun _ _ _ _ _ => c_nil) (fun _ _ _ _ _ => (p_tup (C.blk _ _ _ _ _) (a_cons (p_ix (C.blk _ _ _ _ _) (k_var 17 rfl (by first | exact .inl rfl | exact .inr (.inl rfl) | exact .inr (.inr rfl)) rfl rfl) (k_int (C.blk _ _ _ _ _)) (fun _ _ => rfl)) (a_cons (p_bin (op := .mul) (C.blk _ _ _ _ _) (p_ix (C.blk _ _ _ _ _) (k_var 17 rfl (by first | exact .inl rfl | exact .inr (.inl rfl) | exact .inr (.inr rfl)) rfl rfl) (k_int (C.blk _ _ _ _ _)) (fun _ _ => rfl)) (k_var 8 rfl (by first | exact .inl rfl | exact .inr (.inl rfl) | exact .inr (.inr rfl)) rfl rfl)) (a_cons (p_ix (C.blk _ _ _ _ _) (k_var 17 rfl (by first | exact .inl rfl | exact .inr (.inl rfl) | exact .inr (.inr rfl)) rfl rfl) (k_int (C.blk _ _ _ _ _)) (fun _ _ => rfl)) a_nil rfl) rfl) rfl))) (fun _ => rfl)) (pf_cons (p_bin (op := .mul) C (k_var 3 rfl (by first | exact .inl rfl | exact .inr (.inl rfl) | exact .inr (.inr rfl)) rfl rfl) (k_var 8 rfl (by first | exact .inl rfl | exact .inr (.inl rfl) | exact .inr (.inr rfl)) rfl rfl)) pf_nil rfl) rfl) rfl rfl rfl) (tg_nm (pg_name (i := 9) C.nd rfl (by first | exact .inl rfl | exact .inr rfl) (by first | exact .inr rfl | exact .inl rfl))) rfl rfl rfl)
  (ss_cons (s_for C PassesOwn.never (i_rng1 C rfl (T.z_range) (a_cons (k_len C (a_cons (k_var 4 rfl (by first | exact .inl rfl | exact .inr (.inl rfl) | exact .inr (.inr rfl)) rfl rfl) a_nil rfl) rfl rfl (T.z_len) rfl) a_nil rfl) rfl) (tg_nm (pg_name (i := 10) C.nd rfl (by first | exact .inl rfl | exact .inr rfl) (by first | exact .inr rfl | exact .inl rfl))) (ss_cons (s_setLc (i := 11) C rfl rfl (sw_true rfl rfl rfl rfl) (i_rng2 C rfl (T.z_range) (a_cons (k_int C) (a_cons (p_ix C (k_var 6 rfl (by first | exact .inl rfl | exact .inr (.inl rfl) | exact .inr (.inr rfl)) rfl rfl) (k_var 10 rfl (by first | exact .inl rfl | exact .inr (.inl rfl) | exact .inr (.inr rfl)) rfl rfl) (fun _ _ => rfl)) a_nil rfl) rfl) rfl rfl) (blkOk_by (own := [("_law_wait", 15)]) rfl) (fun _ _ _ _ _ => (tg_nm (pg_name (i := 15) (C.blk _ _ _ _ _).nd rfl (by first | exact .inl rfl | exact .inr rfl) (by first | exact .inr rfl | exact .inl rfl)))) (fun _ _ _ _ _ => c_nil) (fun _ _ _ _ _ => (p_tup (C.blk _ _ _ _ _) (a_cons (c_call c__law_period (C.blk _ _ _ _ _) rfl rfl hr rfl (aw_cons (p_bin (op := .add) (C.blk _ _ _ _ _) (p_bin (op := .add) (C.blk _ _ _ _ _) (p_slc (C.blk _ _ _ _ _) (k_var 6 rfl (by first | exact .inl rfl | exact .inr (.inl rfl) | exact .inr (.inr rfl)) rfl rfl) part0 (part1 (k_var 10 rfl (by first | exact .inl rfl | exact .inr (.inl rfl) | exact .inr (.inr rfl)) rfl rfl))) (p_lst (C.blk _ _ _ _ _) (a_cons (k_var 15 rfl (by first | exact .inl rfl | exact .inr (.inl rfl) | exact .inr (.inr rfl)) rfl rfl) a_nil rfl))) (p_slc (C.blk _ _ _ _ _) (k_var 6 rfl (by first | exact .inl rfl | exact .inr (.inl rfl) | exact .inr (.inr rfl)) rfl rfl) (part1 (p_bin (op := .add) (C.blk _ _ _ _ _) (k_var 10 rfl (by first | exact .inl rfl | exact .inr (.inl rfl) | exact .inr (.inr rfl)) rfl rfl) (k_int (C.blk _ _ _ _ _)))) part0)) (aw_cons (k_var 3 rfl (by first | exact .inl rfl | exact .inr (.inl rfl) | exact .inr (.inr rfl)) rfl rfl) aw_nil rfl) rfl) rfl rfl rfl) (a_cons (k_var 15 rfl (by first | exact .inl rfl | exact .inr (.inl rfl) | exact .inr (.inr rfl)) rfl rfl) a_nil rfl) rfl))) (fun _ => rfl))
  (ss_cons (s_asg (c_call c__law_ranges C rfl rfl hr rfl (aw_cons (p_comp C (i_seq C (k_var 11 rfl (by first | exact .inl rfl | exact .inr (.inl rfl) | exact .inr (.inr rfl)) rfl rfl)) (blkOk_by (own := [("_law_period_here", 20), ("_law_wait", 15)]) rfl) (fun _ _ _ _ _ => (tgp (C.blk _ _ _ _ _) (tgs_cons (tg_nm (pg_name (i := 20) (C.blk _ _ _ _ _).nd rfl (by first | exact .inl rfl | exact .inr rfl) (by first | exact .inr rfl | exact .inl rfl))) (tgs_cons (tg_nm (pg_name (i := 15) (C.blk _ _ _ _ _).nd rfl (by first | exact .inl rfl | exact .inr rfl) (by first | exact .inr rfl | exact .inl rfl))) tgs_nil rfl) rfl) rfl rfl)) (fun _ _ _ _ _ => (c_one (t_cmp (op := .gt) (C.blk _ _ _ _ _) (k_var 20 rfl (by first | exact .inl rfl | exact .inr (.inl rfl) | exact .inr (.inr rfl)) rfl rfl) (k_var 7 rfl (by first | exact .inl rfl | exact .inr (.inl rfl) | exact .inr (.inr rfl)) rfl rfl) rfl))) (fun _ _ _ _ _ => (k_var 15 rfl (by first | exact .inl rfl | exact .inr (.inl rfl) | exact .inr (.inr rfl)) rfl rfl)) (fun _ => rfl)) aw_nil rfl) rfl rfl rfl) (tg_nm (pg_name (i := 12) C.nd rfl (by first | exact .inl rfl | exact .inr rfl) (by first | exact .inr rfl | exact .inl rfl))) rfl rfl rfl)
  (ss_cons (s_ite (PW.pt (w_or (t_cmp (op := .ne) C (c_call c_harmful_lowerings C rfl rfl hr rfl (aw_cons (k_var 5 rfl (by first | exact .inl rfl | exact .inr (.inl rfl) | exact .inr (.inr rfl)) rfl rfl) (aw_cons (k_var 10 rfl (by first | exact .inl rfl | exact .inr (.inl rfl) | exact .inr (.inr rfl)) rfl rfl) aw_nil rfl) rfl) rfl rfl rfl) (k_var 12 rfl (by first | exact .inl rfl | exact .inr (.inl rfl) | exact .inr (.inr rfl)) rfl rfl) rfl) (w_or1 (t_cmp (op := .ne) C (c_callK0 ck_harmful_lowerings_0_index_row C rfl rfl hr rfl (kf_cons (k_var 10 rfl (by first | exact .inl rfl | exact .inr (.inl rfl) | exact .inr (.inr rfl)) rfl rfl) (kf_cons (k_var 5 rfl (by first | exact .inl rfl | exact .inr (.inl rfl) | exact .inr (.inr rfl)) rfl rfl) kf_nil)) rfl rfl rfl rfl) (k_var 12 rfl (by first | exact .inl rfl | exact .inr (.inl rfl) | exact .inr (.inr rfl)) rfl rfl) rfl)))) (ss_cons (s_ret (k_bl C))
  ss_nil) ss_nil)
  (ss_cons (s_setLc (i := 13) C rfl rfl (sw_true rfl rfl rfl rfl) (i_seq C (k_var 12 rfl (by first | exact .inl rfl | exact .inr (.inl rfl) | exact .inr (.inr rfl)) rfl rfl)) (blkOk_by (own := [("_law_first", 18), ("_law_last", 19)]) rfl) (fun _ _ _ _ _ => (tgp (C.blk _ _ _ _ _) (tgs_cons (tg_nm (pg_name (i := 18) (C.blk _ _ _ _ _).nd rfl (by first | exact .inl rfl | exact .inr rfl) (by first | exact .inr rfl | exact .inl rfl))) (tgs_cons (tg_nm (pg_name (i := 19) (C.blk _ _ _ _ _).nd rfl (by first | exact .inl rfl | exact .inr rfl) (by first | exact .inr rfl | exact .inl rfl))) tgs_nil rfl) rfl) rfl rfl)) (fun _ _ _ _ _ => c_nil) (fun _ _ _ _ _ => (p_tup (C.blk _ _ _ _ _) (a_cons (p_bin (op := .add) (C.blk _ _ _ _ _) (p_bin (op := .mul) (C.blk _ _ _ _ _) (p_bin (op := .sub) (C.blk _ _ _ _ _) (k_var 18 rfl (by first | exact .inl rfl | exact .inr (.inl rfl) | exact .inr (.inr rfl)) rfl rfl) (k_int (C.blk _ _ _ _ _))) (k_var 8 rfl (by first | exact .inl rfl | exact .inr (.inl rfl) | exact .inr (.inr rfl)) rfl rfl)) (k_int (C.blk _ _ _ _ _))) (a_cons (p_bin (op := .mul) (C.blk _ _ _ _ _) (k_var 19 rfl (by first | exact .inl rfl | exact .inr (.inl rfl) | exact .inr (.inr rfl)) rfl rfl) (k_var 8 rfl (by first | exact .inl rfl | exact .inr (.inl rfl) | exact .inr (.inr rfl)) rfl rfl)) a_nil rfl) rfl))) (fun _ => rfl))
  (ss_cons (s_ite (t_cmp (op := .ne) C (c_call c_harmful_lowerings C rfl rfl hr rfl (aw_cons (k_var 9 rfl (by first | exact .inl rfl | exact .inr (.inl rfl) | exact .inr (.inr rfl)) rfl rfl) (aw_cons (k_var 10 rfl (by first | exact .inl rfl | exact .inr (.inl rfl) | exact .inr (.inr rfl)) rfl rfl) aw_nil rfl) rfl) rfl rfl rfl) (k_var 13 rfl (by first | exact .inl rfl | exact .inr (.inl rfl) | exact .inr (.inr rfl)) rfl rfl) rfl) (ss_cons (s_ret (k_bl C))
  ss_nil) ss_nil)
  (ss_cons (s_asg (p_bin (op := .add) C (p_ix C (k_var 6 rfl (by first | exact .inl rfl | exact .inr (.inl rfl) | exact .inr (.inr rfl)) rfl rfl) (k_var 10 rfl (by first | exact .inl rfl | exact .inr (.inl rfl) | exact .inr (.inr rfl)) rfl rfl) (fun _ _ => rfl)) (c_call c__law_next C rfl rfl hr rfl (aw_cons (k_var 2 rfl (by first | exact .inl rfl | exact .inr (.inl rfl) | exact .inr (.inr rfl)) rfl rfl) (aw_cons (c_call c__law_one C rfl rfl hr rfl (aw_cons (k_var 2 rfl (by first | exact .inl rfl | exact .inr (.inl rfl) | exact .inr (.inr rfl)) rfl rfl) (aw_cons (p_lst C (a_cons (k_int C) (a_cons (k_int C) (a_cons (k_int C) a_nil rfl) rfl) rfl)) aw_nil rfl) rfl) rfl rfl rfl) aw_nil rfl) rfl) rfl rfl rfl)) (tg_nm (pg_name (i := 14) C.nd rfl (by first | exact .inl rfl | exact .inr rfl) (by first | exact .inr rfl | exact .inl rfl))) rfl rfl rfl)
  (ss_cons (s_asgO (i := 11) C rfl (by first | exact .inl rfl | exact .inr rfl) (p_lst C a_nil) rfl (by first | exact .inr rfl | exact .inl rfl))
  (ss_cons (s_for C PassesOwn.never (i_rng2 C rfl (T.z_range) (a_cons (p_ix C (k_var 6 rfl (by first | exact .inl rfl | exact .inr (.inl rfl) | exact .inr (.inr rfl)) rfl rfl) (k_var 10 rfl (by first | exact .inl rfl | exact .inr (.inl rfl) | exact .inr (.inr rfl)) rfl rfl) (fun _ _ => rfl)) (a_cons (p_bin (op := .add) C (k_var 14 rfl (by first | exact .inl rfl | exact .inr (.inl rfl) | exact .inr (.inr rfl)) rfl rfl) (k_int C)) a_nil rfl) rfl) rfl rfl) (tg_nm (pg_name (i := 15) C.nd rfl (by first | exact .inl rfl | exact .inr rfl) (by first | exact .inr rfl | exact .inl rfl))) (ss_cons (s_app C (pe_var (i := 11) rfl (by first | exact .inl rfl | exact .inr (.inl rfl) | exact .inr (.inr rfl)) rfl rfl) (p_tup C (a_cons (c_call c__law_period C rfl rfl hr rfl (aw_cons (p_bin (op := .add) C (p_bin (op := .add) C (p_slc C (k_var 6 rfl (by first | exact .inl rfl | exact .inr (.inl rfl) | exact .inr (.inr rfl)) rfl rfl) part0 (part1 (k_var 10 rfl (by first | exact .inl rfl | exact .inr (.inl rfl) | exact .inr (.inr rfl)) rfl rfl))) (p_lst C (a_cons (k_var 15 rfl (by first | exact .inl rfl | exact .inr (.inl rfl) | exact .inr (.inr rfl)) rfl rfl) a_nil rfl))) (p_slc C (k_var 6 rfl (by first | exact .inl rfl | exact .inr (.inl rfl) | exact .inr (.inr rfl)) rfl rfl) (part1 (p_bin (op := .add) C (k_var 10 rfl (by first | exact .inl rfl | exact .inr (.inl rfl) | exact .inr (.inr rfl)) rfl rfl) (k_int C))) part0)) (aw_cons (k_var 3 rfl (by first | exact .inl rfl | exact .inr (.inl rfl) | exact .inr (.inr rfl)) rfl rfl) aw_nil rfl) rfl) rfl rfl rfl) (a_cons (k_var 15 rfl (by first | exact .inl rfl | exact .inr (.inl rfl) | exact .inr (.inr rfl)) rfl rfl) a_nil rfl) rfl)) rfl rfl rfl rfl)
  ss_nil) (fun _ => rfl))
  (ss_cons (s_asgO (i := 16) C rfl (by first | exact .inl rfl | exact .inr rfl) (k_minp C (a_cons (k_var 11 rfl (by first | exact .inl rfl | exact .inr (.inl rfl) | exact .inr (.inr rfl)) rfl rfl) a_nil rfl) rfl rfl (T.z_min) rfl) rfl (by first | exact .inr rfl | exact .inl rfl))
  (ss_cons (s_ite (PW.pt (w_or (t_cmp (op := .ne) C (c_call c_best_raise C rfl rfl hr rfl (aw_cons (k_var 5 rfl (by first | exact .inl rfl | exact .inr (.inl rfl) | exact .inr (.inr rfl)) rfl rfl) (aw_cons (k_var 10 rfl (by first | exact .inl rfl | exact .inr (.inl rfl) | exact .inr (.inr rfl)) rfl rfl) (aw_cons (k_var 14 rfl (by first | exact .inl rfl | exact .inr (.inl rfl) | exact .inr (.inr rfl)) rfl rfl) aw_nil rfl) rfl) rfl) rfl rfl rfl) (k_var 16 rfl (by first | exact .inl rfl | exact .inr (.inl rfl) | exact .inr (.inr rfl)) rfl rfl) rfl) (w_or1 (t_cmp (op := .ne) C (c_callK0 ck_best_raise_0_most_index_row C rfl rfl hr rfl (kf_cons (k_var 14 rfl (by first | exact .inl rfl | exact .inr (.inl rfl) | exact .inr (.inr rfl)) rfl rfl) (kf_cons (k_var 10 rfl (by first | exact .inl rfl | exact .inr (.inl rfl) | exact .inr (.inr rfl)) rfl rfl) (kf_cons (k_var 5 rfl (by first | exact .inl rfl | exact .inr (.inl rfl) | exact .inr (.inr rfl)) rfl rfl) kf_nil))) rfl rfl rfl rfl) (k_var 16 rfl (by first | exact .inl rfl | exact .inr (.inl rfl) | exact .inr (.inr rfl)) rfl rfl) rfl)))) (ss_cons (s_ret (k_bl C))
  ss_nil) ss_nil)
  (ss_cons (s_ite (t_cmp (op := .ne) C (p_ix C (c_call c_best_raise C rfl rfl hr rfl (aw_cons (k_var 9 rfl (by first | exact .inl rfl | exact .inr (.inl rfl) | exact .inr (.inr rfl)) rfl rfl) (aw_cons (k_var 10 rfl (by first | exact .inl rfl | exact .inr (.inl rfl) | exact .inr (.inr rfl)) rfl rfl) (aw_cons (p_bin (op := .mul) C (k_var 14 rfl (by first | exact .inl rfl | exact .inr (.inl rfl) | exact .inr (.inr rfl)) rfl rfl) (k_var 8 rfl (by first | exact .inl rfl | exact .inr (.inl rfl) | exact .inr (.inr rfl)) rfl rfl)) aw_nil rfl) rfl) rfl) rfl rfl rfl) (k_int C) (fun _ _ => rfl)) (p_bin (op := .mul) C (p_ix C (k_var 16 rfl (by first | exact .inl rfl | exact .inr (.inl rfl) | exact .inr (.inr rfl)) rfl rfl) (k_int C) (fun _ _ => rfl)) (k_var 8 rfl (by first | exact .inl rfl | exact .inr (.inl rfl) | exact .inr (.inr rfl)) rfl rfl)) rfl) (ss_cons (s_ret (k_bl C))
  ss_nil) ss_nil)
  (ss_cons (s_xapp C (c_call c_harmful_lowerings C rfl rfl hr rfl (aw_cons (k_var 5 rfl (by first | exact .inl rfl | exact .inr (.inl rfl) | exact .inr (.inr rfl)) rfl rfl) (aw_cons (k_var 10 rfl (by first | exact .inl rfl | exact .inr (.inl rfl) | exact .inr (.inr rfl)) rfl rfl) aw_nil rfl) rfl) rfl rfl rfl) pe_non rfl rfl rfl rfl)
  (ss_cons (s_ite (t_cmp (op := .ne) C (c_call c_harmful_lowerings C rfl rfl hr rfl (aw_cons (k_var 5 rfl (by first | exact .inl rfl | exact .inr (.inl rfl) | exact .inr (.inr rfl)) rfl rfl) (aw_cons (k_var 10 rfl (by first | exact .inl rfl | exact .inr (.inl rfl) | exact .inr (.inr rfl)) rfl rfl) aw_nil rfl) rfl) rfl rfl rfl) (k_var 12 rfl (by first | exact .inl rfl | exact .inr (.inl rfl) | exact .inr (.inr rfl)) rfl rfl) rfl) (ss_cons (s_ret (k_bl C))
  ss_nil) ss_nil)
  ss_nil))))))))))))) (fun _ => rfl))
  ss_nil))))))))) (fun _ => rfl))
  (ss_cons (s_ret (k_bl C))
  ss_nil))
end
theorem all_mk {l : PySem.W.OpenLaw} {w : World} {K : PySem.W.Frag} {h : Heap} {mg : Str → Option Value} {fa C1 : Addr} (X : K.In h) (G : h.Ns mainGlobals mg) (hfa : mg "law" = some (.ref fa))
    {f0 : Addr} {od0 an0 : Option Addr} {sl0 : Array (Option Value)} {oc0 kV0 dc0 pm0 cd0 ct0 : Value}
    {f1 : Addr} {od1 an1 : Option Addr} {sl1 : Array (Option Value)} {oc1 kV1 dc1 pm1 cd1 ct1 : Value}
    {f2 : Addr} {od2 an2 : Option Addr} {sl2 : Array (Option Value)} {oc2 kV2 dc2 pm2 cd2 ct2 : Value}
    {f3 : Addr} {od3 an3 : Option Addr} {sl3 : Array (Option Value)} {oc3 kV3 dc3 pm3 cd3 ct3 : Value}
    {f4 : Addr} {od4 an4 : Option Addr} {sl4 : Array (Option Value)} {oc4 kV4 dc4 pm4 cd4 ct4 : Value}
    {f5 : Addr} {od5 an5 : Option Addr} {sl5 : Array (Option Value)} {oc5 kV5 dc5 pm5 cd5 ct5 : Value}
    {f6 : Addr} {od6 an6 : Option Addr} {sl6 : Array (Option Value)} {oc6 kV6 dc6 pm6 cd6 ct6 : Value}
    {f7 : Addr} {od7 an7 : Option Addr} {sl7 : Array (Option Value)} {oc7 kV7 dc7 pm7 cd7 ct7 : Value}
    {f8 : Addr} {od8 an8 : Option Addr} {sl8 : Array (Option Value)} {oc8 kV8 dc8 pm8 cd8 ct8 : Value}
    {f9 D9 : Addr} {od9 an9 : Option Addr} {sl9 : Array (Option Value)} {oc9 dc9 pm9 cd9 ct9 : Value}
    {t9 : Tok}
    {f10 : Addr} {od10 an10 : Option Addr} {sl10 : Array (Option Value)} {oc10 kV10 dc10 pm10 cd10 ct10 : Value}
    {f11 : Addr} {od11 an11 : Option Addr} {sl11 : Array (Option Value)} {oc11 kV11 dc11 pm11 cd11 ct11 : Value}
    {f12 : Addr} {od12 an12 : Option Addr} {sl12 : Array (Option Value)} {oc12 kV12 dc12 pm12 cd12 ct12 : Value}
    {f13 : Addr} {od13 an13 : Option Addr} {sl13 : Array (Option Value)} {oc13 kV13 dc13 pm13 cd13 ct13 : Value}
    {f14 : Addr} {od14 an14 : Option Addr} {sl14 : Array (Option Value)} {oc14 kV14 dc14 pm14 cd14 ct14 : Value}
    {f15 : Addr} {od15 an15 : Option Addr} {sl15 : Array (Option Value)} {oc15 kV15 dc15 pm15 cd15 ct15 : Value}
    {f16 : Addr} {od16 an16 : Option Addr} {sl16 : Array (Option Value)} {oc16 kV16 dc16 pm16 cd16 ct16 : Value}
    {f17 : Addr} {od17 an17 : Option Addr} {sl17 : Array (Option Value)} {oc17 kV17 dc17 pm17 cd17 ct17 : Value}
    {f18 : Addr} {od18 an18 : Option Addr} {sl18 : Array (Option Value)} {oc18 kV18 dc18 pm18 cd18 ct18 : Value}
    {f19 : Addr} {od19 an19 : Option Addr} {sl19 : Array (Option Value)} {oc19 kV19 dc19 pm19 cd19 ct19 : Value}
    {f20 : Addr} {od20 an20 : Option Addr} {sl20 : Array (Option Value)} {oc20 kV20 dc20 pm20 cd20 ct20 : Value}
    {t_MOST_BREAKERS : _}
    {t_MOST_COUNT : _}
    {t_MOST_WAIT : _}
    {t_MOST_STEPS : _}
    (aC1 : PySem.W.nsIn K mainGlobals "Row" = some (some (.ref C1)))
    (a0 : PySem.W.nsIn K mainGlobals "_law_cell_at" = some (some (.ref f0)))
    (l0 : K.lookup f0 = some ⟨oc0, od0, .func (PySem.W.fnOf "_law_cell_at" "_law_cell_at" (defArgs s__law_cell_at) (defBody s__law_cell_at) (defScope s__law_cell_at) .none (kV0) dc0 pm0 an0 cd0 ct0), sl0⟩)
    (e0 : PySem.W.codeIn K cd0 "_law_cell_at" = true)
    (k0 : PySem.W.keepIn K (.ref f0) = true)
    (a1 : PySem.W.nsIn K mainGlobals "_law_source_of" = some (some (.ref f1)))
    (l1 : K.lookup f1 = some ⟨oc1, od1, .func (PySem.W.fnOf "_law_source_of" "_law_source_of" (defArgs s__law_source_of) (defBody s__law_source_of) (defScope s__law_source_of) .none (kV1) dc1 pm1 an1 cd1 ct1), sl1⟩)
    (e1 : PySem.W.codeIn K cd1 "_law_source_of" = true)
    (k1 : PySem.W.keepIn K (.ref f1) = true)
    (a2 : PySem.W.nsIn K mainGlobals "_law_next" = some (some (.ref f2)))
    (l2 : K.lookup f2 = some ⟨oc2, od2, .func (PySem.W.fnOf "_law_next" "_law_next" (defArgs s__law_next) (defBody s__law_next) (defScope s__law_next) .none (kV2) dc2 pm2 an2 cd2 ct2), sl2⟩)
    (e2 : PySem.W.codeIn K cd2 "_law_next" = true)
    (k2 : PySem.W.keepIn K (.ref f2) = true)
    (a3 : PySem.W.nsIn K mainGlobals "_law_one" = some (some (.ref f3)))
    (l3 : K.lookup f3 = some ⟨oc3, od3, .func (PySem.W.fnOf "_law_one" "_law_one" (defArgs s__law_one) (defBody s__law_one) (defScope s__law_one) .none (kV3) dc3 pm3 an3 cd3 ct3), sl3⟩)
    (e3 : PySem.W.codeIn K cd3 "_law_one" = true)
    (k3 : PySem.W.keepIn K (.ref f3) = true)
    (a4 : PySem.W.nsIn K mainGlobals "_law_specs" = some (some (.ref f4)))
    (l4 : K.lookup f4 = some ⟨oc4, od4, .func (PySem.W.fnOf "_law_specs" "_law_specs" (defArgs s__law_specs) (defBody s__law_specs) (defScope s__law_specs) .none (kV4) dc4 pm4 an4 cd4 ct4), sl4⟩)
    (e4 : PySem.W.codeIn K cd4 "_law_specs" = true)
    (k4 : PySem.W.keepIn K (.ref f4) = true)
    (a5 : PySem.W.nsIn K mainGlobals "is_integer" = some (some (.ref f5)))
    (l5 : K.lookup f5 = some ⟨oc5, od5, .func (PySem.W.fnOf "is_integer" "is_integer" (defArgs s_is_integer) (defBody s_is_integer) (defScope s_is_integer) .none (kV5) dc5 pm5 an5 cd5 ct5), sl5⟩)
    (e5 : PySem.W.codeIn K cd5 "is_integer" = true)
    (k5 : PySem.W.keepIn K (.ref f5) = true)
    (a6 : PySem.W.nsIn K mainGlobals "is_between" = some (some (.ref f6)))
    (l6 : K.lookup f6 = some ⟨oc6, od6, .func (PySem.W.fnOf "is_between" "is_between" (defArgs s_is_between) (defBody s_is_between) (defScope s_is_between) .none (kV6) dc6 pm6 an6 cd6 ct6), sl6⟩)
    (e6 : PySem.W.codeIn K cd6 "is_between" = true)
    (k6 : PySem.W.keepIn K (.ref f6) = true)
    (a7 : PySem.W.nsIn K mainGlobals "is_breaker" = some (some (.ref f7)))
    (l7 : K.lookup f7 = some ⟨oc7, od7, .func (PySem.W.fnOf "is_breaker" "is_breaker" (defArgs s_is_breaker) (defBody s_is_breaker) (defScope s_is_breaker) .none (kV7) dc7 pm7 an7 cd7 ct7), sl7⟩)
    (e7 : PySem.W.codeIn K cd7 "is_breaker" = true)
    (k7 : PySem.W.keepIn K (.ref f7) = true)
    (a8 : PySem.W.nsIn K mainGlobals "check_breakers" = some (some (.ref f8)))
    (l8 : K.lookup f8 = some ⟨oc8, od8, .func (PySem.W.fnOf "check_breakers" "check_breakers" (defArgs s_check_breakers) (defBody s_check_breakers) (defScope s_check_breakers) .none (kV8) dc8 pm8 an8 cd8 ct8), sl8⟩)
    (e8 : PySem.W.codeIn K cd8 "check_breakers" = true)
    (k8 : PySem.W.keepIn K (.ref f8) = true)
    (a9 : PySem.W.findIn K (.ref C1) "__init__" = some (some (.ref f9)))
    (i9 : PySem.W.isFn K (.ref f9) = true)
    (l9 : K.lookup f9 = some ⟨oc9, od9, .func (PySem.W.fnOf "__init__" "Row.__init__" (defArgs s_Row___init__) (defBody s_Row___init__) (defScope s_Row___init__) .none (.ref D9) dc9 pm9 an9 cd9 ct9), sl9⟩)
    (e9 : PySem.W.codeIn K cd9 "Row.__init__" = true)
    (k9 : PySem.W.keepIn K (.ref f9) = true)
    (d9 : PySem.W.nsIn K D9 "phase" = some (some (.int 0 t9)))
    (a10 : PySem.W.nsIn K mainGlobals "_law_period" = some (some (.ref f10)))
    (l10 : K.lookup f10 = some ⟨oc10, od10, .func (PySem.W.fnOf "_law_period" "_law_period" (defArgs s__law_period) (defBody s__law_period) (defScope s__law_period) .none (kV10) dc10 pm10 an10 cd10 ct10), sl10⟩)
    (e10 : PySem.W.codeIn K cd10 "_law_period" = true)
    (k10 : PySem.W.keepIn K (.ref f10) = true)
    (a11 : PySem.W.nsIn K mainGlobals "_law_ranges" = some (some (.ref f11)))
    (l11 : K.lookup f11 = some ⟨oc11, od11, .func (PySem.W.fnOf "_law_ranges" "_law_ranges" (defArgs s__law_ranges) (defBody s__law_ranges) (defScope s__law_ranges) .none (kV11) dc11 pm11 an11 cd11 ct11), sl11⟩)
    (e11 : PySem.W.codeIn K cd11 "_law_ranges" = true)
    (k11 : PySem.W.keepIn K (.ref f11) = true)
    (a12 : PySem.W.findIn K (.ref C1) "__getitem__" = some (some (.ref f12)))
    (i12 : PySem.W.isFn K (.ref f12) = true)
    (l12 : K.lookup f12 = some ⟨oc12, od12, .func (PySem.W.fnOf "__getitem__" "Row.__getitem__" (defArgs s_Row___getitem__) (defBody s_Row___getitem__) (defScope s_Row___getitem__) .none (kV12) dc12 pm12 an12 cd12 ct12), sl12⟩)
    (e12 : PySem.W.codeIn K cd12 "Row.__getitem__" = true)
    (k12 : PySem.W.keepIn K (.ref f12) = true)
    (a13 : PySem.W.nsIn K mainGlobals "round_up" = some (some (.ref f13)))
    (l13 : K.lookup f13 = some ⟨oc13, od13, .func (PySem.W.fnOf "round_up" "round_up" (defArgs s_round_up) (defBody s_round_up) (defScope s_round_up) .none (kV13) dc13 pm13 an13 cd13 ct13), sl13⟩)
    (e13 : PySem.W.codeIn K cd13 "round_up" = true)
    (k13 : PySem.W.keepIn K (.ref f13) = true)
    (a14 : PySem.W.nsIn K mainGlobals "periods" = some (some (.ref f14)))
    (l14 : K.lookup f14 = some ⟨oc14, od14, .func (PySem.W.fnOf "periods" "periods" (defArgs s_periods) (defBody s_periods) (defScope s_periods) .none (kV14) dc14 pm14 an14 cd14 ct14), sl14⟩)
    (e14 : PySem.W.codeIn K cd14 "periods" = true)
    (k14 : PySem.W.keepIn K (.ref f14) = true)
    (a15 : PySem.W.nsIn K mainGlobals "row_period" = some (some (.ref f15)))
    (l15 : K.lookup f15 = some ⟨oc15, od15, .func (PySem.W.fnOf "row_period" "row_period" (defArgs s_row_period) (defBody s_row_period) (defScope s_row_period) .none (kV15) dc15 pm15 an15 cd15 ct15), sl15⟩)
    (e15 : PySem.W.codeIn K cd15 "row_period" = true)
    (k15 : PySem.W.keepIn K (.ref f15) = true)
    (a16 : PySem.W.findIn K (.ref C1) "breaker_list" = some (some (.ref f16)))
    (i16 : PySem.W.isFn K (.ref f16) = true)
    (l16 : K.lookup f16 = some ⟨oc16, od16, .func (PySem.W.fnOf "breaker_list" "Row.breaker_list" (defArgs s_Row_breaker_list) (defBody s_Row_breaker_list) (defScope s_Row_breaker_list) .none (kV16) dc16 pm16 an16 cd16 ct16), sl16⟩)
    (e16 : PySem.W.codeIn K cd16 "Row.breaker_list" = true)
    (k16 : PySem.W.keepIn K (.ref f16) = true)
    (a17 : PySem.W.nsIn K mainGlobals "period_behind" = some (some (.ref f17)))
    (l17 : K.lookup f17 = some ⟨oc17, od17, .func (PySem.W.fnOf "period_behind" "period_behind" (defArgs s_period_behind) (defBody s_period_behind) (defScope s_period_behind) .none (kV17) dc17 pm17 an17 cd17 ct17), sl17⟩)
    (e17 : PySem.W.codeIn K cd17 "period_behind" = true)
    (k17 : PySem.W.keepIn K (.ref f17) = true)
    (a18 : PySem.W.nsIn K mainGlobals "harmful_lowerings" = some (some (.ref f18)))
    (l18 : K.lookup f18 = some ⟨oc18, od18, .func (PySem.W.fnOf "harmful_lowerings" "harmful_lowerings" (defArgs s_harmful_lowerings) (defBody s_harmful_lowerings) (defScope s_harmful_lowerings) .none (kV18) dc18 pm18 an18 cd18 ct18), sl18⟩)
    (e18 : PySem.W.codeIn K cd18 "harmful_lowerings" = true)
    (k18 : PySem.W.keepIn K (.ref f18) = true)
    (a19 : PySem.W.nsIn K mainGlobals "best_raise" = some (some (.ref f19)))
    (l19 : K.lookup f19 = some ⟨oc19, od19, .func (PySem.W.fnOf "best_raise" "best_raise" (defArgs s_best_raise) (defBody s_best_raise) (defScope s_best_raise) .none (kV19) dc19 pm19 an19 cd19 ct19), sl19⟩)
    (e19 : PySem.W.codeIn K cd19 "best_raise" = true)
    (k19 : PySem.W.keepIn K (.ref f19) = true)
    (a20 : PySem.W.nsIn K mainGlobals "law" = some (some (.ref f20)))
    (l20 : K.lookup f20 = some ⟨oc20, od20, .func (PySem.W.fnOf "law" "law" (defArgs s_law) (defBody s_law) (defScope s_law) .none (kV20) dc20 pm20 an20 cd20 ct20), sl20⟩)
    (e20 : PySem.W.codeIn K cd20 "law" = true)
    (k20 : PySem.W.keepIn K (.ref f20) = true)
    (z_bool : PySem.W.nsIn K mainGlobals "bool" = some none)
    (z_enumerate : PySem.W.nsIn K mainGlobals "enumerate" = some none)
    (z_int : PySem.W.nsIn K mainGlobals "int" = some none)
    (z_isinstance : PySem.W.nsIn K mainGlobals "isinstance" = some none)
    (z_len : PySem.W.nsIn K mainGlobals "len" = some none)
    (z_list : PySem.W.nsIn K mainGlobals "list" = some none)
    (z_min : PySem.W.nsIn K mainGlobals "min" = some none)
    (z_range : PySem.W.nsIn K mainGlobals "range" = some none)
    (z_tuple : PySem.W.nsIn K mainGlobals "tuple" = some none)
    (g_MOST_BREAKERS : PySem.W.nsIn K mainGlobals "MOST_BREAKERS" = some (some (.int 12 t_MOST_BREAKERS)))
    (g_MOST_COUNT : PySem.W.nsIn K mainGlobals "MOST_COUNT" = some (some (.int 1000000000000 t_MOST_COUNT)))
    (g_MOST_WAIT : PySem.W.nsIn K mainGlobals "MOST_WAIT" = some (some (.int 1000000000000000000000000000000 t_MOST_WAIT)))
    (g_MOST_STEPS : PySem.W.nsIn K mainGlobals "MOST_STEPS" = some (some (.int 2000 t_MOST_STEPS)))
    (pg1 : PySem.W.plainGet K C1 Str.empty = true)
    (hd1 : PySem.W.hasDictIn K C1 = true)
    (po1 : PySem.W.plainOver K C1 = true)
    (sa1 : PySem.W.findIn K (.ref C1) "__setattr__" = some (some (.builtin "object.__setattr__")))
    (ha1 : PySem.W.findIn K (.ref C1) "__class__" = some (some (.builtin "object.__class__")))
    (hn1 : PySem.W.specialIn K (.builtin "object.__class__") "__get__" = some (some (.builtin "getset_descriptor.__get__")))
    (ht1 : PySem.W.takesIn K (.builtin "object.__class__") = some true)
    (hm1 : PySem.W.mroIn K C1 (.type "object") = some true)
    (nf1_NoneType : PySem.W.subIn K (.type "NoneType") (.ref C1) = some false)
    (nf1_bool : PySem.W.subIn K (.type "bool") (.ref C1) = some false)
    (nf1_int : PySem.W.subIn K (.type "int") (.ref C1) = some false)
    (nf1_str : PySem.W.subIn K (.type "str") (.ref C1) = some false)
    (nf1_list : PySem.W.subIn K (.type "list") (.ref C1) = some false)
    (nf1_tuple : PySem.W.subIn K (.type "tuple") (.ref C1) = some false)
    (na_Row_specs : PySem.W.findIn K (.ref C1) "specs" = some none)
    (na_Row_pace : PySem.W.findIn K (.ref C1) "pace" = some none)
    (na_Row_shift : PySem.W.findIn K (.ref C1) "shift" = some none)
    (fn_Row : PySem.W.fnIn K f12 = true)
    (mk1 : PySem.W.makesIn K C1 = true)
    (kc1 : PySem.W.keepIn K (.ref C1) = true)
    : ∃ fd : FuncData, (∀ (s : Shared) (v : Value), BindsTo s fd ⟨[v], []⟩ [("_law_script", v)]) ∧ ∀ base : Heap, K.In base → base.Ns mainGlobals mg → FnOk l.prog w K mg base CX0 7 fa fd ["_law_script"] (spN K F_law) := by
  have e := hfa.symm.trans (PySem.W.mg_of X G a20)
  cases e
  have T : Txt ⟨K, clOf [0, C1, 0, 0, 0, 0, 0, 0]⟩ mg := ⟨trivial, PySem.W.mg_none_of X G z_bool, PySem.W.mg_none_of X G z_enumerate, PySem.W.mg_none_of X G z_int, PySem.W.mg_none_of X G z_isinstance, PySem.W.mg_none_of X G z_len, PySem.W.mg_none_of X G z_list, PySem.W.mg_none_of X G z_min, PySem.W.mg_none_of X G z_range, PySem.W.mg_none_of X G z_tuple, ⟨t_MOST_BREAKERS, PySem.W.mg_of X G g_MOST_BREAKERS⟩, ⟨t_MOST_COUNT, PySem.W.mg_of X G g_MOST_COUNT⟩, ⟨t_MOST_WAIT, PySem.W.mg_of X G g_MOST_WAIT⟩, ⟨t_MOST_STEPS, PySem.W.mg_of X G g_MOST_STEPS⟩, ⟨⟨pg1, hd1, po1, sa1⟩, ha1, hn1, ht1, hm1, (all_cons nf1_NoneType (all_cons nf1_bool (all_cons nf1_int (all_cons nf1_str (all_cons nf1_list (all_cons nf1_tuple (all_nil _)))))))⟩, na_Row_specs, na_Row_pace, na_Row_shift, (fun f h => by cases (a12.symm.trans h.at_); exact fn_Row)⟩
  refine ⟨PySem.W.fnOf "law" "law" (defArgs s_law) (defBody s_law) (defScope s_law) .none kV20 dc20 pm20 an20 cd20 ct20, fun s v => .of_eq rfl, fun base _ _ => ?_⟩
  have F0 := fun_mk (st := s__law_cell_at) l0 e0 k0
  have G0 := ok__law_cell_at (P := l.prog) (w := w) (base := base) (g := ⟨K, clOf [0, C1, 0, 0, 0, 0, 0, 0]⟩) (k := 0) T F0 
  have F1 := fun_mk (st := s__law_source_of) l1 e1 k1
  have G1 := ok__law_source_of (P := l.prog) (w := w) (base := base) (g := ⟨K, clOf [0, C1, 0, 0, 0, 0, 0, 0]⟩) (k := 0) T F1 
  have F2 := fun_mk (st := s__law_next) l2 e2 k2
  have G2 := ok__law_next (P := l.prog) (w := w) (base := base) (g := ⟨K, clOf [0, C1, 0, 0, 0, 0, 0, 0]⟩) (k := 0) T F2 
  have h_c__law_next : Cal l.prog w mg base ⟨K, clOf [0, C1, 0, 0, 0, 0, 0, 0]⟩ 1 "_law_next" 2 F__law_next := ⟨_, _, _, PySem.W.mg_of X G a2, k2, (F2.binds (ps := ["_law_source", "_law_many"]) fun _ _ _ _ _ _ us hl => match us, hl with | [_, _], _ => rfl), G2⟩
  have F3 := fun_mk (st := s__law_one) l3 e3 k3
  have G3 := ok__law_one (P := l.prog) (w := w) (base := base) (g := ⟨K, clOf [0, C1, 0, 0, 0, 0, 0, 0]⟩) (k := 1) T F3 (h_c__law_next.mono (by decide))
  have h_c__law_one : Cal l.prog w mg base ⟨K, clOf [0, C1, 0, 0, 0, 0, 0, 0]⟩ 2 "_law_one" 2 F__law_one := ⟨_, _, _, PySem.W.mg_of X G a3, k3, (F3.binds (ps := ["_law_source", "_law_options"]) fun _ _ _ _ _ _ us hl => match us, hl with | [_, _], _ => rfl), G3⟩
  have F4 := fun_mk (st := s__law_specs) l4 e4 k4
  have G4 := ok__law_specs (P := l.prog) (w := w) (base := base) (g := ⟨K, clOf [0, C1, 0, 0, 0, 0, 0, 0]⟩) (k := 2) T F4 (h_c__law_next.mono (by decide)) (h_c__law_one.mono (by decide))
  have F5 := fun_mk (st := s_is_integer) l5 e5 k5
  have G5 := ok_is_integer (P := l.prog) (w := w) (base := base) (g := ⟨K, clOf [0, C1, 0, 0, 0, 0, 0, 0]⟩) (k := 0) T F5 
  have h_c_is_integer : Cal l.prog w mg base ⟨K, clOf [0, C1, 0, 0, 0, 0, 0, 0]⟩ 1 "is_integer" 1 F_is_integer := ⟨_, _, _, PySem.W.mg_of X G a5, k5, (F5.binds (ps := ["value"]) fun _ _ _ _ _ _ us hl => match us, hl with | [_], _ => rfl), G5⟩
  have F6 := fun_mk (st := s_is_between) l6 e6 k6
  have G6 := ok_is_between (P := l.prog) (w := w) (base := base) (g := ⟨K, clOf [0, C1, 0, 0, 0, 0, 0, 0]⟩) (k := 1) T F6 (h_c_is_integer.mono (by decide))
  have h_c_is_between : Cal l.prog w mg base ⟨K, clOf [0, C1, 0, 0, 0, 0, 0, 0]⟩ 2 "is_between" 3 F_is_between := ⟨_, _, _, PySem.W.mg_of X G a6, k6, (F6.binds (ps := ["value", "low", "high"]) fun _ _ _ _ _ _ us hl => match us, hl with | [_, _, _], _ => rfl), G6⟩
  have F7 := fun_mk (st := s_is_breaker) l7 e7 k7
  have G7 := ok_is_breaker (P := l.prog) (w := w) (base := base) (g := ⟨K, clOf [0, C1, 0, 0, 0, 0, 0, 0]⟩) (k := 2) T F7 (h_c_is_between.mono (by decide))
  have h_c_is_breaker : Cal l.prog w mg base ⟨K, clOf [0, C1, 0, 0, 0, 0, 0, 0]⟩ 3 "is_breaker" 1 F_is_breaker := ⟨_, _, _, PySem.W.mg_of X G a7, k7, (F7.binds (ps := ["value"]) fun _ _ _ _ _ _ us hl => match us, hl with | [_], _ => rfl), G7⟩
  have F8 := fun_mk (st := s_check_breakers) l8 e8 k8
  have G8 := ok_check_breakers (P := l.prog) (w := w) (base := base) (g := ⟨K, clOf [0, C1, 0, 0, 0, 0, 0, 0]⟩) (k := 3) T F8 (h_c_is_breaker.mono (by decide))
  have h_c_check_breakers : Cal l.prog w mg base ⟨K, clOf [0, C1, 0, 0, 0, 0, 0, 0]⟩ 4 "check_breakers" 1 F_check_breakers := ⟨_, _, _, PySem.W.mg_of X G a8, k8, (F8.binds (ps := ["breakers"]) fun _ _ _ _ _ _ us hl => match us, hl with | [_], _ => rfl), G8⟩
  have F9 := fund_mk (st := s_Row___init__) l9 e9 k9 d9
  have G9 := ok_Row___init__ (P := l.prog) (w := w) (base := base) (g := ⟨K, clOf [0, C1, 0, 0, 0, 0, 0, 0]⟩) (k := 4) T F9 (h_c_check_breakers.mono (by decide)) (h_c_is_between.mono (by decide))
  have F10 := fun_mk (st := s__law_period) l10 e10 k10
  have G10 := ok__law_period (P := l.prog) (w := w) (base := base) (g := ⟨K, clOf [0, C1, 0, 0, 0, 0, 0, 0]⟩) (k := 0) T F10 
  have F11 := fun_mk (st := s__law_ranges) l11 e11 k11
  have G11 := ok__law_ranges (P := l.prog) (w := w) (base := base) (g := ⟨K, clOf [0, C1, 0, 0, 0, 0, 0, 0]⟩) (k := 0) T F11 
  have F12 := fun_mk (st := s_Row___getitem__) l12 e12 k12
  have G12 := ok_Row___getitem__ (P := l.prog) (w := w) (base := base) (g := ⟨K, clOf [0, C1, 0, 0, 0, 0, 0, 0]⟩) (k := 2) T F12 (h_c_is_between.mono (by decide))
  have F13 := fun_mk (st := s_round_up) l13 e13 k13
  have G13 := ok_round_up (P := l.prog) (w := w) (base := base) (g := ⟨K, clOf [0, C1, 0, 0, 0, 0, 0, 0]⟩) (k := 0) T F13 
  have h_c_round_up : Cal l.prog w mg base ⟨K, clOf [0, C1, 0, 0, 0, 0, 0, 0]⟩ 1 "round_up" 2 F_round_up := ⟨_, _, _, PySem.W.mg_of X G a13, k13, (F13.binds (ps := ["value", "unit"]) fun _ _ _ _ _ _ us hl => match us, hl with | [_, _], _ => rfl), G13⟩
  have F14 := fun_mk (st := s_periods) l14 e14 k14
  have G14 := ok_periods (P := l.prog) (w := w) (base := base) (g := ⟨K, clOf [0, C1, 0, 0, 0, 0, 0, 0]⟩) (k := 1) T F14 (h_c_round_up.mono (by decide))
  have h_c_periods : Cal l.prog w mg base ⟨K, clOf [0, C1, 0, 0, 0, 0, 0, 0]⟩ 2 "periods" 1 F_periods := ⟨_, _, _, PySem.W.mg_of X G a14, k14, (F14.binds (ps := ["row"]) fun _ _ _ _ _ _ us hl => match us, hl with | [_], _ => rfl), G14⟩
  have F15 := fun_mk (st := s_row_period) l15 e15 k15
  have G15 := ok_row_period (P := l.prog) (w := w) (base := base) (g := ⟨K, clOf [0, C1, 0, 0, 0, 0, 0, 0]⟩) (k := 2) T F15 (h_c_periods.mono (by decide))
  have F16 := fun_mk (st := s_Row_breaker_list) l16 e16 k16
  have G16 := ok_Row_breaker_list (P := l.prog) (w := w) (base := base) (g := ⟨K, clOf [0, C1, 0, 0, 0, 0, 0, 0]⟩) (k := 0) T F16 
  have h_m_Row_breaker_list : Mtd l.prog w mg base ⟨K, clOf [0, C1, 0, 0, 0, 0, 0, 0]⟩ 1 1 "breaker_list" 1 F_Row_breaker_list := ⟨_, _, _, T.x_Row.cl, ⟨a16, i16, k16⟩, (F16.binds (ps := ["self"]) fun _ _ _ _ _ _ us hl => match us, hl with | [_], _ => rfl), G16⟩
  have F17 := fun_mk (st := s_period_behind) l17 e17 k17
  have G17 := ok_period_behind (P := l.prog) (w := w) (base := base) (g := ⟨K, clOf [0, C1, 0, 0, 0, 0, 0, 0]⟩) (k := 1) T F17 (h_m_Row_breaker_list.mono (by decide)) (h_c_round_up.mono (by decide))
  have h_m_Row___getitem__ : Mtd l.prog w mg base ⟨K, clOf [0, C1, 0, 0, 0, 0, 0, 0]⟩ 3 1 "__getitem__" 2 F_Row___getitem__ := ⟨_, _, _, T.x_Row.cl, ⟨a12, i12, k12⟩, (F12.binds (ps := ["self", "index"]) fun _ _ _ _ _ _ us hl => match us, hl with | [_, _], _ => rfl), G12⟩
  have h_c_row_period : Cal l.prog w mg base ⟨K, clOf [0, C1, 0, 0, 0, 0, 0, 0]⟩ 3 "row_period" 1 F_row_period := ⟨_, _, _, PySem.W.mg_of X G a15, k15, (F15.binds (ps := ["row"]) fun _ _ _ _ _ _ us hl => match us, hl with | [_], _ => rfl), G15⟩
  have h_c_period_behind : Cal l.prog w mg base ⟨K, clOf [0, C1, 0, 0, 0, 0, 0, 0]⟩ 2 "period_behind" 3 F_period_behind := ⟨_, _, _, PySem.W.mg_of X G a17, k17, (F17.binds (ps := ["row", "index", "period"]) fun _ _ _ _ _ _ us hl => match us, hl with | [_, _, _], _ => rfl), G17⟩
  have F18 := fun_mk (st := s_harmful_lowerings) l18 e18 k18
  have G18 := ok_harmful_lowerings (P := l.prog) (w := w) (base := base) (g := ⟨K, clOf [0, C1, 0, 0, 0, 0, 0, 0]⟩) (k := 3) T F18 (h_m_Row___getitem__.mono (by decide)) (h_c_periods.mono (by decide)) (h_c_row_period.mono (by decide)) (h_c_period_behind.mono (by decide))
  have F19 := fun_mk (st := s_best_raise) l19 e19 k19
  have G19 := ok_best_raise (P := l.prog) (w := w) (base := base) (g := ⟨K, clOf [0, C1, 0, 0, 0, 0, 0, 0]⟩) (k := 3) T F19 (h_m_Row___getitem__.mono (by decide)) (h_c_is_between.mono (by decide)) (h_c_periods.mono (by decide)) (h_c_round_up.mono (by decide)) (h_c_row_period.mono (by decide)) (h_c_period_behind.mono (by decide))
  have h_c__law_cell_at : Cal l.prog w mg base ⟨K, clOf [0, C1, 0, 0, 0, 0, 0, 0]⟩ 1 "_law_cell_at" 2 F__law_cell_at := ⟨_, _, _, PySem.W.mg_of X G a0, k0, (F0.binds (ps := ["_law_script", "_law_k"]) fun _ _ _ _ _ _ us hl => match us, hl with | [_, _], _ => rfl), G0⟩
  have h_c__law_source_of : Cal l.prog w mg base ⟨K, clOf [0, C1, 0, 0, 0, 0, 0, 0]⟩ 1 "_law_source_of" 1 F__law_source_of := ⟨_, _, _, PySem.W.mg_of X G a1, k1, (F1.binds (ps := ["_law_cell"]) fun _ _ _ _ _ _ us hl => match us, hl with | [_], _ => rfl), G1⟩
  have h_c__law_specs : Cal l.prog w mg base ⟨K, clOf [0, C1, 0, 0, 0, 0, 0, 0]⟩ 3 "_law_specs" 4 F__law_specs := ⟨_, _, _, PySem.W.mg_of X G a4, k4, (F4.binds (ps := ["_law_source", "_law_high", "_law_wide", "_law_many"]) fun _ _ _ _ _ _ us hl => match us, hl with | [_, _, _, _], _ => rfl), G4⟩
  have h_ik_Row_2_ : MkdK l.prog w mg base ⟨K, clOf [0, C1, 0, 0, 0, 0, 0, 0]⟩ 5 1 "Row" 2 [] [0, 1, 2] [0] F_Row___init__ := mkdk_of (ms := [("phase", V.int 0)]) F9 (by simp) (by simp) rfl (PySem.W.mg_of X G aC1) ⟨mk1, a9, i9, kc1⟩ rfl rfl G9 (fun _ _ _ _ _ _ us mv ws h1 h2 h3 => match us, mv, ws, h1, h2, h3 with | [_, _, _], [_], [], _, _, _ => ⟨_, _, _, _, _, _, rfl, rfl, rfl⟩)
  have h_c__law_period : Cal l.prog w mg base ⟨K, clOf [0, C1, 0, 0, 0, 0, 0, 0]⟩ 1 "_law_period" 2 F__law_period := ⟨_, _, _, PySem.W.mg_of X G a10, k10, (F10.binds (ps := ["_law_waits", "_law_step"]) fun _ _ _ _ _ _ us hl => match us, hl with | [_, _], _ => rfl), G10⟩
  have h_c__law_ranges : Cal l.prog w mg base ⟨K, clOf [0, C1, 0, 0, 0, 0, 0, 0]⟩ 1 "_law_ranges" 1 F__law_ranges := ⟨_, _, _, PySem.W.mg_of X G a11, k11, (F11.binds (ps := ["_law_some"]) fun _ _ _ _ _ _ us hl => match us, hl with | [_], _ => rfl), G11⟩
  have h_c_harmful_lowerings : Cal l.prog w mg base ⟨K, clOf [0, C1, 0, 0, 0, 0, 0, 0]⟩ 5 "harmful_lowerings" 2 F_harmful_lowerings := ⟨_, _, _, PySem.W.mg_of X G a18, k18, (F18.binds (ps := ["row", "index"]) fun _ _ _ _ _ _ us hl => match us, hl with | [_, _], _ => rfl), G18⟩
  have h_ck_harmful_lowerings_0_index_row : CalK l.prog w mg base ⟨K, clOf [0, C1, 0, 0, 0, 0, 0, 0]⟩ 5 "harmful_lowerings" 0 ["index", "row"] [1, 0] F_harmful_lowerings := calk_of F18 (PySem.W.mg_of X G a18) rfl G18 (fun _ _ _ _ _ _ us ws h1 h2 => match us, ws, h1, h2 with | [], [_, _], _, _ => rfl)
  have h_c_best_raise : Cal l.prog w mg base ⟨K, clOf [0, C1, 0, 0, 0, 0, 0, 0]⟩ 5 "best_raise" 3 F_best_raise := ⟨_, _, _, PySem.W.mg_of X G a19, k19, (F19.binds (ps := ["row", "index", "most"]) fun _ _ _ _ _ _ us hl => match us, hl with | [_, _, _], _ => rfl), G19⟩
  have h_ck_best_raise_0_most_index_row : CalK l.prog w mg base ⟨K, clOf [0, C1, 0, 0, 0, 0, 0, 0]⟩ 5 "best_raise" 0 ["most", "index", "row"] [2, 1, 0] F_best_raise := calk_of F19 (PySem.W.mg_of X G a19) rfl G19 (fun _ _ _ _ _ _ us ws h1 h2 => match us, ws, h1, h2 with | [], [_, _, _], _, _ => rfl)
  exact spN_of (ok_law (P := l.prog) (w := w) (base := base) (g := ⟨K, clOf [0, C1, 0, 0, 0, 0, 0, 0]⟩) (k := 5) T (fun_mk (st := s_law) l20 e20 k20) (h_c__law_cell_at.mono (by decide)) (h_c__law_source_of.mono (by decide)) (h_c__law_next.mono (by decide)) (h_c__law_one.mono (by decide)) (h_c__law_specs.mono (by decide)) (h_ik_Row_2_.mono (by decide)) (h_c__law_period.mono (by decide)) (h_c__law_ranges.mono (by decide)) (h_c_harmful_lowerings.mono (by decide)) (h_ck_harmful_lowerings_0_index_row.mono (by decide)) (h_c_best_raise.mono (by decide)) (h_ck_best_raise_0_most_index_row.mono (by decide)))
end L
namespace L
open PySem L2 DV
/-! ### great numbers -/
@[irreducible] def BB : Int := 2 ^ 3000
theorem BB_big : 10 ^ 600 < BB := by unfold BB; decide +kernel
theorem log_bb {a : Int} (h1 : -(1000 * BB) < a) (h2 : a < 1000 * BB) : a.natAbs.log2 < 4000 := by
  by_cases z : a.natAbs = 0
  · rw [z]; decide
  · rw [Nat.log2_lt z]
    have e : (1000 : Int) * BB < 2 ^ 4000 := by unfold BB; decide +kernel
    have : (a.natAbs : Int) < 2 ^ 4000 := by omega
    exact Int.ofNat_lt.mp (by simpa using this)
theorem mul_bb {a b : Int} (h1 : -(1000 * BB) < a) (h2 : a < 1000 * BB) (h3 : -(1000 * BB) < b) (h4 : b < 1000 * BB) : mulOk a b = true := by
  have := log_bb h1 h2
  have := log_bb h3 h4
  unfold mulOk
  rw [decide_eq_true (p := a.natAbs.log2 + b.natAbs.log2 < 1000000) (by omega)]
  simp only [Bool.or_true]
theorem div_bb {b : Int} (h1 : 0 < b) (h2 : b < 1000 * BB) : b.natAbs.log2 < 9000 := by
  have := log_bb (a := b) (by have := BB_big; omega) h2
  omega
/-! ### small reads -/
def cD : Option Int → D
  | none => .non
  | some n => .int n
theorem i3_0 (x y z : D) : atI [x, y, z] 0 = some x := rfl
theorem i3_1 (x y z : D) : atI [x, y, z] 1 = some y := rfl
theorem i3_2 (x y z : D) : atI [x, y, z] 2 = some z := rfl
theorem i1_m (x : D) : atI [x] (-1) = some x := rfl
theorem cut_init (xs : List D) : cutD xs none (some (-1)) = xs.dropLast := by
  unfold cutD
  rw [HT.sIx_none, List.drop_zero, Nat.sub_zero, List.dropLast_eq_take]
  congr 1
  show (if (-1 : Int) < 0 then (-1 + (xs.length : Int)).toNat else min (-1 : Int).toNat xs.length) = _
  rw [if_pos (by decide)]
  omega
def lastL (xs : List D) : List D := match xs.getLast? with
  | none => []
  | some a => [a]
theorem cut_last (xs : List D) : cutD xs (some (-1)) none = lastL xs := by
  unfold cutD
  rw [HT.sIx_none]
  have e : HT.sIx xs.length 0 (some (-1)) = xs.length - 1 := by
    show (if (-1 : Int) < 0 then (-1 + (xs.length : Int)).toNat else min (-1 : Int).toNat xs.length) = _
    rw [if_pos (by decide)]
    omega
  rw [e, List.take_of_length_le (by rw [List.length_drop]; omega)]
  unfold lastL
  cases h : xs.getLast? with
  | none =>
    rw [List.getLast?_eq_none_iff] at h
    subst h
    rfl
  | some a =>
    obtain ⟨l, rfl⟩ := List.getLast?_eq_some_iff.mp h
    simp
theorem eq_ni (i : Int) : eqd .non (.int i) = false := by simp [eqd]
theorem eq_in (i : Int) : eqd (.int i) .non = false := by simp [eqd]
theorem is_int_i (i : Int) (b : Bool) : F_is_integer [some (.int i, b)] = some (.fz (.bl true), [some (.int i, b)]) := by
  cases b <;> simp [F_is_integer, DV.SC, DV.SE, DV.SX]

/-! ### the law's source -/
abbrev wl (a c k : Int) : D := .lst [.int a, .int c, .int k]
abbrev primes : List D := [.int 2147483647, .int 2147483629, .int 2147483587, .int 2147483579, .int 2147483563, .int 2147483549, .int 2147483543]
theorem prime_ok (k : Int) : ∃ p : Int, atI primes (k % 7) = some (.int p) ∧ 0 < p ∧ p < 2 ^ 31 := by
  have h0 := Int.emod_nonneg k (show (7 : Int) ≠ 0 by decide)
  have h1 := Int.emod_lt_of_pos k (show (0 : Int) < 7 by decide)
  generalize k % 7 = q at *
  obtain ⟨n, rfl⟩ : ∃ n : Nat, q = n := ⟨q.toNat, by omega⟩
  have hn : n = 0 ∨ n = 1 ∨ n = 2 ∨ n = 3 ∨ n = 4 ∨ n = 5 ∨ n = 6 := by omega
  rcases hn with rfl | rfl | rfl | rfl | rfl | rfl | rfl <;> exact ⟨_, rfl, by decide, by decide⟩
theorem jx0 : ixN 3 0 = some 0 := rfl
theorem jx2 : ixN 3 2 = some 2 := rfl
/-- a source in good order -/
structure Wl (c k : Int) (N : Nat) : Prop where
  c0 : 0 ≤ c
  c1 : c < 2147483647
  k0 : 0 ≤ k
  k1 : k + 120 * N < 2 ^ 40
theorem source_ok (cell : Int) : ∃ a c, F__law_source_of [some (.int cell, false)] = some (.nw (wl a c 0), [some (.int cell, false)]) ∧ 0 ≤ c ∧ c < 2147483647 := by
  have c0 := Int.emod_nonneg cell (show (2147483647 : Int) ≠ 0 by decide)
  have c1 := Int.emod_lt_of_pos cell (show (0 : Int) < 2147483647 by decide)
  by_cases h : 1000000000000000000 ≤ cell
  · have m : mulOk cell 1 = true := mulOk_r (by decide) (by decide)
    exact ⟨cell, cell % 2147483647, by simp [F__law_source_of, DV.SC, DV.SE, DV.SX, h, m, sizeLine], c0, c1⟩
  · have m : mulOk cell 0 = true := mulOk_r (by decide) (by decide)
    exact ⟨0, cell % 2147483647, by simp [F__law_source_of, DV.SC, DV.SE, DV.SX, h, m, sizeLine], c0, c1⟩
theorem cell_at_ok (ns : List Int) : ∃ c, F__law_cell_at [some (.scr ns, false), some (.int 0, false)] = some (.fz (.int c), [some (.scr ns, false), some (.int 0, false)]) := by
  cases ns with
  | nil => exact ⟨0, by simp [F__law_cell_at, DV.SC, DV.SE, DV.SX]⟩
  | cons n ns =>
    have i0 : atI (n :: ns) 0 = some n := atI_nat (j := 0) rfl
    refine ⟨n, ?_⟩
    simp [F__law_cell_at, DV.SC, DV.SE, DV.SX, i0]

theorem Wl.le {c k : Int} {N M : Nat} (w : Wl c k N) (h : M ≤ N) : Wl c k M := ⟨w.c0, w.c1, w.k0, by have := w.k1; omega⟩
/-! ### drawn numbers -/
theorem next_ok (a : Int) {c k m : Int} {N : Nat} (w : Wl c k (N + 1)) (m0 : 0 < m) (m1 : m ≤ 4 * BB) : ∃ r a' k', F__law_next [some (wl a c k, true), some (.int m, false)] = some (.fz (.int r), [some (wl a' c k', true), some (.int m, false)]) ∧ 0 ≤ r ∧ r < m ∧ Wl c k' N := by
  have bb := BB_big
  have lg := div_bb m0 (by omega)
  have w1 := w.k1
  have w0 := w.k0
  by_cases ha : 0 < a
  · refine ⟨a % m, a / m, k, ?_, Int.emod_nonneg _ (by omega), Int.emod_lt_of_pos _ m0, w.c0, w.c1, w.k0, by omega⟩
    simp [F__law_next, DV.SC, DV.SE, DV.SX, ha, i3_0, i3_1, i3_2, jx0, lg, m0]
  · obtain ⟨p, ep, p0, p1⟩ := prime_ok (k + 1)
    have c0 := w.c0
    have c1 := w.c1
    have b : (c + 7919 * (k + 1) + 1).natAbs < 2 ^ 64 := by omega
    have q1 : mulOk 7919 (k + 1) = true := mulOk_l (by decide) (by decide)
    generalize hx : (c + 7919 * (k + 1) + 1) = x at b
    have q3 : ∀ y z : Int, mulOk (y % p + (k + 1)) z = true := fun y z => mulOk_l (by have := Int.emod_nonneg y (show p ≠ 0 by omega); omega) (by have := Int.emod_lt_of_pos y p0; omega)
    have g1 : Nat.log2 1009 < 9000 := by decide +kernel
    have g2 : Nat.log2 7 < 9000 := by decide +kernel
    refine ⟨((x ^ 5 % p + (k + 1)) * (x ^ 5 % p / 1009 + 69621) % p / 7) % m, a, k + 1, ?_, Int.emod_nonneg _ (by omega), Int.emod_lt_of_pos _ m0, c0, c1, by omega, by omega⟩
    simp [F__law_next, DV.SC, DV.SE, DV.SX, ha, i3_0, i3_1, i3_2, jx2, ep, p0, m0, q1, hx, b, q3, g1, g2, sizeLine]
theorem one_ok (a : Int) {c k : Int} {N : Nat} (w : Wl c k (N + 1)) (ds : List D) (fl : Bool) (m0 : 0 < ds.length) (m1 : ds.length < 1000) : ∃ d a' k', F__law_one [some (wl a c k, true), some (.lst ds, fl)] = some (.fz d, [some (wl a' c k', true), some (.lst ds, fl)]) ∧ d ∈ ds ∧ Wl c k' N := by
  have bb := BB_big
  obtain ⟨r, a', k', e, r0, r1, w'⟩ := next_ok a w (m := ds.length) (by omega) (by omega)
  obtain ⟨j, rfl⟩ : ∃ j : Nat, r = j := ⟨r.toNat, by omega⟩
  have hj : j < ds.length := by omega
  refine ⟨ds[j], a', k', ?_, List.getElem_mem hj, w'⟩
  have i1 : atI ds (j : Int) = some ds[j] := atI_nat (List.getElem?_eq_getElem hj)
  cases fl <;> simp [F__law_one, DV.SC, DV.SE, DV.SX, e, i1]
/-- a drawn number, below one of some bounds -/
theorem pick1_ok (a : Int) {c k : Int} {N : Nat} (w : Wl c k (N + 2)) (bs : List Int) (M : Int) (l0 : 0 < bs.length) (l1 : bs.length < 1000) (hb : ∀ b ∈ bs, 0 < b ∧ b ≤ M) (hM : M ≤ 4 * BB) :
    ∃ d r a1 k1 a2 k2, F__law_one [some (wl a c k, true), some (.lst (bs.map D.int), true)] = some (.fz (.int d), [some (wl a1 c k1, true), some (.lst (bs.map D.int), true)]) ∧ F__law_next [some (wl a1 c k1, true), some (.int d, false)] = some (.fz (.int r), [some (wl a2 c k2, true), some (.int d, false)]) ∧ 0 ≤ r ∧ r < M ∧ Wl c k2 N := by
  obtain ⟨d, a1, k1, e1, m1, w1⟩ := one_ok a w (bs.map D.int) true (by simpa using l0) (by simpa using l1)
  obtain ⟨b, mb, rfl⟩ := List.mem_map.mp m1
  obtain ⟨b0, b1⟩ := hb b mb
  obtain ⟨r, a2, k2, e2, r0, r1, w2⟩ := next_ok a1 w1 b0 (by omega)
  exact ⟨b, r, a1, k1, a2, k2, e1, e2, r0, by omega, w2⟩

/-! ### rows, as data -/
structure Sp where
  f : Int
  w : Int
  c : Int
abbrev sD (s : Sp) : D := .tup [.int s.f, .int s.w, .int s.c]
abbrev spD (r : List Sp) : D := .lst (r.map sD)
abbrev RO (r : List Sp) (p h : Int) : D := .obj 1 ["specs", "pace", "shift"] [spD r, .int p, .int h]
@[irreducible] def TW : Int := 1000000000000000000000000000000
@[irreducible] def TC : Int := 1000000000000
theorem TW_is : TW = 1000000000000000000000000000000 := by unfold TW; rfl
theorem TC_is : TC = 1000000000000 := by unfold TC; rfl
structure okS (s : Sp) : Prop where
  f0 : 1 ≤ s.f
  f1 : s.f ≤ 1000000000000
  w0 : 1 ≤ s.w
  w1 : s.w ≤ 1000000000000000000000000000000
  c0 : 1 ≤ s.c
  c1 : s.c ≤ 1000000000000
theorem between_ok (v lo hi : Int) : F_is_between [some (.int v, false), some (.int lo, false), some (.int hi, false)] = some (.fz (.bl (decide (lo ≤ v ∧ v ≤ hi))), [some (.int v, false), some (.int lo, false), some (.int hi, false)]) := by
  by_cases h1 : lo ≤ v
  · by_cases h2 : v ≤ hi
    · simp [F_is_between, DV.SC, DV.SE, DV.SX, is_int_i, h1, h2]
    · simp [F_is_between, DV.SC, DV.SE, DV.SX, is_int_i, h1, h2]
  · simp [F_is_between, DV.SC, DV.SE, DV.SX, is_int_i, h1]
theorem breaker_ok {s : Sp} (h : okS s) : F_is_breaker [some (sD s, false)] = some (.fz (.bl true), [some (sD s, false)]) := by
  obtain ⟨f, w, c⟩ := s
  obtain ⟨f0, f1, w0, w1, c0, c1⟩ := h
  simp only at f0 f1 w0 w1 c0 c1
  have e1 := between_ok f 1 1000000000000
  have e2 := between_ok w 1 1000000000000000000000000000000
  have e3 := between_ok c 1 1000000000000
  rw [decide_eq_true ⟨f0, f1⟩] at e1
  rw [decide_eq_true ⟨w0, w1⟩] at e2
  rw [decide_eq_true ⟨c0, c1⟩] at e3
  simp [F_is_breaker, DV.SC, DV.SE, DV.SX, i3_0, i3_1, i3_2, e1, e2, e3]
theorem chk_loop (pn : List Nat) (R : D) : ∀ (r : List Sp) (n : Nat) (x1 x2 : Sl), (∀ s ∈ r, okS s) → ∃ y1 y2, forLoop (.tp [.nm 1, .nm 2]) (exs [F_is_breaker] pn B_check_breakers_1) (enumD n (r.map sD)) [some (R, false), x1, x2] = some (.nx [some (R, false), y1, y2])
  | [], n, x1, x2, _ => ⟨x1, x2, by simp [enumD, forLoop]⟩
  | s :: r, n, x1, x2, h => by
    obtain ⟨y1, y2, ih⟩ := chk_loop pn R r (n + 1) (some (.int (n : Int), false)) (some (sD s, false)) fun u m => h u (List.mem_cons_of_mem _ m)
    refine ⟨y1, y2, ?_⟩
    rw [List.map_cons, enumD, ← ih]
    have b := breaker_ok (h s List.mem_cons_self)
    refine forLoop_step (Γ1 := [some (R, false), some (.int (n : Int), false), some (sD s, false)]) (by simp [DV.SC, DV.SE, DV.SX]) ?_
    generalize sD s = S at *
    simp [B_check_breakers_1, DV.SC, DV.SE, DV.SX, b]

theorem check_breakers_ok {r : List Sp} (h : ∀ s ∈ r, okS s) (hl : r.length ≤ 12) (fl : Bool) : F_check_breakers [some (spD r, fl)] = some (.fz .non, [some (spD r, false)]) := by
  have hl2 : ¬ (12 : Int) < (r.length : Int) := by omega
  obtain ⟨y1, y2, e⟩ := chk_loop [] (spD r) r 0 none none h
  refine runF_pn (pn := []) (o := .nx [some (spD r, false), y1, y2]) rfl (by cases fl <;> rfl) (?_ : exs _ [] _ [some (spD r, fl), none, none] = _) (by cases fl <;> rfl)
  refine (exs_nx (Γ1 := [some (spD r, fl), none, none]) (by cases fl <;> simp [DV.SC, DV.SE, DV.SX, hl2])).trans ?_
  exact (exs_nx (ex_for (Γ2 := [some (spD r, false), none, none]) (ds := enumD 0 (r.map sD)) (by cases fl <;> simp [DV.SC, DV.SE, DV.SX]) (by simp [DV.SC, DV.SE, DV.SX]) e)).trans (by simp only [DV.exs.eq_1])
structure okR (r : List Sp) (p h : Int) : Prop where
  sp : ∀ s ∈ r, okS s
  len : r.length ≤ 12
  p0 : 1 ≤ p
  p1 : p ≤ 1000000000000000000000000000000
  h0 : 0 ≤ h
  h1 : h ≤ 1000000000000000000000000000000
theorem nm_1 : ¬ (("specs" : Str) = ("pace" : Str)) := by decide +kernel
theorem nm_2 : ¬ (("specs" : Str) = ("shift" : Str)) := by decide +kernel
theorem nm_3 : ¬ (("pace" : Str) = ("shift" : Str)) := by decide +kernel
theorem nm_4 : ¬ (("pace" : Str) = ("specs" : Str)) := by decide +kernel
theorem nm_5 : ¬ (("shift" : Str) = ("specs" : Str)) := by decide +kernel
theorem nm_6 : ¬ (("shift" : Str) = ("pace" : Str)) := by decide +kernel
theorem row_ok {r : List Sp} {p h : Int} (k : okR r p h) (fl : Bool) : F_Row___init__ [some (.obj 1 [] [], true), some (spD r, fl), some (.int p, false), some (.int h, false)] = some (.fz .non, [some (RO r p h, true), some (spD r, false), some (.int p, false), some (.int h, false)]) := by
  have e1 := check_breakers_ok k.sp k.len fl
  have e2 := between_ok p 1 1000000000000000000000000000000
  have e3 := between_ok h 0 1000000000000000000000000000000
  rw [decide_eq_true ⟨k.p0, k.p1⟩] at e2
  rw [decide_eq_true ⟨k.h0, k.h1⟩] at e3
  cases fl <;> simp [F_Row___init__, DV.SC, DV.SE, DV.SX, e1, e2, e3, nm_1, nm_2, nm_3]
theorem fld_specs (r : List Sp) (p h : Int) : fldD [1] (RO r p h) "specs" = some (spD r) := by simp [DV.SC, DV.SE, DV.SX]
theorem fld_pace (r : List Sp) (p h : Int) : fldD [1] (RO r p h) "pace" = some (.int p) := by simp [DV.SC, DV.SE, DV.SX, nm_4]
theorem fld_shift (r : List Sp) (p h : Int) : fldD [1] (RO r p h) "shift" = some (.int h) := by simp [DV.SC, DV.SE, DV.SX, nm_5, nm_6]

/-! ### periods -/
def ru (w p : Int) : Int := (w + p - 1) / p * p
theorem ru_spec {w p : Int} (hw : 1 ≤ w) (hp : 1 ≤ p) : w ≤ ru w p ∧ ru w p < w + p ∧ p ∣ ru w p ∧ p ≤ ru w p := by
  unfold ru
  have e := Int.mul_ediv_add_emod (w + p - 1) p
  have e0 := Int.emod_nonneg (w + p - 1) (show p ≠ 0 by omega)
  have e1 := Int.emod_lt_of_pos (w + p - 1) (show 0 < p by omega)
  have c := Int.mul_comm p ((w + p - 1) / p)
  have q : 1 ≤ (w + p - 1) / p := by rw [Int.le_ediv_iff_mul_le (by omega)]; omega
  have := Int.mul_le_mul_of_nonneg_right q (show 0 ≤ p by omega)
  exact ⟨by omega, by omega, ⟨_, c.symm⟩, by omega⟩
theorem ru_uniq {w p x : Int} (hw : 1 ≤ w) (hp : 1 ≤ p) (h1 : w ≤ x) (h2 : x < w + p) (h3 : p ∣ x) : ru w p = x := by
  obtain ⟨q1, q2, ⟨a, ha⟩, _⟩ := ru_spec hw hp
  obtain ⟨b, hb⟩ := h3
  rw [ha] at q1 q2 ⊢
  rw [hb] at h1 h2 ⊢
  have l1 : a < b + 1 := Int.lt_of_mul_lt_mul_left (a := p) (by rw [Int.mul_add, Int.mul_one]; omega) (by omega)
  have l2 : b < a + 1 := Int.lt_of_mul_lt_mul_left (a := p) (by rw [Int.mul_add, Int.mul_one]; omega) (by omega)
  rw [show a = b by omega]
theorem round_up_ok {w p : Int} (h0 : 0 < p) (h1 : p < 500 * BB) (w0 : -(400 * BB) < w) (w1 : w < 400 * BB) : F_round_up [some (.int w, false), some (.int p, false)] = some (.fz (.int (ru w p)), [some (.int w, false), some (.int p, false)]) := by
  have bb := BB_big
  have d := div_bb h0 (by omega)
  have q1 : (w + p - 1) / p ≤ 900 * BB := by
    have : (w + p - 1) / p < 900 * BB + 1 := by
      rw [Int.ediv_lt_iff_lt_mul h0]
      have := Int.mul_le_mul_of_nonneg_left (show 1 ≤ p by omega) (show 0 ≤ 900 * BB + 1 by omega)
      omega
    omega
  have q0 : -(500 * BB) ≤ (w + p - 1) / p := by
    rw [Int.le_ediv_iff_mul_le h0]
    have := Int.mul_le_mul_of_nonneg_left (show 1 ≤ p by omega) (show 0 ≤ 500 * BB by omega)
    have e : -(500 * BB) * p = -(500 * BB * p) := Int.neg_mul _ _
    omega
  have m : mulOk ((w + p - 1) / p) p = true := mul_bb (by omega) (by omega) (by omega) (by omega)
  simp [F_round_up, DV.SC, DV.SE, DV.SX, h0, d, m, ru]

def perL : Int → List Sp → List Int
  | p, [] => [p]
  | p, s :: r => p :: perL (ru s.w p) r
theorem perL_len : ∀ (p : Int) (r : List Sp), (perL p r).length = r.length + 1
  | p, [] => rfl
  | p, s :: r => by rw [perL, List.length_cons, perL_len, List.length_cons]
theorem per_loop (O : D) (fl : Bool) (pn : List Nat) : ∀ (r : List Sp) (acc : List Int) (p M : Int) (x2 x3 x4 : Sl), (∀ s ∈ r, okS s) → 1 ≤ p → p + 1000000000000000000000000000000 * r.length ≤ M → M < 100 * BB → acc.length + r.length ≤ 1000 →
    ∃ y2 y3 y4, forLoop (.tp [.nm 2, .nm 3, .nm 4]) (exs [F_round_up] pn B_periods_1) (r.map sD) [some (O, fl), some (.lst ((acc ++ [p]).map D.int), true), x2, x3, x4] = some (.nx [some (O, fl), some (.lst ((acc ++ perL p r).map D.int), true), y2, y3, y4])
  | [], acc, p, M, x2, x3, x4, _, _, _, _, _ => ⟨x2, x3, x4, by simp [forLoop, perL]⟩
  | s :: r, acc, p, M, x2, x3, x4, h, hp, hM, hB, hl => by
    have bb := BB_big
    have os := h s List.mem_cons_self
    have w0 := os.w0
    have w1 := os.w1
    obtain ⟨q1, q2, q3, q4⟩ := ru_spec w0 hp
    rw [List.length_cons] at hM hl
    have hM' : p + 1000000000000000000000000000000 * (r.length : Int) + 1000000000000000000000000000000 ≤ M := by
      have : ((r.length + 1 : Nat) : Int) = (r.length : Int) + 1 := by omega
      rw [this] at hM
      omega
    obtain ⟨y2, y3, y4, ih⟩ := per_loop O fl pn r (acc ++ [p]) (ru s.w p) M (some (.int s.f, false)) (some (.int s.w, false)) (some (.int s.c, false)) (fun u m => h u (List.mem_cons_of_mem _ m)) (by omega) (by omega) hB (by simp; omega)
    refine ⟨y2, y3, y4, ?_⟩
    rw [List.map_cons, perL, show acc ++ p :: perL (ru s.w p) r = (acc ++ [p]) ++ perL (ru s.w p) r by simp, ← ih]
    have e := round_up_ok (w := s.w) (p := p) (by omega) (by omega) (by omega) (by omega)
    have ia := atI_last (acc.map D.int) (.int p)
    have hz : acc.length + 1 < 16777216 := by omega
    refine forLoop_step (Γ1 := [some (O, fl), some (.lst ((acc ++ [p]).map D.int), true), some (.int s.f, false), some (.int s.w, false), some (.int s.c, false)]) (by simp [DV.SC, DV.SE, DV.SX]) ?_
    have em : (acc ++ [p]).map D.int = acc.map D.int ++ [.int p] := by simp
    have em2 : ((acc ++ [p]) ++ [ru s.w p]).map D.int = (acc.map D.int ++ [.int p]) ++ [.int (ru s.w p)] := by simp
    rw [em, em2]
    have hz2 : (acc.map D.int).length + 1 < 16777216 := by simpa using hz
    generalize acc.map D.int = AD at *
    simp [B_periods_1, DV.SC, DV.SE, DV.SX, ia, e, hz2, sizeLine]
theorem periods_ok {r : List Sp} {p h : Int} (k : okR r p h) (fl : Bool) : F_periods [some (RO r p h, fl)] = some (.nw (.lst ((perL p r).map D.int)), [some (RO r p h, fl)]) := by
  have bb := BB_big
  have kl := k.len
  have p1 := k.p1
  obtain ⟨y2, y3, y4, e⟩ := per_loop (RO r p h) fl [] r [] p (20 * 1000000000000000000000000000000) none none none k.sp k.p0 (by omega) (by omega) (by simp; omega)
  refine runF_pn (pn := []) (o := .rt (.sl 1) [some (RO r p h, fl), some (.lst ((perL p r).map D.int), true), y2, y3, y4]) rfl (by cases fl <;> rfl) (?_ : exs _ [] _ [some (RO r p h, fl), none, none, none, none] = _) (by cases fl <;> rfl)
  have f1 := fld_pace r p h
  have f2 := fld_specs r p h
  simp only [List.nil_append, List.map_cons, List.map_nil] at e
  generalize hO : RO r p h = O at *
  refine (exs_nx (Γ1 := [some (O, fl), some (.lst [.int p], true), none, none, none]) (by simp [DV.SC, DV.SE, DV.SX, f1, sizeLine])).trans ?_
  refine (exs_nx (ex_for (Γ2 := [some (O, fl), some (.lst [.int p], true), none, none, none]) (ds := r.map sD) (by simp [DV.SC, DV.SE, DV.SX, f2]) (by simp [DV.SC, DV.SE, DV.SX]) e)).trans ?_
  simp [DV.SC, DV.SE, DV.SX]

/-! ### comprehensions over pairs -/
theorem comp_pairs (fs : List FS) (u v : Nat) (ik : IK) (its : List DV.E) (elt : DV.E) (ps : List (D × D)) (f : D → D → D) (Γ0 Γ : Ct) (e1 : (evs fs its Γ0).bind (fun p => iterD ik p.1 p.2) = some (ps.map (fun p => .tup [p.1, p.2]), Γ)) (hu : Γ[u]? = some none) (hv : Γ[v]? = some none) (huv : u ≠ v) (hl : ps.length ≤ 16777216)
    (he : ∀ p ∈ ps, ev fs elt ((Γ.set u (some (p.1, false))).set v (some (p.2, false))) = some (.fz (f p.1 p.2), (Γ.set u (some (p.1, false))).set v (some (p.2, false)))) : ev fs (.comp [u, v] (.tp [.nm u, .nm v]) ik its [] elt) Γ0 = some (.nw (.lst (ps.map fun p => f p.1 p.2)), Γ) := by
  have hul : u < Γ.length := (List.getElem?_eq_some_iff.mp hu).1
  have hvl : v < Γ.length := (List.getElem?_eq_some_iff.mp hv).1
  have sn : ∀ {i : Nat}, Γ[i]? = some none → Γ.set i none = Γ := by
    intro i hi
    apply List.ext_getElem?
    intro j
    by_cases q : i = j
    · subst q; rw [List.getElem?_set_self (List.getElem?_eq_some_iff.mp hi).1, hi]
    · rw [List.getElem?_set_ne q]
  have hct : ∀ G, evc fs [] G = some (true, G) := fun _ => by simp only [evc]
  have wp : ∀ p : D × D, wipeG ((Γ.set u (some (p.1, false))).set v (some (p.2, false))) [u, v] = Γ := by
    intro p
    simp only [wipeG]
    rw [List.set_set, List.set_comm _ _ huv, List.set_set, sn hv, sn hu]
  have pl : ∀ p : D × D, plainIx ((Γ.set u (some (p.1, false))).set v (some (p.2, false))) [u, v] = true := by
    intro p
    have g1 : ((Γ.set u (some (p.1, false))).set v (some (p.2, false)))[u]? = some (some (p.1, false)) := by
      rw [List.getElem?_set_ne (show v ≠ u from fun z => huv z.symm), List.getElem?_set_self hul]
    have g2 : ((Γ.set u (some (p.1, false))).set v (some (p.2, false)))[v]? = some (some (p.2, false)) := List.getElem?_set_self (by rw [List.length_set]; exact hvl)
    simp only [plainIx, List.all_cons, List.all_nil, g1, g2, Bool.and_self]
  have key : ∀ (ps : List (D × D)) (acc : List D), (∀ p ∈ ps, ev fs elt ((Γ.set u (some (p.1, false))).set v (some (p.2, false))) = some (.fz (f p.1 p.2), (Γ.set u (some (p.1, false))).set v (some (p.2, false)))) → compLoop [u, v] (.tp [.nm u, .nm v]) (evc fs []) (ev fs elt) (ps.map fun p => .tup [p.1, p.2]) acc Γ = some (acc ++ ps.map (fun p => f p.1 p.2), Γ) := by
    intro ps
    induction ps with
    | nil => intro acc _; simp [compLoop]
    | cons p ps ih =>
      intro acc h
      have q := h p List.mem_cons_self
      have a1 : asgT (.tp [.nm u, .nm v]) (.tup [p.1, p.2]) Γ = some ((Γ.set u (some (p.1, false))).set v (some (p.2, false))) := by
        simp [asgT, asgT.asgTs, hul, hvl]
      rw [List.map_cons]
      simp only [compLoop, a1, Option.bind_some, hct, if_true, q, fre]
      rw [if_pos (pl p), wp p, ih _ fun p' m => h p' (List.mem_cons_of_mem _ m)]
      simp
  obtain ⟨⟨xs, Γ1⟩, a1, a2⟩ := Option.bind_eq_some_iff.mp e1
  have pl0 : plainIx Γ [u, v] = true := by simp [plainIx, hu, hv]
  have wp0 : wipeG Γ [u, v] = Γ := by simp only [wipeG]; rw [sn hv, sn hu]
  have rg : restG Γ Γ [u, v] = Γ := by
    simp only [restG, List.getD_eq_getElem?_getD, hv, hu, Option.getD_some]
    rw [sn hv, sn hu]
  rw [DV.ev.eq_18]
  simp only [a1, Option.bind_some, a2]
  rw [if_pos (by simp [pl0, tgIx, tgIx.tgIxs, sizeLine, hl]), wp0, key ps [] he]
  simp only [Option.map_some, rg, List.nil_append]
theorem zipD_eq : ∀ (as bs : List D), zipD as bs = (as.zip bs).map fun p => .tup [p.1, p.2]
  | [], bs => by cases bs <;> rfl
  | a :: as, [] => rfl
  | a :: as, b :: bs => by rw [zipD, zipD_eq as bs]; rfl
theorem enumD_eq : ∀ (n : Nat) (as : List D), enumD n as = ((List.range' n as.length).zip as).map fun p => .tup [.int (p.1 : Int), p.2]
  | n, [] => rfl
  | n, a :: as => by rw [enumD, enumD_eq (n + 1) as, List.length_cons, List.range'_succ]; rfl
theorem cut_from (xs : List D) (k : Nat) : cutD xs (some (k : Int)) none = xs.drop k := by
  unfold cutD
  rw [HT.sIx_none, HT.sIx_nat]
  by_cases h : k ≤ xs.length
  · rw [Nat.min_eq_left h, List.take_of_length_le (by rw [List.length_drop]; omega)]
  · rw [Nat.min_eq_right (by omega), List.drop_of_length_le (Nat.le_refl _), List.drop_of_length_le (by omega)]
    simp
theorem cut_to (xs : List D) (k : Nat) : cutD xs none (some (k : Int)) = xs.take k := by
  unfold cutD
  rw [HT.sIx_none, HT.sIx_nat, List.drop_zero, Nat.sub_zero]
  by_cases h : k ≤ xs.length
  · rw [Nat.min_eq_left h]
  · rw [Nat.min_eq_right (by omega), List.take_of_length_le (Nat.le_refl _), List.take_of_length_le (by omega)]
/-! ### what is told of a row -/

/-! ### the period of a row, as data -/
def perE : Int → List Sp → Int
  | p, [] => p
  | p, s :: r => perE (ru s.w p) r
theorem perL_head (p : Int) (r : List Sp) : ∃ t, perL p r = p :: t := by cases r <;> exact ⟨_, rfl⟩
theorem perL_get : ∀ (l t : List Sp) (p : Int), (perL p (l ++ t))[l.length]? = some (perE p l)
  | [], t, p => by obtain ⟨u, e⟩ := perL_head p t; simp [e, perE]
  | s :: l, t, p => by
    rw [List.cons_append, perL, List.length_cons, List.getElem?_cons_succ, perE]
    exact perL_get l t (ru s.w p)
theorem perL_last (p : Int) (r : List Sp) : (perL p r).getLast? = some (perE p r) := by
  have h := perL_get r [] p
  rw [List.append_nil] at h
  rw [List.getLast?_eq_getElem?, perL_len]
  exact h
theorem perL_take : ∀ (r : List Sp) (p : Int) (c : Nat), c ≤ r.length → perL p (r.take c) = (perL p r).take (c + 1)
  | [], p, c, h => by
    have : c = 0 := by simp at h; exact h
    subst this
    rfl
  | s :: r, p, 0, _ => by simp [perL]
  | s :: r, p, c + 1, h => by
    rw [List.take_succ_cons, perL, perL, List.take_succ_cons, perL_take r _ c (by simpa using h)]
theorem perE_pos : ∀ {r : List Sp} {p : Int}, (∀ s ∈ r, okS s) → 1 ≤ p → 1 ≤ perE p r ∧ p ≤ perE p r ∧ p ∣ perE p r ∧ (∀ s ∈ r, s.w ≤ perE p r) ∧ perE p r ≤ p + 1000000000000000000000000000000 * r.length
  | [], p, _, h => ⟨h, Int.le_refl _, Int.dvd_refl _, (fun _ m => nomatch m), by simp [perE]⟩
  | s :: r, p, hs, h => by
    have o := hs s List.mem_cons_self
    obtain ⟨q1, q2, q3, q4⟩ := ru_spec o.w0 h
    obtain ⟨i1, i2, i3, i4, i5⟩ := perE_pos (r := r) (p := ru s.w p) (fun u m => hs u (List.mem_cons_of_mem _ m)) (by omega)
    rw [perE]
    refine ⟨i1, by omega, Int.dvd_trans q3 i3, fun u m => ?_, ?_⟩
    · rcases List.mem_cons.mp m with rfl | m
      · omega
      · exact i4 u m
    · have := o.w1
      rw [List.length_cons]
      have e : (((r.length + 1 : Nat)) : Int) = (r.length : Int) + 1 := by omega
      rw [e]
      omega
theorem row_period_ok {r : List Sp} {p h : Int} (k : okR r p h) (fl : Bool) : F_row_period [some (RO r p h, fl)] = some (.fz (.int (perE p r)), [some (RO r p h, fl)]) := by
  have e1 := periods_ok k fl
  have la := perL_last p r
  obtain ⟨l, el⟩ := List.getLast?_eq_some_iff.mp la
  have em : (perL p r).map D.int = l.map D.int ++ [.int (perE p r)] := by rw [el]; simp
  rw [em] at e1
  have ia := atI_last (l.map D.int) (.int (perE p r))
  generalize RO r p h = O at *
  cases fl <;> simp [F_row_period, DV.SC, DV.SE, DV.SX, e1, ia]

theorem bl_ok (r : List Sp) (p h : Int) (fl : Bool) : F_Row_breaker_list [some (RO r p h, fl)] = some (.nw (spD r), [some (RO r p h, fl)]) := by
  cases fl <;> simp [F_Row_breaker_list, DV.SC, DV.SE, DV.SX]
/-- no field of a row is called so -/
def nof (m : Str) : Prop := ¬ m = ("specs" : Str) ∧ ¬ m = ("pace" : Str) ∧ ¬ m = ("shift" : Str)
theorem nof_bl : nof "breaker_list" := ⟨by decide +kernel, by decide +kernel, by decide +kernel⟩
theorem nof_sl : nof "step_length" := ⟨by decide +kernel, by decide +kernel, by decide +kernel⟩
theorem nof_ph : nof "phase_time" := ⟨by decide +kernel, by decide +kernel, by decide +kernel⟩
theorem hasF_no {m : Str} (n : nof m) (r : List Sp) (p h : Int) : hasF m (RO r p h) = false := by
  simp [DV.SC, DV.SE, DV.SX, n.1, n.2.1, n.2.2]
/-! ### drawn breakers -/
abbrev spG (W : D) (most wide many : Int) (F : List Sp) (x5 x6 x7 : Sl) : Ct := [some (W, true), some (.int most, false), some (.int wide, false), some (.int many, false), some (spD F, true), x5, x6, x7]
theorem specs_body (a : Int) {c k : Int} {N : Nat} (w : Wl c k (N + 6)) (most wide many : Int) (w0 : 0 < wide) (w1 : wide ≤ 1000000000000000000000000000000) (m0 : 0 < many) (m1 : many ≤ 1000000000000) (F : List Sp) (hl : F.length < 1000) (x5 x6 x7 : Sl) :
    ∃ s a' k' y6 y7, exs [F__law_next, F__law_one] [0] B__law_specs_1 (spG (wl a c k) most wide many F x5 x6 x7) = some (.nx (spG (wl a' c k') most wide many (F ++ [s]) x5 y6 y7)) ∧ Wl c k' N ∧ okS s ∧ s.w ≤ max 3 wide ∧ s.f ≤ max 2 many ∧ s.c ≤ max 2 many := by
  have bb := BB_big
  obtain ⟨d1, r1, a1, k1, a2, k2, e1, e2, p0, p1, v1⟩ := pick1_ok a (N := N + 4) (by exact w) [3, wide] (max 3 wide) (by simp) (by simp) (by simp; omega) (by omega)
  obtain ⟨d2, r2, a3, k3, a4, k4, e3, e4, p2, p3, v2⟩ := pick1_ok a2 (N := N + 2) (by exact v1) [2, many] (max 2 many) (by simp) (by simp) (by simp; omega) (by omega)
  obtain ⟨d3, r3, a5, k5, a6, k6, e5, e6, p4, p5, v3⟩ := pick1_ok a4 (N := N) (by exact v2) [2, many] (max 2 many) (by simp) (by simp) (by simp; omega) (by omega)
  simp only [List.map_cons, List.map_nil] at e1 e3 e5
  refine ⟨⟨1 + r2, 1 + r1, 1 + r3⟩, a6, k6, some (.int (1 + r1), false), some (.int (1 + r2), false), ?_, v3, ⟨by simp only; omega, by simp only; omega, by simp only; omega, by simp only; omega, by simp only; omega, by simp only; omega⟩, by simp only; omega, by simp only; omega, by simp only; omega⟩
  have el : spD (F ++ [⟨1 + r2, 1 + r1, 1 + r3⟩]) = .lst (F.map sD ++ [.tup [.int (1 + r2), .int (1 + r1), .int (1 + r3)]]) := by simp [spD, sD]
  have hz : F.length < 16777216 := by omega
  simp only [spG]
  rw [el]
  simp [B__law_specs_1, DV.SC, DV.SE, DV.SX, e1, e2, e3, e4, e5, e6, sizeLine, hz]
theorem specs_loop {c : Int} (most wide many : Int) (w0 : 0 < wide) (w1 : wide ≤ 1000000000000000000000000000000) (m0 : 0 < many) (m1 : many ≤ 1000000000000) : ∀ (n : Nat) (lo a k : Int) (N : Nat) (F : List Sp) (x5 x6 x7 : Sl), Wl c k (N + 6 * n) → F.length + n ≤ 900 → (∀ s ∈ F, okS s ∧ s.w ≤ max 3 wide ∧ s.f ≤ max 2 many ∧ s.c ≤ max 2 many) →
    ∃ F' a' k' y5 y6 y7, forLoop (.nm 5) (exs [F__law_next, F__law_one] [0] B__law_specs_1) (rngD lo 1 n) (spG (wl a c k) most wide many F x5 x6 x7) = some (.nx (spG (wl a' c k') most wide many F' y5 y6 y7)) ∧ Wl c k' N ∧ F'.length = F.length + n ∧ (∀ s ∈ F', okS s ∧ s.w ≤ max 3 wide ∧ s.f ≤ max 2 many ∧ s.c ≤ max 2 many)
  | 0, lo, a, k, N, F, x5, x6, x7, w, _, h => ⟨F, a, k, x5, x6, x7, by simp [rngD, forLoop], w, by simp, h⟩
  | n + 1, lo, a, k, N, F, x5, x6, x7, w, hl, h => by
    obtain ⟨s, a1, k1, y6, y7, e1, v1, o1⟩ := specs_body a (N := N + 6 * n) (by exact (show N + 6 * (n + 1) = N + 6 * n + 6 by omega) ▸ w) most wide many w0 w1 m0 m1 F (by omega) (some (.int lo, false)) x6 x7
    obtain ⟨F', a2, k2, z5, z6, z7, e2, v2, l2, h2⟩ := specs_loop most wide many w0 w1 m0 m1 n (lo + 1) a1 k1 N (F ++ [s]) (some (.int lo, false)) y6 y7 v1 (by simp; omega) (fun u m => by
      rcases List.mem_append.mp m with m | m
      · exact h u m
      · simp at m; subst m; exact o1)
    refine ⟨F', a2, k2, z5, z6, z7, ?_, v2, by rw [l2]; simp; omega, h2⟩
    rw [rngD, ← e2]
    exact forLoop_step (Γ1 := spG (wl a c k) most wide many F (some (.int lo, false)) x6 x7) (by simp [DV.SC, DV.SE, DV.SX]) e1
theorem specs_ok (a : Int) {c k : Int} {N : Nat} (most : Nat) (wide many : Int) (w : Wl c k (N + 6 * most + 1)) (w0 : 0 < wide) (w1 : wide ≤ 1000000000000000000000000000000) (m0 : 0 < many) (m1 : many ≤ 1000000000000) (hm : most ≤ 100) :
    ∃ r a' k', F__law_specs [some (wl a c k, true), some (.int (most : Int), false), some (.int wide, false), some (.int many, false)] = some (.nw (spD r), [some (wl a' c k', true), some (.int (most : Int), false), some (.int wide, false), some (.int many, false)]) ∧ Wl c k' N ∧ r.length ≤ most ∧ (∀ s ∈ r, okS s ∧ s.w ≤ max 3 wide ∧ s.f ≤ max 2 many ∧ s.c ≤ max 2 many) := by
  have bb := BB_big
  obtain ⟨q, a1, k1, e1, q0, q1, v1⟩ := next_ok a (N := N + 6 * most) w (m := (most : Int) + 1) (by omega) (by omega)
  obtain ⟨n, rfl⟩ : ∃ n : Nat, q = n := ⟨q.toNat, by omega⟩
  obtain ⟨F, a2, k2, y5, y6, y7, e2, v2, l2, h2⟩ := specs_loop (most : Int) wide many w0 w1 m0 m1 n 0 a1 k1 N [] none none none (v1.le (by omega)) (by simp; omega) (fun _ m => nomatch m)
  have hn := fun Γ => rngN1 Γ n (by omega)
  refine ⟨F, a2, k2, ?_, v2, by simp at l2; omega, h2⟩
  refine runF_by (o := .rt (.sl 4) (spG (wl a2 c k2) most wide many F y5 y6 y7)) rfl (?_ : exs _ [0] _ [some (wl a c k, true), some (.int (most : Int), false), some (.int wide, false), some (.int many, false), none, none, none, none] = _) rfl
  refine (exs_nx (Γ1 := spG (wl a c k) most wide many [] none none none) (by simp [DV.SC, DV.SE, DV.SX, sizeLine])).trans ?_
  refine (exs_nx (ex_for (Γ2 := spG (wl a1 c k1) most wide many [] none none none) (ds := rngD 0 1 n) (by simp [DV.SC, DV.SE, DV.SX, e1, hn]) rfl e2)).trans (by simp [DV.SC, DV.SE, DV.SX])

/-! ### ranges with a step of any size -/
theorem rngO3G (Γ : Ct) {a b c : Int} (c0 : 1 ≤ c) (c1 : c.natAbs.log2 < 9000) : ∃ N : Nat, rngO Γ [.int a, .int b, .int c] = some (rngD a c N, Γ) ∧ (∀ j : Nat, j < N ↔ a + (j : Int) * c < b) := by
  have q0 : 0 ≤ (b - a - 1) / c ∨ ¬ a < b := by
    by_cases h : a < b
    · exact .inl (Int.ediv_nonneg (by omega) (by omega))
    · exact .inr h
  refine ⟨(Builtin.Range.rangeSize a b c).toNat, ?_, fun j => ?_⟩
  · unfold rngO
    simp only [iterD, datums_fz, Option.bind_some]
    refine if_pos ⟨by omega, c1, ?_⟩
    unfold Builtin.Range.rangeSize
    rw [if_pos (by omega)]
    split
    · rename_i h
      rcases q0 with q0 | q0
      · omega
      · exact absurd h q0
    · rfl
  · unfold Builtin.Range.rangeSize
    rw [if_pos (by omega)]
    by_cases h : a < b
    · rw [if_pos h]
      have q0 : 0 ≤ (b - a - 1) / c := Int.ediv_nonneg (by omega) (by omega)
      have e : (j : Int) ≤ (b - a - 1) / c ↔ (j : Int) * c ≤ b - a - 1 := Int.le_ediv_iff_mul_le (by omega)
      omega
    · rw [if_neg h]
      have := Int.mul_nonneg (show (0 : Int) ≤ (j : Int) by omega) (show 0 ≤ c by omega)
      constructor
      · intro z; simp at z
      · intro z; omega
theorem rngO3 (Γ : Ct) {a b c : Int} (c0 : 1 ≤ c) (c1 : c ≤ 100000) (a0 : 0 ≤ a) (a1 : a ≤ 1000000) (b0 : 0 ≤ b) (b1 : b ≤ 1000000) : ∃ N : Nat, rngO Γ [.int a, .int b, .int c] = some (rngD a c N, Γ) ∧ (∀ j : Nat, j < N ↔ a + (j : Int) * c < b) := by
  refine rngO3G Γ c0 ?_
  have : c.natAbs.log2 < 17 := (Nat.log2_lt (by omega)).mpr (by omega)
  omega
theorem rngD_c (c : Int) : ∀ (n i : Nat) (lo : Int), rngD (lo + (i : Int) * c) c n = (List.range' i n).map fun (j : Nat) => D.int (lo + ((j : Nat) : Int) * c)
  | 0, i, lo => rfl
  | n + 1, i, lo => by
    rw [rngD, List.range'_succ, List.map_cons, ← rngD_c c n (i + 1) lo]
    congr 2
    rw [show ((i + 1 : Nat) : Int) = (i : Int) + 1 by omega, Int.add_mul, Int.one_mul]
    omega

/-! ### comprehensions and loops, in general -/
theorem comp_gen {fs : List FS} {own : List Nat} {tg : Tg} {ik : IK} {its cs : List DV.E} {elt : DV.E} {ds : List D} {Γ0 Γ : Ct} (g : D → Bool) (f : D → D)
    (e1 : (evs fs its Γ0).bind (fun p => iterD ik p.1 p.2) = some (ds, Γ)) (hp : plainIx Γ own = true) (hw : wipeG Γ own = Γ) (hr : restG Γ Γ own = Γ) (ht : (tgIx tg).all (fun i => own.contains i) = true) (hl : ds.length ≤ 16777216)
    (he : ∀ d ∈ ds, ∃ Γd, asgT tg d Γ = some Γd ∧ evc fs cs Γd = some (g d, Γd) ∧ plainIx Γd own = true ∧ wipeG Γd own = Γ ∧ (g d = true → ∃ x, ev fs elt Γd = some (x, Γd) ∧ fre Γd x = some (f d, Γd))) :
    ev fs (.comp own tg ik its cs elt) Γ0 = some (.nw (.lst ((ds.filter g).map f)), Γ) := by
  have key : ∀ (ds acc : List D), (∀ d ∈ ds, ∃ Γd, asgT tg d Γ = some Γd ∧ evc fs cs Γd = some (g d, Γd) ∧ plainIx Γd own = true ∧ wipeG Γd own = Γ ∧ (g d = true → ∃ x, ev fs elt Γd = some (x, Γd) ∧ fre Γd x = some (f d, Γd))) → compLoop own tg (evc fs cs) (ev fs elt) ds acc Γ = some (acc ++ (ds.filter g).map f, Γ) := by
    intro ds
    induction ds with
    | nil => intro acc _; simp [compLoop]
    | cons d ds ih =>
      intro acc h
      obtain ⟨Γd, a1, a2, a3, a4, a5⟩ := h d List.mem_cons_self
      have ih' := fun a => ih a fun e m => h e (List.mem_cons_of_mem _ m)
      simp only [compLoop, a1, Option.bind_some, a2]
      cases hg : g d with
      | true =>
        obtain ⟨x, ex, fx⟩ := a5 hg
        simp only [if_true, ex, Option.bind_some, fx]
        rw [if_pos a3, a4, ih', List.filter_cons, if_pos hg]
        simp
      | false =>
        simp only [Bool.false_eq_true, if_false]
        rw [if_pos a3, a4, ih', List.filter_cons, if_neg (by rw [hg]; simp)]
  obtain ⟨⟨xs, Γ1⟩, b1, b2⟩ := Option.bind_eq_some_iff.mp e1
  rw [DV.ev.eq_18]
  simp only [b1, Option.bind_some, b2]
  rw [if_pos (by rw [hp, ht, decide_eq_true (show ds.length ≤ sizeLine from hl)]; rfl), hw, key ds [] he]
  simp only [Option.map_some, hr, List.nil_append]
theorem comp_run {fs : List FS} {own : List Nat} {tg : Tg} {ik : IK} {its cs : List DV.E} {elt : DV.E} {ds out : List D} {Γ0 Γ1 Γ2 Γ3 : Ct}
    (e1 : (evs fs its Γ0).bind (fun p => iterD ik p.1 p.2) = some (ds, Γ1)) (hp : plainIx Γ1 own = true) (ht : (tgIx tg).all (fun i => own.contains i) = true) (hl : ds.length ≤ 16777216)
    (lp : compLoop own tg (evc fs cs) (ev fs elt) ds [] (wipeG Γ1 own) = some (out, Γ2)) (hr : restG Γ1 Γ2 own = Γ3) :
    ev fs (.comp own tg ik its cs elt) Γ0 = some (.nw (.lst out), Γ3) := by
  obtain ⟨⟨xs, Γ'⟩, b1, b2⟩ := Option.bind_eq_some_iff.mp e1
  rw [DV.ev.eq_18]
  simp only [b1, Option.bind_some, b2]
  rw [if_pos (by rw [hp, ht, decide_eq_true (show ds.length ≤ sizeLine from hl)]; rfl), lp]
  simp only [Option.map_some, hr]
theorem compLoop_step {own : List Nat} {tg : Tg} {ct : Ct → Option (Bool × Ct)} {el : Ct → Option (RV × Ct)} {d e : D} {ds acc : List D} {Γ Γ1 Γ2 Γ3 Γ4 Γ5 : Ct} {x : RV}
    (h1 : asgT tg d Γ = some Γ1) (h2 : ct Γ1 = some (true, Γ2)) (h3 : el Γ2 = some (x, Γ3)) (h4 : fre Γ3 x = some (e, Γ4)) (h5 : plainIx Γ4 own = true) (h6 : wipeG Γ4 own = Γ5) :
    compLoop own tg ct el (d :: ds) acc Γ = compLoop own tg ct el ds (acc ++ [e]) Γ5 := by
  simp only [compLoop, h1, h2, h3, h4, Option.bind_some, if_true]
  rw [if_pos h5, h6]
theorem for_inv {tg : Tg} {body : Ct → Option Out} (P : List D → Ct → Prop) (h : ∀ d ds Γ, P (d :: ds) Γ → ∃ Γ1 Γ2, asgT tg d Γ = some Γ1 ∧ body Γ1 = some (.nx Γ2) ∧ P ds Γ2) :
    ∀ (ds : List D) (Γ : Ct), P ds Γ → ∃ Γ', forLoop tg body ds Γ = some (.nx Γ') ∧ P [] Γ'
  | [], Γ, p => ⟨Γ, by simp [forLoop], p⟩
  | d :: ds, Γ, p => by
    obtain ⟨Γ1, Γ2, a, b, c⟩ := h d ds Γ p
    obtain ⟨Γ', e, q⟩ := for_inv P h ds Γ2 c
    exact ⟨Γ', by rw [forLoop_step a b]; exact e, q⟩

/-! ### comprehensions whose names hold something before -/
theorem comp_genW {fs : List FS} {own : List Nat} {tg : Tg} {ik : IK} {its cs : List DV.E} {elt : DV.E} {ds : List D} {Γ0 Γ Γw : Ct} (g : D → Bool) (f : D → D)
    (e1 : (evs fs its Γ0).bind (fun p => iterD ik p.1 p.2) = some (ds, Γ)) (hp : plainIx Γ own = true) (hw : wipeG Γ own = Γw) (hr : restG Γ Γw own = Γ) (ht : (tgIx tg).all (fun i => own.contains i) = true) (hl : ds.length ≤ 16777216)
    (he : ∀ d ∈ ds, ∃ Γd, asgT tg d Γw = some Γd ∧ evc fs cs Γd = some (g d, Γd) ∧ plainIx Γd own = true ∧ wipeG Γd own = Γw ∧ (g d = true → ∃ x, ev fs elt Γd = some (x, Γd) ∧ fre Γd x = some (f d, Γd))) :
    ev fs (.comp own tg ik its cs elt) Γ0 = some (.nw (.lst ((ds.filter g).map f)), Γ) := by
  have key : ∀ (ds acc : List D), (∀ d ∈ ds, ∃ Γd, asgT tg d Γw = some Γd ∧ evc fs cs Γd = some (g d, Γd) ∧ plainIx Γd own = true ∧ wipeG Γd own = Γw ∧ (g d = true → ∃ x, ev fs elt Γd = some (x, Γd) ∧ fre Γd x = some (f d, Γd))) → compLoop own tg (evc fs cs) (ev fs elt) ds acc Γw = some (acc ++ (ds.filter g).map f, Γw) := by
    intro ds
    induction ds with
    | nil => intro acc _; simp [compLoop]
    | cons d ds ih =>
      intro acc h
      obtain ⟨Γd, a1, a2, a3, a4, a5⟩ := h d List.mem_cons_self
      have ih' := fun a => ih a fun e m => h e (List.mem_cons_of_mem _ m)
      simp only [compLoop, a1, Option.bind_some, a2]
      cases hg : g d with
      | true =>
        obtain ⟨x, ex, fx⟩ := a5 hg
        simp only [if_true, ex, Option.bind_some, fx]
        rw [if_pos a3, a4, ih', List.filter_cons, if_pos hg]
        simp
      | false =>
        simp only [Bool.false_eq_true, if_false]
        rw [if_pos a3, a4, ih', List.filter_cons, if_neg (by rw [hg]; simp)]
  obtain ⟨⟨xs, Γ1⟩, b1, b2⟩ := Option.bind_eq_some_iff.mp e1
  rw [DV.ev.eq_18]
  simp only [b1, Option.bind_some, b2]
  rw [if_pos (by rw [hp, ht, decide_eq_true (show ds.length ≤ sizeLine from hl)]; rfl), hw, key ds [] he]
  simp only [Option.map_some, hr, List.nil_append]

/-! ### comprehensions with one name, in general -/
theorem set_nn {Γ : Ct} {v : Nat} (hv : Γ[v]? = some none) : Γ.set v none = Γ := by
  have hvl : v < Γ.length := (List.getElem?_eq_some_iff.mp hv).1
  apply List.ext_getElem?
  intro i
  by_cases q : v = i
  · subst q; rw [List.getElem?_set_self hvl, hv]
  · rw [List.getElem?_set_ne q]
theorem comp_by {fs : List FS} {v : Nat} {ik : IK} {its cs : List DV.E} {elt : DV.E} {ds out : List D} {Γ0 Γ : Ct} (e1 : (evs fs its Γ0).bind (fun p => iterD ik p.1 p.2) = some (ds, Γ)) (hv : Γ[v]? = some none) (hl : ds.length ≤ 16777216)
    (lp : compLoop [v] (.nm v) (evc fs cs) (ev fs elt) ds [] Γ = some (out, Γ)) : ev fs (.comp [v] (.nm v) ik its cs elt) Γ0 = some (.nw (.lst out), Γ) := by
  have sn := set_nn hv
  have pl : plainIx Γ [v] = true := by simp [plainIx, hv]
  have rg : restG Γ Γ [v] = Γ := by
    simp only [restG, List.getD_eq_getElem?_getD, hv, Option.getD_some]
    exact sn
  obtain ⟨⟨xs, Γ1⟩, a1, a2⟩ := Option.bind_eq_some_iff.mp e1
  rw [DV.ev.eq_18]
  simp only [a1, Option.bind_some, a2]
  rw [if_pos (by rw [pl, decide_eq_true (show ds.length ≤ sizeLine from hl)]; simp [tgIx]), show wipeG Γ [v] = Γ by simp [wipeG, sn], lp]
  simp only [Option.map_some, rg]
theorem comp_mapX {fs : List FS} {v : Nat} {ik : IK} {its : List DV.E} {elt : DV.E} {ds : List D} (f : D → D) {Γ0 Γ : Ct} (e1 : (evs fs its Γ0).bind (fun p => iterD ik p.1 p.2) = some (ds, Γ)) (hv : Γ[v]? = some none) (hl : ds.length ≤ 16777216)
    (he : ∀ d ∈ ds, ∃ x, ev fs elt (Γ.set v (some (d, false))) = some (x, Γ.set v (some (d, false))) ∧ (x = .fz (f d) ∨ x = .nw (f d))) : ev fs (.comp [v] (.nm v) ik its [] elt) Γ0 = some (.nw (.lst (ds.map f)), Γ) := by
  have hvl : v < Γ.length := (List.getElem?_eq_some_iff.mp hv).1
  have sn := set_nn hv
  refine comp_by e1 hv hl ?_
  have key : ∀ (ds acc : List D), (∀ d ∈ ds, ∃ x, ev fs elt (Γ.set v (some (d, false))) = some (x, Γ.set v (some (d, false))) ∧ (x = .fz (f d) ∨ x = .nw (f d))) → compLoop [v] (.nm v) (evc fs []) (ev fs elt) ds acc Γ = some (acc ++ ds.map f, Γ) := by
    intro ds
    induction ds with
    | nil => intro acc _; simp [compLoop]
    | cons d ds ih =>
      intro acc h
      obtain ⟨x, ex, hx⟩ := h d List.mem_cons_self
      have fr : fre (Γ.set v (some (d, false))) x = some (f d, Γ.set v (some (d, false))) := by rcases hx with rfl | rfl <;> rfl
      have pl : plainIx (Γ.set v (some (d, false))) [v] = true := by simp [plainIx, hvl]
      simp only [compLoop, asgT, hvl, if_true, Option.bind_some, DV.evc.eq_1, ex, fr]
      rw [if_pos pl, show wipeG (Γ.set v (some (d, false))) [v] = Γ by simp [wipeG, sn], ih _ fun e m => h e (List.mem_cons_of_mem _ m)]
      simp
  simpa using key ds [] he
theorem comp_none {fs : List FS} {v : Nat} {ik : IK} {its : List DV.E} {c elt : DV.E} {ds : List D} {Γ0 Γ : Ct} (e1 : (evs fs its Γ0).bind (fun p => iterD ik p.1 p.2) = some (ds, Γ)) (hv : Γ[v]? = some none) (hl : ds.length ≤ 16777216)
    (he : ∀ d ∈ ds, ev fs c (Γ.set v (some (d, false))) = some (.fz (.bl false), Γ.set v (some (d, false)))) : ev fs (.comp [v] (.nm v) ik its [c] elt) Γ0 = some (.nw (.lst []), Γ) := by
  have hvl : v < Γ.length := (List.getElem?_eq_some_iff.mp hv).1
  have sn := set_nn hv
  refine comp_by e1 hv hl ?_
  have key : ∀ (ds acc : List D), (∀ d ∈ ds, ev fs c (Γ.set v (some (d, false))) = some (.fz (.bl false), Γ.set v (some (d, false)))) → compLoop [v] (.nm v) (evc fs [c]) (ev fs elt) ds acc Γ = some (acc, Γ) := by
    intro ds
    induction ds with
    | nil => intro acc _; simp [compLoop]
    | cons d ds ih =>
      intro acc h
      have pl : plainIx (Γ.set v (some (d, false))) [v] = true := by simp [plainIx, hvl]
      simp only [compLoop, asgT, hvl, if_true, Option.bind_some, DV.evc.eq_2, h d List.mem_cons_self, test_b, Option.map_some, Bool.false_eq_true, if_false]
      rw [if_pos pl, show wipeG (Γ.set v (some (d, false))) [v] = Γ by simp [wipeG, sn], ih _ fun e m => h e (List.mem_cons_of_mem _ m)]
  exact key ds [] he

/-! ### ranges of numbers, put together -/
def rst : List (Int × Int) → Int → List (Int × Int)
  | [], x => [(x, x)]
  | (f, l) :: t, x => if l = x - 1 then (f, x) :: t else (x, x) :: (f, l) :: t
def ust : List (Int × Int) → Int × Int → List (Int × Int)
  | [], p => [p]
  | (f, l) :: t, p => if l = p.1 - 1 then (f, p.2) :: t else p :: (f, l) :: t
theorem rst_ust (acc : List (Int × Int)) (a b : Int) : rst (ust acc (a, b)) (b + 1) = ust acc (a, b + 1) := by
  cases acc with
  | nil => simp [rst, ust]
  | cons q t =>
    obtain ⟨f, l⟩ := q
    simp only [ust]
    split
    · simp only [rst]; rw [if_pos (by omega)]
    · simp only [rst]; rw [if_pos (by omega)]
theorem rst_one (acc : List (Int × Int)) (a : Int) : rst acc a = ust acc (a, a) := by
  cases acc with
  | nil => rfl
  | cons q t => obtain ⟨f, l⟩ := q; rfl
theorem rst_run (acc : List (Int × Int)) (a : Int) : ∀ n : Nat, (List.range (n + 1)).foldl (fun ac (i : Nat) => rst ac (a + (i : Int))) acc = ust acc (a, a + (n : Int))
  | 0 => by simp [rst_one]
  | n + 1 => by
    rw [List.range_succ, List.foldl_append, rst_run acc a n]
    simp only [List.foldl_cons, List.foldl_nil]
    rw [show a + ((n + 1 : Nat) : Int) = a + (n : Int) + 1 by omega, rst_ust]
theorem fold_ext {α β : Type} (f g : α → β → α) : ∀ (l : List β) (a : α), (∀ a, ∀ x ∈ l, f a x = g a x) → l.foldl f a = l.foldl g a
  | [], _, _ => rfl
  | x :: l, a, h => by
    rw [List.foldl_cons, List.foldl_cons, h a x List.mem_cons_self]
    exact fold_ext f g l _ fun a y m => h a y (List.mem_cons_of_mem _ m)
section
variable (F : Int → Int) (U : Nat) (now : Int)
/-- a lower wait, as the law tries it -/
def hlw (ac : List (Int × Int)) (i : Nat) : List (Int × Int) := if now < F (ru ((i : Int) + 1) U) then rst ac ((i : Int) + 1) else ac
/-- a lower wait, as the program tries it -/
def hlp (ac : List (Int × Int)) (j : Nat) : List (Int × Int) := if now < F ((U : Int) * ((j : Int) + 1)) then ust ac ((U : Int) * ((j : Int) + 1) - U + 1, (U : Int) * ((j : Int) + 1)) else ac
theorem ru_block (hU : 1 ≤ U) (j i : Nat) (hi : i < U) : ru (((U * j + i : Nat) : Int) + 1) U = (U : Int) * ((j : Int) + 1) := by
  have e : ((U * j + i : Nat) : Int) = (U : Int) * (j : Int) + (i : Int) := by push_cast; rfl
  have e2 : (U : Int) * ((j : Int) + 1) = (U : Int) * (j : Int) + U := by rw [Int.mul_add, Int.mul_one]
  have n0 : 0 ≤ (U : Int) * (j : Int) := Int.mul_nonneg (by omega) (by omega)
  rw [e]
  exact ru_uniq (by omega) (by omega) (by omega) (by omega) ⟨_, rfl⟩
theorem hlw_block (hU : 1 ≤ U) (j : Nat) (acc : List (Int × Int)) : ((List.range U).map (fun i => U * j + i)).foldl (hlw F U now) acc = hlp F U now acc j := by
  rw [List.foldl_map]
  have e : (List.range U).foldl (fun ac i => hlw F U now ac (U * j + i)) acc = (List.range U).foldl (fun ac (i : Nat) => if now < F ((U : Int) * ((j : Int) + 1)) then rst ac (((U : Int) * (j : Int) + 1) + (i : Int)) else ac) acc := by
    refine fold_ext _ _ _ _ fun ac i hi => ?_
    unfold hlw
    rw [ru_block U hU j i (List.mem_range.mp hi), show ((U * j + i : Nat) : Int) + 1 = ((U : Int) * (j : Int) + 1) + (i : Int) by push_cast; omega]
  rw [e]
  unfold hlp
  by_cases h : now < F ((U : Int) * ((j : Int) + 1))
  · simp only [h, if_true]
    obtain ⟨n, rfl⟩ : ∃ n, U = n + 1 := ⟨U - 1, by omega⟩
    rw [rst_run]
    congr 2
    · rw [Int.mul_add, Int.mul_one]; omega
    · rw [Int.mul_add, Int.mul_one]; push_cast; omega
  · simp only [h, if_false]
    clear e h
    generalize List.range U = l
    induction l with
    | nil => rfl
    | cons x l ih => simpa using ih
theorem hlw_blocks (hU : 1 ≤ U) (acc : List (Int × Int)) : ∀ m : Nat, (List.range (U * m)).foldl (hlw F U now) acc = (List.range m).foldl (hlp F U now) acc
  | 0 => by simp
  | m + 1 => by
    rw [Nat.mul_succ, List.range_add, List.foldl_append, hlw_blocks hU acc m, hlw_block F U now hU, List.range_succ, List.foldl_append]
    rfl
theorem fold_id {α β : Type} (f : α → β → α) (a : α) : ∀ l : List β, (∀ x ∈ l, f a x = a) → l.foldl f a = a
  | [], _ => rfl
  | x :: l, h => by
    rw [List.foldl_cons, h x List.mem_cons_self]
    exact fold_id f a l fun y m => h y (List.mem_cons_of_mem _ m)
theorem hl_law (hU : 1 ≤ U) (w : Nat) (m : Nat) (hw : 1 ≤ w) (hP : ru w U = (U : Int) * ((m : Int) + 1)) (hn : now = F (ru w U)) :
    (List.range (w - 1)).foldl (hlw F U now) [] = (List.range m).foldl (hlp F U now) [] := by
  obtain ⟨q1, q2, _, _⟩ := ru_spec (w := w) (p := U) (by omega) (by omega)
  rw [hP] at q1 q2
  have e2 : (U : Int) * ((m : Int) + 1) = (U : Int) * (m : Int) + U := by rw [Int.mul_add, Int.mul_one]
  have e3 : ((U * m : Nat) : Int) = (U : Int) * (m : Int) := by push_cast; rfl
  rw [show w - 1 = U * m + (w - 1 - U * m) by omega, List.range_add, List.foldl_append, hlw_blocks F U now hU]
  refine fold_id _ _ _ fun x hx => ?_
  obtain ⟨i, hi, rfl⟩ := List.mem_map.mp hx
  have hi := List.mem_range.mp hi
  unfold hlw
  rw [ru_uniq (x := (U : Int) * ((m : Int) + 1)) (by omega) (by omega) (by omega) (by omega) ⟨_, rfl⟩, ← hP, ← hn]
  simp
end
/-! ### ranges multiplied -/
def phi (k : Int) (p : Int × Int) : Int × Int := ((p.1 - 1) * k + 1, p.2 * k)
theorem ust_phi {k : Int} (hk : 1 ≤ k) (acc : List (Int × Int)) (p : Int × Int) : ust (acc.map (phi k)) (phi k p) = (ust acc p).map (phi k) := by
  cases acc with
  | nil => rfl
  | cons q t =>
    obtain ⟨f, l⟩ := q
    simp only [List.map_cons, ust, phi]
    by_cases h : l = p.1 - 1
    · rw [if_pos h, if_pos (by rw [h]; omega)]
      rfl
    · rw [if_neg h, if_neg (fun e => h (Int.eq_of_mul_eq_mul_right (by omega : k ≠ 0) (show l * k = (p.1 - 1) * k by omega)))]
      rfl
theorem hlp_phi (F F' : Int → Int) (U K : Nat) (hK : 1 ≤ K) (hF : ∀ x, 1 ≤ x → F' (x * (K : Int)) = F x * (K : Int)) (hU : 1 ≤ U) (now : Int) (acc : List (Int × Int)) (j : Nat) :
    hlp F' (U * K) (now * (K : Int)) (acc.map (phi K)) j = (hlp F U now acc j).map (phi K) := by
  unfold hlp
  have e : ((U * K : Nat) : Int) * ((j : Int) + 1) = (U : Int) * ((j : Int) + 1) * (K : Int) := by push_cast; rw [Int.mul_right_comm]
  have n0 : 1 ≤ (U : Int) * ((j : Int) + 1) := by
    have := Int.mul_le_mul_of_nonneg_left (show 1 ≤ (j : Int) + 1 by omega) (show 0 ≤ (U : Int) by omega)
    omega
  rw [e, hF _ n0]
  by_cases h : now < F ((U : Int) * ((j : Int) + 1))
  · rw [if_pos h, if_pos (Int.mul_lt_mul_of_pos_right h (by omega)), ← ust_phi (by omega)]
    congr 1
    simp only [phi]
    congr 1
    push_cast
    rw [show (U : Int) * ((j : Int) + 1) - (U : Int) + 1 - 1 = (U : Int) * ((j : Int) + 1) - (U : Int) by omega, Int.sub_mul]
  · rw [if_neg h, if_neg (fun g => h (Int.lt_of_mul_lt_mul_right g (by omega)))]
theorem hlp_scale (F F' : Int → Int) (U K : Nat) (hK : 1 ≤ K) (hF : ∀ x, 1 ≤ x → F' (x * (K : Int)) = F x * (K : Int)) (hU : 1 ≤ U) (now : Int) : ∀ (l : List Nat) (acc : List (Int × Int)),
    l.foldl (hlp F' (U * K) (now * (K : Int))) (acc.map (phi K)) = (l.foldl (hlp F U now) acc).map (phi K)
  | [], acc => rfl
  | j :: l, acc => by
    rw [List.foldl_cons, List.foldl_cons, hlp_phi F F' U K hK hF hU, hlp_scale F F' U K hK hF hU now l]
/-! ### the least pair -/
def pm (a y : Int × Int) : Int × Int := if pLt y a then y else a
section
variable (F : Int → Int) (U : Nat)
theorem pm_block (v b : Int) (acc : Int × Int) : ∀ n : Nat, (List.range (n + 1)).foldl (fun ac (i : Nat) => pm ac (v, b + (i : Int))) acc = pm acc (v, b)
  | 0 => by simp
  | n + 1 => by
    rw [List.range_succ, List.foldl_append, pm_block v b acc n]
    simp only [List.foldl_cons, List.foldl_nil]
    have h : pLt (v, b + ((n + 1 : Nat) : Int)) (pm acc (v, b)) = false := by
      unfold pm
      split
      · unfold pLt; simp; omega
      · rename_i g
        unfold pLt at *
        simp at *
        omega
    unfold pm at *
    rw [h]
    simp
/-- a greater wait, as the law tries it -/
def brw (lo : Int) (ac : Int × Int) (i : Nat) : Int × Int := pm ac (F (ru (lo + (i : Int)) U), lo + (i : Int))
/-- .. and the program -/
def brp (P : Int) (ac : Int × Int) (j : Nat) : Int × Int := pm ac (F (P + (U : Int) * ((j : Int) + 1)), P + (U : Int) * ((j : Int) + 1) - U + 1)
theorem brw_block (hU : 1 ≤ U) {P : Int} (hP : 1 ≤ P) (hd : (U : Int) ∣ P) (j n : Nat) (hn : n < U) (acc : Int × Int) (lo : Int) (A : Nat) (hA : lo + (A : Int) = P + (U : Int) * (j : Int) + 1) :
    ((List.range (n + 1)).map (fun i => A + i)).foldl (brw F U lo) acc = brp F U P acc j := by
  have e2 : (U : Int) * ((j : Int) + 1) = (U : Int) * (j : Int) + U := by rw [Int.mul_add, Int.mul_one]
  have n0 : 0 ≤ (U : Int) * (j : Int) := Int.mul_nonneg (by omega) (by omega)
  rw [List.foldl_map]
  have e : (List.range (n + 1)).foldl (fun ac i => brw F U lo ac (A + i)) acc = (List.range (n + 1)).foldl (fun ac (i : Nat) => pm ac (F (P + (U : Int) * ((j : Int) + 1)), (P + (U : Int) * (j : Int) + 1) + (i : Int))) acc := by
    refine fold_ext _ _ _ _ fun ac i hi => ?_
    have hi := List.mem_range.mp hi
    unfold brw
    have e3 : lo + ((A + i : Nat) : Int) = P + (U : Int) * (j : Int) + 1 + (i : Int) := by push_cast; omega
    rw [e3, ru_uniq (x := P + (U : Int) * ((j : Int) + 1)) (by omega) (by omega) (by omega) (by omega) (Int.dvd_add hd ⟨_, rfl⟩)]
  rw [e, pm_block]
  unfold brp
  congr 2
  omega
theorem brw_blocks (hU : 1 ≤ U) {P : Int} (hP : 1 ≤ P) (hd : (U : Int) ∣ P) (lo : Int) (A : Nat) (hA : lo + (A : Int) = P + 1) (acc : Int × Int) : ∀ m : Nat,
    ((List.range (U * m)).map (fun i => A + i)).foldl (brw F U lo) acc = (List.range m).foldl (brp F U P) acc
  | 0 => by simp
  | m + 1 => by
    rw [Nat.mul_succ, List.range_add, List.map_append, List.foldl_append, brw_blocks hU hP hd lo A hA acc m, List.range_succ, List.foldl_append, List.map_map]
    have := brw_block F U hU hP hd m (U - 1) (by omega) ((List.range m).foldl (brp F U P) acc) lo (A + U * m) (by push_cast; omega)
    rw [show U - 1 + 1 = U by omega] at this
    rw [show ((fun i => A + i) ∘ fun x => U * m + x) = fun i => A + U * m + i from funext fun i => by simp; omega, this]
    rfl
theorem br_law (hU : 1 ≤ U) (w high M : Nat) (hw : 1 ≤ w) (hh : w ≤ high) (hM : ru high U = ru w U + (U : Int) * (M : Int)) :
    (List.range (high - w)).foldl (brw F U (w + 1)) (F (ru w U), (w : Int)) = (List.range M).foldl (brp F U (ru w U)) (F (ru w U), (w : Int)) := by
  obtain ⟨q1, q2, q3, q4⟩ := ru_spec (w := w) (p := U) (by omega) (by omega)
  obtain ⟨r1, r2, r3, r4⟩ := ru_spec (w := high) (p := U) (by omega) (by omega)
  rw [hM] at r1 r2
  have first : ∀ n : Nat, (w : Int) + n ≤ ru w U → (List.range n).foldl (brw F U (w + 1)) (F (ru w U), (w : Int)) = (F (ru w U), (w : Int)) := fun n hn => by
    refine fold_id _ _ _ fun i hi => ?_
    have hi := List.mem_range.mp hi
    unfold brw
    rw [ru_uniq (w := (w : Int) + 1 + (i : Int)) (x := ru w U) (by omega) (by omega) (by omega) (by omega) q3]
    unfold pm pLt
    rw [if_neg (by simp; omega)]
  generalize ru w U = P at *
  cases M with
  | zero =>
    simp only [List.range_zero, List.foldl_nil]
    exact first _ (by simp at r1; omega)
  | succ M =>
    obtain ⟨A, hA⟩ : ∃ A : Nat, (w : Int) + A = P := ⟨(P - w).toNat, by omega⟩
    have e2 : (U : Int) * ((M + 1 : Nat) : Int) = (U : Int) * (M : Int) + U := by push_cast; rw [Int.mul_add, Int.mul_one]
    have e3 : ((U * M : Nat) : Int) = (U : Int) * (M : Int) := by push_cast; rfl
    rw [e2] at r1 r2
    obtain ⟨n, hn⟩ : ∃ n : Nat, high - w = A + (U * M + (n + 1)) := ⟨high - w - A - U * M - 1, by omega⟩
    rw [hn, List.range_add, List.foldl_append, first A (by omega), List.range_add, List.map_append, List.foldl_append, brw_blocks F U hU (by omega) q3 _ A (by omega), List.map_map]
    have hr : (List.range (M + 1)).foldl (brp F U P) (F P, (w : Int)) = brp F U P ((List.range M).foldl (brp F U P) (F P, (w : Int))) M := by rw [List.range_succ, List.foldl_append]; rfl
    rw [hr]
    have := brw_block F U hU (P := P) (by omega) q3 M n (by omega) ((List.range M).foldl (brp F U P) (F P, (w : Int))) (w + 1) (A + U * M) (by push_cast; omega)
    rw [show ((fun i => A + i) ∘ fun x => U * M + x) = fun i => A + U * M + i from funext fun i => by simp; omega, this]
end
theorem pm_fst (a y : Int × Int) : (pm a y).1 = if y.1 < a.1 then y.1 else a.1 := by
  unfold pm pLt
  by_cases h : y.1 < a.1
  · simp [h]
  · simp only [h, if_false]
    split
    · rename_i g; simp [h] at g; exact g.1
    · rfl
theorem br_scale (F F' : Int → Int) (U K : Nat) (P : Int) (hP : 1 ≤ P) (hK : 1 ≤ K) (hF : ∀ x, 1 ≤ x → F' (x * (K : Int)) = F x * (K : Int)) : ∀ (l : List Nat) (a a' : Int × Int), a'.1 = a.1 * (K : Int) →
    (l.foldl (brp F' (U * K) (P * (K : Int))) a').1 = (l.foldl (brp F U P) a).1 * (K : Int)
  | [], a, a', h => h
  | j :: l, a, a', h => by
    rw [List.foldl_cons, List.foldl_cons]
    refine br_scale F F' U K P hP hK hF l _ _ ?_
    unfold brp
    rw [pm_fst, pm_fst]
    have n0 : 0 ≤ (U : Int) * ((j : Int) + 1) := Int.mul_nonneg (by omega) (by omega)
    have e : P * (K : Int) + ((U * K : Nat) : Int) * ((j : Int) + 1) = (P + (U : Int) * ((j : Int) + 1)) * (K : Int) := by push_cast; rw [Int.add_mul, Int.mul_right_comm]
    simp only [e, hF _ (show 1 ≤ P + (U : Int) * ((j : Int) + 1) by omega), h]
    by_cases g : F (P + (U : Int) * ((j : Int) + 1)) < a.1
    · rw [if_pos g, if_pos (Int.mul_lt_mul_of_pos_right g (by omega))]
    · rw [if_neg g, if_neg (fun z => g (Int.lt_of_mul_lt_mul_right z (by omega)))]
theorem ru_scale {w p k : Int} (hw : 1 ≤ w) (hp : 1 ≤ p) (hk : 1 ≤ k) : ru (w * k) (p * k) = ru w p * k := by
  obtain ⟨q1, q2, ⟨c, hc⟩, q4⟩ := ru_spec hw hp
  have w1 := Int.mul_le_mul_of_nonneg_right hw (show 0 ≤ k by omega)
  have p1 := Int.mul_le_mul_of_nonneg_right hp (show 0 ≤ k by omega)
  refine ru_uniq (by omega) (by omega) (Int.mul_le_mul_of_nonneg_right q1 (by omega)) ?_ ⟨c, ?_⟩
  · rw [← Int.add_mul]; exact Int.mul_lt_mul_of_pos_right q2 (by omega)
  · rw [hc, Int.mul_right_comm]

/-! ### the period behind a breaker, as data -/
theorem item_ok (r : List Sp) (p h : Int) (i : Nat) (s : Sp) (hs : r[i]? = some s) : F_Row___getitem__ [some (RO r p h, false), some (.int (i : Int), false)] = some (.fz (sD s), [some (RO r p h, false), some (.int (i : Int), false)]) := by
  have f2 := fld_specs r p h
  have hi : i < r.length := (List.getElem?_eq_some_iff.mp hs).1
  have b := between_ok (i : Int) 0 ((r.length : Int) - 1)
  rw [decide_eq_true ⟨by omega, by omega⟩] at b
  have e : ((r.map sD).length : Int) = (r.length : Int) := by simp
  rw [← e] at b
  have ia : atI (r.map sD) (i : Int) = some (sD s) := atI_nat (by rw [List.getElem?_map, hs]; rfl)
  unfold spD at f2
  generalize RO r p h = O at *
  generalize r.map sD = SD at *
  generalize sD s = S at *
  generalize (i : Int) = n at *
  simp [F_Row___getitem__, DV.SC, DV.SE, DV.SX, f2, b, ia]
theorem perE_bd : ∀ {r : List Sp} {p : Int}, (∀ s ∈ r, okS s) → 1 ≤ p → 1 ≤ perE p r ∧ perE p r ≤ p + 1000000000000000000000000000000 * r.length := fun hs h => ⟨(perE_pos hs h).1, (perE_pos hs h).2.2.2.2⟩
theorem pb_loop (O K : D) (fl : Bool) (pn : List Nat) (hp : 2 ∉ pn) : ∀ (r : List Sp) (x M : Int) (x3 x4 x5 : Sl), (∀ s ∈ r, okS s) → 1 ≤ x → x + 1000000000000000000000000000000 * r.length ≤ M → M < 100 * BB →
    ∃ y3 y4 y5, forLoop (.tp [.nm 3, .nm 4, .nm 5]) (exs [F_Row_breaker_list, F_round_up] pn B_period_behind_1) (r.map sD) [some (O, fl), some (K, false), some (.int x, false), x3, x4, x5] = some (.nx [some (O, fl), some (K, false), some (.int (perE x r), false), y3, y4, y5])
  | [], x, M, x3, x4, x5, _, _, _, _ => ⟨x3, x4, x5, by simp [forLoop, perE]⟩
  | s :: r, x, M, x3, x4, x5, h, hx, hM, hB => by
    have bb := BB_big
    have os := h s List.mem_cons_self
    have w0 := os.w0
    have w1 := os.w1
    obtain ⟨q1, q2, q3, q4⟩ := ru_spec w0 hx
    rw [List.length_cons] at hM
    have hM' : x + 1000000000000000000000000000000 * (r.length : Int) + 1000000000000000000000000000000 ≤ M := by
      have : ((r.length + 1 : Nat) : Int) = (r.length : Int) + 1 := by omega
      rw [this] at hM
      omega
    obtain ⟨y3, y4, y5, ih⟩ := pb_loop O K fl pn hp r (ru s.w x) M (some (.int s.f, false)) (some (.int s.w, false)) (some (.int s.c, false)) (fun u m => h u (List.mem_cons_of_mem _ m)) (by omega) (by omega) hB
    refine ⟨y3, y4, y5, ?_⟩
    rw [List.map_cons, perE, ← ih]
    have e := round_up_ok (w := s.w) (p := x) (by omega) (by omega) (by omega) (by omega)
    refine forLoop_step (Γ1 := [some (O, fl), some (K, false), some (.int x, false), some (.int s.f, false), some (.int s.w, false), some (.int s.c, false)]) (by simp [DV.SC, DV.SE, DV.SX]) ?_
    simp [B_period_behind_1, DV.SC, DV.SE, DV.SX, e, hp]
theorem pb_ok {r : List Sp} {p h : Int} (k : okR r p h) (i : Nat) (x : Int) (hx : 1 ≤ x) (hx2 : x ≤ 10 * BB) : F_period_behind [some (RO r p h, false), some (.int (i : Int), false), some (.int x, false)] = some (.fz (.int (perE x (r.drop (i + 1)))), [some (RO r p h, false), some (.int (i : Int), false), some (.int x, false)]) := by
  have bb := BB_big
  have kl := k.len
  have hl : (r.drop (i + 1)).length ≤ 12 := by rw [List.length_drop]; omega
  obtain ⟨y3, y4, y5, e⟩ := pb_loop (RO r p h) (.int (i : Int)) false [] (by simp) (r.drop (i + 1)) x (20 * BB) none none none (fun s m => k.sp s (List.mem_of_mem_drop m)) hx (by omega) (by omega)
  refine runF_pn (pn := []) (o := .rt (.sl 2) [some (RO r p h, false), some (.int (i : Int), false), some (.int (perE x (r.drop (i + 1))), false), y3, y4, y5]) rfl rfl (?_ : exs _ [] _ [some (RO r p h, false), some (.int (i : Int), false), some (.int x, false), none, none, none] = _) rfl
  have b := bl_ok r p h false
  have hf := hasF_no nof_bl r p h
  have ct : slcD (spD r) (some ((i : Int) + 1)) none = some (.nw (.lst ((r.drop (i + 1)).map sD))) := by
    have c := cut_from (r.map sD) (i + 1)
    rw [show ((i + 1 : Nat) : Int) = (i : Int) + 1 by omega] at c
    simp only [slcD, c, List.map_drop]
  have ho : isObj 1 (RO r p h) = true := rfl
  generalize RO r p h = O at *
  generalize spD r = R at *
  refine (exs_nx (ex_for (Γ2 := [some (O, false), some (.int (i : Int), false), some (.int x, false), none, none, none]) (ds := (r.drop (i + 1)).map sD) ?_ (by simp [DV.SC, DV.SE, DV.SX]) e)).trans (by simp [DV.SC, DV.SE, DV.SX])
  simp [DV.SC, DV.SE, DV.SX, b, hf, ct, ho]

/-! ### lower waits that harm, as data -/
def prD (q : Int × Int) : D := .tup [.int q.1, .int q.2]
abbrev rgD (acc : List (Int × Int)) : D := .lst (acc.reverse.map prD)
theorem okB_pr (n : Nat) (q : Int × Int) : okB (n + 1) (prD q) = true := by
  unfold prD
  simp only [DV.okB.eq_6, List.all_cons, List.all_nil, Bool.and_true]
  cases n <;> rfl
theorem cmp_ne_pr (l : List (Int × Int)) : cmpD .ne (.lst (l.map prD)) (.lst []) = some (!l.isEmpty) := by
  have o1 : okB 12 (.lst (l.map prD)) = true := by
    simp only [DV.okB.eq_5, List.all_map, List.all_eq_true, Function.comp_apply]
    intro q _
    exact okB_pr 10 q
  have o2 : okB 12 (.lst []) = true := rfl
  simp only [cmpD, o1, o2, Bool.and_self, if_true]
  cases l with
  | nil => rfl
  | cons q l => rfl
theorem cmp_ii (a b : Int) : cmpD .eq (.int a) (.int b) = some (decide (a = b)) := by
  simp [DV.SC, DV.SE, DV.SX]
  rfl
theorem ust_len (acc : List (Int × Int)) (p : Int × Int) : (ust acc p).length ≤ acc.length + 1 := by
  cases acc with
  | nil => simp [ust]
  | cons q t =>
    obtain ⟨f, l⟩ := q
    simp only [ust]
    split <;> simp
abbrev fsH : List FS := [F_Row___getitem__, F_periods, F_row_period, F_period_behind]
abbrev hG (O : D) (K w now : Int) (L : D) (x5 : Sl) (u P : Int) (x8 : Sl) : Ct := [some (O, false), some (.int K, false), some (.int w, false), some (.int now, false), some (L, true), x5, some (.int u, false), some (.int P, false), x8]
theorem hl_body (O : D) (K w now x u P f : Int) (acc : List (Int × Int)) (x8 : Sl) (hl : acc.length < 5000)
    (e : F_period_behind [some (O, false), some (.int K, false), some (.int x, false)] = some (.fz (.int f), [some (O, false), some (.int K, false), some (.int x, false)])) :
    ∃ y8, exs fsH [] B_harmful_lowerings_1 (hG O K w now (rgD acc) (some (.int x, false)) u P x8) = some (.nx (hG O K w now (rgD (if now < f then ust acc (x - u + 1, x) else acc)) (some (.int x, false)) u P y8)) := by
  by_cases h : now < f
  · rw [if_pos h]
    cases acc with
    | nil =>
      refine ⟨some (.int (x - u + 1), false), ?_⟩
      have cn : cmpD .ne (.lst []) (.lst []) = some false := cmp_ne_pr []
      simp [B_harmful_lowerings_1, hG, rgD, prD, ust, DV.SC, DV.SX, e, h, cn, sizeLine]
    | cons q t =>
      obtain ⟨a, b⟩ := q
      have cn := cmp_ne_pr ((((a, b) :: t).reverse))
      have hl2 : (t.reverse.map prD).length < 5000 := by simp at hl ⊢; omega
      have e1 : ((((a, b) :: t).reverse)).map prD = t.reverse.map prD ++ [.tup [.int a, .int b]] := by simp [prD]
      rw [e1] at cn
      have em : (!((a, b) :: t).reverse.isEmpty) = true := by simp
      rw [em] at cn
      have ia := atI_last (t.reverse.map prD) (.tup [.int a, .int b])
      have ci := cmp_ii b (x - u)
      have i1 : atI [D.int a, D.int b] 1 = some (.int b) := rfl
      have i0 : atI [D.int a, D.int b] 0 = some (.int a) := rfl
      by_cases g : b = x - u + 1 - 1
      · have eu : ust ((a, b) :: t) (x - u + 1, x) = (a, x) :: t := by simp only [ust]; rw [if_pos g]
        rw [eu]
        have e2 : rgD ((a, x) :: t) = .lst (t.reverse.map prD ++ [.tup [.int a, .int x]]) := by simp [rgD, prD]
        have e3 : rgD ((a, b) :: t) = .lst (t.reverse.map prD ++ [.tup [.int a, .int b]]) := by simp only [rgD, e1]
        refine ⟨some (.int a, false), ?_⟩
        rw [e2, e3]
        rw [decide_eq_true (show b = x - u by omega)] at ci
        have gl : (t.reverse.map prD ++ [D.tup [.int a, .int b]]).getLast? = some (D.tup [.int a, .int b]) := by simp
        have dl : (t.reverse.map prD ++ [D.tup [.int a, .int b]]).dropLast = t.reverse.map prD := by simp
        generalize t.reverse.map prD = A at *
        have hz : A.length < 16777216 := by omega
        simp [B_harmful_lowerings_1, hG, DV.SC, DV.SX, e, h, cn, ia, ci, i0, i1, popD, gl, dl, hz, sizeLine]
      · have eu : ust ((a, b) :: t) (x - u + 1, x) = (x - u + 1, x) :: (a, b) :: t := by simp only [ust]; rw [if_neg g]
        rw [eu]
        have e2 : rgD ((x - u + 1, x) :: (a, b) :: t) = .lst (t.reverse.map prD ++ [.tup [.int a, .int b]] ++ [.tup [.int (x - u + 1), .int x]]) := by simp [rgD, prD]
        have e3 : rgD ((a, b) :: t) = .lst (t.reverse.map prD ++ [.tup [.int a, .int b]]) := by simp only [rgD, e1]
        refine ⟨some (.int (x - u + 1), false), ?_⟩
        rw [e2, e3]
        rw [decide_eq_false (show ¬ b = x - u by omega)] at ci
        generalize t.reverse.map prD = A at *
        have hz : A.length + 1 < 16777216 := by omega
        simp [B_harmful_lowerings_1, hG, DV.SC, DV.SX, e, h, cn, ia, ci, i0, i1, hz, sizeLine]
  · rw [if_neg h]
    exact ⟨x8, by simp [B_harmful_lowerings_1, hG, DV.SC, DV.SX, e, h]⟩
theorem hl_loop (O : D) (K w now P B : Int) (U : Nat) (F : Int → Int) (hU : 1 ≤ U) (hF : ∀ x : Int, 1 ≤ x → x ≤ B → F_period_behind [some (O, false), some (.int K, false), some (.int x, false)] = some (.fz (.int (F x)), [some (O, false), some (.int K, false), some (.int x, false)])) : ∀ (n j : Nat) (acc : List (Int × Int)) (x5 x8 : Sl),
    acc.length + n ≤ 4000 → (U : Int) * ((j : Int) + (n : Int)) ≤ B →
    ∃ y5 y8, forLoop (.nm 5) (exs fsH [] B_harmful_lowerings_1) (rngD ((U : Int) * ((j : Int) + 1)) U n) (hG O K w now (rgD acc) x5 U P x8) = some (.nx (hG O K w now (rgD ((List.range' j n).foldl (hlp F U now) acc)) y5 U P y8))
  | 0, j, acc, x5, x8, _, _ => ⟨x5, x8, by simp [rngD, forLoop]⟩
  | n + 1, j, acc, x5, x8, hl, hB => by
    have e2 : (U : Int) * ((j : Int) + 1) = (U : Int) * (j : Int) + U := by rw [Int.mul_add, Int.mul_one]
    have e4 : (U : Int) * ((j : Int) + ((n + 1 : Nat) : Int)) = (U : Int) * ((j : Int) + 1) + (U : Int) * (n : Int) := by rw [← Int.mul_add]; congr 1; omega
    have n0 : 0 ≤ (U : Int) * (j : Int) := Int.mul_nonneg (by omega) (by omega)
    have n1 : 0 ≤ (U : Int) * (n : Int) := Int.mul_nonneg (by omega) (by omega)
    obtain ⟨y8, e1⟩ := hl_body O K w now ((U : Int) * ((j : Int) + 1)) U P (F ((U : Int) * ((j : Int) + 1))) acc x8 (by omega) (hF _ (by omega) (by omega))
    have lz : (hlp F U now acc j).length ≤ acc.length + 1 := by
      unfold hlp
      split
      · exact ust_len _ _
      · omega
    obtain ⟨z5, z8, ih⟩ := hl_loop O K w now P B U F hU hF n (j + 1) (hlp F U now acc j) (some (.int ((U : Int) * ((j : Int) + 1)), false)) y8 (by omega) (by rw [← Int.mul_add] at e4; push_cast at *; rw [show (j : Int) + 1 + (n : Int) = (j : Int) + ((n : Int) + 1) by omega]; exact hB)
    refine ⟨z5, z8, ?_⟩
    rw [rngD, List.range'_succ, List.foldl_cons, ← ih]
    rw [show (U : Int) * (((j + 1 : Nat) : Int) + 1) = (U : Int) * ((j : Int) + 1) + U by push_cast; rw [Int.mul_add (U : Int) ((j : Int) + 1) 1, Int.mul_one]]
    exact forLoop_step (Γ1 := hG O K w now (rgD acc) (some (.int ((U : Int) * ((j : Int) + 1)), false)) U P x8) (by simp [DV.SC, DV.SE, DV.SX]) e1
theorem perE_app : ∀ (l t : List Sp) (p : Int), perE p (l ++ t) = perE (perE p l) t
  | [], t, p => rfl
  | s :: l, t, p => by rw [List.cons_append, perE, perE, perE_app l t]
theorem take_one {r : List Sp} {i : Nat} {s : Sp} (hs : r[i]? = some s) : r.take (i + 1) = r.take i ++ [s] := by
  rw [List.take_add_one, hs]
  rfl
theorem at_per {r : List Sp} {p : Int} (i : Nat) (hi : i ≤ r.length) : atI ((perL p r).map D.int) (i : Int) = some (.int (perE p (r.take i))) := by
  refine atI_nat ?_
  have g := perL_get (r.take i) (r.drop i) p
  rw [List.take_append_drop, List.length_take, Nat.min_eq_left hi] at g
  rw [List.getElem?_map, g]
  rfl
theorem hl_ok {r : List Sp} {p h : Int} (k : okR r p h) (i : Nat) (s : Sp) (hs : r[i]? = some s) (U m : Nat) (hu : perE p (r.take i) = U) (hP : ru s.w U = (U : Int) * ((m : Int) + 1)) (hm : m ≤ 2000) :
    F_harmful_lowerings [some (RO r p h, false), some (.int (i : Int), false)] = some (.nw (rgD ((List.range m).foldl (hlp (fun x => perE x (r.drop (i + 1))) U (perE p r)) [])), [some (RO r p h, false), some (.int (i : Int), false)]) := by
  have bb := BB_big
  have hi : i < r.length := (List.getElem?_eq_some_iff.mp hs).1
  have p1 := k.p1
  have kl := k.len
  have hU : 1 ≤ U := by
    have := (perE_pos (r := r.take i) (fun s m => k.sp s (List.mem_of_mem_take m)) k.p0).1
    omega
  have hUb : (U : Int) ≤ 20 * 1000000000000000000000000000000 := by
    have := (perE_pos (r := r.take i) (fun s m => k.sp s (List.mem_of_mem_take m)) k.p0).2.2.2.2
    rw [List.length_take] at this
    omega
  have hUm : (U : Int) * ((m : Int) + 1) ≤ 2001 * (20 * 1000000000000000000000000000000) := by
    have a := Int.mul_le_mul_of_nonneg_left (show (m : Int) + 1 ≤ 2001 by omega) (show 0 ≤ (U : Int) by omega)
    omega
  have g1 := item_ok r p h i s hs
  have pe := periods_ok k false
  have pr := row_period_ok k false
  have a1 := at_per (p := p) i (by omega : i ≤ r.length)
  have a2 := at_per (p := p) (i + 1) (by omega : i + 1 ≤ r.length)
  rw [take_one hs, perE_app, perE, perE, hu, hP] at a2
  rw [hu] at a1
  rw [show ((i + 1 : Nat) : Int) = (i : Int) + 1 by omega] at a2
  have hpb : ∀ x : Int, 1 ≤ x → x ≤ 10 * BB → F_period_behind [some (RO r p h, false), some (.int (i : Int), false), some (.int x, false)] = _ := fun x h1 h2 => pb_ok k i x h1 h2
  obtain ⟨N, e1, hN⟩ := rngO3G (hG (RO r p h) i s.w (perE p r) (rgD []) none U ((U : Int) * ((m : Int) + 1)) none) (a := (U : Int)) (b := (U : Int) * ((m : Int) + 1)) (c := (U : Int)) (by omega) (div_bb (by omega) (by omega))
  have eN : N = m := by
    have key : ∀ j : Nat, j < N ↔ j < m := fun j => by
      rw [hN j, show (U : Int) + (j : Int) * (U : Int) = (U : Int) * ((j : Int) + 1) by rw [Int.mul_add, Int.mul_one, Int.mul_comm]; omega]
      constructor
      · intro q; have := Int.lt_of_mul_lt_mul_left q (by omega); omega
      · intro q; exact Int.mul_lt_mul_of_pos_left (by omega) (by omega)
    have k1 := key N
    have k2 := key m
    omega
  subst eN
  obtain ⟨y5, y8, e2⟩ := hl_loop (RO r p h) i s.w (perE p r) ((U : Int) * ((N : Int) + 1)) (10 * BB) U (fun x => perE x (r.drop (i + 1))) hU hpb N 0 [] none none (by simp; omega) (by
    have := Int.mul_le_mul_of_nonneg_left (show ((0 : Nat) : Int) + (N : Int) ≤ (N : Int) + 1 by omega) (show 0 ≤ (U : Int) by omega)
    omega)
  rw [← List.range_eq_range', show (U : Int) * (((0 : Nat) : Int) + 1) = (U : Int) by simp] at e2
  have dv : (U : Int) * ((N : Int) + 1) / (U : Int) = (N : Int) + 1 := Int.mul_ediv_cancel_left _ (by omega)
  have d9 := div_bb (b := (U : Int)) (by omega) (by omega)
  have u0 : (0 : Int) < (U : Int) := by omega
  have nn : ¬ (2000 : Int) < (N : Int) + 1 - 1 := by omega
  have i1 : atI [D.int s.f, D.int s.w, D.int s.c] 1 = some (.int s.w) := rfl
  refine runF_pn (pn := []) (o := .rt (.sl 4) (hG (RO r p h) i s.w (perE p r) (rgD ((List.range N).foldl (hlp (fun x => perE x (r.drop (i + 1))) U (perE p r)) [])) y5 U ((U : Int) * ((N : Int) + 1)) y8)) rfl rfl (?_ : exs _ [] _ [some (RO r p h, false), some (.int (i : Int), false), none, none, none, none, none, none, none] = _) rfl
  have ho : isObj 1 (RO r p h) = true := rfl
  generalize rgD ((List.range N).foldl (hlp (fun x => perE x (r.drop (i + 1))) U (perE p r)) []) = RES at *
  generalize (perL p r).map D.int = PL at *
  generalize RO r p h = O at *
  generalize (U : Int) * ((N : Int) + 1) = P at *
  generalize (U : Int) = u at *
  generalize perE p r = now at *
  refine (exs_nx (Γ1 := [some (O, false), some (.int (i : Int), false), some (.int s.w, false), none, none, none, none, none, none]) (by simp [DV.SC, DV.SE, DV.SX, g1, ho, sD, i1])).trans ?_
  refine (exs_nx (Γ1 := [some (O, false), some (.int (i : Int), false), some (.int s.w, false), none, none, none, some (.int u, false), some (.int P, false), none]) (by simp [DV.SC, DV.SE, DV.SX, pe, a1, a2])).trans ?_
  refine (exs_nx (Γ1 := [some (O, false), some (.int (i : Int), false), some (.int s.w, false), none, none, none, some (.int u, false), some (.int P, false), none]) (by simp [DV.SC, DV.SE, DV.SX, u0, d9, dv]; omega)).trans ?_
  refine (exs_nx (Γ1 := [some (O, false), some (.int (i : Int), false), some (.int s.w, false), some (.int now, false), none, none, some (.int u, false), some (.int P, false), none]) (by simp [DV.SC, DV.SE, DV.SX, pr])).trans ?_
  refine (exs_nx (Γ1 := hG O i s.w now (rgD []) none u P none) (by simp [DV.SC, DV.SE, DV.SX, rgD])).trans ?_
  exact (exs_nx (ex_for (Γ2 := hG O i s.w now (rgD []) none u P none) (ds := rngD u u N) (by simp [DV.SC, DV.SE, DV.SX, hG, rgD] at e1 ⊢; exact e1) (by simp [DV.SC, DV.SE, DV.SX]) e2)).trans (by simp [DV.SC, DV.SE, DV.SX, hG])

/-! ### the best raise, as data -/
abbrev fsB : List FS := [F_Row___getitem__, F_is_between, F_periods, F_round_up, F_row_period, F_period_behind]
abbrev bG (O : D) (K M w : Int) (b : Int × Int) (x5 : Sl) (u P : Int) : Ct := [some (O, false), some (.int K, false), some (.int M, false), some (.int w, false), some (prD b, false), x5, some (.int u, false), some (.int P, false)]
theorem br_body (O : D) (K M w x u P f : Int) (b : Int × Int)
    (e : F_period_behind [some (O, false), some (.int K, false), some (.int x, false)] = some (.fz (.int f), [some (O, false), some (.int K, false), some (.int x, false)])) :
    exs fsB [] B_best_raise_1 (bG O K M w b (some (.int x, false)) u P) = some (.nx (bG O K M w (pm b (f, x - u + 1)) (some (.int x, false)) u P)) := by
  have em : prD (pm b (f, x - u + 1)) = if pLt (f, x - u + 1) (b.1, b.2) then .tup [.int f, .int (x - u + 1)] else .tup [.int b.1, .int b.2] := by
    unfold pm
    split <;> rfl
  simp only [bG]
  rw [em]
  simp [B_best_raise_1, prD, DV.SC, DV.SX, e, DV.biD.eq_22, sizeLine]
theorem br_loop (O : D) (K M w P B : Int) (U : Nat) (F : Int → Int) (hU : 1 ≤ U) (hP : 1 ≤ P) (hF : ∀ x : Int, 1 ≤ x → x ≤ B → F_period_behind [some (O, false), some (.int K, false), some (.int x, false)] = some (.fz (.int (F x)), [some (O, false), some (.int K, false), some (.int x, false)])) : ∀ (n j : Nat) (b : Int × Int) (x5 : Sl),
    P + (U : Int) * ((j : Int) + (n : Int)) ≤ B →
    ∃ y5, forLoop (.nm 5) (exs fsB [] B_best_raise_1) (rngD (P + (U : Int) * ((j : Int) + 1)) U n) (bG O K M w b x5 U P) = some (.nx (bG O K M w ((List.range' j n).foldl (brp F U P) b) y5 U P))
  | 0, j, b, x5, _ => ⟨x5, by simp [rngD, forLoop]⟩
  | n + 1, j, b, x5, hB => by
    have e2 : (U : Int) * ((j : Int) + 1) = (U : Int) * (j : Int) + U := by rw [Int.mul_add, Int.mul_one]
    have e4 : (U : Int) * ((j : Int) + ((n + 1 : Nat) : Int)) = (U : Int) * ((j : Int) + 1) + (U : Int) * (n : Int) := by rw [← Int.mul_add]; congr 1; omega
    have n0 : 0 ≤ (U : Int) * (j : Int) := Int.mul_nonneg (by omega) (by omega)
    have n1 : 0 ≤ (U : Int) * (n : Int) := Int.mul_nonneg (by omega) (by omega)
    have e1 := br_body O K M w (P + (U : Int) * ((j : Int) + 1)) U P (F (P + (U : Int) * ((j : Int) + 1))) b (hF _ (by omega) (by omega))
    obtain ⟨z5, ih⟩ := br_loop O K M w P B U F hU hP hF n (j + 1) (brp F U P b j) (some (.int (P + (U : Int) * ((j : Int) + 1)), false)) (by rw [← Int.mul_add] at e4; push_cast at *; rw [show (j : Int) + 1 + (n : Int) = (j : Int) + ((n : Int) + 1) by omega]; exact hB)
    refine ⟨z5, ?_⟩
    rw [rngD, List.range'_succ, List.foldl_cons, ← ih]
    rw [show P + (U : Int) * (((j + 1 : Nat) : Int) + 1) = P + (U : Int) * ((j : Int) + 1) + U by push_cast; rw [Int.mul_add (U : Int) ((j : Int) + 1) 1, Int.mul_one]; omega]
    exact forLoop_step (Γ1 := bG O K M w b (some (.int (P + (U : Int) * ((j : Int) + 1)), false)) U P) (by simp [DV.SC, DV.SE, DV.SX]) e1
theorem br_ok {r : List Sp} {p h : Int} (k : okR r p h) (i : Nat) (s : Sp) (hs : r[i]? = some s) (U N : Nat) (most : Int) (hu : perE p (r.take i) = U) (h1 : s.w ≤ most) (h2 : most ≤ 1000000000000000000000000000000) (hM : ru most U = ru s.w U + (U : Int) * (N : Int)) (hm : N ≤ 2000) :
    F_best_raise [some (RO r p h, false), some (.int (i : Int), false), some (.int most, false)] = some (.fz (prD ((List.range N).foldl (brp (fun x => perE x (r.drop (i + 1))) U (ru s.w U)) (perE p r, s.w))), [some (RO r p h, false), some (.int (i : Int), false), some (.int most, false)]) := by
  have bb := BB_big
  have hi : i < r.length := (List.getElem?_eq_some_iff.mp hs).1
  have hsw := (k.sp s (List.mem_of_getElem? hs)).w0
  have p1 := k.p1
  have kl := k.len
  have hU : 1 ≤ U := by
    have := (perE_pos (r := r.take i) (fun s m => k.sp s (List.mem_of_mem_take m)) k.p0).1
    omega
  have hUb : (U : Int) ≤ 20 * 1000000000000000000000000000000 := by
    have := (perE_pos (r := r.take i) (fun s m => k.sp s (List.mem_of_mem_take m)) k.p0).2.2.2.2
    rw [List.length_take] at this
    omega
  obtain ⟨q1, q2, q3, q4⟩ := ru_spec (w := s.w) (p := (U : Int)) (by omega) (by omega)
  obtain ⟨r1, r2, r3, r4⟩ := ru_spec (w := most) (p := (U : Int)) (by omega) (by omega)
  have g1 := item_ok r p h i s hs
  have pe := periods_ok k false
  have pr := row_period_ok k false
  have a1 := at_per (p := p) i (by omega : i ≤ r.length)
  have a2 := at_per (p := p) (i + 1) (by omega : i + 1 ≤ r.length)
  rw [take_one hs, perE_app, perE, perE, hu] at a2
  rw [hu] at a1
  rw [show ((i + 1 : Nat) : Int) = (i : Int) + 1 by omega] at a2
  have hpb : ∀ x : Int, 1 ≤ x → x ≤ 10 * BB → F_period_behind [some (RO r p h, false), some (.int (i : Int), false), some (.int x, false)] = _ := fun x h1 h2 => pb_ok k i x h1 h2
  have ro := round_up_ok (w := most) (p := (U : Int)) (by omega) (by omega) (by omega) (by omega)
  have bt := between_ok most s.w 1000000000000000000000000000000
  rw [decide_eq_true ⟨h1, h2⟩] at bt
  obtain ⟨n2, e1, hN⟩ := rngO3G (bG (RO r p h) i most s.w (perE p r, s.w) none U (ru s.w U)) (a := ru s.w U + (U : Int)) (b := ru most U + 1) (c := (U : Int)) (by omega) (div_bb (by omega) (by omega))
  have eN : n2 = N := by
    have key : ∀ j : Nat, j < n2 ↔ j < N := fun j => by
      rw [hN j, hM, show ru s.w U + (U : Int) + (j : Int) * (U : Int) = ru s.w U + (U : Int) * ((j : Int) + 1) by rw [Int.mul_add, Int.mul_one, Int.mul_comm]; omega]
      constructor
      · intro q; have q2 : (U : Int) * ((j : Int) + 1) ≤ (U : Int) * (N : Int) := by omega
        have := Int.le_of_mul_le_mul_left q2 (by omega); omega
      · intro q; have := Int.mul_le_mul_of_nonneg_left (show (j : Int) + 1 ≤ (N : Int) by omega) (show 0 ≤ (U : Int) by omega); omega
    have k1 := key N
    have k2 := key n2
    omega
  subst eN
  obtain ⟨y5, e2⟩ := br_loop (RO r p h) i most s.w (ru s.w U) (10 * BB) U (fun x => perE x (r.drop (i + 1))) hU (by omega) hpb n2 0 (perE p r, s.w) none (by rw [show ((0 : Nat) : Int) + (n2 : Int) = (n2 : Int) by omega]; omega)
  rw [← List.range_eq_range', show ru s.w U + (U : Int) * (((0 : Nat) : Int) + 1) = ru s.w U + (U : Int) by simp] at e2
  have dv : (ru most U - ru s.w U) / (U : Int) = (n2 : Int) := by rw [hM, show ru s.w U + (U : Int) * (n2 : Int) - ru s.w U = (U : Int) * (n2 : Int) by omega]; exact Int.mul_ediv_cancel_left _ (by omega)
  have d9 := div_bb (b := (U : Int)) (by omega) (by omega)
  have u0 : (0 : Int) < (U : Int) := by omega
  have i1 : atI [D.int s.f, D.int s.w, D.int s.c] 1 = some (.int s.w) := rfl
  refine runF_pn (pn := []) (o := .rt (.sl 4) (bG (RO r p h) i most s.w ((List.range n2).foldl (brp (fun x => perE x (r.drop (i + 1))) U (ru s.w U)) (perE p r, s.w)) y5 U (ru s.w U))) rfl rfl (?_ : exs _ [] _ [some (RO r p h, false), some (.int (i : Int), false), some (.int most, false), none, none, none, none, none] = _) rfl
  have ho : isObj 1 (RO r p h) = true := rfl
  generalize ((List.range n2).foldl (brp (fun x => perE x (r.drop (i + 1))) U (ru s.w U)) (perE p r, s.w)) = RES at *
  generalize (perL p r).map D.int = PL at *
  generalize RO r p h = O at *
  generalize ru s.w U = P at *
  generalize ru most U = Q at *
  generalize (U : Int) = u at *
  generalize perE p r = now at *
  refine (exs_nx (Γ1 := [some (O, false), some (.int (i : Int), false), some (.int most, false), some (.int s.w, false), none, none, none, none]) (by simp [DV.SC, DV.SE, DV.SX, g1, ho, sD, i1])).trans ?_
  refine (exs_nx (Γ1 := [some (O, false), some (.int (i : Int), false), some (.int most, false), some (.int s.w, false), none, none, none, none]) (by simp [DV.SC, DV.SE, DV.SX, bt])).trans ?_
  refine (exs_nx (Γ1 := [some (O, false), some (.int (i : Int), false), some (.int most, false), some (.int s.w, false), none, none, some (.int u, false), some (.int P, false)]) (by simp [DV.SC, DV.SE, DV.SX, pe, a1, a2])).trans ?_
  refine (exs_nx (Γ1 := [some (O, false), some (.int (i : Int), false), some (.int most, false), some (.int s.w, false), none, none, some (.int u, false), some (.int P, false)]) (by simp [DV.SC, DV.SE, DV.SX, u0, d9, dv, ro]; omega)).trans ?_
  refine (exs_nx (Γ1 := bG O i most s.w (now, s.w) none u P) (by simp [DV.SC, DV.SE, DV.SX, pr, prD, sizeLine])).trans ?_
  exact (exs_nx (ex_for (Γ2 := bG O i most s.w (now, s.w) none u P) (ds := rngD (P + u) u n2) (by simp [DV.SC, DV.SE, DV.SX, bG, prD, ro] at e1 ⊢; exact e1) (by simp [DV.SC, DV.SE, DV.SX]) e2)).trans (by simp [DV.SC, DV.SE, DV.SX, bG, prD])

/-! ### the law's own functions -/
def perW (p : Int) (ws : List Int) : Int := ws.foldl (fun st w => ru w st) p
theorem perW_E : ∀ (r : List Sp) (p : Int), perW p (r.map (·.w)) = perE p r
  | [], p => rfl
  | s :: r, p => perW_E r (ru s.w p)
theorem lp_loop (WS : D) (fl : Bool) (pn : List Nat) (hp : 1 ∉ pn) : ∀ (ws : List Int) (p M : Int) (x2 : Sl), (∀ w ∈ ws, 1 ≤ w ∧ w ≤ 1000000000000000000000000000000) → 1 ≤ p → p + 1000000000000000000000000000000 * ws.length ≤ M → M < 100 * BB →
    ∃ y2, forLoop (.nm 2) (exs [] pn B__law_period_1) (ws.map D.int) [some (WS, fl), some (.int p, false), x2] = some (.nx [some (WS, fl), some (.int (perW p ws), false), y2])
  | [], p, M, x2, _, _, _, _ => ⟨x2, by simp [forLoop, perW]⟩
  | w :: ws, p, M, x2, h, hp1, hM, hB => by
    have bb := BB_big
    obtain ⟨w0, w1⟩ := h w List.mem_cons_self
    obtain ⟨q1, q2, q3, q4⟩ := ru_spec w0 hp1
    rw [List.length_cons] at hM
    have hM' : p + 1000000000000000000000000000000 * (ws.length : Int) + 1000000000000000000000000000000 ≤ M := by
      have : ((ws.length + 1 : Nat) : Int) = (ws.length : Int) + 1 := by omega
      rw [this] at hM
      omega
    obtain ⟨y2, ih⟩ := lp_loop WS fl pn hp ws (ru w p) M (some (.int w, false)) (fun u m => h u (List.mem_cons_of_mem _ m)) (by omega) (by omega) hB
    refine ⟨y2, ?_⟩
    rw [List.map_cons, show perW p (w :: ws) = perW (ru w p) ws from rfl, ← ih]
    refine forLoop_step (Γ1 := [some (WS, fl), some (.int p, false), some (.int w, false)]) (by simp [DV.SC, DV.SE, DV.SX]) ?_
    have d := div_bb (b := p) (by omega) (by omega)
    have hq : (w + p - 1) / p * p = ru w p := rfl
    have n0 : 0 ≤ (w + p - 1) / p := Int.ediv_nonneg (by omega) (by omega)
    have n1 : (w + p - 1) / p ≤ w + p - 1 := Int.ediv_le_self p (by omega)
    have m : mulOk ((w + p - 1) / p) p = true := mul_bb (by omega) (by omega) (by omega) (by omega)
    have p0 : 0 < p := by omega
    simp [B__law_period_1, DV.SC, DV.SE, DV.SX, d, m, p0, hp, hq]
theorem lp_ok (ws : List Int) (p : Int) (hp : 1 ≤ p) (hb : p ≤ 1000000000000000000000000000000) (hl : ws.length ≤ 20) (h : ∀ w ∈ ws, 1 ≤ w ∧ w ≤ 1000000000000000000000000000000) (fl : Bool) :
    F__law_period [some (.lst (ws.map D.int), fl), some (.int p, false)] = some (.fz (.int (perW p ws)), [some (.lst (ws.map D.int), false), some (.int p, false)]) := by
  have bb := BB_big
  obtain ⟨y2, e⟩ := lp_loop (.lst (ws.map D.int)) false [] (by simp) ws p (30 * 1000000000000000000000000000000) none h hp (by omega) (by omega)
  refine runF_pn (pn := []) (o := .rt (.sl 1) [some (.lst (ws.map D.int), false), some (.int (perW p ws), false), y2]) rfl (by cases fl <;> rfl) (?_ : exs _ [] _ [some (.lst (ws.map D.int), fl), some (.int p, false), none] = _) (by cases fl <;> rfl)
  exact (exs_nx (ex_for (Γ2 := [some (.lst (ws.map D.int), false), some (.int p, false), none]) (ds := ws.map D.int) (by cases fl <;> simp [DV.SC, DV.SE, DV.SX]) (by simp [DV.SC, DV.SE, DV.SX]) e)).trans (by simp [DV.SC, DV.SE, DV.SX])
abbrev lrG (S : D) (L : D) (x2 : Sl) : Ct := [some (S, false), some (L, true), x2]
theorem lr_body (S : D) (x : Int) (acc : List (Int × Int)) (hl : acc.length < 5000) :
    exs [] [] B__law_ranges_1 (lrG S (rgD acc) (some (.int x, false))) = some (.nx (lrG S (rgD (rst acc x)) (some (.int x, false)))) := by
  cases acc with
  | nil =>
    have cn : cmpD .ne (.lst []) (.lst []) = some false := cmp_ne_pr []
    simp [B__law_ranges_1, lrG, rgD, prD, rst, DV.SC, DV.SX, cn, sizeLine]
  | cons q t =>
    obtain ⟨a, b⟩ := q
    have cn := cmp_ne_pr ((((a, b) :: t).reverse))
    have hl2 : (t.reverse.map prD).length < 5000 := by simp at hl ⊢; omega
    have e1 : ((((a, b) :: t).reverse)).map prD = t.reverse.map prD ++ [.tup [.int a, .int b]] := by simp [prD]
    rw [e1] at cn
    have em : (!((a, b) :: t).reverse.isEmpty) = true := by simp
    rw [em] at cn
    have ia := atI_last (t.reverse.map prD) (.tup [.int a, .int b])
    have ci := cmp_ii b (x - 1)
    have i1 : atI [D.int a, D.int b] 1 = some (.int b) := rfl
    have i0 : atI [D.int a, D.int b] 0 = some (.int a) := rfl
    have e3 : rgD ((a, b) :: t) = .lst (t.reverse.map prD ++ [.tup [.int a, .int b]]) := by simp only [rgD, e1]
    by_cases g : b = x - 1
    · have eu : rst ((a, b) :: t) x = (a, x) :: t := by simp only [rst]; rw [if_pos g]
      rw [eu]
      have e2 : rgD ((a, x) :: t) = .lst (t.reverse.map prD ++ [.tup [.int a, .int x]]) := by simp [rgD, prD]
      rw [e2, e3]
      rw [decide_eq_true g] at ci
      have st : setD (.lst (t.reverse.map prD ++ [.tup [.int a, .int b]])) (.int (-1)) (.tup [.int a, .int x]) = some (.lst (t.reverse.map prD ++ [.tup [.int a, .int x]])) := by
        have ix : ixN (t.reverse.map prD ++ [D.tup [.int a, .int b]]).length (-1) = some (t.reverse.map prD).length := by
          unfold ixN
          simp
          omega
        simp only [setD, ix, Option.map_some]
        simp
      generalize t.reverse.map prD = A at *
      have hz : A.length < 16777216 := by omega
      simp [B__law_ranges_1, lrG, DV.SC, DV.SX, cn, ia, ci, i0, i1, st, hz, sizeLine]
    · have eu : rst ((a, b) :: t) x = (x, x) :: (a, b) :: t := by simp only [rst]; rw [if_neg g]
      rw [eu]
      have e2 : rgD ((x, x) :: (a, b) :: t) = .lst (t.reverse.map prD ++ [.tup [.int a, .int b]] ++ [.tup [.int x, .int x]]) := by simp [rgD, prD]
      rw [e2, e3]
      rw [decide_eq_false g] at ci
      generalize t.reverse.map prD = A at *
      have hz : A.length + 1 < 16777216 := by omega
      simp [B__law_ranges_1, lrG, DV.SC, DV.SX, cn, ia, ci, i0, i1, hz, sizeLine]
theorem rst_len (acc : List (Int × Int)) (x : Int) : (rst acc x).length ≤ acc.length + 1 := by
  rw [rst_one]
  exact ust_len _ _
theorem lr_loop (S : D) : ∀ (xs : List Int) (acc : List (Int × Int)) (x2 : Sl), acc.length + xs.length ≤ 4000 →
    ∃ y2, forLoop (.nm 2) (exs [] [] B__law_ranges_1) (xs.map D.int) (lrG S (rgD acc) x2) = some (.nx (lrG S (rgD (xs.foldl rst acc)) y2))
  | [], acc, x2, _ => ⟨x2, by simp [forLoop]⟩
  | x :: xs, acc, x2, hl => by
    rw [List.length_cons] at hl
    have := rst_len acc x
    obtain ⟨y2, ih⟩ := lr_loop S xs (rst acc x) (some (.int x, false)) (by omega)
    refine ⟨y2, ?_⟩
    rw [List.map_cons, List.foldl_cons, ← ih]
    exact forLoop_step (Γ1 := lrG S (rgD acc) (some (.int x, false))) (by simp [DV.SC, DV.SE, DV.SX]) (lr_body S x acc (by omega))
theorem lr_ok (xs : List Int) (hl : xs.length ≤ 4000) (fl : Bool) : F__law_ranges [some (.lst (xs.map D.int), fl)] = some (.nw (rgD (xs.foldl rst [])), [some (.lst (xs.map D.int), false)]) := by
  obtain ⟨y2, e⟩ := lr_loop (.lst (xs.map D.int)) xs [] none (by simp; omega)
  refine runF_pn (pn := []) (o := .rt (.sl 1) (lrG (.lst (xs.map D.int)) (rgD (xs.foldl rst [])) y2)) rfl (by cases fl <;> rfl) (?_ : exs _ [] _ [some (.lst (xs.map D.int), fl), none, none] = _) (by cases fl <;> rfl)
  refine (exs_nx (Γ1 := [some (.lst (xs.map D.int), fl), some (.lst [], true), none]) (by cases fl <;> simp [DV.SC, DV.SE, DV.SX])).trans ?_
  exact (exs_nx (ex_for (Γ2 := lrG (.lst (xs.map D.int)) (rgD []) none) (ds := xs.map D.int) (by cases fl <;> simp [DV.SC, DV.SE, DV.SX, lrG, rgD]) (by simp [DV.SC, DV.SE, DV.SX]) e)).trans (by simp [DV.SC, DV.SE, DV.SX, lrG])

/-! ### all that the law asks of one breaker -/
def mulR (k : Int) (r : List Sp) : List Sp := r.map fun s => ⟨s.f, s.w * k, s.c⟩
theorem perE_mul {k : Int} (hk : 1 ≤ k) : ∀ (r : List Sp) (p : Int), (∀ s ∈ r, okS s) → 1 ≤ p → perE (p * k) (mulR k r) = perE p r * k
  | [], p, _, _ => rfl
  | s :: r, p, h, hp => by
    have os := h s List.mem_cons_self
    have q := ru_spec os.w0 hp
    show perE (ru (s.w * k) (p * k)) (mulR k r) = perE (ru s.w p) r * k
    rw [ru_scale os.w0 hp hk]
    exact perE_mul hk r _ (fun u m => h u (List.mem_cons_of_mem _ m)) (by omega)
/-- the law's list of tried waits -/
def trL (F : Int → Int) (U : Nat) (xs : List Int) : List (Int × Int) := xs.map fun x => (F (ru x U), x)
def upL (lo : Int) (n : Nat) : List Int := (List.range n).map fun (i : Nat) => lo + (i : Int)
theorem rngD_up : ∀ (n : Nat) (lo : Int), rngD lo 1 n = (upL lo n).map D.int
  | 0, lo => rfl
  | n + 1, lo => by
    rw [rngD, rngD_up n (lo + 1)]
    unfold upL
    rw [List.range_succ_eq_map, List.map_cons, List.map_cons, List.map_map]
    congr 1
    · simp
    · rw [List.map_map, List.map_map]
      refine List.map_congr_left fun j _ => ?_
      simp only [Function.comp_apply]
      congr 1
      omega
theorem foldl_filt {α β : Type} (f : α → β → α) (p : β → Bool) : ∀ (l : List β) (a : α), (l.filter p).foldl f a = l.foldl (fun x y => if p y then f x y else x) a
  | [], _ => rfl
  | x :: l, a => by
    rw [List.filter_cons, List.foldl_cons]
    cases h : p x
    · simp [foldl_filt f p l]
    · simp [foldl_filt f p l]
theorem due_fold (F : Int → Int) (U : Nat) (now : Int) (n : Nat) : ((upL 1 n).filter fun x => decide (now < F (ru x U))).foldl rst [] = (List.range n).foldl (hlw F U now) [] := by
  rw [foldl_filt, upL, List.foldl_map]
  refine fold_ext _ _ _ _ fun ac i _ => ?_
  unfold hlw
  rw [Int.add_comm 1 (i : Int)]
  simp only [decide_eq_true_eq]
theorem minP_up (F : Int → Int) (U : Nat) (w n : Nat) : minP (trL F U (upL (w : Int) (n + 1))) = some ((List.range n).foldl (brw F U ((w : Int) + 1)) (F (ru w U), (w : Int))) := by
  unfold trL upL
  rw [List.range_succ_eq_map, List.map_cons, List.map_cons]
  simp only [minP, List.map_map, List.foldl_map]
  simp only [Int.natCast_zero, Int.add_zero]
  congr 1
  refine fold_ext _ _ _ _ fun ac i _ => ?_
  unfold brw pm
  simp only [Function.comp_apply]
  rw [show (w : Int) + ((Nat.succ i : Nat) : Int) = (w : Int) + 1 + (i : Int) by push_cast; omega]
theorem br_bd (F : Int → Int) (U : Nat) (P : Int) (hP : 1 ≤ P) (hF : ∀ x, 1 ≤ x → 0 ≤ F x) : ∀ (l : List Nat) (a : Int × Int), 0 ≤ a.1 → 0 ≤ (l.foldl (brp F U P) a).1 ∧ (l.foldl (brp F U P) a).1 ≤ a.1
  | [], a, h => ⟨h, Int.le_refl _⟩
  | j :: l, a, h => by
    rw [List.foldl_cons]
    have n0 : 0 ≤ (U : Int) * ((j : Int) + 1) := Int.mul_nonneg (by omega) (by omega)
    have f0 := hF (P + (U : Int) * ((j : Int) + 1)) (by omega)
    have e : (brp F U P a j).1 = if F (P + (U : Int) * ((j : Int) + 1)) < a.1 then F (P + (U : Int) * ((j : Int) + 1)) else a.1 := by
      unfold brp
      rw [pm_fst]
    have h2 : 0 ≤ (brp F U P a j).1 ∧ (brp F U P a j).1 ≤ a.1 := by
      rw [e]
      split <;> omega
    have ih := br_bd F U P hP hF l (brp F U P a j) h2.1
    exact ⟨ih.1, by omega⟩
structure Brk (r : List Sp) (st more : Int) (k : Nat) (s : Sp) : Prop where
  ok : okR r st 0
  okm : okR (mulR more r) (st * more) 0
  at_ : r[k]? = some s
  w1 : s.w ≤ 300
  st1 : st ≤ 3
  m0 : 1 ≤ more
  m1 : more ≤ 100000000000000000000000000
theorem brk_facts {r : List Sp} {st more : Int} {k : Nat} {s : Sp} (B : Brk r st more k s) (high : Int) (h0 : s.w ≤ high) (h1 : high ≤ s.w + 400) : ∃ (F : Int → Int) (U : Nat) (X : List (Int × Int)) (b b2 : Int × Int),
    (∀ x : Int, 1 ≤ x → perE st (r.take k ++ [⟨s.f, x, s.c⟩] ++ r.drop (k + 1)) = F (ru x U)) ∧ 1 ≤ U ∧
    F_harmful_lowerings [some (RO r st 0, false), some (.int (k : Int), false)] = some (.nw (rgD X), [some (RO r st 0, false), some (.int (k : Int), false)]) ∧
    F_harmful_lowerings [some (RO (mulR more r) (st * more) 0, false), some (.int (k : Int), false)] = some (.nw (rgD (X.map (phi more))), [some (RO (mulR more r) (st * more) 0, false), some (.int (k : Int), false)]) ∧
    ((upL 1 (s.w - 1).toNat).filter fun x => decide (perE st r < F (ru x U))).foldl rst [] = X ∧
    F_best_raise [some (RO r st 0, false), some (.int (k : Int), false), some (.int high, false)] = some (.fz (prD b), [some (RO r st 0, false), some (.int (k : Int), false), some (.int high, false)]) ∧
    F_best_raise [some (RO (mulR more r) (st * more) 0, false), some (.int (k : Int), false), some (.int (high * more), false)] = some (.fz (prD b2), [some (RO (mulR more r) (st * more) 0, false), some (.int (k : Int), false), some (.int (high * more), false)]) ∧
    b2.1 = b.1 * more ∧ minP (trL F U (upL s.w (high + 1 - s.w).toNat)) = some b ∧ 0 ≤ b.1 ∧ b.1 ≤ perE st r := by
  obtain ⟨ok, okm, hs, w1, st1, m0, m1⟩ := B
  have hk : k < r.length := (List.getElem?_eq_some_iff.mp hs).1
  have os := ok.sp s (List.mem_of_getElem? hs)
  have w0 := os.w0
  have tk : ∀ x ∈ r.take k, okS x := fun s m => ok.sp s (List.mem_of_mem_take m)
  have dk : ∀ x ∈ r.drop (k + 1), okS x := fun s m => ok.sp s (List.mem_of_mem_drop m)
  obtain ⟨wn, ew⟩ : ∃ n : Nat, s.w = n := ⟨s.w.toNat, by omega⟩
  obtain ⟨hn, eh⟩ : ∃ n : Nat, high = n := ⟨high.toNat, by omega⟩
  obtain ⟨K, eK⟩ : ∃ n : Nat, more = n := ⟨more.toNat, by omega⟩
  have u1 := (perE_pos tk ok.p0).1
  obtain ⟨U, eU⟩ : ∃ n : Nat, perE st (r.take k) = n := ⟨(perE st (r.take k)).toNat, by omega⟩
  have hU : 1 ≤ U := by omega
  obtain ⟨q1, q2, ⟨c, hc⟩, q4⟩ := ru_spec (w := s.w) (p := (U : Int)) (by omega) (by omega)
  have c1 : 1 ≤ c := by
    rcases Int.lt_or_le 0 c with h | h
    · omega
    · have := Int.mul_le_mul_of_nonneg_left h (show 0 ≤ (U : Int) by omega); omega
  obtain ⟨m, em⟩ : ∃ m : Nat, c = (m : Int) + 1 := ⟨(c - 1).toNat, by omega⟩
  rw [em] at hc
  have hcm : (U : Int) * ((m : Int) + 1) = (U : Int) * (m : Int) + U := by rw [Int.mul_add, Int.mul_one]
  have mU : (m : Int) ≤ (U : Int) * (m : Int) := by
    have := Int.mul_le_mul_of_nonneg_right (show 1 ≤ (U : Int) by omega) (show 0 ≤ (m : Int) by omega)
    omega
  have hm : m ≤ 2000 := by omega
  obtain ⟨r1, r2, ⟨d, hd⟩, r4⟩ := ru_spec (w := high) (p := (U : Int)) (by omega) (by omega)
  have hdc : (m : Int) + 1 ≤ d := by
    rcases Int.lt_or_le d ((m : Int) + 1) with h | h
    · have := Int.mul_le_mul_of_nonneg_left (show d + 1 ≤ (m : Int) + 1 by omega) (show 0 ≤ (U : Int) by omega)
      rw [Int.mul_add, Int.mul_one] at this
      omega
    · exact h
  obtain ⟨N, eN⟩ : ∃ N : Nat, d = (m : Int) + 1 + N := ⟨(d - (m + 1)).toNat, by omega⟩
  have hM : ru high U = ru s.w U + (U : Int) * (N : Int) := by rw [hd, hc, eN, Int.mul_add (U : Int) ((m : Int) + 1)]
  have NU : (N : Int) ≤ (U : Int) * (N : Int) := by
    have := Int.mul_le_mul_of_nonneg_right (show 1 ≤ (U : Int) by omega) (show 0 ≤ (N : Int) by omega)
    omega
  have hN : N ≤ 2000 := by omega
  have nw : perE st r = perE (ru s.w U) (r.drop (k + 1)) := by
    have e : r = r.take k ++ s :: r.drop (k + 1) := by
      obtain ⟨hk', es⟩ := List.getElem?_eq_some_iff.mp hs
      rw [← es, ← List.drop_eq_getElem_cons hk', List.take_append_drop]
    conv => lhs; rw [e]
    rw [perE_app, perE, eU]
  -- the multiplied row
  have hs2 : (mulR more r)[k]? = some ⟨s.f, s.w * more, s.c⟩ := by unfold mulR; rw [List.getElem?_map, hs]; rfl
  have eU2 : perE (st * more) ((mulR more r).take k) = ((U * K : Nat) : Int) := by
    have := perE_mul m0 (r.take k) st tk ok.p0
    unfold mulR at this ⊢
    rw [← List.map_take, this, eU, eK]
    push_cast
    rfl
  have eP2 : ru (s.w * more) ((U * K : Nat) : Int) = ru s.w U * more := by
    push_cast
    rw [← eK]
    exact ru_scale (by omega) (by omega) m0
  have eQ2 : ru (high * more) ((U * K : Nat) : Int) = ru high U * more := by
    push_cast
    rw [← eK]
    exact ru_scale (by omega) (by omega) m0
  have hF : ∀ x, 1 ≤ x → (fun x => perE x ((mulR more r).drop (k + 1))) (x * (K : Int)) = (fun x => perE x (r.drop (k + 1))) x * (K : Int) := fun x hx => by
    have := perE_mul m0 (r.drop (k + 1)) x dk hx
    unfold mulR at this ⊢
    simp only
    rw [← List.map_drop, ← eK]
    exact this
  have now2 : perE (st * more) (mulR more r) = perE st r * (K : Int) := by rw [perE_mul m0 r st ok.sp ok.p0, eK]
  have l1 := hl_ok ok k s hs U m eU hc hm
  have l2 := hl_ok okm k _ hs2 (U * K) m eU2 (by
    show ru (s.w * more) _ = _
    rw [eP2, hc, eK]; push_cast; rw [Int.mul_right_comm]) hm
  have b1 := br_ok ok k s hs U N high eU h0 (by omega) hM hN
  have hb : high * more ≤ 700 * 100000000000000000000000000 := by
    have a1 := Int.mul_le_mul_of_nonneg_right (show high ≤ 700 by omega) (show 0 ≤ more by omega)
    omega
  have b2 := br_ok okm k _ hs2 (U * K) N (high * more) eU2 (Int.mul_le_mul_of_nonneg_right h0 (by omega)) (by omega) (by
    show ru (high * more) _ = ru (s.w * more) _ + _
    rw [eP2, eQ2, hM, eK, Int.add_mul]; push_cast; rw [Int.mul_right_comm]) hN
  refine ⟨fun x => perE x (r.drop (k + 1)), U, _, _, _, fun x hx => ?_, hU, l1, ?_, ?_, b1, b2, ?_, ?_, br_bd _ _ _ (by omega) (fun x hx => by have := (perE_pos dk hx).1; omega) _ _ (by have := (perE_pos ok.sp ok.p0).1; show 0 ≤ perE st r; omega)⟩
  · simp only
    rw [List.append_assoc, perE_app, eU, List.singleton_append, perE]
  · rw [l2, now2, eK]
    have := hlp_scale (fun x => perE x (r.drop (k + 1))) (fun x => perE x ((mulR more r).drop (k + 1))) U K (by omega) hF hU (perE st r) (List.range m) []
    rw [List.map_nil] at this
    rw [eK] at this
    rw [this]
  · refine (due_fold (fun x => perE x (r.drop (k + 1))) U (perE st r) (s.w - 1).toNat).trans ?_
    rw [nw]
    have e1 : (s.w - 1).toNat = wn - 1 := by omega
    rw [e1]
    rw [ew] at hc ⊢
    exact hl_law (fun x => perE x (r.drop (k + 1))) U _ hU wn m (by omega) hc rfl
  · have e := br_scale (fun x => perE x (r.drop (k + 1))) (fun x => perE x ((mulR more r).drop (k + 1))) U K (ru s.w U) (by omega) (by omega) hF (List.range N) (perE st r, s.w) (perE (st * more) (mulR more r), s.w * more) now2
    show (List.foldl (brp _ (U * K) (ru (s.w * more) _)) _ _).1 = _
    rw [eP2]
    rw [← eK] at e
    exact e
  · have e1 : (high + 1 - s.w).toNat = (hn - wn) + 1 := by omega
    rw [e1, ew]
    refine (minP_up (fun x => perE x (r.drop (k + 1))) U wn (hn - wn)).trans ?_
    rw [nw]
    rw [ew] at hM ⊢
    rw [eh] at hM
    rw [br_law (fun x => perE x (r.drop (k + 1))) U hU wn hn N (by omega) (by omega) hM]

/-! ### the law's steps for one breaker -/
abbrev fsL : List FS := [F__law_cell_at, F__law_source_of, F__law_next, F__law_one, F__law_specs, F_Row___init__, F__law_period, F__law_ranges, F_harmful_lowerings, F_best_raise]
abbrev plS (o : Option D) : Sl := o.map fun d => (d, false)
abbrev lG (S : D) (x1 : Sl) (W : D) (st : Int) (R O : D) (WS : List D) (now more : Int) (O2 : D) (K : Int) (x11 x12 x13 x14 x15 x16 : Sl) : Ct :=
  [some (S, false), x1, some (W, true), some (.int st, false), some (R, false), some (O, false), some (.lst WS, false), some (.int now, false), some (.int more, false), some (O2, false), some (.int K, false), x11, x12, x13, x14, x15, x16, none, none, none, none]
def elt1 : DV.E := .tup [.call 6 [.bin .add (.bin .add (.slc (.var 6) [] [.var 10]) (.lst [.var 15])) (.slc (.var 6) [.bin .add (.var 10) (.cst (.int 1))] []), .var 3], .var 15]
theorem elt1_ok (S : D) (x1 : Sl) (W : D) (st : Int) (R O : D) (r : List Sp) (now more : Int) (O2 : D) (k : Nat) (x11 x12 x13 x14 x16 : Sl) (x v : Int) (s : Sp) (ok : okR r st 0) (hl : r.length ≤ 5) (hk : k < r.length) (h0 : 1 ≤ x) (h1 : x ≤ 1000000000000000000000000000000)
    (e : perE st (r.take k ++ [⟨s.f, x, s.c⟩] ++ r.drop (k + 1)) = v) :
    ev fsL elt1 (lG S x1 W st R O ((r.map (·.w)).map D.int) now more O2 k x11 x12 x13 x14 (some (.int x, false)) x16) = some (.fz (prD (v, x)), lG S x1 W st R O ((r.map (·.w)).map D.int) now more O2 k x11 x12 x13 x14 (some (.int x, false)) x16) := by
  have c1 : cutD ((r.map (·.w)).map D.int) none (some (k : Int)) = ((r.take k).map (·.w)).map D.int := by
    rw [cut_to, List.map_take, List.map_take]
  have c2 : cutD ((r.map (·.w)).map D.int) (some ((k : Int) + 1)) none = ((r.drop (k + 1)).map (·.w)).map D.int := by
    have c := cut_from ((r.map (·.w)).map D.int) (k + 1)
    rw [show ((k + 1 : Nat) : Int) = (k : Int) + 1 by omega] at c
    rw [c, List.map_drop, List.map_drop]
  have lp := lp_ok ((r.take k).map (·.w) ++ [x] ++ (r.drop (k + 1)).map (·.w)) st ok.p0 ok.p1 (by simp; omega) (by
    intro w m
    rcases List.mem_append.mp m with m | m
    · rcases List.mem_append.mp m with m | m
      · obtain ⟨u, hu, rfl⟩ := List.mem_map.mp m
        have := ok.sp u (List.mem_of_mem_take hu)
        exact ⟨this.w0, this.w1⟩
      · simp at m; subst m; exact ⟨h0, h1⟩
    · obtain ⟨u, hu, rfl⟩ := List.mem_map.mp m
      have := ok.sp u (List.mem_of_mem_drop hu)
      exact ⟨this.w0, this.w1⟩) true
  have ew : perW st ((r.take k).map (·.w) ++ [x] ++ (r.drop (k + 1)).map (·.w)) = v := by
    rw [← e, ← perW_E]
    simp
  rw [ew] at lp
  have em : ((r.take k).map (·.w) ++ [x] ++ (r.drop (k + 1)).map (·.w)).map D.int = ((r.take k).map (·.w)).map D.int ++ [D.int x] ++ ((r.drop (k + 1)).map (·.w)).map D.int := by simp
  rw [em] at lp
  have l1 : (((r.take k).map (·.w)).map D.int).length + 1 ≤ 100 := by simp; omega
  have l2 : (((r.take k).map (·.w)).map D.int).length + 1 + (((r.drop (k + 1)).map (·.w)).map D.int).length ≤ 100 := by simp; omega
  generalize ((r.take k).map (·.w)).map D.int = A at *
  generalize ((r.drop (k + 1)).map (·.w)).map D.int = B at *
  generalize (r.map (·.w)).map D.int = WS at *
  have z1 : A.length + 1 ≤ 16777216 := by omega
  have z2 : A.length + (B.length + 1) ≤ 16777216 := by omega
  have z3 : A.length + 1 + B.length ≤ 16777216 := by omega
  have la : A ++ [D.int x] ++ B = A ++ D.int x :: B := by simp
  rw [la] at lp
  simp [elt1, prD, DV.SC, DV.SE, DV.SX, c1, c2, lp, z1, z2, z3, sizeLine]
def trF (F : Int → Int) (U : Nat) : D → D
  | .int x => prD (F (ru x U), x)
  | d => d
theorem st0 (S : D) (x1 : Sl) (W : D) (st : Int) (R O : D) (r : List Sp) (now more : Int) (O2 : D) (k : Nat) (x11 x12 x13 x14 x16 : Sl) (o15 : Option D) (s : Sp) (ok : okR r st 0) (hl : r.length ≤ 5) (hs : r[k]? = some s) (w1 : s.w ≤ 300) (F : Int → Int) (U : Nat)
    (hF : ∀ x : Int, 1 ≤ x → perE st (r.take k ++ [⟨s.f, x, s.c⟩] ++ r.drop (k + 1)) = F (ru x U)) :
    ex fsL [] (.asgO 11 (.comp [15] (.nm 15) .rng [.cst (.int 1), .ix (.var 6) (.var 10)] [] (.tup [.call 6 [.bin .add (.bin .add (.slc (.var 6) [] [.var 10]) (.lst [.var 15])) (.slc (.var 6) [.bin .add (.var 10) (.cst (.int 1))] []), .var 3], .var 15]))) (lG S x1 W st R O ((r.map (·.w)).map D.int) now more O2 k x11 x12 x13 x14 (plS o15) x16) = some (.nx (lG S x1 W st R O ((r.map (·.w)).map D.int) now more O2 k (some (.lst ((trL F U (upL 1 (s.w - 1).toNat)).map prD), true)) x12 x13 x14 (plS o15) x16)) := by
  have hk : k < r.length := (List.getElem?_eq_some_iff.mp hs).1
  have w0 := (ok.sp s (List.mem_of_getElem? hs)).w0
  have ia : atI ((r.map (·.w)).map D.int) (k : Int) = some (.int s.w) := atI_nat (by rw [List.getElem?_map, List.getElem?_map, hs]; rfl)
  have hr := fun Γ => rngO2 Γ 1 s.w (in62_int (by decide) (by decide)) (in62_int (by omega) (by omega))
  have ec := comp_genW (fs := fsL) (own := [15]) (tg := .nm 15) (ik := .rng) (its := [.cst (.int 1), .ix (.var 6) (.var 10)]) (cs := []) (elt := elt1) (ds := rngD 1 1 (s.w - 1).toNat)
    (Γ0 := lG S x1 W st R O ((r.map (·.w)).map D.int) now more O2 k x11 x12 x13 x14 (plS o15) x16) (Γ := lG S x1 W st R O ((r.map (·.w)).map D.int) now more O2 k x11 x12 x13 x14 (plS o15) x16) (Γw := lG S x1 W st R O ((r.map (·.w)).map D.int) now more O2 k x11 x12 x13 x14 none x16) (fun _ => true) (trF F U)
    (by
      generalize (r.map (·.w)).map D.int = WS at *
      simp [DV.SC, DV.SE, DV.SX, ia, hr]) (by cases o15 <;> rfl) (by cases o15 <;> rfl) (by cases o15 <;> rfl) (by decide) (by rw [rngD_len]; omega) (fun d hd => by
      rw [rngD_up] at hd
      obtain ⟨x, hx, rfl⟩ := List.mem_map.mp hd
      unfold upL at hx
      obtain ⟨i, hi, rfl⟩ := List.mem_map.mp hx
      have hi := List.mem_range.mp hi
      have ee := fun x16 => elt1_ok S x1 W st R O r now more O2 k x11 x12 x13 x14 x16 (1 + (i : Int)) (F (ru (1 + (i : Int)) U)) s ok hl hk (by omega) (by omega) (hF _ (by omega))
      refine ⟨lG S x1 W st R O ((r.map (·.w)).map D.int) now more O2 k x11 x12 x13 x14 (some (.int (1 + (i : Int)), false)) x16, by simp [DV.SC, DV.SE, DV.SX], by simp [DV.SC, DV.SE, DV.SX], rfl, rfl, fun _ => ⟨_, ee x16, ?_⟩⟩
      simp only [fre, trF])
  have el : ((rngD 1 1 (s.w - 1).toNat).filter (fun _ => true)).map (trF F U) = (trL F U (upL 1 (s.w - 1).toNat)).map prD := by
    rw [List.filter_eq_self.mpr (fun _ _ => rfl), rngD_up, List.map_map, trL, List.map_map]
    rfl
  rw [el] at ec
  unfold elt1 at ec
  generalize DV.E.comp _ _ _ _ _ _ = CC at ec ⊢
  generalize (trL F U (upL 1 (s.w - 1).toNat)).map prD = TT at ec ⊢
  generalize (r.map (·.w)).map D.int = WS at ec ⊢
  simp [DV.SC, DV.SX, ec]

def gtP (now : Int) : D → Bool
  | .tup [.int a, _] => decide (now < a)
  | _ => false
def sndP : D → D
  | .tup [_, b] => b
  | d => d
theorem st1 (S : D) (x1 : Sl) (W : D) (st : Int) (R O : D) (WS : List D) (now more : Int) (O2 : D) (K : Int) (x12 x13 x14 x16 : Sl) (o15 : Option D) (TT : List (Int × Int)) (hT : TT.length ≤ 1000) :
    ex fsL [] (.asg (.nm 12) (.call 7 [.comp [20, 15] (.tp [.nm 20, .nm 15]) .seq [.var 11] [.cmp .gt (.var 20) (.var 7)] (.var 15)])) (lG S x1 W st R O WS now more O2 K (some (.lst (TT.map prD), true)) x12 x13 x14 (plS o15) x16) = some (.nx (lG S x1 W st R O WS now more O2 K (some (.lst (TT.map prD), false)) (some (rgD (((TT.filter fun p => decide (now < p.1)).map (·.2)).foldl rst []), false)) x13 x14 (plS o15) x16)) := by
  have ec := comp_genW (fs := fsL) (own := [20, 15]) (tg := .tp [.nm 20, .nm 15]) (ik := .seq) (its := [.var 11]) (cs := [.cmp .gt (.var 20) (.var 7)]) (elt := .var 15) (ds := TT.map prD)
    (Γ0 := lG S x1 W st R O WS now more O2 K (some (.lst (TT.map prD), true)) x12 x13 x14 (plS o15) x16) (Γ := lG S x1 W st R O WS now more O2 K (some (.lst (TT.map prD), false)) x12 x13 x14 (plS o15) x16) (Γw := lG S x1 W st R O WS now more O2 K (some (.lst (TT.map prD), false)) x12 x13 x14 none x16) (gtP now) sndP
    (by
      generalize TT.map prD = T at *
      simp [DV.SC, DV.SE, DV.SX]) (by cases o15 <;> rfl) (by cases o15 <;> rfl) (by cases o15 <;> rfl) (by decide) (by rw [List.length_map]; omega) (fun d hd => by
      obtain ⟨⟨a, b⟩, _, rfl⟩ := List.mem_map.mp hd
      refine ⟨[some (S, false), x1, some (W, true), some (.int st, false), some (R, false), some (O, false), some (.lst WS, false), some (.int now, false), some (.int more, false), some (O2, false), some (.int K, false), some (.lst (TT.map prD), false), x12, x13, x14, some (.int b, false), x16, none, none, none, some (.int a, false)], ?_, ?_, rfl, rfl, fun _ => ⟨.sl 15, rfl, rfl⟩⟩
      · generalize TT.map prD = T at *
        simp [DV.SC, DV.SE, DV.SX, prD]
      · generalize TT.map prD = T at *
        simp [DV.SC, DV.SE, DV.SX, prD, gtP])
  have el : ((TT.map prD).filter (gtP now)).map sndP = ((TT.filter fun p => decide (now < p.1)).map (·.2)).map D.int := by
    clear ec hT
    induction TT with
    | nil => rfl
    | cons p T ih =>
      have e1 : gtP now (prD p) = decide (now < p.1) := rfl
      have e2 : sndP (prD p) = .int p.2 := rfl
      rw [List.map_cons, List.filter_cons, List.filter_cons, e1]
      cases h : decide (now < p.1)
      · simpa using ih
      · simp only [if_true, List.map_cons, e2, ih]
  rw [el] at ec
  have lr := lr_ok ((TT.filter fun p => decide (now < p.1)).map (·.2)) (by
    rw [List.length_map]
    have := List.length_filter_le (fun p : Int × Int => decide (now < p.1)) TT
    omega) true
  generalize DV.E.comp _ _ _ _ _ _ = CC at ec ⊢
  generalize rgD (((TT.filter fun p => decide (now < p.1)).map (·.2)).foldl rst []) = RR at *
  generalize ((TT.filter fun p => decide (now < p.1)).map (·.2)).map D.int = XX at *
  generalize TT.map prD = T at *
  simp [DV.SC, DV.SX, ec, lr]
theorem okB_rg (X : List (Int × Int)) : okB 12 (rgD X) = true := by
  simp only [rgD, DV.okB.eq_5, List.all_map, List.all_eq_true, Function.comp_apply]
  intro q _
  exact okB_pr 10 q
def phiD (k : Int) : D → D
  | .tup [.int a, .int b] => .tup [.int ((a - 1) * k + 1), .int (b * k)]
  | d => d
theorem st3 (S : D) (x1 : Sl) (W : D) (st : Int) (R O : D) (WS : List D) (now more : Int) (m1 : 1 ≤ more) (m2 : more ≤ 100000000000000000000000000) (O2 : D) (K : Int) (x11 x13 x14 x15 x16 : Sl) (X : List (Int × Int)) (hX : X.length ≤ 4000) (hB : ∀ p ∈ X, (0 ≤ p.1 ∧ p.1 ≤ 1000) ∧ (0 ≤ p.2 ∧ p.2 ≤ 1000)) :
    ex fsL [] (.asgO 13 (.comp [18, 19] (.tp [.nm 18, .nm 19]) .seq [.var 12] [] (.tup [.bin .add (.bin .mul (.bin .sub (.var 18) (.cst (.int 1))) (.var 8)) (.cst (.int 1)), .bin .mul (.var 19) (.var 8)]))) (lG S x1 W st R O WS now more O2 K x11 (some (rgD X, false)) x13 x14 x15 x16) = some (.nx (lG S x1 W st R O WS now more O2 K x11 (some (rgD X, false)) (some (rgD (X.map (phi more)), true)) x14 x15 x16)) := by
  have ec := comp_genW (fs := fsL) (own := [18, 19]) (tg := .tp [.nm 18, .nm 19]) (ik := .seq) (its := [.var 12]) (cs := []) (elt := .tup [.bin .add (.bin .mul (.bin .sub (.var 18) (.cst (.int 1))) (.var 8)) (.cst (.int 1)), .bin .mul (.var 19) (.var 8)]) (ds := X.reverse.map prD)
    (Γ0 := lG S x1 W st R O WS now more O2 K x11 (some (rgD X, false)) x13 x14 x15 x16) (Γ := lG S x1 W st R O WS now more O2 K x11 (some (rgD X, false)) x13 x14 x15 x16) (Γw := lG S x1 W st R O WS now more O2 K x11 (some (rgD X, false)) x13 x14 x15 x16) (fun _ => true) (phiD more)
    (by
      unfold rgD
      generalize X.reverse.map prD = T at *
      simp [DV.SC, DV.SE, DV.SX]) rfl rfl rfl (by decide) (by simp; omega) (fun d hd => by
      obtain ⟨⟨a, b⟩, hm, rfl⟩ := List.mem_map.mp hd
      have hb := hB _ (List.mem_reverse.mp hm)
      simp only at hb
      refine ⟨[some (S, false), x1, some (W, true), some (.int st, false), some (R, false), some (O, false), some (.lst WS, false), some (.int now, false), some (.int more, false), some (O2, false), some (.int K, false), x11, some (rgD X, false), x13, x14, x15, x16, none, some (.int a, false), some (.int b, false), none], ?_, ?_, rfl, rfl, fun _ => ⟨.fz (phiD more (prD (a, b))), ?_, rfl⟩⟩
      · generalize rgD X = T at *
        simp [DV.SC, DV.SE, DV.SX, prD]
      · simp [DV.SC, DV.SE, DV.SX]
      · have bb := BB_big
        have q1 : mulOk (a - 1) more = true := mulOk_l (by omega) (by omega)
        have q2 : mulOk b more = true := mulOk_l (by omega) (by omega)
        generalize rgD X = T at *
        simp [DV.SC, DV.SE, DV.SX, prD, phiD, q1, q2, sizeLine])
  have el : ((X.reverse.map prD).filter (fun _ => true)).map (phiD more) = (X.map (phi more)).reverse.map prD := by
    rw [List.filter_eq_self.mpr (fun _ _ => rfl), ← List.map_reverse, List.map_map, List.map_map]
    rfl
  rw [el] at ec
  generalize DV.E.comp _ _ _ _ _ _ = CC at ec ⊢
  unfold rgD at *
  generalize (X.map (phi more)).reverse.map prD = T at ec ⊢
  generalize X.reverse.map prD = T2 at ec ⊢
  simp [DV.SC, DV.SX, ec]
theorem rst_bd (B : Int) : ∀ (xs : List Int) (acc : List (Int × Int)), (∀ x ∈ xs, 0 ≤ x ∧ x ≤ B) → (∀ p ∈ acc, (0 ≤ p.1 ∧ p.1 ≤ B) ∧ (0 ≤ p.2 ∧ p.2 ≤ B)) → ∀ p ∈ xs.foldl rst acc, (0 ≤ p.1 ∧ p.1 ≤ B) ∧ (0 ≤ p.2 ∧ p.2 ≤ B)
  | [], acc, _, h => h
  | x :: xs, acc, hx, h => by
    rw [List.foldl_cons]
    refine rst_bd B xs _ (fun y m => hx y (List.mem_cons_of_mem _ m)) ?_
    have x0 := hx x List.mem_cons_self
    cases acc with
    | nil =>
      intro p m
      simp only [rst, List.mem_singleton] at m
      subst m
      exact ⟨x0, x0⟩
    | cons q t =>
      obtain ⟨f, l⟩ := q
      have q0 := h _ List.mem_cons_self
      simp only at q0
      intro p m
      simp only [rst] at m
      split at m
      · rcases List.mem_cons.mp m with rfl | m
        · exact ⟨q0.1, x0⟩
        · exact h p (List.mem_cons_of_mem _ m)
      · rcases List.mem_cons.mp m with rfl | m
        · exact ⟨x0, x0⟩
        · exact h p m
theorem rst_lenL : ∀ (xs : List Int) (acc : List (Int × Int)), (xs.foldl rst acc).length ≤ acc.length + xs.length
  | [], acc => by simp
  | x :: xs, acc => by
    rw [List.foldl_cons, List.length_cons]
    have a := rst_len acc x
    have b := rst_lenL xs (rst acc x)
    omega
theorem tr_turn (S : D) (x1 : Sl) (W : D) (st : Int) (R O : D) (r : List Sp) (now more : Int) (O2 : D) (k : Nat) (x12 x13 x14 x16 : Sl) (ok : okR r st 0) (hl : r.length ≤ 5) (s : Sp) (hs : r[k]? = some s) (F : Int → Int) (U : Nat)
    (hF : ∀ x : Int, 1 ≤ x → perE st (r.take k ++ [⟨s.f, x, s.c⟩] ++ r.drop (k + 1)) = F (ru x U)) : ∀ (n : Nat) (lo : Int) (T : List (Int × Int)) (x15 : Option D), 1 ≤ lo → lo + (n : Int) ≤ 2000 → T.length + n ≤ 5000 →
    ∃ y15, forLoop (.nm 15) (exs fsL [] B_law_1) (rngD lo 1 n) (lG S x1 W st R O ((r.map (·.w)).map D.int) now more O2 k (some (.lst (T.map prD), true)) x12 x13 x14 (plS x15) x16) = some (.nx (lG S x1 W st R O ((r.map (·.w)).map D.int) now more O2 k (some (.lst ((T ++ trL F U (upL lo n)).map prD), true)) x12 x13 x14 (plS y15) x16))
  | 0, lo, T, x15, _, _, _ => ⟨x15, by simp [rngD, forLoop, trL, upL]⟩
  | n + 1, lo, T, x15, h1, h2, hz => by
    have hk : k < r.length := (List.getElem?_eq_some_iff.mp hs).1
    obtain ⟨y15, ih⟩ := tr_turn S x1 W st R O r now more O2 k x12 x13 x14 x16 ok hl s hs F U hF n (lo + 1) (T ++ [(F (ru lo U), lo)]) (some (.int lo)) (by omega) (by omega) (by simp; omega)
    refine ⟨y15, ?_⟩
    have e1 : (T ++ [(F (ru lo U), lo)]) ++ trL F U (upL (lo + 1) n) = T ++ trL F U (upL lo (n + 1)) := by
      have : upL lo (n + 1) = lo :: upL (lo + 1) n := by
        unfold upL
        rw [List.range_succ_eq_map, List.map_cons, List.map_map]
        congr 1
        · simp
        · refine List.map_congr_left fun j _ => ?_
          simp only [Function.comp_apply]
          omega
      rw [this]
      simp [trL]
    rw [rngD, ← e1, ← ih]
    have ee := elt1_ok S x1 W st R O r now more O2 k (some (.lst (T.map prD), true)) x12 x13 x14 x16 lo (F (ru lo U)) s ok hl hk h1 (by omega) (hF _ h1)
    refine forLoop_step (Γ1 := lG S x1 W st R O ((r.map (·.w)).map D.int) now more O2 k (some (.lst (T.map prD), true)) x12 x13 x14 (some (.int lo, false)) x16) ?_ ?_
    · cases x15 <;> simp [DV.SC, DV.SE, DV.SX]
    · have hz2 : (T.map prD).length < 16777216 := by simp; omega
      rw [List.map_append, List.map_cons, List.map_nil]
      generalize T.map prD = TT at *
      generalize (r.map (·.w)).map D.int = WS at *
      generalize prD (F (ru lo U), lo) = P at *
      unfold B_law_1
      unfold elt1 at ee
      generalize DV.E.tup _ = CC at ee ⊢
      simp [DV.SC, DV.SX, ee, hz2, sizeLine, plS]

/-! ### the law's steps for one breaker, put together -/
theorem st2 (S : D) (x1 : Sl) (W : D) (st : Int) (R O : D) (WS : List D) (now more : Int) (O2 : D) (K : Int) (x11 x13 x14 x15 x16 : Sl) (XD : D) (e : F_harmful_lowerings [some (O, false), some (.int K, false)] = some (.nw XD, [some (O, false), some (.int K, false)])) (cn : cmpD .ne XD XD = some false) :
    ex fsL [] (.ite (.or (.cmp .ne (.call 8 [.var 5, .var 10]) (.var 12)) (.cmp .ne (.callp 8 [1, 0] [.var 10, .var 5]) (.var 12))) [.ret (.cst (.bl false))] []) (lG S x1 W st R O WS now more O2 K x11 (some (XD, false)) x13 x14 x15 x16) = some (.nx (lG S x1 W st R O WS now more O2 K x11 (some (XD, false)) x13 x14 x15 x16)) := by
  simp [DV.SC, DV.SX, e, cn]
theorem st4 (S : D) (x1 : Sl) (W : D) (st : Int) (R O : D) (WS : List D) (now more : Int) (O2 : D) (K : Int) (x11 x12 x14 x15 x16 : Sl) (XD : D) (e : F_harmful_lowerings [some (O2, false), some (.int K, false)] = some (.nw XD, [some (O2, false), some (.int K, false)])) (cn : cmpD .ne XD XD = some false) :
    ex fsL [] (.ite (.cmp .ne (.call 8 [.var 9, .var 10]) (.var 13)) [.ret (.cst (.bl false))] []) (lG S x1 W st R O WS now more O2 K x11 x12 (some (XD, true)) x14 x15 x16) = some (.nx (lG S x1 W st R O WS now more O2 K x11 x12 (some (XD, true)) x14 x15 x16)) := by
  simp [DV.SC, DV.SX, e, cn]
theorem st5 (S : D) (x1 : Sl) (W1 W2 W3 : D) (st : Int) (R O : D) (WS : List D) (now more : Int) (O2 : D) (K : Int) (x11 x12 x13 x14 x15 x16 : Sl) (w d r1 : Int) (ia : atI WS K = some (.int w))
    (e1 : F__law_one [some (W1, true), some (.lst [.int 60, .int 60, .int 400], true)] = some (.fz (.int d), [some (W2, true), some (.lst [.int 60, .int 60, .int 400], true)])) (e2 : F__law_next [some (W2, true), some (.int d, false)] = some (.fz (.int r1), [some (W3, true), some (.int d, false)])) :
    ex fsL [] (.asg (.nm 14) (.bin .add (.ix (.var 6) (.var 10)) (.call 2 [.var 2, .call 3 [.var 2, .lst [.cst (.int 60), .cst (.int 60), .cst (.int 400)]]]))) (lG S x1 W1 st R O WS now more O2 K x11 x12 x13 x14 x15 x16) = some (.nx (lG S x1 W3 st R O WS now more O2 K x11 x12 x13 (some (.int (w + r1), false)) x15 x16)) := by
  simp [DV.SC, DV.SE, DV.SX, ia, e1, e2, sizeLine]
theorem pairs_pr : ∀ T : List (Int × Int), pairsD (T.map prD) = some T
  | [] => rfl
  | p :: T => by
    rw [List.map_cons]
    simp only [prD, pairsD]
    rw [pairs_pr T]
    rfl
theorem st8 (S : D) (x1 : Sl) (W : D) (st : Int) (R O : D) (WS : List D) (now more : Int) (O2 : D) (K : Int) (x12 x13 x14 x15 x16 : Sl) (T : List (Int × Int)) (b : Int × Int) (e : minP T = some b) :
    ex fsL [] (.asgO 16 (.bi .minp [.var 11])) (lG S x1 W st R O WS now more O2 K (some (.lst (T.map prD), true)) x12 x13 x14 x15 x16) = some (.nx (lG S x1 W st R O WS now more O2 K (some (.lst (T.map prD), true)) x12 x13 x14 x15 (some (prD b, false)))) := by
  have p := pairs_pr T
  generalize T.map prD = TT at *
  have q : biD .minp [.lst TT] = some (.fz (prD b)) := by
    rw [DV.biD.eq_21, p, Option.bind_some, e]
    rfl
  simp [DV.SC, DV.SE, DV.SX, q]
theorem st9 (S : D) (x1 : Sl) (W : D) (st : Int) (R O : D) (WS : List D) (now more : Int) (O2 : D) (K : Int) (x11 x12 x13 x15 : Sl) (high : Int) (BD : D) (e : F_best_raise [some (O, false), some (.int K, false), some (.int high, false)] = some (.fz BD, [some (O, false), some (.int K, false), some (.int high, false)])) (cn : cmpD .ne BD BD = some false) :
    ex fsL [] (.ite (.or (.cmp .ne (.call 9 [.var 5, .var 10, .var 14]) (.var 16)) (.cmp .ne (.callp 9 [2, 1, 0] [.var 14, .var 10, .var 5]) (.var 16))) [.ret (.cst (.bl false))] []) (lG S x1 W st R O WS now more O2 K x11 x12 x13 (some (.int high, false)) x15 (some (BD, false))) = some (.nx (lG S x1 W st R O WS now more O2 K x11 x12 x13 (some (.int high, false)) x15 (some (BD, false)))) := by
  simp [DV.SC, DV.SX, e, cn]
theorem st10 (S : D) (x1 : Sl) (W : D) (st : Int) (R O : D) (WS : List D) (now more : Int) (O2 : D) (K : Int) (x11 x12 x13 x15 : Sl) (high : Int) (b b2 : Int × Int) (e : F_best_raise [some (O2, false), some (.int K, false), some (.int (high * more), false)] = some (.fz (prD b2), [some (O2, false), some (.int K, false), some (.int (high * more), false)])) (he : b2.1 = b.1 * more)
    (m1 : mulOk high more = true) (m2 : mulOk b.1 more = true) :
    ex fsL [] (.ite (.cmp .ne (.ix (.call 9 [.var 9, .var 10, .bin .mul (.var 14) (.var 8)]) (.cst (.int 0))) (.bin .mul (.ix (.var 16) (.cst (.int 0))) (.var 8))) [.ret (.cst (.bl false))] []) (lG S x1 W st R O WS now more O2 K x11 x12 x13 (some (.int high, false)) x15 (some (prD b, false))) = some (.nx (lG S x1 W st R O WS now more O2 K x11 x12 x13 (some (.int high, false)) x15 (some (prD b, false)))) := by
  have i0 : ∀ p : Int × Int, ixD (prD p) (.int 0) = some (.int p.1) := fun p => rfl
  have cn : cmpD .ne (.int (b.1 * more)) (.int (b.1 * more)) = some false := cmp_ne_self rfl
  have j0 := i0 b2
  rw [he] at j0
  have k0 := i0 b
  generalize b.1 = b1 at *
  generalize prD b2 = P2 at *
  generalize prD b = P1 at *
  have a1 : ev fsL (.ix (.call 9 [.var 9, .var 10, .bin .mul (.var 14) (.var 8)]) (.cst (.int 0))) (lG S x1 W st R O WS now more O2 K x11 x12 x13 (some (.int high, false)) x15 (some (P1, false))) = some (.fz (.int (b1 * more)), lG S x1 W st R O WS now more O2 K x11 x12 x13 (some (.int high, false)) x15 (some (P1, false))) := by
    have c : ev fsL (.call 9 [.var 9, .var 10, .bin .mul (.var 14) (.var 8)]) (lG S x1 W st R O WS now more O2 K x11 x12 x13 (some (.int high, false)) x15 (some (P1, false))) = some (.fz P2, lG S x1 W st R O WS now more O2 K x11 x12 x13 (some (.int high, false)) x15 (some (P1, false))) := by
      simp [DV.SC, DV.SX, e, m1]
    generalize DV.E.call _ _ = CC at c ⊢
    simp only [DV.ev.eq_14, c, Option.bind_some, DV.ev.eq_3, DV.datum.eq_1, j0, Option.map_some]
  have a2 : ev fsL (.bin .mul (.ix (.var 16) (.cst (.int 0))) (.var 8)) (lG S x1 W st R O WS now more O2 K x11 x12 x13 (some (.int high, false)) x15 (some (P1, false))) = some (.fz (.int (b1 * more)), lG S x1 W st R O WS now more O2 K x11 x12 x13 (some (.int high, false)) x15 (some (P1, false))) := by
    have c : ev fsL (.ix (.var 16) (.cst (.int 0))) (lG S x1 W st R O WS now more O2 K x11 x12 x13 (some (.int high, false)) x15 (some (P1, false))) = some (.fz (.int b1), lG S x1 W st R O WS now more O2 K x11 x12 x13 (some (.int high, false)) x15 (some (P1, false))) := by
      rw [DV.ev.eq_14, DV.ev.eq_2]
      simp [DV.datum.eq_3, k0, DV.ev.eq_3, DV.datum.eq_1]
    generalize DV.E.ix _ _ = CC at c ⊢
    simp [DV.SC, DV.SX, c, m2]
  have a3 := ev_cmp (o := .ne) a1 a2 rfl rfl cn
  generalize DV.E.cmp _ _ _ = CC at a3 ⊢
  simp [DV.SC, DV.SX, a3]
theorem st11 (S : D) (x1 : Sl) (W : D) (st : Int) (R O : D) (WS : List D) (now more : Int) (O2 : D) (K : Int) (x11 x12 x13 x14 x15 x16 : Sl) (X : List D) (e : F_harmful_lowerings [some (O, false), some (.int K, false)] = some (.nw (.lst X), [some (O, false), some (.int K, false)])) (hX : X.length < 16777216) :
    ex fsL [] (.xapp (.call 8 [.var 5, .var 10]) .non) (lG S x1 W st R O WS now more O2 K x11 x12 x13 x14 x15 x16) = some (.nx (lG S x1 W st R O WS now more O2 K x11 x12 x13 x14 x15 x16)) := by
  simp [DV.SC, DV.SX, e, hX, sizeLine]
theorem st12 (S : D) (x1 : Sl) (W : D) (st : Int) (R O : D) (WS : List D) (now more : Int) (O2 : D) (K : Int) (x11 x13 x14 x15 x16 : Sl) (XD : D) (e : F_harmful_lowerings [some (O, false), some (.int K, false)] = some (.nw XD, [some (O, false), some (.int K, false)])) (cn : cmpD .ne XD XD = some false) :
    ex fsL [] (.ite (.cmp .ne (.call 8 [.var 5, .var 10]) (.var 12)) [.ret (.cst (.bl false))] []) (lG S x1 W st R O WS now more O2 K x11 (some (XD, false)) x13 x14 x15 x16) = some (.nx (lG S x1 W st R O WS now more O2 K x11 (some (XD, false)) x13 x14 x15 x16)) := by
  simp [DV.SC, DV.SX, e, cn]

/-! ### k40: the law -/
theorem turn (S : D) (x1 : Sl) (a : Int) {c kk : Int} {N : Nat} (w : Wl c kk (N + 2)) (r : List Sp) (st more : Int) (k : Nat) (s : Sp) (B : Brk r st more k s) (hl : r.length ≤ 5) (x11 x12 x13 x14 x16 : Sl) (o15 : Option D) :
    ∃ (a' k' : Int) (y11 y12 y13 y14 y16 : Sl) (p15 : Option D), exs fsL [] B_law_2 (lG S x1 (wl a c kk) st (spD r) (RO r st 0) ((r.map (·.w)).map D.int) (perE st r) more (RO (mulR more r) (st * more) 0) k x11 x12 x13 x14 (plS o15) x16) = some (.nx (lG S x1 (wl a' c k') st (spD r) (RO r st 0) ((r.map (·.w)).map D.int) (perE st r) more (RO (mulR more r) (st * more) 0) k y11 y12 y13 y14 (plS p15) y16)) ∧ Wl c k' N := by
  have bb := BB_big
  have ok := B.ok
  have hs := B.at_
  have w1 := B.w1
  have w0 := (ok.sp s (List.mem_of_getElem? hs)).w0
  have m0 := B.m0
  have m1 := B.m1
  obtain ⟨d, r1, a1, k1, a2, k2, e1, e2, p0, p1, v⟩ := pick1_ok a (N := N) w [60, 60, 400] 400 (by simp) (by simp) (by simp) (by omega)
  simp only [List.map_cons, List.map_nil] at e1
  obtain ⟨F, U, X, b, b2, hF, hU, h1, h2, hX, g1, g2, hb, hm, b0, bp⟩ := brk_facts B (s.w + r1) (by omega) (by omega)
  have ia : atI ((r.map (·.w)).map D.int) (k : Int) = some (.int s.w) := atI_nat (by rw [List.getElem?_map, List.getElem?_map, hs]; rfl)
  have pb := (perE_pos ok.sp ok.p0).2.2.2.2
  have st1' := B.st1
  have hbm : mulOk b.1 more = true := by
    have kl : (r.length : Int) ≤ 5 := by omega
    exact mul_bb (by omega) (by omega) (by omega) (by omega)
  have hhm : mulOk (s.w + r1) more = true := mulOk_l (by omega) (by omega)
  -- the tried waits
  have hlw : (trL F U (upL 1 (s.w - 1).toNat)).length ≤ 300 := by
    unfold trL upL
    rw [List.length_map, List.length_map, List.length_range]
    omega
  have exX : ((trL F U (upL 1 (s.w - 1).toNat)).filter fun p => decide (perE st r < p.1)).map (·.2) = (upL 1 (s.w - 1).toNat).filter fun x => decide (perE st r < F (ru x U)) := by
    unfold trL
    generalize upL 1 (s.w - 1).toNat = l
    induction l with
    | nil => rfl
    | cons x l ih =>
      rw [List.map_cons, List.filter_cons, List.filter_cons]
      simp only
      split
      · rw [List.map_cons, ih]
      · exact ih
  have lX : X.length ≤ 300 := by
    have q := rst_lenL ((upL 1 (s.w - 1).toNat).filter fun x => decide (perE st r < F (ru x U))) []
    have q2 := List.length_filter_le (fun x => decide (perE st r < F (ru x U))) (upL 1 (s.w - 1).toNat)
    rw [hX] at q
    unfold upL at q q2
    rw [List.length_map, List.length_range] at q2
    simp only [List.length_nil] at q
    omega
  have bX : ∀ p ∈ X, (0 ≤ p.1 ∧ p.1 ≤ 1000) ∧ (0 ≤ p.2 ∧ p.2 ≤ 1000) := by
    rw [← hX]
    refine rst_bd 1000 _ _ (fun x m => ?_) (fun _ m => nomatch m)
    have m := (List.mem_filter.mp m).1
    unfold upL at m
    obtain ⟨i, hi, rfl⟩ := List.mem_map.mp m
    have := List.mem_range.mp hi
    omega
  have cX := cmp_ne_self (okB_rg X)
  have cX2 := cmp_ne_self (okB_rg (X.map (phi more)))
  have cb := cmp_ne_self (okB_pr 11 b)
  have t0 := st0 S x1 (wl a c kk) st (spD r) (RO r st 0) r (perE st r) more (RO (mulR more r) (st * more) 0) k x11 x12 x13 x14 x16 o15 s ok hl hs w1 F U hF
  have t1 := st1 S x1 (wl a c kk) st (spD r) (RO r st 0) ((r.map (·.w)).map D.int) (perE st r) more (RO (mulR more r) (st * more) 0) k x12 x13 x14 x16 o15 (trL F U (upL 1 (s.w - 1).toNat)) (by omega)
  rw [exX, hX] at t1
  have t2 := fun x11 x13 x14 x15 x16 => st2 S x1 (wl a c kk) st (spD r) (RO r st 0) ((r.map (·.w)).map D.int) (perE st r) more (RO (mulR more r) (st * more) 0) k x11 x13 x14 x15 x16 (rgD X) h1 cX
  have t3 := fun x11 x13 x14 x15 x16 => st3 S x1 (wl a c kk) st (spD r) (RO r st 0) ((r.map (·.w)).map D.int) (perE st r) more m0 m1 (RO (mulR more r) (st * more) 0) k x11 x13 x14 x15 x16 X (by omega) bX
  have t4 := fun x11 x12 x14 x15 x16 => st4 S x1 (wl a c kk) st (spD r) (RO r st 0) ((r.map (·.w)).map D.int) (perE st r) more (RO (mulR more r) (st * more) 0) k x11 x12 x14 x15 x16 (rgD (X.map (phi more))) h2 cX2
  have t5 := fun x11 x12 x13 x14 x15 x16 => st5 S x1 (wl a c kk) (wl a1 c k1) (wl a2 c k2) st (spD r) (RO r st 0) ((r.map (·.w)).map D.int) (perE st r) more (RO (mulR more r) (st * more) 0) k x11 x12 x13 x14 x15 x16 s.w d r1 ia e1 e2
  obtain ⟨p15, t7⟩ := tr_turn S x1 (wl a2 c k2) st (spD r) (RO r st 0) r (perE st r) more (RO (mulR more r) (st * more) 0) k (some (rgD X, false)) (some (rgD (X.map (phi more)), true)) (some (.int (s.w + r1), false)) x16 ok hl s hs F U hF (s.w + r1 + 1 - s.w).toNat s.w [] o15 w0 (by omega) (by simp; omega)
  have t8 := fun x12 x13 x14 x15 x16 => st8 S x1 (wl a2 c k2) st (spD r) (RO r st 0) ((r.map (·.w)).map D.int) (perE st r) more (RO (mulR more r) (st * more) 0) k x12 x13 x14 x15 x16 (trL F U (upL s.w (s.w + r1 + 1 - s.w).toNat)) b hm
  have t9 := fun x11 x12 x13 x15 => st9 S x1 (wl a2 c k2) st (spD r) (RO r st 0) ((r.map (·.w)).map D.int) (perE st r) more (RO (mulR more r) (st * more) 0) k x11 x12 x13 x15 (s.w + r1) (prD b) g1 cb
  have t10 := fun x11 x12 x13 x15 => st10 S x1 (wl a2 c k2) st (spD r) (RO r st 0) ((r.map (·.w)).map D.int) (perE st r) more (RO (mulR more r) (st * more) 0) k x11 x12 x13 x15 (s.w + r1) b b2 g2 hb hhm hbm
  have t11 := fun x11 x12 x13 x14 x15 x16 => st11 S x1 (wl a2 c k2) st (spD r) (RO r st 0) ((r.map (·.w)).map D.int) (perE st r) more (RO (mulR more r) (st * more) 0) k x11 x12 x13 x14 x15 x16 (X.reverse.map prD) h1 (by simp; omega)
  have t12 := fun x11 x13 x14 x15 x16 => st12 S x1 (wl a2 c k2) st (spD r) (RO r st 0) ((r.map (·.w)).map D.int) (perE st r) more (RO (mulR more r) (st * more) 0) k x11 x13 x14 x15 x16 (rgD X) h1 cX
  have hr := fun Γ => rngO2 Γ s.w (s.w + r1 + 1) (in62_int (by omega) (by omega)) (in62_int (by omega) (by omega))
  refine ⟨a2, k2, some (.lst ((trL F U (upL s.w (s.w + r1 + 1 - s.w).toNat)).map prD), true), some (rgD X, false), some (rgD (X.map (phi more)), true), some (.int (s.w + r1), false), some (prD b, false), p15, ?_, v⟩
  rw [List.nil_append, List.map_nil] at t7
  clear hF hX exX bX hm hlw g1 g2 h1 h2 hb
  generalize spD r = R at *
  generalize RO r st 0 = O at *
  generalize RO (mulR more r) (st * more) 0 = O2 at *
  generalize (r.map (·.w)).map D.int = WS at *
  generalize (trL F U (upL 1 (s.w - 1).toNat)).map prD = T1 at *
  generalize hT2 : (trL F U (upL s.w (s.w + r1 + 1 - s.w).toNat)).map prD = T2 at *
  generalize rgD X = XD at *
  generalize rgD (X.map (phi more)) = XD2 at *
  unfold B_law_2
  refine (exs_nx t0).trans ?_
  refine (exs_nx t1).trans ?_
  refine (exs_nx (t2 _ _ _ _ _)).trans ?_
  refine (exs_nx (t3 _ _ _ _ _)).trans ?_
  refine (exs_nx (t4 _ _ _ _ _)).trans ?_
  refine (exs_nx (t5 _ _ _ _ _ _)).trans ?_
  refine (exs_nx (Γ1 := lG S x1 (wl a2 c k2) st R O WS (perE st r) more O2 k (some (.lst [], true)) (some (XD, false)) (some (XD2, true)) (some (.int (s.w + r1), false)) (plS o15) x16) (by simp [DV.SC, DV.SE, DV.SX])).trans ?_
  refine (exs_nx (ex_for (Γ2 := lG S x1 (wl a2 c k2) st R O WS (perE st r) more O2 k (some (.lst [], true)) (some (XD, false)) (some (XD2, true)) (some (.int (s.w + r1), false)) (plS o15) x16) (ds := rngD s.w 1 (s.w + r1 + 1 - s.w).toNat) (by simp [DV.SC, DV.SE, DV.SX, ia, hr]) (by simp [DV.SC, DV.SE, DV.SX]) t7)).trans ?_
  refine (exs_nx (t8 _ _ _ _ _)).trans ?_
  refine (exs_nx (t9 _ _ _ _)).trans ?_
  refine (exs_nx (t10 _ _ _ _)).trans ?_
  refine (exs_nx (t11 _ _ _ _ _ _)).trans ?_
  refine (exs_nx (t12 _ _ _ _ _)).trans ?_
  simp only [DV.exs.eq_1]

abbrev cG (S : D) (x1 x2 x3 x4 x5 x6 x7 x8 x9 x10 x11 x12 x13 x14 x15 x16 : Sl) : Ct := [some (S, false), x1, x2, x3, x4, x5, x6, x7, x8, x9, x10, x11, x12, x13, x14, x15, x16, none, none, none, none]
theorem kloop (S : D) (x1 : Sl) (c : Int) (r : List Sp) (st more : Int) (ok : okR r st 0) (okm : okR (mulR more r) (st * more) 0) (hw : ∀ s ∈ r, s.w ≤ 300) (s3 : st ≤ 3) (m0 : 1 ≤ more) (m1 : more ≤ 100000000000000000000000000) (hl : r.length ≤ 5) : ∀ (n k0 : Nat) (N : Nat) (a kk : Int) (x10 x11 x12 x13 x14 x16 : Sl) (o15 : Option D),
    k0 + n ≤ r.length → Wl c kk (N + 2 * n) → ∃ (a' k' : Int) (y10 y11 y12 y13 y14 y16 : Sl) (p15 : Option D), forLoop (.nm 10) (exs fsL [] B_law_2) (rngD (k0 : Int) 1 n) (cG S x1 (some (wl a c kk, true)) (some (.int st, false)) (some (spD r, false)) (some (RO r st 0, false)) (some (.lst ((r.map (·.w)).map D.int), false)) (some (.int (perE st r), false)) (some (.int more, false)) (some (RO (mulR more r) (st * more) 0, false)) x10 x11 x12 x13 x14 (plS o15) x16) =
      some (.nx (cG S x1 (some (wl a' c k', true)) (some (.int st, false)) (some (spD r, false)) (some (RO r st 0, false)) (some (.lst ((r.map (·.w)).map D.int), false)) (some (.int (perE st r), false)) (some (.int more, false)) (some (RO (mulR more r) (st * more) 0, false)) y10 y11 y12 y13 y14 (plS p15) y16)) ∧ Wl c k' N
  | 0, k0, N, a, kk, x10, x11, x12, x13, x14, x16, o15, _, w => ⟨a, kk, x10, x11, x12, x13, x14, x16, o15, by simp [rngD, forLoop], w⟩
  | n + 1, k0, N, a, kk, x10, x11, x12, x13, x14, x16, o15, hk, w => by
    obtain ⟨s, hs⟩ : ∃ s, r[k0]? = some s := ⟨r[k0]'(by omega), List.getElem?_eq_getElem (by omega)⟩
    obtain ⟨a1, k1, y11, y12, y13, y14, y16, p15, e1, v1⟩ := turn S x1 a (N := N + 2 * n) (by rw [show N + 2 * n + 2 = N + 2 * (n + 1) by omega]; exact w) r st more k0 s ⟨ok, okm, hs, hw s (List.mem_of_getElem? hs), s3, m0, m1⟩ hl x11 x12 x13 x14 x16 o15
    obtain ⟨a2, k2, z10, z11, z12, z13, z14, z16, q15, e2, v2⟩ := kloop S x1 c r st more ok okm hw s3 m0 m1 hl n (k0 + 1) N a1 k1 (some (.int (k0 : Int), false)) y11 y12 y13 y14 y16 p15 (by omega) v1
    refine ⟨a2, k2, z10, z11, z12, z13, z14, z16, q15, ?_, v2⟩
    rw [rngD, show (k0 : Int) + 1 = ((k0 + 1 : Nat) : Int) by omega, ← e2]
    refine forLoop_step (Γ1 := cG S x1 (some (wl a c kk, true)) (some (.int st, false)) (some (spD r, false)) (some (RO r st 0, false)) (some (.lst ((r.map (·.w)).map D.int), false)) (some (.int (perE st r), false)) (some (.int more, false)) (some (RO (mulR more r) (st * more) 0, false)) (some (.int (k0 : Int), false)) x11 x12 x13 x14 (plS o15) x16) ?_ e1
    generalize spD r = R
    generalize RO r st 0 = O
    generalize RO (mulR more r) (st * more) 0 = O2
    generalize (r.map (·.w)).map D.int = WS
    simp [DV.SC, DV.SE, DV.SX]
def wOf : D → D
  | .tup [_, w, _] => w
  | d => d
def mulD (k : Int) : D → D
  | .tup [f, .int w, c] => .tup [f, .int (w * k), c]
  | d => d
theorem cell_ok (S : D) (cell : Int) (x2 x3 x4 x5 x6 x7 x8 x9 x10 x11 x12 x13 x14 x16 : Sl) (o15 : Option D) :
    ∃ (y2 y3 y4 y5 y6 y7 y8 y9 y10 y11 y12 y13 y14 y16 : Sl) (p15 : Option D), exs fsL [] B_law_3 (cG S (some (.int cell, false)) x2 x3 x4 x5 x6 x7 x8 x9 x10 x11 x12 x13 x14 (plS o15) x16) = some (.nx (cG S (some (.int cell, false)) y2 y3 y4 y5 y6 y7 y8 y9 y10 y11 y12 y13 y14 (plS p15) y16)) := by
  have bb := BB_big
  obtain ⟨a, c, e0, c0, c1⟩ := source_ok cell
  obtain ⟨r1, a1, k1, e1, q0, q1, v1⟩ := next_ok a (c := c) (k := 0) (N := 80) ⟨c0, c1, by decide, by decide⟩ (m := 3) (by decide) (by omega)
  obtain ⟨d2, a2, k2, e2, m2, v2⟩ := one_ok a1 (N := 79) v1 ([40, 40, 40, 300].map D.int) true (by simp) (by simp)
  obtain ⟨wd, mw, rfl⟩ := List.mem_map.mp m2
  have wb : 0 < wd ∧ wd ≤ 300 := by simp at mw; rcases mw with rfl | rfl <;> decide
  obtain ⟨r, a3, k3, e3, v3, hl, hr⟩ := specs_ok a2 (N := 40) 5 wd 3 (v2.le (by omega)) wb.1 (by omega) (by decide) (by decide) (by decide)
  obtain ⟨r4, a4, k4, e4, u0, u1, v4⟩ := next_ok a3 (N := 39) v3 (m := 100000000000000000000000000) (by decide) (by omega)
  simp only [List.map_cons, List.map_nil] at e2
  have e3 : F__law_specs [some (wl a2 c k2, true), some (.int 5, false), some (.int wd, false), some (.int 3, false)] = some (.nw (spD r), [some (wl a3 c k3, true), some (.int 5, false), some (.int wd, false), some (.int 3, false)]) := e3
  have w3 : ∀ s ∈ r, s.w ≤ 300 := fun s m => by have := (hr s m).2.1; omega
  have ok : okR r (1 + r1) 0 := ⟨fun s m => (hr s m).1, by omega, by omega, by omega, by decide, by decide⟩
  generalize hst : 1 + r1 = st at *
  generalize hmo : 1 + r4 = more at *
  have okm : okR (mulR more r) (st * more) 0 := by
    refine ⟨fun s m => ?_, by unfold mulR; rw [List.length_map]; omega, ?_, ?_, by decide, by decide⟩
    · unfold mulR at m
      obtain ⟨u, hu, rfl⟩ := List.mem_map.mp m
      have o := (hr u hu).1
      have x := w3 u hu
      have g1 := Int.mul_le_mul_of_nonneg_right o.w0 (show 0 ≤ more by omega)
      have g2 := Int.mul_le_mul_of_nonneg_right x (show 0 ≤ more by omega)
      exact ⟨o.f0, o.f1, by show 1 ≤ u.w * more; omega, by show u.w * more ≤ _; omega, o.c0, o.c1⟩
    · have := Int.mul_le_mul_of_nonneg_right ok.p0 (show 0 ≤ more by omega)
      omega
    · have := Int.mul_le_mul_of_nonneg_right (show st ≤ 3 by omega) (show 0 ≤ more by omega)
      omega
  have ro := row_ok ok false
  have rm := row_ok okm true
  have lp := lp_ok (r.map (·.w)) st ok.p0 (by omega) (by rw [List.length_map]; omega) (fun w m => by
    obtain ⟨u, hu, rfl⟩ := List.mem_map.mp m
    exact ⟨(hr u hu).1.w0, (hr u hu).1.w1⟩) false
  rw [perW_E] at lp
  have m1 : mulOk st more = true := mulOk_l (by omega) (by omega)
  obtain ⟨a5, k5, y10, y11, y12, y13, y14, y16, p15, e5, v5⟩ := kloop S (some (.int cell, false)) c r st more ok okm w3 (by omega) (by omega) (by omega) hl r.length 0 29 a4 k4 x10 x11 x12 x13 x14 x16 o15 (by omega) (v4.le (by omega))
  refine ⟨some (wl a5 c k5, true), some (.int st, false), some (spD r, false), some (RO r st 0, false), some (.lst ((r.map (·.w)).map D.int), false), some (.int (perE st r), false), some (.int more, false), some (RO (mulR more r) (st * more) 0, false), y10, y11, y12, y13, y14, y16, p15, ?_⟩
  have p26 : (10 : Int) ^ 26 = 100000000000000000000000000 := rfl
  have ec1 : ev fsL (.comp [17] (.nm 17) .seq [.var 4] [] (.ix (.var 17) (.cst (.int 1)))) (cG S (some (.int cell, false)) (some (wl a3 c k3, true)) (some (.int st, false)) (some (spD r, false)) (some (RO r st 0, false)) x6 x7 x8 x9 x10 x11 x12 x13 x14 (plS o15) x16) = some (.nw (.lst ((r.map sD).map wOf)), cG S (some (.int cell, false)) (some (wl a3 c k3, true)) (some (.int st, false)) (some (spD r, false)) (some (RO r st 0, false)) x6 x7 x8 x9 x10 x11 x12 x13 x14 (plS o15) x16) := by
    refine comp_mapX wOf ?_ rfl (by rw [List.length_map]; omega) ?_
    · generalize RO r st 0 = O
      unfold spD
      generalize r.map sD = R
      simp [DV.SC, DV.SE, DV.SX]
    · intro d hd
      obtain ⟨s, _, rfl⟩ := List.mem_map.mp hd
      refine ⟨.fz (wOf (sD s)), ?_, .inl rfl⟩
      have i1 : atI [D.int s.f, D.int s.w, D.int s.c] 1 = some (.int s.w) := rfl
      generalize RO r st 0 = O
      generalize spD r = R
      simp [DV.SC, DV.SE, DV.SX, sD, i1, wOf]
  have ew : (r.map sD).map wOf = (r.map (·.w)).map D.int := by rw [List.map_map, List.map_map]; rfl
  rw [ew] at ec1
  have ec2 : ∀ W x6 x7, ev fsL (.comp [17] (.nm 17) .seq [.var 4] [] (.tup [.ix (.var 17) (.cst (.int 0)), .bin .mul (.ix (.var 17) (.cst (.int 1))) (.var 8), .ix (.var 17) (.cst (.int 2))])) (cG S (some (.int cell, false)) W (some (.int st, false)) (some (spD r, false)) (some (RO r st 0, false)) x6 x7 (some (.int more, false)) x9 x10 x11 x12 x13 x14 (plS o15) x16) = some (.nw (.lst ((r.map sD).map (mulD more))), cG S (some (.int cell, false)) W (some (.int st, false)) (some (spD r, false)) (some (RO r st 0, false)) x6 x7 (some (.int more, false)) x9 x10 x11 x12 x13 x14 (plS o15) x16) := by
    intro W x6 x7
    refine comp_mapX (mulD more) ?_ rfl (by rw [List.length_map]; omega) ?_
    · generalize RO r st 0 = O
      unfold spD
      generalize r.map sD = R
      simp [DV.SC, DV.SE, DV.SX]
    · intro d hd
      obtain ⟨s, hs, rfl⟩ := List.mem_map.mp hd
      have w0 := (hr s hs).1.w0
      have w1 := w3 s hs
      refine ⟨.fz (mulD more (sD s)), ?_, .inl rfl⟩
      have i0 : atI [D.int s.f, D.int s.w, D.int s.c] 0 = some (.int s.f) := rfl
      have i1 : atI [D.int s.f, D.int s.w, D.int s.c] 1 = some (.int s.w) := rfl
      have i2 : atI [D.int s.f, D.int s.w, D.int s.c] 2 = some (.int s.c) := rfl
      have mm : mulOk s.w more = true := mulOk_l (by omega) (by omega)
      generalize RO r st 0 = O
      generalize spD r = R
      simp [DV.SC, DV.SE, DV.SX, sD, i0, i1, i2, mulD, mm, sizeLine]
  have em : (r.map sD).map (mulD more) = (mulR more r).map sD := by unfold mulR; rw [List.map_map, List.map_map]; rfl
  rw [em] at ec2
  have hn := fun Γ => rngN1 Γ r.length (by omega)
  have ln : (((r.map sD).length : Nat) : Int) = (r.length : Int) := by rw [List.length_map]
  unfold B_law_3
  refine (exs_nx (Γ1 := cG S (some (.int cell, false)) (some (wl a c 0, true)) x3 x4 x5 x6 x7 x8 x9 x10 x11 x12 x13 x14 (plS o15) x16) (by simp [DV.SC, DV.SE, DV.SX, e0])).trans ?_
  refine (exs_nx (Γ1 := cG S (some (.int cell, false)) (some (wl a1 c k1, true)) (some (.int st, false)) x4 x5 x6 x7 x8 x9 x10 x11 x12 x13 x14 (plS o15) x16) (by simp [DV.SC, DV.SE, DV.SX, e1, hst])).trans ?_
  refine (exs_nx (Γ1 := cG S (some (.int cell, false)) (some (wl a3 c k3, true)) (some (.int st, false)) (some (spD r, false)) x5 x6 x7 x8 x9 x10 x11 x12 x13 x14 (plS o15) x16) (by
    generalize spD r = R at *
    simp [DV.SC, DV.SE, DV.SX, e2, e3, sizeLine])).trans ?_
  refine (exs_nx (Γ1 := cG S (some (.int cell, false)) (some (wl a3 c k3, true)) (some (.int st, false)) (some (spD r, false)) (some (RO r st 0, false)) x6 x7 x8 x9 x10 x11 x12 x13 x14 (plS o15) x16) (by
    clear e5
    generalize spD r = R at *
    simp [DV.SC, DV.SE, DV.SX, ro])).trans ?_
  refine (exs_nx (Γ1 := cG S (some (.int cell, false)) (some (wl a3 c k3, true)) (some (.int st, false)) (some (spD r, false)) (some (RO r st 0, false)) (some (.lst ((r.map (·.w)).map D.int), false)) x7 x8 x9 x10 x11 x12 x13 x14 (plS o15) x16) (by
    generalize DV.E.comp _ _ _ _ _ _ = CC at ec1 ⊢
    generalize RO r st 0 = O at *
    generalize spD r = R at *
    generalize (r.map (·.w)).map D.int = WS at *
    simp [DV.SC, DV.SX, ec1])).trans ?_
  refine (exs_nx (Γ1 := cG S (some (.int cell, false)) (some (wl a3 c k3, true)) (some (.int st, false)) (some (spD r, false)) (some (RO r st 0, false)) (some (.lst ((r.map (·.w)).map D.int), false)) (some (.int (perE st r), false)) x8 x9 x10 x11 x12 x13 x14 (plS o15) x16) (by
    generalize RO r st 0 = O at *
    generalize spD r = R at *
    generalize (r.map (·.w)).map D.int = WS at *
    simp [DV.SC, DV.SX, lp])).trans ?_
  refine (exs_nx (Γ1 := cG S (some (.int cell, false)) (some (wl a4 c k4, true)) (some (.int st, false)) (some (spD r, false)) (some (RO r st 0, false)) (some (.lst ((r.map (·.w)).map D.int), false)) (some (.int (perE st r), false)) (some (.int more, false)) x9 x10 x11 x12 x13 x14 (plS o15) x16) (by
    generalize RO r st 0 = O at *
    generalize spD r = R at *
    generalize (r.map (·.w)).map D.int = WS at *
    simp [DV.SC, DV.SX, e4, p26, hmo])).trans ?_
  refine (exs_nx (Γ1 := cG S (some (.int cell, false)) (some (wl a4 c k4, true)) (some (.int st, false)) (some (spD r, false)) (some (RO r st 0, false)) (some (.lst ((r.map (·.w)).map D.int), false)) (some (.int (perE st r), false)) (some (.int more, false)) (some (RO (mulR more r) (st * more) 0, false)) x10 x11 x12 x13 x14 (plS o15) x16) (by
    have ec2 := ec2 (some (wl a4 c k4, true)) (some (.lst ((r.map (·.w)).map D.int), false)) (some (.int (perE st r), false))
    generalize DV.E.comp _ _ _ _ _ _ = CC at ec2 ⊢
    clear e5
    generalize RO r st 0 = O at *
    unfold spD RO at *
    generalize (mulR more r).map sD = R2 at *
    generalize r.map sD = R at *
    generalize (r.map (·.w)).map D.int = WS at *
    simp [DV.SC, DV.SX, ec2, rm, m1])).trans ?_
  refine (exs_nx (ex_for (Γ2 := cG S (some (.int cell, false)) (some (wl a4 c k4, true)) (some (.int st, false)) (some (spD r, false)) (some (RO r st 0, false)) (some (.lst ((r.map (·.w)).map D.int), false)) (some (.int (perE st r), false)) (some (.int more, false)) (some (RO (mulR more r) (st * more) 0, false)) x10 x11 x12 x13 x14 (plS o15) x16) (ds := rngD 0 1 r.length) (by
    clear e5 ec1 ec2
    generalize RO (mulR more r) (st * more) 0 = O2 at *
    generalize RO r st 0 = O at *
    unfold spD at *
    rw [← ln] at hn
    generalize r.map sD = R at *
    generalize (r.map (·.w)).map D.int = WS at *
    simp [DV.SC, DV.SX, hn]) rfl e5)).trans ?_
  simp only [DV.exs.eq_1]
theorem cells (S : D) : ∀ (cs : List Int) (x1 x2 x3 x4 x5 x6 x7 x8 x9 x10 x11 x12 x13 x14 x16 : Sl) (o15 : Option D), ∃ (y1 y2 y3 y4 y5 y6 y7 y8 y9 y10 y11 y12 y13 y14 y16 : Sl) (p15 : Option D), forLoop (.nm 1) (exs fsL [] B_law_3) (cs.map D.int) (cG S x1 x2 x3 x4 x5 x6 x7 x8 x9 x10 x11 x12 x13 x14 (plS o15) x16) = some (.nx (cG S y1 y2 y3 y4 y5 y6 y7 y8 y9 y10 y11 y12 y13 y14 (plS p15) y16))
  | [], x1, x2, x3, x4, x5, x6, x7, x8, x9, x10, x11, x12, x13, x14, x16, o15 => ⟨x1, x2, x3, x4, x5, x6, x7, x8, x9, x10, x11, x12, x13, x14, x16, o15, by simp [forLoop]⟩
  | c :: cs, x1, x2, x3, x4, x5, x6, x7, x8, x9, x10, x11, x12, x13, x14, x16, o15 => by
    obtain ⟨z2, z3, z4, z5, z6, z7, z8, z9, z10, z11, z12, z13, z14, z16, q15, e1⟩ := cell_ok S c x2 x3 x4 x5 x6 x7 x8 x9 x10 x11 x12 x13 x14 x16 o15
    obtain ⟨y1, y2, y3, y4, y5, y6, y7, y8, y9, y10, y11, y12, y13, y14, y16, p15, e2⟩ := cells S cs (some (.int c, false)) z2 z3 z4 z5 z6 z7 z8 z9 z10 z11 z12 z13 z14 z16 q15
    refine ⟨y1, y2, y3, y4, y5, y6, y7, y8, y9, y10, y11, y12, y13, y14, y16, p15, ?_⟩
    rw [List.map_cons, ← e2]
    exact forLoop_step (Γ1 := cG S (some (.int c, false)) x2 x3 x4 x5 x6 x7 x8 x9 x10 x11 x12 x13 x14 (plS o15) x16) (by simp [DV.SC, DV.SE, DV.SX]) e1
theorem cut_scr (ns : List Int) (lo hi : Nat) : ∃ cs : List Int, cutD (ns.map D.int) (some (lo : Int)) (some (hi : Int)) = cs.map D.int ∧ cs.length ≤ hi := by
  unfold cutD
  rw [HT.sIx_nat, HT.sIx_nat, ← List.map_drop, ← List.map_take]
  exact ⟨_, rfl, by rw [List.length_take]; omega⟩
theorem law_true (ns : List Int) (hl : ns.length ≤ 63) (hb : ∀ z ∈ ns, Builtin.Int.intBits z ≤ 1048576) : ∃ os, F_law [some (.scr ns, false)] = some (.fz (.bl true), os) := by
  obtain ⟨c0, e0⟩ := cell_at_ok ns
  obtain ⟨cs, e1, l1⟩ := cut_scr ns 1 5
  obtain ⟨y1, y2, y3, y4, y5, y6, y7, y8, y9, y10, y11, y12, y13, y14, y16, p15, e⟩ := cells (.scr ns) (c0 :: cs) none none none none none none none none none none none none none none none none
  refine ⟨[some (.scr ns, false)], ?_⟩
  refine runF_by (o := .rt (.fz (.bl true)) (cG (.scr ns) y1 y2 y3 y4 y5 y6 y7 y8 y9 y10 y11 y12 y13 y14 (plS p15) y16)) rfl (?_ : exs _ [] _ (cG (.scr ns) none none none none none none none none none none none none none none none none) = _) rfl
  refine (exs_nx (ex_for (Γ2 := cG (.scr ns) none none none none none none none none none none none none none none none none) (ds := (c0 :: cs).map D.int) ?_ rfl e)).trans (by simp [DV.SC, DV.SE, DV.SX])
  have e1 : cutD (ns.map D.int) (some 1) (some 5) = cs.map D.int := e1
  have hz : 1 + cs.length ≤ 16777216 := by omega
  have hz2 : cs.length + 1 ≤ 16777216 := by omega
  simp [DV.SC, DV.SE, DV.SX, e0, e1, hz, hz2, sizeLine, Nat.add_comm]

end L
open PySem PySem.W PyProof.Rows
set_option maxHeartbeats 0 in
theorem PySem.Challenge.cw_breakerrow_k40_lowerings_and_raises_trie_holds : PySem.Challenge.rw_breakerrow_k40_lowerings_and_raises_trie.Holds := by
  refine L_top ?_
  k_fill
  refine L2.walk_ofB (l := PySem.Challenge.rw_breakerrow_k40_lowerings_and_raises_trie) (n := 63) (k := 7) (x := "_law_script") (CX := fun _ => L2.CX0) (sp := fun w => DV.spN _ L.F_law) rfl (by decide) rfl ⟨rfl, by decide, by decide⟩ (fun w h Y => PySem.W.kIn_of Y) ?F (fun _ H a ns hl hb _ hS => DV.sp_lawN (L.law_true ns hl hb).choose_spec hS) (fun _ _ _ _ _ h => h)
  case F =>
    intro w mg fa h KX G hmg
    refine' L.all_mk KX G hmg ?aC1 ?a0 ?l0 ?e0 ?k0 ?a1 ?l1 ?e1 ?k1 ?a2 ?l2 ?e2 ?k2 ?a3 ?l3 ?e3 ?k3 ?a4 ?l4 ?e4 ?k4 ?a5 ?l5 ?e5 ?k5 ?a6 ?l6 ?e6 ?k6 ?a7 ?l7 ?e7 ?k7 ?a8 ?l8 ?e8 ?k8 ?a9 ?i9 ?l9 ?e9 ?k9 ?d9 ?a10 ?l10 ?e10 ?k10 ?a11 ?l11 ?e11 ?k11 ?a12 ?i12 ?l12 ?e12 ?k12 ?a13 ?l13 ?e13 ?k13 ?a14 ?l14 ?e14 ?k14 ?a15 ?l15 ?e15 ?k15 ?a16 ?i16 ?l16 ?e16 ?k16 ?a17 ?l17 ?e17 ?k17 ?a18 ?l18 ?e18 ?k18 ?a19 ?l19 ?e19 ?k19 ?a20 ?l20 ?e20 ?k20 ?z_bool ?z_enumerate ?z_int ?z_isinstance ?z_len ?z_list ?z_min ?z_range ?z_tuple ?g_MOST_BREAKERS ?g_MOST_COUNT ?g_MOST_WAIT ?g_MOST_STEPS ?pg1 ?hd1 ?po1 ?sa1 ?ha1 ?hn1 ?ht1 ?hm1 ?nf1_NoneType ?nf1_bool ?nf1_int ?nf1_str ?nf1_list ?nf1_tuple ?na_Row_specs ?na_Row_pace ?na_Row_shift ?fn_Row ?mk1 ?kc1
    (case aC1 => k_is)
    (case a0 => k_is)
    (case l0 => k_is)
    (case e0 => k_is)
    (case k0 => k_is)
    (case a1 => k_is)
    (case l1 => k_is)
    (case e1 => k_is)
    (case k1 => k_is)
    (case a2 => k_is)
    (case l2 => k_is)
    (case e2 => k_is)
    (case k2 => k_is)
    (case a3 => k_is)
    (case l3 => k_is)
    (case e3 => k_is)
    (case k3 => k_is)
    (case a4 => k_is)
    (case l4 => k_is)
    (case e4 => k_is)
    (case k4 => k_is)
    (case a5 => k_is)
    (case l5 => k_is)
    (case e5 => k_is)
    (case k5 => k_is)
    (case a6 => k_is)
    (case l6 => k_is)
    (case e6 => k_is)
    (case k6 => k_is)
    (case a7 => k_is)
    (case l7 => k_is)
    (case e7 => k_is)
    (case k7 => k_is)
    (case a8 => k_is)
    (case l8 => k_is)
    (case e8 => k_is)
    (case k8 => k_is)
    (case a9 => k_is)
    (case i9 => k_is)
    (case l9 => k_is)
    (case e9 => k_is)
    (case k9 => k_is)
    (case d9 => k_is)
    (case a10 => k_is)
    (case l10 => k_is)
    (case e10 => k_is)
    (case k10 => k_is)
    (case a11 => k_is)
    (case l11 => k_is)
    (case e11 => k_is)
    (case k11 => k_is)
    (case a12 => k_is)
    (case i12 => k_is)
    (case l12 => k_is)
    (case e12 => k_is)
    (case k12 => k_is)
    (case a13 => k_is)
    (case l13 => k_is)
    (case e13 => k_is)
    (case k13 => k_is)
    (case a14 => k_is)
    (case l14 => k_is)
    (case e14 => k_is)
    (case k14 => k_is)
    (case a15 => k_is)
    (case l15 => k_is)
    (case e15 => k_is)
    (case k15 => k_is)
    (case a16 => k_is)
    (case i16 => k_is)
    (case l16 => k_is)
    (case e16 => k_is)
    (case k16 => k_is)
    (case a17 => k_is)
    (case l17 => k_is)
    (case e17 => k_is)
    (case k17 => k_is)
    (case a18 => k_is)
    (case l18 => k_is)
    (case e18 => k_is)
    (case k18 => k_is)
    (case a19 => k_is)
    (case l19 => k_is)
    (case e19 => k_is)
    (case k19 => k_is)
    (case a20 => k_is)
    (case l20 => k_is)
    (case e20 => k_is)
    (case k20 => k_is)
    (case z_bool => k_is)
    (case z_enumerate => k_is)
    (case z_int => k_is)
    (case z_isinstance => k_is)
    (case z_len => k_is)
    (case z_list => k_is)
    (case z_min => k_is)
    (case z_range => k_is)
    (case z_tuple => k_is)
    (case g_MOST_BREAKERS => k_is)
    (case g_MOST_COUNT => k_is)
    (case g_MOST_WAIT => k_is)
    (case g_MOST_STEPS => k_is)
    (case pg1 => k_is)
    (case hd1 => k_is)
    (case po1 => k_is)
    (case sa1 => k_is)
    (case ha1 => k_is)
    (case hn1 => k_is)
    (case ht1 => k_is)
    (case hm1 => k_is)
    (case nf1_NoneType => k_is)
    (case nf1_bool => k_is)
    (case nf1_int => k_is)
    (case nf1_str => k_is)
    (case nf1_list => k_is)
    (case nf1_tuple => k_is)
    (case na_Row_specs => k_is)
    (case na_Row_pace => k_is)
    (case na_Row_shift => k_is)
    (case fn_Row => k_is)
    (case mk1 => k_is)
    (case kc1 => k_is)
