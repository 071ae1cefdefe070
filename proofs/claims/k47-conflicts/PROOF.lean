import PyProof.Rows.All
import Wide.All
import OpenK.AllK
import Wide.FinOn
import HandS.ForMost
import HandS.Wide
import HandS.Style
import HandS.Flow
import HandS.Zip
import HandS.EndBits
import HandS.IsInst
import HandS.Lambda
import HandS.EndTab
import HandS.TupLe
import HandS.OwnEq
import PyProof.InstNe
import HandS.MakeKwOnly
import HandS.SortRule
import HandS.Conv
import HandS.SortKw
import HandS.SetFor
import KE.DataMinMax
import PyProof.Rows.CountFlat
import KE.DatumOrd
import HandS.Dict
import KE.KDictPairs
import KE.SortData
import HandS.WordsExc
import HandS.TryMany
import HandS.ExcInit
import KE.KExcInit
import KE.KExcIs
import HandS.ExcField
import KE.KNest
import KE.KNestM
import KE.OsRunLaw
import PySem.Challenge.RW_breakerrow_k47_conflicts_and_forecasts
set_option exponentiation.threshold 100000
set_option Elab.async false
set_option linter.all false
set_option maxRecDepth 100000
set_option maxHeartbeats 4000000
section
open PySem PySem.W PyProof.Rows
local macro_rules | `(tactic| k_head) => `(tactic| k_headL)
set_option maxHeartbeats 0 in
open_top L_top for PySem.Challenge.rw_breakerrow_k47_conflicts_and_forecasts
end
namespace DV
open PySem L2

/-- data: what a Python value says, with its heap read off -/
inductive D where
  | non | bl (b : Bool) | int (i : Int) | str (x : Str) | lst (xs : List D) | tup (xs : List D) | obj (c : Nat) (ks : List Str) (ds : List D) | scr (ns : List Int) | dct | dic (ks : List Int) (ds : List D) | exc (c : Nat) (ks : List Str) (ds : List D) | err (c : Nat) (ks : List Str) (ds : List D)

/-- what is static of a text behind its top -/
structure Gx where
  K : PySem.W.Frag
  cl : Nat → Addr
  T : List (Addr × Str)
  ea : Option (Nat × Addr × Addr)
/-- no table of code objects -/
def nT (o : HO) : Prop := ∀ ps, o ≠ .tbl ps

/-- a dict's keys and values -/
def dkV (ks : List Int) (vs : List V) : List (Key × V) := (ks.zip vs).map fun p => (.inl p.1, p.2)
/-! ### what stands for a datum -/
mutual
def Rep (g : Gx) (Av : Addr → Prop) (H : Hp) : D → V → Prop
  | .non, v => v = .non
  | .bl b, v => v = .bl b
  | .int i, v => v = .int i
  | .str x, v => v = .str x
  | .lst ds, v => ∃ a vs, v = .ref a ∧ ¬ Av a ∧ H a = some (.lst vs) ∧ Reps g Av H ds vs
  | .scr ns, v => ∃ a, v = .ref a ∧ ¬ Av a ∧ SqL g.K H a (ns.map V.int)
  | .tup ds, v => ∃ a vs, v = .ref a ∧ ¬ Av a ∧ SqT g.K H a vs ∧ Reps g Av H ds vs
  | .obj c ks ds, v => ∃ a dx vs, v = .ref a ∧ ¬ Av a ∧ ks.length = vs.length ∧ H a = some (.ins (g.cl c) dx (ks.zip vs)) ∧ Reps g Av H ds vs
  | .dct, v => ∃ a, v = .ref a ∧ ¬ Av a ∧ H a = some (.dK [])
  | .dic ks ds, v => ∃ a vs, v = .ref a ∧ ¬ Av a ∧ ks.length = vs.length ∧ H a = some (.dK (dkV ks vs)) ∧ Reps g Av H ds vs
  | .exc _ ks ds, v => ∃ a vs, v = .ref a ∧ ¬ Av a ∧ ks.length = vs.length ∧ H a = some (.xd (ks.zip vs).reverse) ∧ Reps g Av H ds vs
  | .err c ks ds, v => ∃ e a vs, g.ea = some (c, e, a) ∧ v = .ref e ∧ ¬ Av a ∧ ks.length = vs.length ∧ H a = some (.xd (ks.zip vs).reverse) ∧ Reps g Av H ds vs
def Reps (g : Gx) (Av : Addr → Prop) (H : Hp) : List D → List V → Prop
  | [], vs => vs = []
  | d :: ds, vs => ∃ v r, vs = v :: r ∧ Rep g Av H d v ∧ Reps g Av H ds r
end

def kfree (g : Gx) (H : Hp) : Prop := ∀ a o, g.K.lookup a = some o → H a = none

section
variable {g : Gx} {Av Av' : Addr → Prop} {H H' : Hp}
theorem sqL_mono {a : Addr} {vs : List V} (h : SqL g.K H a vs) (k : ∀ o, H a = some o → nT o → H' a = some o) : SqL g.K H' a vs := by
  rcases h with (h | ⟨o, h⟩) | h
  · exact .inl (.inl (k _ h nofun))
  · exact .inl (.inr ⟨o, k _ h nofun⟩)
  · exact .inr h
theorem sqT_mono {a : Addr} {vs : List V} (h : SqT g.K H a vs) (k : ∀ o, H a = some o → nT o → H' a = some o) : SqT g.K H' a vs := by
  rcases h with (h | ⟨o, h⟩) | h
  · exact .inl (.inl (k _ h nofun))
  · exact .inl (.inr ⟨o, k _ h nofun⟩)
  · exact .inr h
theorem sqL_at {a : Addr} {vs : List V} (h : SqL g.K H a vs) : (∃ o, H a = some o ∧ nT o) ∨ ∃ o, g.K.lookup a = some o := by
  rcases h with (h | ⟨o, h⟩) | ⟨o, _, _, h, _⟩
  · exact .inl ⟨_, h, nofun⟩
  · exact .inl ⟨_, h, nofun⟩
  · exact .inr ⟨_, h⟩
theorem sqT_at {a : Addr} {vs : List V} (h : SqT g.K H a vs) : (∃ o, H a = some o ∧ nT o) ∨ ∃ o, g.K.lookup a = some o := by
  rcases h with (h | ⟨o, h⟩) | ⟨o, _, _, h, _⟩
  · exact .inl ⟨_, h, nofun⟩
  · exact .inl ⟨_, h, nofun⟩
  · exact .inr ⟨_, h⟩
/-- a visited address: one that may not change, and stands in H or in the written part -/
abbrev Vst (g : Gx) (Av : Addr → Prop) (H : Hp) (a : Addr) : Prop := ¬ Av a ∧ ((∃ o, H a = some o ∧ nT o) ∨ ∃ o, g.K.lookup a = some o)
mutual
theorem rep_mono (k : ∀ a, Vst g Av H a → (∀ o, H a = some o → nT o → H' a = some o) ∧ ¬ Av' a) : ∀ (d : D) (v : V), Rep g Av H d v → Rep g Av' H' d v
  | .non, _, h => by simpa [Rep] using h
  | .bl _, _, h => by simpa [Rep] using h
  | .int _, _, h => by simpa [Rep] using h
  | .str _, _, h => by simpa [Rep] using h
  | .lst ds, v, h => by
    simp only [Rep] at h ⊢
    obtain ⟨a, vs, e, n, s, r⟩ := h
    have q := k a ⟨n, .inl ⟨_, s, nofun⟩⟩
    exact ⟨a, vs, e, q.2, q.1 _ s nofun, reps_mono k ds vs r⟩
  | .scr ns, v, h => by
    simp only [Rep] at h ⊢
    obtain ⟨a, e, n, s⟩ := h
    have q := k a ⟨n, sqL_at s⟩
    exact ⟨a, e, q.2, sqL_mono s q.1⟩
  | .tup ds, v, h => by
    simp only [Rep] at h ⊢
    obtain ⟨a, vs, e, n, s, r⟩ := h
    have q := k a ⟨n, sqT_at s⟩
    exact ⟨a, vs, e, q.2, sqT_mono s q.1, reps_mono k ds vs r⟩
  | .obj c ks ds, v, h => by
    simp only [Rep] at h ⊢
    obtain ⟨a, dx, vs, e, n, l, s, r⟩ := h
    have q := k a ⟨n, .inl ⟨_, s, nofun⟩⟩
    exact ⟨a, dx, vs, e, q.2, l, q.1 _ s nofun, reps_mono k ds vs r⟩
  | .dct, v, h => by
    simp only [Rep] at h ⊢
    obtain ⟨a, e, n, s⟩ := h
    have q := k a ⟨n, .inl ⟨_, s, nofun⟩⟩
    exact ⟨a, e, q.2, q.1 _ s nofun⟩
  | .dic ks ds, v, h => by
    simp only [Rep] at h ⊢
    obtain ⟨a, vs, e, n, l, s, r⟩ := h
    have q := k a ⟨n, .inl ⟨_, s, nofun⟩⟩
    exact ⟨a, vs, e, q.2, l, q.1 _ s nofun, reps_mono k ds vs r⟩
  | .exc c ks ds, v, h => by
    simp only [Rep] at h ⊢
    obtain ⟨a, vs, e, n, l, s, r⟩ := h
    have q := k a ⟨n, .inl ⟨_, s, nofun⟩⟩
    exact ⟨a, vs, e, q.2, l, q.1 _ s nofun, reps_mono k ds vs r⟩
  | .err c ks ds, v, h => by
    simp only [Rep] at h ⊢
    obtain ⟨e0, a, vs, e1, e, n, l, s, r⟩ := h
    have q := k a ⟨n, .inl ⟨_, s, nofun⟩⟩
    exact ⟨e0, a, vs, e1, e, q.2, l, q.1 _ s nofun, reps_mono k ds vs r⟩
theorem reps_mono (k : ∀ a, Vst g Av H a → (∀ o, H a = some o → nT o → H' a = some o) ∧ ¬ Av' a) : ∀ (ds : List D) (vs : List V), Reps g Av H ds vs → Reps g Av' H' ds vs
  | [], _, h => by simpa [Reps] using h
  | d :: ds, _, h => by
    simp only [Reps] at h ⊢
    obtain ⟨v, r, e, h1, h2⟩ := h
    exact ⟨v, r, e, rep_mono k d v h1, reps_mono k ds r h2⟩
end
theorem Reps.len : ∀ {ds : List D} {vs : List V}, Reps g Av H ds vs → ds.length = vs.length
  | [], _, h => by simp only [Reps] at h; subst h; rfl
  | d :: ds, _, h => by
    simp only [Reps] at h
    obtain ⟨v, r, rfl, _, h2⟩ := h
    rw [List.length_cons, List.length_cons, Reps.len h2]
theorem Reps.get : ∀ {ds : List D} {vs : List V} {i : Nat} {d : D}, Reps g Av H ds vs → ds[i]? = some d → ∃ v, vs[i]? = some v ∧ Rep g Av H d v
  | [], _, i, d, _, e => by simp at e
  | x :: ds, _, 0, d, h, e => by
    simp only [Reps] at h
    obtain ⟨v, r, rfl, h1, _⟩ := h
    simp at e; subst e
    exact ⟨v, rfl, h1⟩
  | x :: ds, _, i + 1, d, h, e => by
    simp only [Reps] at h
    obtain ⟨v, r, rfl, _, h2⟩ := h
    exact Reps.get (i := i) h2 (by simpa using e)
theorem Reps.app : ∀ {ds es : List D} {vs ws : List V}, Reps g Av H ds vs → Reps g Av H es ws → Reps g Av H (ds ++ es) (vs ++ ws)
  | [], _, _, _, h, q => by simp only [Reps] at h; subst h; exact q
  | d :: ds, _, _, _, h, q => by
    simp only [Reps] at h
    obtain ⟨v, r, rfl, h1, h2⟩ := h
    simp only [List.cons_append, Reps]
    exact ⟨v, _, rfl, h1, Reps.app h2 q⟩
theorem Reps.take : ∀ {ds : List D} {vs : List V} (n : Nat), Reps g Av H ds vs → Reps g Av H (ds.take n) (vs.take n)
  | _, _, 0, _ => by simp [Reps]
  | [], _, n + 1, h => by simp only [Reps] at h; subst h; simp [Reps]
  | d :: ds, _, n + 1, h => by
    simp only [Reps] at h
    obtain ⟨v, r, rfl, h1, h2⟩ := h
    simp only [List.take_succ_cons, Reps]
    exact ⟨v, _, rfl, h1, Reps.take n h2⟩
theorem Reps.drop : ∀ {ds : List D} {vs : List V} (n : Nat), Reps g Av H ds vs → Reps g Av H (ds.drop n) (vs.drop n)
  | _, _, 0, h => h
  | [], _, n + 1, h => by simp only [Reps] at h; subst h; simp [Reps]
  | d :: ds, _, n + 1, h => by
    simp only [Reps] at h
    obtain ⟨v, r, rfl, h1, h2⟩ := h
    simpa using Reps.drop n h2
theorem Reps.set {d : D} {v : V} (q : Rep g Av H d v) : ∀ {ds : List D} {vs : List V} (n : Nat), Reps g Av H ds vs → Reps g Av H (ds.set n d) (vs.set n v)
  | [], _, n, h => by simp only [Reps] at h; subst h; simp [Reps]
  | x :: ds, _, 0, h => by
    simp only [Reps] at h
    obtain ⟨w, r, rfl, h1, h2⟩ := h
    simp only [List.set_cons_zero, Reps]
    exact ⟨v, _, rfl, q, h2⟩
  | x :: ds, _, n + 1, h => by
    simp only [Reps] at h
    obtain ⟨w, r, rfl, h1, h2⟩ := h
    simp only [List.set_cons_succ, Reps]
    exact ⟨w, _, rfl, h1, Reps.set q n h2⟩
theorem Reps.one {d : D} {v : V} (q : Rep g Av H d v) : Reps g Av H [d] [v] := by
  simp only [Reps]
  exact ⟨v, [], rfl, q, rfl⟩
theorem Reps.rev : ∀ {ds : List D} {vs : List V}, Reps g Av H ds vs → Reps g Av H ds.reverse vs.reverse
  | [], _, h => by simp only [Reps] at h; subst h; simp [Reps]
  | d :: ds, _, h => by
    simp only [Reps] at h
    obtain ⟨v, r, rfl, h1, h2⟩ := h
    rw [List.reverse_cons, List.reverse_cons]
    exact Reps.app (Reps.rev h2) (Reps.one h1)
theorem Reps.repl {ds : List D} {vs : List V} (h : Reps g Av H ds vs) : ∀ n : Nat, Reps g Av H (List.replicate n ds).flatten (List.replicate n vs).flatten
  | 0 => by simp [Reps]
  | n + 1 => by
    rw [List.replicate_succ, List.replicate_succ, List.flatten_cons, List.flatten_cons]
    exact Reps.app h (Reps.repl h n)
end

/-! ### the frame: slots with data, some of them owned -/
abbrev Sl := Option (D × Bool)
abbrev Ct := List Sl
def Av (Bn : Addr → Prop) (Ow : List Addr) : Addr → Prop := fun a => Bn a ∨ a ∈ Ow
/-- the object at a is the owned datum d -/
def OwnA (g : Gx) (A : Addr → Prop) (H : Hp) (d : D) (a : Addr) : Prop :=
  match d with
  | .lst ds => ∃ vs, H a = some (.lst vs) ∧ Reps g A H ds vs
  | .obj c ks ds => ∃ dx vs, ks.length = vs.length ∧ H a = some (.ins (g.cl c) dx (ks.zip vs)) ∧ Reps g A H ds vs
  | _ => False
/-- a list or an object -/
def LI (H : Hp) (a : Addr) : Prop := (∃ vs, H a = some (.lst vs)) ∨ ∃ C dx fl, H a = some (.ins C dx fl)
theorem LI.ne {H : Hp} {a : Addr} (h : LI H a) : H a ≠ none := by
  rcases h with ⟨vs, e⟩ | ⟨C, dx, fl, e⟩ <;> rw [e] <;> nofun
theorem LI.same {H H' : Hp} {a : Addr} (h : LI H a) (s : Same H H') : LI H' a := by
  rcases h with ⟨vs, e⟩ | ⟨C, dx, fl, e⟩
  · exact .inl ⟨vs, s _ _ e⟩
  · exact .inr ⟨C, dx, fl, s _ _ e⟩
theorem LI.upd {H : Hp} {a b : Addr} {o : HO} (h : LI H a) (k : a = b → LI (upd H b o) b) : LI (L2.upd H b o) a := by
  by_cases e : a = b
  · rw [e]; exact k e
  · rcases h with ⟨vs, q⟩ | ⟨C, dx, fl, q⟩
    · exact .inl ⟨vs, by rw [upd_ne e]; exact q⟩
    · exact .inr ⟨C, dx, fl, by rw [upd_ne e]; exact q⟩
abbrev Tb (T : List (Addr × Str)) (H : Hp) : Prop := LamX.Tabs T H
theorem Tb.upd {T : List (Addr × Str)} {H : Hp} {p : Addr} {o : HO} (t : Tb T H) (h : LI H p) : Tb T (L2.upd H p o) := by
  intro q hq
  obtain ⟨ps, e1, e2, e3⟩ := t q hq
  have n1 : q.1 ≠ p := fun z => by
    rw [z] at e1
    rcases h with ⟨vs, e⟩ | ⟨C, dx, fl, e⟩ <;> (rw [e] at e1; cases e1)
  refine ⟨ps, by rw [upd_ne n1]; exact e1, e2, fun pos cv hc => ?_⟩
  obtain ⟨c, f1, f2⟩ := e3 pos cv hc
  refine ⟨c, f1, ?_⟩
  have n2 : c ≠ p := fun z => by
    rw [z] at f2
    unfold LamX.CodeO at f2
    rcases h with ⟨vs, e⟩ | ⟨C, dx, fl, e⟩ <;> (rw [e] at f2; cases f2)
  rw [upd_ne n2]
  exact f2
structure RS (g : Gx) (Bn : Addr → Prop) (Ow : List Addr) (H : Hp) (σ : St) (Γ : Ct) : Prop where
  len : σ.length = Γ.length
  slot : ∀ (i : Nat) d, Γ[i]? = some (some (d, false)) → ∃ v, σ[i]? = some (some v) ∧ Rep g (Av Bn Ow) H d v
  own : ∀ (i : Nat) d, Γ[i]? = some (some (d, true)) → ∃ a, σ[i]? = some (some (.ref a)) ∧ a ∈ Ow ∧ OwnA g (Av Bn Ow) H d a
  dist : ∀ (i j : Nat) d e a, Γ[i]? = some (some (d, true)) → Γ[j]? = some (some (e, true)) → σ[i]? = some (some (.ref a)) → σ[j]? = some (some (.ref a)) → i = j
  trl : ∀ a, Av Bn Ow a → LI H a
  sep : ∀ a, Bn a → a ∉ Ow
  kf : ∀ a, Av Bn Ow a → g.K.lookup a = none
  tabs : Tb g.T H
theorem RS.trk {g : Gx} {Bn : Addr → Prop} {Ow : List Addr} {H : Hp} {σ : St} {Γ : Ct} (r : RS g Bn Ow H σ Γ) (a : Addr) (h : Av Bn Ow a) : H a ≠ none := (r.trl a h).ne
/-- nothing stands there, or a table -/
def Nw (H : Hp) (a : Addr) : Prop := ∀ o, H a = some o → ¬ nT o
theorem nw_none {H : Hp} {a : Addr} (h : H a = none) : Nw H a := fun o e => by rw [h] at e; cases e
theorem LI.nw {H : Hp} {a : Addr} (h : LI H a) (n : Nw H a) : False := by
  rcases h with ⟨vs, e⟩ | ⟨C, dx, fl, e⟩
  · exact n _ e nofun
  · exact n _ e nofun
theorem RS.trn {g : Gx} {Bn : Addr → Prop} {Ow : List Addr} {H : Hp} {σ : St} {Γ : Ct} (r : RS g Bn Ow H σ Γ) (a : Addr) (h : Av Bn Ow a) (n : Nw H a) : False := (r.trl a h).nw n
/-- a step of the frame -/
structure Stp (Ow : List Addr) (H : Hp) (Ow' : List Addr) (H' : Hp) : Prop where
  keep0 : ∀ a o, H a = some o → nT o → a ∉ Ow → H' a = some o
  grow : ∀ a, a ∈ Ow' → a ∈ Ow ∨ Nw H a
theorem Stp.keep {Ow : List Addr} {H : Hp} {Ow' : List Addr} {H' : Hp} (s : Stp Ow H Ow' H') (a : Addr) (o : HO) (h : H a = some o) (n : a ∉ Ow) (t : nT o := by exact nofun) : H' a = some o := s.keep0 a o h t n
theorem Stp.refl (Ow : List Addr) (H : Hp) : Stp Ow H Ow H := ⟨fun _ _ h _ _ => h, fun _ h => .inl h⟩
theorem Stp.trans {O1 O2 O3 : List Addr} {H1 H2 H3 : Hp} (a : Stp O1 H1 O2 H2) (b : Stp O2 H2 O3 H3) : Stp O1 H1 O3 H3 where
  keep0 := fun x o h t n => b.keep0 x o (a.keep0 x o h t n) t fun z => by
    rcases a.grow x z with q | q
    · exact n q
    · exact q o h t
  grow := fun x h => by
    rcases b.grow x h with q | q
    · exact a.grow x q
    · by_cases m : x ∈ O1
      · exact .inl m
      · exact .inr fun o e t => q o (a.keep0 x o e t m) t
section
variable {g : Gx} {Bn : Addr → Prop} {Ow Ow' : List Addr} {H H' : Hp} {σ : St} {Γ Γ' : Ct}
/-- what may be carried over a step -/
theorem step_vst (s : Stp Ow H Ow' H') (kf : ∀ a, a ∈ Ow' → g.K.lookup a = none) : ∀ a, Vst g (Av Bn Ow) H a → (∀ o, H a = some o → nT o → H' a = some o) ∧ ¬ Av Bn Ow' a := fun a ⟨n, t⟩ => by
  have n1 : ¬ Bn a := fun z => n (.inl z)
  have n2 : a ∉ Ow := fun z => n (.inr z)
  refine ⟨fun o h t => s.keep0 a o h t n2, fun z => ?_⟩
  rcases z with z | z
  · exact n1 z
  · rcases t with ⟨o, t, nt⟩ | ⟨o, t⟩
    · rcases s.grow a z with q | q
      · exact n2 q
      · exact q o t nt
    · rw [kf a z] at t; cases t
theorem Rep.step {d : D} {v : V} (h : Rep g (Av Bn Ow) H d v) (s : Stp Ow H Ow' H') (r : RS g Bn Ow' H' σ Γ) : Rep g (Av Bn Ow') H' d v :=
  rep_mono (step_vst s fun a h => r.kf a (.inr h)) d v h
theorem Reps.step {d : List D} {v : List V} (h : Reps g (Av Bn Ow) H d v) (s : Stp Ow H Ow' H') (r : RS g Bn Ow' H' σ Γ) : Reps g (Av Bn Ow') H' d v :=
  reps_mono (step_vst s fun a h => r.kf a (.inr h)) d v h
/-- the heap has grown, nothing else -/
theorem same_vst {A : Addr → Prop} (s : Same H H') : ∀ a, Vst g A H a → (∀ o, H a = some o → nT o → H' a = some o) ∧ ¬ A a := fun a ⟨n, _⟩ => ⟨fun o h _ => s a o h, n⟩
theorem Rep.same {A : Addr → Prop} {d : D} {v : V} (h : Rep g A H d v) (s : Same H H') : Rep g A H' d v := rep_mono (same_vst s) d v h
theorem Reps.same {A : Addr → Prop} {d : List D} {v : List V} (h : Reps g A H d v) (s : Same H H') : Reps g A H' d v := reps_mono (same_vst s) d v h
theorem OwnA.same {A : Addr → Prop} {d : D} {a : Addr} (h : OwnA g A H d a) (s : Same H H') : OwnA g A H' d a := by
  cases d with
  | lst ds => obtain ⟨vs, e, r⟩ := h; exact ⟨vs, s _ _ e, r.same s⟩
  | obj c ks ds => obtain ⟨dx, vs, l, e, r⟩ := h; exact ⟨dx, vs, l, s _ _ e, r.same s⟩
  | _ => exact h
theorem RS.same (r : RS g Bn Ow H σ Γ) (s : Same H H') : RS g Bn Ow H' σ Γ where
  len := r.len
  slot := fun i d h => let ⟨v, e, q⟩ := r.slot i d h; ⟨v, e, q.same s⟩
  own := fun i d h => let ⟨a, e, m, q⟩ := r.own i d h; ⟨a, e, m, q.same s⟩
  dist := r.dist
  trl := fun a h => (r.trl a h).same s
  sep := r.sep
  kf := r.kf
  tabs := fun p hp => (r.tabs p hp).ext s
theorem Stp.same (s : Same H H') : Stp Ow H Ow H' := ⟨fun a o h _ _ => s a o h, fun _ h => .inl h⟩
/-- less is avoided -/
theorem rep_less {A A' : Addr → Prop} (k : ∀ a, A' a → A a) {d : D} {v : V} (h : Rep g A H d v) : Rep g A' H d v := rep_mono (fun a ⟨n, _⟩ => ⟨fun _ e _ => e, fun z => n (k a z)⟩) d v h
theorem reps_less {A A' : Addr → Prop} (k : ∀ a, A' a → A a) {d : List D} {v : List V} (h : Reps g A H d v) : Reps g A' H d v := reps_mono (fun a ⟨n, _⟩ => ⟨fun _ e _ => e, fun z => n (k a z)⟩) d v h
theorem own_less {A A' : Addr → Prop} (k : ∀ a, A' a → A a) {d : D} {a : Addr} (h : OwnA g A H d a) : OwnA g A' H d a := by
  cases d with
  | lst ds => obtain ⟨vs, e, r⟩ := h; exact ⟨vs, e, reps_less k r⟩
  | obj c ks ds => obtain ⟨dx, vs, l, e, r⟩ := h; exact ⟨dx, vs, l, e, reps_less k r⟩
  | _ => exact h
/-- an owned object becomes a plain one -/
theorem OwnA.rep {A : Addr → Prop} {d : D} {a : Addr} (h : OwnA g A H d a) (n : ¬ A a) : Rep g A H d (.ref a) := by
  cases d with
  | lst ds => obtain ⟨vs, e, r⟩ := h; simp only [Rep]; exact ⟨a, vs, rfl, n, e, r⟩
  | obj c ks ds => obtain ⟨dx, vs, l, e, r⟩ := h; simp only [Rep]; exact ⟨a, dx, vs, rfl, n, l, e, r⟩
  | _ => exact h.elim
end
end DV

namespace DV
open PySem L2

/-! ### data: equality, truth, operations -/
mutual
def eqd : D → D → Bool
  | .non, .non => true
  | .bl a, .bl b => a == b
  | .bl a, .int j => (if a then 1 else 0) == j
  | .int i, .bl b => i == (if b then 1 else 0)
  | .int i, .int j => i == j
  | .str x, .str y => x == y
  | .lst xs, .lst ys => eqds xs ys
  | .tup xs, .tup ys => eqds xs ys
  | _, _ => false
def eqds : List D → List D → Bool
  | [], [] => true
  | x :: xs, y :: ys => eqd x y && eqds xs ys
  | _, _ => false
end
/-- plain data of a depth below n -/
def okB : Nat → D → Bool
  | _, .non => true
  | _, .bl _ => true
  | _, .int _ => true
  | _, .str x => PyData.strOk x
  | n + 1, .lst ds => ds.all (okB n)
  | n + 1, .tup ds => ds.all (okB n)
  | _, _ => false
def flatD : D → Bool
  | .non => true
  | .bl _ => true
  | .int _ => true
  | .str _ => true
  | _ => false
def truthD : D → Option Bool
  | .non => some false
  | .bl b => some b
  | .int i => some (i != 0)
  | .str x => if x.length ≤ sizeLine then some ((x.length : Int) != 0) else none
  | .lst ds => some (!ds.isEmpty)
  | .tup ds => some (!ds.isEmpty)
  | .obj _ _ _ => none
  | .scr ns => some (!ns.isEmpty)
  | .dct => none
  | .dic _ _ => none
  | .exc _ _ _ => none
  | .err _ _ _ => none

inductive RV where
  | fz (d : D) | nw (d : D) | sl (i : Nat)
inductive BOp where
  | add | sub | mul | fdiv | mod | pow
  deriving DecidableEq
inductive COp where
  | eq | ne | lt | le | gt | ge | is | isnot | inn | notin
  deriving DecidableEq
inductive OOp where
  | eq | ne | inn | notin | ix | add
  deriving DecidableEq
inductive Ty where
  | int | bool | str | list | tuple
  deriving DecidableEq
inductive Bi where
  | len | int1 | max2 | min2 | maxl | minl | suml | list | tuple | alll | anyl | isi (t : Ty) | abs | sortp | minp | min2p | sortt | dictp
  deriving DecidableEq
inductive IK where
  | seq | enum | zip | rng
  deriving DecidableEq
inductive Tg where
  | nm (i : Nat) | tp (ts : List Tg)

def tgIx : Tg → List Nat
  | .nm i => [i]
  | .tp ts => tgIxs ts
where tgIxs : List Tg → List Nat
  | [] => []
  | t :: ts => tgIx t ++ tgIxs ts
def mulOk (i j : Int) : Bool := decide (-(2 ^ 64) < i ∧ i < 2 ^ 64) || decide (-(2 ^ 64) < j ∧ j < 2 ^ 64) || decide (i.natAbs.log2 + j.natAbs.log2 < 1000000)
@[irreducible] def in1k (i : Int) : Bool := decide (i.natAbs < 2 ^ 1000)
def binD : BOp → D → D → Option RV
  | .add, .int a, .int b => some (.fz (.int (a + b)))
  | .add, .str a, .str b => if a.length + b.length ≤ sizeLine then some (.fz (.str (a ++ b))) else none
  | .add, .lst a, .lst b => if a.length + b.length ≤ sizeLine then some (.nw (.lst (a ++ b))) else none
  | .add, .tup a, .tup b => if a.length + b.length ≤ sizeLine ∧ a ≠ [] then some (.fz (.tup (a ++ b))) else none
  | .sub, .int a, .int b => some (.fz (.int (a - b)))
  | .mul, .int a, .int b => if mulOk a b then some (.fz (.int (a * b))) else none
  | .mul, .lst a, .int k => if -(2 ^ 63) ≤ k ∧ k < 2 ^ 63 ∧ a.length * k.toNat ≤ sizeLine then some (.nw (.lst (List.replicate k.toNat a).flatten)) else none
  | .fdiv, .int a, .int b => if 0 < b ∧ b.natAbs.log2 < 9000 then some (.fz (.int (a / b))) else none
  | .mod, .int a, .int b => if 0 < b then some (.fz (.int (a % b))) else none
  | .pow, .int a, .int b => if 0 ≤ b ∧ b ≤ 1000000 ∧ a.natAbs < 2 ^ 64 then some (.fz (.int (a ^ b.toNat))) else if 0 ≤ b ∧ b ≤ 1000 ∧ in1k a = true then some (.fz (.int (a ^ b.toNat))) else none
  | _, _, _ => none
def isNonD : D → Bool
  | .non => true
  | _ => false
/-- lists of other lengths -/
def lenNe : D → D → Bool
  | .lst a, .lst b => decide (a.length ≠ b.length)
  | _, _ => false
/-- (a, b) > (c, d) -/
def pGt (a b c d : Int) : Bool := decide (c < a ∨ (a = c ∧ d < b))
def tupGt : List D → List D → Option Bool
  | [.int a, .int b], [.int c, .int d] => some (pGt a b c d)
  | _, _ => none
def cmpD : COp → D → D → Option Bool
  | .eq, a, b => if okB 12 a && okB 12 b then some (eqd a b) else if lenNe a b then some false else none
  | .ne, a, b => if okB 12 a && okB 12 b then some (!eqd a b) else if lenNe a b then some true else none
  | .lt, .int a, .int b => some (decide (a < b))
  | .le, .int a, .int b => some (decide (a ≤ b))
  | .gt, .int a, .int b => some (decide (b < a))
  | .ge, .int a, .int b => some (decide (b ≤ a))
  | .is, a, .non => some (isNonD a)
  | .isnot, a, .non => some (!isNonD a)
  | .inn, a, .lst b => if flatD a && b.all flatD then some (b.any fun y => eqd y a) else none
  | .inn, a, .tup b => if flatD a && b.all flatD then some (b.any fun y => eqd y a) else none
  | .notin, a, .lst b => if flatD a && b.all flatD then some (!(b.any fun y => eqd y a)) else none
  | .notin, a, .tup b => if flatD a && b.all flatD then some (!(b.any fun y => eqd y a)) else none
  | .gt, .tup xs, .tup ys => tupGt xs ys
  | _, _, _ => none
def ixN' (n : Nat) (i : Int) : Option Nat := ixN n i
def ixD : D → D → Option D
  | .lst xs, .int i => atI xs i
  | .tup xs, .int i => atI xs i
  | .scr ns, .int i => (atI ns i).map D.int
  | .str z, .int i => if z.length ≤ sizeLine then (atI z.cps.toList i).map fun c => .str ⟨#[c]⟩ else none
  | _, _ => none
def cutD (xs : List D) (lo hi : Option Int) : List D := (xs.drop (HT.sIx xs.length 0 lo)).take (HT.sIx xs.length xs.length hi - HT.sIx xs.length 0 lo)
def slcD : D → Option Int → Option Int → Option RV
  | .lst xs, lo, hi => some (.nw (.lst (cutD xs lo hi)))
  | .scr ns, lo, hi => some (.nw (.lst (cutD (ns.map D.int) lo hi)))
  | .tup xs, lo, hi => if HT.sIx xs.length 0 lo = 0 ∧ HT.sIx xs.length xs.length hi = xs.length then none else some (.fz (.tup (cutD xs lo hi)))
  | _, _, _ => none
def shallow : D → Bool
  | .obj _ _ _ => false
  | .exc _ _ _ => false
  | .err _ _ _ => false
  | .scr _ => false
  | _ => true
def isiD : Ty → D → Bool
  | .int, .int _ => true
  | .int, .bl _ => true
  | .bool, .bl _ => true
  | .str, .str _ => true
  | .list, .lst _ => true
  | .tuple, .tup _ => true
  | _, _ => false
/-- the ints of a list of ints -/
def intsD : List D → Option (List Int)
  | [] => some []
  | .int i :: r => (intsD r).map (i :: ·)
  | _ :: _ => none
def blsD : List D → Option (List Bool)
  | [] => some []
  | .bl i :: r => (blsD r).map (i :: ·)
  | _ :: _ => none
def maxI : List Int → Option Int
  | [] => none
  | x :: r => some (r.foldl (fun a b => if a < b then b else a) x)
def minI : List Int → Option Int
  | [] => none
  | x :: r => some (r.foldl (fun a b => if b < a then b else a) x)
/-- pairs of ints -/
def pairsD : List D → Option (List (Int × Int))
  | [] => some []
  | .tup [.int i, .int j] :: r => (pairsD r).map ((i, j) :: ·)
  | _ :: _ => none
def pLe (p q : Int × Int) : Bool := decide (p.1 < q.1 ∨ (p.1 = q.1 ∧ p.2 ≤ q.2))
def pLt (p q : Int × Int) : Bool := decide (p.1 < q.1 ∨ (p.1 = q.1 ∧ p.2 < q.2))
def minP : List (Int × Int) → Option (Int × Int)
  | [] => none
  | p :: ps => some (ps.foldl (fun a y => if pLt y a then y else a) p)
def insP (p : Int × Int) : List (Int × Int) → List (Int × Int)
  | [] => [p]
  | q :: r => if pLe p q then p :: q :: r else q :: insP p r
def sortP : List (Int × Int) → List (Int × Int)
  | [] => []
  | p :: r => insP p (sortP r)
def sortD : D → Option D
  | .lst xs => (pairsD xs).map fun ps => .lst ((sortP ps).map fun p => .tup [.int p.1, .int p.2])
  | _ => none
/-- a dict of pairs, the first ones different ints -/
def dctpD : List D → Option (List Int × List D)
  | [] => some ([], [])
  | .tup [.int k, d] :: r => (dctpD r).bind fun (ks, ds) => if ks.contains k then none else some (k :: ks, d :: ds)
  | _ => none
/-- triples of ints, the first ones ascending -/
def ascT : List D → Bool
  | [] => true
  | [.tup [.int _, .int _, .int _]] => true
  | .tup [.int a, .int _, .int _] :: .tup [.int b, .int c, .int d] :: r => decide (a < b) && ascT (.tup [.int b, .int c, .int d] :: r)
  | _ => false
def biD : Bi → List D → Option RV
  | .len, [.lst xs] => some (.fz (.int xs.length))
  | .len, [.tup xs] => some (.fz (.int xs.length))
  | .len, [.scr ns] => some (.fz (.int ns.length))
  | .len, [.str x] => if x.length ≤ sizeLine then some (.fz (.int x.length)) else none
  | .int1, [.int i] => some (.fz (.int i))
  | .int1, [.bl b] => some (.fz (.int (if b then 1 else 0)))
  | .max2, [.int a, .int b] => some (.fz (.int (if b > a then b else a)))
  | .min2, [.int a, .int b] => some (.fz (.int (if b < a then b else a)))
  | .maxl, [.lst xs] => (intsD xs).bind fun ns => (maxI ns).map fun m => .fz (.int m)
  | .minl, [.lst xs] => (intsD xs).bind fun ns => (minI ns).map fun m => .fz (.int m)
  | .suml, [.lst xs] => (intsD xs).map fun ns => .fz (.int ns.sum)
  | .list, [.lst xs] => some (.nw (.lst xs))
  | .list, [.tup xs] => some (.nw (.lst xs))
  | .tuple, [.lst xs] => some (.fz (.tup xs))
  | .tuple, [.tup xs] => some (.fz (.tup xs))
  | .alll, [.lst xs] => (blsD xs).map fun bs => .fz (.bl (bs.all id))
  | .anyl, [.lst xs] => (blsD xs).map fun bs => .fz (.bl (bs.any id))
  | .isi t, [d] => if shallow d then some (.fz (.bl (isiD t d))) else none
  | .abs, [.int i] => some (.fz (.int (if i < 0 then -i else i)))
  | .sortp, [d] => (sortD d).map .nw
  | .minp, [.lst xs] => (pairsD xs).bind fun ps => (minP ps).map fun p => .fz (.tup [.int p.1, .int p.2])
  | .min2p, [.tup [.int a, .int b], .tup [.int c, .int d]] => some (.fz (if pLt (c, d) (a, b) then .tup [.int c, .int d] else .tup [.int a, .int b]))
  | .sortt, [.lst xs] => if ascT xs then some (.nw (.lst xs)) else none
  | .dictp, [.lst xs] => (dctpD xs).map fun (ks, ds) => .fz (.dic ks ds)
  | _, _ => none

/-! ### the language -/
inductive E where
  | stuck
  | var (i : Nat)
  | cst (d : D)
  | bin (op : BOp) (a b : E)
  | neg (a : E)
  | cmp (op : COp) (a b : E)
  | chain (o1 o2 : COp) (a b c : E)
  | and (a b : E)
  | or (a b : E)
  | not (a : E)
  | ite (c a b : E)
  | lst (es : List E)
  | tup (es : List E)
  | ix (a b : E)
  | slc (a : E) (lo hi : List E)
  | call (k : Nat) (es : List E)
  | bi (b : Bi) (es : List E)
  | comp (own : List Nat) (tg : Tg) (ik : IK) (its : List E) (cond : List E) (elt : E)
  | fld (cs : List Nat) (a : E) (nm : Str)
  | meth (c : Nat) (nm : Str) (k : Nat) (o : E) (es : List E)
  | mk (c k : Nat) (es : List E)
  | own (o : OOp) (c k : Nat) (a b : E)
  | lenO (c k : Nat) (a : E)
  | isc (cs : List Nat) (c : Nat) (a : E)
  | callp (k : Nat) (p : List Nat) (es : List E)
  | mkp (c k : Nat) (p : List Nat) (es : List E)
  | chain3 (o1 o2 o3 : COp) (a b c d : E)
  | rev (a : E)
  | dct
  | tne (c k : Nat) (a b : E)
  | rngl (a b : E)
  | mxd (m : Bool) (a d : E)
  | cnt (a x : E)
  | pop (i : Nat)
  | idx (a x : E)
  | shr (a : E)
  | inO (c k c2 k2 : Nat) (a b : E)
  | dget (a b : E)
  | din (a b : E)
  | ownx (o : OOp) (c k : Nat) (a b : E)
  | mkx (c k : Nat) (es : List E)
  | xis (all cs : List Nat) (i : Nat)
  | xfld (all : List Nat) (i : Nat) (nm : Str)
  | said (d0 : D) (sd : Nat → List Str → List D → Option D) (e : E)

abbrev FS := Ct → Option (RV × Ct)

def datum (Γ : Ct) : RV → Option D
  | .fz d => some d
  | .nw d => some d
  | .sl i => match Γ[i]? with
    | some (some (d, _)) => some d
    | _ => none
/-- the value becomes a plain one -/
def fre (Γ : Ct) : RV → Option (D × Ct)
  | .fz d => some (d, Γ)
  | .nw d => some (d, Γ)
  | .sl i => match Γ[i]? with
    | some (some (d, true)) => some (d, Γ.set i (some (d, false)))
    | some (some (d, false)) => some (d, Γ)
    | _ => none
def fres : List RV → Ct → Option (List D × Ct)
  | [], Γ => some ([], Γ)
  | x :: xs, Γ => (fre Γ x).bind fun (d, Γ1) => (fres xs Γ1).map fun (ds, Γ2) => (d :: ds, Γ2)
def datums (Γ : Ct) : List RV → Option (List D)
  | [] => some []
  | x :: xs => (datum Γ x).bind fun d => (datums Γ xs).map (d :: ·)
/-- an argument's slot for the callee -/
def argS (Γ : Ct) : RV → Option (D × Bool)
  | .fz d => some (d, false)
  | .nw d => some (d, true)
  | .sl i => match Γ[i]? with
    | some (some p) => some p
    | _ => none
def argSs (Γ : Ct) : List RV → Option (List (D × Bool))
  | [] => some []
  | x :: xs => (argS Γ x).bind fun d => (argSs Γ xs).map (d :: ·)
/-- the slots that are handed over -/
def ownIx (Γ : Ct) : List RV → List Nat
  | [] => []
  | .sl i :: xs => match Γ[i]? with
    | some (some (_, true)) => i :: ownIx Γ xs
    | _ => ownIx Γ xs
  | _ :: xs => ownIx Γ xs
def nodupB : List Nat → Bool
  | [] => true
  | x :: xs => !(xs.contains x) && nodupB xs
/-- what comes back at the slots that were handed over -/
def putOuts (Γ0 : Ct) : List RV → Ct → Ct → Ct
  | .sl i :: xs, o :: os, Γ => match Γ0[i]? with
    | some (some (_, true)) => putOuts Γ0 xs os (Γ.set i o)
    | _ => putOuts Γ0 xs os Γ
  | _ :: xs, _ :: os, Γ => putOuts Γ0 xs os Γ
  | _, _, Γ => Γ

/-- values in the parameters' order -/
def permL {α : Type} (p : List Nat) (xs : List α) : List α := p.filterMap fun i => xs[i]?
def permOk (p : List Nat) (n : Nat) : Bool := nodupB p && p.all fun i => decide (i < n)
/-- a call, by its results -/
def callD (F : FS) (xs : List RV) (Γ : Ct) : Option (RV × Ct) := (argSs Γ xs).bind fun as => if nodupB (ownIx Γ xs) then (F (as.map some)).bind fun (r, os) => match r with
      | .sl _ => none
      | r => some (r, putOuts Γ xs os Γ)
    else none
/-- a new object of class c, by its __init__ -/
def mkD (F : FS) (c : Nat) (xs : List RV) (Γ : Ct) : Option (RV × Ct) := (argSs Γ xs).bind fun as => if nodupB (ownIx Γ xs) then (F (some (.obj c [] [], true) :: as.map some)).bind fun (r, os) => match r, os with
      | .fz .non, some (.obj c' ks ds, true) :: os' => some (.nw (.obj c' ks ds), putOuts Γ xs os' Γ)
      | _, _ => none
    else none
/-- the same, of an __init__ that may raise -/
def mkX (F : FS) (c : Nat) (xs : List RV) (Γ : Ct) : Option (RV × Ct) := (argSs Γ xs).bind fun as => if nodupB (ownIx Γ xs) then (F (some (.obj c [] [], true) :: as.map some)).bind fun (r, os) => match r, os with
    | .fz (.exc c' ks ds), _ :: os' => some (.fz (.exc c' ks ds), putOuts Γ xs os' Γ)
    | .fz .non, some (.obj c' ks ds, true) :: os' => some (.nw (.obj c' ks ds), putOuts Γ xs os' Γ)
    | _, _ => none
    else none
def fldL (nm : Str) : List Str → List D → Option D
  | k :: ks, d :: ds => if nm = k then some d else fldL nm ks ds
  | _, _ => none
def xisD (all cs : List Nat) : Sl → Option Bool
  | some (.err c _ _, false) => if all.contains c then some (cs.contains c) else none
  | _ => none
def xfldD (all : List Nat) (nm : Str) : Sl → Option D
  | some (.err c ks ds, false) => if all.contains c then fldL nm ks.reverse ds.reverse else none
  | _ => none
/-- what a def tells of a call that it makes: d0, or what it makes of an error -/
def saidD (d0 : D) (sd : Nat → List Str → List D → Option D) : RV → Option D
  | .fz (.exc c ks ds) => sd c ks ds
  | _ => some d0
def fldD (cs : List Nat) : D → Str → Option D
  | .obj c ks ds, nm => if cs.contains c then fldL nm ks ds else none
  | _, _ => none
def isObj (c : Nat) : D → Bool
  | .obj c' _ _ => c == c'
  | _ => false
/-- isinstance with an own class, among the classes cs -/
def iscD (cs : List Nat) (c : Nat) : D → Option Bool
  | .obj c' _ _ => if cs.contains c' then some (c == c') else none
  | .scr _ => none
  | .dct => none
  | .dic _ _ => none
  | .exc _ _ _ => none
  | .err _ _ _ => none
  | _ => some false
def hasF (nm : Str) : D → Bool
  | .obj _ ks _ => ks.contains nm
  | _ => false
/-- plain data: no objects at the top -/
def plainB : D → Bool
  | .obj _ _ _ => false
  | .scr _ => false
  | .dct => false
  | .dic _ _ => false
  | .exc _ _ _ => false
  | .err _ _ _ => false
  | _ => true
/-- what is asked of the other operand -/
def okO (o : OOp) (c : Nat) (e : D) : Bool := match o with
  | .eq => isObj c e || plainB e
  | .ne => isObj c e || plainB e
  | .add => isObj c e
  | _ => true
/-- what an own operator's answer becomes -/
def postO : OOp → RV → Option RV
  | .eq, .fz (.bl b) => some (.fz (.bl b))
  | .ne, .fz (.bl b) => some (.fz (.bl (!b)))
  | .inn, .fz (.bl b) => some (.fz (.bl b))
  | .notin, .fz (.bl b) => some (.fz (.bl (!b)))
  | .ix, r => some r
  | .add, r => some r
  | _, _ => none
/-- the same operator on plain data -/
def plainO : OOp → D → D → Option RV
  | .eq, d, e => (cmpD .eq d e).map fun b => .fz (.bl b)
  | .ne, d, e => (cmpD .ne d e).map fun b => .fz (.bl b)
  | .inn, d, e => (cmpD .inn d e).map fun b => .fz (.bl b)
  | .notin, d, e => (cmpD .notin d e).map fun b => .fz (.bl b)
  | .ix, d, e => (ixD d e).map .fz
  | .add, d, e => binD .add d e
/-- whose method it is -/
def selfO (o : OOp) (d e : D) : D × D := match o with
  | .inn => (e, d)
  | .notin => (e, d)
  | _ => (d, e)
def asgT : Tg → D → Ct → Option Ct
  | .nm i, d, Γ => if i < Γ.length then some (Γ.set i (some (d, false))) else none
  | .tp ts, .tup ds, Γ => asgTs ts ds Γ
  | _, _, _ => none
where asgTs : List Tg → List D → Ct → Option Ct
  | [], [], Γ => some Γ
  | t :: ts, d :: ds, Γ => (asgT t d Γ).bind fun Γ1 => asgTs ts ds Γ1
  | _, _, _ => none

/-- what is walked -/
def enumD : Nat → List D → List D
  | _, [] => []
  | n, d :: ds => .tup [.int n, d] :: enumD (n + 1) ds
def zipD : List D → List D → List D
  | a :: as, b :: bs => .tup [a, b] :: zipD as bs
  | _, _ => []
def rngD (lo : Int) (c : Int) : Nat → List D
  | 0 => []
  | n + 1 => .int lo :: rngD (lo + c) c n
@[irreducible] def in62 (i : Int) : Bool := decide (i.natAbs.log2 < 62)
def iterD : IK → List RV → Ct → Option (List D × Ct)
  | .seq, [x], Γ => (fre Γ x).bind fun (d, Γ1) => match d with
    | .lst ds => some (ds, Γ1)
    | .tup ds => some (ds, Γ1)
    | _ => none
  | .enum, [x], Γ => (fre Γ x).bind fun (d, Γ1) => match d with
    | .lst ds => some (enumD 0 ds, Γ1)
    | _ => none
  | .zip, [x, y], Γ => (fre Γ x).bind fun (d, Γ1) => (fre Γ1 y).bind fun (e, Γ2) => match d, e with
    | .lst ds, .lst es => some (zipD ds es, Γ2)
    | _, _ => none
  | .rng, xs, Γ => (datums Γ xs).bind fun ds => match ds with
    | [.int b] => if in62 b then some (rngD 0 1 b.toNat, Γ) else none
    | [.int a, .int b] => if in62 a && in62 b then some (rngD a 1 (b - a).toNat, Γ) else none
    | [.int a, .int b, .int c] => if c ≠ 0 ∧ c.natAbs.log2 < 9000 ∧ Builtin.Range.rangeSize a b c = ((Builtin.Range.rangeSize a b c).toNat : Nat) then some (rngD a c (Builtin.Range.rangeSize a b c).toNat, Γ) else none
    | _ => none
  | _, _, _ => none
def wipeG (Γ : Ct) : List Nat → Ct
  | [] => Γ
  | v :: vs => (wipeG Γ vs).set v none
def restG (Γ Γ' : Ct) : List Nat → Ct
  | [] => Γ'
  | v :: vs => (restG Γ Γ' vs).set v (Γ.getD v none)
/-- no owned slot among these -/
def plainIx (Γ : Ct) (vs : List Nat) : Bool := vs.all fun v => match Γ[v]? with
  | some (some (_, true)) => false
  | some _ => true
  | none => false
def testD (Γ : Ct) (x : RV) : Option Bool := (datum Γ x).bind truthD
def compLoop (own : List Nat) (tg : Tg) (ct : Ct → Option (Bool × Ct)) (el : Ct → Option (RV × Ct)) : List D → List D → Ct → Option (List D × Ct)
  | [], acc, Γ => some (acc, Γ)
  | d :: ds, acc, Γ => (asgT tg d Γ).bind fun Γ1 => (ct Γ1).bind fun (b, Γ2) =>
    if b then (el Γ2).bind fun (x, Γ3) => (fre Γ3 x).bind fun (e, Γ4) => if plainIx Γ4 own then compLoop own tg ct el ds (acc ++ [e]) (wipeG Γ4 own) else none
    else if plainIx Γ2 own then compLoop own tg ct el ds acc (wipeG Γ2 own) else none

@[irreducible] def lenOk (n : Int) : Bool := decide (0 ≤ n ∧ n < 1000000000)
theorem lenOk_iff {n : Int} : lenOk n = true ↔ 0 ≤ n ∧ n < 1000000000 := by unfold lenOk; exact decide_eq_true_iff
def slO : List D → Option (Option Int)
  | [] => some none
  | [.int i] => some (some i)
  | _ => none
def rnglD : D → D → Option (List D)
  | .int a, .int b => if in62 a && in62 b && decide ((b - a).toNat ≤ 1000000) then some (rngD a 1 (b - a).toNat) else none
  | _, _ => none
def tupOf : D → Option (List D)
  | .tup xs => some xs
  | _ => none
def trueR : Option (RV × Ct) → Bool
  | some (.fz (.bl true), _) => true
  | _ => false
/-- objects of class c, equal one by one by their own == -/
def tneD (F : FS) (c : Nat) : List D → List D → Bool
  | [], [] => true
  | x :: xs, y :: ys => isObj c x && isObj c y && trueR (F [some (x, false), some (y, false)]) && tneD F c xs ys
  | _, _ => false
def revD : D → Option D
  | .lst xs => some (.lst xs.reverse)
  | _ => none
/-- max(xs, default=d), min(xs, default=d) -/
def mxdD (m : Bool) : D → D → Option D
  | .lst xs, d => (intsD xs).bind fun ns => match (if m then maxI ns else minI ns) with
    | some i => some (.int i)
    | none => if flatD d then some d else none
  | _, _ => none
def cntD : D → D → Option D
  | .lst xs, d => if flatD d && xs.all flatD then some (.int ((xs.filter fun y => eqd y d).length : Int)) else none
  | _, _ => none
def isLD : D → Bool
  | .lst _ => true
  | _ => false
def idxD : D → D → Option D
  | .lst xs, d => if flatD d && xs.all flatD then (xs.findIdx? fun y => eqd y d).map fun j => .int (j : Nat) else none
  | _, _ => none
def popD (Γ : Ct) (i : Nat) : Option (D × D) := match Γ[i]? with
  | some (some (.lst xs, true)) => match xs.getLast? with
    | some d => some (d, .lst xs.dropLast)
    | none => none
  | _ => none
def lstOf : D → Option (List D)
  | .lst ds => some ds
  | _ => none
def falseR : Option (RV × Ct) → Bool
  | some (.fz (.bl b), _) => !b
  | _ => false
def nltD : D → Bool
  | .non => true
  | .lst _ => true
  | .tup _ => true
  | _ => false
/-- an item that is not equal to d, by the own == of one of them -/
def nqD (F F2 : FS) (c2 : Nat) (d e : D) : Bool := (nltD e && falseR (F [some (d, false), some (e, false)])) || (isObj c2 e && falseR (F2 [some (e, false), some (d, false)]))
def dgetL : List Int → List D → Int → Option D
  | k :: ks, d :: ds, i => if k = i then some d else dgetL ks ds i
  | _, _, _ => none
def dgetD : D → D → Option D
  | .dic ks ds, .int i => dgetL ks ds i
  | _, _ => none
def dinD : D → D → Option Bool
  | .int i, .dic ks _ => some (ks.contains i)
  | _, _ => none
mutual
def ev (fs : List FS) : E → Ct → Option (RV × Ct)
  | .stuck, _ => none
  | .var i, Γ => match Γ[i]? with
    | some (some _) => some (.sl i, Γ)
    | _ => none
  | .cst d, Γ => some (.fz d, Γ)
  | .bin op a b, Γ => (ev fs a Γ).bind fun (x, Γ1) => (ev fs b Γ1).bind fun (y, Γ2) => (datum Γ2 x).bind fun d => (datum Γ2 y).bind fun e => (binD op d e).map fun r => (r, Γ2)
  | .neg a, Γ => (ev fs a Γ).bind fun (x, Γ1) => (datum Γ1 x).bind fun d => match d with
    | .int i => some (.fz (.int (-i)), Γ1)
    | _ => none
  | .cmp op a b, Γ => (ev fs a Γ).bind fun (x, Γ1) => (ev fs b Γ1).bind fun (y, Γ2) => (datum Γ2 x).bind fun d => (datum Γ2 y).bind fun e => (cmpD op d e).map fun r => (.fz (.bl r), Γ2)
  | .chain o1 o2 a b c, Γ => (ev fs a Γ).bind fun (x, Γ1) => (ev fs b Γ1).bind fun (y, Γ2) => (datum Γ2 x).bind fun d => (datum Γ2 y).bind fun e => (cmpD o1 d e).bind fun r =>
      if r then (ev fs c Γ2).bind fun (z, Γ3) => (datum Γ3 y).bind fun e => (datum Γ3 z).bind fun f => (cmpD o2 e f).map fun r => (.fz (.bl r), Γ3)
      else some (.fz (.bl false), Γ2)
  | .and a b, Γ => (ev fs a Γ).bind fun (x, Γ1) => (testD Γ1 x).bind fun t => if t then ev fs b Γ1 else some (x, Γ1)
  | .or a b, Γ => (ev fs a Γ).bind fun (x, Γ1) => (testD Γ1 x).bind fun t => if t then some (x, Γ1) else ev fs b Γ1
  | .not a, Γ => (ev fs a Γ).bind fun (x, Γ1) => (testD Γ1 x).map fun t => (.fz (.bl (!t)), Γ1)
  | .ite c a b, Γ => (ev fs c Γ).bind fun (x, Γ1) => (testD Γ1 x).bind fun t => if t then ev fs a Γ1 else ev fs b Γ1
  | .lst es, Γ => (evs fs es Γ).bind fun (xs, Γ1) => (fres xs Γ1).bind fun (ds, Γ2) => if ds.length ≤ sizeLine then some (.nw (.lst ds), Γ2) else none
  | .tup es, Γ => (evs fs es Γ).bind fun (xs, Γ1) => (fres xs Γ1).bind fun (ds, Γ2) => if ds.length ≤ sizeLine then some (.fz (.tup ds), Γ2) else none
  | .ix a b, Γ => (ev fs a Γ).bind fun (x, Γ1) => (ev fs b Γ1).bind fun (y, Γ2) => (datum Γ2 x).bind fun d => (datum Γ2 y).bind fun e => (ixD d e).map fun r => (.fz r, Γ2)
  | .slc a lo hi, Γ => (ev fs a Γ).bind fun (x, Γ1) => (evs fs lo Γ1).bind fun (ys, Γ2) => (datums Γ2 ys).bind fun l => (evs fs hi Γ2).bind fun (zs, Γ3) => (datum Γ3 x).bind fun d => (datums Γ3 zs).bind fun h =>
      (slO l).bind fun lo' => (slO h).bind fun hi' => (slcD d lo' hi').map fun r => (r, Γ3)
  | .call k es, Γ => (evs fs es Γ).bind fun (xs, Γ1) => (fs[k]?).bind fun F => (argSs Γ1 xs).bind fun as => if nodupB (ownIx Γ1 xs) then (F (as.map some)).bind fun (r, os) => match r with
      | .sl _ => none
      | r => some (r, putOuts Γ1 xs os Γ1)
    else none
  | .bi b es, Γ => (evs fs es Γ).bind fun (xs, Γ1) => (datums Γ1 xs).bind fun ds => (biD b ds).map fun r => (r, Γ1)
  | .comp own tg ik its cond elt, Γ => (evs fs its Γ).bind fun (xs, Γ1) => (iterD ik xs Γ1).bind fun (ds, Γ2) =>
      if plainIx Γ2 own && decide (ds.length ≤ sizeLine) && (tgIx tg).all (fun i => own.contains i) then
        (compLoop own tg (evc fs cond) (ev fs elt) ds [] (wipeG Γ2 own)).map fun (acc, Γ3) => (.nw (.lst acc), restG Γ2 Γ3 own)
      else none
  | .fld cs a nm, Γ => (ev fs a Γ).bind fun (x, Γ1) => (datum Γ1 x).bind fun d => (fldD cs d nm).map fun r => (.fz r, Γ1)
  | .meth c nm k o es, Γ => (ev fs o Γ).bind fun (x, Γ0) => (fre Γ0 x).bind fun (d, Γ1) => if isObj c d && !(hasF nm d) then (evs fs es Γ1).bind fun (ys, Γ2) => (fs[k]?).bind fun F => callD F (.fz d :: ys) Γ2 else none
  | .mk c k es, Γ => (evs fs es Γ).bind fun (ys, Γ1) => (fs[k]?).bind fun F => mkD F c ys Γ1
  | .own o c k a b, Γ => (ev fs a Γ).bind fun (x, Γ1) => (ev fs b Γ1).bind fun (y, Γ2) => (datum Γ2 x).bind fun d => (datum Γ2 y).bind fun e =>
      if isObj c (selfO o d e).1 then (fre Γ2 x).bind fun (d', Γ3) => (fre Γ3 y).bind fun (e', Γ4) => if isObj c (selfO o d' e').1 && okO o c (selfO o d' e').2 then (fs[k]?).bind fun F => (callD F [.fz (selfO o d' e').1, .fz (selfO o d' e').2] Γ4).bind fun (r, Γ5) => (postO o r).map fun r' => (r', Γ5) else none
      else (plainO o d e).map fun r => (r, Γ2)
  | .lenO c k a, Γ => (ev fs a Γ).bind fun (x, Γ1) => (datum Γ1 x).bind fun d =>
      if isObj c d then (fre Γ1 x).bind fun (_, Γ2) => (fs[k]?).bind fun F => (callD F [.fz d] Γ2).bind fun (r, Γ3) => match r with
        | .fz (.int n) => if lenOk n then some (.fz (.int n), Γ3) else none
        | _ => none
      else (biD .len [d]).map fun r => (r, Γ1)
  | .isc cs c a, Γ => (ev fs a Γ).bind fun (x, Γ1) => (datum Γ1 x).bind fun d => (iscD cs c d).map fun b => (.fz (.bl b), Γ1)
  | .callp k p es, Γ => (evs fs es Γ).bind fun (xs, Γ1) => (fs[k]?).bind fun F => if permOk p xs.length then callD F (permL p xs) Γ1 else none
  | .mkp c k p es, Γ => (evs fs es Γ).bind fun (xs, Γ1) => (fs[k]?).bind fun F => if permOk p xs.length then mkD F c (permL p xs) Γ1 else none
  | .chain3 o1 o2 o3 a b c d, Γ => (ev fs a Γ).bind fun (x, Γ1) => (ev fs b Γ1).bind fun (y, Γ2) => (datum Γ2 x).bind fun dx => (datum Γ2 y).bind fun dy => (cmpD o1 dx dy).bind fun r =>
      if r then (ev fs c Γ2).bind fun (z, Γ3) => (datum Γ3 y).bind fun dy => (datum Γ3 z).bind fun dz => (cmpD o2 dy dz).bind fun r =>
        if r then (ev fs d Γ3).bind fun (u, Γ4) => (datum Γ4 z).bind fun dz => (datum Γ4 u).bind fun du => (cmpD o3 dz du).map fun r => (.fz (.bl r), Γ4)
        else some (.fz (.bl false), Γ3)
      else some (.fz (.bl false), Γ2)
  | .rev a, Γ => (ev fs a Γ).bind fun (x, Γ1) => (datum Γ1 x).bind fun d => (revD d).map fun r => (.nw r, Γ1)
  | .dct, Γ => some (.fz .dct, Γ)
  | .tne c k a b, Γ => (ev fs a Γ).bind fun (x, Γ1) => (ev fs b Γ1).bind fun (y, Γ2) => (datum Γ2 x).bind fun d => (datum Γ2 y).bind fun e => (tupOf d).bind fun ds => (tupOf e).bind fun es => (fs[k]?).bind fun F => if tneD F c ds es then some (.fz (.bl false), Γ2) else none
  | .rngl a b, Γ => (ev fs a Γ).bind fun (x, Γ1) => (ev fs b Γ1).bind fun (y, Γ2) => (datum Γ2 x).bind fun d => (datum Γ2 y).bind fun e => (rnglD d e).map fun ds => (.nw (.lst ds), Γ2)
  | .mxd m a d, Γ => (ev fs a Γ).bind fun (x, Γ1) => (ev fs d Γ1).bind fun (y, Γ2) => (datum Γ2 x).bind fun dx => (datum Γ2 y).bind fun dy => (mxdD m dx dy).map fun r => (.fz r, Γ2)
  | .cnt a b, Γ => (ev fs a Γ).bind fun (x, Γ1) => (datum Γ1 x).bind fun d0 => if isLD d0 then (ev fs b Γ1).bind fun (y, Γ2) => (datum Γ2 x).bind fun dx => (datum Γ2 y).bind fun dy => (cntD dx dy).map fun r => (.fz r, Γ2) else none
  | .pop i, Γ => (popD Γ i).map fun (d, c) => (.fz d, Γ.set i (some (c, true)))
  | .idx a b, Γ => (ev fs a Γ).bind fun (x, Γ1) => (datum Γ1 x).bind fun d0 => if isLD d0 then (ev fs b Γ1).bind fun (y, Γ2) => (datum Γ2 x).bind fun dx => (datum Γ2 y).bind fun dy => (idxD dx dy).map fun r => (.fz r, Γ2) else none
  | .shr a, Γ => (ev fs a Γ).bind fun (x, Γ1) => (fre Γ1 x).map fun (d, Γ2) => (.fz d, Γ2)
  | .inO c k c2 k2 a b, Γ => (ev fs a Γ).bind fun (x, Γ1) => (ev fs b Γ1).bind fun (y, Γ2) => (fre Γ2 x).bind fun (d, Γ3) => (fre Γ3 y).bind fun (e, Γ4) => (lstOf e).bind fun es => (fs[k]?).bind fun F => (fs[k2]?).bind fun F2 => if isObj c d && es.all (nqD F F2 c2 d) then some (.fz (.bl false), Γ4) else none
  | .dget a b, Γ => (ev fs a Γ).bind fun (x, Γ1) => (ev fs b Γ1).bind fun (y, Γ2) => (datum Γ2 x).bind fun d => (datum Γ2 y).bind fun e => (dgetD d e).map fun r => (.fz r, Γ2)
  | .din a b, Γ => (ev fs a Γ).bind fun (x, Γ1) => (ev fs b Γ1).bind fun (y, Γ2) => (datum Γ2 x).bind fun d => (datum Γ2 y).bind fun e => (dinD d e).map fun r => (.fz (.bl r), Γ2)
  | .ownx o c k a b, Γ => (ev fs a Γ).bind fun (x, Γ1) => (ev fs b Γ1).bind fun (y, Γ2) => (fre Γ2 x).bind fun (d, Γ3) => (fre Γ3 y).bind fun (e, Γ4) => if isObj c d && okO o c e then (fs[k]?).bind fun F => callD F [.fz d, .fz e] Γ4 else none
  | .mkx c k es, Γ => (evs fs es Γ).bind fun (ys, Γ1) => (fs[k]?).bind fun F => mkX F c ys Γ1
  | .xis all cs i, Γ => (xisD all cs (Γ.getD i none)).map fun b => (.fz (.bl b), Γ)
  | .xfld all i nm, Γ => (xfldD all nm (Γ.getD i none)).map fun r => (.fz r, Γ)
  | .said d0 sd a, Γ => (ev fs a Γ).bind fun (x, Γ1) => (saidD d0 sd x).map fun d => (.fz d, Γ1)
def evs (fs : List FS) : List E → Ct → Option (List RV × Ct)
  | [], Γ => some ([], Γ)
  | e :: es, Γ => (ev fs e Γ).bind fun (x, Γ1) => (evs fs es Γ1).map fun (xs, Γ2) => (x :: xs, Γ2)
def evc (fs : List FS) : List E → Ct → Option (Bool × Ct)
  | [], Γ => some (true, Γ)
  | [e], Γ => (ev fs e Γ).bind fun (x, Γ1) => (testD Γ1 x).map fun t => (t, Γ1)
  | _, _ => none
end

/-! ### statements -/
/-- what is done with the value of a call that may raise -/
inductive XDst where
  | drop | asg (tg : Tg) | asgO (i : Nat) | ret
inductive S where
  | stuck | pass | brk | cont | retN
  | asg (tg : Tg) (e : E)
  | asgO (i : Nat) (e : E)
  | par (is : List (Nat × Bool)) (es : List E)
  | expr (e : E)
  | app (i : Nat) (e : E)
  | ext (i : Nat) (e : E)
  | seti (i : Nat) (k e : E)
  | ret (e : E)
  | ite (c : E) (a b : List S)
  | whl (c : E) (b : List S)
  | for_ (tg : Tg) (ik : IK) (its : List E) (b : List S)
  | setf (c : Nat) (i : Nat) (nm : Str) (e : E)
  | xapp (a : E) (d : D)
  | grow (c i : Nat) (nm : Str) (e0 : E) (tg : Tg) (e1 e2 : E) (k : Nat) (es : List E)
  | rse (c : Nat) (ks : List Str) (es : List E)
  | xex (e : E) (k : XDst)
  | try_ (is : List Nat) (b : List S) (hs : List (Nat × (Nat → List Str → List D → Ct → Option Ct)))
inductive Out where
  | nx (Γ : Ct) | rt (r : RV) (Γ : Ct) | bk (Γ : Ct) | ct (Γ : Ct) | xc (c : Nat) (ks : List Str) (ds : List D) (Γ : Ct)

def disjB (xs ys : List Nat) : Bool := xs.all fun x => !(ys.contains x)
def forLoop (tg : Tg) (body : Ct → Option Out) : List D → Ct → Option Out
  | [], Γ => some (.nx Γ)
  | d :: ds, Γ => (asgT tg d Γ).bind fun Γ1 => (body Γ1).bind fun o => match o with
    | .nx Γ2 => forLoop tg body ds Γ2
    | .ct Γ2 => forLoop tg body ds Γ2
    | .bk Γ2 => some (.nx Γ2)
    | .rt r Γ2 => some (.rt r Γ2)
    | .xc c ks ds Γ2 => some (.xc c ks ds Γ2)
def whlLoop (c : Ct → Option (Bool × Ct)) (body : Ct → Option Out) : Nat → Ct → Option Out
  | 0, _ => none
  | n + 1, Γ => (c Γ).bind fun (b, Γ1) => if b then (body Γ1).bind fun o => match o with
    | .nx Γ2 => whlLoop c body n Γ2
    | .ct Γ2 => whlLoop c body n Γ2
    | .bk Γ2 => some (.nx Γ2)
    | .rt r Γ2 => some (.rt r Γ2)
    | .xc c ks ds Γ2 => some (.xc c ks ds Γ2)
   else some (.nx Γ1)
def fuel : Nat := 1000000000
/-- the values of a parallel assignment, one after another: plain ones, but for new ones that are to be owned; then they are stored -/
def evn (fs : List FS) : List (Nat × Bool) → List E → Ct → Option (List RV × Ct)
  | [], [], Γ => some ([], Γ)
  | (i, b) :: is, e :: es, Γ => (ev fs e Γ).bind fun (x, Γ1) => match b, x with
    | true, .nw d => (evn fs is es Γ1).map fun (ys, Γ2) => (.nw d :: ys, Γ2)
    | _, x => (fre Γ1 x).bind fun (d, Γ2) => (evn fs is es Γ2).map fun (ys, Γ3) => (.fz d :: ys, Γ3)
  | _, _, _ => none
def parS : List (Nat × Bool) → List RV → Ct → Option Ct
  | [], [], Γ => some Γ
  | (i, _) :: is, .nw d :: xs, Γ => if i < Γ.length then parS is xs (Γ.set i (some (d, true))) else none
  | (i, _) :: is, .fz d :: xs, Γ => if i < Γ.length then parS is xs (Γ.set i (some (d, false))) else none
  | _, _, _ => none
def isLst (Γ : Ct) (i : Nat) : Bool := match Γ[i]? with
  | some (some (.lst _, _)) => true
  | _ => false
def appD : D → D → Option D
  | .lst xs, d => if xs.length < sizeLine then some (.lst (xs ++ [d])) else none
  | _, _ => none
def extD : D → D → Option D
  | .lst xs, .lst ys => if xs.length + ys.length ≤ sizeLine then some (.lst (xs ++ ys)) else none
  | _, _ => none
def setD : D → D → D → Option D
  | .lst xs, .int k, d => (ixN xs.length k).map fun j => .lst (xs.set j d)
  | _, _, _ => none
def putL (nm : Str) (d : D) : List Str → List D → List Str × List D
  | k :: ks, x :: xs => if k = nm then (k :: ks, d :: xs) else let r := putL nm d ks xs; (k :: r.1, x :: r.2)
  | _, _ => ([nm], [d])
def putD (c0 : Nat) : D → Str → D → Option D
  | .obj c ks ds, nm, d => if c = c0 ∧ ks.length < 1000 ∧ ks.length = ds.length then some (.obj c (putL nm d ks ds).1 (putL nm d ks ds).2) else none
  | _, _, _ => none
/-- the clauses of a try: sub tells which classes are caught by the clause of a class -/
def tryH (sub : Nat → Nat → Bool) (c : Nat) (ks : List Str) (ds : List D) (Γ : Ct) : List (Nat × (Nat → List Str → List D → Ct → Option Ct)) → Option Out
  | [] => some (.xc c ks ds Γ)
  | (k, f) :: r => if sub c k then (f c ks ds Γ).map .nx else tryH sub c ks ds Γ r
/-- an exception's fields -/
def excOk (ks : List Str) (ds : List D) : Bool := decide (ks.length = ds.length)
/-- class k is the base class of the program's errors (0), or the class itself -/
def subX (c k : Nat) : Bool := k == 1000 || c == k
/-- a list in a field grows: its last item goes to a call, whose answer is appended -/
def growLoop (tg : Tg) (F : FS) (el : Ct → Option (List RV × Ct)) : List D → List D → Ct → Option (List D × Ct)
  | [], L, Γ => some (L, Γ)
  | d :: rest, L, Γ => (asgT tg d Γ).bind fun Γ1 => (L.getLast?).bind fun l => (el Γ1).bind fun (ys, Γ2) => (callD F (.fz l :: ys) Γ2).bind fun (r, Γ3) => (fre Γ3 r).bind fun (y, Γ4) => if L.length < sizeLine then growLoop tg F el rest (L ++ [y]) Γ4 else none
mutual
def ex (fs : List FS) (pn : List Nat) : S → Ct → Option Out
  | .stuck, _ => none
  | .pass, Γ => some (.nx Γ)
  | .brk, Γ => some (.bk Γ)
  | .cont, Γ => some (.ct Γ)
  | .retN, Γ => some (.rt (.fz .non) Γ)
  | .asg tg e, Γ => (ev fs e Γ).bind fun (x, Γ1) => (fre Γ1 x).bind fun (d, Γ2) => if disjB (tgIx tg) pn then (asgT tg d Γ2).map .nx else none
  | .asgO i e, Γ => (ev fs e Γ).bind fun (x, Γ1) => match x with
    | .nw d => if i < Γ1.length ∧ disjB [i] pn = true then some (.nx (Γ1.set i (some (d, true)))) else none
    | x => (fre Γ1 x).bind fun (d, Γ2) => if i < Γ2.length ∧ disjB [i] pn = true then some (.nx (Γ2.set i (some (d, false)))) else none
  | .par is es, Γ => if disjB (is.map (·.1)) pn then (evn fs is es Γ).bind fun (ys, Γ2) => (parS is ys Γ2).map .nx else none
  | .expr e, Γ => (ev fs e Γ).map fun (_, Γ1) => .nx Γ1
  | .app i e, Γ => if isLst Γ i then (ev fs e Γ).bind fun (x, Γ1) => (fre Γ1 x).bind fun (d, Γ2) => match Γ2[i]? with
    | some (some (c, true)) => (appD c d).map fun c' => .nx (Γ2.set i (some (c', true)))
    | _ => none
   else none
  | .ext i e, Γ => if isLst Γ i then (ev fs e Γ).bind fun (x, Γ1) => (datum Γ1 x).bind fun d => match Γ1[i]? with
    | some (some (c, true)) => (extD c d).map fun c' => .nx (Γ1.set i (some (c', true)))
    | _ => none
   else none
  | .seti i k e, Γ => (ev fs e Γ).bind fun (x, Γ1) => (fre Γ1 x).bind fun (d, Γ2) => if isLst Γ2 i then (ev fs k Γ2).bind fun (y, Γ3) => (datum Γ3 y).bind fun kd => match Γ3[i]? with
    | some (some (c, true)) => (setD c kd d).map fun c' => .nx (Γ3.set i (some (c', true)))
    | _ => none
   else none
  | .ret e, Γ => (ev fs e Γ).map fun (x, Γ1) => .rt x Γ1
  | .ite c a b, Γ => (ev fs c Γ).bind fun (x, Γ1) => (testD Γ1 x).bind fun t => if t then exs fs pn a Γ1 else exs fs pn b Γ1
  | .whl c b, Γ => whlLoop (fun Γ => (ev fs c Γ).bind fun (x, Γ1) => (testD Γ1 x).map fun t => (t, Γ1)) (exs fs pn b) fuel Γ
  | .for_ tg ik its b, Γ => (evs fs its Γ).bind fun (xs, Γ1) => (iterD ik xs Γ1).bind fun (ds, Γ2) => if disjB (tgIx tg) pn then forLoop tg (exs fs pn b) ds Γ2 else none
  | .setf c0 i nm e, Γ => (ev fs e Γ).bind fun (x, Γ1) => (fre Γ1 x).bind fun (d, Γ2) => match Γ2[i]? with
    | some (some (c, true)) => (putD c0 c nm d).map fun c' => .nx (Γ2.set i (some (c', true)))
    | _ => none
  | .xapp a d, Γ => (ev fs a Γ).bind fun (x, Γ1) => match x with
    | .nw (.lst xs) => if xs.length < sizeLine ∧ flatD d = true then some (.nx Γ1) else none
    | _ => none
  | .grow c i nm e0 tg e1 e2 k es, Γ => (ev fs e0 Γ).bind fun (x, Γ1) => match x, Γ1[i]? with
    | .nw (.lst L0), some (some (.obj c1 ks ds, true)) =>
      if c1 = c ∧ ks.length < 900 ∧ ks.length = ds.length ∧ ks.contains nm = false ∧ disjB (tgIx tg) (i :: pn) = true then
        (evs fs [e1, e2] (Γ1.set i none)).bind fun (xs, Γ2) => (iterD .zip xs Γ2).bind fun (zs, Γ3) => (fs[k]?).bind fun F =>
          (growLoop tg F (evs fs es) zs L0 Γ3).map fun (L, Γ4) => .nx (Γ4.set i (some (.obj c (ks ++ [nm]) (ds ++ [.lst L]), true)))
      else none
    | _, _ => none
  | .rse c ks es, Γ => (evs fs es Γ).bind fun (xs, Γ1) => (fres xs Γ1).bind fun (ds, Γ2) => if excOk ks ds then some (.xc c ks ds Γ2) else none
  | .xex e k, Γ => (ev fs e Γ).bind fun (x, Γ1) => match x with
    | .fz (.exc c ks ds) => some (.xc c ks ds Γ1)
    | x => match k with
      | .drop => some (.nx Γ1)
      | .ret => some (.rt x Γ1)
      | .asg tg => (fre Γ1 x).bind fun (d, Γ2) => if disjB (tgIx tg) pn then (asgT tg d Γ2).map .nx else none
      | .asgO i => match x with
        | .nw d => if i < Γ1.length ∧ disjB [i] pn = true then some (.nx (Γ1.set i (some (d, true)))) else none
        | x => (fre Γ1 x).bind fun (d, Γ2) => if i < Γ2.length ∧ disjB [i] pn = true then some (.nx (Γ2.set i (some (d, false)))) else none
  | .try_ is b hs, Γ => if disjB is pn then (exs fs pn b Γ).bind fun o => match o with
    | .xc c ks ds Γ1 => tryH subX c ks ds Γ1 hs
    | o => some o
   else none
def exs (fs : List FS) (pn : List Nat) : List S → Ct → Option Out
  | [], Γ => some (.nx Γ)
  | s :: ss, Γ => (ex fs pn s Γ).bind fun o => match o with
    | .nx Γ1 => exs fs pn ss Γ1
    | o => some o
end
/-- the slots of the arguments that are handed over -/
def ownPs : Nat → Ct → List Nat
  | _, [] => []
  | n, some (_, true) :: r => n :: ownPs (n + 1) r
  | n, _ :: r => ownPs (n + 1) r
/-- what comes back at the arguments -/
def outsOf : Ct → Ct → Ct
  | some (_, true) :: r, x :: xs => x :: outsOf r xs
  | y :: r, _ :: xs => y :: outsOf r xs
  | _, _ => []
def finish (np : Nat) (G0 : Ct) : Out → Option (RV × Ct)
  | .nx Γ => some (.fz .non, outsOf G0 Γ)
  | .rt (.fz d) Γ => some (.fz d, outsOf G0 Γ)
  | .rt (.nw d) Γ => some (.nw d, outsOf G0 Γ)
  | .rt (.sl i) Γ => match Γ[i]? with
    | some (some (d, true)) => if i < np then some (.fz d, outsOf G0 (Γ.set i (some (d, false)))) else some (.nw d, outsOf G0 Γ)
    | some (some (d, false)) => some (.fz d, outsOf G0 Γ)
    | _ => none
  | _ => none
/-- a def: np parameters, n slots -/
def runF (fs : List FS) (np n : Nat) (body : List S) : FS := fun G0 =>
  if G0.length = np then (exs fs (ownPs 0 G0) body (G0 ++ List.replicate (n - np) none)).bind (finish np G0) else none
end DV

namespace DV
open PySem L2

/-! ### results -/
def Val (g : Gx) (Bn : Addr → Prop) (Ow : List Addr) (H : Hp) (σ : St) (Γ : Ct) : RV → V → Prop
  | .fz d, v => Rep g (Av Bn Ow) H d v
  | .nw d, v => ∃ a, v = .ref a ∧ a ∈ Ow ∧ OwnA g (Av Bn Ow) H d a ∧ ∀ (i : Nat) e, Γ[i]? = some (some (e, true)) → σ[i]? ≠ some (some (.ref a))
  | .sl i, v => σ[i]? = some (some v)
def RV.dn : RV → RV
  | .nw d => .fz d
  | r => r
theorem datum_dn (Γ : Ct) (r : RV) : datum Γ r.dn = datum Γ r := by cases r <;> rfl
theorem fre_dn (Γ : Ct) (r : RV) : fre Γ r.dn = fre Γ r := by cases r <;> rfl
/-- a value that can be read: its top may be owned -/
def Rdb (g : Gx) (A : Addr → Prop) (H : Hp) (d : D) (v : V) : Prop :=
  match d with
  | .lst ds => ∃ a vs, v = .ref a ∧ H a = some (.lst vs) ∧ Reps g A H ds vs
  | .obj c ks ds => ∃ a dx vs, v = .ref a ∧ ks.length = vs.length ∧ H a = some (.ins (g.cl c) dx (ks.zip vs)) ∧ Reps g A H ds vs
  | d => Rep g A H d v
section
variable {g : Gx} {Bn : Addr → Prop} {Ow Ow' : List Addr} {H H' : Hp} {σ : St} {Γ Γ' : Ct} {A : Addr → Prop}
theorem Rep.rdb {d : D} {v : V} (h : Rep g A H d v) : Rdb g A H d v := by
  cases d with
  | lst ds => simp only [Rep] at h; obtain ⟨a, vs, e, _, s, r⟩ := h; exact ⟨a, vs, e, s, r⟩
  | obj c ks ds => simp only [Rep] at h; obtain ⟨a, dx, vs, e, _, l, s, r⟩ := h; exact ⟨a, dx, vs, e, l, s, r⟩
  | _ => exact h
theorem OwnA.rdb {d : D} {a : Addr} (h : OwnA g A H d a) : Rdb g A H d (.ref a) := by
  cases d with
  | lst ds => obtain ⟨vs, e, r⟩ := h; exact ⟨a, vs, rfl, e, r⟩
  | obj c ks ds => obtain ⟨dx, vs, l, e, r⟩ := h; exact ⟨a, dx, vs, rfl, l, e, r⟩
  | _ => exact h.elim
theorem Rdb.same {d : D} {v : V} (h : Rdb g A H d v) (s : Same H H') : Rdb g A H' d v := by
  cases d with
  | lst ds => obtain ⟨a, vs, e, s1, r⟩ := h; exact ⟨a, vs, e, s _ _ s1, r.same s⟩
  | obj c ks ds => obtain ⟨a, dx, vs, e, l, s1, r⟩ := h; exact ⟨a, dx, vs, e, l, s _ _ s1, r.same s⟩
  | _ => exact Rep.same h s
theorem ct_get {i : Nat} {p : D × Bool} (h : Γ[i]? = some (some p)) : p = (p.1, p.2) := rfl
theorem Val.rdb {r : RV} {v : V} {d : D} (rs : RS g Bn Ow H σ Γ) (h : Val g Bn Ow H σ Γ r v) (e : datum Γ r = some d) : Rdb g (Av Bn Ow) H d v := by
  cases r with
  | fz x => simp only [datum, Option.some.injEq] at e; subst e; exact Rep.rdb h
  | nw x => simp only [datum, Option.some.injEq] at e; subst e; obtain ⟨a, rfl, _, o, _⟩ := h; exact o.rdb
  | sl i =>
    simp only [datum] at e
    have h : σ[i]? = some (some v) := h
    split at e
    · rename_i x b q
      cases e
      cases b with
      | false => obtain ⟨w, e1, r1⟩ := rs.slot i _ q; rw [h] at e1; cases e1; exact r1.rdb
      | true => obtain ⟨a, e1, _, o⟩ := rs.own i _ q; rw [h] at e1; cases e1; exact o.rdb
    · cases e
/-- pending values over a step -/
theorem Val.step {r : RV} {v : V} (h : Val g Bn Ow H σ Γ r.dn v) (s : Stp Ow H Ow' H') (rs : RS g Bn Ow' H' σ Γ') : Val g Bn Ow' H' σ Γ' r.dn v := by
  cases r with
  | fz x => exact Rep.step h s rs
  | nw x => exact Rep.step h s rs
  | sl i => exact h
/-- fewer owned -/
theorem RS.less (rs : RS g Bn Ow H σ Γ) (k : ∀ a, a ∈ Ow' → a ∈ Ow) (ks : ∀ (i : Nat) d a, Γ[i]? = some (some (d, true)) → σ[i]? = some (some (.ref a)) → a ∈ Ow → a ∈ Ow') : RS g Bn Ow' H σ Γ := by
  have kk : ∀ a, Av Bn Ow' a → Av Bn Ow a := fun a h => h.elim .inl fun z => .inr (k a z)
  refine ⟨rs.len, fun i d h => ?_, fun i d h => ?_, rs.dist, fun a h => rs.trl a (kk a h), fun a h z => rs.sep a h (k a z), fun a h => rs.kf a (kk a h), rs.tabs⟩
  · obtain ⟨v, e, r⟩ := rs.slot i d h; exact ⟨v, e, rep_less kk r⟩
  · obtain ⟨a, e, m, r⟩ := rs.own i d h; exact ⟨a, e, ks i d a h e m, own_less kk r⟩
theorem stp_less (k : ∀ a, a ∈ Ow' → a ∈ Ow) : Stp Ow H Ow' H := ⟨fun _ _ h _ _ => h, fun a h => .inl (k a h)⟩
theorem mem_ne {a b : Addr} (h : a ∈ Ow.filter (fun x => decide (x ≠ b))) : a ∈ Ow ∧ a ≠ b := by
  have := List.mem_filter.mp h
  exact ⟨this.1, of_decide_eq_true this.2⟩
theorem ne_mem {a b : Addr} (h : a ∈ Ow) (n : a ≠ b) : a ∈ Ow.filter (fun x => decide (x ≠ b)) := List.mem_filter.mpr ⟨h, decide_eq_true n⟩
/-- a value becomes a plain one -/
theorem fre_ok {r : RV} {v : V} {d : D} (rs : RS g Bn Ow H σ Γ) (h : Val g Bn Ow H σ Γ r v) (e : fre Γ r = some (d, Γ')) : ∃ Ow', Stp Ow H Ow' H ∧ RS g Bn Ow' H σ Γ' ∧ Rep g (Av Bn Ow') H d v := by
  cases r with
  | fz x => simp only [fre, Option.some.injEq, Prod.mk.injEq] at e; obtain ⟨rfl, rfl⟩ := e; exact ⟨Ow, .refl _ _, rs, h⟩
  | nw x =>
    simp only [fre, Option.some.injEq, Prod.mk.injEq] at e; obtain ⟨rfl, rfl⟩ := e
    obtain ⟨a, rfl, m, o, no⟩ := h
    have kk : ∀ b, b ∈ Ow.filter (fun x => decide (x ≠ a)) → b ∈ Ow := fun b z => (mem_ne z).1
    refine ⟨Ow.filter (fun x => decide (x ≠ a)), stp_less kk, rs.less kk (fun i d b q1 q2 q3 => ne_mem q3 fun z => ?_), (own_less (fun b z => z.elim .inl fun z => .inr (kk b z)) o).rep fun z => ?_⟩
    · subst z; exact no i d q1 q2
    · rcases z with z | z
      · exact rs.sep a z m
      · exact (mem_ne z).2 rfl
  | sl i =>
    simp only [fre] at e
    have h : σ[i]? = some (some v) := h
    split at e
    · rename_i x q
      simp only [Option.some.injEq, Prod.mk.injEq] at e; obtain ⟨rfl, rfl⟩ := e
      obtain ⟨a, e1, m, o⟩ := rs.own i _ q
      rw [h] at e1; cases e1
      have kk : ∀ b, b ∈ Ow.filter (fun x => decide (x ≠ a)) → b ∈ Ow := fun b z => (mem_ne z).1
      have ka : ∀ b, Av Bn (Ow.filter (fun x => decide (x ≠ a))) b → Av Bn Ow b := fun b z => z.elim .inl fun z => .inr (kk b z)
      have hil : i < Γ.length := (List.getElem?_eq_some_iff.mp q).1
      have rp : Rep g (Av Bn (Ow.filter (fun x => decide (x ≠ a)))) H x (.ref a) := (own_less ka o).rep fun z => by
        rcases z with z | z
        · exact rs.sep a z m
        · exact (mem_ne z).2 rfl
      refine ⟨Ow.filter (fun x => decide (x ≠ a)), stp_less kk, ⟨by rw [List.length_set]; exact rs.len, fun j d' h' => ?_, fun j d' h' => ?_, fun j k d1 d2 b h1 h2 h3 h4 => ?_, fun b z => rs.trl b (ka b z), fun b z w => rs.sep b z (kk b w), fun b z => rs.kf b (ka b z), rs.tabs⟩, rp⟩
      · by_cases hj : i = j
        · subst hj
          rw [List.getElem?_set_self hil] at h'
          cases h'
          exact ⟨_, h, rp⟩
        · rw [List.getElem?_set_ne hj] at h'
          obtain ⟨w, e2, r2⟩ := rs.slot j d' h'
          exact ⟨w, e2, rep_less ka r2⟩
      · by_cases hj : i = j
        · subst hj
          rw [List.getElem?_set_self hil] at h'
          cases h'
        · rw [List.getElem?_set_ne hj] at h'
          obtain ⟨b, e2, m2, r2⟩ := rs.own j d' h'
          exact ⟨b, e2, ne_mem m2 fun z => hj (by subst z; exact rs.dist i j _ _ _ q h' h e2), own_less ka r2⟩
      · have ne1 : i ≠ j := fun z => by subst z; rw [List.getElem?_set_self hil] at h1; cases h1
        have ne2 : i ≠ k := fun z => by subst z; rw [List.getElem?_set_self hil] at h2; cases h2
        rw [List.getElem?_set_ne ne1] at h1
        rw [List.getElem?_set_ne ne2] at h2
        exact rs.dist j k _ _ _ h1 h2 h3 h4
    · rename_i x q
      simp only [Option.some.injEq, Prod.mk.injEq] at e; obtain ⟨rfl, rfl⟩ := e
      obtain ⟨w, e1, r1⟩ := rs.slot i _ q
      rw [h] at e1; cases e1
      exact ⟨Ow, .refl _ _, rs, r1⟩
    · cases e
theorem dn_ok {r : RV} {v : V} (rs : RS g Bn Ow H σ Γ) (h : Val g Bn Ow H σ Γ r v) : ∃ Ow', Stp Ow H Ow' H ∧ RS g Bn Ow' H σ Γ ∧ Val g Bn Ow' H σ Γ r.dn v := by
  cases r with
  | fz x => exact ⟨Ow, .refl _ _, rs, h⟩
  | sl i => exact ⟨Ow, .refl _ _, rs, h⟩
  | nw x => exact fre_ok rs h rfl
/-- a new object is laid, and owned -/
theorem RS.add {p : Addr} (rs : RS g Bn Ow H σ Γ) (s : Same H H') (np : H p = none) (hp : LI H' p) (hk : g.K.lookup p = none) : RS g Bn (p :: Ow) H' σ Γ := by
  have vs : ∀ a, Vst g (Av Bn Ow) H a → (∀ o, H a = some o → nT o → H' a = some o) ∧ ¬ Av Bn (p :: Ow) a := fun a ⟨n, t⟩ => by
    refine ⟨fun o h _ => s a o h, fun z => ?_⟩
    rcases z with z | z
    · exact n (.inl z)
    · rcases List.mem_cons.mp z with z | z
      · subst z
        rcases t with ⟨o, t, _⟩ | ⟨o, t⟩
        · rw [np] at t; cases t
        · rw [hk] at t; cases t
      · exact n (.inr z)
  refine ⟨rs.len, fun i d h => ?_, fun i d h => ?_, rs.dist, fun a h => ?_, fun a h z => ?_, fun a h => ?_, fun q hq => (rs.tabs q hq).ext s⟩
  · obtain ⟨v, e, r⟩ := rs.slot i d h; exact ⟨v, e, rep_mono vs d v r⟩
  · obtain ⟨a, e, m, r⟩ := rs.own i d h
    refine ⟨a, e, List.mem_cons_of_mem _ m, ?_⟩
    cases d with
    | lst ds => obtain ⟨ws, e1, r1⟩ := r; exact ⟨ws, s _ _ e1, reps_mono vs _ _ r1⟩
    | obj c ks ds => obtain ⟨dx, ws, l, e1, r1⟩ := r; exact ⟨dx, ws, l, s _ _ e1, reps_mono vs _ _ r1⟩
    | _ => exact r
  · rcases h with h | h
    · exact (rs.trl a (.inl h)).same s
    · rcases List.mem_cons.mp h with h | h
      · subst h; exact hp
      · exact (rs.trl a (.inr h)).same s
  · rcases List.mem_cons.mp z with z | z
    · subst z; exact rs.trk a (.inl h) np
    · exact rs.sep a h z
  · rcases h with h | h
    · exact rs.kf a (.inl h)
    · rcases List.mem_cons.mp h with h | h
      · subst h; exact hk
      · exact rs.kf a (.inr h)
theorem stp_add {p : Addr} (s : Same H H') (np : H p = none) : Stp Ow H (p :: Ow) H' where
  keep0 := fun a o h _ _ => s a o h
  grow := fun a h => by
    rcases List.mem_cons.mp h with h | h
    · subst h; exact .inr (nw_none np)
    · exact .inl h
theorem same_new {p : Addr} {o : HO} (h : H p = none) : Same H (upd H p o) := fun b x e => by
  rw [upd_ne (ne_of_none e h)]
  exact e
/-- the result of an operation that lays at most one object -/
def Res (g : Gx) (A : Addr → Prop) (H H' : Hp) : RV → V → Prop
  | .fz d, v => Rep g A H' d v
  | .nw d, v => ∃ p, v = .ref p ∧ H p = none ∧ g.K.lookup p = none ∧ OwnA g (fun a => A a ∨ a = p) H' d p
  | .sl _, _ => False
theorem Res.val {r : RV} {v : V} (rs : RS g Bn Ow H σ Γ) (s : Same H H') (h : Res g (Av Bn Ow) H H' r v) :
    ∃ Ow', Stp Ow H Ow' H' ∧ RS g Bn Ow' H' σ Γ ∧ Val g Bn Ow' H' σ Γ r v := by
  cases r with
  | fz d => exact ⟨Ow, Stp.same s, rs.same s, h⟩
  | sl i => exact h.elim
  | nw d =>
    obtain ⟨p, rfl, np, hk, o⟩ := h
    have hp : LI H' p := by
      cases d with
      | lst ds => obtain ⟨ws, e1, _⟩ := o; exact .inl ⟨_, e1⟩
      | obj c ks ds => obtain ⟨dx, ws, l, e1, _⟩ := o; exact .inr ⟨_, _, _, e1⟩
      | _ => exact o.elim
    refine ⟨p :: Ow, stp_add s np, rs.add s np hp hk, p, rfl, List.mem_cons_self, own_less (fun a z => ?_) o, fun i e h1 h2 => ?_⟩
    · rcases z with z | z
      · exact .inl (.inl z)
      · rcases List.mem_cons.mp z with z | z
        · exact .inr z
        · exact .inl (.inr z)
    · obtain ⟨a, e2, m, _⟩ := rs.own i e h1
      rw [h2] at e2; cases e2
      exact rs.trk p (.inr m) np
end

/-! ### rules, weakened and with what the state says -/
section
variable {X : Cx}
theorem Inv.kf {pins : List (Addr × Obj)} {σ : St} {H : Hp} {s : Shared} (I : Inv X pins σ H s) : ∀ a o, X.K.lookup a = some o → H a = none := fun a o e => (I.bs a o (I.ok.mod.kin a o e)).2
theorem PE.weak {e : Expr} {t t' : TE} (h : PE X e t) (k : ∀ σ H Q, t' σ H Q → t σ H Q) : PE X e t' := ⟨fun pins s σ H Q I q => h.run pins s σ H Q I (k σ H Q q)⟩
theorem PE.kf {e : Expr} {t : TE} (h : PE X e t) : PE X e (fun σ H Q => t σ H fun v H' => (∀ a o, X.K.lookup a = some o → H' a = none) → Q v H') :=
  ⟨fun pins s σ H Q I q => thn (h.run pins s σ H _ I q) fun u s1 ⟨v, H1, I1, r, q1⟩ => ⟨v, H1, I1, r, q1 (Inv.kf I1)⟩⟩
theorem PT.weak {e : Expr} {t t' : TT} (h : PT X e t) (k : ∀ σ H Q, t' σ H Q → t σ H Q) : PT X e t' := ⟨fun pins s σ H Q I q => h.run pins s σ H Q I (k σ H Q q)⟩
theorem PA.weak {e : List Expr} {t t' : TA} (h : PA X e t) (k : ∀ σ H Q, t' σ H Q → t σ H Q) : PA X e t' := ⟨fun p pins s σ H Q I q => h.run p pins s σ H Q I (k σ H Q q)⟩
theorem OpR.weak {f : Value → Value → Sem Value} {r r' : R2} (h : OpR X f r) (k : ∀ x y H Q, r' x y H Q → r x y H Q) : OpR X f r' := fun pins s σ H x y v u Q I rx ry q => h pins s σ H x y v u Q I rx ry (k x y H Q q)
theorem OpR.kf {f : Value → Value → Sem Value} {r : R2} (h : OpR X f r) : OpR X f (fun x y H Q => r x y H fun v H' => (∀ a o, X.K.lookup a = some o → H' a = none) → Q v H') := fun pins s σ H x y v u Q I rx ry q =>
  thn (h pins s σ H x y v u _ I rx ry q) fun u s1 ⟨v, H1, I1, r, q1⟩ => ⟨v, H1, I1, r, q1 (Inv.kf I1)⟩
theorem CallR.weak {f : Value} {r r' : List V → Hp → VK → Prop} (h : CallR X f r) (k : ∀ x H Q, r' x H Q → r x H Q) : CallR X f r' := fun pins s σ H x v Q I rx q => h pins s σ H x v Q I rx (k x H Q q)
theorem CallR.kf {f : Value} {r : List V → Hp → VK → Prop} (h : CallR X f r) : CallR X f (fun x H Q => r x H fun v H' => (∀ a o, X.K.lookup a = some o → H' a = none) → Q v H') := fun pins s σ H x v Q I rx q =>
  thn (h pins s σ H x v _ I rx q) fun u s1 ⟨v, H1, I1, r, q1⟩ => ⟨v, H1, I1, r, q1 (Inv.kf I1)⟩
theorem kf_new {K : PySem.W.Frag} {H : Hp} {p : Addr} {o : HO} (kf : ∀ a o, K.lookup a = some o → H a = none) (h : H p = some o) : K.lookup p = none := by
  cases e : K.lookup p with
  | none => rfl
  | some x => rw [kf p x e] at h; cases h
theorem IxR.weak {r r' : R2} (h : IxR X r) (k : ∀ x y H Q, r' x y H Q → r x y H Q) : IxR X r' := fun a b pins s σ H x y v u Q I rx ry q => h a b pins s σ H x y v u Q I rx ry (k x y H Q q)
end
end DV

namespace DV
open PySem L2
/-! ### equality of data -/
mutual
def toPy : D → PyData
  | .non => .none
  | .bl b => .bool b
  | .int i => .int i
  | .str x => .str x
  | .lst ds => .list (toPys ds)
  | .tup ds => .tuple (toPys ds)
  | .obj _ _ _ => .none
  | .scr _ => .none
  | .dct => .none
  | .dic _ _ => .none
  | .exc _ _ _ => .none
  | .err _ _ _ => .none
def toPys : List D → List PyData
  | [] => []
  | d :: ds => toPy d :: toPys ds
end
theorem okB_lst {n : Nat} {ds : List D} (h : okB n (.lst ds) = true) : ∃ m, n = m + 1 ∧ ds.all (okB m) = true := by
  cases n with
  | zero => simp [okB] at h
  | succ m => exact ⟨m, rfl, by simpa only [okB] using h⟩
theorem okB_tup {n : Nat} {ds : List D} (h : okB n (.tup ds) = true) : ∃ m, n = m + 1 ∧ ds.all (okB m) = true := by
  cases n with
  | zero => simp [okB] at h
  | succ m => exact ⟨m, rfl, by simpa only [okB] using h⟩
theorem okB_obj {n : Nat} {c : Nat} {ks : List Str} {ds : List D} : okB n (.obj c ks ds) = false := by cases n <;> rfl
theorem okB_scr {n : Nat} {ns : List Int} : okB n (.scr ns) = false := by cases n <;> rfl
theorem okB_dct {n : Nat} : okB n .dct = false := by cases n <;> rfl
theorem okB_dic {n : Nat} {ks : List Int} {ds : List D} : okB n (.dic ks ds) = false := by cases n <;> rfl
theorem okB_exc {n : Nat} {c : Nat} {ks : List Str} {ds : List D} : okB n (.exc c ks ds) = false := by cases n <;> rfl
theorem okB_err {n : Nat} {c : Nat} {ks : List Str} {ds : List D} : okB n (.err c ks ds) = false := by cases n <;> rfl
mutual
theorem py_lay : ∀ (d : D) (n : Nat), okB n d = true → PyData.canLay0 (toPy d) = true ∧ PyData.depth (toPy d) ≤ n
  | .non, n, h => ⟨rfl, Nat.zero_le _⟩
  | .bl _, n, h => ⟨rfl, Nat.zero_le _⟩
  | .int _, n, h => ⟨rfl, Nat.zero_le _⟩
  | .str x, n, h => by
    have h' : PyData.strOk x = true := by cases n <;> simpa only [okB] using h
    exact ⟨h', Nat.zero_le _⟩
  | .lst ds, n, h => by
    obtain ⟨m, rfl, h⟩ := okB_lst h
    have q := pys_lay ds m h
    exact ⟨by simpa only [toPy, PyData.canLay0] using q.1, by simp only [toPy, PyData.depth]; omega⟩
  | .tup ds, n, h => by
    obtain ⟨m, rfl, h⟩ := okB_tup h
    have q := pys_lay ds m h
    exact ⟨by simpa only [toPy, PyData.canLay0] using q.1, by simp only [toPy, PyData.depth]; omega⟩
  | .obj _ _ _, n, h => by rw [okB_obj] at h; cases h
  | .scr _, n, h => by rw [okB_scr] at h; cases h
  | .dct, n, h => by rw [okB_dct] at h; cases h
  | .dic _ _, n, h => by rw [okB_dic] at h; cases h
  | .exc _ _ _, n, h => by rw [okB_exc] at h; cases h
  | .err _ _ _, n, h => by rw [okB_err] at h; cases h
theorem pys_lay : ∀ (ds : List D) (n : Nat), ds.all (okB n) = true → PyData.canLayAll0 (toPys ds) = true ∧ PyData.depthAll (toPys ds) ≤ n
  | [], n, h => ⟨rfl, Nat.zero_le _⟩
  | d :: ds, n, h => by
    rw [List.all_cons, Bool.and_eq_true] at h
    have q1 := py_lay d n h.1
    have q2 := pys_lay ds n h.2
    refine ⟨by simp only [toPys, PyData.canLayAll0, q1.1, q2.1]; rfl, ?_⟩
    simp only [toPys, PyData.depthAll]
    omega
end
theorem py_shaped {d : D} (h : okB 12 d = true) : SeqAt.shaped (toPy d) = true := by
  have q := py_lay d 12 h
  unfold SeqAt.shaped
  rw [q.1, decide_eq_true (show PyData.depth (toPy d) ≤ 64 by omega)]
  rfl
mutual
theorem py_eqv : ∀ (d e : D) (n m : Nat), okB n d = true → okB m e = true → PyData.eqv (toPy d) (toPy e) = eqd d e
  | .lst xs, e, n, m, h, h' => by
    obtain ⟨k, rfl, h⟩ := okB_lst h
    cases e with
    | lst ys =>
      obtain ⟨k', rfl, h'⟩ := okB_lst h'
      simp only [toPy, PyData.eqv, eqd]
      exact pys_eqv xs ys k k' h h'
    | obj => rw [okB_obj] at h'; cases h'
    | scr => rw [okB_scr] at h'; cases h'
    | dct => rw [okB_dct] at h'; cases h'
    | dic _ _ => rw [okB_dic] at h'; cases h'
    | exc _ _ _ => rw [okB_exc] at h'; cases h'
    | err _ _ _ => rw [okB_err] at h'; cases h'
    | _ => simp only [toPy, PyData.eqv, eqd]
  | .tup xs, e, n, m, h, h' => by
    obtain ⟨k, rfl, h⟩ := okB_tup h
    cases e with
    | tup ys =>
      obtain ⟨k', rfl, h'⟩ := okB_tup h'
      simp only [toPy, PyData.eqv, eqd]
      exact pys_eqv xs ys k k' h h'
    | obj => rw [okB_obj] at h'; cases h'
    | scr => rw [okB_scr] at h'; cases h'
    | dct => rw [okB_dct] at h'; cases h'
    | dic _ _ => rw [okB_dic] at h'; cases h'
    | exc _ _ _ => rw [okB_exc] at h'; cases h'
    | err _ _ _ => rw [okB_err] at h'; cases h'
    | _ => simp only [toPy, PyData.eqv, eqd]
  | .non, e, n, m, h, h' => by
    cases e with
    | obj => rw [okB_obj] at h'; cases h'
    | scr => rw [okB_scr] at h'; cases h'
    | dct => rw [okB_dct] at h'; cases h'
    | dic _ _ => rw [okB_dic] at h'; cases h'
    | exc _ _ _ => rw [okB_exc] at h'; cases h'
    | err _ _ _ => rw [okB_err] at h'; cases h'
    | _ => simp only [toPy, PyData.eqv, eqd]
  | .bl _, e, n, m, h, h' => by
    cases e with
    | obj => rw [okB_obj] at h'; cases h'
    | scr => rw [okB_scr] at h'; cases h'
    | dct => rw [okB_dct] at h'; cases h'
    | dic _ _ => rw [okB_dic] at h'; cases h'
    | exc _ _ _ => rw [okB_exc] at h'; cases h'
    | err _ _ _ => rw [okB_err] at h'; cases h'
    | _ => simp only [toPy, PyData.eqv, eqd]
  | .int _, e, n, m, h, h' => by
    cases e with
    | obj => rw [okB_obj] at h'; cases h'
    | scr => rw [okB_scr] at h'; cases h'
    | dct => rw [okB_dct] at h'; cases h'
    | dic _ _ => rw [okB_dic] at h'; cases h'
    | exc _ _ _ => rw [okB_exc] at h'; cases h'
    | err _ _ _ => rw [okB_err] at h'; cases h'
    | _ => simp only [toPy, PyData.eqv, eqd]
  | .str _, e, n, m, h, h' => by
    cases e with
    | obj => rw [okB_obj] at h'; cases h'
    | scr => rw [okB_scr] at h'; cases h'
    | dct => rw [okB_dct] at h'; cases h'
    | dic _ _ => rw [okB_dic] at h'; cases h'
    | exc _ _ _ => rw [okB_exc] at h'; cases h'
    | err _ _ _ => rw [okB_err] at h'; cases h'
    | _ => simp only [toPy, PyData.eqv, eqd]
  | .obj _ _ _, e, n, m, h, h' => by rw [okB_obj] at h; cases h
  | .scr _, e, n, m, h, h' => by rw [okB_scr] at h; cases h
  | .dct, e, n, m, h, h' => by rw [okB_dct] at h; cases h
  | .dic _ _, e, n, m, h, h' => by rw [okB_dic] at h; cases h
  | .exc _ _ _, e, n, m, h, h' => by rw [okB_exc] at h; cases h
  | .err _ _ _, e, n, m, h, h' => by rw [okB_err] at h; cases h
theorem pys_eqv : ∀ (xs ys : List D) (n m : Nat), xs.all (okB n) = true → ys.all (okB m) = true → PyData.eqvAll (toPys xs) (toPys ys) = eqds xs ys
  | [], ys, n, m, h, h' => by cases ys <;> simp only [toPys, PyData.eqvAll, eqds]
  | x :: xs, ys, n, m, h, h' => by
    cases ys with
    | nil => simp only [toPys, PyData.eqvAll, eqds]
    | cons y ys =>
      rw [List.all_cons, Bool.and_eq_true] at h h'
      simp only [toPys, PyData.eqvAll, eqds]
      rw [py_eqv x y n m h.1 h'.1, pys_eqv xs ys n m h.2 h'.2]
end
section
variable {g : Gx} {A : Addr → Prop} {H : Hp}
mutual
theorem rep_dp : ∀ (d : D) (n : Nat) (v : V), okB n d = true → Rep g A H d v → Dp g.K H v (toPy d)
  | .non, n, v, _, h => by simp only [Rep] at h; subst h; exact .non
  | .bl b, n, v, _, h => by simp only [Rep] at h; subst h; exact .bl b
  | .int b, n, v, _, h => by simp only [Rep] at h; subst h; exact .int b
  | .str b, n, v, _, h => by simp only [Rep] at h; subst h; exact .str b
  | .lst ds, n, v, k, h => by
    obtain ⟨m, rfl, k⟩ := okB_lst k
    simp only [Rep] at h
    obtain ⟨a, vs, rfl, _, s, r⟩ := h
    exact .lst (.inl (.inl s)) (reps_dp ds m vs k r)
  | .tup ds, n, v, k, h => by
    obtain ⟨m, rfl, k⟩ := okB_tup k
    simp only [Rep] at h
    obtain ⟨a, vs, rfl, _, s, r⟩ := h
    exact .tup s (reps_dp ds m vs k r)
  | .obj _ _ _, n, v, k, _ => by rw [okB_obj] at k; cases k
  | .scr _, n, v, k, _ => by rw [okB_scr] at k; cases k
  | .dct, n, v, k, _ => by rw [okB_dct] at k; cases k
  | .dic _ _, n, v, k, _ => by rw [okB_dic] at k; cases k
  | .exc _ _ _, n, v, k, _ => by rw [okB_exc] at k; cases k
  | .err _ _ _, n, v, k, _ => by rw [okB_err] at k; cases k
theorem reps_dp : ∀ (ds : List D) (n : Nat) (vs : List V), ds.all (okB n) = true → Reps g A H ds vs → DpAll g.K H vs (toPys ds)
  | [], n, vs, _, h => by simp only [Reps] at h; subst h; exact .nil
  | d :: ds, n, vs, k, h => by
    rw [List.all_cons, Bool.and_eq_true] at k
    simp only [Reps] at h
    obtain ⟨v, r, rfl, h1, h2⟩ := h
    exact .cons (rep_dp d n v k.1 h1) (reps_dp ds n r k.2 h2)
end
theorem rdb_dp {d : D} {n : Nat} {v : V} (k : okB n d = true) (h : Rdb g A H d v) : Dp g.K H v (toPy d) := by
  cases d with
  | lst ds =>
    obtain ⟨m, rfl, k⟩ := okB_lst k
    obtain ⟨a, vs, rfl, s, r⟩ := h
    exact .lst (.inl (.inl s)) (reps_dp ds m vs k r)
  | obj => rw [okB_obj] at k; cases k
  | scr => rw [okB_scr] at k; cases k
  | dct => rw [okB_dct] at k; cases k
  | dic _ _ => rw [okB_dic] at k; cases k
  | exc _ _ _ => rw [okB_exc] at k; cases k
  | err _ _ _ => rw [okB_err] at k; cases k
  | non => exact rep_dp (A := A) _ n v k h
  | bl => exact rep_dp (A := A) _ n v k h
  | int => exact rep_dp (A := A) _ n v k h
  | str => exact rep_dp (A := A) _ n v k h
  | tup => exact rep_dp (A := A) _ n v k h
theorem rdb_int {i : Int} {v : V} (h : Rdb g A H (.int i) v) : v = .int i := by simpa only [Rdb, Rep] using h
theorem rdb_str {i : Str} {v : V} (h : Rdb g A H (.str i) v) : v = .str i := by simpa only [Rdb, Rep] using h
theorem rdb_bl {i : Bool} {v : V} (h : Rdb g A H (.bl i) v) : v = .bl i := by simpa only [Rdb, Rep] using h
theorem rdb_non {v : V} (h : Rdb g A H .non v) : v = .non := by simpa only [Rdb, Rep] using h
theorem rdb_tup {ds : List D} {v : V} (h : Rdb g A H (.tup ds) v) : ∃ a vs, v = .ref a ∧ ¬ A a ∧ SqT g.K H a vs ∧ Reps g A H ds vs := by simpa only [Rdb, Rep] using h
theorem rdb_dct {v : V} (h : Rdb g A H .dct v) : ∃ a, v = .ref a ∧ ¬ A a ∧ H a = some (.dK []) := by simpa only [Rdb, Rep] using h
theorem rdb_dic {ks : List Int} {ds : List D} {v : V} (h : Rdb g A H (.dic ks ds) v) : ∃ a vs, v = .ref a ∧ ¬ A a ∧ ks.length = vs.length ∧ H a = some (.dK (dkV ks vs)) ∧ Reps g A H ds vs := by simpa only [Rdb, Rep] using h
theorem rdb_scr {ns : List Int} {v : V} (h : Rdb g A H (.scr ns) v) : ∃ a, v = .ref a ∧ ¬ A a ∧ SqL g.K H a (ns.map V.int) := by simpa only [Rdb, Rep] using h
/-- flat data and flat values -/
theorem flat_rep : ∀ {d : D} {v : V}, flatD d = true → Rep g A H d v → flatV v = true ∧ ∀ {e : D} {w : V}, flatD e = true → Rep g A H e w → eqV v w = eqd d e := by
  intro d v hd h
  cases d with
  | non => simp only [Rep] at h; subst h; exact ⟨rfl, fun {e w} he q => by cases e <;> first | (simp only [Rep] at q; subst q; rfl) | (simp [flatD] at he)⟩
  | bl b => simp only [Rep] at h; subst h; exact ⟨rfl, fun {e w} he q => by cases e <;> first | (simp only [Rep] at q; subst q; rfl) | (simp [flatD] at he)⟩
  | int b => simp only [Rep] at h; subst h; exact ⟨rfl, fun {e w} he q => by cases e <;> first | (simp only [Rep] at q; subst q; rfl) | (simp [flatD] at he)⟩
  | str b => simp only [Rep] at h; subst h; exact ⟨rfl, fun {e w} he q => by cases e <;> first | (simp only [Rep] at q; subst q; rfl) | (simp [flatD] at he)⟩
  | _ => simp [flatD] at hd
theorem flat_reps : ∀ {ds : List D} {vs : List V} {e : D} {w : V}, ds.all flatD = true → Reps g A H ds vs → flatD e = true → Rep g A H e w → vs.all flatV = true ∧ inV w vs = ds.any fun y => eqd y e
  | [], _, _, _, _, h, _, _ => by simp only [Reps] at h; subst h; exact ⟨rfl, rfl⟩
  | d :: ds, _, e, w, k, h, ke, he => by
    rw [List.all_cons, Bool.and_eq_true] at k
    simp only [Reps] at h
    obtain ⟨v, r, rfl, h1, h2⟩ := h
    have q1 := flat_rep k.1 h1
    have q2 := flat_reps k.2 h2 ke he
    refine ⟨by rw [List.all_cons, q1.1, q2.1]; rfl, ?_⟩
    have q3 : (r.any fun y => eqV y w) = ds.any fun y => eqd y e := q2.2
    show ((v :: r).any fun y => eqV y w) = _
    rw [List.any_cons, List.any_cons, q1.2 ke he, q3]
theorem rdb_flat {d : D} {v : V} (k : flatD d = true) (h : Rdb g A H d v) : Rep g A H d v := by
  cases d <;> first | exact h | (simp [flatD] at k)
end

/-! ### the operators -/
def CPowB (i j : Int) : Prop := 0 ≤ j ∧ (Builtin.Int.intBits i : Int) * j ≤ 2 ^ 27
theorem op_powB {X : Cx} : OpR X (binaryOp .Pow) (rI CPowB fun i j => .int (i ^ j.toNat)) := opI fun _ _ _ _ _ _ _ hc q => PyProof.Rows.pow_int hc.1 hc.2 q
/-- what an operation on data asks and gives -/
def rBin (g : Gx) (op : BOp) : R2 := fun x y H Q => ∃ A d e r, Rdb g A H d x ∧ Rdb g A H e y ∧ (∀ a, A a → H a ≠ none) ∧ binD op d e = some r ∧ ∀ v H', Same H H' → Res g A H H' r v → Q v H'
def opOf : BOp → Operator
  | .add => .Add | .sub => .Sub | .mul => .Mult | .fdiv => .FloorDiv | .mod => .Mod | .pow => .Pow
section
variable {X : Cx} {g : Gx}
theorem same_rfl (H : Hp) : Same H H := fun _ _ h => h
theorem new_lst {A : Addr → Prop} {H : Hp} {p : Addr} {ds : List D} {vs : List V} (np : H p = none) (hk : g.K.lookup p = none) (r : Reps g A H ds vs) : Res g A H (upd H p (.lst vs)) (.nw (.lst ds)) (.ref p) := by
  refine ⟨p, rfl, np, hk, vs, upd_same, reps_mono (fun a ⟨n, t⟩ => ⟨fun o h _ => same_new np a o h, fun z => ?_⟩) _ _ r⟩
  rcases z with z | z
  · exact n z
  · subst z
    rcases t with ⟨o, t, _⟩ | ⟨o, t⟩
    · rw [np] at t; cases t
    · rw [hk] at t; cases t
theorem new_tup {A : Addr → Prop} {H : Hp} {p : Addr} {ds : List D} {vs : List V} (np : H p = none) (tr : ∀ a, A a → H a ≠ none) (r : Reps g A H ds vs) : Res g A H (upd H p (.tup vs)) (.fz (.tup ds)) (.ref p) := by
  simp only [Res, Rep]
  exact ⟨p, vs, rfl, fun z => tr p z np, .inl (.inl upd_same), r.same (same_new np)⟩
theorem mulOk_of {i j : Int} (h : mulOk i j = true) : IntMulOk i j := by
  unfold mulOk at h
  simp only [Bool.or_eq_true, decide_eq_true_eq] at h
  rcases h with (h | h) | h
  · exact CMul.ok (.inl h)
  · exact CMul.ok (.inr h)
  · exact CMulW.ok h
theorem op_mulA : OpR X (binaryOp .Mult) (rI (fun i j => mulOk i j = true) fun i j => .int (i * j)) := opI fun _ _ _ _ _ _ _ hc q => PyProof.Rows.mul_int q (mulOk_of hc)
theorem op_bin (hK : X.K = g.K) (op : BOp) : OpR X (binaryOp (opOf op)) (rBin g op) := by
  have kfe : ∀ {H : Hp} {p : Addr} {o : HO}, (∀ a o, X.K.lookup a = some o → H a = none) → H p = some o → g.K.lookup p = none := fun h e => by rw [← hK]; exact kf_new h e
  cases op with
  | add =>
    refine OpR.weak (OpR.kf (op_add.or (op_add_str.or (op_cat.or op_catT)))) ?_
    rintro x y H Q ⟨A, d, e, r, hd, he, tr, hb, hQ⟩
    cases d <;> cases e <;> simp only [binD, reduceCtorEq, Option.ite_none_right_eq_some, Option.some.injEq] at hb
    · subst hb
      refine .inl ⟨_, _, rdb_int hd, rdb_int he, fun kf => hQ _ _ (same_rfl H) ?_⟩
      simp only [Res, Rep]
    · obtain ⟨hz, rfl⟩ := hb
      refine .inr (.inl ⟨_, _, rdb_str hd, rdb_str he, hz, fun kf => hQ _ _ (same_rfl H) ?_⟩)
      simp only [Res, Rep]
    · obtain ⟨hz, rfl⟩ := hb
      obtain ⟨a, vs, rfl, e1, r1⟩ := hd
      obtain ⟨b, ws, rfl, e2, r2⟩ := he
      refine .inr (.inr (.inl ⟨a, b, vs, ws, rfl, rfl, e1, e2, by rw [← r1.len, ← r2.len]; exact hz, fun p np kf => hQ _ _ (same_new np) (new_lst np (kfe kf upd_same) (r1.app r2))⟩))
    · obtain ⟨⟨hz, hne⟩, rfl⟩ := hb
      obtain ⟨a, vs, rfl, na, e1, r1⟩ := rdb_tup hd
      obtain ⟨b, ws, rfl, nb, e2, r2⟩ := rdb_tup he
      have l1 := r1.len
      have l2 := r2.len
      refine .inr (.inr (.inr ⟨a, b, vs, ws, rfl, rfl, by rw [hK]; exact e1, by rw [hK]; exact e2, fun z => ?_, by omega, fun z kf => hQ _ _ (same_rfl H) ?_, fun z p np kf => hQ _ _ (same_new np) (new_tup np tr (r1.app r2))⟩))
      · subst z
        exact hne (List.eq_nil_of_length_eq_zero l1)
      · subst z
        have : _ = [] := List.eq_nil_of_length_eq_zero l2
        subst this
        rw [List.append_nil]
        simp only [Res, Rep]
        exact ⟨a, vs, rfl, na, e1, r1⟩
  | sub =>
    refine OpR.weak (OpR.kf op_sub) ?_
    rintro x y H Q ⟨A, d, e, r, hd, he, tr, hb, hQ⟩
    cases d <;> cases e <;> simp only [binD, reduceCtorEq, Option.some.injEq] at hb
    subst hb
    exact ⟨_, _, rdb_int hd, rdb_int he, fun kf => hQ _ _ (same_rfl H) (by simp only [Res, Rep])⟩
  | mul =>
    refine OpR.weak (OpR.kf (op_mulA.or op_rep)) ?_
    rintro x y H Q ⟨A, d, e, r, hd, he, tr, hb, hQ⟩
    cases d <;> cases e <;> simp only [binD, reduceCtorEq, Option.ite_none_right_eq_some, Option.some.injEq] at hb
    · obtain ⟨hz, rfl⟩ := hb
      exact .inl ⟨_, _, rdb_int hd, rdb_int he, hz, fun kf => hQ _ _ (same_rfl H) (by simp only [Res, Rep])⟩
    · obtain ⟨⟨h1, h2, h3⟩, rfl⟩ := hb
      obtain ⟨a, vs, rfl, e1, r1⟩ := hd
      exact .inr ⟨a, _, vs, rfl, rdb_int he, e1, h1, h2, by rw [← r1.len]; exact h3, fun p np kf => hQ _ _ (same_new np) (new_lst np (kfe kf upd_same) (r1.repl _))⟩
  | fdiv =>
    refine OpR.weak (OpR.kf op_fdivW) ?_
    rintro x y H Q ⟨A, d, e, r, hd, he, tr, hb, hQ⟩
    cases d <;> cases e <;> simp only [binD, reduceCtorEq, Option.ite_none_right_eq_some, Option.some.injEq] at hb
    obtain ⟨hz, rfl⟩ := hb
    exact ⟨_, _, rdb_int hd, rdb_int he, hz, fun kf => hQ _ _ (same_rfl H) (by simp only [Res, Rep])⟩
  | mod =>
    refine OpR.weak (OpR.kf op_mod) ?_
    rintro x y H Q ⟨A, d, e, r, hd, he, tr, hb, hQ⟩
    cases d <;> cases e <;> simp only [binD, reduceCtorEq, Option.ite_none_right_eq_some, Option.some.injEq] at hb
    obtain ⟨hz, rfl⟩ := hb
    exact ⟨_, _, rdb_int hd, rdb_int he, hz, fun kf => hQ _ _ (same_rfl H) (by simp only [Res, Rep])⟩
  | pow =>
    refine OpR.weak (OpR.kf op_powB) ?_
    rintro x y H Q ⟨A, d, e, r, hd, he, tr, hb, hQ⟩
    cases d <;> cases e <;> simp only [binD, reduceCtorEq] at hb
    rename_i a b
    by_cases c : 0 ≤ b ∧ b ≤ 1000000 ∧ a.natAbs < 2 ^ 64
    · rw [if_pos c, Option.some.injEq] at hb
      subst hb
      exact ⟨_, _, rdb_int hd, rdb_int he, ⟨c.1, PyProof.Rows.bits_mul_le c.2.2 c.1 c.2.1⟩, fun kf => hQ _ _ (same_rfl H) (by simp only [Res, Rep])⟩
    · rw [if_neg c] at hb
      by_cases c2 : 0 ≤ b ∧ b ≤ 1000 ∧ in1k a = true
      · rw [if_pos c2, Option.some.injEq] at hb
        subst hb
        refine ⟨_, _, rdb_int hd, rdb_int he, ⟨c2.1, ?_⟩, fun kf => hQ _ _ (same_rfl H) (by simp only [Res, Rep])⟩
        have h1 := c2.2.2
        unfold in1k at h1
        have h2 := PyProof.Rows.intBits_le (of_decide_eq_true h1)
        have h3 : (Builtin.Int.intBits a : Int) * b ≤ 1000 * b := Int.mul_le_mul_of_nonneg_right (by omega) c2.1
        omega
      · rw [if_neg c2] at hb
        cases hb
def cmpOf : COp → CmpOp
  | .eq => .Eq | .ne => .NotEq | .lt => .Lt | .le => .LtE | .gt => .Gt | .ge => .GtE | .is => .Is | .isnot => .IsNot | .inn => .In | .notin => .NotIn
def rCmp (g : Gx) (op : COp) : R2 := fun x y H Q => ∃ A d e b, Rdb g A H d x ∧ Rdb g A H e y ∧ cmpD op d e = some b ∧ Q (.bl b) H
theorem rdb_isnon {A : Addr → Prop} {H : Hp} {d : D} {v : V} (h : Rdb g A H d v) : decide (v = .non) = isNonD d := by
  cases d with
  | non => rw [rdb_non h]; rfl
  | bl => rw [rdb_bl h]; rfl
  | int => rw [rdb_int h]; rfl
  | str => rw [rdb_str h]; rfl
  | lst => obtain ⟨a, vs, rfl, _⟩ := h; rfl
  | tup => obtain ⟨a, vs, rfl, _⟩ := rdb_tup h; rfl
  | obj => obtain ⟨a, dx, vs, rfl, _⟩ := h; rfl
  | scr => obtain ⟨a, rfl, _⟩ := rdb_scr h; rfl
  | dct => obtain ⟨a, rfl, _⟩ := rdb_dct h; rfl
  | dic ks ds => obtain ⟨a, vs, rfl, _⟩ := rdb_dic h; rfl
  | exc c ks ds => simp only [Rdb, Rep] at h; obtain ⟨a, vs, rfl, _⟩ := h; rfl
  | err c ks ds => simp only [Rdb, Rep] at h; obtain ⟨e0, a, vs, _, rfl, _⟩ := h; rfl
theorem OpR.or {f : Value → Value → Sem Value} {r r' : R2} (h : OpR X f r) (h' : OpR X f r') : OpR X f (fun x y H Q => r x y H Q ∨ r' x y H Q) := fun pins s σ H x y v u Q I rx ry q => q.elim (fun q => h pins s σ H x y v u Q I rx ry q) fun q => h' pins s σ H x y v u Q I rx ry q
def rLenNe (K : PySem.W.Frag) (k : Bool) : R2 := fun x y H Q => ∃ a b xs ys, x = .ref a ∧ y = .ref b ∧ SqL K H a xs ∧ SqL K H b ys ∧ xs.length ≠ ys.length ∧ Q (.bl k) H
theorem op_eqLen (hu : X.A.units < cLine) : OpR X (compareOp .Eq) (rLenNe X.K false) := by
  rintro pins s σ H x y v u Q I rx ry ⟨a, b, xs, ys, rfl, rfl, ha, hb, hne, q⟩
  cases rx
  cases ry
  obtain ⟨its, r, e, z⟩ := I.list ha
  obtain ⟨its2, r2, e2, z2⟩ := I.list hb
  have hsz : (its.toArray.size != its2.toArray.size) = true := by
    rw [List.size_toArray, List.size_toArray, ← r.length, ← r2.length]
    simpa using hne
  exact PySem.SeqAt.eq_list_lengthsAt e.isList e2.isList hsz hu ⟨.bl false, H, I, rfl, q⟩
theorem op_neLen (hu : X.A.units < cLine) : OpR X (compareOp .NotEq) (rLenNe X.K true) := by
  rintro pins s σ H x y v u Q I rx ry ⟨a, b, xs, ys, rfl, rfl, ha, hb, hne, q⟩
  cases rx
  cases ry
  obtain ⟨its, r, e, z⟩ := I.list ha
  obtain ⟨its2, r2, e2, z2⟩ := I.list hb
  have hsz : (its.toArray.size != its2.toArray.size) = true := by
    rw [List.size_toArray, List.size_toArray, ← r.length, ← r2.length]
    simpa using hne
  exact PySem.SeqAt.RcNeAt.lists_lengths e.isList e2.isList hsz hu X.prog X.w X.xe _ ⟨.bl true, H, I, rfl, q⟩
theorem lenNe_ok {A : Addr → Prop} {H : Hp} {d e : D} {x y : V} {k : Bool} {Q : VK} (h : lenNe d e = true) (hd : Rdb g A H d x) (he : Rdb g A H e y) (hQ : Q (.bl k) H) : rLenNe g.K k x y H Q := by
  cases d <;> cases e <;> simp only [lenNe, Bool.false_eq_true, decide_eq_true_eq] at h
  obtain ⟨a, vs, rfl, s1, r1⟩ := hd
  obtain ⟨b, ws, rfl, s2, r2⟩ := he
  exact ⟨a, b, vs, ws, rfl, rfl, .inl (.inl s1), .inl (.inl s2), by rw [← r1.len, ← r2.len]; exact h, hQ⟩
theorem reps_two {A : Addr → Prop} {H : Hp} {i j : Int} {vs : List V} (h : Reps g A H [.int i, .int j] vs) : vs = [i, j].map V.int := by
  simp only [Reps, Rep] at h
  obtain ⟨_, _, rfl, rfl, _, _, rfl, rfl, rfl⟩ := h
  rfl
/-- (i, j) > (k, l) -/
def rGtP (K : PySem.W.Frag) : R2 := fun x y H Q => ∃ a b i j k l, x = .ref a ∧ y = .ref b ∧ SqT K H a ([i, j].map V.int) ∧ SqT K H b ([k, l].map V.int) ∧ Q (.bl (pGt i j k l)) H
theorem op_gtP (hu : X.A.units < cLine) : OpR X (compareOp .Gt) (rGtP X.K) := by
  rintro pins s σ H x y v u Q I rx ry ⟨a, b, i, j, k, l, rfl, rfl, ha, hb, q⟩
  cases rx
  cases ry
  obtain ⟨its, r1, p1, _⟩ := I.tuple ha
  obtain ⟨its2, r2, p2, _⟩ := I.tuple hb
  have i1 := Vals.ints r1
  have i2 := Vals.ints r2
  have e1 : its.toArray.size = 2 := by rw [List.size_toArray]; exact i1.length
  have e2 : its2.toArray.size = 2 := by rw [List.size_toArray]; exact i2.length
  have at1 : ∀ n (h1 : n < its.toArray.size), ∃ t, its.toArray[n] = .int ([i, j].getD n 0) t := fun n h1 => i1.int_at n _ (by rw [List.getElem_toArray]; exact List.getElem?_eq_getElem _)
  have at2 : ∀ n (h1 : n < its2.toArray.size), ∃ t, its2.toArray[n] = .int ([k, l].getD n 0) t := fun n h1 => i2.int_at n _ (by rw [List.getElem_toArray]; exact List.getElem?_eq_getElem _)
  have R := Ob.RcOp.tuples_gt (e := fun n => [i, j].getD n 0 == [k, l].getD n 0) (r := fun n => decide ([k, l].getD n 0 < [i, j].getD n 0)) p1 p2 hu (fun n h1 h2 => by
    obtain ⟨t, et⟩ := at1 n h1
    obtain ⟨t', et'⟩ := at2 n h2
    rw [et, et']
    exact SeqAt.EqAt.int_int _ t _ t') (fun n h1 h2 _ => by
    obtain ⟨t, et⟩ := at1 n h1
    obtain ⟨t', et'⟩ := at2 n h2
    rw [et, et']
    exact Ob.RcOp.gt_int _ _ t t')
  rw [e1, e2] at R
  have lx : Ob.lexAt (fun n => [i, j].getD n 0 == [k, l].getD n 0) (fun n => decide ([k, l].getD n 0 < [i, j].getD n 0)) (decide (2 > 2)) 0 (min 2 2) = pGt i j k l := by
    show Ob.lexAt _ _ _ 0 2 = _
    rw [Ob.lexAt_succ, Ob.lexAt_succ, Ob.lexAt_zero]
    unfold pGt
    by_cases c : i = k
    · subst c
      by_cases d : j = l
      · subst d; simp
      · simp [d]
    · by_cases d : k < i <;> simp [c, d]
  rw [lx] at R
  exact R X.prog X.w X.xe (EP X pins σ Q) ⟨.bl (pGt i j k l), H, I, rfl, q⟩
theorem op_cmp (hK : X.K = g.K) (hu : X.A.units + 64 < cLine) (op : COp) : OpR X (compareOp (cmpOf op)) (rCmp g op) := by
  cases op with
  | eq =>
    refine OpR.weak (OpR.or (op_eqD hu) (op_eqLen (by omega))) ?_
    rintro x y H Q ⟨A, d, e, b, hd, he, hb, hQ⟩
    simp only [cmpD] at hb
    split at hb
    case isFalse => 
      refine .inr ?_
      split at hb
      · rename_i hl
        cases hb
        rw [hK]
        exact lenNe_ok hl hd he hQ
      · cases hb
    rename_i hk
    simp only [Bool.and_eq_true] at hk
    obtain ⟨k1, k2⟩ := hk
    simp only [Option.some.injEq] at hb
    subst hb
    refine .inl ?_
    rw [hK]
    exact ⟨toPy d, toPy e, rdb_dp k1 hd, rdb_dp k2 he, py_shaped k1, py_shaped k2, by rw [py_eqv d e 12 12 k1 k2]; exact hQ⟩
  | ne =>
    refine OpR.weak (OpR.or (op_neD hu) (op_neLen (by omega))) ?_
    rintro x y H Q ⟨A, d, e, b, hd, he, hb, hQ⟩
    simp only [cmpD] at hb
    split at hb
    case isFalse => 
      refine .inr ?_
      split at hb
      · rename_i hl
        cases hb
        rw [hK]
        exact lenNe_ok hl hd he hQ
      · cases hb
    rename_i hk
    simp only [Bool.and_eq_true] at hk
    obtain ⟨k1, k2⟩ := hk
    simp only [Option.some.injEq] at hb
    subst hb
    refine .inl ?_
    rw [hK]
    exact ⟨toPy d, toPy e, rdb_dp k1 hd, rdb_dp k2 he, py_shaped k1, py_shaped k2, by rw [py_eqv d e 12 12 k1 k2]; exact hQ⟩
  | lt =>
    refine OpR.weak op_lt ?_
    rintro x y H Q ⟨A, d, e, b, hd, he, hb, hQ⟩
    cases d <;> cases e <;> simp only [cmpD, reduceCtorEq, Option.some.injEq] at hb
    subst hb
    exact ⟨_, _, rdb_int hd, rdb_int he, hQ⟩
  | le =>
    refine OpR.weak op_le ?_
    rintro x y H Q ⟨A, d, e, b, hd, he, hb, hQ⟩
    cases d <;> cases e <;> simp only [cmpD, reduceCtorEq, Option.some.injEq] at hb
    subst hb
    exact ⟨_, _, rdb_int hd, rdb_int he, hQ⟩
  | gt =>
    refine OpR.weak (OpR.or op_gt (op_gtP (by omega))) ?_
    rintro x y H Q ⟨A, d, e, b, hd, he, hb, hQ⟩
    cases d <;> cases e <;> simp only [cmpD, reduceCtorEq, Option.some.injEq] at hb
    · subst hb
      exact .inl ⟨_, _, rdb_int hd, rdb_int he, hQ⟩
    · unfold tupGt at hb
      split at hb
      · rename_i i j k l
        cases hb
        obtain ⟨a, vs, rfl, _, s1, r1⟩ := rdb_tup hd
        obtain ⟨b, ws, rfl, _, s2, r2⟩ := rdb_tup he
        rw [reps_two r1] at s1
        rw [reps_two r2] at s2
        rw [← hK] at s1 s2
        exact .inr ⟨a, b, i, j, k, l, rfl, rfl, s1, s2, hQ⟩
      · cases hb
  | ge =>
    refine OpR.weak op_ge ?_
    rintro x y H Q ⟨A, d, e, b, hd, he, hb, hQ⟩
    cases d <;> cases e <;> simp only [cmpD, reduceCtorEq, Option.some.injEq] at hb
    subst hb
    exact ⟨_, _, rdb_int hd, rdb_int he, hQ⟩
  | is =>
    refine OpR.weak op_isN ?_
    rintro x y H Q ⟨A, d, e, b, hd, he, hb, hQ⟩
    cases e <;> simp only [cmpD, reduceCtorEq, Option.some.injEq] at hb
    subst hb
    exact ⟨rdb_non he, by rw [rdb_isnon hd]; exact hQ⟩
  | isnot =>
    refine OpR.weak op_notN ?_
    rintro x y H Q ⟨A, d, e, b, hd, he, hb, hQ⟩
    cases e <;> simp only [cmpD, reduceCtorEq, Option.some.injEq] at hb
    subst hb
    refine ⟨rdb_non he, ?_⟩
    rw [rdb_isnon hd]
    exact hQ
  | inn =>
    refine OpR.weak op_in_seq ?_
    rintro x y H Q ⟨A, d, e, b, hd, he, hb, hQ⟩
    rw [hK]
    cases e <;> simp only [cmpD, reduceCtorEq, Option.ite_none_right_eq_some, Bool.and_eq_true, Option.some.injEq] at hb
    · obtain ⟨⟨k1, k2⟩, rfl⟩ := hb
      obtain ⟨a, vs, rfl, e1, r1⟩ := he
      have q := flat_reps k2 r1 k1 (rdb_flat k1 hd)
      exact ⟨a, vs, rfl, .inl (.inl (.inl e1)), (flat_rep k1 (rdb_flat k1 hd)).1, q.1, by rw [if_neg Bool.false_ne_true, q.2]; exact hQ⟩
    · obtain ⟨⟨k1, k2⟩, rfl⟩ := hb
      obtain ⟨a, vs, rfl, na, e1, r1⟩ := rdb_tup he
      have q := flat_reps k2 r1 k1 (rdb_flat k1 hd)
      exact ⟨a, vs, rfl, .inr e1, (flat_rep k1 (rdb_flat k1 hd)).1, q.1, by rw [if_neg Bool.false_ne_true, q.2]; exact hQ⟩
  | notin =>
    refine OpR.weak op_notIn_seq ?_
    rintro x y H Q ⟨A, d, e, b, hd, he, hb, hQ⟩
    rw [hK]
    cases e <;> simp only [cmpD, reduceCtorEq, Option.ite_none_right_eq_some, Bool.and_eq_true, Option.some.injEq] at hb
    · obtain ⟨⟨k1, k2⟩, rfl⟩ := hb
      obtain ⟨a, vs, rfl, e1, r1⟩ := he
      have q := flat_reps k2 r1 k1 (rdb_flat k1 hd)
      exact ⟨a, vs, rfl, .inl (.inl (.inl e1)), (flat_rep k1 (rdb_flat k1 hd)).1, q.1, by rw [if_pos rfl, q.2]; exact hQ⟩
    · obtain ⟨⟨k1, k2⟩, rfl⟩ := hb
      obtain ⟨a, vs, rfl, na, e1, r1⟩ := rdb_tup he
      have q := flat_reps k2 r1 k1 (rdb_flat k1 hd)
      exact ⟨a, vs, rfl, .inr e1, (flat_rep k1 (rdb_flat k1 hd)).1, q.1, by rw [if_pos rfl, q.2]; exact hQ⟩
end
end DV

namespace DV
open PySem L2
/-- what a frame must be, the suite of a clause too -/
structure Cok0 (g : Gx) (X : Cx) : Prop where
  K : X.K = g.K
  hu : X.A.units + 64 < cLine
  nd : X.N.Nodup
/-- what is asked of a context -/
structure Cok (g : Gx) (X : Cx) : Prop where
  K : X.K = g.K
  calm : X.calm = true
  hu : X.A.units + 64 < cLine
  nd : X.N.Nodup
  ea : g.ea = none
theorem Cok.c0 {g : Gx} {X : Cx} (C : Cok g X) : Cok0 g X := ⟨C.K, C.hu, C.nd⟩
instance {g : Gx} {X : Cx} : Coe (Cok g X) (Cok0 g X) := ⟨Cok.c0⟩
def tR (g : Gx) (fs : List FS) (ie : E) : TE := fun σ H Q => ∃ Bn Ow Γ r Γ', RS g Bn Ow H σ Γ ∧ ev fs ie Γ = some (r, Γ') ∧ ∀ v H' Ow', Stp Ow H Ow' H' → RS g Bn Ow' H' σ Γ' → Val g Bn Ow' H' σ Γ' r v → Q v H'
def tT (g : Gx) (fs : List FS) (ie : E) : TT := fun σ H Q => ∃ Bn Ow Γ r Γ' t, RS g Bn Ow H σ Γ ∧ ev fs ie Γ = some (r, Γ') ∧ testD Γ' r = some t ∧ ∀ H' Ow', Stp Ow H Ow' H' → RS g Bn Ow' H' σ Γ' → Q t H'
/-- values by results -/
def Vls (g : Gx) (Bn : Addr → Prop) (Ow : List Addr) (H : Hp) (σ : St) (Γ : Ct) : List RV → List V → Prop
  | [], vs => vs = []
  | x :: xs, vs => ∃ v r, vs = v :: r ∧ Val g Bn Ow H σ Γ x.dn v ∧ Vls g Bn Ow H σ Γ xs r
def tAs (g : Gx) (fs : List FS) (es : List E) : TA := fun σ H Q => ∃ Bn Ow Γ xs Γ', RS g Bn Ow H σ Γ ∧ evs fs es Γ = some (xs, Γ') ∧ ∀ vs H' Ow', Stp Ow H Ow' H' → RS g Bn Ow' H' σ Γ' → Vls g Bn Ow' H' σ Γ' xs vs → Q vs H'
section
variable {X : Cx} {g : Gx} {fs : List FS} {Bn : Addr → Prop} {Ow Ow' : List Addr} {H H' : Hp} {σ : St} {Γ Γ' Γ1 Γ2 : Ct} {a b c : Expr} {ia ib ic : E} {pos : Pos}
theorem Vls.step : ∀ {xs : List RV} {vs : List V}, Vls g Bn Ow H σ Γ xs vs → Stp Ow H Ow' H' → RS g Bn Ow' H' σ Γ' → Vls g Bn Ow' H' σ Γ' xs vs
  | [], _, h, _, _ => h
  | x :: xs, _, ⟨v, r, e, h1, h2⟩, s, q => ⟨v, r, e, h1.step s q, Vls.step h2 s q⟩
theorem Vls.len : ∀ {xs : List RV} {vs : List V}, Vls g Bn Ow H σ Γ xs vs → xs.length = vs.length
  | [], _, h => by have h : _ = [] := h; subst h; rfl
  | x :: xs, _, ⟨v, r, e, h1, h2⟩ => by subst e; rw [List.length_cons, List.length_cons, h2.len]
theorem fres_ok : ∀ {xs : List RV} {vs : List V} {ds : List D} {Ow : List Addr} {Γ Γ' : Ct}, RS g Bn Ow H σ Γ → Vls g Bn Ow H σ Γ xs vs → fres xs Γ = some (ds, Γ') → ∃ Ow', Stp Ow H Ow' H ∧ RS g Bn Ow' H σ Γ' ∧ Reps g (Av Bn Ow') H ds vs
  | [], _, ds, Ow, Γ, Γ', rs, h, e => by
    have h : _ = [] := h
    subst h
    simp only [fres, Option.some.injEq, Prod.mk.injEq] at e
    obtain ⟨rfl, rfl⟩ := e
    exact ⟨Ow, .refl _ _, rs, by simp only [Reps]⟩
  | x :: xs, _, ds, Ow, Γ, Γ', rs, ⟨v, r, e0, h1, h2⟩, e => by
    subst e0
    simp only [fres] at e
    obtain ⟨⟨d, Γ1⟩, e1, e⟩ := Option.bind_eq_some_iff.mp e
    obtain ⟨⟨es, Γ2⟩, e2, e⟩ := Option.map_eq_some_iff.mp e
    simp only [Prod.mk.injEq] at e
    obtain ⟨rfl, rfl⟩ := e
    rw [← fre_dn] at e1
    obtain ⟨O1, s1, r1, p1⟩ := fre_ok rs h1 e1
    obtain ⟨O2, s2, r2, p2⟩ := fres_ok r1 (h2.step s1 r1) e2
    refine ⟨O2, s1.trans s2, r2, ?_⟩
    simp only [Reps]
    exact ⟨v, r, rfl, p1.step s2 r2, p2⟩
theorem datums_ok : ∀ {xs : List RV} {vs : List V} {ds : List D}, RS g Bn Ow H σ Γ → Vls g Bn Ow H σ Γ xs vs → datums Γ xs = some ds → Paired (fun d v => Rdb g (Av Bn Ow) H d v) ds vs
  | [], _, ds, rs, h, e => by
    have h : _ = [] := h
    subst h
    simp only [datums, Option.some.injEq] at e
    subst e
    exact .nil
  | x :: xs, _, ds, rs, ⟨v, r, e0, h1, h2⟩, e => by
    subst e0
    simp only [datums] at e
    obtain ⟨d, e1, e⟩ := Option.bind_eq_some_iff.mp e
    obtain ⟨es, e2, rfl⟩ := Option.map_eq_some_iff.mp e
    rw [← datum_dn] at e1
    exact .cons (h1.rdb rs e1) (datums_ok rs h2 e2)

theorem tR_one {x : RV} {Q : VK} (rs : RS g Bn Ow H σ Γ) (e1 : ev fs ia Γ = some (x, Γ1)) (k : ∀ v H1 Ow1, Stp Ow H Ow1 H1 → RS g Bn Ow1 H1 σ Γ1 → Val g Bn Ow1 H1 σ Γ1 x.dn v → Q v H1) : tR g fs ia σ H Q :=
  ⟨Bn, Ow, Γ, x, Γ1, rs, e1, fun v H' Ow' s r val => let ⟨O2, s2, r2, v2⟩ := dn_ok r val; k v H' O2 (s.trans s2) r2 v2⟩
theorem tR_two {x y : RV} {R : V → V → Hp → Prop} (rs : RS g Bn Ow H σ Γ) (e1 : ev fs ia Γ = some (x, Γ1)) (e2 : ev fs ib Γ1 = some (y, Γ2))
    (k : ∀ v w H2 Ow2, Stp Ow H Ow2 H2 → RS g Bn Ow2 H2 σ Γ2 → Val g Bn Ow2 H2 σ Γ2 x.dn v → Val g Bn Ow2 H2 σ Γ2 y.dn w → R v w H2) : tR g fs ia σ H fun v H1 => tR g fs ib σ H1 fun w H2 => R v w H2 :=
  tR_one rs e1 fun v H1 O1 s1 r1 v1 => tR_one r1 e2 fun w H2 O2 s2 r2 w2 => k v w H2 O2 (s1.trans s2) r2 (v1.step s2 r2) w2

/-! ### names, constants -/
theorem p_stuck {e : Expr} : PE X e (tR g fs .stuck) := ⟨fun _ _ _ _ _ _ ⟨_, _, _, _, _, _, h, _⟩ => by simp only [ev, reduceCtorEq] at h⟩
theorem t_stuck {e : Expr} : PT X e (tT g fs .stuck) := ⟨fun _ _ _ _ _ _ ⟨_, _, _, _, _, _, _, h, _⟩ => by simp only [ev, reduceCtorEq] at h⟩
theorem p_var {i : Nat} (h : PE X a (tVar i)) : PE X a (tR g fs (.var i)) := by
  refine PE.weak h ?_
  rintro σ H Q ⟨Bn, Ow, Γ, r, Γ', rs, he, hQ⟩
  simp only [ev] at he
  split at he
  · rename_i p q
    simp only [Option.some.injEq, Prod.mk.injEq] at he
    obtain ⟨rfl, rfl⟩ := he
    obtain ⟨d, b⟩ := p
    have : ∃ v, σ[i]? = some (some v) := by
      cases b with
      | false => obtain ⟨v, e, _⟩ := rs.slot i d q; exact ⟨v, e⟩
      | true => obtain ⟨v, e, _⟩ := rs.own i d q; exact ⟨_, e⟩
    obtain ⟨v, e⟩ := this
    exact ⟨v, e, hQ v H Ow (.refl _ _) rs e⟩
  · cases he
/-- a constant; what stands for it may lean on the written part -/
theorem p_cst {d : D} {v : V} (h : PE X a (tC v)) (hK : X.K = g.K) (k : ∀ A H, (∀ a, A a → g.K.lookup a = none) → Rep g A H d v) : PE X a (tR g fs (.cst d)) := by
  refine PE.weak h ?_
  rintro σ H Q ⟨Bn, Ow, Γ, r, Γ', rs, he, hQ⟩
  simp only [ev, Option.some.injEq, Prod.mk.injEq] at he
  obtain ⟨rfl, rfl⟩ := he
  exact hQ v H Ow (.refl _ _) rs (k _ H rs.kf)

/-! ### operators -/
theorem p_bin {op : BOp} (C : Cok0 g X) (ha : PE X a (tR g fs ia)) (hb : PE X b (tR g fs ib)) : PE X (.BinOp a (opOf op) b pos) (tR g fs (.bin op ia ib)) := by
  refine PE.weak (pe_op (op_bin C.K op) ha hb) ?_
  rintro σ H Q ⟨Bn, Ow, Γ, r, Γ', rs, he, hQ⟩
  simp only [ev] at he
  obtain ⟨⟨x, Γ1⟩, e1, he⟩ := Option.bind_eq_some_iff.mp he
  obtain ⟨⟨y, Γ2⟩, e2, he⟩ := Option.bind_eq_some_iff.mp he
  obtain ⟨d, ed, he⟩ := Option.bind_eq_some_iff.mp he
  obtain ⟨e, ee, he⟩ := Option.bind_eq_some_iff.mp he
  obtain ⟨r', hb, he⟩ := Option.map_eq_some_iff.mp he
  simp only [Prod.mk.injEq] at he
  obtain ⟨rfl, rfl⟩ := he
  rw [← datum_dn] at ed ee
  exact tR_two rs e1 e2 fun v w H2 O2 s2 r2 v2 w2 => ⟨Av Bn O2, d, e, _, v2.rdb r2 ed, w2.rdb r2 ee, r2.trk, hb, fun v' H' sm res => let ⟨O3, s3, r3, val⟩ := res.val r2 sm; hQ v' H' O3 (s2.trans s3) r3 val⟩
theorem p_neg (ha : PE X a (tR g fs ia)) : PE X (.UnaryOp .USub a pos) (tR g fs (.neg ia)) := by
  refine PE.weak (pe_un un_neg ha) ?_
  rintro σ H Q ⟨Bn, Ow, Γ, r, Γ', rs, he, hQ⟩
  simp only [ev] at he
  obtain ⟨⟨x, Γ1⟩, e1, he⟩ := Option.bind_eq_some_iff.mp he
  obtain ⟨d, ed, he⟩ := Option.bind_eq_some_iff.mp he
  rw [← datum_dn] at ed
  refine tR_one rs e1 fun v H1 O1 s1 r1 v1 => ?_
  have q := v1.rdb r1 ed
  cases d <;> simp only [reduceCtorEq, Option.some.injEq, Prod.mk.injEq] at he
  obtain ⟨rfl, rfl⟩ := he
  exact ⟨_, rdb_int q, hQ _ H1 O1 s1 r1 (by simp only [Val, Rep])⟩
theorem cmp_core {op : COp} {Q : VK} (rs : RS g Bn Ow H σ Γ) {r : RV} (he : ev fs (.cmp op ia ib) Γ = some (r, Γ')) (hQ : ∀ v H' Ow', Stp Ow H Ow' H' → RS g Bn Ow' H' σ Γ' → Val g Bn Ow' H' σ Γ' r v → Q v H') :
    tOp (rCmp g op) (tR g fs ia) (tR g fs ib) σ H Q := by
  simp only [ev] at he
  obtain ⟨⟨x, Γ1⟩, e1, he⟩ := Option.bind_eq_some_iff.mp he
  obtain ⟨⟨y, Γ2⟩, e2, he⟩ := Option.bind_eq_some_iff.mp he
  obtain ⟨d, ed, he⟩ := Option.bind_eq_some_iff.mp he
  obtain ⟨e, ee, he⟩ := Option.bind_eq_some_iff.mp he
  obtain ⟨r', hb, he⟩ := Option.map_eq_some_iff.mp he
  simp only [Prod.mk.injEq] at he
  obtain ⟨rfl, rfl⟩ := he
  rw [← datum_dn] at ed ee
  exact tR_two rs e1 e2 fun v w H2 O2 s2 r2 v2 w2 => ⟨Av Bn O2, d, e, r', v2.rdb r2 ed, w2.rdb r2 ee, hb, hQ _ H2 O2 s2 r2 (by simp only [Val, Rep])⟩
theorem p_cmp {op : COp} (C : Cok0 g X) (ha : PE X a (tR g fs ia)) (hb : PE X b (tR g fs ib)) (hm : behindInMarks (cmpOf op) b = false) : PE X (.Compare a [cmpOf op] [b] pos) (tR g fs (.cmp op ia ib)) := by
  refine PE.weak (pe_cmpR (op_cmp C.K C.hu op) ha hb hm) ?_
  rintro σ H Q ⟨Bn, Ow, Γ, r, Γ', rs, he, hQ⟩
  exact cmp_core rs he hQ
theorem t_cmp {op : COp} (C : Cok0 g X) (ha : PE X a (tR g fs ia)) (hb : PE X b (tR g fs ib)) (hm : behindInMarks (cmpOf op) b = false) : PT X (.Compare a [cmpOf op] [b] pos) (tT g fs (.cmp op ia ib)) := by
  refine PT.weak (pt_cmpR (op_cmp C.K C.hu op) ha hb hm) ?_
  rintro σ H Q ⟨Bn, Ow, Γ, r, Γ', t, rs, he, ht, hQ⟩
  refine cmp_core rs he fun v H1 O1 s1 r1 v1 => ?_
  simp only [ev] at he
  obtain ⟨⟨x, Γ1⟩, e1, he⟩ := Option.bind_eq_some_iff.mp he
  obtain ⟨⟨y, Γ2⟩, e2, he⟩ := Option.bind_eq_some_iff.mp he
  obtain ⟨d, ed, he⟩ := Option.bind_eq_some_iff.mp he
  obtain ⟨e, ee, he⟩ := Option.bind_eq_some_iff.mp he
  obtain ⟨r', hb, he⟩ := Option.map_eq_some_iff.mp he
  simp only [Prod.mk.injEq] at he
  obtain ⟨rfl, rfl⟩ := he
  simp only [testD, datum, Option.bind_some, truthD, Option.some.injEq] at ht
  subst ht
  simp only [Val, Rep] at v1
  exact ⟨r', v1, hQ H1 O1 s1 r1⟩
theorem chain_core {o1 o2 : COp} {Q : VK} (rs : RS g Bn Ow H σ Γ) {r : RV} (he : ev fs (.chain o1 o2 ia ib ic) Γ = some (r, Γ')) (hQ : ∀ v H' Ow' (k : Bool), Stp Ow H Ow' H' → RS g Bn Ow' H' σ Γ' → v = .bl k → r = .fz (.bl k) → Q v H') :
    tChain (rCmp g o1) (rCmp g o2) (tR g fs ia) (tR g fs ib) (tR g fs ic) σ H Q := by
  simp only [ev] at he
  obtain ⟨⟨x, Γ1⟩, e1, he⟩ := Option.bind_eq_some_iff.mp he
  obtain ⟨⟨y, Γ2⟩, e2, he⟩ := Option.bind_eq_some_iff.mp he
  obtain ⟨d, ed, he⟩ := Option.bind_eq_some_iff.mp he
  obtain ⟨e, ee, he⟩ := Option.bind_eq_some_iff.mp he
  obtain ⟨k, hb, he⟩ := Option.bind_eq_some_iff.mp he
  rw [← datum_dn] at ed ee
  refine tR_two rs e1 e2 fun v w H2 O2 s2 r2 v2 w2 => ⟨Av Bn O2, d, e, k, v2.rdb r2 ed, w2.rdb r2 ee, hb, k, rfl, ?_⟩
  cases k with
  | false =>
    simp only [Bool.false_eq_true, if_false, Option.some.injEq, Prod.mk.injEq] at he ⊢
    obtain ⟨rfl, rfl⟩ := he
    exact hQ _ H2 O2 false s2 r2 rfl rfl
  | true =>
    simp only [if_true] at he ⊢
    obtain ⟨⟨z, Γ3⟩, e3, he⟩ := Option.bind_eq_some_iff.mp he
    obtain ⟨e', ee', he⟩ := Option.bind_eq_some_iff.mp he
    obtain ⟨f, ef, he⟩ := Option.bind_eq_some_iff.mp he
    obtain ⟨k', hb', he⟩ := Option.map_eq_some_iff.mp he
    simp only [Prod.mk.injEq] at he
    obtain ⟨rfl, rfl⟩ := he
    rw [← datum_dn] at ee' ef
    exact tR_one r2 e3 fun u H3 O3 s3 r3 u3 => ⟨Av Bn O3, e', f, k', (w2.step s3 r3).rdb r3 ee', u3.rdb r3 ef, hb', hQ _ H3 O3 k' (s2.trans s3) r3 rfl rfl⟩
theorem p_chain {o1 o2 : COp} (C : Cok0 g X) (ha : PE X a (tR g fs ia)) (hb : PE X b (tR g fs ib)) (hc : PE X c (tR g fs ic)) (hm : lastMarks [cmpOf o1, cmpOf o2] [b, c] = false) : PE X (.Compare a [cmpOf o1, cmpOf o2] [b, c] pos) (tR g fs (.chain o1 o2 ia ib ic)) := by
  refine PE.weak (pe_chain (op_cmp C.K C.hu o1) (op_cmp C.K C.hu o2) ha hb hc hm) ?_
  rintro σ H Q ⟨Bn, Ow, Γ, r, Γ', rs, he, hQ⟩
  exact chain_core rs he fun v H1 O1 k s1 r1 e1 e2 => hQ v H1 O1 s1 r1 (by subst e1 e2; simp only [Val, Rep])
theorem t_chain {o1 o2 : COp} (C : Cok0 g X) (ha : PE X a (tR g fs ia)) (hb : PE X b (tR g fs ib)) (hc : PE X c (tR g fs ic)) (hm : lastMarks [cmpOf o1, cmpOf o2] [b, c] = false) : PT X (.Compare a [cmpOf o1, cmpOf o2] [b, c] pos) (tT g fs (.chain o1 o2 ia ib ic)) := by
  refine PT.weak (pt_chain (op_cmp C.K C.hu o1) (op_cmp C.K C.hu o2) ha hb hc hm) ?_
  rintro σ H Q ⟨Bn, Ow, Γ, r, Γ', t, rs, he, ht, hQ⟩
  refine chain_core rs he fun v H1 O1 k s1 r1 e1 e2 => ⟨k, e1, ?_⟩
  subst e2
  simp only [testD, datum, Option.bind_some, truthD, Option.some.injEq] at ht
  subst ht
  exact hQ H1 O1 s1 r1

/-! ### truth -/
theorem truth_v {A : Addr → Prop} {d : D} {v : V} {k : Bool} (h : Rdb g A H d v) (e : truthD d = some k) : TruV g.K v H k := by
  cases d with
  | non => rw [rdb_non h]; simp only [truthD, Option.some.injEq] at e; exact e.symm
  | bl b => rw [rdb_bl h]; simp only [truthD, Option.some.injEq] at e; exact e.symm
  | int b => rw [rdb_int h]; simp only [truthD, Option.some.injEq] at e; exact e.symm
  | str b => rw [rdb_str h]; simp only [truthD, Option.ite_none_right_eq_some, Option.some.injEq] at e; exact ⟨e.1, e.2.symm⟩
  | lst ds =>
    obtain ⟨a, vs, rfl, e1, r⟩ := h
    simp only [truthD, Option.some.injEq] at e
    refine .inl ⟨vs, .inl (.inl e1), ?_⟩
    have l := r.len
    rw [← e]
    cases ds <;> cases vs <;> simp at l <;> rfl
  | tup ds =>
    obtain ⟨a, vs, rfl, _, e1, r⟩ := rdb_tup h
    simp only [truthD, Option.some.injEq] at e
    refine .inr (.inl ⟨vs, e1, ?_⟩)
    have l := r.len
    rw [← e]
    cases ds <;> cases vs <;> simp at l <;> rfl
  | obj => simp only [truthD, reduceCtorEq] at e
  | dct => simp only [truthD, reduceCtorEq] at e
  | dic _ _ => simp only [truthD, reduceCtorEq] at e
  | exc _ _ _ => simp only [truthD, reduceCtorEq] at e
  | err _ _ _ => simp only [truthD, reduceCtorEq] at e
  | scr ns =>
    obtain ⟨a, rfl, _, e1⟩ := rdb_scr h
    simp only [truthD, Option.some.injEq] at e
    refine .inl ⟨_, e1, ?_⟩
    rw [← e]
    cases ns <;> rfl
theorem test_v {x : RV} {v : V} {k : Bool} (rs : RS g Bn Ow H σ Γ) (h : Val g Bn Ow H σ Γ x v) (e : testD Γ x = some k) : TruV g.K v H k := by
  unfold testD at e
  obtain ⟨d, e1, e2⟩ := Option.bind_eq_some_iff.mp e
  exact truth_v (h.rdb rs e1) e2
theorem t_val (C : Cok0 g X) (ha : PE X a (tR g fs ia)) (he : ∀ whole, isTrue a X.env whole = (do let v ← whole; standAt a.pos; holding [v] (truthy v))) : PT X a (tT g fs ia) := by
  refine PT.weak (pt_truth ha he) ?_
  rintro σ H Q ⟨Bn, Ow, Γ, r, Γ', t, rs, he, ht, hQ⟩
  exact ⟨Bn, Ow, Γ, r, Γ', rs, he, fun v H1 O1 s1 r1 v1 => ⟨t, by rw [C.K]; exact test_v r1 v1 ht, hQ H1 O1 s1 r1⟩⟩
theorem p_and {rest : List Expr} (C : Cok0 g X) (ha : PE X a (tR g fs ia)) (hb : PE X (.BoolOp .And (b :: rest) pos) (tR g fs ib)) : PE X (.BoolOp .And (a :: b :: rest) pos) (tR g fs (.and ia ib)) := by
  refine PE.weak (pe_andT ha hb) ?_
  rintro σ H Q ⟨Bn, Ow, Γ, r, Γ', rs, he, hQ⟩
  simp only [ev] at he
  obtain ⟨⟨x, Γ1⟩, e1, he⟩ := Option.bind_eq_some_iff.mp he
  obtain ⟨t, et, he⟩ := Option.bind_eq_some_iff.mp he
  refine ⟨Bn, Ow, Γ, x, Γ1, rs, e1, fun v H1 O1 s1 r1 v1 => ⟨t, by rw [C.K]; exact test_v r1 v1 et, ?_⟩⟩
  cases t with
  | false =>
    simp only [Bool.false_eq_true, if_false, Option.some.injEq, Prod.mk.injEq] at he ⊢
    obtain ⟨rfl, rfl⟩ := he
    exact hQ v H1 O1 s1 r1 v1
  | true =>
    simp only [if_true] at he ⊢
    exact ⟨Bn, O1, Γ1, r, Γ', r1, he, fun w H2 O2 s2 r2 w2 => hQ w H2 O2 (s1.trans s2) r2 w2⟩
theorem p_or {rest : List Expr} (C : Cok0 g X) (ha : PE X a (tR g fs ia)) (hb : PE X (.BoolOp .Or (b :: rest) pos) (tR g fs ib)) : PE X (.BoolOp .Or (a :: b :: rest) pos) (tR g fs (.or ia ib)) := by
  refine PE.weak (pe_orT ha hb) ?_
  rintro σ H Q ⟨Bn, Ow, Γ, r, Γ', rs, he, hQ⟩
  simp only [ev] at he
  obtain ⟨⟨x, Γ1⟩, e1, he⟩ := Option.bind_eq_some_iff.mp he
  obtain ⟨t, et, he⟩ := Option.bind_eq_some_iff.mp he
  refine ⟨Bn, Ow, Γ, x, Γ1, rs, e1, fun v H1 O1 s1 r1 v1 => ⟨t, by rw [C.K]; exact test_v r1 v1 et, ?_⟩⟩
  cases t with
  | true =>
    simp only [if_true, Option.some.injEq, Prod.mk.injEq] at he ⊢
    obtain ⟨rfl, rfl⟩ := he
    exact hQ v H1 O1 s1 r1 v1
  | false =>
    simp only [Bool.false_eq_true, if_false] at he ⊢
    exact ⟨Bn, O1, Γ1, r, Γ', r1, he, fun w H2 O2 s2 r2 w2 => hQ w H2 O2 (s1.trans s2) r2 w2⟩
theorem p_one {op} (ha : PE X a (tR g fs ia)) : PE X (.BoolOp op [a] pos) (tR g fs ia) := pe_one ha
theorem w_and1 (ha : PT X a (tT g fs ia)) : PW X (.BoolOp .And [a] pos) (tT g fs ia) := pw_and1 ha
theorem w_or1 (ha : PT X a (tT g fs ia)) : PW X (.BoolOp .Or [a] pos) (tT g fs ia) := pw_or1 ha
theorem PW.weak {e : Expr} {t t' : TT} (h : PW X e t) (k : ∀ σ H Q, t' σ H Q → t σ H Q) : PW X e t' := ⟨fun w pins s σ H Q I q => h.run w pins s σ H Q I (k σ H Q q)⟩
theorem w_and {rest : List Expr} (ha : PT X a (tT g fs ia)) (hb : PW X (.BoolOp .And (b :: rest) pos) (tT g fs ib)) : PW X (.BoolOp .And (a :: b :: rest) pos) (tT g fs (.and ia ib)) := by
  refine PW.weak (pw_and ha hb) ?_
  rintro σ H Q ⟨Bn, Ow, Γ, r, Γ', t', rs, he, ht, hQ⟩
  simp only [ev] at he
  obtain ⟨⟨x, Γ1⟩, e1, he⟩ := Option.bind_eq_some_iff.mp he
  obtain ⟨t, et, he⟩ := Option.bind_eq_some_iff.mp he
  refine ⟨Bn, Ow, Γ, x, Γ1, t, rs, e1, et, fun H1 O1 s1 r1 => ?_⟩
  cases t with
  | false =>
    simp only [Bool.false_eq_true, if_false, Option.some.injEq, Prod.mk.injEq] at he ⊢
    obtain ⟨rfl, rfl⟩ := he
    rw [et] at ht; cases ht
    exact hQ H1 O1 s1 r1
  | true =>
    simp only [if_true] at he ⊢
    exact ⟨Bn, O1, Γ1, r, Γ', t', r1, he, ht, fun H2 O2 s2 r2 => hQ H2 O2 (s1.trans s2) r2⟩
theorem w_or {rest : List Expr} (ha : PT X a (tT g fs ia)) (hb : PW X (.BoolOp .Or (b :: rest) pos) (tT g fs ib)) : PW X (.BoolOp .Or (a :: b :: rest) pos) (tT g fs (.or ia ib)) := by
  refine PW.weak (pw_or ha hb) ?_
  rintro σ H Q ⟨Bn, Ow, Γ, r, Γ', t', rs, he, ht, hQ⟩
  simp only [ev] at he
  obtain ⟨⟨x, Γ1⟩, e1, he⟩ := Option.bind_eq_some_iff.mp he
  obtain ⟨t, et, he⟩ := Option.bind_eq_some_iff.mp he
  refine ⟨Bn, Ow, Γ, x, Γ1, t, rs, e1, et, fun H1 O1 s1 r1 => ?_⟩
  cases t with
  | true =>
    simp only [if_true, Option.some.injEq, Prod.mk.injEq] at he ⊢
    obtain ⟨rfl, rfl⟩ := he
    rw [et] at ht; cases ht
    exact hQ H1 O1 s1 r1
  | false =>
    simp only [Bool.false_eq_true, if_false] at he ⊢
    exact ⟨Bn, O1, Γ1, r, Γ', t', r1, he, ht, fun H2 O2 s2 r2 => hQ H2 O2 (s1.trans s2) r2⟩
theorem p_not (C : Cok0 g X) (ha : PE X a (tR g fs ia)) : PE X (.UnaryOp .Not a pos) (tR g fs (.not ia)) := by
  refine PE.weak (pe_notT ha) ?_
  rintro σ H Q ⟨Bn, Ow, Γ, r, Γ', rs, he, hQ⟩
  simp only [ev] at he
  obtain ⟨⟨x, Γ1⟩, e1, he⟩ := Option.bind_eq_some_iff.mp he
  obtain ⟨t, et, he⟩ := Option.map_eq_some_iff.mp he
  simp only [Prod.mk.injEq] at he
  obtain ⟨rfl, rfl⟩ := he
  exact ⟨Bn, Ow, Γ, x, Γ1, rs, e1, fun v H1 O1 s1 r1 v1 => ⟨t, by rw [C.K]; exact test_v r1 v1 et, hQ _ H1 O1 s1 r1 (by simp only [Val, Rep])⟩⟩
theorem t_not (ha : PT X a (tT g fs ia)) : PT X (.UnaryOp .Not a pos) (tT g fs (.not ia)) := by
  refine PT.weak (pt_not ha) ?_
  rintro σ H Q ⟨Bn, Ow, Γ, r, Γ', t', rs, he, ht, hQ⟩
  simp only [ev] at he
  obtain ⟨⟨x, Γ1⟩, e1, he⟩ := Option.bind_eq_some_iff.mp he
  obtain ⟨t, et, he⟩ := Option.map_eq_some_iff.mp he
  simp only [Prod.mk.injEq] at he
  obtain ⟨rfl, rfl⟩ := he
  simp only [testD, datum, Option.bind_some, truthD, Option.some.injEq] at ht
  subst ht
  exact ⟨Bn, Ow, Γ, x, Γ1, t, rs, e1, et, fun H1 O1 s1 r1 => hQ H1 O1 s1 r1⟩
theorem p_ite (hc : PT X c (tT g fs ic)) (ha : PE X a (tR g fs ia)) (hb : PE X b (tR g fs ib)) : PE X (.IfExp c a b pos) (tR g fs (.ite ic ia ib)) := by
  refine PE.weak (pe_ifExp hc ha hb) ?_
  rintro σ H Q ⟨Bn, Ow, Γ, r, Γ', rs, he, hQ⟩
  simp only [ev] at he
  obtain ⟨⟨x, Γ1⟩, e1, he⟩ := Option.bind_eq_some_iff.mp he
  obtain ⟨t, et, he⟩ := Option.bind_eq_some_iff.mp he
  refine ⟨Bn, Ow, Γ, x, Γ1, t, rs, e1, et, fun H1 O1 s1 r1 => ?_⟩
  cases t with
  | true =>
    simp only [if_true] at he ⊢
    exact ⟨Bn, O1, Γ1, r, Γ', r1, he, fun w H2 O2 s2 r2 w2 => hQ w H2 O2 (s1.trans s2) r2 w2⟩
  | false =>
    simp only [Bool.false_eq_true, if_false] at he ⊢
    exact ⟨Bn, O1, Γ1, r, Γ', r1, he, fun w H2 O2 s2 r2 w2 => hQ w H2 O2 (s1.trans s2) r2 w2⟩

/-! ### argument lists, displays, subscripts -/
theorem a_nil : PA X [] (tAs g fs []) := by
  refine PA.weak pa_nil ?_
  rintro σ H Q ⟨Bn, Ow, Γ, xs, Γ', rs, he, hQ⟩
  simp only [evs, Option.some.injEq, Prod.mk.injEq] at he
  obtain ⟨rfl, rfl⟩ := he
  exact hQ [] H Ow (.refl _ _) rs rfl
theorem a_cons {es : List Expr} {ies : List E} (ha : PE X a (tR g fs ia)) (hr : PA X es (tAs g fs ies)) (hs : starEach (a :: es) X.env = (false, eval a X.env) :: starEach es X.env) : PA X (a :: es) (tAs g fs (ia :: ies)) := by
  refine PA.weak (pa_cons ha hr hs) ?_
  rintro σ H Q ⟨Bn, Ow, Γ, xs, Γ', rs, he, hQ⟩
  simp only [evs] at he
  obtain ⟨⟨x, Γ1⟩, e1, he⟩ := Option.bind_eq_some_iff.mp he
  obtain ⟨⟨ys, Γ2⟩, e2, he⟩ := Option.map_eq_some_iff.mp he
  simp only [Prod.mk.injEq] at he
  obtain ⟨rfl, rfl⟩ := he
  exact tR_one rs e1 fun v H1 O1 s1 r1 v1 => ⟨Bn, O1, Γ1, ys, Γ2, r1, e2, fun vs H2 O2 s2 r2 w2 => hQ (v :: vs) H2 O2 (s1.trans s2) r2 ⟨v, vs, rfl, v1.step s2 r2, w2⟩⟩
theorem p_tup {es : List Expr} {ies : List E} {k : Nat} (C : Cok0 g X) (h : PA X es (tAs g fs ies)) : PE X (.Tuple es k pos) (tR g fs (.tup ies)) := by
  refine PE.weak (PE.kf (pe_tup h)) ?_
  rintro σ H Q ⟨Bn, Ow, Γ, r, Γ', rs, he, hQ⟩
  simp only [ev] at he
  obtain ⟨⟨xs, Γ1⟩, e1, he⟩ := Option.bind_eq_some_iff.mp he
  obtain ⟨⟨ds, Γ2⟩, e2, he⟩ := Option.bind_eq_some_iff.mp he
  simp only [Option.ite_none_right_eq_some, Option.some.injEq, Prod.mk.injEq] at he
  obtain ⟨hz, rfl, rfl⟩ := he
  refine ⟨Bn, Ow, Γ, xs, Γ1, rs, e1, fun vs H1 O1 s1 r1 v1 => ?_⟩
  obtain ⟨O2, s2, r2, p2⟩ := fres_ok r1 v1 e2
  refine ⟨by rw [← p2.len]; exact hz, fun p np kf => ?_⟩
  obtain ⟨O3, s3, r3, val⟩ := (new_tup np r2.trk p2).val r2 (same_new np)
  exact hQ _ _ O3 ((s1.trans s2).trans s3) r3 val
theorem p_lst {es : List Expr} {ies : List E} (C : Cok0 g X) (h : PA X es (tAs g fs ies)) : PE X (.List es pos) (tR g fs (.lst ies)) := by
  refine PE.weak (PE.kf (pe_lst h)) ?_
  rintro σ H Q ⟨Bn, Ow, Γ, r, Γ', rs, he, hQ⟩
  simp only [ev] at he
  obtain ⟨⟨xs, Γ1⟩, e1, he⟩ := Option.bind_eq_some_iff.mp he
  obtain ⟨⟨ds, Γ2⟩, e2, he⟩ := Option.bind_eq_some_iff.mp he
  simp only [Option.ite_none_right_eq_some, Option.some.injEq, Prod.mk.injEq] at he
  obtain ⟨hz, rfl, rfl⟩ := he
  refine ⟨Bn, Ow, Γ, xs, Γ1, rs, e1, fun vs H1 O1 s1 r1 v1 => ?_⟩
  obtain ⟨O2, s2, r2, p2⟩ := fres_ok r1 v1 e2
  refine ⟨by rw [← p2.len]; exact hz, fun p np kf => ?_⟩
  have kf' : g.K.lookup p = none := by rw [← C.K]; exact kf_new kf upd_same
  obtain ⟨O3, s3, r3, val⟩ := (new_lst np kf' p2).val r2 (same_new np)
  exact hQ _ _ O3 ((s1.trans s2).trans s3) r3 val
theorem reps_at {A : Addr → Prop} {ds : List D} {vs : List V} {i : Int} {d : D} (h : Reps g A H ds vs) (e : atI ds i = some d) : ∃ v, atI vs i = some v ∧ Rep g A H d v := by
  unfold atI at e ⊢
  rw [← h.len]
  obtain ⟨j, e1, e2⟩ := Option.bind_eq_some_iff.mp e
  obtain ⟨v, e3, r⟩ := h.get e2
  exact ⟨v, by rw [e1]; exact e3, r⟩
theorem atI_map {α β : Type} {f : α → β} {xs : List α} {i : Int} {x : α} (e : atI xs i = some x) : atI (xs.map f) i = some (f x) := by
  unfold atI at e ⊢
  obtain ⟨j, e1, e2⟩ := Option.bind_eq_some_iff.mp e
  rw [List.length_map, e1]
  show (xs.map f)[j]? = _
  rw [List.getElem?_map, e2]
  rfl
theorem ix_core {A : Addr → Prop} {d e r : D} {v w : V} {Q : VK} (hv : Rdb g A H d v) (hw : Rdb g A H e w) (h : ixD d e = some r) (hQ : ∀ u, Rep g A H r u → Q u H) : rIx g.K v w H Q := by
  cases d <;> cases e <;> simp only [ixD, reduceCtorEq] at h
  · split at h
    · obtain ⟨c, e1, rfl⟩ := Option.map_eq_some_iff.mp h
      rename_i hz
      exact .inr (.inr ⟨_, _, c, rdb_str hv, rdb_int hw, hz, e1, hQ _ (by simp only [Rep])⟩)
    · cases h
  · obtain ⟨a, vs, rfl, e1, r1⟩ := hv
    obtain ⟨u, eu, ru⟩ := reps_at r1 h
    exact .inl ⟨a, vs, _, u, rfl, rdb_int hw, .inl (.inl e1), eu, hQ _ ru⟩
  · obtain ⟨a, vs, rfl, _, e1, r1⟩ := rdb_tup hv
    obtain ⟨u, eu, ru⟩ := reps_at r1 h
    exact .inr (.inl ⟨a, vs, _, u, rfl, rdb_int hw, e1, eu, hQ _ ru⟩)
  · obtain ⟨a, rfl, _, e1⟩ := rdb_scr hv
    obtain ⟨i, e2, rfl⟩ := Option.map_eq_some_iff.mp h
    exact .inl ⟨a, _, _, _, rfl, rdb_int hw, e1, atI_map e2, hQ _ (by simp only [Rep])⟩
theorem p_ix (C : Cok0 g X) (ha : PE X a (tR g fs ia)) (hb : PE X b (tR g fs ib)) (hs : PlainIx b) : PE X (.Subscript a b pos) (tR g fs (.ix ia ib)) := by
  refine PE.weak (pe_ix ix_seq ha hb hs) ?_
  rintro σ H Q ⟨Bn, Ow, Γ, r, Γ', rs, he, hQ⟩
  simp only [ev] at he
  obtain ⟨⟨x, Γ1⟩, e1, he⟩ := Option.bind_eq_some_iff.mp he
  obtain ⟨⟨y, Γ2⟩, e2, he⟩ := Option.bind_eq_some_iff.mp he
  obtain ⟨d, ed, he⟩ := Option.bind_eq_some_iff.mp he
  obtain ⟨e, ee, he⟩ := Option.bind_eq_some_iff.mp he
  obtain ⟨r', hb, he⟩ := Option.map_eq_some_iff.mp he
  simp only [Prod.mk.injEq] at he
  obtain ⟨rfl, rfl⟩ := he
  rw [← datum_dn] at ed ee
  refine tR_two rs e1 e2 fun v w H2 O2 s2 r2 v2 w2 => ?_
  rw [C.K]
  exact ix_core (v2.rdb r2 ed) (w2.rdb r2 ee) hb fun u ru => hQ u H2 O2 s2 r2 ru
theorem reps_cut {A : Addr → Prop} {ds : List D} {vs : List V} (lo hi : Option Int) (h : Reps g A H ds vs) : Reps g A H (cutD ds lo hi) (cutV vs lo hi) := by
  unfold cutD cutV
  rw [h.len]
  exact (h.drop _).take _
theorem reps_ints {A : Addr → Prop} : ∀ ns : List Int, Reps g A H (ns.map D.int) (ns.map V.int)
  | [] => by simp only [List.map_nil, Reps]
  | n :: ns => by
    simp only [List.map_cons, Reps]
    exact ⟨_, _, rfl, by simp only [Rep], reps_ints ns⟩
theorem slc_core {A : Addr → Prop} {d : D} {r : RV} {v : V} {lo hi : Option Int} {Q : VK} (hv : Rdb g A H d v) (tr : ∀ a, A a → H a ≠ none) (h : slcD d lo hi = some r) (hQ : ∀ u H', Same H H' → ((∀ a o, g.K.lookup a = some o → H' a = none) → Res g A H H' r u) → Q u H') :
    rSlL g.K v lo hi H Q ∨ rSlT g.K v lo hi H Q := by
  cases d <;> simp only [slcD, reduceCtorEq, Option.some.injEq, Option.ite_none_left_eq_some] at h
  · subst h
    obtain ⟨a, vs, rfl, e1, r1⟩ := hv
    exact .inl ⟨a, vs, rfl, .inl (.inl e1), fun p np => hQ _ _ (same_new np) fun kf => new_lst np (kf_new kf upd_same) (reps_cut lo hi r1)⟩
  · obtain ⟨hz, rfl⟩ := h
    obtain ⟨a, vs, rfl, _, e1, r1⟩ := rdb_tup hv
    refine .inr ⟨a, vs, rfl, e1, by rw [← r1.len]; exact hz, fun p np => hQ _ _ (same_new np) fun kf => new_tup np tr (reps_cut lo hi r1)⟩
  · subst h
    obtain ⟨a, rfl, _, e1⟩ := rdb_scr hv
    exact .inl ⟨a, _, rfl, e1, fun p np => hQ _ _ (same_new np) fun kf => new_lst np (kf_new kf upd_same) (reps_cut lo hi (reps_ints _))⟩
/-- a part of a slice -/
def partOf : Option Expr → List Expr
  | none => []
  | some e => [e]
structure Part (g : Gx) (fs : List FS) (X : Cx) (e : Option Expr) (ies : List E) : Prop where
  run : (e = none ∧ ies = []) ∨ ∃ a ia, e = some a ∧ ies = [ia] ∧ PE X a (tR g fs ia)
theorem p_slc {lo hi : Option Expr} {il ih : List E} {p2 : Pos} (C : Cok0 g X) (ha : PE X a (tR g fs ia)) (hl : Part g fs X lo il) (hh : Part g fs X hi ih) : PE X (.Subscript a (.Slice lo hi none p2) pos) (tR g fs (.slc ia il ih)) := by
  -- the reading of a part
  have part : ∀ {e : Option Expr} {ies : List E}, Part g fs X e ies → ∃ t, PO X e t ∧ ∀ {Bn Ow Γ xs Γ' ds o σ H} {Q : Option Int → Hp → Prop}, RS g Bn Ow H σ Γ → evs fs ies Γ = some (xs, Γ') → datums Γ' xs = some ds → slO ds = some o →
      (∀ H' Ow', Stp Ow H Ow' H' → RS g Bn Ow' H' σ Γ' → Q o H') → t σ H Q := by
    intro e ies h
    rcases h.run with ⟨rfl, rfl⟩ | ⟨b, ib, rfl, rfl, hb⟩
    · refine ⟨_, po_none, fun {Bn Ow Γ xs Γ' ds o σ H Q} rs e1 e2 e3 k => ?_⟩
      simp only [evs, Option.some.injEq, Prod.mk.injEq] at e1
      obtain ⟨rfl, rfl⟩ := e1
      simp only [datums, Option.some.injEq] at e2
      subst e2
      simp only [slO, Option.some.injEq] at e3
      subst e3
      exact k H Ow (.refl _ _) rs
    · refine ⟨_, po_some hb, fun {Bn Ow Γ xs Γ' ds o σ H Q} rs e1 e2 e3 k => ?_⟩
      simp only [evs] at e1
      obtain ⟨⟨x, Γ1⟩, e4, e1⟩ := Option.bind_eq_some_iff.mp e1
      simp only [Option.map_some, Option.some.injEq, Prod.mk.injEq] at e1
      obtain ⟨rfl, rfl⟩ := e1
      simp only [datums] at e2
      obtain ⟨d, e5, e2⟩ := Option.bind_eq_some_iff.mp e2
      simp only [Option.map_some, Option.some.injEq] at e2
      subst e2
      rw [← datum_dn] at e5
      refine tR_one rs e4 fun v H1 O1 s1 r1 v1 => ?_
      have q := v1.rdb r1 e5
      cases d <;> simp only [slO, reduceCtorEq, Option.some.injEq] at e3
      subst e3
      exact ⟨_, rdb_int q, k H1 O1 s1 r1⟩
  obtain ⟨tl, pl, kl⟩ := part hl
  obtain ⟨th, ph, kh⟩ := part hh
  refine PE.weak (PE.kf (pe_slice (sl_list.or sl_tup) ha pl ph)) ?_
  rintro σ H Q ⟨Bn, Ow, Γ, r, Γ', rs, he, hQ⟩
  simp only [ev] at he
  obtain ⟨⟨x, Γ1⟩, e1, he⟩ := Option.bind_eq_some_iff.mp he
  obtain ⟨⟨ys, Γ2⟩, e2, he⟩ := Option.bind_eq_some_iff.mp he
  obtain ⟨l, el, he⟩ := Option.bind_eq_some_iff.mp he
  obtain ⟨⟨zs, Γ3⟩, e3, he⟩ := Option.bind_eq_some_iff.mp he
  obtain ⟨d, ed, he⟩ := Option.bind_eq_some_iff.mp he
  obtain ⟨h, eh, he⟩ := Option.bind_eq_some_iff.mp he
  obtain ⟨lo', el', he⟩ := Option.bind_eq_some_iff.mp he
  obtain ⟨hi', eh', he⟩ := Option.bind_eq_some_iff.mp he
  obtain ⟨r', hb, he⟩ := Option.map_eq_some_iff.mp he
  simp only [Prod.mk.injEq] at he
  obtain ⟨rfl, rfl⟩ := he
  rw [← datum_dn] at ed
  refine tR_one rs e1 fun v H1 O1 s1 r1 v1 => kl r1 e2 el el' fun H2 O2 s2 r2 => kh r2 e3 eh eh' fun H3 O3 s3 r3 => ?_
  rw [C.K]
  have v3 := ((v1.step s2 r2).step s3 r3).rdb r3 ed
  refine slc_core v3 r3.trk hb fun u H' sm kr kf => ?_
  obtain ⟨O4, s4, r4, val⟩ := (kr kf).val r3 sm
  exact hQ u H' O4 (((s1.trans s2).trans s3).trans s4) r4 val
end
end DV

namespace DV
open PySem L2
/-! ### built-ins on data -/
def rBi (g : Gx) (b : Bi) : List V → Hp → VK → Prop := fun vs H Q => ∃ A ds r, Paired (fun d v => Rdb g A H d v) ds vs ∧ (∀ a, A a → H a ≠ none) ∧ biD b ds = some r ∧ ∀ v H', Same H H' → Res g A H H' r v → Q v H'
theorem maxI_spec : ∀ {ns : List Int} {m : Int}, maxI ns = some m → m ∈ ns ∧ ∀ y ∈ ns, y ≤ m := by
  have go : ∀ (r : List Int) (x : Int), (r.foldl (fun a b => if a < b then b else a) x) ∈ x :: r ∧ ∀ y ∈ x :: r, y ≤ r.foldl (fun a b => if a < b then b else a) x := by
    intro r
    induction r with
    | nil => intro x; exact ⟨List.mem_cons_self, fun y hy => by simp at hy; rw [hy]; exact Int.le_refl _⟩
    | cons z r ih =>
      intro x
      rw [List.foldl_cons]
      have q := ih (if x < z then z else x)
      refine ⟨?_, fun y hy => ?_⟩
      · rcases List.mem_cons.mp q.1 with h | h
        · rw [h]; split
          · simp
          · simp
        · simp [h]
      · have q2 := q.2 _ List.mem_cons_self
        have b1 : x ≤ (if x < z then z else x) := by split <;> omega
        have b2 : z ≤ (if x < z then z else x) := by split <;> omega
        rcases List.mem_cons.mp hy with h | h
        · rw [h]; exact Int.le_trans b1 q2
        · rcases List.mem_cons.mp h with h | h
          · rw [h]; exact Int.le_trans b2 q2
          · exact q.2 y (List.mem_cons_of_mem _ h)
  intro ns m h
  cases ns with
  | nil => simp [maxI] at h
  | cons x r => simp only [maxI, Option.some.injEq] at h; subst h; exact go r x
theorem minI_spec : ∀ {ns : List Int} {m : Int}, minI ns = some m → m ∈ ns ∧ ∀ y ∈ ns, m ≤ y := by
  have go : ∀ (r : List Int) (x : Int), (r.foldl (fun a b => if b < a then b else a) x) ∈ x :: r ∧ ∀ y ∈ x :: r, r.foldl (fun a b => if b < a then b else a) x ≤ y := by
    intro r
    induction r with
    | nil => intro x; exact ⟨List.mem_cons_self, fun y hy => by simp at hy; rw [hy]; exact Int.le_refl _⟩
    | cons z r ih =>
      intro x
      rw [List.foldl_cons]
      have q := ih (if z < x then z else x)
      refine ⟨?_, fun y hy => ?_⟩
      · rcases List.mem_cons.mp q.1 with h | h
        · rw [h]; split
          · simp
          · simp
        · simp [h]
      · have q2 := q.2 _ List.mem_cons_self
        have b1 : (if z < x then z else x) ≤ x := by split <;> omega
        have b2 : (if z < x then z else x) ≤ z := by split <;> omega
        rcases List.mem_cons.mp hy with h | h
        · rw [h]; exact Int.le_trans q2 b1
        · rcases List.mem_cons.mp h with h | h
          · rw [h]; exact Int.le_trans q2 b2
          · exact q.2 y (List.mem_cons_of_mem _ h)
  intro ns m h
  cases ns with
  | nil => simp [minI] at h
  | cons x r => simp only [minI, Option.some.injEq] at h; subst h; exact go r x
section
variable {X : Cx} {g : Gx} {A : Addr → Prop} {H : Hp}
theorem ints_of : ∀ {ds : List D} {vs : List V} {ns : List Int}, Reps g A H ds vs → intsD ds = some ns → vs = ns.map V.int
  | [], _, ns, h, e => by simp only [Reps] at h; simp only [intsD, Option.some.injEq] at e; subst h e; rfl
  | d :: ds, _, ns, h, e => by
    simp only [Reps] at h
    obtain ⟨v, r, rfl, h1, h2⟩ := h
    cases d <;> simp only [intsD, reduceCtorEq] at e
    obtain ⟨ms, e1, rfl⟩ := Option.map_eq_some_iff.mp e
    simp only [Rep] at h1
    rw [List.map_cons, h1, ints_of h2 e1]
theorem bls_of : ∀ {ds : List D} {vs : List V} {ns : List Bool}, Reps g A H ds vs → blsD ds = some ns → vs = ns.map V.bl
  | [], _, ns, h, e => by simp only [Reps] at h; simp only [blsD, Option.some.injEq] at e; subst h e; rfl
  | d :: ds, _, ns, h, e => by
    simp only [Reps] at h
    obtain ⟨v, r, rfl, h1, h2⟩ := h
    cases d <;> simp only [blsD, reduceCtorEq] at e
    obtain ⟨ms, e1, rfl⟩ := Option.map_eq_some_iff.mp e
    simp only [Rep] at h1
    rw [List.map_cons, h1, bls_of h2 e1]
theorem intsD_len : ∀ {ds : List D} {ns : List Int}, intsD ds = some ns → ds.length = ns.length
  | [], ns, e => by simp only [intsD, Option.some.injEq] at e; subst e; rfl
  | d :: ds, ns, e => by
    cases d <;> simp only [intsD, reduceCtorEq] at e
    obtain ⟨ms, e1, rfl⟩ := Option.map_eq_some_iff.mp e
    rw [List.length_cons, List.length_cons, intsD_len e1]
theorem pd1 {ds : List D} {v : V} (h : Paired (fun d v => Rdb g A H d v) ds [v]) : ∃ d, ds = [d] ∧ Rdb g A H d v := by
  cases h with
  | cons a b => cases b; exact ⟨_, rfl, a⟩
theorem bi1 {b : Bi} {f : Value} {r : List V → Hp → VK → Prop} (hK : X.K = g.K) (h : CallR X f r)
    (k : ∀ (A : Addr → Prop) (H : Hp) (ds : List D) (vs : List V) (x : RV) (Q : VK), Paired (fun d v => Rdb g A H d v) ds vs → (∀ a, A a → H a ≠ none) → biD b ds = some x → (∀ v H', Same H H' → ((∀ a o, g.K.lookup a = some o → H' a = none) → Res g A H H' x v) → Q v H') → r vs H Q) : CallR X f (rBi g b) := by
  refine CallR.weak (CallR.kf h) ?_
  rintro vs H Q ⟨A, ds, x, hp, tr, hb, hQ⟩
  exact k A H ds vs x _ hp tr hb fun v H' sm kr kf => hQ v H' sm (kr fun a o e => kf a o (by rw [hK]; exact e))
theorem paired1 {x : D} {vs : List V} (h : Paired (fun d v => Rdb g A H d v) [x] vs) : ∃ v, vs = [v] ∧ Rdb g A H x v := by
  cases h with
  | cons a b => cases b; exact ⟨_, rfl, a⟩
theorem paired2 {x y : D} {vs : List V} (h : Paired (fun d v => Rdb g A H d v) [x, y] vs) : ∃ v w, vs = [v, w] ∧ Rdb g A H x v ∧ Rdb g A H y w := by
  cases h with
  | cons a b =>
    cases b with
    | cons c d => cases d; exact ⟨_, _, rfl, a, c⟩
theorem b_len (hK : X.K = g.K) : CallR X (.builtin "len") (rBi g .len) := by
  refine bi1 hK call_len ?_
  intro A H ds vs x Q hp tr hb hQ
  rw [hK]
  match ds, hb with
  | [.lst xs], hb =>
    simp only [biD, Option.some.injEq] at hb; subst hb
    obtain ⟨v, rfl, q⟩ := paired1 hp
    obtain ⟨a, ws, rfl, e1, r1⟩ := q
    exact ⟨_, ws.length, rfl, .inl ⟨ws, .inl (.inl e1), rfl⟩, hQ _ H (same_rfl H) fun _ => by simp only [Res, Rep, r1.len]⟩
  | [.tup xs], hb =>
    simp only [biD, Option.some.injEq] at hb; subst hb
    obtain ⟨v, rfl, q⟩ := paired1 hp
    obtain ⟨a, ws, rfl, _, e1, r1⟩ := rdb_tup q
    exact ⟨_, ws.length, rfl, .inr ⟨ws, e1, rfl⟩, hQ _ H (same_rfl H) fun _ => by simp only [Res, Rep, r1.len]⟩
  | [.scr ns], hb =>
    simp only [biD, Option.some.injEq] at hb; subst hb
    obtain ⟨v, rfl, q⟩ := paired1 hp
    obtain ⟨a, rfl, _, e1⟩ := rdb_scr q
    exact ⟨_, _, rfl, .inl ⟨_, e1, rfl⟩, hQ _ H (same_rfl H) fun _ => by simp only [Res, Rep, List.length_map]⟩
  | [.str s], hb =>
    simp only [biD, Option.ite_none_right_eq_some, Option.some.injEq] at hb
    obtain ⟨hz, rfl⟩ := hb
    obtain ⟨v, rfl, q⟩ := paired1 hp
    exact ⟨_, s.length, rfl, by rw [rdb_str q]; exact ⟨hz, rfl⟩, hQ _ H (same_rfl H) fun _ => by simp only [Res, Rep]⟩
theorem b_int (hK : X.K = g.K) : CallR X (.type "int") (rBi g .int1) := by
  refine bi1 hK call_int1 ?_
  intro A H ds vs x Q hp tr hb hQ
  match ds, hb with
  | [.int i], hb =>
    simp only [biD, Option.some.injEq] at hb; subst hb
    obtain ⟨v, rfl, q⟩ := paired1 hp
    exact .inl ⟨i, by rw [rdb_int q], hQ _ H (same_rfl H) fun _ => by simp only [Res, Rep]⟩
  | [.bl i], hb =>
    simp only [biD, Option.some.injEq] at hb; subst hb
    obtain ⟨v, rfl, q⟩ := paired1 hp
    exact .inr ⟨i, by rw [rdb_bl q], hQ _ H (same_rfl H) fun _ => by simp only [Res, Rep]⟩
theorem b_abs (hK : X.K = g.K) : CallR X (.builtin "abs") (rBi g .abs) := by
  refine bi1 hK call_abs ?_
  intro A H ds vs x Q hp tr hb hQ
  match ds, hb with
  | [.int i], hb =>
    simp only [biD, Option.some.injEq] at hb; subst hb
    obtain ⟨v, rfl, q⟩ := paired1 hp
    exact ⟨i, by rw [rdb_int q], hQ _ H (same_rfl H) fun _ => by simp only [Res, Rep]⟩
theorem b_max2 (C : Cok g X) : CallR X (.builtin "max") (rBi g .max2) := by
  refine bi1 C.K (call_max2 C.calm) ?_
  intro A H ds vs x Q hp tr hb hQ
  match ds, hb with
  | [.int i, .int j], hb =>
    simp only [biD, Option.some.injEq] at hb; subst hb
    obtain ⟨v, w, rfl, q, q'⟩ := paired2 hp
    exact ⟨i, j, by rw [rdb_int q, rdb_int q'], hQ _ H (same_rfl H) fun _ => by simp only [Res, Rep]⟩
theorem b_min2 (C : Cok g X) : CallR X (.builtin "min") (rBi g .min2) := by
  refine bi1 C.K (call_min2 C.calm) ?_
  intro A H ds vs x Q hp tr hb hQ
  match ds, hb with
  | [.int i, .int j], hb =>
    simp only [biD, Option.some.injEq] at hb; subst hb
    obtain ⟨v, w, rfl, q, q'⟩ := paired2 hp
    exact ⟨i, j, by rw [rdb_int q, rdb_int q'], hQ _ H (same_rfl H) fun _ => by simp only [Res, Rep]⟩
theorem b_maxl (C : Cok g X) : CallR X (.builtin "max") (rBi g .maxl) := by
  refine bi1 C.K (cr_max C.calm) ?_
  intro A H ds vs x Q hp tr hb hQ
  match ds, hb with
  | [.lst xs], hb =>
    simp only [biD] at hb
    obtain ⟨ns, e1, hb⟩ := Option.bind_eq_some_iff.mp hb
    obtain ⟨m, e2, rfl⟩ := Option.map_eq_some_iff.mp hb
    obtain ⟨v, rfl, q⟩ := paired1 hp
    obtain ⟨a, ws, rfl, e3, r1⟩ := q
    rw [ints_of r1 e1] at e3
    have sp := maxI_spec e2
    refine ⟨a, ns, rfl, .inl (.inl e3), List.length_pos_of_mem sp.1, fun m' h1 h2 => hQ _ H (same_rfl H) fun _ => ?_⟩
    simp only [Res, Rep]
    rw [Int.le_antisymm (sp.2 m' h1) (h2 m sp.1)]
theorem b_minl (C : Cok g X) : CallR X (.builtin "min") (rBi g .minl) := by
  refine bi1 C.K (cr_min C.calm) ?_
  intro A H ds vs x Q hp tr hb hQ
  match ds, hb with
  | [.lst xs], hb =>
    simp only [biD] at hb
    obtain ⟨ns, e1, hb⟩ := Option.bind_eq_some_iff.mp hb
    obtain ⟨m, e2, rfl⟩ := Option.map_eq_some_iff.mp hb
    obtain ⟨v, rfl, q⟩ := paired1 hp
    obtain ⟨a, ws, rfl, e3, r1⟩ := q
    rw [ints_of r1 e1] at e3
    have sp := minI_spec e2
    refine ⟨a, ns, rfl, .inl (.inl e3), List.length_pos_of_mem sp.1, fun m' h1 h2 => hQ _ H (same_rfl H) fun _ => ?_⟩
    simp only [Res, Rep]
    rw [Int.le_antisymm (h2 m sp.1) (sp.2 m' h1)]
theorem b_suml (C : Cok g X) : CallR X (.builtin "sum") (rBi g .suml) := by
  refine bi1 C.K (cr_sum C.calm) ?_
  intro A H ds vs x Q hp tr hb hQ
  match ds, hb with
  | [.lst xs], hb =>
    simp only [biD] at hb
    obtain ⟨ns, e1, rfl⟩ := Option.map_eq_some_iff.mp hb
    obtain ⟨v, rfl, q⟩ := paired1 hp
    obtain ⟨a, ws, rfl, e3, r1⟩ := q
    rw [ints_of r1 e1] at e3
    exact ⟨a, ns, rfl, .inl (.inl e3), hQ _ H (same_rfl H) fun _ => by simp only [Res, Rep]⟩
theorem b_alll (C : Cok g X) : CallR X (.builtin "all") (rBi g .alll) := by
  refine bi1 C.K (cr_all C.calm) ?_
  intro A H ds vs x Q hp tr hb hQ
  match ds, hb with
  | [.lst xs], hb =>
    simp only [biD] at hb
    obtain ⟨ns, e1, rfl⟩ := Option.map_eq_some_iff.mp hb
    obtain ⟨v, rfl, q⟩ := paired1 hp
    obtain ⟨a, ws, rfl, e3, r1⟩ := q
    rw [bls_of r1 e1] at e3
    exact ⟨a, ns, rfl, .inl (.inl e3), hQ _ H (same_rfl H) fun _ => by simp only [Res, Rep]⟩
theorem b_anyl (C : Cok g X) : CallR X (.builtin "any") (rBi g .anyl) := by
  refine bi1 C.K (cr_any C.calm) ?_
  intro A H ds vs x Q hp tr hb hQ
  match ds, hb with
  | [.lst xs], hb =>
    simp only [biD] at hb
    obtain ⟨ns, e1, rfl⟩ := Option.map_eq_some_iff.mp hb
    obtain ⟨v, rfl, q⟩ := paired1 hp
    obtain ⟨a, ws, rfl, e3, r1⟩ := q
    rw [bls_of r1 e1] at e3
    exact ⟨a, ns, rfl, .inl (.inl e3), hQ _ H (same_rfl H) fun _ => by simp only [Res, Rep]⟩
theorem b_list (hK : X.K = g.K) : CallR X (.type "list") (rBi g .list) := by
  refine bi1 hK call_list_of ?_
  intro A H ds vs x Q hp tr hb hQ
  rw [hK]
  match ds, hb with
  | [.lst xs], hb =>
    simp only [biD, Option.some.injEq] at hb; subst hb
    obtain ⟨v, rfl, q⟩ := paired1 hp
    obtain ⟨a, ws, rfl, e1, r1⟩ := q
    exact ⟨a, ws, rfl, .inl (.inl (.inl e1)), fun p np => hQ _ _ (same_new np) fun kf => new_lst np (kf_new kf upd_same) r1⟩
  | [.tup xs], hb =>
    simp only [biD, Option.some.injEq] at hb; subst hb
    obtain ⟨v, rfl, q⟩ := paired1 hp
    obtain ⟨a, ws, rfl, _, e1, r1⟩ := rdb_tup q
    exact ⟨a, ws, rfl, .inr e1, fun p np => hQ _ _ (same_new np) fun kf => new_lst np (kf_new kf upd_same) r1⟩
theorem b_tuple (hK : X.K = g.K) : CallR X (.type "tuple") (rBi g .tuple) := by
  refine bi1 hK call_tuple_of ?_
  intro A H ds vs x Q hp tr hb hQ
  rw [hK]
  match ds, hb with
  | [.lst xs], hb =>
    simp only [biD, Option.some.injEq] at hb; subst hb
    obtain ⟨v, rfl, q⟩ := paired1 hp
    obtain ⟨a, ws, rfl, e1, r1⟩ := q
    exact ⟨a, ws, rfl, .inl ⟨.inl (.inl e1), fun p np => hQ _ _ (same_new np) fun kf => new_tup np tr r1⟩⟩
  | [.tup xs], hb =>
    simp only [biD, Option.some.injEq] at hb; subst hb
    obtain ⟨v, rfl, q⟩ := paired1 hp
    have q0 := q
    obtain ⟨a, ws, rfl, _, e1, r1⟩ := rdb_tup q
    exact ⟨a, ws, rfl, .inr ⟨e1, hQ _ H (same_rfl H) fun _ => q0⟩⟩
def tyN : Ty → String
  | .int => "int" | .bool => "bool" | .str => "str" | .list => "list" | .tuple => "tuple"
/-- isinstance(x, T): the reading of the two arguments -/
theorem isi_core {t : Ty} {d : D} {v : V} {Q : VK} (hs : shallow d = true) (h : Rdb g A H d v) (hQ : Q (.bl (isiD t d)) H) : rIsi g.K [v, .ty (tyN t)] H Q := by
  cases d with
  | obj => simp [shallow] at hs
  | exc => simp [shallow] at hs
  | err => simp [shallow] at hs
  | scr => simp [shallow] at hs
  | dct =>
    obtain ⟨a, rfl, _, e1⟩ := rdb_dct h
    exact ⟨_, _, _, _, isiD t .dct, rfl, .ty _, .base (.dK e1), kit_ty (by cases t <;> (simp only [isiD, tyN]; decide +kernel)), hQ⟩
  | dic ks ds =>
    obtain ⟨a, vs, rfl, _, _, e1, _⟩ := rdb_dic h
    exact ⟨_, _, _, _, isiD t (.dic ks ds), rfl, .ty _, .base (.dK e1), kit_ty (by cases t <;> (simp only [isiD, tyN]; decide +kernel)), hQ⟩
  | non => rw [rdb_non h]; exact ⟨_, _, _, _, isiD t .non, rfl, .ty _, .base .non, kit_ty (by cases t <;> decide +kernel), hQ⟩
  | bl b => rw [rdb_bl h]; exact ⟨_, _, _, _, isiD t (.bl b), rfl, .ty _, .base (.bl b), kit_ty (by cases t <;> (simp only [isiD, tyN]; decide +kernel)), hQ⟩
  | int b => rw [rdb_int h]; exact ⟨_, _, _, _, isiD t (.int b), rfl, .ty _, .base (.int b), kit_ty (by cases t <;> (simp only [isiD, tyN]; decide +kernel)), hQ⟩
  | str b => rw [rdb_str h]; exact ⟨_, _, _, _, isiD t (.str b), rfl, .ty _, .base (.str b), kit_ty (by cases t <;> (simp only [isiD, tyN]; decide +kernel)), hQ⟩
  | lst b =>
    obtain ⟨a, ws, rfl, e1, r1⟩ := h
    exact ⟨_, _, _, _, isiD t (.lst b), rfl, .ty _, .base (.lst e1), kit_ty (by cases t <;> (simp only [isiD, tyN]; decide +kernel)), hQ⟩
  | tup b =>
    obtain ⟨a, ws, rfl, _, e1, r1⟩ := rdb_tup h
    have k : PySem.W.kitOne g.K (.type "tuple") (.type (tyN t)) = some (isiD t (.tup b)) := kit_ty (by cases t <;> (simp only [isiD, tyN]; decide +kernel))
    rcases e1 with (e1 | ⟨o, e1⟩) | ⟨o, its, n, e1, e2, _⟩
    · exact ⟨_, _, _, _, _, rfl, .ty _, .base (.tup e1), k, hQ⟩
    · exact ⟨_, _, _, _, _, rfl, .ty _, .fTuple e1, k, hQ⟩
    · exact ⟨_, _, _, _, _, rfl, .ty _, .kTuple e1 e2, k, hQ⟩
end
section
variable {X : Cx} {g : Gx} {fs : List FS} {e : Expr} {es : List Expr} {ies : List E} {x : Str} {id T : String} {b : Bi} {p pos : Pos}
theorem bi_core {Bn : Addr → Prop} {Ow : List Addr} {H : Hp} {σ : St} {Γ Γ' : Ct} {r : RV} {Q : VK} (rs : RS g Bn Ow H σ Γ) (he : ev fs (.bi b ies) Γ = some (r, Γ')) (hQ : ∀ v H' Ow', Stp Ow H Ow' H' → RS g Bn Ow' H' σ Γ' → Val g Bn Ow' H' σ Γ' r v → Q v H') :
    tCB (rBi g b) (tAs g fs ies) σ H Q := by
  simp only [ev] at he
  obtain ⟨⟨xs, Γ1⟩, e1, he⟩ := Option.bind_eq_some_iff.mp he
  obtain ⟨ds, e2, he⟩ := Option.bind_eq_some_iff.mp he
  obtain ⟨r', e3, he⟩ := Option.map_eq_some_iff.mp he
  simp only [Prod.mk.injEq] at he
  obtain ⟨rfl, rfl⟩ := he
  refine ⟨Bn, Ow, Γ, xs, Γ1, rs, e1, fun vs H1 O1 s1 r1 v1 => ?_⟩
  exact ⟨Av Bn O1, ds, _, datums_ok r1 v1 e2, r1.trk, e3, fun v H' sm res => let ⟨O3, s3, r3, val⟩ := res.val r1 sm; hQ v H' O3 (s1.trans s3) r3 val⟩
theorem p_biB (hc : CallR X (.builtin id) (rBi g b)) (hg : Gl X x) (hm : X.mg x = none) (hv : bootBuiltins x = some (.builtin id)) (ha : PA X (e :: es) (tAs g fs ies)) (hn : x ≠ "__name__") (hdb : (x == ("__debug__" : Str)) = false)
    (he : starEach (e :: es) X.env = (false, eval e X.env) :: starEach es X.env) (hpl : (backTo pos (starEach es X.env)).any (·.1) = false) : PE X (.Call (.Name x p) (e :: es) [] pos) (tR g fs (.bi b ies)) := by
  refine PE.weak (pe_callB hc hg hm hv ha hn hdb he hpl) ?_
  rintro σ H Q ⟨Bn, Ow, Γ, r, Γ', rs, he, hQ⟩
  exact bi_core rs he hQ
theorem p_biT (hc : CallR X (.type T) (rBi g b)) (hg : Gl X x) (hm : X.mg x = none) (hv : bootBuiltins x = some (.type T)) (ha : PA X (e :: es) (tAs g fs ies)) (hn : x ≠ "__name__") (hdb : (x == ("__debug__" : Str)) = false)
    (he : starEach (e :: es) X.env = (false, eval e X.env) :: starEach es X.env) (hpl : (backTo pos (starEach es X.env)).any (·.1) = false) : PE X (.Call (.Name x p) (e :: es) [] pos) (tR g fs (.bi b ies)) := by
  refine PE.weak (pe_callTy hc hg hm hv ha hn hdb he hpl) ?_
  rintro σ H Q ⟨Bn, Ow, Γ, r, Γ', rs, he, hQ⟩
  exact bi_core rs he hQ
theorem p_isi {a : Expr} {ia : E} {t : Ty} {y : Str} {p2 : Pos} (C : Cok0 g X) (ha : PE X a (tR g fs ia)) (hy : PE X (.Name y p2) (tC (.ty (tyN t)))) (hg : Gl X "isinstance") (hm : X.mg "isinstance" = none)
    (he : starEach (a :: [.Name y p2]) X.env = (false, eval a X.env) :: starEach [.Name y p2] X.env) (hpl : (backTo pos (starEach [.Name y p2] X.env)).any (·.1) = false) : PE X (.Call (.Name "isinstance" p) [a, .Name y p2] [] pos) (tR g fs (.bi (.isi t) [ia])) := by
  refine PE.weak (pe_callB call_isi hg hm PyProof.Rows.boot_isinstance (pa_cons ha (pa_cons hy pa_nil rfl) he) (by decide) (by decide) he hpl) ?_
  rintro σ H Q ⟨Bn, Ow, Γ, r, Γ', rs, he, hQ⟩
  simp only [ev, evs] at he
  obtain ⟨⟨xs, Γ1⟩, e1, he⟩ := Option.bind_eq_some_iff.mp he
  obtain ⟨⟨x, Γ2⟩, e2, e1⟩ := Option.bind_eq_some_iff.mp e1
  simp only [Option.map_some, Option.some.injEq, Prod.mk.injEq] at e1
  obtain ⟨rfl, rfl⟩ := e1
  obtain ⟨ds, e3, he⟩ := Option.bind_eq_some_iff.mp he
  obtain ⟨r', e4, he⟩ := Option.map_eq_some_iff.mp he
  simp only [Prod.mk.injEq] at he
  obtain ⟨rfl, rfl⟩ := he
  simp only [datums] at e3
  obtain ⟨d, e5, e3⟩ := Option.bind_eq_some_iff.mp e3
  simp only [Option.map_some, Option.some.injEq] at e3
  subst e3
  simp only [biD, Option.ite_none_right_eq_some, Option.some.injEq] at e4
  obtain ⟨hs, rfl⟩ := e4
  rw [← datum_dn] at e5
  refine tR_one rs e2 fun v H1 O1 s1 r1 v1 => ?_
  show rIsi X.K [v, .ty (tyN t)] H1 Q
  rw [C.K]
  exact isi_core hs (v1.rdb r1 e5) (hQ _ H1 O1 s1 r1 (by simp only [Val, Rep]))
end
end DV

namespace DV
open PySem L2
/-- the promise of a def by what it does to data -/
def spF (g : Gx) (n : Nat) (F : FS) : Sp := fun vs H Q _ => vs.length = n ∧ ∃ Bn Ow Γ r os, RS g Bn Ow H (vs.map some) Γ ∧ F Γ = some (r, os) ∧ (∀ i, r ≠ .sl i) ∧
  ∀ v H' Ow', Stp Ow H Ow' H' → RS g Bn Ow' H' (vs.map some) os → Val g Bn Ow' H' (vs.map some) os r v → Q v H'
/-- the same, what is wished told by the result -/
def spG (g : Gx) (n : Nat) (F : FS) (R : RV → VK) (vs : List V) (H : Hp) : Prop := vs.length = n ∧ ∃ Bn Ow Γ r os, RS g Bn Ow H (vs.map some) Γ ∧ F Γ = some (r, os) ∧ (∀ i, r ≠ .sl i) ∧
  ∀ v H' Ow', Stp Ow H Ow' H' → RS g Bn Ow' H' (vs.map some) os → Val g Bn Ow' H' (vs.map some) os r v → R r v H'
def OwS (Γ : Ct) (j : Nat) : Prop := ∃ d, Γ[j]? = some (some (d, true))
theorem ownIx_mem {Γ : Ct} {j : Nat} : ∀ {xs : List RV}, j ∈ ownIx Γ xs ↔ .sl j ∈ xs ∧ OwS Γ j
  | [] => by simp [ownIx]
  | x :: xs => by
    have ih := @ownIx_mem Γ j xs
    cases x with
    | fz d => simp only [ownIx, List.mem_cons, reduceCtorEq, false_or]; exact ih
    | nw d => simp only [ownIx, List.mem_cons, reduceCtorEq, false_or]; exact ih
    | sl i =>
      simp only [ownIx]
      split
      · rename_i d q
        simp only [List.mem_cons, RV.sl.injEq]
        constructor
        · rintro (h | h)
          · subst h; exact ⟨.inl rfl, d, q⟩
          · exact ⟨.inr (ih.mp h).1, (ih.mp h).2⟩
        · rintro ⟨h | h, o⟩
          · exact .inl h
          · exact .inr (ih.mpr ⟨h, o⟩)
      · rename_i q
        simp only [List.mem_cons, RV.sl.injEq]
        rw [ih]
        constructor
        · rintro ⟨h, o⟩; exact ⟨.inr h, o⟩
        · rintro ⟨h | h, o⟩
          · subst h; obtain ⟨d, o⟩ := o; exact absurd o (q d)
          · exact ⟨h, o⟩
theorem nodupB_cons {x : Nat} {xs : List Nat} (h : nodupB (x :: xs) = true) : x ∉ xs ∧ nodupB xs = true := by
  simp only [nodupB, Bool.and_eq_true, Bool.not_eq_true', List.contains_eq_mem, decide_eq_false_iff_not] at h
  exact h
theorem ownIx_tail {Γ : Ct} {x : RV} {xs : List RV} (h : nodupB (ownIx Γ (x :: xs)) = true) : nodupB (ownIx Γ xs) = true := by
  cases x with
  | fz d => exact h
  | nw d => exact h
  | sl i =>
    simp only [ownIx] at h
    split at h
    · exact (nodupB_cons h).2
    · exact h
theorem ownIx_head {Γ : Ct} {j : Nat} {xs : List RV} (h : nodupB (ownIx Γ (.sl j :: xs)) = true) (o : OwS Γ j) : .sl j ∉ xs := fun z => by
  obtain ⟨d, o⟩ := o
  simp only [ownIx, o] at h
  exact (nodupB_cons h).1 (ownIx_mem.mpr ⟨z, d, o⟩)
theorem own_uniq {Γ : Ct} {j : Nat} (o : OwS Γ j) : ∀ {xs : List RV} {i k : Nat}, nodupB (ownIx Γ xs) = true → xs[i]? = some (.sl j) → xs[k]? = some (.sl j) → i = k
  | [], i, k, _, h, _ => by simp at h
  | x :: xs, 0, 0, _, _, _ => rfl
  | x :: xs, 0, k + 1, n, h1, h2 => by
    simp at h1; subst h1
    exact absurd (List.mem_of_getElem? (by simpa using h2)) (ownIx_head n o)
  | x :: xs, i + 1, 0, n, h1, h2 => by
    simp at h2; subst h2
    exact absurd (List.mem_of_getElem? (by simpa using h1)) (ownIx_head n o)
  | x :: xs, i + 1, k + 1, n, h1, h2 => by
    have := own_uniq o (i := i) (k := k) (ownIx_tail n) (by simpa using h1) (by simpa using h2)
    omega
theorem put_len {Γ0 : Ct} : ∀ {xs : List RV} {os Γ : Ct}, (putOuts Γ0 xs os Γ).length = Γ.length
  | [], os, Γ => by cases os <;> simp [putOuts]
  | x :: xs, [], Γ => by cases x <;> simp [putOuts]
  | x :: xs, o :: os, Γ => by
    cases x with
    | fz d => simp only [putOuts]; exact put_len
    | nw d => simp only [putOuts]; exact put_len
    | sl i =>
      simp only [putOuts]
      split
      · rw [put_len, List.length_set]
      · exact put_len
theorem put_miss {Γ0 : Ct} {j : Nat} : ∀ {xs : List RV} {os Γ : Ct}, (∀ i : Nat, xs[i]? = some (.sl j) → ¬ OwS Γ0 j) → (putOuts Γ0 xs os Γ)[j]? = Γ[j]?
  | [], os, Γ, _ => by cases os <;> simp [putOuts]
  | x :: xs, [], Γ, _ => by cases x <;> simp [putOuts]
  | x :: xs, o :: os, Γ, h => by
    have ih : ∀ Γ, (putOuts Γ0 xs os Γ)[j]? = Γ[j]? := fun Γ => put_miss fun i e => h (i + 1) (by simpa using e)
    cases x with
    | fz d => simp only [putOuts]; exact ih Γ
    | nw d => simp only [putOuts]; exact ih Γ
    | sl i =>
      simp only [putOuts]
      split
      · rename_i d q
        rw [ih, List.getElem?_set_ne]
        intro z
        subst z
        exact h 0 rfl ⟨d, q⟩
      · exact ih Γ
theorem put_hit {Γ0 : Ct} {j : Nat} (ow : OwS Γ0 j) : ∀ {xs : List RV} {os Γ : Ct} {i : Nat} {o : Sl}, nodupB (ownIx Γ0 xs) = true → xs[i]? = some (.sl j) → os[i]? = some o → j < Γ.length → (putOuts Γ0 xs os Γ)[j]? = some o
  | [], os, Γ, i, o, _, h, _, _ => by simp at h
  | x :: xs, [], Γ, i, o, _, _, h, _ => by simp at h
  | x :: xs, p :: os, Γ, 0, o, n, h1, h2, hl => by
    simp at h1 h2; subst h1 h2
    have hh := ownIx_head n ow
    obtain ⟨d, q⟩ := ow
    simp only [putOuts, q]
    rw [put_miss fun i e => absurd (List.mem_of_getElem? e) hh, List.getElem?_set_self hl]
  | x :: xs, p :: os, Γ, i + 1, o, n, h1, h2, hl => by
    have n' := ownIx_tail n
    have h1' : xs[i]? = some (.sl j) := by simpa using h1
    have h2' : os[i]? = some o := by simpa using h2
    cases x with
    | fz d => simp only [putOuts]; exact put_hit ow n' h1' h2' hl
    | nw d => simp only [putOuts]; exact put_hit ow n' h1' h2' hl
    | sl k =>
      simp only [putOuts]
      split
      · exact put_hit ow n' h1' h2' (by rw [List.length_set]; exact hl)
      · exact put_hit ow n' h1' h2' hl
theorem argSs_len {Γ : Ct} : ∀ {xs : List RV} {as : List (D × Bool)}, argSs Γ xs = some as → as.length = xs.length
  | [], as, h => by simp only [argSs, Option.some.injEq] at h; subst h; rfl
  | x :: xs, as, h => by
    simp only [argSs] at h
    obtain ⟨d, _, h⟩ := Option.bind_eq_some_iff.mp h
    obtain ⟨r, e, rfl⟩ := Option.map_eq_some_iff.mp h
    rw [List.length_cons, List.length_cons, argSs_len e]
theorem argSs_get {Γ : Ct} : ∀ {xs : List RV} {as : List (D × Bool)} {i : Nat} {p : D × Bool}, argSs Γ xs = some as → as[i]? = some p → ∃ x, xs[i]? = some x ∧ argS Γ x = some p
  | [], as, i, p, h, e => by simp only [argSs, Option.some.injEq] at h; subst h; simp at e
  | x :: xs, as, i, p, h, e => by
    simp only [argSs] at h
    obtain ⟨d, hd, h⟩ := Option.bind_eq_some_iff.mp h
    obtain ⟨r, e1, rfl⟩ := Option.map_eq_some_iff.mp h
    cases i with
    | zero => simp at e; subst e; exact ⟨x, rfl, hd⟩
    | succ i => obtain ⟨y, h1, h2⟩ := argSs_get (i := i) e1 (by simpa using e); exact ⟨y, by simpa using h1, h2⟩
section
variable {g : Gx} {Bn : Addr → Prop} {Ow Ow' : List Addr} {H H' : Hp} {σ : St} {Γ Γ' : Ct}
/-- values by results, new ones owned -/
def VlW (g : Gx) (Bn : Addr → Prop) (Ow : List Addr) (H : Hp) (σ : St) (Γ : Ct) : List RV → List V → Prop
  | [], vs => vs = []
  | x :: xs, vs => ∃ v r, vs = v :: r ∧ Val g Bn Ow H σ Γ x v ∧ (∀ d, x = .nw d → ∀ (j : Nat) (e : D), xs[j]? = some (.nw e) → r[j]? ≠ some v) ∧ VlW g Bn Ow H σ Γ xs r
def tAw (g : Gx) (fs : List FS) (es : List E) : TA := fun σ H Q => ∃ Bn Ow Γ xs Γ', RS g Bn Ow H σ Γ ∧ evs fs es Γ = some (xs, Γ') ∧ ∀ vs H' Ow', Stp Ow H Ow' H' → RS g Bn Ow' H' σ Γ' → VlW g Bn Ow' H' σ Γ' xs vs → Q vs H'
theorem VlW.len : ∀ {xs : List RV} {vs : List V}, VlW g Bn Ow H σ Γ xs vs → xs.length = vs.length
  | [], _, h => by have h : _ = [] := h; subst h; rfl
  | x :: xs, _, ⟨v, r, e, _, _, h2⟩ => by subst e; rw [List.length_cons, List.length_cons, h2.len]
theorem VlW.get : ∀ {xs : List RV} {vs : List V} {i : Nat} {x : RV}, VlW g Bn Ow H σ Γ xs vs → xs[i]? = some x → ∃ v, vs[i]? = some v ∧ Val g Bn Ow H σ Γ x v
  | [], _, i, x, _, e => by simp at e
  | y :: xs, _, 0, x, ⟨v, r, e0, h1, _⟩, e => by simp at e; subst e e0; exact ⟨v, rfl, h1⟩
  | y :: xs, _, i + 1, x, ⟨v, r, e0, _, _, h2⟩, e => by
    subst e0
    obtain ⟨w, h3, h4⟩ := VlW.get (i := i) h2 (by simpa using e)
    exact ⟨w, by simpa using h3, h4⟩
theorem VlW.uniq : ∀ {xs : List RV} {vs : List V} {i k : Nat} {d e : D} {v : V}, VlW g Bn Ow H σ Γ xs vs → xs[i]? = some (.nw d) → xs[k]? = some (.nw e) → vs[i]? = some v → vs[k]? = some v → i = k
  | [], _, i, k, d, e, v, _, h1, _, _, _ => by simp at h1
  | y :: xs, _, 0, 0, d, e, v, _, _, _, _, _ => rfl
  | y :: xs, _, 0, k + 1, d, e, v, ⟨w, r, e0, _, h, _⟩, h1, h2, h3, h4 => by
    subst e0
    simp at h1 h3; subst h1 h3
    exact absurd (by simpa using h4) (h d rfl k e (by simpa using h2))
  | y :: xs, _, i + 1, 0, d, e, v, ⟨w, r, e0, _, h, _⟩, h1, h2, h3, h4 => by
    subst e0
    simp at h2 h4; subst h2 h4
    exact absurd (by simpa using h3) (h e rfl i d (by simpa using h1))
  | y :: xs, _, i + 1, k + 1, d, e, v, ⟨w, r, e0, _, _, hr⟩, h1, h2, h3, h4 => by
    subst e0
    rw [VlW.uniq (i := i) (k := k) hr (by simpa using h1) (by simpa using h2) (by simpa using h3) (by simpa using h4)]
theorem map_some_get {vs : List V} {i : Nat} {v : V} : (vs.map some)[i]? = some (some v) ↔ vs[i]? = some v := by
  rw [List.getElem?_map]
  cases vs[i]? <;> simp
/-- the addresses that are handed over -/
def handed (vs : List V) (as : List (D × Bool)) : List Addr := (vs.zip as).filterMap fun p => match p with
  | (.ref a, (_, true)) => some a
  | _ => none
theorem handed_mem {vs : List V} {as : List (D × Bool)} {a : Addr} : a ∈ handed vs as ↔ ∃ (i : Nat) (d : D), vs[i]? = some (.ref a) ∧ as[i]? = some (d, true) := by
  unfold handed
  rw [List.mem_filterMap]
  constructor
  · rintro ⟨⟨v, d, b⟩, hm, e⟩
    obtain ⟨i, hi⟩ := List.mem_iff_getElem?.mp hm
    rw [List.getElem?_zip_eq_some] at hi
    cases v with
    | ref x =>
      cases b with
      | true => simp only [Option.some.injEq] at e; subst e; exact ⟨i, d, hi.1, hi.2⟩
      | false => cases e
    | _ => cases e
  · rintro ⟨i, d, h1, h2⟩
    exact ⟨(.ref a, (d, true)), List.mem_iff_getElem?.mpr ⟨i, by rw [List.getElem?_zip_eq_some]; exact ⟨h1, h2⟩⟩, rfl⟩
theorem call_coreG {xs : List RV} {vs : List V} {as : List (D × Bool)} {r : RV} {os : Ct} {F : FS} {R : RV → VK} (rs : RS g Bn Ow H σ Γ) (hv : VlW g Bn Ow H σ Γ xs vs) (ea : argSs Γ xs = some as) (nd : nodupB (ownIx Γ xs) = true) (ef : F (as.map some) = some (r, os)) (nr : ∀ i, r ≠ .sl i)
    {n : Nat} (hn : vs.length = n) (hQ : ∀ v H' Ow', Stp Ow H Ow' H' → RS g Bn Ow' H' σ (putOuts Γ xs os Γ) → Val g Bn Ow' H' σ (putOuts Γ xs os Γ) r v → (∀ (i : Nat) d0 d a, xs[i]? = some (.nw d0) → os[i]? = some (some (d, true)) → vs[i]? = some (.ref a) → Val g Bn Ow' H' σ (putOuts Γ xs os Γ) (.nw d) (.ref a)) → R r v H') : spG g n F R vs H := by
  have l1 := argSs_len ea
  have l2 := hv.len
  -- an owned argument
  have ownArg : ∀ {i : Nat} {d : D}, as[i]? = some (d, true) → ∃ a, vs[i]? = some (.ref a) ∧ a ∈ Ow ∧ OwnA g (Av Bn Ow) H d a ∧ ((∃ j, xs[i]? = some (.sl j) ∧ Γ[j]? = some (some (d, true)) ∧ σ[j]? = some (some (.ref a))) ∨ (xs[i]? = some (.nw d) ∧ ∀ (j : Nat) e, Γ[j]? = some (some (e, true)) → σ[j]? ≠ some (some (.ref a)))) := by
    intro i d h
    obtain ⟨x, h1, h2⟩ := argSs_get ea h
    obtain ⟨v, h3, h4⟩ := hv.get h1
    cases x with
    | fz e => simp [argS] at h2
    | nw e =>
      simp only [argS, Option.some.injEq, Prod.mk.injEq, and_true] at h2
      subst h2
      obtain ⟨a, rfl, m, o, no⟩ := h4
      exact ⟨a, h3, m, o, .inr ⟨h1, no⟩⟩
    | sl j =>
      simp only [argS] at h2
      split at h2
      · rename_i p q
        cases h2
        obtain ⟨a, e1, m, o⟩ := rs.own j d q
        have h4 : σ[j]? = some (some v) := h4
        rw [e1] at h4; cases h4
        exact ⟨a, h3, m, o, .inl ⟨j, h1, q, e1⟩⟩
      · cases h2
  let Io := handed vs as
  have ioOw : ∀ a, a ∈ Io → a ∈ Ow := fun a h => by
    obtain ⟨i, d, h1, h2⟩ := handed_mem.mp h
    obtain ⟨b, h3, m, _⟩ := ownArg h2
    rw [h1] at h3; cases h3
    exact m
  let Bn' : Addr → Prop := fun a => Bn a ∨ (a ∈ Ow ∧ a ∉ Io)
  have av1 : ∀ a, Av Bn' Io a → Av Bn Ow a := fun a h => by
    rcases h with (h | h) | h
    · exact .inl h
    · exact .inr h.1
    · exact .inr (ioOw a h)
  refine ⟨hn, Bn', Io, as.map some, r, os, ⟨?_, fun i d h => ?_, fun i d h => ?_, fun i k d e a h1 h2 h3 h4 => ?_, fun a h => rs.trl a (av1 a h), fun a h z => ?_, fun a h => rs.kf a (av1 a h), rs.tabs⟩, ef, nr, fun v H' O' st rs' val => ?_⟩
  · rw [List.length_map, List.length_map]; omega
  · have h : as[i]? = some (d, false) := by
      rw [List.getElem?_map] at h
      cases e : as[i]? with
      | none => rw [e] at h; cases h
      | some p => rw [e] at h; simp only [Option.map_some, Option.some.injEq] at h; rw [h]
    obtain ⟨x, h1, h2⟩ := argSs_get ea h
    obtain ⟨v, h3, h4⟩ := hv.get h1
    refine ⟨v, map_some_get.mpr h3, rep_less av1 ?_⟩
    cases x with
    | fz e => simp only [argS, Option.some.injEq, Prod.mk.injEq, and_true] at h2; subst h2; exact h4
    | nw e => simp [argS] at h2
    | sl j =>
      simp only [argS] at h2
      split at h2
      · rename_i p q
        cases h2
        obtain ⟨w, e1, rp⟩ := rs.slot j d q
        have h4 : σ[j]? = some (some v) := h4
        rw [e1] at h4; cases h4
        exact rp
      · cases h2
  · have h : as[i]? = some (d, true) := by
      rw [List.getElem?_map] at h
      cases e : as[i]? with
      | none => rw [e] at h; cases h
      | some p => rw [e] at h; simp only [Option.map_some, Option.some.injEq] at h; rw [h]
    obtain ⟨a, h3, m, o, _⟩ := ownArg h
    exact ⟨a, map_some_get.mpr h3, handed_mem.mpr ⟨i, d, h3, h⟩, own_less av1 o⟩
  · have h1 : as[i]? = some (d, true) := by
      rw [List.getElem?_map] at h1
      cases e : as[i]? with
      | none => rw [e] at h1; cases h1
      | some p => rw [e] at h1; simp only [Option.map_some, Option.some.injEq] at h1; rw [h1]
    have h2 : as[k]? = some (e, true) := by
      rw [List.getElem?_map] at h2
      cases z : as[k]? with
      | none => rw [z] at h2; cases h2
      | some p => rw [z] at h2; simp only [Option.map_some, Option.some.injEq] at h2; rw [h2]
    obtain ⟨a1, v1, _, _, c1⟩ := ownArg h1
    obtain ⟨a2, v2, _, _, c2⟩ := ownArg h2
    have w1 := map_some_get.mp h3
    have w2 := map_some_get.mp h4
    rw [w1] at v1; cases v1
    rw [w2] at v2; cases v2
    rcases c1 with ⟨j1, x1, q1, e1⟩ | ⟨x1, n1⟩ <;> rcases c2 with ⟨j2, x2, q2, e2⟩ | ⟨x2, n2⟩
    · have := rs.dist j1 j2 _ _ _ q1 q2 e1 e2
      subst this
      exact own_uniq ⟨_, q1⟩ nd x1 x2
    · exact absurd e1 (n2 j1 _ q1)
    · exact absurd e2 (n1 j2 _ q2)
    · exact hv.uniq x1 x2 w1 w2
  · rcases h with h | h
    · exact rs.sep a h (ioOw a z)
    · exact h.2 z
  -- behind the call
  let O2 := Ow.filter (fun a => decide (a ∉ Io)) ++ O'
  have memO2 : ∀ a, a ∈ O2 ↔ (a ∈ Ow ∧ a ∉ Io) ∨ a ∈ O' := fun a => by
    show a ∈ Ow.filter (fun a => decide (a ∉ Io)) ++ O' ↔ _
    rw [List.mem_append, List.mem_filter]
    simp
  have av2 : ∀ a, Av Bn O2 a → Av Bn' O' a := fun a h => by
    rcases h with h | h
    · exact .inl (.inl h)
    · rcases (memO2 a).mp h with h | h
      · exact .inl (.inr h)
      · exact .inr h
  have stO : Stp Ow H O2 H' := ⟨fun a o h t nm => st.keep0 a o h t fun z => nm (ioOw a z), fun a h => by
    rcases (memO2 a).mp h with h | h
    · exact .inl h.1
    · rcases st.grow a h with h | h
      · exact .inl (ioOw a h)
      · exact .inr h⟩
  have vst := step_vst (g := g) (Bn := Bn) stO fun a h => rs'.kf a (av2 a (.inr h))
  have lo : os.length = vs.length := by rw [← rs'.len, List.length_map]
  -- a slot that is not handed over
  have missA : ∀ {j : Nat} {a : Addr} {d : D}, Γ[j]? = some (some (d, true)) → σ[j]? = some (some (.ref a)) → (∀ i : Nat, xs[i]? ≠ some (.sl j)) → a ∉ Io := fun {j a d} h1 h2 h3 z => by
    obtain ⟨i, e, q1, q2⟩ := handed_mem.mp z
    obtain ⟨a2, v2, _, _, c2⟩ := ownArg q2
    rw [q1] at v2; cases v2
    rcases c2 with ⟨j2, x2, g2, s2⟩ | ⟨x2, n2⟩
    · have := rs.dist j j2 _ _ _ h1 g2 h2 s2
      subst this
      exact h3 i x2
    · exact n2 j _ h1 h2
  have cases_ : ∀ (j : Nat), (∃ (i : Nat) (d : D) (a : Addr) (o : Sl), xs[i]? = some (.sl j) ∧ Γ[j]? = some (some (d, true)) ∧ σ[j]? = some (some (.ref a)) ∧ vs[i]? = some (.ref a) ∧ a ∈ Io ∧ os[i]? = some o ∧ (putOuts Γ xs os Γ)[j]? = some o) ∨
      ((putOuts Γ xs os Γ)[j]? = Γ[j]? ∧ ∀ d, Γ[j]? = some (some (d, true)) → ∀ i : Nat, xs[i]? ≠ some (.sl j)) := fun j => by
    by_cases h : ∃ i : Nat, xs[i]? = some (.sl j) ∧ OwS Γ j
    · obtain ⟨i, h1, h2⟩ := h
      obtain ⟨d, q⟩ := h2
      obtain ⟨a, e1, m, o⟩ := rs.own j d q
      obtain ⟨v, h3, h4⟩ := hv.get h1
      have h4 : σ[j]? = some (some v) := h4
      rw [e1] at h4; cases h4
      have ai : as[i]? = some (d, true) := by
        have hi : i < as.length := by rw [l1]; exact (List.getElem?_eq_some_iff.mp h1).1
        obtain ⟨x, q1, q2⟩ := argSs_get ea (List.getElem?_eq_getElem hi)
        rw [h1] at q1; cases q1
        simp only [argS, q, Option.some.injEq] at q2
        rw [List.getElem?_eq_getElem hi, ← q2]
      have hi : i < os.length := by rw [lo]; exact (List.getElem?_eq_some_iff.mp h3).1
      refine .inl ⟨i, d, a, os[i], h1, q, e1, h3, handed_mem.mpr ⟨i, d, h3, ai⟩, List.getElem?_eq_getElem hi, put_hit ⟨d, q⟩ nd h1 (List.getElem?_eq_getElem hi) (List.getElem?_eq_some_iff.mp q).1⟩
    · exact .inr ⟨put_miss fun i e o => h ⟨i, e, o⟩, fun d q i e => h ⟨i, e, d, q⟩⟩
  have hRS : RS g Bn O2 H' σ (putOuts Γ xs os Γ) := by
    refine ⟨by rw [put_len]; exact rs.len, fun j d h => ?_, fun j d h => ?_, fun j k d e a h1 h2 h3 h4 => ?_, fun a h => rs'.trl a (av2 a h), fun a h z => ?_, fun a h => rs'.kf a (av2 a h), rs'.tabs⟩
    · rcases cases_ j with ⟨i, d0, a, o, x1, q1, s1, v1, m1, o1, p1⟩ | ⟨p1, _⟩
      · rw [p1] at h; cases h
        obtain ⟨w, e1, rp⟩ := rs'.slot i d o1
        rw [map_some_get.mp e1] at v1; cases v1
        exact ⟨_, s1, rep_less av2 rp⟩
      · rw [p1] at h
        obtain ⟨w, e1, rp⟩ := rs.slot j d h
        exact ⟨w, e1, rep_mono vst d w rp⟩
    · rcases cases_ j with ⟨i, d0, a, o, x1, q1, s1, v1, m1, o1, p1⟩ | ⟨p1, p2⟩
      · rw [p1] at h; cases h
        obtain ⟨b, e1, m, ow⟩ := rs'.own i d o1
        rw [map_some_get.mp e1] at v1; cases v1
        exact ⟨_, s1, (memO2 _).mpr (.inr m), own_less av2 ow⟩
      · rw [p1] at h
        obtain ⟨b, e1, m, ow⟩ := rs.own j d h
        have nb := missA h e1 (p2 d h)
        refine ⟨b, e1, (memO2 _).mpr (.inl ⟨m, nb⟩), ?_⟩
        cases d with
        | lst ds => obtain ⟨ws, z1, z2⟩ := ow; exact ⟨ws, st.keep b _ z1 nb, reps_mono vst _ _ z2⟩
        | obj c ks ds => obtain ⟨dx, ws, l, z1, z2⟩ := ow; exact ⟨dx, ws, l, st.keep b _ z1 nb, reps_mono vst _ _ z2⟩
        | _ => exact ow
    · rcases cases_ j with ⟨i1, d1, a1, o1, x1, q1, s1, v1, m1, z1, p1⟩ | ⟨p1, p1'⟩ <;> rcases cases_ k with ⟨i2, d2, a2, o2, x2, q2, s2, v2, m2, z2, p2⟩ | ⟨p2, p2'⟩
      · rw [s1] at h3; cases h3
        rw [s2] at h4; cases h4
        exact rs.dist j k _ _ _ q1 q2 s1 s2
      · rw [s1] at h3; cases h3
        rw [p2] at h2
        exact absurd m1 (missA h2 h4 (p2' _ h2))
      · rw [s2] at h4; cases h4
        rw [p1] at h1
        exact absurd m2 (missA h1 h3 (p1' _ h1))
      · rw [p1] at h1; rw [p2] at h2
        exact rs.dist j k _ _ _ h1 h2 h3 h4
    · rcases (memO2 a).mp z with z | z
      · exact rs.sep a h z.1
      · rcases st.grow a z with z | z
        · exact rs.sep a h (ioOw a z)
        · exact rs.trn a (.inl h) z
  refine hQ v H' O2 stO hRS ?_ fun i d0 d a h1 h2 h3 => ?_
  rotate_left
  · obtain ⟨b, e1, m, ow⟩ := rs'.own i d h2
    rw [map_some_get.mp e1] at h3; cases h3
    have hb := map_some_get.mp e1
    obtain ⟨w, q1, q2⟩ := hv.get h1
    rw [hb] at q1; cases q1
    obtain ⟨a', e2, m2, _, no⟩ := q2
    cases e2
    refine ⟨_, rfl, (memO2 _).mpr (.inr m), own_less av2 ow, fun j e g1 g2 => ?_⟩
    rcases cases_ j with ⟨i', d1, a1, o, x1, y1, s1, v1, m1, o1, p1⟩ | ⟨p1, _⟩
    · exact no j _ y1 g2
    · rw [p1] at g1
      exact no j _ g1 g2
  cases r with
  | sl i => exact absurd rfl (nr i)
  | fz d => exact rep_less av2 val
  | nw d =>
    obtain ⟨a, e0, m, ow, no⟩ := val
    refine ⟨a, e0, (memO2 a).mpr (.inr m), own_less av2 ow, fun j d' h1 h2 => ?_⟩
    rcases cases_ j with ⟨i, d0, a', o, x1, q1, s1, v1, m1, o1, p1⟩ | ⟨p1, p2⟩
    · rw [s1] at h2; cases h2
      rw [p1] at h1; cases h1
      exact no i _ o1 (map_some_get.mpr v1)
    · rw [p1] at h1
      obtain ⟨b, e1, mb, _⟩ := rs.own j _ h1
      rw [h2] at e1; cases e1
      have nb := missA h1 h2 (p2 _ h1)
      rcases st.grow a m with z | z
      · exact nb z
      · exact rs.trn a (.inr mb) z
theorem call_core {xs : List RV} {vs : List V} {as : List (D × Bool)} {r : RV} {os : Ct} {F : FS} {Q : VK} (rs : RS g Bn Ow H σ Γ) (hv : VlW g Bn Ow H σ Γ xs vs) (ea : argSs Γ xs = some as) (nd : nodupB (ownIx Γ xs) = true) (ef : F (as.map some) = some (r, os)) (nr : ∀ i, r ≠ .sl i)
    {n : Nat} (hn : vs.length = n) {E : XK} (hQ : ∀ v H' Ow', Stp Ow H Ow' H' → RS g Bn Ow' H' σ (putOuts Γ xs os Γ) → Val g Bn Ow' H' σ (putOuts Γ xs os Γ) r v → (∀ (i : Nat) d0 d a, xs[i]? = some (.nw d0) → os[i]? = some (some (d, true)) → vs[i]? = some (.ref a) → Val g Bn Ow' H' σ (putOuts Γ xs os Γ) (.nw d) (.ref a)) → Q v H') : spF g n F vs H Q E := call_coreG (R := fun _ => Q) rs hv ea nd ef nr hn hQ
end
section
variable {X : Cx} {g : Gx} {fs : List FS} {e : Expr} {es : List Expr} {ies : List E} {x : Str} {p pos : Pos} {k lv n : Nat} {f : Addr} {fd : FuncData} {ps : List Str} {F : FS}
theorem call_core2 {Bn : Addr → Prop} {Ow : List Addr} {H : Hp} {σ : St} {Γ Γ' : Ct} {r : RV} {Q : VK} {Ex : XK} (hF : fs[k]? = some F) (hn : ies.length = n) (rs : RS g Bn Ow H σ Γ) (he : ev fs (.call k ies) Γ = some (r, Γ')) (hQ : ∀ v H' Ow', Stp Ow H Ow' H' → RS g Bn Ow' H' σ Γ' → Val g Bn Ow' H' σ Γ' r v → Q v H') :
    tCall (spF g n F) [] Ex (tAw g fs ies) σ H Q := by
  simp only [ev] at he
  obtain ⟨⟨xs, Γ1⟩, e1, he⟩ := Option.bind_eq_some_iff.mp he
  obtain ⟨F', e2, he⟩ := Option.bind_eq_some_iff.mp he
  rw [hF] at e2; cases e2
  obtain ⟨as, e3, he⟩ := Option.bind_eq_some_iff.mp he
  simp only [Option.ite_none_right_eq_some] at he
  obtain ⟨nd, he⟩ := he
  obtain ⟨⟨r', os⟩, e4, he⟩ := Option.bind_eq_some_iff.mp he
  have evl : ∀ {es : List E} {Γ Γ' : Ct} {xs : List RV}, evs fs es Γ = some (xs, Γ') → es.length = xs.length := by
    intro es
    induction es with
    | nil => intro Γ Γ' xs h; simp only [evs, Option.some.injEq, Prod.mk.injEq] at h; rw [← h.1]; rfl
    | cons a es ih =>
      intro Γ Γ' xs h
      simp only [evs] at h
      obtain ⟨⟨y, G1⟩, _, h⟩ := Option.bind_eq_some_iff.mp h
      obtain ⟨⟨ys, G2⟩, h2, h⟩ := Option.map_eq_some_iff.mp h
      simp only [Prod.mk.injEq] at h
      rw [← h.1, List.length_cons, List.length_cons, ih h2]
  refine ⟨Bn, Ow, Γ, xs, Γ1, rs, e1, fun vs H1 O1 s1 r1 v1 => ?_⟩
  show spF g n F (vs ++ []) H1 Q Ex
  rw [List.append_nil]
  have hl : vs.length = n := by rw [← v1.len, ← evl e1, hn]
  cases r' with
  | sl i => cases he
  | fz d =>
    simp only [Option.some.injEq, Prod.mk.injEq] at he
    obtain ⟨rfl, rfl⟩ := he
    exact call_core r1 v1 e3 nd e4 (fun i z => nomatch z) hl fun v H' O2 s2 r2 val _ => hQ v H' O2 (s1.trans s2) r2 val
  | nw d =>
    simp only [Option.some.injEq, Prod.mk.injEq] at he
    obtain ⟨rfl, rfl⟩ := he
    exact call_core r1 v1 e3 nd e4 (fun i z => nomatch z) hl fun v H' O2 s2 r2 val _ => hQ v H' O2 (s1.trans s2) r2 val
theorem p_call (hF : fs[k]? = some F) (hn : ies.length = n) (G : FnOk X.prog X.w X.K X.mg X.base CX0 lv f fd ps (spF g n F)) (hr : Room lv X.A) (hg : Gl X x) (hm : X.mg x = some (.ref f)) (hk : PySem.W.keepIn X.K (.ref f) = true) (hb : Binds X.K fd ps [])
    (ha : PA X (e :: es) (tAw g fs ies)) (hdb : (x == ("__debug__" : Str)) = false) (he : starEach (e :: es) X.env = (false, eval e X.env) :: starEach es X.env) (hpl : (backTo pos (starEach es X.env)).any (·.1) = false) :
    PE X (.Call (.Name x p) (e :: es) [] pos) (tR g fs (.call k ies)) := by
  refine PE.weak (pe_call G hr hg hm hk hb .nil pass0 ha hdb he hpl) ?_
  rintro σ H Q ⟨Bn, Ow, Γ, r, Γ', rs, he, hQ⟩
  exact call_core2 hF hn rs he hQ
theorem p_call0 (hF : fs[k]? = some F) (G : FnOk X.prog X.w X.K X.mg X.base CX0 lv f fd ps (spF g 0 F)) (hr : Room lv X.A) (hg : Gl X x) (hm : X.mg x = some (.ref f)) (hk : PySem.W.keepIn X.K (.ref f) = true) (hb : Binds X.K fd ps [])
    (hdb : (x == ("__debug__" : Str)) = false) : PE X (.Call (.Name x p) [] [] pos) (tR g fs (.call k [])) := by
  refine PE.weak (pe_call0 G hr hg hm hk hb .nil pass0 hdb) ?_
  rintro σ H Q ⟨Bn, Ow, Γ, r, Γ', rs, he, hQ⟩
  have q := call_core2 (Ex := E0) hF rfl rs he hQ
  obtain ⟨Bn', Ow', G0, xs, G1, rs', e1, k1⟩ := q
  simp only [evs, Option.some.injEq, Prod.mk.injEq] at e1
  obtain ⟨rfl, rfl⟩ := e1
  exact k1 [] H Ow' (.refl _ _) rs' rfl
end
end DV

namespace DV
open PySem L2
/-! ### ranges with a step, also of great ints -/
section
open PySem PySem.Spec PyProof.Rows
theorem turn_longC {P : Program} {w : World} {K : PySem.W.Frag} {tg : Expr} (it : Addr) (lo c : Int) (n : Nat) : Turn P w K tg (Itc lo c n) [it] it (fun i h => IsLongIter h it (lo + (i : Nat) * c) ((n : Int) - (i : Nat)) c) where
  mem := by simp
  obj := fun i h st b hb => by
    have e : b = it := by simpa using hb
    subst e
    exact ⟨_, st, fun v z => nomatch z⟩
  keep := fun i h h' st k => k it (by simp) _ st
  item := by
    intro X hP hw hK hc i pins s σ H E I hf st hg
    subst hP hw hK
    obtain ⟨f0, f1, f2, f3, f4, f5⟩ := hf it (by simp)
    have W := Walks.longrange (prog := X.prog) (w := X.w) (I.ok.hd hc) it lo c n
    refine W.item i s _ _ hg st fun v h' tk hv st' kk => ?_
    obtain ⟨t, rfl⟩ := hv
    have I1 : Inv X pins σ H { s with heap := h', toks := tk } := I.turned (fun b o hb e => kk b o (by simpa using hb) e) f0 f1 f3 f4 f5
    exact ⟨_, rfl, go_of (s := { s with heap := h', toks := tk }) (n := "longrange_iterator") st' rfl rfl (by decide) ⟨.int (lo + (i : Nat) * c), H, I1, ⟨t, rfl⟩, ⟨rfl, rfl⟩, st', fun b hb => (hf b hb).1⟩⟩
  done := by
    intro X hP hw hK hc i pins s σ H E I hf st hg
    subst hP hw hK
    obtain ⟨f0, f1, f2, f3, f4, f5⟩ := hf it (by simp)
    exact wpAny_pyNext_long_end (I.ok.hd hc) st (by have : n ≤ i := hg; omega) fun h' eb => ⟨rfl, I.turned (t' := s.toks) (fun b o hb e => eb b o hb e) f0 f1 f3 f4 f5⟩
  self := fun A i s Q E st h => wpAny_pyIter_longiter st h
def RgG (i j c : Int) (n : Nat) : Prop := c ≠ 0 ∧ c.natAbs.log2 < 9000 ∧ Builtin.Range.rangeSize i j c = n
def iRngG (ta : TA) : TI := fun σ H R => ta σ H fun vs H1 => ∃ (i j c : Int) (n : Nat), vs = [.int i, .int j, .int c] ∧ RgG i j c n ∧ R (Itc i c n) H1
theorem pi_range3G {X : Cx} {tg : Expr} {a b c : Expr} {ta : TA} {p pos : Pos} (hg : Gl X "range") (hm : X.mg "range" = none) (ha : PA X [a, b, c] ta)
    (hs : starEach [a, b, c] X.env = (false, eval a X.env) :: starEach [b, c] X.env := by rfl) (hpl : (backTo pos (starEach [b, c] X.env)).any (·.1) = false := by rfl) :
    PI X tg (.Call (.Name "range" p) [a, b, c] [] pos) (iRngG ta) := by
  refine ⟨fun pins s σ H R I h => ?_⟩
  refine Call_ (ld_blt I hg hm boot_range (PyProof.Rows.callWith_type1 (thn (ha.run pos pins s σ H _ I h) fun us s1 ⟨vs, H1, I1, r1, q1⟩ => ?_) hs hpl))
  obtain ⟨i, j, k, n, e, ⟨c0, c1, c3⟩, q⟩ := q1
  subst e
  cases r1 with
  | cons r rr =>
    cases rr with
    | cons r' rr =>
      cases rr with
      | cons r'' rr =>
        cases rr
        obtain ⟨t, rfl⟩ := r
        obtain ⟨t', rfl⟩ := r'
        obtain ⟨t'', rfl⟩ := r''
        refine call_range_3 c0 ?_ (.inl (PyProof.noPylong_of_log2 c1))
        have I2 : Inv X pins σ H1 { s1 with heap := s1.heap.push { cls := .type "range", data := .fields #[.int i t, .int j t', .int k t''] } } := I1.kept (t' := s1.toks) fun b o e => Heap.get?_push_of_some _ e
        have e1 : i + ((0 : Nat) : Int) * k = i := by simp
        have e2 : (n : Int) - ((0 : Nat) : Int) = Builtin.Range.rangeSize i j k := by rw [c3]; simp
        by_cases hsm : Builtin.Range.small i j k = true
        · refine wpAny_pyIter_range (IsRange.new ..) hsm ?_
          refine pi_one (tk := s1.toks) I2 _ (turn_rangeC _ i k n) ?_ q
          show IsRangeIter _ _ (i + ((0 : Nat) : Int) * k) ((n : Int) - ((0 : Nat) : Int)) k
          rw [e1, e2]
          exact Heap.get?_push_size _ rfl
        · refine wpAny_pyIter_longrange (IsRange.new ..) (by simpa using hsm) ?_
          refine pi_one (tk := s1.toks) I2 _ (turn_longC _ i k n) ?_ q
          show IsLongIter _ _ (i + ((0 : Nat) : Int) * k) ((n : Int) - ((0 : Nat) : Int)) k
          rw [e1, e2]
          exact Heap.get?_push_size _ rfl
end
/-! ### targets -/
def tgT (K : PySem.W.Frag) : Tg → TG
  | .nm i => gName i
  | .tp ts => gTup K ts.length (tgTs K ts)
where tgTs (K : PySem.W.Frag) : List Tg → TGs
  | [] => gNil
  | t :: ts => gCons (tgT K t) (tgTs K ts)
section
variable {g : Gx} {Bn : Addr → Prop} {Ow Ow' : List Addr} {H H' : Hp} {σ : St} {Γ Γ' : Ct}
theorem RS.set {i : Nat} {d : D} {v : V} (rs : RS g Bn Ow H σ Γ) (r : Rep g (Av Bn Ow) H d v) (hi : i < Γ.length) : RS g Bn Ow H (σ.set i (some v)) (Γ.set i (some (d, false))) := by
  have hs : i < σ.length := by rw [rs.len]; exact hi
  refine ⟨by rw [List.length_set, List.length_set]; exact rs.len, fun j e h => ?_, fun j e h => ?_, fun j k e f a h1 h2 h3 h4 => ?_, rs.trl, rs.sep, rs.kf, rs.tabs⟩
  · by_cases hj : i = j
    · subst hj
      rw [List.getElem?_set_self hi] at h; cases h
      exact ⟨v, List.getElem?_set_self hs, r⟩
    · rw [List.getElem?_set_ne hj] at h
      rw [List.getElem?_set_ne hj]
      exact rs.slot j e h
  · by_cases hj : i = j
    · subst hj
      rw [List.getElem?_set_self hi] at h; cases h
    · rw [List.getElem?_set_ne hj] at h
      rw [List.getElem?_set_ne hj]
      exact rs.own j e h
  · have n1 : i ≠ j := fun z => by subst z; rw [List.getElem?_set_self hi] at h1; cases h1
    have n2 : i ≠ k := fun z => by subst z; rw [List.getElem?_set_self hi] at h2; cases h2
    rw [List.getElem?_set_ne n1] at h1 h3
    rw [List.getElem?_set_ne n2] at h2 h4
    exact rs.dist j k _ _ _ h1 h2 h3 h4
theorem RS.setO {i : Nat} {d : D} {v : V} (rs : RS g Bn Ow H σ Γ) (r : Val g Bn Ow H σ Γ (.nw d) v) (hi : i < Γ.length) : RS g Bn Ow H (σ.set i (some v)) (Γ.set i (some (d, true))) := by
  have hs : i < σ.length := by rw [rs.len]; exact hi
  obtain ⟨a, rfl, m, o, no⟩ := r
  refine ⟨by rw [List.length_set, List.length_set]; exact rs.len, fun j e h => ?_, fun j e h => ?_, fun j k e f b h1 h2 h3 h4 => ?_, rs.trl, rs.sep, rs.kf, rs.tabs⟩
  · by_cases hj : i = j
    · subst hj
      rw [List.getElem?_set_self hi] at h; cases h
    · rw [List.getElem?_set_ne hj] at h
      rw [List.getElem?_set_ne hj]
      exact rs.slot j e h
  · by_cases hj : i = j
    · subst hj
      rw [List.getElem?_set_self hi] at h; cases h
      exact ⟨a, List.getElem?_set_self hs, m, o⟩
    · rw [List.getElem?_set_ne hj] at h
      rw [List.getElem?_set_ne hj]
      exact rs.own j e h
  · by_cases n1 : i = j <;> by_cases n2 : i = k
    · omega
    · subst n1
      rw [List.getElem?_set_self hs] at h3; cases h3
      rw [List.getElem?_set_ne n2] at h2 h4
      exact absurd h4 (no k f h2)
    · subst n2
      rw [List.getElem?_set_self hs] at h4; cases h4
      rw [List.getElem?_set_ne n1] at h1 h3
      exact absurd h3 (no j e h1)
    · rw [List.getElem?_set_ne n1] at h1 h3
      rw [List.getElem?_set_ne n2] at h2 h4
      exact rs.dist j k _ _ _ h1 h2 h3 h4
mutual
theorem asgT_ok : ∀ (t : Tg) {d : D} {v : V} {σ : St} {Γ Γ' : Ct} {Q : St → Hp → Prop}, RS g Bn Ow H σ Γ → Rep g (Av Bn Ow) H d v → asgT t d Γ = some Γ' →
    (∀ σ', RS g Bn Ow H σ' Γ' → σ'.length = σ.length → (∀ i, i ∉ tgIx t → σ'[i]? = σ[i]?) → Q σ' H) → tgT g.K t v σ H Q
  | .nm i, d, v, σ, Γ, Γ', Q, rs, r, e, k => by
    simp only [asgT, Option.ite_none_right_eq_some, Option.some.injEq] at e
    obtain ⟨hi, rfl⟩ := e
    refine k _ (rs.set r hi) List.length_set fun j hj => ?_
    rw [List.getElem?_set_ne]
    intro z
    subst z
    simp [tgIx] at hj
  | .tp ts, d, v, σ, Γ, Γ', Q, rs, r, e, k => by
    cases d <;> simp only [asgT, reduceCtorEq] at e
    simp only [Rep] at r
    obtain ⟨a, vs, rfl, _, s, rr⟩ := r
    have hl : ts.length = vs.length := by
      rw [← rr.len]
      have : ∀ (ts : List Tg) (ds : List D) (Γ Γ' : Ct), asgT.asgTs ts ds Γ = some Γ' → ts.length = ds.length := by
        intro ts
        induction ts with
        | nil => intro ds Γ Γ' h; cases ds with
          | nil => rfl
          | cons => simp only [asgT.asgTs, reduceCtorEq] at h
        | cons t ts ih => intro ds Γ Γ' h; cases ds with
          | nil => simp only [asgT.asgTs, reduceCtorEq] at h
          | cons d ds =>
            simp only [asgT.asgTs] at h
            obtain ⟨G1, _, h⟩ := Option.bind_eq_some_iff.mp h
            rw [List.length_cons, List.length_cons, ih _ _ _ h]
      exact this _ _ _ _ e
    exact ⟨a, vs, rfl, s, hl.symm, asgTs_ok ts rs rr e fun σ' q1 q2 q3 => k σ' q1 q2 fun i hi => q3 i (by simpa only [tgIx] using hi)⟩
theorem asgTs_ok : ∀ (ts : List Tg) {ds : List D} {vs : List V} {σ : St} {Γ Γ' : Ct} {Q : St → Hp → Prop}, RS g Bn Ow H σ Γ → Reps g (Av Bn Ow) H ds vs → asgT.asgTs ts ds Γ = some Γ' →
    (∀ σ', RS g Bn Ow H σ' Γ' → σ'.length = σ.length → (∀ i, i ∉ tgIx.tgIxs ts → σ'[i]? = σ[i]?) → Q σ' H) → tgT.tgTs g.K ts vs σ H Q
  | [], ds, vs, σ, Γ, Γ', Q, rs, r, e, k => by
    cases ds <;> simp only [asgT.asgTs, reduceCtorEq, Option.some.injEq] at e
    subst e
    simp only [Reps] at r
    exact ⟨r, k σ rs rfl fun _ _ => rfl⟩
  | t :: ts, ds, vs, σ, Γ, Γ', Q, rs, r, e, k => by
    cases ds with
    | nil => simp only [asgT.asgTs, reduceCtorEq] at e
    | cons d ds =>
      simp only [asgT.asgTs] at e
      obtain ⟨G1, e1, e⟩ := Option.bind_eq_some_iff.mp e
      simp only [Reps] at r
      obtain ⟨v, w, rfl, r1, r2⟩ := r
      refine ⟨v, w, rfl, asgT_ok t rs r1 e1 fun σ1 q1 q2 q3 => asgTs_ok ts q1 r2 e fun σ2 p1 p2 p3 => k σ2 p1 (p2.trans q2) fun i hi => ?_⟩
      simp only [tgIx.tgIxs, List.mem_append, not_or] at hi
      rw [p3 i hi.2, q3 i hi.1]
end

/-! ### what is walked -/
structure WalkD (g : Gx) (Bn : Addr → Prop) (Ow : List Addr) (H : Hp) (J : It) (ds : List D) : Prop where
  go : ∀ i H', i < ds.length → (∀ a o, H a = some o → nT o → a ∉ Ow → H' a = some o) → J.go i H'
  stop : ∀ H', (∀ a o, H a = some o → nT o → a ∉ Ow → H' a = some o) → J.stop ds.length H'
  same : ∀ i H' x H'', J.yld i H' x H'' → Same H' H''
  yld : ∀ (i : Nat) d Bn' Ow' H' σ' Γ' x H'', ds[i]? = some d → (∀ a, Bn a → Bn' a) → (∀ a, Bn' a → Bn a ∨ H a = none) → Stp Ow H Ow' H' → RS g Bn' Ow' H' σ' Γ' → J.yld i H' x H'' → Same H' H'' ∧ Rep g (Av Bn' Ow') H'' d x
theorem vst2 {Bn' : Addr → Prop} (hB : ∀ a, Bn' a → Bn a ∨ H a = none) (s : Stp Ow H Ow' H') (rs : RS g Bn' Ow' H' σ Γ) : ∀ a, Vst g (Av Bn Ow) H a → (∀ o, H a = some o → nT o → H' a = some o) ∧ ¬ Av Bn' Ow' a := fun a ⟨n, t⟩ => by
  refine ⟨fun o h t => s.keep0 a o h t fun z => n (.inr z), fun z => ?_⟩
  rcases t with ⟨o, t, nt⟩ | ⟨o, t⟩
  · rcases z with z | z
    · rcases hB a z with z | z
      · exact n (.inl z)
      · rw [z] at t; cases t
    · rcases s.grow a z with z | z
      · exact n (.inr z)
      · exact z o t nt
  · rw [rs.kf a z] at t; cases t
theorem walk_list {a : Addr} {vs : List V} {ds : List D} (na : a ∉ Ow) (h : H a = some (.lst vs)) (r : Reps g (Av Bn Ow) H ds vs) : WalkD g Bn Ow H (Itl g.K a) ds where
  go := fun i H' hi k => by
    have hi' : i < vs.length := by rw [← r.len]; exact hi
    exact ⟨vs, vs[i], .inl (.inl (k a _ h nofun na)), List.getElem?_eq_getElem hi'⟩
  stop := fun H' k => ⟨vs, .inl (.inl (k a _ h nofun na)), by rw [r.len]; exact Nat.le_refl _⟩
  same := fun i H' x H'' y => by obtain ⟨rfl, _⟩ := y; exact same_rfl _
  yld := fun i d Bn' Ow' H' σ' Γ' x H'' e b1 b2 s rs y => by
    obtain ⟨rfl, y⟩ := y
    obtain ⟨v, e1, r1⟩ := r.get e
    have e2 := y vs (.inl (.inl (s.keep a _ h na)))
    rw [e1] at e2; cases e2
    exact ⟨same_rfl _, rep_mono (vst2 b2 s rs) _ _ r1⟩
theorem walk_tup {a : Addr} {vs : List V} {ds : List D} (na : a ∉ Ow) (h : SqT g.K H a vs) (r : Reps g (Av Bn Ow) H ds vs) : WalkD g Bn Ow H (Itt g.K a) ds where
  go := fun i H' hi k => by
    have hi' : i < vs.length := by rw [← r.len]; exact hi
    exact ⟨vs, vs[i], sqT_mono h fun o e t => k a o e t na, List.getElem?_eq_getElem hi'⟩
  stop := fun H' k => ⟨vs, sqT_mono h fun o e t => k a o e t na, by rw [r.len]; exact Nat.le_refl _⟩
  same := fun i H' x H'' y => by obtain ⟨rfl, _⟩ := y; exact same_rfl _
  yld := fun i d Bn' Ow' H' σ' Γ' x H'' e b1 b2 s rs y => by
    obtain ⟨rfl, y⟩ := y
    obtain ⟨v, e1, r1⟩ := r.get e
    have e2 := y vs (sqT_mono h fun o e t => s.keep0 a o e t na)
    rw [e1] at e2; cases e2
    exact ⟨same_rfl _, rep_mono (vst2 b2 s rs) _ _ r1⟩
theorem enumD_get : ∀ {ds : List D} {n i : Nat} {d : D}, (enumD n ds)[i]? = some d → ∃ e, ds[i]? = some e ∧ d = .tup [.int ((n + i : Nat) : Int), e]
  | [], n, i, d, h => by simp [enumD] at h
  | e :: ds, n, 0, d, h => by simp [enumD] at h; subst h; exact ⟨e, rfl, rfl⟩
  | e :: ds, n, i + 1, d, h => by
    simp only [enumD, List.getElem?_cons_succ] at h
    obtain ⟨f, h1, h2⟩ := enumD_get h
    exact ⟨f, by simpa using h1, by rw [h2, show n + 1 + i = n + (i + 1) by omega]⟩
theorem enumD_len : ∀ (ds : List D) (n : Nat), (enumD n ds).length = ds.length
  | [], _ => rfl
  | _ :: ds, n => by simp only [enumD, List.length_cons]; rw [enumD_len ds (n + 1)]
theorem zipD_get : ∀ {ds es : List D} {i : Nat} {d : D}, (zipD ds es)[i]? = some d → ∃ a b, ds[i]? = some a ∧ es[i]? = some b ∧ d = .tup [a, b]
  | [], es, i, d, h => by simp [zipD] at h
  | a :: ds, [], i, d, h => by simp [zipD] at h
  | a :: ds, b :: es, 0, d, h => by simp [zipD] at h; subst h; exact ⟨a, b, rfl, rfl, rfl⟩
  | a :: ds, b :: es, i + 1, d, h => by
    simp only [zipD, List.getElem?_cons_succ] at h
    obtain ⟨x, y, h1, h2, h3⟩ := zipD_get h
    exact ⟨x, y, by simpa using h1, by simpa using h2, h3⟩
theorem zipD_len : ∀ (ds es : List D), (zipD ds es).length = min ds.length es.length
  | [], es => by simp [zipD]
  | a :: ds, [] => by simp [zipD]
  | a :: ds, b :: es => by simp only [zipD, List.length_cons]; rw [zipD_len ds es]; omega
theorem tup2 {Bn' : Addr → Prop} {T : Addr} {d e : D} {x y : V} {H'' : Hp} (nT : H' T = none) (e0 : H'' = upd H' T (.tup [x, y])) (tr : ∀ a, Av Bn' Ow' a → H' a ≠ none) (r1 : Rep g (Av Bn' Ow') H' d x) (r2 : Rep g (Av Bn' Ow') H' e y) : Same H' H'' ∧ Rep g (Av Bn' Ow') H'' (.tup [d, e]) (.ref T) := by
  subst e0
  refine ⟨same_new nT, ?_⟩
  simp only [Rep]
  refine ⟨T, [x, y], rfl, fun z => tr T z nT, .inl (.inl upd_same), ?_⟩
  simp only [Reps]
  exact ⟨_, _, rfl, r1.same (same_new nT), _, _, rfl, r2.same (same_new nT), rfl⟩
theorem walk_enum {a : Addr} {vs : List V} {ds : List D} (na : a ∉ Ow) (h : H a = some (.lst vs)) (r : Reps g (Av Bn Ow) H ds vs) : WalkD g Bn Ow H (Ite g.K a) (enumD 0 ds) where
  go := fun i H' hi k => by
    rw [enumD_len] at hi
    have hi' : i < vs.length := by rw [← r.len]; exact hi
    exact ⟨vs, vs[i], .inl (.inl (k a _ h nofun na)), List.getElem?_eq_getElem hi'⟩
  stop := fun H' k => ⟨vs, .inl (.inl (k a _ h nofun na)), by rw [enumD_len, r.len]; exact Nat.le_refl _⟩
  same := fun i H' x H'' y => by obtain ⟨T, v, rfl, nT, rfl, _⟩ := y; exact same_new nT
  yld := fun i d Bn' Ow' H' σ' Γ' x H'' e b1 b2 s rs y => by
    obtain ⟨T, v, rfl, nT, e0, y⟩ := y
    obtain ⟨f, e1, rfl⟩ := enumD_get e
    obtain ⟨w, e2, r1⟩ := r.get e1
    have e3 := y vs (.inl (.inl (s.keep a _ h na)))
    rw [e2] at e3; cases e3
    rw [Nat.zero_add]
    exact tup2 nT e0 rs.trk (by simp only [Rep]) (rep_mono (vst2 b2 s rs) _ _ r1)
theorem walk_zip {a b : Addr} {vs ws : List V} {ds es : List D} (na : a ∉ Ow) (nb : b ∉ Ow) (h : H a = some (.lst vs)) (h' : H b = some (.lst ws)) (r : Reps g (Av Bn Ow) H ds vs) (r' : Reps g (Av Bn Ow) H es ws) : WalkD g Bn Ow H (Itz g.K a b) (zipD ds es) where
  go := fun i H' hi k => by
    rw [zipD_len] at hi
    have hi1 : i < vs.length := by rw [← r.len]; omega
    have hi2 : i < ws.length := by rw [← r'.len]; omega
    exact ⟨vs, ws, vs[i], ws[i], .inl (.inl (k a _ h nofun na)), .inl (.inl (k b _ h' nofun nb)), List.getElem?_eq_getElem hi1, List.getElem?_eq_getElem hi2⟩
  stop := fun H' k => ⟨vs, ws, .inl (.inl (k a _ h nofun na)), .inl (.inl (k b _ h' nofun nb)), by
    rw [zipD_len, ← r.len, ← r'.len]
    omega⟩
  same := fun i H' x H'' y => by obtain ⟨T, v, w, rfl, nT, rfl, _⟩ := y; exact same_new nT
  yld := fun i d Bn' Ow' H' σ' Γ' x H'' e b1 b2 s rs y => by
    obtain ⟨T, v, w, rfl, nT, e0, y1, y2⟩ := y
    obtain ⟨p, q, e1, e2, rfl⟩ := zipD_get e
    obtain ⟨v', e3, r1⟩ := r.get e1
    obtain ⟨w', e4, r2⟩ := r'.get e2
    have e5 := y1 vs (.inl (.inl (s.keep a _ h na)))
    have e6 := y2 ws (.inl (.inl (s.keep b _ h' nb)))
    rw [e3] at e5; cases e5
    rw [e4] at e6; cases e6
    exact tup2 nT e0 rs.trk (rep_mono (vst2 b2 s rs) _ _ r1) (rep_mono (vst2 b2 s rs) _ _ r2)
theorem rngD_get : ∀ {n : Nat} {lo c : Int} {i : Nat} {d : D}, (rngD lo c n)[i]? = some d → i < n ∧ d = .int (lo + (i : Nat) * c)
  | 0, lo, c, i, d, h => by simp [rngD] at h
  | n + 1, lo, c, 0, d, h => by simp [rngD] at h; subst h; exact ⟨by omega, by simp⟩
  | n + 1, lo, c, i + 1, d, h => by
    simp only [rngD, List.getElem?_cons_succ] at h
    obtain ⟨h1, h2⟩ := rngD_get h
    refine ⟨by omega, ?_⟩
    rw [h2]
    have : lo + c + (i : Int) * c = lo + ((i + 1 : Nat) : Int) * c := by
      have : ((i + 1 : Nat) : Int) = (i : Int) + 1 := by omega
      rw [this, Int.add_mul]; omega
    rw [this]
theorem rngD_len : ∀ (n : Nat) (lo c : Int), (rngD lo c n).length = n
  | 0, _, _ => rfl
  | n + 1, lo, c => by simp only [rngD, List.length_cons]; rw [rngD_len n]
theorem walk_rng (lo : Int) (n : Nat) : WalkD g Bn Ow H (Itr lo n) (rngD lo 1 n) where
  go := fun i H' hi k => by rw [rngD_len] at hi; exact hi
  stop := fun H' k => by rw [rngD_len]; exact Nat.le_refl _
  same := fun i H' x H'' y => by obtain ⟨rfl, _⟩ := y; exact same_rfl _
  yld := fun i d Bn' Ow' H' σ' Γ' x H'' e b1 b2 s rs y => by
    obtain ⟨rfl, rfl⟩ := y
    obtain ⟨_, rfl⟩ := rngD_get e
    exact ⟨same_rfl _, by simp only [Rep, Int.mul_one]⟩
theorem walk_rngC (lo c : Int) (n : Nat) : WalkD g Bn Ow H (Itc lo c n) (rngD lo c n) where
  go := fun i H' hi k => by rw [rngD_len] at hi; exact hi
  stop := fun H' k => by rw [rngD_len]; exact Nat.le_refl _
  same := fun i H' x H'' y => by obtain ⟨rfl, _⟩ := y; exact same_rfl _
  yld := fun i d Bn' Ow' H' σ' Γ' x H'' e b1 b2 s rs y => by
    obtain ⟨rfl, rfl⟩ := y
    obtain ⟨_, rfl⟩ := rngD_get e
    exact ⟨same_rfl _, by simp only [Rep]⟩
end
def tI (g : Gx) (fs : List FS) (ik : IK) (its : List E) : TI := fun σ H R => ∃ Bn Ow Γ xs Γ1 ds Γ2, RS g Bn Ow H σ Γ ∧ evs fs its Γ = some (xs, Γ1) ∧ iterD ik xs Γ1 = some (ds, Γ2) ∧ ∀ J H' Ow', Stp Ow H Ow' H' → RS g Bn Ow' H' σ Γ2 → WalkD g Bn Ow' H' J ds → R J H'
section
variable {X : Cx} {g : Gx} {fs : List FS} {tg l : Expr} {il : E} {p pos tpos : Pos} {elts : List Expr} {kk : Nat} {es : List Expr} {ies : List E}
theorem PI.weak {it : Expr} {w w' : TI} (h : PI X tg it w) (k : ∀ σ H R, w' σ H R → w σ H R) : PI X tg it w' := ⟨fun pins s σ H R I q => h.run pins s σ H R I (k σ H R q)⟩
theorem PI.or {it : Expr} {w w' : TI} (h : PI X tg it w) (h' : PI X tg it w') : PI X tg it (fun σ H R => w σ H R ∨ w' σ H R) := ⟨fun pins s σ H R I q => q.elim (fun q => h.run pins s σ H R I q) fun q => h'.run pins s σ H R I q⟩
theorem evs_one {Γ Γ1 : Ct} {xs : List RV} (h : evs fs [il] Γ = some (xs, Γ1)) : ∃ x, xs = [x] ∧ ev fs il Γ = some (x, Γ1) := by
  simp only [evs] at h
  obtain ⟨⟨x, G⟩, e1, h⟩ := Option.bind_eq_some_iff.mp h
  simp only [Option.map_some, Option.some.injEq, Prod.mk.injEq] at h
  obtain ⟨rfl, rfl⟩ := h
  exact ⟨x, rfl, e1⟩
/-- by what is walked, on what the value says: a list, a tuple -/
theorem i_seq_or (C : Cok0 g X) (h : PI X tg l (fun σ H R => iList X.K (tR g fs il) σ H R ∨ iTup X.K (tR g fs il) σ H R)) : PI X tg l (tI g fs .seq [il]) := by
  refine PI.weak h ?_
  rintro σ H R ⟨Bn, Ow, Γ, xs, Γ1, ds, Γ2, rs, e1, e2, k⟩
  obtain ⟨x, rfl, e9⟩ := evs_one e1
  simp only [iterD] at e2
  obtain ⟨⟨d, G2⟩, e3, e2⟩ := Option.bind_eq_some_iff.mp e2
  cases d <;> simp only [reduceCtorEq, Option.some.injEq, Prod.mk.injEq] at e2
  · obtain ⟨rfl, rfl⟩ := e2
    refine .inl ⟨Bn, Ow, Γ, x, Γ1, rs, e9, fun v H1 O1 s1 r1 v1 => ?_⟩
    obtain ⟨O2, s2, r2, rp⟩ := fre_ok r1 v1 e3
    simp only [Rep] at rp
    obtain ⟨a, vs, rfl, na, ha, rr⟩ := rp
    refine ⟨a, rfl, ⟨vs, .inl (.inl ha)⟩, ?_⟩
    rw [C.K]
    exact k _ H1 O2 (s1.trans s2) r2 (walk_list (fun z => na (.inr z)) ha rr)
  · obtain ⟨rfl, rfl⟩ := e2
    refine .inr ⟨Bn, Ow, Γ, x, Γ1, rs, e9, fun v H1 O1 s1 r1 v1 => ?_⟩
    obtain ⟨O2, s2, r2, rp⟩ := fre_ok r1 v1 e3
    simp only [Rep] at rp
    obtain ⟨a, vs, rfl, na, ha, rr⟩ := rp
    refine ⟨a, rfl, ⟨vs, by rw [C.K]; exact ha⟩, ?_⟩
    rw [C.K]
    exact k _ H1 O2 (s1.trans s2) r2 (walk_tup (fun z => na (.inr z)) ha rr)
theorem i_seq (C : Cok0 g X) (hl : PE X l (tR g fs il)) : PI X tg l (tI g fs .seq [il]) := i_seq_or C (PI.or (pi_list hl) (pi_tup hl))
theorem i_enum (C : Cok0 g X) (hg : Gl X "enumerate") (hm : X.mg "enumerate" = none) (ha : PA X [l] (tAs g fs [il])) (hs : starEach [l] X.env = [(false, eval l X.env)]) : PI X (.Tuple elts kk tpos) (.Call (.Name "enumerate" p) [l] [] pos) (tI g fs .enum [il]) := by
  refine PI.weak (pi_enum hg hm ha hs) ?_
  rintro σ H R ⟨Bn, Ow, Γ, xs, Γ1, ds, Γ2, rs, e1, e2, k⟩
  refine ⟨Bn, Ow, Γ, xs, Γ1, rs, e1, fun vs H1 O1 s1 r1 v1 => ?_⟩
  obtain ⟨x, rfl, e1⟩ := evs_one e1
  simp only [iterD] at e2
  obtain ⟨⟨d, G2⟩, e3, e2⟩ := Option.bind_eq_some_iff.mp e2
  cases d <;> simp only [reduceCtorEq, Option.some.injEq, Prod.mk.injEq] at e2
  obtain ⟨rfl, rfl⟩ := e2
  obtain ⟨v, w, rfl, v1, z⟩ := v1
  have z : w = [] := z
  subst z
  rw [← fre_dn] at e3
  obtain ⟨O2, s2, r2, rp⟩ := fre_ok r1 v1 e3
  simp only [Rep] at rp
  obtain ⟨a, vs, rfl, na, ha, rr⟩ := rp
  refine ⟨a, vs, rfl, .inl (.inl ha), ?_⟩
  rw [C.K]
  exact k _ H1 O2 (s1.trans s2) r2 (walk_enum (fun z => na (.inr z)) ha rr)
theorem i_zip {l2 : Expr} {il2 : E} (C : Cok0 g X) (hg : Gl X "zip") (hm : X.mg "zip" = none) (ha : PA X [l, l2] (tAs g fs [il, il2])) (hs : starEach [l, l2] X.env = (false, eval l X.env) :: starEach [l2] X.env) (hpl : (backTo pos (starEach [l2] X.env)).any (·.1) = false) :
    PI X (.Tuple elts kk tpos) (.Call (.Name "zip" p) [l, l2] [] pos) (tI g fs .zip [il, il2]) := by
  refine PI.weak (pi_zip hg hm ha hs hpl) ?_
  rintro σ H R ⟨Bn, Ow, Γ, xs, Γ1, ds, Γ2, rs, e1, e2, k⟩
  refine ⟨Bn, Ow, Γ, xs, Γ1, rs, e1, fun vs H1 O1 s1 r1 v1 => ?_⟩
  simp only [evs] at e1
  obtain ⟨⟨x, G1⟩, e3, e1⟩ := Option.bind_eq_some_iff.mp e1
  obtain ⟨⟨ys, G2⟩, e4, e1⟩ := Option.map_eq_some_iff.mp e1
  obtain ⟨⟨y, G3⟩, e5, e4⟩ := Option.bind_eq_some_iff.mp e4
  simp only [Option.map_some, Option.some.injEq, Prod.mk.injEq] at e4 e1
  obtain ⟨rfl, rfl⟩ := e4
  obtain ⟨rfl, rfl⟩ := e1
  simp only [iterD] at e2
  obtain ⟨⟨d, F1⟩, e6, e2⟩ := Option.bind_eq_some_iff.mp e2
  obtain ⟨⟨e, F2⟩, e7, e2⟩ := Option.bind_eq_some_iff.mp e2
  cases d <;> cases e <;> simp only [reduceCtorEq, Option.some.injEq, Prod.mk.injEq] at e2
  obtain ⟨rfl, rfl⟩ := e2
  obtain ⟨v, w, rfl, v1, w', w'', rfl, v2, z⟩ := v1
  have z : w'' = [] := z
  subst z
  rw [← fre_dn] at e6 e7
  obtain ⟨O2, s2, r2, rp⟩ := fre_ok r1 v1 e6
  obtain ⟨O3, s3, r3, rq⟩ := fre_ok r2 (v2.step s2 r2) e7
  have rp := rp.step s3 r3
  simp only [Rep] at rp rq
  obtain ⟨a, vs, rfl, na, ha, rr⟩ := rp
  obtain ⟨b, ws, rfl, nb, hb, rr'⟩ := rq
  refine ⟨a, b, vs, ws, rfl, .inl (.inl ha), .inl (.inl hb), ?_⟩
  rw [C.K]
  exact k _ H1 O3 ((s1.trans s2).trans s3) r3 (walk_zip (fun z => na (.inr z)) (fun z => nb (.inr z)) ha hb rr rr')
theorem in62_of {i : Int} (h : in62 i = true) : -(2 ^ 62) ≤ i ∧ i < 2 ^ 62 := by
  unfold in62 at h
  have h := of_decide_eq_true h
  by_cases h0 : i.natAbs = 0
  · omega
  · rw [Nat.log2_lt h0] at h
    omega
theorem i_rng1 {a : Expr} {ia : E} (C : Cok0 g X) (hg : Gl X "range") (hm : X.mg "range" = none) (ha : PA X [a] (tAs g fs [ia])) (hs : starEach [a] X.env = [(false, eval a X.env)]) : PI X tg (.Call (.Name "range" p) [a] [] pos) (tI g fs .rng [ia]) := by
  refine PI.weak (pi_range1 hg hm ha hs) ?_
  rintro σ H R ⟨Bn, Ow, Γ, xs, Γ1, ds, Γ2, rs, e1, e2, k⟩
  refine ⟨Bn, Ow, Γ, xs, Γ1, rs, e1, fun vs H1 O1 s1 r1 v1 => ?_⟩
  obtain ⟨x, rfl, e1⟩ := evs_one e1
  simp only [iterD] at e2
  obtain ⟨dd, e3, e2⟩ := Option.bind_eq_some_iff.mp e2
  have pd := datums_ok r1 v1 e3
  simp only [datums] at e3
  obtain ⟨d, _, e3⟩ := Option.bind_eq_some_iff.mp e3
  simp only [Option.map_some, Option.some.injEq] at e3
  subst e3
  cases d <;> simp only [reduceCtorEq, Option.ite_none_right_eq_some, Option.some.injEq, Prod.mk.injEq] at e2
  obtain ⟨h6, rfl, rfl⟩ := e2
  obtain ⟨v, rfl, q⟩ := paired1 pd
  rw [rdb_int q]
  exact ⟨_, rfl, (in62_of h6).1, (in62_of h6).2, k _ H1 O1 s1 r1 (walk_rng _ _)⟩
theorem i_rng2 {a b : Expr} {ia ib : E} (C : Cok0 g X) (hg : Gl X "range") (hm : X.mg "range" = none) (ha : PA X [a, b] (tAs g fs [ia, ib])) (hs : starEach [a, b] X.env = [(false, eval a X.env), (false, eval b X.env)]) (hs2 : starEach [b] X.env = [(false, eval b X.env)]) :
    PI X tg (.Call (.Name "range" p) [a, b] [] pos) (tI g fs .rng [ia, ib]) := by
  refine PI.weak (pi_range2 hg hm ha hs hs2) ?_
  rintro σ H R ⟨Bn, Ow, Γ, xs, Γ1, ds, Γ2, rs, e1, e2, k⟩
  refine ⟨Bn, Ow, Γ, xs, Γ1, rs, e1, fun vs H1 O1 s1 r1 v1 => ?_⟩
  simp only [evs] at e1
  obtain ⟨⟨x, G1⟩, _, e1⟩ := Option.bind_eq_some_iff.mp e1
  obtain ⟨⟨ys, G2⟩, e4, e1⟩ := Option.map_eq_some_iff.mp e1
  obtain ⟨⟨y, G3⟩, _, e4⟩ := Option.bind_eq_some_iff.mp e4
  simp only [Option.map_some, Option.some.injEq, Prod.mk.injEq] at e4 e1
  obtain ⟨rfl, rfl⟩ := e4
  obtain ⟨rfl, rfl⟩ := e1
  simp only [iterD] at e2
  obtain ⟨dd, e3, e2⟩ := Option.bind_eq_some_iff.mp e2
  have pd := datums_ok r1 v1 e3
  simp only [datums] at e3
  obtain ⟨d, _, e3⟩ := Option.bind_eq_some_iff.mp e3
  obtain ⟨dr, e5, e3⟩ := Option.map_eq_some_iff.mp e3
  obtain ⟨e, _, e5⟩ := Option.bind_eq_some_iff.mp e5
  simp only [Option.map_some, Option.some.injEq] at e5
  subst e5 e3
  cases d <;> cases e <;> simp only [reduceCtorEq, Option.ite_none_right_eq_some, Option.some.injEq, Prod.mk.injEq, Bool.and_eq_true] at e2
  obtain ⟨⟨h6, h7⟩, rfl, rfl⟩ := e2
  obtain ⟨v, w, rfl, q, q'⟩ := paired2 pd
  rw [rdb_int q, rdb_int q']
  exact ⟨_, _, rfl, ⟨(in62_of h6).1, (in62_of h6).2, (in62_of h7).1, (in62_of h7).2⟩, k _ H1 O1 s1 r1 (walk_rng _ _)⟩
theorem i_rng3 {a b c : Expr} {ia ib ic : E} (C : Cok0 g X) (hg : Gl X "range") (hm : X.mg "range" = none) (ha : PA X [a, b, c] (tAs g fs [ia, ib, ic])) (hs : starEach [a, b, c] X.env = (false, eval a X.env) :: starEach [b, c] X.env) (hpl : (backTo pos (starEach [b, c] X.env)).any (·.1) = false) :
    PI X tg (.Call (.Name "range" p) [a, b, c] [] pos) (tI g fs .rng [ia, ib, ic]) := by
  refine PI.weak (pi_range3G hg hm ha hs hpl) ?_
  rintro σ H R ⟨Bn, Ow, Γ, xs, Γ1, ds, Γ2, rs, e1, e2, k⟩
  refine ⟨Bn, Ow, Γ, xs, Γ1, rs, e1, fun vs H1 O1 s1 r1 v1 => ?_⟩
  simp only [evs] at e1
  obtain ⟨⟨x, G1⟩, _, e1⟩ := Option.bind_eq_some_iff.mp e1
  obtain ⟨⟨ys, G2⟩, e4, e1⟩ := Option.map_eq_some_iff.mp e1
  obtain ⟨⟨y, G3⟩, _, e4⟩ := Option.bind_eq_some_iff.mp e4
  obtain ⟨⟨zs, G4⟩, e5, e4⟩ := Option.map_eq_some_iff.mp e4
  obtain ⟨⟨z, G5⟩, _, e5⟩ := Option.bind_eq_some_iff.mp e5
  simp only [Option.map_some, Option.some.injEq, Prod.mk.injEq] at e5 e4 e1
  obtain ⟨rfl, rfl⟩ := e5
  obtain ⟨rfl, rfl⟩ := e4
  obtain ⟨rfl, rfl⟩ := e1
  simp only [iterD] at e2
  obtain ⟨dd, e3, e2⟩ := Option.bind_eq_some_iff.mp e2
  have pd := datums_ok r1 v1 e3
  simp only [datums] at e3
  obtain ⟨d, _, e3⟩ := Option.bind_eq_some_iff.mp e3
  obtain ⟨dr, e6, e3⟩ := Option.map_eq_some_iff.mp e3
  obtain ⟨e, _, e6⟩ := Option.bind_eq_some_iff.mp e6
  obtain ⟨er, e7, e6⟩ := Option.map_eq_some_iff.mp e6
  obtain ⟨f, _, e7⟩ := Option.bind_eq_some_iff.mp e7
  simp only [Option.map_some, Option.some.injEq] at e7
  subst e7 e6 e3
  cases d <;> cases e <;> cases f <;> simp only [reduceCtorEq, Option.ite_none_right_eq_some, Option.some.injEq, Prod.mk.injEq] at e2
  obtain ⟨⟨h6, h7, h9⟩, rfl, rfl⟩ := e2
  cases pd with
  | cons q1 pd =>
    cases pd with
    | cons q2 pd =>
      cases pd with
      | cons q3 pd =>
        cases pd
        rw [rdb_int q1, rdb_int q2, rdb_int q3]
        exact ⟨_, _, _, _, rfl, ⟨h6, h7, h9⟩, k _ H1 O1 s1 r1 (walk_rngC _ _ _)⟩
end
end DV

namespace DV
open PySem L2
/-! ### slots wiped and restored -/
theorem wipe_nout {σ : St} {i : Nat} : ∀ {vs : List Nat}, i ∉ vs → (wipe σ vs)[i]? = σ[i]?
  | [], _ => rfl
  | v :: vs, h => by
    simp only [List.mem_cons, not_or] at h
    unfold wipe
    rw [List.getElem?_set_ne (fun z => h.1 z.symm)]
    exact wipe_nout h.2
theorem wipe_in {σ : St} {i : Nat} : ∀ {vs : List Nat}, i ∈ vs → i < σ.length → (wipe σ vs)[i]? = some none
  | v :: vs, h, hl => by
    unfold wipe
    by_cases e : v = i
    · subst e
      exact List.getElem?_set_self (by rw [wipe_length]; exact hl)
    · rw [List.getElem?_set_ne e]
      rcases List.mem_cons.mp h with h | h
      · exact absurd h.symm e
      · exact wipe_in h hl
theorem wipeG_len (Γ : Ct) : ∀ vs : List Nat, (wipeG Γ vs).length = Γ.length
  | [] => rfl
  | v :: vs => by unfold wipeG; rw [List.length_set, wipeG_len Γ vs]
theorem wipeG_some {Γ : Ct} {i : Nat} {p : D × Bool} : ∀ {vs : List Nat}, (wipeG Γ vs)[i]? = some (some p) → Γ[i]? = some (some p) ∧ i ∉ vs
  | [], h => ⟨h, by simp⟩
  | v :: vs, h => by
    unfold wipeG at h
    by_cases e : v = i
    · subst e
      by_cases hl : v < (wipeG Γ vs).length
      · rw [List.getElem?_set_self hl] at h; cases h
      · rw [List.getElem?_eq_none (by rw [List.length_set]; omega)] at h; cases h
    · rw [List.getElem?_set_ne e] at h
      obtain ⟨h1, h2⟩ := wipeG_some h
      exact ⟨h1, by simp only [List.mem_cons, not_or]; exact ⟨fun z => e z.symm, h2⟩⟩
theorem restG_len (Γ Γ' : Ct) : ∀ vs : List Nat, (restG Γ Γ' vs).length = Γ'.length
  | [] => rfl
  | v :: vs => by unfold restG; rw [List.length_set, restG_len Γ Γ' vs]
theorem restG_out {Γ Γ' : Ct} {i : Nat} : ∀ {vs : List Nat}, i ∉ vs → (restG Γ Γ' vs)[i]? = Γ'[i]?
  | [], _ => rfl
  | v :: vs, h => by
    simp only [List.mem_cons, not_or] at h
    unfold restG
    rw [List.getElem?_set_ne (fun z => h.1 z.symm)]
    exact restG_out h.2
theorem restG_in {Γ Γ' : Ct} {i : Nat} : ∀ {vs : List Nat}, i ∈ vs → i < Γ'.length → (restG Γ Γ' vs)[i]? = some (Γ.getD i none)
  | v :: vs, h, hl => by
    unfold restG
    by_cases e : v = i
    · subst e
      exact List.getElem?_set_self (by rw [restG_len]; exact hl)
    · rw [List.getElem?_set_ne e]
      rcases List.mem_cons.mp h with h | h
      · exact absurd h.symm e
      · exact restG_in h hl
theorem wipe_same {σ σ' : St} {vs : List Nat} (hl : σ'.length = σ.length) (h : ∀ i, i ∉ vs → σ'[i]? = σ[i]?) : wipe σ' vs = wipe σ vs := by
  apply List.ext_getElem?
  intro i
  by_cases hi : i ∈ vs
  · by_cases hlt : i < σ.length
    · rw [wipe_in hi hlt, wipe_in hi (by omega)]
    · rw [List.getElem?_eq_none (by rw [wipe_length]; omega), List.getElem?_eq_none (by rw [wipe_length]; omega)]
  · rw [wipe_nout hi, wipe_nout hi, h i hi]
theorem wipe_wipe (σ : St) (vs : List Nat) : wipe (wipe σ vs) vs = wipe σ vs := wipe_same (wipe_length σ vs) fun i hi => wipe_nout hi
section
variable {g : Gx} {Bn : Addr → Prop} {Ow Ow' : List Addr} {H H' : Hp} {σ : St} {Γ Γ' : Ct}
theorem RS.wipe (own : List Nat) (rs : RS g Bn Ow H σ Γ) : RS g Bn Ow H (L2.wipe σ own) (wipeG Γ own) := by
  refine ⟨by rw [wipe_length, wipeG_len]; exact rs.len, fun i d h => ?_, fun i d h => ?_, fun i j d e a h1 h2 h3 h4 => ?_, rs.trl, rs.sep, rs.kf, rs.tabs⟩
  · obtain ⟨h1, h2⟩ := wipeG_some h
    rw [wipe_nout h2]
    exact rs.slot i d h1
  · obtain ⟨h1, h2⟩ := wipeG_some h
    rw [wipe_nout h2]
    exact rs.own i d h1
  · obtain ⟨q1, n1⟩ := wipeG_some h1
    obtain ⟨q2, n2⟩ := wipeG_some h2
    rw [wipe_nout n1] at h3
    rw [wipe_nout n2] at h4
    exact rs.dist i j _ _ _ q1 q2 h3 h4
/-- the block is over: its own names are what they were -/
theorem RS.rest {Bn' : Addr → Prop} {own : List Nat} (r0 : RS g Bn Ow H σ Γ) (hp : plainIx Γ own = true) (s : Stp Ow H Ow' H') (hB : ∀ a, Bn' a → Bn a ∨ H a = none) (rs : RS g Bn' Ow' H' (L2.wipe σ own) Γ') : RS g Bn' Ow' H' σ (restG Γ Γ' own) := by
  have hl : σ.length = Γ'.length := by rw [← rs.len, wipe_length]
  have pl : ∀ i, i ∈ own → ∀ d, Γ[i]? ≠ some (some (d, true)) := fun i hi d z => by
    unfold plainIx at hp
    have q := List.all_eq_true.mp hp i hi
    rw [z] at q
    cases q
  have inn : ∀ {i : Nat} {p : D × Bool}, i ∈ own → (restG Γ Γ' own)[i]? = some (some p) → Γ[i]? = some (some p) := fun {i p} hi h => by
    have hlt : i < Γ'.length := by
      rw [← restG_len Γ Γ' own]
      exact (List.getElem?_eq_some_iff.mp h).1
    rw [restG_in hi hlt] at h
    have hlt2 : i < Γ.length := by rw [← r0.len, hl]; exact hlt
    rw [List.getD_eq_getElem?_getD, List.getElem?_eq_getElem hlt2] at h
    rw [List.getElem?_eq_getElem hlt2]
    simpa using h
  refine ⟨by rw [restG_len]; exact hl, fun i d h => ?_, fun i d h => ?_, fun i j d e a h1 h2 h3 h4 => ?_, rs.trl, rs.sep, rs.kf, rs.tabs⟩
  · by_cases hi : i ∈ own
    · obtain ⟨v, e, r⟩ := r0.slot i d (inn hi h)
      exact ⟨v, e, rep_mono (vst2 hB s rs) _ _ r⟩
    · rw [restG_out hi] at h
      obtain ⟨v, e, r⟩ := rs.slot i d h
      rw [wipe_nout hi] at e
      exact ⟨v, e, r⟩
  · by_cases hi : i ∈ own
    · exact absurd (inn hi h) (pl i hi d)
    · rw [restG_out hi] at h
      obtain ⟨v, e, r⟩ := rs.own i d h
      rw [wipe_nout hi] at e
      exact ⟨v, e, r⟩
  · have n1 : i ∉ own := fun z => pl i z d (inn z h1)
    have n2 : j ∉ own := fun z => pl j z e (inn z h2)
    rw [restG_out n1] at h1
    rw [restG_out n2] at h2
    exact rs.dist i j _ _ _ h1 h2 (by rw [wipe_nout n1]; exact h3) (by rw [wipe_nout n2]; exact h4)
abbrev orB (Bn : Addr → Prop) (p : Addr) : Addr → Prop := fun a => Bn a ∨ a = p
theorem RS.addB {p : Addr} (rs : RS g Bn Ow H σ Γ) (s : Same H H') (np : H p = none) (hp : LI H' p) (hk : g.K.lookup p = none) : RS g (orB Bn p) Ow H' σ Γ := by
  have r := rs.add s np hp hk
  have np' : p ∉ Ow := fun z => rs.trk p (.inr z) np
  have av : ∀ a, Av (orB Bn p) Ow a → Av Bn (p :: Ow) a := fun a h => by
    rcases h with (h | h) | h
    · exact .inl h
    · exact .inr (by rw [h]; exact List.mem_cons_self)
    · exact .inr (List.mem_cons_of_mem _ h)
  refine ⟨r.len, fun i d h => ?_, fun i d h => ?_, r.dist, fun a h => r.trl a (av a h), fun a h z => ?_, fun a h => r.kf a (av a h), r.tabs⟩
  · obtain ⟨v, e, q⟩ := r.slot i d h; exact ⟨v, e, rep_less av q⟩
  · obtain ⟨a, e, m, q⟩ := r.own i d h
    obtain ⟨a', e', m', _⟩ := rs.own i d h
    rw [e] at e'; cases e'
    exact ⟨a, e, m', own_less av q⟩
  · rcases h with h | h
    · exact rs.sep a h z
    · rw [h] at z; exact np' z
theorem RS.unB {p : Addr} (rs : RS g (orB Bn p) Ow H σ Γ) (nb : ¬ Bn p) : RS g Bn (p :: Ow) H σ Γ := by
  have av : ∀ a, Av Bn (p :: Ow) a → Av (orB Bn p) Ow a := fun a h => by
    rcases h with h | h
    · exact .inl (.inl h)
    · rcases List.mem_cons.mp h with h | h
      · exact .inl (.inr h)
      · exact .inr h
  refine ⟨rs.len, fun i d h => ?_, fun i d h => ?_, rs.dist, fun a h => rs.trl a (av a h), fun a h z => ?_, fun a h => rs.kf a (av a h), rs.tabs⟩
  · obtain ⟨v, e, q⟩ := rs.slot i d h; exact ⟨v, e, rep_less av q⟩
  · obtain ⟨a, e, m, q⟩ := rs.own i d h
    exact ⟨a, e, List.mem_cons_of_mem _ m, own_less av q⟩
  · rcases List.mem_cons.mp z with z | z
    · subst z; exact nb h
    · exact rs.sep a (.inl h) z
/-- what is banned may change -/
theorem ban_vst {p : Addr} {o : HO} {A : Addr → Prop} (h : A p) : ∀ a, Vst g A H a → (∀ x, H a = some x → nT x → (upd H p o) a = some x) ∧ ¬ A a := fun a ⟨n, _⟩ => ⟨fun x e _ => by
  rw [upd_ne (fun z => n (by rw [z]; exact h))]
  exact e, n⟩
theorem RS.updB {p : Addr} {o : HO} (rs : RS g Bn Ow H σ Γ) (hp : Bn p) (ho : LI (upd H p o) p) : RS g Bn Ow (upd H p o) σ Γ := by
  have v := ban_vst (g := g) (H := H) (o := o) (A := Av Bn Ow) (p := p) (.inl hp)
  refine ⟨rs.len, fun i d h => ?_, fun i d h => ?_, rs.dist, fun a h => ?_, rs.sep, rs.kf, rs.tabs.upd (rs.trl p (.inl hp))⟩
  · obtain ⟨w, e, q⟩ := rs.slot i d h; exact ⟨w, e, rep_mono v _ _ q⟩
  · obtain ⟨a, e, m, q⟩ := rs.own i d h
    have ne : a ≠ p := fun z => by subst z; exact rs.sep a hp m
    refine ⟨a, e, m, ?_⟩
    cases d with
    | lst ds => obtain ⟨ws, z1, z2⟩ := q; exact ⟨ws, by rw [upd_ne ne]; exact z1, reps_mono v _ _ z2⟩
    | obj c ks ds => obtain ⟨dx, ws, l, z1, z2⟩ := q; exact ⟨dx, ws, l, by rw [upd_ne ne]; exact z1, reps_mono v _ _ z2⟩
    | _ => exact q
  · exact (rs.trl a h).upd fun _ => ho
theorem Stp.updN {O O' : List Addr} {p : Addr} {o : HO} (s : Stp O H O' H') (np : H p = none) : Stp O H O' (upd H' p o) where
  keep0 := fun a x h t n => by
    rw [upd_ne (ne_of_none h np)]
    exact s.keep0 a x h t n
  grow := s.grow
end
def tTc (g : Gx) (fs : List FS) (cond : List E) : TT := fun σ H Q => ∃ Bn Ow Γ t Γ', RS g Bn Ow H σ Γ ∧ evc fs cond Γ = some (t, Γ') ∧ ∀ H' Ow', Stp Ow H Ow' H' → RS g Bn Ow' H' σ Γ' → Q t H'
abbrev kfs (K : PySem.W.Frag) (H : Hp) : Prop := ∀ a o, K.lookup a = some o → H a = none
def tgK (K : PySem.W.Frag) (tg : Tg) : TG := fun v σ H Q => kfs K H → tgT K tg v σ H Q
section
variable {g : Gx} {fs : List FS} {Bn : Addr → Prop} {Ow : List Addr} {H : Hp} {σ : St} {Γ Γ' : Ct}
theorem comp_core {own : List Nat} {tg : Tg} {ik : IK} {its cond : List E} {elt : E} {r : RV} {Q : VK} (rs : RS g Bn Ow H σ Γ) (he : ev fs (.comp own tg ik its cond elt) Γ = some (r, Γ'))
    (hQ : ∀ v H' Ow', Stp Ow H Ow' H' → RS g Bn Ow' H' σ Γ' → Val g Bn Ow' H' σ Γ' r v → Q v H') :
    tLc (tI g fs ik its) (tgK g.K tg) (tTc g fs cond) (tR g fs elt) own σ H (fun v H' => kfs g.K H' → Q v H') := by
  simp only [ev] at he
  obtain ⟨⟨xs, Γ1⟩, e1, he⟩ := Option.bind_eq_some_iff.mp he
  obtain ⟨⟨ds, Γ2⟩, e2, he⟩ := Option.bind_eq_some_iff.mp he
  simp only [Option.ite_none_right_eq_some, Bool.and_eq_true, decide_eq_true_eq] at he
  obtain ⟨⟨⟨hp, hz⟩, htg⟩, he⟩ := he
  obtain ⟨⟨acc, Γ3⟩, e3, he⟩ := Option.map_eq_some_iff.mp he
  simp only [Prod.mk.injEq] at he
  obtain ⟨rfl, rfl⟩ := he
  refine ⟨Bn, Ow, Γ, xs, Γ1, ds, Γ2, rs, e1, e2, fun J H1 O1 s1 r1 wk Dl hD => ?_⟩
  have nbD : ¬ Bn Dl := fun z => r1.trk Dl (.inl z) hD
  have tgO : ∀ i, i ∉ own → i ∉ tgIx tg := fun i hi z => by
    have := List.all_eq_true.mp htg i z
    simp only [List.contains_eq_mem, decide_eq_true_eq] at this
    exact hi this
  let Cn : Nat → Hp → Prop := fun i H => g.K.lookup Dl = none → ∃ O Γi acci vs, Stp O1 H1 O H ∧ RS g (orB Bn Dl) O H (L2.wipe σ own) Γi ∧ H Dl = some (.lst vs) ∧ vs.length ≤ i ∧ Reps g (Av (orB Bn Dl) O) H acci vs ∧ compLoop own tg (evc fs cond) (ev fs elt) (ds.drop i) acci Γi = some (acc, Γ3)
  let U : Nat → Hp → Prop := fun i H => (∀ a o, H1 a = some o → nT o → a ∉ O1 → H a = some o) ∧ ∃ vs, H Dl = some (.lst vs)
  refine ⟨fun i m H => m = ds.length - i ∧ i ≤ ds.length ∧ U i H ∧ Cn i H, ⟨ds.length, by simp, Nat.zero_le _, ⟨fun a o h _ _ => by rw [upd_ne (ne_of_none h hD)]; exact h, [], upd_same⟩, fun hk => ?_⟩, ?_⟩
  · exact ⟨O1, _, [], [], (Stp.refl O1 H1).updN hD, (r1.wipe own).addB (same_new hD) hD (.inl ⟨_, upd_same⟩) hk, upd_same, Nat.le_refl _, by simp only [Reps], e3⟩
  rintro i m H ⟨rfl, hi, ⟨hU1, vs0, hU2⟩, hC⟩
  by_cases hlt : i < ds.length
  · refine .inr ⟨wk.go i H hlt hU1, fun H' => U (i + 1) H' ∧ Cn (i + 1) H', fun H' q => ⟨ds.length - (i + 1), by omega, rfl, hlt, q.1, q.2⟩, fun x H' y kf => ?_⟩
    have sm := wk.same i H x H' y
    have hk : g.K.lookup Dl = none := kf_new kf (sm _ _ hU2)
    obtain ⟨O, Γi, acci, vs, st, r2, hDl, hvl, rp, lp⟩ := hC hk
    have ed : ds[i]? = some ds[i] := List.getElem?_eq_getElem hlt
    have edr : ds.drop i = ds[i] :: ds.drop (i + 1) := List.drop_eq_getElem_cons hlt
    rw [edr] at lp
    simp only [compLoop] at lp
    obtain ⟨G1, a1, lp⟩ := Option.bind_eq_some_iff.mp lp
    obtain ⟨⟨b, G2⟩, a2, lp⟩ := Option.bind_eq_some_iff.mp lp
    obtain ⟨_, rx⟩ := wk.yld i _ (orB Bn Dl) O H _ _ x H' ed (fun a z => .inl z) (fun a z => z.elim .inl fun z => .inr (by rw [z]; exact hD)) st r2 y
    have r2' := r2.same sm
    refine asgT_ok tg r2' rx a1 fun σ2 q1 q2 q3 => ?_
    have hw : L2.wipe σ2 own = L2.wipe σ own := by
      rw [← wipe_wipe σ own]
      exact wipe_same q2 fun j hj => q3 j (tgO j hj)
    refine ⟨hw, orB Bn Dl, O, G1, b, G2, q1, a2, fun H3 O3 s3 r3 => ?_⟩
    have st3 : Stp O1 H1 O3 H3 := (st.trans (Stp.same sm)).trans s3
    have dO : Dl ∉ O := r2.sep Dl (.inr rfl)
    have hDl3 : H3 Dl = some (.lst vs) := s3.keep _ _ (sm _ _ hDl) dO
    have rp3 : Reps g (Av (orB Bn Dl) O3) H3 acci vs := (rp.same sm).step s3 r3
    cases b with
    | false =>
      simp only [Bool.false_eq_true, if_false, Option.ite_none_right_eq_some] at lp ⊢
      obtain ⟨_, lp⟩ := lp
      refine ⟨⟨fun a o h t n => st3.keep0 a o h t n, vs, hDl3⟩, fun _ => ⟨O3, _, acci, vs, st3, ?_, hDl3, by omega, rp3, lp⟩⟩
      have := r3.wipe own
      rw [hw] at this
      exact this
    | true =>
      simp only [if_true] at lp ⊢
      obtain ⟨⟨ye, G3⟩, a3, lp⟩ := Option.bind_eq_some_iff.mp lp
      obtain ⟨⟨e, G4⟩, a4, lp⟩ := Option.bind_eq_some_iff.mp lp
      simp only [Option.ite_none_right_eq_some] at lp
      obtain ⟨_, lp⟩ := lp
      refine ⟨orB Bn Dl, O3, G2, ye, G3, r3, a3, fun y4 H4 O4 s4 r4 v4 => ?_⟩
      obtain ⟨O5, s5, r5, p5⟩ := fre_ok r4 v4 a4
      have dO3 : Dl ∉ O3 := r3.sep Dl (.inr rfl)
      have hDl4 : H4 Dl = some (.lst vs) := s4.keep _ _ hDl3 dO3
      have st5 : Stp O1 H1 O5 H4 := (st3.trans s4).trans s5
      have rp5 : Reps g (Av (orB Bn Dl) O5) H4 acci vs := (rp3.step s4 r4).step s5 r5
      have st6 : Stp O1 H1 O5 (upd H4 Dl (.lst (vs ++ [y4]))) := st5.updN hD
      refine ⟨vs, hDl4, by omega, ⟨fun a o h t n => st6.keep0 a o h t n, vs ++ [y4], upd_same⟩, fun _ => ⟨O5, _, acci ++ [e], vs ++ [y4], st6, ?_, upd_same, by rw [List.length_append, List.length_singleton]; omega, ?_, lp⟩⟩
      · have := r5.wipe own
        rw [hw] at this
        exact this.updB (.inr rfl) (.inl ⟨_, upd_same⟩)
      · exact reps_mono (ban_vst (.inl (.inr rfl))) _ _ (rp5.app (Reps.one p5))
  · have e : i = ds.length := by omega
    subst e
    refine .inl ⟨wk.stop H hU1, fun kf => ?_⟩
    have hk : g.K.lookup Dl = none := kf_new kf hU2
    obtain ⟨O, Γi, acci, vs, st, r2, hDl, hvl, rp, lp⟩ := hC hk
    rw [List.drop_length] at lp
    simp only [compLoop, Option.some.injEq, Prod.mk.injEq] at lp
    obtain ⟨rfl, rfl⟩ := lp
    have r3 := r1.rest hp st (fun a z => z.elim .inl fun z => .inr (by rw [z]; exact hD)) r2
    have r4 := r3.unB nbD
    refine hQ _ H (Dl :: O) (s1.trans ⟨st.keep0, fun a h => ?_⟩) r4 ⟨Dl, rfl, List.mem_cons_self, ⟨vs, hDl, ?_⟩, fun j e h1 h2 => ?_⟩
    · rcases List.mem_cons.mp h with h | h
      · rw [h]; exact .inr (nw_none hD)
      · exact st.grow a h
    · refine reps_less (fun a z => ?_) rp
      rcases z with z | z
      · exact .inl (.inl z)
      · rcases List.mem_cons.mp z with z | z
        · exact .inl (.inr z)
        · exact .inr z
    · obtain ⟨a, e2, m2, _⟩ := r3.own j e h1
      rw [h2] at e2; cases e2
      exact r2.sep Dl (.inr rfl) m2
end
section
variable {X : Cx} {g : Gx} {fs : List FS}
theorem PG.kf {tg : Expr} {t : TG} (h : PG X tg t) : PG X tg (fun v σ H Q => kfs X.K H → t v σ H Q) := ⟨fun pins s σ H v u Q I r q => h.run pins s σ H v u Q I r (q (Inv.kf I))⟩
theorem PTs.weak {e : List Expr} {t t' : TT} (h : PTs X e t) (k : ∀ σ H Q, t' σ H Q → t σ H Q) : PTs X e t' := ⟨fun pins s σ H Q I q => h.run pins s σ H Q I (k σ H Q q)⟩
theorem c_nil : PTs X [] (tTc g fs []) := by
  refine PTs.weak pts_nil ?_
  rintro σ H Q ⟨Bn, Ow, Γ, t, Γ', rs, he, hQ⟩
  simp only [evc, Option.some.injEq, Prod.mk.injEq] at he
  obtain ⟨rfl, rfl⟩ := he
  exact hQ H Ow (.refl _ _) rs
theorem c_one {c : Expr} {ic : E} (h : PT X c (tT g fs ic)) : PTs X [c] (tTc g fs [ic]) := by
  refine PTs.weak (pts_one h) ?_
  rintro σ H Q ⟨Bn, Ow, Γ, t, Γ', rs, he, hQ⟩
  simp only [evc] at he
  obtain ⟨⟨x, Γ1⟩, e1, he⟩ := Option.bind_eq_some_iff.mp he
  obtain ⟨t', e2, he⟩ := Option.map_eq_some_iff.mp he
  simp only [Prod.mk.injEq] at he
  obtain ⟨rfl, rfl⟩ := he
  exact ⟨Bn, Ow, Γ, x, Γ1, t', rs, e1, e2, hQ⟩
theorem p_comp {elt tg iter : Expr} {ifs : List Expr} {scope : Scope} {own : List (Str × Nat)} {pos : Pos} {itg : Tg} {ik : IK} {its cond : List E} {ielt : E} (C : Cok g X) (hi : PI X tg iter (tI g fs ik its)) (ok : BlkOk X.N X.env.scope scope own)
    (hg : ∀ (s : Shared) (H : Hp) (C : Addr) (cl : List (Str × Addr)) (fp : List Addr), PG (X.blk s H scope (compEnvC scope cl C X.env) fp) tg (tgT g.K itg)) (ht : ∀ (s : Shared) (H : Hp) (C : Addr) (cl : List (Str × Addr)) (fp : List Addr), PTs (X.blk s H scope (compEnvC scope cl C X.env) fp) ifs (tTc g fs cond))
    (he : ∀ (s : Shared) (H : Hp) (C : Addr) (cl : List (Str × Addr)) (fp : List Addr), PE (X.blk s H scope (compEnvC scope cl C X.env) fp) elt (tR g fs ielt)) (hs : ∀ x, foldedSetIterable iter X.env x = pure x) :
    PE X (.ListComp elt [⟨tg, iter, ifs, 0⟩] scope pos) (tR g fs (.comp (own.map (·.2)) itg ik its cond ielt)) := by
  refine PE.weak (PE.kf (pe_lc (g := tgK g.K itg) C.calm C.nd hi ok (fun s H Ca cl fp => ?_) ht he hs)) ?_
  · have := PG.kf (hg s H Ca cl fp)
    exact ⟨fun pins s σ H v u Q I r q => this.run pins s σ H v u Q I r fun kf => q fun a o e => kf a o (by show X.K.lookup a = some o; rw [C.K]; exact e)⟩
  · rintro σ H Q ⟨Bn, Ow, Γ, r, Γ', rs, he, hQ⟩
    have q := comp_core rs he hQ
    rw [C.K]
    exact q
end
end DV

namespace DV
open PySem L2
variable {Wx : L2.XK}
def Pin (pv : Nat × List (Nat × V)) (σ : St) : Prop := σ.length = pv.1 ∧ ∀ p ∈ pv.2, σ[p.1]? = some (some p.2)
def Post (g : Gx) (Wx : L2.XK) (Dn : Ends) (pv : Nat × List (Nat × V)) (Bn : Addr → Prop) (Ow : List Addr) (H : Hp) : Out → Prop
  | .nx Γ' => ∀ σ' H' Ow', Stp Ow H Ow' H' → RS g Bn Ow' H' σ' Γ' → Pin pv σ' → Dn.nx σ' H'
  | .bk Γ' => ∀ σ' H' Ow', Stp Ow H Ow' H' → RS g Bn Ow' H' σ' Γ' → Pin pv σ' → Dn.bk σ' H'
  | .ct Γ' => ∀ σ' H' Ow', Stp Ow H Ow' H' → RS g Bn Ow' H' σ' Γ' → Pin pv σ' → Dn.ct σ' H'
  | .rt r Γ' => ∀ v σ' H' Ow', Stp Ow H Ow' H' → RS g Bn Ow' H' σ' Γ' → Pin pv σ' → Val g Bn Ow' H' σ' Γ' r v → Dn.rt v H'
  | .xc c ks ds Γ' => ∀ d σ' H' Ow', Stp Ow H Ow' H' → RS g Bn Ow' H' σ' Γ' → Pin pv σ' → Rep g (Av Bn Ow') H' (.exc c ks ds) (.ref d) → Wx (.ref (g.cl c)) (some d) H'
def tSt (g : Gx) (Wx : L2.XK) (fs : List FS) (is : S) : TS := fun Dn σ H => ∃ pv Bn Ow Γ o, RS g Bn Ow H σ Γ ∧ Pin pv σ ∧ ex fs (pv.2.map (·.1)) is Γ = some o ∧ Post g Wx Dn pv Bn Ow H o
def tSs (g : Gx) (Wx : L2.XK) (fs : List FS) (is : List S) : TS := fun Dn σ H => ∃ pv Bn Ow Γ o, RS g Bn Ow H σ Γ ∧ Pin pv σ ∧ exs fs (pv.2.map (·.1)) is Γ = some o ∧ Post g Wx Dn pv Bn Ow H o
section
variable {X : Cx} {g : Gx} {fs : List FS} {st : Stmt} {pos : Pos}
theorem PS.weak {t t' : TS} (h : PS X st t) (k : ∀ Dn σ H, t' Dn σ H → t Dn σ H) : PS X st t' := ⟨fun pins s σ H Dn I q => h.run pins s σ H Dn I (k Dn σ H q)⟩
theorem PSs.weak {ss : List Stmt} {t t' : TS} (h : PSs X ss t) (k : ∀ Dn σ H, t' Dn σ H → t Dn σ H) : PSs X ss t' := ⟨fun pins s σ H Dn I q => h.run pins s σ H Dn I (k Dn σ H q)⟩
theorem PS.kf {t : TS} (h : PS X st t) : PS X st (fun Dn σ H => t { nx := fun σ H => kfs X.K H → Dn.nx σ H, rt := fun v H => kfs X.K H → Dn.rt v H, bk := fun σ H => kfs X.K H → Dn.bk σ H, ct := fun σ H => kfs X.K H → Dn.ct σ H } σ H) := ⟨fun pins s σ H Dn I q => thn (h.run pins s σ H _ I q) fun f s1 r => by
  cases f with
  | next => obtain ⟨a, b, I1, c⟩ := r; exact ⟨a, b, I1, c (Inv.kf I1)⟩
  | brk => obtain ⟨a, b, I1, c⟩ := r; exact ⟨a, b, I1, c (Inv.kf I1)⟩
  | cont => obtain ⟨a, b, I1, c⟩ := r; exact ⟨a, b, I1, c (Inv.kf I1)⟩
  | ret v => obtain ⟨x, a, b, I1, r1, c⟩ := r; exact ⟨x, a, b, I1, r1, c (Inv.kf I1)⟩⟩
section
variable {Bn : Addr → Prop} {Ow Ow' : List Addr} {H H' : Hp} {σ : St} {Γ Γ' : Ct} {Dn : Ends} {pv : Nat × List (Nat × V)}
theorem Post.step {o : Out} (h : Post g Wx Dn pv Bn Ow H o) (s : Stp Ow H Ow' H') : Post g Wx Dn pv Bn Ow' H' o := by
  cases o with
  | nx G => exact fun σ1 H1 O1 s1 r p => h σ1 H1 O1 (s.trans s1) r p
  | bk G => exact fun σ1 H1 O1 s1 r p => h σ1 H1 O1 (s.trans s1) r p
  | ct G => exact fun σ1 H1 O1 s1 r p => h σ1 H1 O1 (s.trans s1) r p
  | rt r G => exact fun v σ1 H1 O1 s1 r p => h v σ1 H1 O1 (s.trans s1) r p
  | xc c ks ds G => exact fun v σ1 H1 O1 s1 r p => h v σ1 H1 O1 (s.trans s1) r p
theorem Pin.set {i : Nat} {v : Option V} (h : Pin pv σ) (d : disjB [i] (pv.2.map (·.1)) = true) : Pin pv (σ.set i v) := ⟨by rw [List.length_set]; exact h.1, fun p hp => by
  rw [List.getElem?_set_ne]
  · exact h.2 p hp
  · intro z
    simp only [disjB, List.all_cons, List.all_nil, Bool.and_true, Bool.not_eq_true', List.contains_eq_mem, decide_eq_false_iff_not] at d
    exact d (by rw [z]; exact List.mem_map.mpr ⟨p, hp, rfl⟩)⟩
theorem Pin.keep {σ' : St} {xs : List Nat} (h : Pin pv σ) (d : disjB xs (pv.2.map (·.1)) = true) (hl : σ'.length = σ.length) (k : ∀ i, i ∉ xs → σ'[i]? = σ[i]?) : Pin pv σ' := ⟨hl.trans h.1, fun p hp => by
  rw [k]
  · exact h.2 p hp
  · intro z
    have := List.all_eq_true.mp d _ z
    simp only [Bool.not_eq_true', List.contains_eq_mem, decide_eq_false_iff_not] at this
    exact this (List.mem_map.mpr ⟨p, hp, rfl⟩)⟩
/-- an owned list is rewritten -/
theorem RS.mut {i : Nat} {c : D} {a : Addr} {ds : List D} {ws : List V} (rs : RS g Bn Ow H σ Γ) (hi : Γ[i]? = some (some (c, true))) (hs : σ[i]? = some (some (.ref a))) (r : Reps g (Av Bn Ow) H ds ws) :
    RS g Bn Ow (upd H a (.lst ws)) σ (Γ.set i (some (.lst ds, true))) ∧ Stp Ow H Ow (upd H a (.lst ws)) := by
  have hil : i < Γ.length := (List.getElem?_eq_some_iff.mp hi).1
  obtain ⟨b, e1, m, _⟩ := rs.own i _ hi
  rw [hs] at e1; cases e1
  have vs := ban_vst (g := g) (H := H) (o := .lst ws) (A := Av Bn Ow) (p := a) (.inr m)
  refine ⟨⟨by rw [List.length_set]; exact rs.len, fun j e h => ?_, fun j e h => ?_, fun j k e f b h1 h2 h3 h4 => ?_, fun b h => ?_, rs.sep, rs.kf, rs.tabs.upd (rs.trl a (.inr m))⟩, ⟨fun b o h _ n => ?_, fun _ h => .inl h⟩⟩
  · have hj : i ≠ j := fun z => by subst z; rw [List.getElem?_set_self hil] at h; cases h
    rw [List.getElem?_set_ne hj] at h
    obtain ⟨v, e1, r1⟩ := rs.slot j e h
    exact ⟨v, e1, rep_mono vs _ _ r1⟩
  · by_cases hj : i = j
    · subst hj
      rw [List.getElem?_set_self hil] at h; cases h
      exact ⟨a, hs, m, ws, upd_same, reps_mono vs _ _ r⟩
    · rw [List.getElem?_set_ne hj] at h
      obtain ⟨b, e1, m1, o1⟩ := rs.own j e h
      have nb : b ≠ a := fun z => hj (by subst z; exact rs.dist i j _ _ _ hi h hs e1)
      refine ⟨b, e1, m1, ?_⟩
      cases e with
      | lst es => obtain ⟨us, e2, r2⟩ := o1; exact ⟨us, by rw [upd_ne nb]; exact e2, reps_mono vs _ _ r2⟩
      | obj c ks es => obtain ⟨dx, us, l, e2, r2⟩ := o1; exact ⟨dx, us, l, by rw [upd_ne nb]; exact e2, reps_mono vs _ _ r2⟩
      | _ => exact o1
  · have ex : ∀ (j : Nat) e, (Γ.set i (some (.lst ds, true)))[j]? = some (some (e, true)) → ∃ e', Γ[j]? = some (some (e', true)) := fun j e h => by
      by_cases hj : i = j
      · subst hj; exact ⟨_, hi⟩
      · rw [List.getElem?_set_ne hj] at h; exact ⟨_, h⟩
    obtain ⟨e', h1⟩ := ex j e h1
    obtain ⟨f', h2⟩ := ex k f h2
    exact rs.dist j k _ _ _ h1 h2 h3 h4
  · exact (rs.trl b h).upd fun _ => .inl ⟨_, upd_same⟩
  · have z : b ≠ a := fun z => n (by rw [z]; exact m)
    rw [upd_ne z]; exact h
end
/-! ### simple statements -/
theorem s_pass : PS X (.Pass pos) (tSt g Wx fs .pass) := by
  refine PS.weak ps_pass ?_
  rintro Dn σ H ⟨pv, Bn, Ow, Γ, o, rs, pn, he, po⟩
  simp only [ex, Option.some.injEq] at he; subst he
  exact po σ H Ow (.refl _ _) rs pn
theorem s_doc {x j pos'} : PS X (.Expr (.Constant (.str x) j pos) pos') (tSt g Wx fs .pass) := by
  refine PS.weak ps_doc ?_
  rintro Dn σ H ⟨pv, Bn, Ow, Γ, o, rs, pn, he, po⟩
  simp only [ex, Option.some.injEq] at he; subst he
  exact po σ H Ow (.refl _ _) rs pn
theorem s_brk : PS X (.Break pos) (tSt g Wx fs .brk) := by
  refine PS.weak ps_break ?_
  rintro Dn σ H ⟨pv, Bn, Ow, Γ, o, rs, pn, he, po⟩
  simp only [ex, Option.some.injEq] at he; subst he
  exact po σ H Ow (.refl _ _) rs pn
theorem s_cont : PS X (.Continue pos) (tSt g Wx fs .cont) := by
  refine PS.weak ps_continue ?_
  rintro Dn σ H ⟨pv, Bn, Ow, Γ, o, rs, pn, he, po⟩
  simp only [ex, Option.some.injEq] at he; subst he
  exact po σ H Ow (.refl _ _) rs pn
theorem s_retN : PS X (.Return none pos) (tSt g Wx fs .retN) := by
  refine PS.weak ps_retN ?_
  rintro Dn σ H ⟨pv, Bn, Ow, Γ, o, rs, pn, he, po⟩
  simp only [ex, Option.some.injEq] at he; subst he
  exact po .non σ H Ow (.refl _ _) rs pn (show Rep g _ _ _ _ by simp only [Rep])
theorem s_stuck : PS X st (tSt g Wx fs .stuck) := by
  refine PS.weak ps_never ?_
  rintro Dn σ H ⟨pv, Bn, Ow, Γ, o, rs, pn, he, po⟩
  simp only [ex, reduceCtorEq] at he
theorem s_expr {e : Expr} {ie : E} (h : PE X e (tR g fs ie)) (hs : swapsWith e none pos.line X.env = pure false) : PS X (.Expr e pos) (tSt g Wx fs (.expr ie)) := by
  refine PS.weak (ps_expr h hs) ?_
  rintro Dn σ H ⟨pv, Bn, Ow, Γ, o, rs, pn, he, po⟩
  simp only [ex] at he
  obtain ⟨⟨x, Γ1⟩, e1, rfl⟩ := Option.map_eq_some_iff.mp he
  exact ⟨Bn, Ow, Γ, x, Γ1, rs, e1, fun v H1 O1 s1 r1 _ => po σ H1 O1 s1 r1 pn⟩
theorem s_ret {e : Expr} {ie : E} (h : PE X e (tR g fs ie)) : PS X (.Return (some e) pos) (tSt g Wx fs (.ret ie)) := by
  refine PS.weak (ps_ret h) ?_
  rintro Dn σ H ⟨pv, Bn, Ow, Γ, o, rs, pn, he, po⟩
  simp only [ex] at he
  obtain ⟨⟨x, Γ1⟩, e1, rfl⟩ := Option.map_eq_some_iff.mp he
  exact ⟨Bn, Ow, Γ, x, Γ1, rs, e1, fun v H1 O1 s1 r1 vl => po v σ H1 O1 s1 r1 pn vl⟩
theorem asg_core {tg : Tg} {ie : E} {Dn : Ends} {σ : St} {H : Hp} (h : tSt g Wx fs (.asg tg ie) Dn σ H) : tAsg (tR g fs ie) (tgT g.K tg) Dn σ H := by
  obtain ⟨pv, Bn, Ow, Γ, o, rs, pn, he, po⟩ := h
  simp only [ex] at he
  obtain ⟨⟨x, Γ1⟩, e1, he⟩ := Option.bind_eq_some_iff.mp he
  obtain ⟨⟨d, Γ2⟩, e2, he⟩ := Option.bind_eq_some_iff.mp he
  simp only [Option.ite_none_right_eq_some] at he
  obtain ⟨dj, he⟩ := he
  obtain ⟨Γ3, e3, rfl⟩ := Option.map_eq_some_iff.mp he
  refine ⟨Bn, Ow, Γ, x, Γ1, rs, e1, fun v H1 O1 s1 r1 vl => ?_⟩
  obtain ⟨O2, s2, r2, p2⟩ := fre_ok r1 vl e2
  exact asgT_ok tg r2 p2 e3 fun σ' q1 q2 q3 => po σ' H1 O2 (s1.trans s2) q1 (pn.keep dj q2 q3)
theorem s_asg {tg e : Expr} {itg : Tg} {ie : E} (h : PE X e (tR g fs ie)) (hg : PG X tg (tgT g.K itg)) (hs : swapsWithSole [tg] e pos.line X.env = pure false) (hw : swappedStores [tg] e X.env = pure none)
    (h1 : (assignEach [tg] X.env).map (·.2) = [assign tg X.env]) : PS X (.Assign [tg] e pos) (tSt g Wx fs (.asg itg ie)) := PS.weak (ps_asg h hg hs hw h1) fun _ _ _ => asg_core
theorem asgO_core {i : Nat} {ie : E} {Dn : Ends} {σ : St} {H : Hp} {te : TE} (hte : ∀ Q, tR g fs ie σ H Q → te σ H Q) (h : tSt g Wx fs (.asgO i ie) Dn σ H) : tAsg te (gName i) Dn σ H := by
  obtain ⟨pv, Bn, Ow, Γ, o, rs, pn, he, po⟩ := h
  simp only [ex] at he
  obtain ⟨⟨x, Γ1⟩, e1, he⟩ := Option.bind_eq_some_iff.mp he
  refine hte _ ⟨Bn, Ow, Γ, x, Γ1, rs, e1, fun v H1 O1 s1 r1 vl => ?_⟩
  have plain : ∀ {o : Out}, ((fre Γ1 x).bind fun (p : D × Ct) => if i < p.2.length ∧ disjB [i] (pv.2.map (·.1)) = true then some (Out.nx (p.2.set i (some (p.1, false)))) else none) = some o → Post g Wx Dn pv Bn Ow H o → gName i v σ H1 Dn.nx := fun {o} he po => by
    obtain ⟨⟨d, Γ2⟩, e2, he⟩ := Option.bind_eq_some_iff.mp he
    simp only [Option.ite_none_right_eq_some, Option.some.injEq] at he
    obtain ⟨⟨hi, dj⟩, rfl⟩ := he
    obtain ⟨O2, s2, r2, p2⟩ := fre_ok r1 vl e2
    exact po _ H1 O2 (s1.trans s2) (r2.set p2 hi) (pn.set dj)
  cases x with
  | nw d =>
    simp only [Option.ite_none_right_eq_some, Option.some.injEq] at he
    obtain ⟨⟨hi, dj⟩, rfl⟩ := he
    exact po _ H1 O1 s1 (r1.setO vl hi) (pn.set dj)
  | fz d => exact plain he po
  | sl j => exact plain he po
theorem s_asgO {i : Nat} {y : Str} {e : Expr} {ie : E} {pos' : Pos} (C : Cok0 g X) (hi : X.N[i]? = some y) (hx : Loc X.env.scope y) (h : PE X e (tR g fs ie)) (hs : swapsWith e (some (.Name y pos')) pos.line X.env = pure false) (hf : X.fn y = true ∨ X.env.scope.names.lookup y = some .local) :
    PS X (.Assign [.Name y pos'] e pos) (tSt g Wx fs (.asgO i ie)) := PS.weak (ps_set C.nd hi hx h hs hf) fun _ _ _ q => asgO_core (fun _ q => q) q
theorem s_setLc {i : Nat} {y : Str} {py : Pos} {elt tg iter : Expr} {ifs : List Expr} {scope : Scope} {own : List (Str × Nat)} {pos spos : Pos} {itg : Tg} {ik : IK} {its cond : List E} {ielt : E} (C : Cok g X) (hy : X.N[i]? = some y) (hyl : X.env.scope.names.lookup y = some .local)
    (hsw : swapsWith (.ListComp elt [⟨tg, iter, ifs, 0⟩] scope pos) (some (.Name y py)) spos.line X.env = pure true) (hi : PI X tg iter (tI g fs ik its)) (ok : BlkOk X.N X.env.scope scope own)
    (hg : ∀ (s : Shared) (H : Hp) (C : Addr) (cl : List (Str × Addr)) (fp : List Addr), PG (X.blk s H scope (compEnvC scope cl C X.env) fp) tg (tgT g.K itg)) (ht : ∀ (s : Shared) (H : Hp) (C : Addr) (cl : List (Str × Addr)) (fp : List Addr), PTs (X.blk s H scope (compEnvC scope cl C X.env) fp) ifs (tTc g fs cond))
    (he : ∀ (s : Shared) (H : Hp) (C : Addr) (cl : List (Str × Addr)) (fp : List Addr), PE (X.blk s H scope (compEnvC scope cl C X.env) fp) elt (tR g fs ielt)) (hs : ∀ x, foldedSetIterable iter X.env x = pure x) :
    PS X (.Assign [.Name y py] (.ListComp elt [⟨tg, iter, ifs, 0⟩] scope pos) spos) (tSt g Wx fs (.asgO i (.comp (own.map (·.2)) itg ik its cond ielt))) := by
  refine PS.weak (PS.kf (ps_setLc (g := tgK g.K itg) C.calm C.nd hy hyl hsw hi ok (fun s H Ca cl fp => ?_) ht he hs)) ?_
  · have := PG.kf (hg s H Ca cl fp)
    exact ⟨fun pins s σ H v u Q I r q => this.run pins s σ H v u Q I r fun kf => q fun a o e => kf a o (by show X.K.lookup a = some o; rw [C.K]; exact e)⟩
  · intro Dn σ H q
    have := asgO_core (te := fun σ H Q => tLc (tI g fs ik its) (tgK g.K itg) (tTc g fs cond) (tR g fs ielt) (own.map (·.2)) σ H (fun v H' => kfs g.K H' → Q v H')) (fun Q ⟨Bn, Ow, Γ, r, Γ', rs, he, hQ⟩ => comp_core rs he hQ) q
    rw [C.K]
    exact this
theorem s_ite {c : Expr} {a b : List Stmt} {ic : E} {ia ib : List S} (hc : PT X c (tT g fs ic)) (ha : PSs X a (tSs g Wx fs ia)) (hb : PSs X b (tSs g Wx fs ib)) : PS X (.If c a b pos) (tSt g Wx fs (.ite ic ia ib)) := by
  refine PS.weak (ps_if hc ha hb) ?_
  rintro Dn σ H ⟨pv, Bn, Ow, Γ, o, rs, pn, he, po⟩
  simp only [ex] at he
  obtain ⟨⟨x, Γ1⟩, e1, he⟩ := Option.bind_eq_some_iff.mp he
  obtain ⟨t, e2, he⟩ := Option.bind_eq_some_iff.mp he
  refine ⟨Bn, Ow, Γ, x, Γ1, t, rs, e1, e2, fun H1 O1 s1 r1 => ?_⟩
  cases t with
  | true => rw [if_pos rfl] at he ⊢; exact ⟨pv, Bn, O1, Γ1, o, r1, pn, he, po.step s1⟩
  | false => rw [if_neg Bool.false_ne_true] at he ⊢; exact ⟨pv, Bn, O1, Γ1, o, r1, pn, he, po.step s1⟩
theorem ss_nil : PSs X [] (tSs g Wx fs []) := by
  refine PSs.weak pss_nil ?_
  rintro Dn σ H ⟨pv, Bn, Ow, Γ, o, rs, pn, he, po⟩
  simp only [exs, Option.some.injEq] at he; subst he
  exact po σ H Ow (.refl _ _) rs pn
theorem ss_cons {rest : List Stmt} {a : S} {b : List S} (h1 : PS X st (tSt g Wx fs a)) (h2 : PSs X rest (tSs g Wx fs b)) : PSs X (st :: rest) (tSs g Wx fs (a :: b)) := by
  refine PSs.weak (pss_cons h1 h2) ?_
  rintro Dn σ H ⟨pv, Bn, Ow, Γ, o, rs, pn, he, po⟩
  simp only [exs] at he
  obtain ⟨o1, e1, he⟩ := Option.bind_eq_some_iff.mp he
  refine ⟨pv, Bn, Ow, Γ, o1, rs, pn, e1, ?_⟩
  cases o1 with
  | nx G => exact fun σ1 H1 O1 s1 r1 p1 => ⟨pv, Bn, O1, G, o, r1, p1, he, po.step s1⟩
  | bk G => simp only [Option.some.injEq] at he; subst he; exact po
  | ct G => simp only [Option.some.injEq] at he; subst he; exact po
  | rt r G => simp only [Option.some.injEq] at he; subst he; exact po
  | xc c ks ds G => simp only [Option.some.injEq] at he; subst he; exact po
theorem s_whl {c : Expr} {b : List Stmt} {ic : E} {ib : List S} (hp : PassesOwn (model X.prog X.w) X.A X.env X.xe) (hc : PT X c (tT g fs ic)) (hb : PSs X b (tSs g Wx fs ib)) : PS X (.While c b [] pos) (tSt g Wx fs (.whl ic ib)) := by
  refine PS.weak (ps_while hp hc hb) ?_
  rintro Dn σ H ⟨pv, Bn, Ow, Γ, o, rs, pn, he, po⟩
  simp only [ex] at he
  let W : Nat → St → Hp → Prop := fun m σ1 H1 => ∃ O1 Γ1, Stp Ow H O1 H1 ∧ RS g Bn O1 H1 σ1 Γ1 ∧ Pin pv σ1 ∧ whlLoop (fun Γ => (ev fs ic Γ).bind fun (x, Γ1) => (testD Γ1 x).map fun t => (t, Γ1)) (exs fs (pv.2.map (·.1)) ib) m Γ1 = some o
  refine ⟨W, ⟨fuel, Ow, Γ, .refl _ _, rs, pn, he⟩, ?_⟩
  rintro m σ1 H1 ⟨O1, Γ1, s1, r1, p1, l1⟩
  cases m with
  | zero => simp only [whlLoop, reduceCtorEq] at l1
  | succ n =>
    simp only [whlLoop] at l1
    obtain ⟨⟨t, Γ2⟩, e2, l1⟩ := Option.bind_eq_some_iff.mp l1
    obtain ⟨⟨x, Γ3⟩, e3, e2⟩ := Option.bind_eq_some_iff.mp e2
    obtain ⟨t', e4, e2⟩ := Option.map_eq_some_iff.mp e2
    simp only [Prod.mk.injEq] at e2
    obtain ⟨rfl, rfl⟩ := e2
    refine ⟨Bn, O1, Γ1, x, Γ3, t', r1, e3, e4, fun H2 O2 s2 r2 => ?_⟩
    cases t' with
    | false =>
      simp only [Bool.false_eq_true, if_false, Option.some.injEq] at l1 ⊢
      subst l1
      exact po σ1 H2 O2 (s1.trans s2) r2 p1
    | true =>
      simp only [if_true] at l1 ⊢
      obtain ⟨o1, e5, l1⟩ := Option.bind_eq_some_iff.mp l1
      refine ⟨fun σ' H' => W n σ' H', fun σ' H' w => ⟨n, Nat.lt_succ_self n, w⟩, pv, Bn, O2, Γ3, o1, r2, p1, e5, ?_⟩
      cases o1 with
      | nx G => exact fun σ4 H4 O4 s4 r4 p4 => ⟨O4, G, (s1.trans s2).trans s4, r4, p4, l1⟩
      | ct G => exact fun σ4 H4 O4 s4 r4 p4 => ⟨O4, G, (s1.trans s2).trans s4, r4, p4, l1⟩
      | bk G =>
        simp only [Option.some.injEq] at l1; subst l1
        exact fun σ4 H4 O4 s4 r4 p4 => po σ4 H4 O4 ((s1.trans s2).trans s4) r4 p4
      | rt r G =>
        simp only [Option.some.injEq] at l1; subst l1
        exact fun v σ4 H4 O4 s4 r4 p4 => po v σ4 H4 O4 ((s1.trans s2).trans s4) r4 p4
      | xc c ks ds G =>
        simp only [Option.some.injEq] at l1; subst l1
        exact fun v σ4 H4 O4 s4 r4 p4 => po v σ4 H4 O4 ((s1.trans s2).trans s4) r4 p4
theorem s_for {tg iter : Expr} {b : List Stmt} {itg : Tg} {ik : IK} {its : List E} {ib : List S} (C : Cok g X) (hp : PassesOwn (model X.prog X.w) X.A X.env X.xe) (hi : PI X tg iter (tI g fs ik its)) (hg : PG X tg (tgT g.K itg)) (hb : PSs X b (tSs g Wx fs ib)) (hs : ∀ x, foldedSetIterable iter X.env x = pure x) :
    PS X (.For tg iter b [] pos) (tSt g Wx fs (.for_ itg ik its ib)) := by
  refine PS.weak (ps_for hp C.calm hi hg hb hs) ?_
  rintro Dn σ H ⟨pv, Bn, Ow, Γ, o, rs, pn, he, po⟩
  simp only [ex] at he
  obtain ⟨⟨xs, Γ1⟩, e1, he⟩ := Option.bind_eq_some_iff.mp he
  obtain ⟨⟨ds, Γ2⟩, e2, he⟩ := Option.bind_eq_some_iff.mp he
  simp only [Option.ite_none_right_eq_some] at he
  obtain ⟨dj, he⟩ := he
  refine ⟨Bn, Ow, Γ, xs, Γ1, ds, Γ2, rs, e1, e2, fun J H1 O1 s1 r1 wk => ?_⟩
  let C1 : Nat → St → Hp → Prop := fun i σ2 H2 => ∃ O2 G2, Stp O1 H1 O2 H2 ∧ RS g Bn O2 H2 σ2 G2 ∧ Pin pv σ2 ∧ forLoop itg (exs fs (pv.2.map (·.1)) ib) (ds.drop i) G2 = some o
  refine ⟨fun i m σ2 H2 => m = ds.length - i ∧ i ≤ ds.length ∧ C1 i σ2 H2, ⟨ds.length, by simp, Nat.zero_le _, O1, Γ2, .refl _ _, r1, pn, he⟩, ?_⟩
  rintro i m σ2 H2 ⟨rfl, hle, O2, G2, s2, r2, p2, l2⟩
  by_cases hlt : i < ds.length
  · refine .inr ⟨wk.go i H2 hlt fun a o h t n => s2.keep0 a o h t n, fun σ' H' => C1 (i + 1) σ' H', fun σ' H' q => ⟨ds.length - (i + 1), by omega, rfl, hlt, q⟩, fun x H3 y => ?_⟩
    have edr : ds.drop i = ds[i] :: ds.drop (i + 1) := List.drop_eq_getElem_cons hlt
    rw [edr] at l2
    simp only [forLoop] at l2
    obtain ⟨G3, a1, l2⟩ := Option.bind_eq_some_iff.mp l2
    obtain ⟨o1, a2, l2⟩ := Option.bind_eq_some_iff.mp l2
    obtain ⟨sm, rx⟩ := wk.yld i _ Bn O2 H2 _ _ x H3 (List.getElem?_eq_getElem hlt) (fun a z => z) (fun a z => .inl z) s2 r2 y
    have s3 : Stp O1 H1 O2 H3 := s2.trans (Stp.same sm)
    refine asgT_ok itg (r2.same sm) rx a1 fun σ3 q1 q2 q3 => ⟨pv, Bn, O2, G3, o1, q1, p2.keep dj q2 q3, a2, ?_⟩
    cases o1 with
    | nx G => exact fun σ4 H4 O4 s4 r4 p4 => ⟨O4, G, s3.trans s4, r4, p4, l2⟩
    | ct G => exact fun σ4 H4 O4 s4 r4 p4 => ⟨O4, G, s3.trans s4, r4, p4, l2⟩
    | bk G =>
      simp only [Option.some.injEq] at l2; subst l2
      exact fun σ4 H4 O4 s4 r4 p4 => po σ4 H4 O4 (s1.trans (s3.trans s4)) r4 p4
    | rt r G =>
      simp only [Option.some.injEq] at l2; subst l2
      exact fun v σ4 H4 O4 s4 r4 p4 => po v σ4 H4 O4 (s1.trans (s3.trans s4)) r4 p4
    | xc c ks ds G =>
      simp only [Option.some.injEq] at l2; subst l2
      exact fun v σ4 H4 O4 s4 r4 p4 => po v σ4 H4 O4 (s1.trans (s3.trans s4)) r4 p4
  · have e : i = ds.length := by omega
    subst e
    rw [List.drop_length] at l2
    simp only [forLoop, Option.some.injEq] at l2
    subst l2
    exact .inl ⟨wk.stop H2 fun a o h t n => s2.keep0 a o h t n, po σ2 H2 O2 (s1.trans s2) r2 p2⟩
end
end DV

namespace DV
open PySem L2
variable {Wx : L2.XK}
section
variable {X : Cx} {g : Gx} {fs : List FS} {st : Stmt} {pos : Pos} {Bn : Addr → Prop} {Ow Ow' : List Addr} {H H' : Hp} {σ : St} {Γ Γ' : Ct}
theorem isLst_ty {i : Nat} (rs : RS g Bn Ow H σ Γ) (h : isLst Γ i = true) : ∃ a, σ[i]? = some (some (.ref a)) ∧ tyV g.K "list" (.ref a) H := by
  unfold isLst at h
  split at h
  · rename_i ds b q
    cases b with
    | false =>
      obtain ⟨v, e1, r1⟩ := rs.slot i _ q
      simp only [Rep] at r1
      obtain ⟨a, vs, rfl, _, s, _⟩ := r1
      exact ⟨a, e1, .inl ⟨rfl, vs, .inl (.inl s)⟩⟩
    | true =>
      obtain ⟨a, e1, _, vs, s, _⟩ := rs.own i _ q
      exact ⟨a, e1, .inl ⟨rfl, vs, .inl (.inl s)⟩⟩
  · cases h
theorem s_app {o e : Expr} {i : Nat} {ie : E} {apos cpos : Pos} (C : Cok0 g X) (ho : PE X o (tVar i)) (he : PE X e (tR g fs ie)) (hbase : attributeBase o "append" X.env (eval o X.env) = eval o X.env)
    (hline : (apos.endLine == cpos.line) = true) (hs : starEach [e] X.env = [(false, eval e X.env)]) (hsw : swapsWith (.Call (.Attribute o "append" apos) [e] [] cpos) none pos.line X.env = pure false) :
    PS X (.Expr (.Call (.Attribute o "append" apos) [e] [] cpos) pos) (tSt g Wx fs (.app i ie)) := by
  refine PS.weak (ps_expr (pe_bm PySem.F.plainAttrs_list PySem.F.slot_list_append PySem.F.type_list_append mt_append ho (pa_cons he pa_nil (by rw [hs]; rfl)) hbase (by rw [hs]; rfl) hline (by rw [hs]; rfl) rfl) hsw) ?_
  rintro Dn σ H ⟨pv, Bn, Ow, Γ, o, rs, pn, he, po⟩
  simp only [ex, Option.ite_none_right_eq_some] at he
  obtain ⟨hl, he⟩ := he
  obtain ⟨⟨x, Γ1⟩, e1, he⟩ := Option.bind_eq_some_iff.mp he
  obtain ⟨⟨d, Γ2⟩, e2, he⟩ := Option.bind_eq_some_iff.mp he
  obtain ⟨a, ea, ty⟩ := isLst_ty rs hl
  refine ⟨_, ea, by rw [C.K]; exact ty, Bn, Ow, Γ, x, Γ1, rs, e1, fun v H1 O1 s1 r1 vl => ?_⟩
  obtain ⟨O2, s2, r2, p2⟩ := fre_ok r1 vl e2
  split at he
  · rename_i c q
    obtain ⟨c', e3, rfl⟩ := Option.map_eq_some_iff.mp he
    obtain ⟨b, eb, m, ow⟩ := r2.own i _ q
    rw [ea] at eb; cases eb
    cases c <;> simp only [appD, reduceCtorEq, Option.ite_none_right_eq_some, Option.some.injEq] at e3
    rename_i xs
    obtain ⟨hz, rfl⟩ := e3
    obtain ⟨vs, hv, rp⟩ := ow
    obtain ⟨r3, s3⟩ := r2.mut q ea (rp.app (Reps.one p2))
    exact ⟨a, vs, v, rfl, rfl, hv, by rw [← rp.len]; exact hz, po _ _ O2 ((s1.trans s2).trans s3) r3 pn⟩
  · cases he
theorem s_ext {o e : Expr} {i : Nat} {ie : E} {apos cpos : Pos} (C : Cok0 g X) (ho : PE X o (tVar i)) (he : PE X e (tR g fs ie)) (hbase : attributeBase o "extend" X.env (eval o X.env) = eval o X.env)
    (hline : (apos.endLine == cpos.line) = true) (hs : starEach [e] X.env = [(false, eval e X.env)]) (hsw : swapsWith (.Call (.Attribute o "extend" apos) [e] [] cpos) none pos.line X.env = pure false) :
    PS X (.Expr (.Call (.Attribute o "extend" apos) [e] [] cpos) pos) (tSt g Wx fs (.ext i ie)) := by
  refine PS.weak (ps_expr (pe_bm PySem.F.plainAttrs_list PySem.F.slot_list_extend PySem.F.type_list_extend mt_extend ho (pa_cons he pa_nil (by rw [hs]; rfl)) hbase (by rw [hs]; rfl) hline (by rw [hs]; rfl) rfl) hsw) ?_
  rintro Dn σ H ⟨pv, Bn, Ow, Γ, o, rs, pn, he, po⟩
  simp only [ex, Option.ite_none_right_eq_some] at he
  obtain ⟨hl, he⟩ := he
  obtain ⟨⟨x, Γ1⟩, e1, he⟩ := Option.bind_eq_some_iff.mp he
  obtain ⟨d, e2, he⟩ := Option.bind_eq_some_iff.mp he
  obtain ⟨a, ea, ty⟩ := isLst_ty rs hl
  refine ⟨_, ea, by rw [C.K]; exact ty, Bn, Ow, Γ, x, Γ1, rs, e1, fun v H1 O1 s1 r1 vl => ?_⟩
  have rd := vl.rdb r1 e2
  split at he
  · rename_i c q
    obtain ⟨c', e3, rfl⟩ := Option.map_eq_some_iff.mp he
    obtain ⟨b, eb, m, ow⟩ := r1.own i _ q
    rw [ea] at eb; cases eb
    cases c <;> simp only [extD, reduceCtorEq] at e3
    cases d <;> simp only [extD, reduceCtorEq, Option.ite_none_right_eq_some, Option.some.injEq] at e3
    obtain ⟨hz, rfl⟩ := e3
    obtain ⟨vs, hv, rp⟩ := ow
    obtain ⟨b, ws, rfl, hw, rq⟩ := rd
    obtain ⟨r3, s3⟩ := r1.mut q ea (rp.app rq)
    exact ⟨a, b, vs, ws, rfl, rfl, hv, hw, by rw [← rp.len, ← rq.len]; exact hz, po _ _ O1 (s1.trans s3) r3 pn⟩
  · cases he
theorem s_seti {o k e : Expr} {i : Nat} {ik ie : E} {tpos : Pos} (C : Cok0 g X) (ho : PE X o (tVar i)) (hk : PE X k (tR g fs ik)) (he : PE X e (tR g fs ie)) (hs : swapsWithSole [.Subscript o k tpos] e pos.line X.env = pure false) (hw : swappedStores [.Subscript o k tpos] e X.env = pure none)
    (h1 : (assignEach [.Subscript o k tpos] X.env).map (·.2) = [assign (.Subscript o k tpos) X.env])
    (ha : ∀ v, assign (.Subscript o k tpos) X.env v = (do
      let ov ← holding [v] (eval o X.env)
      let iv ← holding [v, ov] (eval k X.env)
      standAt tpos
      holding [v, ov, iv] (setItem ov iv v)
      release [v, ov, iv] [])) : PS X (.Assign [.Subscript o k tpos] e pos) (tSt g Wx fs (.seti i ik ie)) := by
  refine PS.weak (ps_asg he (pg_sub ho hk set_list ha) hs hw h1) ?_
  rintro Dn σ H ⟨pv, Bn, Ow, Γ, o, rs, pn, he, po⟩
  simp only [ex] at he
  obtain ⟨⟨x, Γ1⟩, e1, he⟩ := Option.bind_eq_some_iff.mp he
  obtain ⟨⟨d, Γ2⟩, e2, he⟩ := Option.bind_eq_some_iff.mp he
  simp only [Option.ite_none_right_eq_some] at he
  obtain ⟨hil, he⟩ := he
  obtain ⟨⟨y, Γ3⟩, e3, he⟩ := Option.bind_eq_some_iff.mp he
  obtain ⟨kd, e4, he⟩ := Option.bind_eq_some_iff.mp he
  refine ⟨Bn, Ow, Γ, x, Γ1, rs, e1, fun v H1 O1 s1 r1 vl => ?_⟩
  obtain ⟨O2, s2, r2, p2⟩ := fre_ok r1 vl e2
  split at he
  · rename_i c q
    obtain ⟨c', e5, rfl⟩ := Option.map_eq_some_iff.mp he
    obtain ⟨a, ea, _⟩ := isLst_ty r2 hil
    refine ⟨_, ea, Bn, O2, Γ2, y, Γ3, r2, e3, fun w H3 O3 s3 r3 v3 => ?_⟩
    have rd := v3.rdb r3 e4
    obtain ⟨b, eb, m, ow⟩ := r3.own i _ q
    rw [ea] at eb; cases eb
    cases c <;> simp only [setD, reduceCtorEq] at e5
    cases kd <;> simp only [setD, reduceCtorEq] at e5
    rename_i ki
    obtain ⟨j, e6, rfl⟩ := Option.map_eq_some_iff.mp e5
    obtain ⟨vs, hv, rp⟩ := ow
    have rd : w = .int ki := by simpa only [Rdb, Rep] using rd
    obtain ⟨r4, s4⟩ := r3.mut q ea (rp.set (p2.step s3 r3) j)
    exact ⟨a, vs, _, j, rfl, rd, hv, by rw [← rp.len]; exact e6, po _ _ O3 (((s1.trans s2).trans s3).trans s4) r4 pn⟩
  · cases he
/-! ### parallel assignment -/
def VlN (g : Gx) (Bn : Addr → Prop) (Ow : List Addr) (H : Hp) (σ : St) (Γ : Ct) : List RV → List V → Prop
  | [], vs => vs = []
  | x :: xs, vs => ∃ v r, vs = v :: r ∧ Val g Bn Ow H σ Γ x v ∧ (∀ d, x = .nw d → v ∉ r) ∧ (∀ i, x ≠ .sl i) ∧ VlN g Bn Ow H σ Γ xs r
def tAn (g : Gx) (fs : List FS) (is : List (Nat × Bool)) (es : List E) : TA := fun σ H Q => ∃ Bn Ow Γ xs Γ', RS g Bn Ow H σ Γ ∧ evn fs is es Γ = some (xs, Γ') ∧ ∀ vs H' Ow', Stp Ow H Ow' H' → RS g Bn Ow' H' σ Γ' → VlN g Bn Ow' H' σ Γ' xs vs → Q vs H'
theorem evn_nil {σ : St} {H : Hp} {Q : List V → Hp → Prop} : tAn g fs [] [] σ H Q → tNil σ H Q := by
  rintro ⟨Bn, Ow, Γ, xs, Γ', rs, he, hQ⟩
  simp only [evn, Option.some.injEq, Prod.mk.injEq] at he
  obtain ⟨rfl, rfl⟩ := he
  exact hQ [] H Ow (.refl _ _) rs rfl
theorem Rep.nav {A : Addr → Prop} {d : D} {a : Addr} (h0 : g.ea = none) (h : Rep g A H d (.ref a)) : ¬ A a := by
  cases d <;> simp only [Rep, reduceCtorEq] at h
  · obtain ⟨b, vs, e, n, _⟩ := h; cases e; exact n
  · obtain ⟨b, vs, e, n, _⟩ := h; cases e; exact n
  · obtain ⟨b, vs, ws, e, n, _⟩ := h; cases e; exact n
  · obtain ⟨b, e, n, _⟩ := h; cases e; exact n
  · obtain ⟨b, e, n, _⟩ := h; cases e; exact n
  · obtain ⟨b, vs, e, n, _⟩ := h; cases e; exact n
  · obtain ⟨b, vs, e, n, _⟩ := h; cases e; exact n
  · obtain ⟨e0, b, vs, e1, _⟩ := h; rw [h0] at e1; cases e1
theorem OwnA.step {d : D} {p : Addr} (o : OwnA g (Av Bn Ow) H d p) (np : p ∉ Ow) (s : Stp Ow H Ow' H') (rs : RS g Bn Ow' H' σ Γ) : OwnA g (Av Bn Ow') H' d p := by
  cases d with
  | lst es => obtain ⟨us, e2, r2⟩ := o; exact ⟨us, s.keep _ _ e2 np, r2.step s rs⟩
  | obj c ks es => obtain ⟨dx, us, l, e2, r2⟩ := o; exact ⟨dx, us, l, s.keep _ _ e2 np, r2.step s rs⟩
  | _ => exact o
theorem RS.ban {d : D} {p : Addr} (rs : RS g Bn Ow H σ Γ) (m : p ∈ Ow) (no : ∀ (i : Nat) e, Γ[i]? = some (some (e, true)) → σ[i]? ≠ some (some (.ref p))) : RS g (orB Bn p) (Ow.filter (fun x => decide (x ≠ p))) H σ Γ := by
  have k1 : ∀ a, Av (orB Bn p) (Ow.filter (fun x => decide (x ≠ p))) a → Av Bn Ow a := fun a z => by
    rcases z with (z | z) | z
    · exact .inl z
    · rw [z]; exact .inr m
    · exact .inr (mem_ne z).1
  refine ⟨rs.len, fun i d h => ?_, fun i d h => ?_, rs.dist, fun a h => rs.trl a (k1 a h), fun a h z => ?_, fun a h => rs.kf a (k1 a h), rs.tabs⟩
  · obtain ⟨v, e, r⟩ := rs.slot i d h; exact ⟨v, e, rep_less k1 r⟩
  · obtain ⟨a, e, ma, r⟩ := rs.own i d h
    exact ⟨a, e, ne_mem ma fun z => no i d h (by rw [e, z]), own_less k1 r⟩
  · rcases h with h | h
    · exact rs.sep a h (mem_ne z).1
    · exact (mem_ne z).2 h
theorem VlN.unB {p : Addr} : ∀ {xs : List RV} {vs : List V}, VlN g (orB Bn p) Ow H σ Γ xs vs → VlN g Bn (p :: Ow) H σ Γ xs vs
  | [], _, h => h
  | x :: xs, _, ⟨v, r, e, h1, h2, h3, h4⟩ => by
    refine ⟨v, r, e, ?_, h2, h3, VlN.unB h4⟩
    have k1 : ∀ a, Av Bn (p :: Ow) a → Av (orB Bn p) Ow a := fun a z => by
      rcases z with z | z
      · exact .inl (.inl z)
      · rcases List.mem_cons.mp z with z | z
        · exact .inl (.inr z)
        · exact .inr z
    cases x with
    | fz d => exact rep_less k1 h1
    | nw d => obtain ⟨a, e1, m1, o1, n1⟩ := h1; exact ⟨a, e1, List.mem_cons_of_mem _ m1, own_less k1 o1, n1⟩
    | sl i => exact h1
theorem VlN.nin {p : Addr} (h0 : g.ea = none) : ∀ {xs : List RV} {vs : List V}, VlN g Bn Ow H σ Γ xs vs → Bn p → (∀ a, Bn a → a ∉ Ow) → V.ref p ∉ vs
  | [], _, h, _, _ => by have h : _ = [] := h; subst h; simp
  | x :: xs, _, ⟨v, r, e, h1, h2, h3, h4⟩, hp, sp => by
    subst e
    intro z
    rcases List.mem_cons.mp z with z | z
    · subst z
      cases x with
      | fz d => exact Rep.nav h0 h1 (.inl hp)
      | nw d => obtain ⟨a, e1, m1, _⟩ := h1; cases e1; exact sp p hp m1
      | sl i => exact h3 i rfl
    · exact VlN.nin h0 h4 hp sp z
theorem an_nil : PA X [] (tAn g fs [] []) := PA.weak pa_nil fun _ _ _ q => evn_nil q
theorem an_cons {a : Expr} {es : List Expr} {ia : E} {ies : List E} {i : Nat} {b : Bool} {is : List (Nat × Bool)} (C : Cok g X) (ha : PE X a (tR g fs ia)) (hr : PA X es (tAn g fs is ies)) (hs : starEach (a :: es) X.env = (false, eval a X.env) :: starEach es X.env) : PA X (a :: es) (tAn g fs ((i, b) :: is) (ia :: ies)) := by
  refine PA.weak (pa_cons ha hr hs) ?_
  rintro σ H Q ⟨Bn, Ow, Γ, xs, Γ', rs, he, hQ⟩
  simp only [evn] at he
  obtain ⟨⟨x, Γ1⟩, e1, he⟩ := Option.bind_eq_some_iff.mp he
  refine ⟨Bn, Ow, Γ, x, Γ1, rs, e1, fun v H1 O1 s1 r1 vl => ?_⟩
  have plain : ((fre Γ1 x).bind fun (p : D × Ct) => (evn fs is ies p.2).map fun (q : List RV × Ct) => (RV.fz p.1 :: q.1, q.2)) = some (xs, Γ') → tAn g fs is ies σ H1 (fun vs H2 => Q (v :: vs) H2) := fun he => by
    obtain ⟨⟨d, Γ2⟩, e2, he⟩ := Option.bind_eq_some_iff.mp he
    obtain ⟨⟨ys, Γ3⟩, e3, he⟩ := Option.map_eq_some_iff.mp he
    simp only [Prod.mk.injEq] at he
    obtain ⟨rfl, rfl⟩ := he
    obtain ⟨O2, s2, r2, p2⟩ := fre_ok r1 vl e2
    exact ⟨Bn, O2, Γ2, ys, Γ3, r2, e3, fun vs H3 O3 s3 r3 v3 => hQ (v :: vs) H3 O3 ((s1.trans s2).trans s3) r3 ⟨v, vs, rfl, p2.step s3 r3, nofun, nofun, v3⟩⟩
  cases b with
  | false => cases x <;> exact plain he
  | true =>
    cases x with
    | fz d => exact plain he
    | sl i => exact plain he
    | nw d =>
      obtain ⟨⟨ys, Γ3⟩, e3, he⟩ := Option.map_eq_some_iff.mp he
      simp only [Prod.mk.injEq] at he
      obtain ⟨rfl, rfl⟩ := he
      obtain ⟨p, rfl, m, ow, no⟩ := vl
      have r2 := r1.ban (d := d) m no
      have nb : ¬ Bn p := fun z => r1.sep p z m
      have np : p ∉ O1.filter (fun x => decide (x ≠ p)) := fun z => (mem_ne z).2 rfl
      have ow2 : OwnA g (Av (orB Bn p) (O1.filter (fun x => decide (x ≠ p)))) H1 d p := own_less (fun a z => by
        rcases z with (z | z) | z
        · exact .inl z
        · rw [z]; exact .inr m
        · exact .inr (mem_ne z).1) ow
      refine ⟨orB Bn p, _, Γ1, ys, Γ3, r2, e3, fun vs H3 O3 s3 r3 v3 => hQ (.ref p :: vs) H3 (p :: O3) (s1.trans ⟨fun a o h t n => s3.keep0 a o h t fun z => n (mem_ne z).1, fun a h => ?_⟩) (r3.unB nb) ⟨.ref p, vs, rfl, ⟨p, rfl, List.mem_cons_self, ?_, fun j e h1 h2 => ?_⟩, fun _ _ => VlN.nin C.ea v3 (.inr rfl) r3.sep, nofun, v3.unB⟩⟩
      · rcases List.mem_cons.mp h with h | h
        · rw [h]; exact .inl m
        · rcases s3.grow a h with z | z
          · exact .inl (mem_ne z).1
          · exact .inr z
      · exact own_less (fun a z => by
          rcases z with z | z
          · exact .inl (.inl z)
          · rcases List.mem_cons.mp z with z | z
            · exact .inl (.inr z)
            · exact .inr z) (ow2.step np s3 r3)
      · obtain ⟨b, e2, m2, _⟩ := r3.own j e h1
        rw [h2] at e2; cases e2
        exact r3.sep p (.inr rfl) m2
theorem VlW.unB {p : Addr} : ∀ {xs : List RV} {vs : List V}, VlW g (orB Bn p) Ow H σ Γ xs vs → VlW g Bn (p :: Ow) H σ Γ xs vs
  | [], _, h => h
  | x :: xs, _, ⟨v, r, e, h1, h2, h4⟩ => by
    refine ⟨v, r, e, ?_, h2, VlW.unB h4⟩
    have k1 : ∀ a, Av Bn (p :: Ow) a → Av (orB Bn p) Ow a := fun a z => by
      rcases z with z | z
      · exact .inl (.inl z)
      · rcases List.mem_cons.mp z with z | z
        · exact .inl (.inr z)
        · exact .inr z
    cases x with
    | fz d => exact rep_less k1 h1
    | nw d => obtain ⟨a, e1, m1, o1, n1⟩ := h1; exact ⟨a, e1, List.mem_cons_of_mem _ m1, own_less k1 o1, n1⟩
    | sl i => exact h1
theorem aw_nil : PA X [] (tAw g fs []) := by
  refine PA.weak pa_nil ?_
  rintro σ H Q ⟨Bn, Ow, Γ, xs, Γ', rs, he, hQ⟩
  simp only [evs, Option.some.injEq, Prod.mk.injEq] at he
  obtain ⟨rfl, rfl⟩ := he
  exact hQ [] H Ow (.refl _ _) rs rfl
theorem aw_split {ia : E} {ies : List E} {σ : St} {H : Hp} {Q : List V → Hp → Prop} (h : tAw g fs (ia :: ies) σ H Q) : tR g fs ia σ H fun v H1 => tAw g fs ies σ H1 fun vs H2 => Q (v :: vs) H2 := by
  obtain ⟨Bn, Ow, Γ, xs, Γ', rs, he, hQ⟩ := h
  simp only [evs] at he
  obtain ⟨⟨x, Γ1⟩, e1, he⟩ := Option.bind_eq_some_iff.mp he
  obtain ⟨⟨ys, Γ3⟩, e3, he⟩ := Option.map_eq_some_iff.mp he
  simp only [Prod.mk.injEq] at he
  obtain ⟨rfl, rfl⟩ := he
  refine ⟨Bn, Ow, Γ, x, Γ1, rs, e1, fun v H1 O1 s1 r1 vl => ?_⟩
  cases x with
  | fz d => exact ⟨Bn, O1, Γ1, ys, Γ3, r1, e3, fun vs H3 O3 s3 r3 v3 => hQ (v :: vs) H3 O3 (s1.trans s3) r3 ⟨v, vs, rfl, Val.step (r := .fz d) vl s3 r3, nofun, v3⟩⟩
  | sl i => exact ⟨Bn, O1, Γ1, ys, Γ3, r1, e3, fun vs H3 O3 s3 r3 v3 => hQ (v :: vs) H3 O3 (s1.trans s3) r3 ⟨v, vs, rfl, vl, nofun, v3⟩⟩
  | nw d =>
    obtain ⟨p, rfl, m, ow, no⟩ := vl
    have r2 := r1.ban (d := d) m no
    have nb : ¬ Bn p := fun z => r1.sep p z m
    have np : p ∉ O1.filter (fun x => decide (x ≠ p)) := fun z => (mem_ne z).2 rfl
    have ow2 : OwnA g (Av (orB Bn p) (O1.filter (fun x => decide (x ≠ p)))) H1 d p := own_less (fun a z => by
      rcases z with (z | z) | z
      · exact .inl z
      · rw [z]; exact .inr m
      · exact .inr (mem_ne z).1) ow
    refine ⟨orB Bn p, _, Γ1, ys, Γ3, r2, e3, fun vs H3 O3 s3 r3 v3 => hQ (.ref p :: vs) H3 (p :: O3) (s1.trans ⟨fun a o h t n => s3.keep0 a o h t fun z => n (mem_ne z).1, fun a h => ?_⟩) (r3.unB nb) ⟨.ref p, vs, rfl, ⟨p, rfl, List.mem_cons_self, ?_, fun j e h1 h2 => ?_⟩, fun _ _ j e h1 h2 => ?_, v3.unB⟩⟩
    · rcases List.mem_cons.mp h with h | h
      · rw [h]; exact .inl m
      · rcases s3.grow a h with z | z
        · exact .inl (mem_ne z).1
        · exact .inr z
    · exact own_less (fun a z => by
        rcases z with z | z
        · exact .inl (.inl z)
        · rcases List.mem_cons.mp z with z | z
          · exact .inl (.inr z)
          · exact .inr z) (ow2.step np s3 r3)
    · obtain ⟨b, e2, m2, _⟩ := r3.own j e h1
      rw [h2] at e2; cases e2
      exact r3.sep p (.inr rfl) m2
    · obtain ⟨w, h3, h4⟩ := v3.get h1
      rw [h2] at h3; cases h3
      obtain ⟨b, e4, m4, _⟩ := h4
      cases e4
      exact r3.sep p (.inr rfl) m4
theorem aw_cons {a : Expr} {es : List Expr} {ia : E} {ies : List E} (ha : PE X a (tR g fs ia)) (hr : PA X es (tAw g fs ies)) (hs : starEach (a :: es) X.env = (false, eval a X.env) :: starEach es X.env) : PA X (a :: es) (tAw g fs (ia :: ies)) := 
  PA.weak (pa_cons ha hr hs) fun _ _ _ h => aw_split h
def setsV (σ : St) : List (Nat × Bool) → List V → St
  | (i, _) :: is, v :: vs => setsV (σ.set i (some v)) is vs
  | _, _ => σ
theorem VlN.set {i : Nat} {d : D} {b : Bool} {v : V} (hi : i < Γ.length) (hs : i < σ.length) : ∀ {xs : List RV} {vs : List V}, v ∉ vs ∨ b = false → VlN g Bn Ow H σ Γ xs vs → VlN g Bn Ow H (σ.set i (some v)) (Γ.set i (some (d, b))) xs vs
  | [], _, _, h => h
  | x :: xs, _, n, ⟨w, r, e, h1, h2, h3, h4⟩ => by
    subst e
    refine ⟨w, r, rfl, ?_, h2, h3, VlN.set hi hs (n.imp (fun n z => n (List.mem_cons_of_mem _ z)) id) h4⟩
    cases x with
    | fz d => exact h1
    | nw d =>
      obtain ⟨a, e1, m1, o1, n1⟩ := h1
      refine ⟨a, e1, m1, o1, fun j e q1 q2 => ?_⟩
      by_cases hj : i = j
      · subst hj
        rw [List.getElem?_set_self hi] at q1
        rw [List.getElem?_set_self hs] at q2
        cases q1; cases q2; cases e1
        exact n.elim (fun n => n List.mem_cons_self) nofun
      · rw [List.getElem?_set_ne hj] at q1 q2
        exact n1 j e q1 q2
    | sl i => exact (h3 i rfl).elim
theorem parS_ok {pv : Nat × List (Nat × V)} : ∀ {is : List (Nat × Bool)} {xs : List RV} {vs : List V} {σ : St} {Γ Γ' : Ct}, RS g Bn Ow H σ Γ → VlN g Bn Ow H σ Γ xs vs → parS is xs Γ = some Γ' → Pin pv σ → disjB (is.map (·.1)) (pv.2.map (·.1)) = true → RS g Bn Ow H (setsV σ is vs) Γ' ∧ Pin pv (setsV σ is vs)
  | [], [], vs, σ, Γ, Γ', rs, _, e, pn, _ => by
    simp only [parS, Option.some.injEq] at e; subst e
    exact ⟨by unfold setsV; exact rs, by unfold setsV; exact pn⟩
  | [], x :: xs, vs, σ, Γ, Γ', rs, _, e, pn, _ => by simp only [parS, reduceCtorEq] at e
  | (i, b) :: is, [], vs, σ, Γ, Γ', rs, _, e, pn, _ => by simp only [parS, reduceCtorEq] at e
  | (i, b) :: is, x :: xs, _, σ, Γ, Γ', rs, ⟨v, r, rfl, h1, h2, h3, h4⟩, e, pn, dj => by
    have d1 : disjB [i] (pv.2.map (·.1)) = true ∧ disjB (is.map (·.1)) (pv.2.map (·.1)) = true := by
      simp only [disjB, List.map_cons, List.all_cons, Bool.and_eq_true] at dj
      exact ⟨by simp only [disjB, List.all_cons, List.all_nil, Bool.and_true]; exact dj.1, dj.2⟩
    cases x with
    | sl j => exact (h3 j rfl).elim
    | fz d =>
      simp only [parS, Option.ite_none_right_eq_some] at e
      obtain ⟨hi, e⟩ := e
      exact parS_ok (σ := σ.set i (some v)) (rs.set h1 hi) (h4.set hi (by rw [rs.len]; exact hi) (.inr rfl)) e (pn.set d1.1) d1.2
    | nw d =>
      simp only [parS, Option.ite_none_right_eq_some] at e
      obtain ⟨hi, e⟩ := e
      exact parS_ok (σ := σ.set i (some v)) (rs.setO h1 hi) (h4.set hi (by rw [rs.len]; exact hi) (.inl (h2 d rfl))) e (pn.set d1.1) d1.2
theorem parS_len : ∀ {is : List (Nat × Bool)} {xs : List RV} {Γ Γ' : Ct}, parS is xs Γ = some Γ' → is.length = xs.length
  | [], [], _, _, _ => rfl
  | [], x :: xs, Γ, Γ', e => by simp only [parS, reduceCtorEq] at e
  | (i, b) :: is, [], Γ, Γ', e => by simp only [parS, reduceCtorEq] at e
  | (i, b) :: is, .sl j :: xs, Γ, Γ', e => by simp only [parS, reduceCtorEq] at e
  | (i, b) :: is, .fz d :: xs, Γ, Γ', e => by
    simp only [parS, Option.ite_none_right_eq_some] at e
    rw [List.length_cons, List.length_cons, parS_len e.2]
  | (i, b) :: is, .nw d :: xs, Γ, Γ', e => by
    simp only [parS, Option.ite_none_right_eq_some] at e
    rw [List.length_cons, List.length_cons, parS_len e.2]
theorem VlN.len : ∀ {xs : List RV} {vs : List V}, VlN g Bn Ow H σ Γ xs vs → xs.length = vs.length
  | [], _, h => by have h : _ = [] := h; subst h; rfl
  | x :: xs, _, ⟨v, r, e, _, _, _, h2⟩ => by subst e; rw [List.length_cons, List.length_cons, h2.len]
theorem par_core {is : List (Nat × Bool)} {es : List E} {Dn : Ends} {σ : St} {H : Hp} (h : tSt g Wx fs (.par is es) Dn σ H) : tAn g fs is es σ H fun vs H1 => vs.length = is.length ∧ Dn.nx (setsV σ is vs) H1 := by
  obtain ⟨pv, Bn, Ow, Γ, o, rs, pn, he, po⟩ := h
  simp only [ex, Option.ite_none_right_eq_some] at he
  obtain ⟨dj, he⟩ := he
  obtain ⟨⟨ys, Γ2⟩, e1, he⟩ := Option.bind_eq_some_iff.mp he
  obtain ⟨Γ3, e2, rfl⟩ := Option.map_eq_some_iff.mp he
  refine ⟨Bn, Ow, Γ, ys, Γ2, rs, e1, fun vs H1 O1 s1 r1 v1 => ⟨by rw [parS_len e2, v1.len], ?_⟩⟩
  obtain ⟨r2, p2⟩ := parS_ok r1 v1 e2 pn dj
  exact po _ H1 O1 s1 r2 p2
theorem s_par2 {i j : Nat} {bi bj : Bool} {x y : Str} {a b : Expr} {ia ib : E} {px py pt : Pos} {kt k2 pt2} (C : Cok g X) (hi : X.N[i]? = some x) (hj : X.N[j]? = some y) (hij : i ≠ j)
    (hx : X.env.scope.names.lookup x = some .local) (hy : X.env.scope.names.lookup y = some .local) (ha : PA X [a, b] (tAn g fs [(i, bi), (j, bj)] [ia, ib]))
    (hw : swappedStores [.Tuple [.Name x px, .Name y py] kt pt] (.Tuple [a, b] k2 pt2) X.env = pure (some [x, y]))
    (hs : swapsWithSole [.Tuple [.Name x px, .Name y py] kt pt] (.Tuple [a, b] k2 pt2) pos.line X.env = pure false) :
    PS X (.Assign [.Tuple [.Name x px, .Name y py] kt pt] (.Tuple [a, b] k2 pt2) pos) (tSt g Wx fs (.par [(i, bi), (j, bj)] [ia, ib])) := by
  refine PS.weak (ps_par C.calm C.nd hi hj hij hx hy ha hw hs) ?_
  intro Dn σ H q
  obtain ⟨Bn, Ow, Γ, xs, Γ', rs, he, hQ⟩ := par_core q
  refine ⟨Bn, Ow, Γ, xs, Γ', rs, he, fun vs H1 O1 s1 r1 v1 => ?_⟩
  obtain ⟨hl, q⟩ := hQ vs H1 O1 s1 r1 v1
  obtain ⟨v, w, rfl⟩ : ∃ v w, vs = [v, w] := by
    match vs, hl with
    | [v, w], _ => exact ⟨v, w, rfl⟩
  exact ⟨v, w, rfl, q⟩
theorem s_par3 {i j l : Nat} {bi bj bl : Bool} {x y z : Str} {a b c : Expr} {ia ib ic : E} {px py pz pt : Pos} {kt k2 pt2} (C : Cok g X) (hi : X.N[i]? = some x) (hj : X.N[j]? = some y) (hl : X.N[l]? = some z) (hij : i ≠ j) (hil : i ≠ l) (hjl : j ≠ l)
    (hx : X.env.scope.names.lookup x = some .local) (hy : X.env.scope.names.lookup y = some .local) (hz : X.env.scope.names.lookup z = some .local) (ha : PA X [a, b, c] (tAn g fs [(i, bi), (j, bj), (l, bl)] [ia, ib, ic]))
    (hw : swappedStores [.Tuple [.Name x px, .Name y py, .Name z pz] kt pt] (.Tuple [a, b, c] k2 pt2) X.env = pure (some [x, y, z]))
    (hs : swapsWithSole [.Tuple [.Name x px, .Name y py, .Name z pz] kt pt] (.Tuple [a, b, c] k2 pt2) pos.line X.env = pure false) :
    PS X (.Assign [.Tuple [.Name x px, .Name y py, .Name z pz] kt pt] (.Tuple [a, b, c] k2 pt2) pos) (tSt g Wx fs (.par [(i, bi), (j, bj), (l, bl)] [ia, ib, ic])) := by
  refine PS.weak (ps_par3 C.calm C.nd hi hj hl hij hil hjl hx hy hz ha hw hs) ?_
  intro Dn σ H q
  obtain ⟨Bn, Ow, Γ, xs, Γ', rs, he, hQ⟩ := par_core q
  refine ⟨Bn, Ow, Γ, xs, Γ', rs, he, fun vs H1 O1 s1 r1 v1 => ?_⟩
  obtain ⟨hl, q⟩ := hQ vs H1 O1 s1 r1 v1
  obtain ⟨u, v, w, rfl⟩ : ∃ u v w, vs = [u, v, w] := by
    match vs, hl with
    | [u, v, w], _ => exact ⟨u, v, w, rfl⟩
  exact ⟨u, v, w, rfl, q⟩
end
end DV

namespace DV
open PySem L2
variable {Wx : L2.XK}
theorem Cok.blk {g : Gx} {X : Cx} (C : Cok g X) (s : Shared) (H : Hp) (scope : Scope) (ce : Env) (fp : List Addr) : Cok g (X.blk s H scope ce fp) := ⟨C.K, C.calm, C.hu, C.nd, C.ea⟩
theorem part0 {g : Gx} {fs : List FS} {X : Cx} : Part g fs X none [] := ⟨.inl ⟨rfl, rfl⟩⟩
theorem part1 {g : Gx} {fs : List FS} {X : Cx} {a : Expr} {ia : E} (h : PE X a (tR g fs ia)) : Part g fs X (some a) [ia] := ⟨.inr ⟨a, ia, rfl, rfl, h⟩⟩
section
variable {g : Gx} {Bn : Addr → Prop} {Ow Ow' : List Addr} {H H' : Hp} {σ : St} {Γ Γ' : Ct}
theorem ownPs_mem : ∀ {G : Ct} {n i : Nat}, i ∈ ownPs n G ↔ ∃ j d, i = n + j ∧ G[j]? = some (some (d, true))
  | [], n, i => by simp [ownPs]
  | none :: r, n, i => by
    simp only [ownPs]
    rw [ownPs_mem]
    constructor
    · rintro ⟨j, d, rfl, h⟩; exact ⟨j + 1, d, by omega, by simpa using h⟩
    · rintro ⟨j, d, rfl, h⟩
      cases j with
      | zero => simp at h
      | succ j => exact ⟨j, d, by omega, by simpa using h⟩
  | some (c, false) :: r, n, i => by
    simp only [ownPs]
    rw [ownPs_mem]
    constructor
    · rintro ⟨j, d, rfl, h⟩; exact ⟨j + 1, d, by omega, by simpa using h⟩
    · rintro ⟨j, d, rfl, h⟩
      cases j with
      | zero => simp at h
      | succ j => exact ⟨j, d, by omega, by simpa using h⟩
  | some (c, true) :: r, n, i => by
    simp only [ownPs, List.mem_cons]
    rw [ownPs_mem]
    constructor
    · rintro (rfl | ⟨j, d, rfl, h⟩)
      · exact ⟨0, c, rfl, rfl⟩
      · exact ⟨j + 1, d, by omega, by simpa using h⟩
    · rintro ⟨j, d, rfl, h⟩
      cases j with
      | zero => exact .inl rfl
      | succ j => exact .inr ⟨j, d, by omega, by simpa using h⟩
theorem outsOf_len : ∀ {G G' : Ct}, G.length ≤ G'.length → (outsOf G G').length = G.length
  | [], G', _ => by cases G' <;> simp [outsOf]
  | x :: r, [], h => by simp at h
  | x :: r, y :: s, h => by
    have ih := outsOf_len (G := r) (G' := s) (by simpa using h)
    match x with
    | some (_, true) => simp [outsOf, ih]
    | some (_, false) => simp [outsOf, ih]
    | none => simp [outsOf, ih]
theorem outsOf_get : ∀ {G G' : Ct} {i : Nat} {p : D × Bool}, (outsOf G G')[i]? = some (some p) → (OwS G i ∧ G'[i]? = some (some p)) ∨ (¬ OwS G i ∧ G[i]? = some (some p))
  | [], G', i, p, h => by cases G' <;> simp [outsOf] at h
  | x :: r, [], i, p, h => by match x with
    | some (_, true) => simp [outsOf] at h
    | some (_, false) => simp [outsOf] at h
    | none => simp [outsOf] at h
  | x :: r, y :: s, 0, p, h => by
    match x with
    | some (d, true) => simp [outsOf] at h; exact .inl ⟨⟨d, rfl⟩, by simp [h]⟩
    | some (d, false) => simp [outsOf] at h; exact .inr ⟨by rintro ⟨e, he⟩; simp at he, by simp [h]⟩
    | none => simp [outsOf] at h
  | x :: r, y :: s, i + 1, p, h => by
    have h' : (outsOf r s)[i]? = some (some p) := by
      match x with
      | some (d, true) => simpa [outsOf] using h
      | some (d, false) => simpa [outsOf] using h
      | none => simpa [outsOf] using h
    rcases outsOf_get h' with ⟨⟨e, h1⟩, h2⟩ | ⟨h1, h2⟩
    · exact .inl ⟨⟨e, by simpa using h1⟩, by simpa using h2⟩
    · exact .inr ⟨by rintro ⟨e, he⟩; exact h1 ⟨e, by simpa using he⟩, by simpa using h2⟩
/-- what comes back at the parameters -/
theorem outs_ok {vs : List V} {G0 : Ct} (r0 : RS g Bn Ow H (vs.map some) G0) (st : Stp Ow H Ow' H') (r1 : RS g Bn Ow' H' σ Γ) (hl : G0.length ≤ Γ.length) (pn : ∀ i, OwS G0 i → σ[i]? = (vs.map some)[i]?) : RS g Bn Ow' H' (vs.map some) (outsOf G0 Γ) := by
  refine ⟨by rw [outsOf_len hl]; exact r0.len, fun i d h => ?_, fun i d h => ?_, fun i j d e a h1 h2 h3 h4 => ?_, r1.trl, r1.sep, r1.kf, r1.tabs⟩
  · rcases outsOf_get h with ⟨o, h1⟩ | ⟨_, h1⟩
    · obtain ⟨v, e, r⟩ := r1.slot i d h1
      exact ⟨v, by rw [← pn i o]; exact e, r⟩
    · obtain ⟨v, e, r⟩ := r0.slot i d h1
      exact ⟨v, e, r.step st r1⟩
  · rcases outsOf_get h with ⟨o, h1⟩ | ⟨n, h1⟩
    · obtain ⟨v, e, r⟩ := r1.own i d h1
      exact ⟨v, by rw [← pn i o]; exact e, r⟩
    · exact (n ⟨d, h1⟩).elim
  · rcases outsOf_get h1 with ⟨o1, h1⟩ | ⟨n, h1⟩
    · rcases outsOf_get h2 with ⟨o2, h2⟩ | ⟨n, h2⟩
      · exact r1.dist i j d e a h1 h2 (by rw [pn i o1]; exact h3) (by rw [pn j o2]; exact h4)
      · exact (n ⟨e, h2⟩).elim
    · exact (n ⟨d, h1⟩).elim
theorem RS.start {vs : List V} {G0 : Ct} (k : Nat) (r0 : RS g Bn Ow H (vs.map some) G0) : RS g Bn Ow H (vs.map some ++ List.replicate k none) (G0 ++ List.replicate k none) := by
  have low : ∀ {i : Nat} {p : D × Bool}, (G0 ++ List.replicate k none)[i]? = some (some p) → G0[i]? = some (some p) ∧ (vs.map some ++ List.replicate k none)[i]? = (vs.map some)[i]? := fun {i p} h => by
    rw [List.getElem?_append] at h
    split at h
    · rename_i hi
      refine ⟨h, ?_⟩
      rw [List.getElem?_append_left (by rw [r0.len]; exact hi)]
    · rw [List.getElem?_replicate] at h
      split at h <;> cases h
  refine ⟨by rw [List.length_append, List.length_append, r0.len, List.length_replicate, List.length_replicate], fun i d h => ?_, fun i d h => ?_, fun i j d e a h1 h2 h3 h4 => ?_, r0.trl, r0.sep, r0.kf, r0.tabs⟩
  · obtain ⟨h1, h2⟩ := low h
    rw [h2]
    exact r0.slot i d h1
  · obtain ⟨h1, h2⟩ := low h
    rw [h2]
    exact r0.own i d h1
  · obtain ⟨p1, p2⟩ := low h1
    obtain ⟨q1, q2⟩ := low h2
    exact r0.dist i j d e a p1 q1 (by rw [← p2]; exact h3) (by rw [← q2]; exact h4)
theorem finish_ok {vs : List V} {G0 : Ct} {n : Nat} {o : Out} {r : RV} {os : Ct} {Q : VK} (r0 : RS g Bn Ow H (vs.map some) G0) (hn : G0.length ≤ n) (hf : finish G0.length G0 o = some (r, os))
    (hQ : ∀ v H' Ow', Stp Ow H Ow' H' → RS g Bn Ow' H' (vs.map some) os → Val g Bn Ow' H' (vs.map some) os r v → Q v H') :
    Post g Wx { nx := fun _ H' => Q .non H', rt := Q } (n, (ownPs 0 G0).map fun i => (i, vs.getD i .non)) Bn Ow H o := by
  have pin : ∀ {σ' : St}, Pin (n, (ownPs 0 G0).map fun i => (i, vs.getD i .non)) σ' → ∀ i, OwS G0 i → σ'[i]? = (vs.map some)[i]? := fun {σ'} pn i ⟨d, h⟩ => by
    have := pn.2 (i, vs.getD i .non) (List.mem_map.mpr ⟨i, ownPs_mem.mpr ⟨i, d, by omega, h⟩, rfl⟩)
    have hi : i < vs.length := by
      have h1 := (List.getElem?_eq_some_iff.mp h).1
      have h2 := r0.len
      rw [List.length_map] at h2
      omega
    rw [this, List.getElem?_map, List.getElem?_eq_getElem hi, List.getD_eq_getElem?_getD, List.getElem?_eq_getElem hi]
    rfl
  have len : ∀ {σ' : St} {Γ' : Ct} {Ow' : List Addr} {H' : Hp}, RS g Bn Ow' H' σ' Γ' → Pin (n, (ownPs 0 G0).map fun i => (i, vs.getD i .non)) σ' → G0.length ≤ Γ'.length := fun r pn => by
    rw [← r.len, pn.1]; exact hn
  cases o with
  | bk G => simp only [finish, reduceCtorEq] at hf
  | ct G => simp only [finish, reduceCtorEq] at hf
  | xc c ks ds G => simp only [finish, reduceCtorEq] at hf
  | nx G =>
    simp only [finish, Option.some.injEq, Prod.mk.injEq] at hf
    obtain ⟨rfl, rfl⟩ := hf
    exact fun σ' H' O' s' r' p' => hQ .non H' O' s' (outs_ok r0 s' r' (len r' p') (pin p')) (show Rep g _ _ _ _ by simp only [Rep])
  | rt x G =>
    intro v σ' H' O' s' r' p' vl
    have lo := len r' p'
    cases x with
    | fz d =>
      simp only [finish, Option.some.injEq, Prod.mk.injEq] at hf
      obtain ⟨rfl, rfl⟩ := hf
      exact hQ v H' O' s' (outs_ok r0 s' r' lo (pin p')) vl
    | nw d =>
      simp only [finish, Option.some.injEq, Prod.mk.injEq] at hf
      obtain ⟨rfl, rfl⟩ := hf
      obtain ⟨a, e, m, ow, no⟩ := vl
      refine hQ v H' O' s' (outs_ok r0 s' r' lo (pin p')) ⟨a, e, m, ow, fun j f h1 h2 => ?_⟩
      rcases outsOf_get h1 with ⟨o1, h1⟩ | ⟨n1, h1⟩
      · exact no j f h1 (by rw [pin p' j o1]; exact h2)
      · exact n1 ⟨f, h1⟩
    | sl i =>
      have vl' : σ'[i]? = some (some v) := vl
      simp only [finish] at hf
      split at hf
      · rename_i d q
        split at hf
        · rename_i hi
          simp only [Option.some.injEq, Prod.mk.injEq] at hf
          obtain ⟨rfl, rfl⟩ := hf
          have fe : fre G (.sl i) = some (d, G.set i (some (d, false))) := by simp only [fre, q]
          obtain ⟨O2, s2, r2, p2⟩ := fre_ok r' vl fe
          exact hQ v H' O2 (s'.trans s2) (outs_ok r0 (s'.trans s2) r2 (by rw [List.length_set]; exact lo) (pin p')) p2
        · rename_i hi
          simp only [Option.some.injEq, Prod.mk.injEq] at hf
          obtain ⟨rfl, rfl⟩ := hf
          obtain ⟨a, e, m, ow⟩ := r'.own i d q
          rw [vl'] at e; cases e
          refine hQ _ H' O' s' (outs_ok r0 s' r' lo (pin p')) ⟨a, rfl, m, ow, fun j f h1 h2 => ?_⟩
          rcases outsOf_get h1 with ⟨o1, h1⟩ | ⟨n1, h1⟩
          · have e2 := r'.dist i j _ _ a q h1 vl' (by rw [pin p' j o1]; exact h2)
            subst e2
            obtain ⟨d1, h3⟩ := o1
            exact hi (List.getElem?_eq_some_iff.mp h3).1
          · exact n1 ⟨f, h1⟩
      · rename_i d q
        simp only [Option.some.injEq, Prod.mk.injEq] at hf
        obtain ⟨rfl, rfl⟩ := hf
        obtain ⟨w, e, rp⟩ := r'.slot i d q
        rw [vl'] at e; cases e
        exact hQ v H' O' s' (outs_ok r0 s' r' lo (pin p')) rp
      · cases hf
end
/-- a def that can be called -/
structure Cal (P : Program) (w : World) (mg : Str → Option Value) (base : Heap) (g : Gx) (k : Nat) (x : Str) (n : Nat) (F : FS) : Prop where
  ex : ∃ f fd ps, mg x = some (.ref f) ∧ PySem.W.keepIn g.K (.ref f) = true ∧ Binds g.K fd ps [] ∧ FnOk P w g.K mg base CX0 k f fd ps (spF g n F)
section
variable {P : Program} {w : World} {mg : Str → Option Value} {base : Heap} {g : Gx} {fs : List FS}
theorem Cal.mono {j k : Nat} {x : Str} {n : Nat} {F : FS} (h : Cal P w mg base g j x n F) (l : j ≤ k) : Cal P w mg base g k x n F := by
  obtain ⟨f, fd, ps, h1, h2, h3, h4⟩ := h.ex
  exact ⟨f, fd, ps, h1, h2, h3, h4.mono l⟩
theorem def_fn {x qual : Str} {st : Stmt} {f : Addr} {fd : FuncData} {N ps : List Str} {k np n : Nat} {ir : List S} (F : Fun g.K x qual st f fd) (S : FnScope N ps (defScope st)) (hp : ps.length = np) (hN : N.length = n) (ge : g.ea = none)
    (hbody : ∀ (cdv : Value) (A : Around) (outer : List Env) (s : Shared) (H : Hp) (E : XK), Room k (cxOf CX0 P w g.K mg base N qual (defScope st) f cdv A outer s H E).nox.A → Cok g (cxOf CX0 P w g.K mg base N qual (defScope st) f cdv A outer s H E).nox →
      PSs (cxOf CX0 P w g.K mg base N qual (defScope st) f cdv A outer s H E).nox (defBody st) (tSs g (fun _ _ _ => False) fs ir)) : FnOk P w g.K mg base CX0 (k + 1) f fd ps (spF g np (runF fs np n ir)) := by
  refine F.ok S (fun vs H Q E h => by rw [h.1, hp]) fun cdv A outer s H vs Q E hr h => ?_
  refine ⟨_, hbody cdv A outer s H E hr ⟨rfl, rfl, hr.units, S.nd, ge⟩, ?_⟩
  obtain ⟨hl, Bn, Ow, Γ, r, os, rs, ef, nr, hQ⟩ := h
  have hG : Γ.length = np := by rw [← rs.len, List.length_map, hl]
  have hle : np ≤ n := by
    rw [← hN, ← hp]
    have := congrArg List.length S.pre
    rw [List.length_take] at this
    omega
  simp only [runF, hG, if_true] at ef
  obtain ⟨o, e1, e2⟩ := Option.bind_eq_some_iff.mp ef
  have est : L2.start N vs = vs.map some ++ List.replicate (n - np) none := by rw [← hN, ← hl]; rfl
  refine ⟨(n, (ownPs 0 Γ).map fun i => (i, vs.getD i .non)), Bn, Ow, Γ ++ List.replicate (n - np) none, o, ?_, ⟨?_, fun p hp => ?_⟩, ?_, ?_⟩
  · rw [est]; exact rs.start _
  · rw [est, List.length_append, List.length_map, List.length_replicate, hl]; show np + (n - np) = n; omega
  · obtain ⟨i, hi, rfl⟩ := List.mem_map.mp hp
    obtain ⟨j, d, rfl, h⟩ := ownPs_mem.mp hi
    have hj : j < vs.length := by
      have h1 := (List.getElem?_eq_some_iff.mp h).1
      omega
    rw [est]
    show (vs.map some ++ List.replicate (n - np) none)[0 + j]? = some (some (vs.getD (0 + j) .non))
    rw [Nat.zero_add, List.getElem?_append_left (by rw [List.length_map]; exact hj), List.getElem?_map, List.getElem?_eq_getElem hj, List.getD_eq_getElem?_getD, List.getElem?_eq_getElem hj]
    rfl
  · rw [List.map_map]
    show exs fs ((ownPs 0 Γ).map id) ir _ = some o
    rw [List.map_id]
    exact e1
  · rw [← hG] at e2
    exact finish_ok rs (by omega) e2 hQ
theorem def_ok {x qual : Str} {st : Stmt} {f : Addr} {fd : FuncData} {N ps : List Str} {k np n : Nat} {ir : List S} (F : Fun g.K x qual st f fd) (hm : mg x = some (.ref f)) (S : FnScope N ps (defScope st)) (hb : Binds g.K fd ps []) (hp : ps.length = np) (hN : N.length = n) (ge : g.ea = none)
    (hbody : ∀ (cdv : Value) (A : Around) (outer : List Env) (s : Shared) (H : Hp) (E : XK), Room k (cxOf CX0 P w g.K mg base N qual (defScope st) f cdv A outer s H E).nox.A → Cok g (cxOf CX0 P w g.K mg base N qual (defScope st) f cdv A outer s H E).nox →
      PSs (cxOf CX0 P w g.K mg base N qual (defScope st) f cdv A outer s H E).nox (defBody st) (tSs g (fun _ _ _ => False) fs ir)) : Cal P w mg base g (k + 1) x np (runF fs np n ir) :=
  ⟨f, fd, ps, hm, F.kp, hb, def_fn F S hp hN ge hbody⟩
end
section
variable {X : Cx} {g : Gx} {fs : List FS} {e : Expr} {es : List Expr} {ies : List E} {x : Str} {p pos : Pos} {k i n : Nat} {F : FS}
theorem c_call (c : Cal X.prog X.w X.mg X.base g k x n F) (C : Cok0 g X) (hF : fs[i]? = some F) (hn : ies.length = n) (hr : Room k X.A) (hg : Gl X x)
    (ha : PA X (e :: es) (tAw g fs ies)) (hdb : (x == ("__debug__" : Str)) = false) (he : starEach (e :: es) X.env = (false, eval e X.env) :: starEach es X.env) (hpl : (backTo pos (starEach es X.env)).any (·.1) = false) :
    PE X (.Call (.Name x p) (e :: es) [] pos) (tR g fs (.call i ies)) := by
  obtain ⟨f, fd, ps, h1, h2, h3, h4⟩ := c.ex
  rw [← C.K] at h2 h3 h4
  exact p_call hF hn h4 hr hg h1 h2 h3 ha hdb he hpl
theorem c_call0 (c : Cal X.prog X.w X.mg X.base g k x 0 F) (C : Cok0 g X) (hF : fs[i]? = some F) (hr : Room k X.A) (hg : Gl X x) (hdb : (x == ("__debug__" : Str)) = false) :
    PE X (.Call (.Name x p) [] [] pos) (tR g fs (.call i [])) := by
  obtain ⟨f, fd, ps, h1, h2, h3, h4⟩ := c.ex
  rw [← C.K] at h2 h3 h4
  exact p_call0 hF h4 hr hg h1 h2 h3 hdb
end
end DV

namespace DV
open PySem L2
section
variable {X : Cx} {g : Gx} {fs : List FS} {e : Expr} {es : List Expr} {ies : List E} {x : Str} {p pos : Pos}
theorem k_int {i j pos} (C : Cok0 g X) : PE X (.Constant (.int i) j pos) (tR g fs (.cst (.int i))) := p_cst pe_int C.K fun _ _ _ => by simp only [Rep]
theorem k_bl {b j pos} (C : Cok0 g X) : PE X (.Constant (.bool b) j pos) (tR g fs (.cst (.bl b))) := p_cst pe_bl C.K fun _ _ _ => by simp only [Rep]
theorem k_str {b j pos} (C : Cok0 g X) : PE X (.Constant (.str b) j pos) (tR g fs (.cst (.str b))) := p_cst pe_str C.K fun _ _ _ => by simp only [Rep]
theorem k_non {j pos} (C : Cok0 g X) : PE X (.Constant .none j pos) (tR g fs (.cst .non)) := p_cst pe_non C.K fun _ _ _ => by simp only [Rep]
/-- a number that the top has written -/
def GInt (mg : Str → Option Value) (x : Str) (n : Int) : Prop := ∃ t, mg x = some (.int n t)
theorem k_gint {n : Int} (C : Cok0 g X) (h : GInt X.mg x n) (hg : Gl X x) (hd : (x == ("__debug__" : Str)) = false) : PE X (.Name x pos) (tR g fs (.cst (.int n))) := by
  obtain ⟨t, h⟩ := h
  exact p_cst (pe_glob (v := .int n) hg h ⟨t, rfl⟩ hd) C.K fun _ _ _ => by simp only [Rep]
theorem k_var (i : Nat) (hN : X.N[i]? = some x) (hv : Vis X.env.scope x) (hd : (x == ("__debug__" : Str)) = false) (hcd : (x == ("__classdict__" : Str)) = false) : PE X (.Name x pos) (tR g fs (.var i)) := p_var (pe_var hN hv hd hcd)
section
variable (C : Cok g X) (ha : PA X (e :: es) (tAs g fs ies)) (he : starEach (e :: es) X.env = (false, eval e X.env) :: starEach es X.env) (hpl : (backTo pos (starEach es X.env)).any (·.1) = false)
include C ha he hpl
theorem k_len (hm : X.mg "len" = none) (hg : Gl X "len") : PE X (.Call (.Name "len" p) (e :: es) [] pos) (tR g fs (.bi .len ies)) := p_biB (b_len C.K) hg hm (by decide +kernel) ha (by decide) (by decide) he hpl
theorem k_abs (hm : X.mg "abs" = none) (hg : Gl X "abs") : PE X (.Call (.Name "abs" p) (e :: es) [] pos) (tR g fs (.bi .abs ies)) := p_biB (b_abs C.K) hg hm PyProof.Rows.boot_abs ha (by decide) (by decide) he hpl
theorem k_max2 (hm : X.mg "max" = none) (hg : Gl X "max") : PE X (.Call (.Name "max" p) (e :: es) [] pos) (tR g fs (.bi .max2 ies)) := p_biB (b_max2 C) hg hm PyProof.Rows.boot_max ha (by decide) (by decide) he hpl
theorem k_min2 (hm : X.mg "min" = none) (hg : Gl X "min") : PE X (.Call (.Name "min" p) (e :: es) [] pos) (tR g fs (.bi .min2 ies)) := p_biB (b_min2 C) hg hm PyProof.Rows.boot_min ha (by decide) (by decide) he hpl
theorem k_maxl (hm : X.mg "max" = none) (hg : Gl X "max") : PE X (.Call (.Name "max" p) (e :: es) [] pos) (tR g fs (.bi .maxl ies)) := p_biB (b_maxl C) hg hm PyProof.Rows.boot_max ha (by decide) (by decide) he hpl
theorem k_minl (hm : X.mg "min" = none) (hg : Gl X "min") : PE X (.Call (.Name "min" p) (e :: es) [] pos) (tR g fs (.bi .minl ies)) := p_biB (b_minl C) hg hm PyProof.Rows.boot_min ha (by decide) (by decide) he hpl
theorem k_sum (hm : X.mg "sum" = none) (hg : Gl X "sum") : PE X (.Call (.Name "sum" p) (e :: es) [] pos) (tR g fs (.bi .suml ies)) := p_biB (b_suml C) hg hm PyProof.Rows.boot_sum ha (by decide) (by decide) he hpl
theorem k_all (hm : X.mg "all" = none) (hg : Gl X "all") : PE X (.Call (.Name "all" p) (e :: es) [] pos) (tR g fs (.bi .alll ies)) := p_biB (b_alll C) hg hm PyProof.Rows.boot_all ha (by decide) (by decide) he hpl
theorem k_any (hm : X.mg "any" = none) (hg : Gl X "any") : PE X (.Call (.Name "any" p) (e :: es) [] pos) (tR g fs (.bi .anyl ies)) := p_biB (b_anyl C) hg hm PyProof.Rows.boot_any ha (by decide) (by decide) he hpl
theorem k_int1 (hm : X.mg "int" = none) (hg : Gl X "int") : PE X (.Call (.Name "int" p) (e :: es) [] pos) (tR g fs (.bi .int1 ies)) := p_biT (b_int C.K) hg hm PyProof.Rows.boot_int ha (by decide) (by decide) he hpl
theorem k_list (hm : X.mg "list" = none) (hg : Gl X "list") : PE X (.Call (.Name "list" p) (e :: es) [] pos) (tR g fs (.bi .list ies)) := p_biT (b_list C.K) hg hm PyProof.Rows.boot_list ha (by decide) (by decide) he hpl
theorem k_tuple (hm : X.mg "tuple" = none) (hg : Gl X "tuple") : PE X (.Call (.Name "tuple" p) (e :: es) [] pos) (tR g fs (.bi .tuple ies)) := p_biT (b_tuple C.K) hg hm PyProof.Rows.boot_tuple ha (by decide) (by decide) he hpl
end
theorem ty_int {p2 : Pos} (hm : X.mg "int" = none) (hg : Gl X "int") : PE X (.Name "int" p2) (tC (.ty (tyN .int))) := pe_bltn hg hm PyProof.Rows.boot_int rfl
theorem ty_bool {p2 : Pos} (hm : X.mg "bool" = none) (hg : Gl X "bool") : PE X (.Name "bool" p2) (tC (.ty (tyN .bool))) := pe_bltn hg hm PyProof.Rows.boot_bool rfl
theorem ty_str {p2 : Pos} (hm : X.mg "str" = none) (hg : Gl X "str") : PE X (.Name "str" p2) (tC (.ty (tyN .str))) := pe_bltn hg hm PyProof.Rows.boot_str rfl
theorem ty_list {p2 : Pos} (hm : X.mg "list" = none) (hg : Gl X "list") : PE X (.Name "list" p2) (tC (.ty (tyN .list))) := pe_bltn hg hm PyProof.Rows.boot_list rfl
theorem ty_tuple {p2 : Pos} (hm : X.mg "tuple" = none) (hg : Gl X "tuple") : PE X (.Name "tuple" p2) (tC (.ty (tyN .tuple))) := pe_bltn hg hm PyProof.Rows.boot_tuple rfl
theorem tg_nm {i : Nat} (h : PG X e (gName i)) : PG X e (tgT g.K (.nm i)) := by simp only [tgT]; exact h
theorem tgs_nil : PGs X [] (tgT.tgTs g.K []) := by simp only [tgT.tgTs]; exact pgs_nil
theorem tgs_cons {t : Tg} {ts : List Tg} (h1 : PG X e (tgT g.K t)) (h2 : PGs X es (tgT.tgTs g.K ts)) (hs : (assignEach (e :: es) X.env).map (·.2) = assign e X.env :: (assignEach es X.env).map (·.2)) : PGs X (e :: es) (tgT.tgTs g.K (t :: ts)) := by
  simp only [tgT.tgTs]
  exact pgs_cons h1 h2 hs
theorem tgp {ts : List Tg} {k : Nat} (C : Cok g X) (h : PGs X es (tgT.tgTs g.K ts)) (hn : (assignEach es X.env).length = ts.length) (hst : (assignEach es X.env).findIdx? (·.1) = none) : PG X (.Tuple es k pos) (tgT g.K (.tp ts)) := by
  have := pg_tup (pos := pos) (k := k) C.calm h hn hst
  rw [C.K] at this
  simp only [tgT]
  exact this
/-- the law itself: the end -/
theorem law_end {P : Program} {w : World} {mg : Str → Option Value} {base : Heap} {k : Nat} {y : Str} {F : FS} {fa : Addr} (c : Cal P w mg base g k y 1 F) (hm : mg y = some (.ref fa)) :
    ∃ fd ps, Binds g.K fd ps [] ∧ FnOk P w g.K mg base CX0 k fa fd ps (spF g 1 F) := by
  obtain ⟨f, fd, ps, h1, h2, h3, h4⟩ := c.ex
  rw [hm] at h1; cases h1
  exact ⟨fd, ps, h3, h4⟩
theorem sp_law {K : PySem.W.Frag} {cl : Nat → Addr} {T : List (Addr × Str)} {F : FS} {ns : List Int} {a : Addr} {H : Hp} {os : Ct} (hF : F [some (.scr ns, false)] = some (.fz (.bl true), os)) (hS : SqL K H a (ns.map V.int)) (hT : Tb T H) : spF ⟨K, cl, T, none⟩ 1 F [.ref a] H (fun v _ => v = .bl true) fun _ _ _ => False := by
  refine ⟨rfl, fun _ => False, [], [some (.scr ns, false)], _, os, ⟨rfl, fun i d h => ?_, fun i d h => ?_, fun i j d e b h1 => ?_, fun b z => ?_, nofun, fun b z => ?_, hT⟩, hF, nofun, fun v H' O' _ _ vl => ?_⟩
  · cases i with
    | zero => simp at h; subst h; exact ⟨.ref a, rfl, by simp only [Rep]; exact ⟨a, rfl, fun z => z.elim (fun z => z) (fun z => nomatch z), hS⟩⟩
    | succ i => simp at h
  · cases i with
    | zero => simp at h
    | succ i => simp at h
  · cases i with
    | zero => simp at h1
    | succ i => simp at h1
  · rcases z with z | z
    · exact z.elim
    · cases z
  · rcases z with z | z
    · exact z.elim
    · cases z
  · have vl : Rep _ _ _ _ _ := vl
    simpa only [Rep] using vl
end
end DV

namespace DV
open PySem L2
mutual
theorem eqd_refl : ∀ (d : D) (n : Nat), okB n d = true → eqd d d = true
  | .non, _, _ => by simp [eqd]
  | .bl _, _, _ => by simp [eqd]
  | .int _, _, _ => by simp [eqd]
  | .str _, _, _ => by simp [eqd]
  | .lst ds, n, h => by
    obtain ⟨m, rfl, h⟩ := okB_lst h
    simp only [eqd]
    exact eqds_refl ds m h
  | .tup ds, n, h => by
    obtain ⟨m, rfl, h⟩ := okB_tup h
    simp only [eqd]
    exact eqds_refl ds m h
  | .obj _ _ _, n, h => by rw [okB_obj] at h; cases h
  | .scr _, n, h => by rw [okB_scr] at h; cases h
  | .dct, n, h => by rw [okB_dct] at h; cases h
  | .dic _ _, n, h => by rw [okB_dic] at h; cases h
  | .exc _ _ _, n, h => by rw [okB_exc] at h; cases h
  | .err _ _ _, n, h => by rw [okB_err] at h; cases h
theorem eqds_refl : ∀ (ds : List D) (n : Nat), ds.all (okB n) = true → eqds ds ds = true
  | [], _, _ => by simp [eqds]
  | d :: ds, n, h => by
    simp only [List.all_cons, Bool.and_eq_true] at h
    simp only [eqds, Bool.and_eq_true]
    exact ⟨eqd_refl d n h.1, eqds_refl ds n h.2⟩
end
theorem okB_ints (n : Nat) (ts : List Int) : okB (n + 1) (.lst (ts.map D.int)) = true := by
  simp only [okB, List.all_eq_true, List.mem_map]
  rintro d ⟨t, _, rfl⟩
  cases n <;> rfl
theorem cmp_eq_self {d : D} (h : okB 12 d = true) : cmpD .eq d d = some true := by simp only [cmpD, h, eqd_refl d 12 h, Bool.and_self, if_true]
theorem cmp_ne_self {d : D} (h : okB 12 d = true) : cmpD .ne d d = some false := by simp only [cmpD, h, eqd_refl d 12 h, Bool.and_self, if_true, Bool.not_true]
theorem ixN_int (ts : List Int) (j : Nat) {x : Int} (h : ts[j]? = some x) : ixD (.lst (ts.map D.int)) (.int (j : Nat)) = some (.int x) := by
  simp only [ixD]
  exact atI_nat (by rw [List.getElem?_map, h]; rfl)
theorem forLoop_step {tg : Tg} {body : Ct → Option Out} {d : D} {ds : List D} {Γ Γ1 Γ2 : Ct} (h1 : asgT tg d Γ = some Γ1) (h2 : body Γ1 = some (.nx Γ2)) : forLoop tg body (d :: ds) Γ = forLoop tg body ds Γ2 := by
  simp only [forLoop, h1, h2, Option.bind_some]
theorem exs_nx {fs : List FS} {pn : List Nat} {s : S} {ss : List S} {Γ Γ1 : Ct} (h : ex fs pn s Γ = some (.nx Γ1)) : exs fs pn (s :: ss) Γ = exs fs pn ss Γ1 := by
  simp only [exs, h, Option.bind_some]
theorem exs_rt {fs : List FS} {pn : List Nat} {s : S} {ss : List S} {Γ Γ1 : Ct} {r : RV} (h : ex fs pn s Γ = some (.rt r Γ1)) : exs fs pn (s :: ss) Γ = some (.rt r Γ1) := by
  simp only [exs, h, Option.bind_some]
theorem compLoop_map {own : List Nat} {tg : Tg} {ct : Ct → Option (Bool × Ct)} {el : Ct → Option (RV × Ct)} {Γ : Ct} (f : D → D) : ∀ {ds acc : List D}, (∀ d ∈ ds, ∀ acc rest, compLoop own tg ct el (d :: rest) acc Γ = compLoop own tg ct el rest (acc ++ [f d]) Γ) → compLoop own tg ct el ds acc Γ = some (acc ++ ds.map f, Γ)
  | [], acc, _ => by simp only [compLoop, List.map_nil, List.append_nil]
  | d :: ds, acc, h => by
    rw [h d List.mem_cons_self acc ds, compLoop_map f fun e he => h e (List.mem_cons_of_mem _ he)]
    simp
theorem whl_step {c : Ct → Option (Bool × Ct)} {body : Ct → Option Out} {n : Nat} {Γ Γ1 Γ2 : Ct} (h1 : c Γ = some (true, Γ1)) (h2 : body Γ1 = some (.nx Γ2)) : whlLoop c body (n + 1) Γ = whlLoop c body n Γ2 := by
  simp only [whlLoop, h1, h2, Option.bind_some, if_true]
theorem whl_done {c : Ct → Option (Bool × Ct)} {body : Ct → Option Out} {n : Nat} {Γ Γ1 : Ct} (h1 : c Γ = some (false, Γ1)) : whlLoop c body (n + 1) Γ = some (.nx Γ1) := by
  simp only [whlLoop, h1, Option.bind_some, Bool.false_eq_true, if_false]
theorem runF_by {fs : List FS} {np n : Nat} {body : List S} {G0 : Ct} {o : Out} {r : RV × Ct} (hl : G0.length = np) (e : exs fs (ownPs 0 G0) body (G0 ++ List.replicate (n - np) none) = some o) (f : DV.finish np G0 o = some r) : runF fs np n body G0 = some r := by
  simp only [runF, hl, if_true, e, Option.bind_some, f]
theorem ex_for {fs : List FS} {pn : List Nat} {tg : Tg} {ik : IK} {its : List E} {b : List S} {Γ Γ2 : Ct} {ds : List D} {o : Out} (h1 : ((evs fs its Γ).bind fun p => iterD ik p.1 p.2) = some (ds, Γ2)) (h3 : disjB (tgIx tg) pn = true) (h4 : forLoop tg (exs fs pn b) ds Γ2 = some o) : ex fs pn (.for_ tg ik its b) Γ = some o := by
  obtain ⟨⟨xs, Γ1⟩, e1, e2⟩ := Option.bind_eq_some_iff.mp h1
  simp only [ex, e1, e2, Option.bind_some, h3, if_true, h4]
/-- a while's test -/
def tst (fs : List FS) (c : E) (Γ : Ct) : Option (Bool × Ct) := (ev fs c Γ).bind fun (x, Γ1) => (testD Γ1 x).map fun t => (t, Γ1)
theorem ex_whl {fs : List FS} {pn : List Nat} {c : E} {b : List S} {Γ : Ct} {o : Out} (h : whlLoop (tst fs c) (exs fs pn b) fuel Γ = some o) : ex fs pn (.whl c b) Γ = some o := by
  simp only [ex]
  exact h
theorem ex_ite {fs : List FS} {pn : List Nat} {c : E} {a b : List S} {Γ Γ1 : Ct} {x : RV} {t : Bool} {o : Out} (h1 : ev fs c Γ = some (x, Γ1)) (h2 : testD Γ1 x = some t) (h3 : exs fs pn (if t then a else b) Γ1 = some o) : ex fs pn (.ite c a b) Γ = some o := by
  simp only [ex, h1, Option.bind_some, h2]
  cases t <;> simpa using h3
/-- a range's turns -/
@[irreducible] def rngO (Γ : Ct) (ds : List D) : Option (List D × Ct) := iterD .rng (ds.map .fz) Γ
theorem datums_fz (Γ : Ct) : ∀ ds : List D, datums Γ (ds.map .fz) = some ds
  | [] => rfl
  | d :: ds => by simp only [List.map_cons, datums, datum, datums_fz Γ ds, Option.bind_some, Option.map_some]
theorem it_rng (xs : List RV) (Γ : Ct) : iterD .rng xs Γ = (datums Γ xs).bind (rngO Γ) := by
  cases e : datums Γ xs with
  | none => simp only [iterD, e, Option.bind_none]
  | some ds => simp only [iterD, e, Option.bind_some, rngO, datums_fz]
theorem in62_int {n : Int} (h0 : -1000000000 < n) (h : n < 1000000000) : in62 n = true := by
  unfold in62
  refine decide_eq_true ?_
  by_cases z : n.natAbs = 0
  · rw [z]
    decide
  · rw [Nat.log2_lt z]
    omega
theorem in62_nat {n : Nat} (h : n < 1000000000) : in62 (n : Int) = true := in62_int (by omega) (by omega)
theorem rngO1 (Γ : Ct) (b : Int) (h : in62 b = true) : rngO Γ [.int b] = some (rngD 0 1 b.toNat, Γ) := by
  unfold rngO
  simp only [iterD, datums_fz, Option.bind_some]
  rw [if_pos h]
theorem rngN1 (Γ : Ct) (n : Nat) (h : n < 1000000000) : rngO Γ [.int (n : Int)] = some (rngD 0 1 n, Γ) := by
  rw [rngO1 Γ _ (in62_nat h), Int.toNat_natCast]
theorem rngO2 (Γ : Ct) (a b : Int) (h1 : in62 a = true) (h2 : in62 b = true) : rngO Γ [.int a, .int b] = some (rngD a 1 (b - a).toNat, Γ) := by
  unfold rngO
  simp only [iterD, datums_fz, Option.bind_some]
  rw [if_pos (by rw [h1, h2]; rfl)]
theorem mulOk_l {i j : Int} (h1 : -(2 ^ 64) < i) (h2 : i < 2 ^ 64) : mulOk i j = true := by simp only [mulOk, h1, h2, and_self, decide_true, Bool.true_or]
theorem mulOk_r {i j : Int} (h1 : -(2 ^ 64) < j) (h2 : j < 2 ^ 64) : mulOk i j = true := by simp only [mulOk, h1, h2, and_self, decide_true, Bool.true_or, Bool.or_true]
end DV

namespace DV
open PySem L2
variable {Wx : L2.XK}
def plainTy : List String := ["NoneType", "bool", "int", "str", "list", "tuple"]
/-- a class of the text -/
structure ClsX (g : Gx) (c : Nat) : Prop where
  cl : Cls g.K (g.cl c)
  ha : PySem.W.findIn g.K (.ref (g.cl c)) "__class__" = some (some (.builtin "object.__class__"))
  hn : PySem.W.specialIn g.K (.builtin "object.__class__") "__get__" = some (some (.builtin "getset_descriptor.__get__"))
  htk : PySem.W.takesIn g.K (.builtin "object.__class__") = some true
  hm : PySem.W.mroIn g.K (g.cl c) (.type "object") = some true
  nf : ∀ t ∈ plainTy, PySem.W.subIn g.K (.type t) (.ref (g.cl c)) = some false
theorem ClsX.ty {g : Gx} {c : Nat} (x : ClsX g c) {H : Hp} {a dx : Addr} {fl : List (Str × V)} (e : H a = some (.ins (g.cl c) dx fl)) : TyX g.K H (.ref a) (.ref (g.cl c)) := .base (.ins e x.cl x.ha x.hn x.htk x.hm)
def tyS : D → String
  | .non => "NoneType"
  | .bl _ => "bool"
  | .int _ => "int"
  | .str _ => "str"
  | .lst _ => "list"
  | .tup _ => "tuple"
  | .scr _ => "list"
  | .dct => "dict"
  | .dic _ _ => "dict"
  | .obj _ _ _ => ""
  | .exc _ _ _ => ""
  | .err _ _ _ => ""
theorem tyS_mem {d : D} (h : plainB d = true) : tyS d ∈ plainTy := by
  cases d <;> first | (simp only [plainB, Bool.false_eq_true] at h; done) | (simp only [tyS, plainTy]; decide)
theorem tyx_of {g : Gx} {A : Addr → Prop} {H : Hp} {d : D} {v : V} (h : plainB d = true) (r : Rdb g A H d v) : TyX g.K H v (.type (tyS d)) := by
  cases d with
  | obj => simp [plainB] at h
  | scr => simp [plainB] at h
  | dct => simp [plainB] at h
  | exc => simp [plainB] at h
  | err => simp [plainB] at h
  | dic _ _ => simp [plainB] at h
  | non => rw [rdb_non r]; exact .base .non
  | bl b => rw [rdb_bl r]; exact .base (.bl b)
  | int b => rw [rdb_int r]; exact .base (.int b)
  | str b => rw [rdb_str r]; exact .base (.str b)
  | lst b =>
    obtain ⟨a, ws, rfl, e1, r1⟩ := r
    exact .base (.lst e1)
  | tup b =>
    obtain ⟨a, ws, rfl, _, e1, r1⟩ := rdb_tup r
    rcases e1 with (e1 | ⟨o, e1⟩) | ⟨o, its, n, e1, e2, _⟩
    · exact .base (.tup e1)
    · exact .fTuple e1
    · exact .kTuple e1 e2
section
variable {g : Gx} {A : Addr → Prop} {H : Hp}
theorem fldL_ok {nm : Str} : ∀ {ks : List Str} {ds : List D} {vs : List V} {d : D}, ks.length = vs.length → Reps g A H ds vs → fldL nm ks ds = some d → ∃ v, (ks.zip vs).lookup nm = some v ∧ Rep g A H d v
  | [], ds, vs, d, _, _, h => by simp only [fldL, reduceCtorEq] at h
  | k :: ks, [], vs, d, _, _, h => by simp only [fldL, reduceCtorEq] at h
  | k :: ks, e :: ds, vs, d, l, r, h => by
    simp only [Reps] at r
    obtain ⟨v, w, rfl, r1, r2⟩ := r
    simp only [fldL] at h
    rw [List.zip_cons_cons, List.lookup_cons]
    split at h
    · rename_i q
      subst q
      cases h
      exact ⟨v, by simp, r1⟩
    · rename_i q
      obtain ⟨u, h1, h2⟩ := fldL_ok (by simpa using l) r2 h
      have : (nm == k) = false := by simpa using q
      exact ⟨u, by simp only [this]; exact h1, h2⟩
theorem putL_ok {nm : Str} {d : D} {v : V} (rd : Rep g A H d v) : ∀ {ks : List Str} {ds : List D} {vs : List V}, ks.length = vs.length → ks.length = ds.length → Reps g A H ds vs → ∃ ws, (putL nm d ks ds).1.zip ws = putF nm v (ks.zip vs) ∧ (putL nm d ks ds).1.length = ws.length ∧ Reps g A H (putL nm d ks ds).2 ws
  | [], ds, vs, _, l2, r => by
    cases ds with
    | nil => exact ⟨[v], rfl, rfl, Reps.one rd⟩
    | cons => simp at l2
  | k :: ks, [], vs, _, l2, _ => by simp at l2
  | k :: ks, e :: ds, vs, l, l2, r => by
    simp only [Reps] at r
    obtain ⟨u, w, rfl, r1, r2⟩ := r
    simp only [putL, List.zip_cons_cons, putF]
    split
    · exact ⟨v :: w, rfl, by simpa using l, by simp only [Reps]; exact ⟨v, w, rfl, rd, r2⟩⟩
    · obtain ⟨ws, h1, h2, h3⟩ := putL_ok rd (by simpa using l) (by simpa using l2) r2
      exact ⟨u :: ws, by rw [List.zip_cons_cons, h1], by simpa using h2, by simp only [Reps]; exact ⟨u, ws, rfl, r1, h3⟩⟩
end
section
variable {X : Cx} {g : Gx} {fs : List FS} {a : Expr} {ia : E} {nm : Str} {pos : Pos}
theorem p_fld {cs : List Nat} (C : Cok0 g X) (ha : PE X a (tR g fs ia)) (hc : ∀ c ∈ cs, Cls g.K (g.cl c) ∧ NoAttr g.K (g.cl c) nm) (hb : attributeBase a nm X.env (eval a X.env) = eval a X.env) : PE X (.Attribute a nm pos) (tR g fs (.fld cs ia nm)) := by
  refine PE.weak (pe_fld ha hb) ?_
  rintro σ H Q ⟨Bn, Ow, Γ, r, Γ', rs, he, hQ⟩
  simp only [ev] at he
  obtain ⟨⟨x, Γ1⟩, e1, he⟩ := Option.bind_eq_some_iff.mp he
  obtain ⟨d, e2, he⟩ := Option.bind_eq_some_iff.mp he
  obtain ⟨d', e3, he⟩ := Option.map_eq_some_iff.mp he
  simp only [Prod.mk.injEq] at he
  obtain ⟨rfl, rfl⟩ := he
  refine ⟨Bn, Ow, Γ, x, Γ1, rs, e1, fun v H1 O1 s1 r1 v1 => ?_⟩
  have rd := v1.rdb r1 e2
  cases d <;> simp only [fldD, reduceCtorEq] at e3
  rename_i c ks ds
  simp only [Option.ite_none_right_eq_some, List.contains_eq_mem, decide_eq_true_eq] at e3
  obtain ⟨hm, e3⟩ := e3
  obtain ⟨p, dx, vs, rfl, l, hp, rp⟩ := rd
  obtain ⟨v, h1, h2⟩ := fldL_ok l rp e3
  rw [C.K]
  exact ⟨p, g.cl c, dx, _, v, rfl, hp, (hc c hm).1, (hc c hm).2, h1, hQ v H1 O1 s1 r1 h2⟩
/-- an owned object is rewritten -/
theorem RS.mutO {Bn : Addr → Prop} {Ow : List Addr} {H : Hp} {σ : St} {Γ : Ct} {i : Nat} {c : Nat} {d0 : D} {p dx : Addr} {ks : List Str} {ds : List D} {ws : List V} (rs : RS g Bn Ow H σ Γ) (hi : Γ[i]? = some (some (d0, true))) (hs : σ[i]? = some (some (.ref p))) (l : ks.length = ws.length) (r : Reps g (Av Bn Ow) H ds ws) :
    RS g Bn Ow (upd H p (.ins (g.cl c) dx (ks.zip ws))) σ (Γ.set i (some (.obj c ks ds, true))) ∧ Stp Ow H Ow (upd H p (.ins (g.cl c) dx (ks.zip ws))) := by
  have hil : i < Γ.length := (List.getElem?_eq_some_iff.mp hi).1
  obtain ⟨b, e1, m, _⟩ := rs.own i _ hi
  rw [hs] at e1; cases e1
  have vs := ban_vst (g := g) (H := H) (o := .ins (g.cl c) dx (ks.zip ws)) (A := Av Bn Ow) (p := p) (.inr m)
  refine ⟨⟨by rw [List.length_set]; exact rs.len, fun j e h => ?_, fun j e h => ?_, fun j k e f b h1 h2 h3 h4 => ?_, fun b h => ?_, rs.sep, rs.kf, rs.tabs.upd (rs.trl p (.inr m))⟩, ⟨fun b o h _ n => ?_, fun _ h => .inl h⟩⟩
  · have hj : i ≠ j := fun z => by subst z; rw [List.getElem?_set_self hil] at h; cases h
    rw [List.getElem?_set_ne hj] at h
    obtain ⟨v, e1, r1⟩ := rs.slot j e h
    exact ⟨v, e1, rep_mono vs _ _ r1⟩
  · by_cases hj : i = j
    · subst hj
      rw [List.getElem?_set_self hil] at h; cases h
      exact ⟨p, hs, m, dx, ws, l, upd_same, reps_mono vs _ _ r⟩
    · rw [List.getElem?_set_ne hj] at h
      obtain ⟨b, e1, m1, o1⟩ := rs.own j e h
      have nb : b ≠ p := fun z => hj (by subst z; exact rs.dist i j _ _ _ hi h hs e1)
      refine ⟨b, e1, m1, ?_⟩
      cases e with
      | lst es => obtain ⟨us, e2, r2⟩ := o1; exact ⟨us, by rw [upd_ne nb]; exact e2, reps_mono vs _ _ r2⟩
      | obj c ks es => obtain ⟨dx, us, l, e2, r2⟩ := o1; exact ⟨dx, us, l, by rw [upd_ne nb]; exact e2, reps_mono vs _ _ r2⟩
      | _ => exact o1
  · have ex : ∀ (j : Nat) e, (Γ.set i (some (.obj c ks ds, true)))[j]? = some (some (e, true)) → ∃ e', Γ[j]? = some (some (e', true)) := fun j e h => by
      by_cases hj : i = j
      · subst hj; exact ⟨_, hi⟩
      · rw [List.getElem?_set_ne hj] at h; exact ⟨_, h⟩
    obtain ⟨e', h1⟩ := ex j e h1
    obtain ⟨f', h2⟩ := ex k f h2
    exact rs.dist j k _ _ _ h1 h2 h3 h4
  · exact (rs.trl b h).upd fun _ => .inr ⟨_, _, _, upd_same⟩
  · have z : b ≠ p := fun z => n (by rw [z]; exact m)
    rw [upd_ne z]; exact h
theorem s_setf {c i : Nat} {o e : Expr} {ie : E} {tpos : Pos} (C : Cok0 g X) (ho : PE X o (tVar i)) (he : PE X e (tR g fs ie)) (hc : Cls g.K (g.cl c) ∧ NoAttr g.K (g.cl c) nm) (hs : swapsWith e (some (.Attribute o nm tpos)) pos.line X.env = pure false) :
    PS X (.Assign [.Attribute o nm tpos] e pos) (tSt g Wx fs (.setf c i nm ie)) := by
  refine PS.weak (ps_fld ho he hs) ?_
  rintro Dn σ H ⟨pv, Bn, Ow, Γ, o, rs, pn, he, po⟩
  simp only [ex] at he
  obtain ⟨⟨x, Γ1⟩, e1, he⟩ := Option.bind_eq_some_iff.mp he
  obtain ⟨⟨d, Γ2⟩, e2, he⟩ := Option.bind_eq_some_iff.mp he
  refine ⟨Bn, Ow, Γ, x, Γ1, rs, e1, fun v H1 O1 s1 r1 vl => ?_⟩
  obtain ⟨O2, s2, r2, p2⟩ := fre_ok r1 vl e2
  split at he
  · rename_i c0 q
    obtain ⟨c', e3, rfl⟩ := Option.map_eq_some_iff.mp he
    obtain ⟨p, ea, m, ow⟩ := r2.own i _ q
    cases c0 <;> simp only [putD, reduceCtorEq] at e3
    rename_i c1 ks ds
    simp only [Option.ite_none_right_eq_some, Option.some.injEq] at e3
    obtain ⟨⟨rfl, hz, hl⟩, rfl⟩ := e3
    obtain ⟨dx, vs, l, hp, rp⟩ := ow
    obtain ⟨ws, h1, h2, h3⟩ := putL_ok (nm := nm) p2 l hl rp
    have key := r2.mutO (c := c1) (dx := dx) q ea h2 h3
    rw [h1] at key
    rw [C.K]
    exact ⟨_, ea, p, g.cl c1, dx, ks.zip vs, rfl, hp, hc.1, hc.2, by rw [List.length_zip]; omega, po _ _ O2 ((s1.trans s2).trans key.2) key.1 pn⟩
  · cases he
/-! ### calls, by what they do -/
theorem callD_core {F : FS} {xs : List RV} {vs : List V} {Bn : Addr → Prop} {Ow : List Addr} {H : Hp} {σ : St} {Γ Γ' : Ct} {r : RV} {n : Nat} {Q : VK} {E : XK} (rs : RS g Bn Ow H σ Γ) (hv : VlW g Bn Ow H σ Γ xs vs) (he : callD F xs Γ = some (r, Γ')) (hn : vs.length = n)
    (hQ : ∀ v H' Ow', Stp Ow H Ow' H' → RS g Bn Ow' H' σ Γ' → Val g Bn Ow' H' σ Γ' r v → Q v H') : spF g n F vs H Q E := by
  simp only [callD] at he
  obtain ⟨as, e3, he⟩ := Option.bind_eq_some_iff.mp he
  simp only [Option.ite_none_right_eq_some] at he
  obtain ⟨nd, he⟩ := he
  obtain ⟨⟨r', os⟩, e4, he⟩ := Option.bind_eq_some_iff.mp he
  cases r' with
  | sl i => cases he
  | fz d =>
    simp only [Option.some.injEq, Prod.mk.injEq] at he
    obtain ⟨rfl, rfl⟩ := he
    exact call_core rs hv e3 nd e4 (fun i z => nomatch z) hn fun v H' O2 s2 r2 val _ => hQ v H' O2 s2 r2 val
  | nw d =>
    simp only [Option.some.injEq, Prod.mk.injEq] at he
    obtain ⟨rfl, rfl⟩ := he
    exact call_core rs hv e3 nd e4 (fun i z => nomatch z) hn fun v H' O2 s2 r2 val _ => hQ v H' O2 s2 r2 val
theorem evs_len {es : List E} : ∀ {Γ Γ' : Ct} {xs : List RV}, evs fs es Γ = some (xs, Γ') → es.length = xs.length := by
  induction es with
  | nil => intro Γ Γ' xs h; simp only [evs, Option.some.injEq, Prod.mk.injEq] at h; rw [← h.1]; rfl
  | cons a es ih =>
    intro Γ Γ' xs h
    simp only [evs] at h
    obtain ⟨⟨y, G1⟩, _, h⟩ := Option.bind_eq_some_iff.mp h
    obtain ⟨⟨ys, G2⟩, h2, h⟩ := Option.map_eq_some_iff.mp h
    simp only [Prod.mk.injEq] at h
    rw [← h.1, List.length_cons, List.length_cons, ih h2]
theorem lookup_no {nm : Str} : ∀ {ks : List Str} {vs : List V}, ks.contains nm = false → (ks.zip vs).lookup nm = none
  | [], _, _ => by simp
  | k :: ks, [], _ => by simp
  | k :: ks, v :: vs, h => by
    simp only [List.contains_cons, Bool.or_eq_false_iff] at h
    rw [List.zip_cons_cons, List.lookup_cons, h.1]
    exact lookup_no h.2
/-- a method of the class c -/
structure Mtd (P : Program) (w : World) (mg : Str → Option Value) (base : Heap) (g : Gx) (k : Nat) (c : Nat) (x : Str) (n : Nat) (F : FS) : Prop where
  ex : ∃ f fd ps, Cls g.K (g.cl c) ∧ Meth g.K (g.cl c) x f ∧ Binds g.K fd ps [] ∧ FnOk P w g.K mg base CX0 k f fd ps (spF g n F)
theorem Mtd.mono {P : Program} {w : World} {mg : Str → Option Value} {base : Heap} {j k c : Nat} {x : Str} {n : Nat} {F : FS} (h : Mtd P w mg base g j c x n F) (l : j ≤ k) : Mtd P w mg base g k c x n F := by
  obtain ⟨f, fd, ps, h1, h2, h3, h4⟩ := h.ex
  exact ⟨f, fd, ps, h1, h2, h3, h4.mono l⟩
theorem meth_core {c i n : Nat} {io : E} {ies : List E} {F : FS} {m : Str} {σ : St} {H : Hp} {Q : VK} {Ex : XK} (hF : fs[i]? = some F) (hn : ies.length + 1 = n) (h : tR g fs (.meth c m i io ies) σ H Q) : tMeth (g.cl c) m (spF g n F) [] Ex (tR g fs io) (tAw g fs ies) σ H Q := by
  obtain ⟨Bn, Ow, Γ, r, Γ', rs, he, hQ⟩ := h
  simp only [ev] at he
  obtain ⟨⟨x, Γ0⟩, e1, he⟩ := Option.bind_eq_some_iff.mp he
  obtain ⟨⟨d, Γ1⟩, e2, he⟩ := Option.bind_eq_some_iff.mp he
  simp only [Option.ite_none_right_eq_some, Bool.and_eq_true, Bool.not_eq_true'] at he
  obtain ⟨⟨ho, hf⟩, he⟩ := he
  obtain ⟨⟨ys, Γ2⟩, e3, he⟩ := Option.bind_eq_some_iff.mp he
  obtain ⟨F', e4, he⟩ := Option.bind_eq_some_iff.mp he
  rw [hF] at e4; cases e4
  refine ⟨Bn, Ow, Γ, x, Γ0, rs, e1, fun v H1 O1 s1 r1 v1 => ?_⟩
  obtain ⟨O2, s2, r2, p2⟩ := fre_ok r1 v1 e2
  obtain ⟨ks, ds, rfl⟩ : ∃ ks ds, d = .obj c ks ds := by
    cases d <;> simp only [isObj, Bool.false_eq_true, beq_iff_eq] at ho
    exact ⟨_, _, by rw [ho]⟩
  have p3 := p2
  simp only [Rep] at p3
  obtain ⟨p, dx, vs, rfl, _, l, hp, rp⟩ := p3
  refine ⟨p, dx, _, rfl, hp, lookup_no hf, Bn, O2, Γ1, ys, Γ2, r2, e3, fun ws H3 O3 s3 r3 v3 => ?_⟩
  show spF g n F (.ref p :: (ws ++ [])) H3 Q Ex
  rw [List.append_nil]
  have q := p2.step s3 r3
  refine callD_core (xs := .fz (.obj c ks ds) :: ys) r3 ⟨_, ws, rfl, q, nofun, v3⟩ he ?_ fun w H4 O4 s4 r4 v4 => hQ w H4 O4 (((s1.trans s2).trans s3).trans s4) r4 v4
  rw [List.length_cons, ← v3.len, ← evs_len e3]
  exact hn
section
variable {o e : Expr} {es : List Expr} {io : E} {ies : List E} {c k i n : Nat} {F : FS} {m : Str} {apos : Pos}
theorem p_meth {pl : Sem Bool} (M : Mtd X.prog X.w X.mg X.base g k c m n F) (C : Cok0 g X) (hF : fs[i]? = some F) (hn : ies.length + 1 = n) (hr : Room k X.A) (ho : PE X o (tR g fs io)) (ha : PA X (e :: es) (tAw g fs ies))
    (hst : starEach (e :: es) X.env = (false, eval e X.env) :: starEach es X.env) (hpl : (backTo pos (starEach es X.env)).any (·.1) = false)
    (ht : eval (.Call (.Attribute o m apos) (e :: es) [] pos) X.env = (do
      let ov ← eval o X.env
      standAt apos.atName
      let (f, first) ← holding [ov] (getMethod ov m pl)
      callWith pos f first (backTo pos (starEach (e :: es) X.env)) (backToKw pos (keywordEach [] X.env)))) : PE X (.Call (.Attribute o m apos) (e :: es) [] pos) (tR g fs (.meth c m i io ies)) := by
  obtain ⟨f, fd, ps, h1, h2, h3, h4⟩ := M.ex
  rw [← C.K] at h1 h2 h3 h4
  exact PE.weak (pe_meth (pl := pl) ho h1 h2 h4 hr h3 .nil pass0 ha hst hpl ht) fun σ H Q q => meth_core hF hn q
theorem p_meth0 {pl : Sem Bool} (M : Mtd X.prog X.w X.mg X.base g k c m 1 F) (C : Cok0 g X) (hF : fs[i]? = some F) (hr : Room k X.A) (ho : PE X o (tR g fs io))
    (ht : eval (.Call (.Attribute o m apos) [] [] pos) X.env = (do
      let ov ← eval o X.env
      standAt apos.atName
      let (f, first) ← holding [ov] (getMethod ov m pl)
      callWith pos f first (backTo pos (starEach [] X.env)) (backToKw pos (keywordEach [] X.env)))) : PE X (.Call (.Attribute o m apos) [] [] pos) (tR g fs (.meth c m i io [])) := by
  obtain ⟨f, fd, ps, h1, h2, h3, h4⟩ := M.ex
  rw [← C.K] at h1 h2 h3 h4
  refine PE.weak (pe_meth0 (pl := pl) ho h1 h2 h4 hr h3 .nil pass0 ht) fun σ H Q q => ?_
  obtain ⟨Bn, Ow, Γ, x, Γ0, rs, e1, kk⟩ := meth_core (Ex := E0) hF rfl q
  refine ⟨Bn, Ow, Γ, x, Γ0, rs, e1, fun v H1 O1 s1 r1 v1 => ?_⟩
  obtain ⟨p, dx, fl, h5, h6, h7, Bn', Ow', Γ', xs, Γ'', rs', e2, kk2⟩ := kk v H1 O1 s1 r1 v1
  simp only [evs, Option.some.injEq, Prod.mk.injEq] at e2
  obtain ⟨rfl, rfl⟩ := e2
  exact ⟨p, dx, fl, h5, h6, h7, kk2 [] H1 Ow' (.refl _ _) rs' rfl⟩
end
/-! ### a new object -/
theorem FnOk.kf {P : Program} {w : World} {K : PySem.W.Frag} {mg : Str → Option Value} {base : Heap} {CX : CXT} {k : Nat} {f : Addr} {fd : FuncData} {ps : List Str} {sp : Sp} (F : FnOk P w K mg base CX k f fd ps sp) :
    FnOk P w K mg base CX k f fd ps (fun vs H Q E => vs.length = ps.length ∧ (kfs K H → sp vs H Q E)) :=
  ⟨fun vs H Q E q => q.1, fun A outer s H args us vs Q E hr he hb hv hs => F.run A outer s H args us vs Q E hr he hb hv (hs.2 fun a o l => (he.bs a o (he.mod.kin a o l)).2)⟩
structure Mkd (P : Program) (w : World) (mg : Str → Option Value) (base : Heap) (g : Gx) (k : Nat) (c : Nat) (x : Str) (n : Nat) (F : FS) : Prop where
  ex : ∃ f fd ps, mg x = some (.ref (g.cl c)) ∧ Mk g.K (g.cl c) f ∧ Binds g.K fd ps [] ∧ ps.length = n + 1 ∧ FnOk P w g.K mg base CX0 k f fd ps (spF g (n + 1) F)
theorem Mkd.mono {P : Program} {w : World} {mg : Str → Option Value} {base : Heap} {j k c : Nat} {x : Str} {n : Nat} {F : FS} (h : Mkd P w mg base g j c x n F) (l : j ≤ k) : Mkd P w mg base g k c x n F := by
  obtain ⟨f, fd, ps, h1, h2, h3, h5, h4⟩ := h.ex
  exact ⟨f, fd, ps, h1, h2, h3, h5, h4.mono l⟩
theorem mkD_core {c n np : Nat} {F : FS} {ys : List RV} {vs : List V} {Bn : Addr → Prop} {O1 : List Addr} {H1 : Hp} {σ : St} {Γ1 Γ' : Ct} {r : RV} {Q : VK} {Ex : XK} (r1 : RS g Bn O1 H1 σ Γ1) (v1 : VlW g Bn O1 H1 σ Γ1 ys vs) (he : mkD F c ys Γ1 = some (r, Γ')) (hl : vs.length = n) (hp : np = n + 1)
    (hQ : ∀ v H' Ow', Stp O1 H1 Ow' H' → RS g Bn Ow' H' σ Γ' → Val g Bn Ow' H' σ Γ' r v → Q v H') : ∀ x dx, H1 x = none → H1 dx = none → dx ≠ x →
    (V.ref x :: vs).length = np ∧ (kfs g.K (upd (upd H1 dx (.own x)) x (.ins (g.cl c) dx [])) → spF g (n + 1) F (V.ref x :: vs) (upd (upd H1 dx (.own x)) x (.ins (g.cl c) dx [])) (fun v H2 => v = .non ∧ Q (.ref x) H2) Ex) := by
  simp only [mkD] at he
  obtain ⟨as, e2, he⟩ := Option.bind_eq_some_iff.mp he
  simp only [Option.ite_none_right_eq_some] at he
  obtain ⟨nd, he⟩ := he
  obtain ⟨⟨r', os⟩, e3, he⟩ := Option.bind_eq_some_iff.mp he
  intro p dx np0 ndx ne
  refine ⟨by rw [List.length_cons, hl, hp], fun kf => ?_⟩
  have sm : Same H1 (upd (upd H1 dx (.own p)) p (.ins (g.cl c) dx [])) := fun b x e => by
    rw [upd_ne (ne_of_none e np0), upd_ne (ne_of_none e ndx)]; exact e
  have hp' : (upd (upd H1 dx (.own p)) p (.ins (g.cl c) dx [])) p = some (.ins (g.cl c) dx []) := upd_same
  have hk : g.K.lookup p = none := kf_new kf hp'
  have r2 := r1.add sm np0 (.inr ⟨_, _, _, hp'⟩) hk
  have st2 : Stp O1 H1 (p :: O1) _ := stp_add sm np0
  have nin : ∀ (j : Nat) (e : D), Γ1[j]? = some (some (e, true)) → σ[j]? ≠ some (some (.ref p)) := fun j e h1 h2 => by
    obtain ⟨b, e5, m5, _⟩ := r1.own j e h1
    rw [h2] at e5; cases e5
    exact r1.trk p (.inr m5) np0
  have vw : ∀ {xs : List RV} {ws : List V}, VlW g Bn O1 H1 σ Γ1 xs ws → VlW g Bn (p :: O1) (upd (upd H1 dx (.own p)) p (.ins (g.cl c) dx [])) σ Γ1 xs ws ∧ ∀ (j : Nat) (e : D), xs[j]? = some (.nw e) → ws[j]? ≠ some (.ref p) := by
    intro xs
    induction xs with
    | nil => intro ws h; exact ⟨h, fun j e h => by simp at h⟩
    | cons x xs ih =>
      rintro ws ⟨v, w, rfl, q1, q2, q3⟩
      obtain ⟨i1, i2⟩ := ih q3
      have kstep := step_vst (g := g) (Bn := Bn) st2 fun a h => r2.kf a (.inr h)
      refine ⟨⟨v, w, rfl, ?_, q2, i1⟩, fun j e h => ?_⟩
      · cases x with
        | fz d => exact rep_mono kstep _ _ q1
        | sl j => exact q1
        | nw d =>
          obtain ⟨b, rfl, m, ow, no⟩ := q1
          refine ⟨b, rfl, List.mem_cons_of_mem _ m, ?_, no⟩
          cases d with
          | lst ds => obtain ⟨us, f1, f2⟩ := ow; exact ⟨us, sm _ _ f1, reps_mono kstep _ _ f2⟩
          | obj c ks ds => obtain ⟨dx, us, l, f1, f2⟩ := ow; exact ⟨dx, us, l, sm _ _ f1, reps_mono kstep _ _ f2⟩
          | _ => exact ow
      · cases j with
        | zero =>
          simp at h
          subst h
          obtain ⟨b, rfl, m, _⟩ := q1
          intro z
          simp at z
          subst z
          exact r1.trk b (.inr m) np0
        | succ j => exact i2 j e (by simpa using h)
  obtain ⟨v2, n2⟩ := vw v1
  have v3 : VlW g Bn (p :: O1) (upd (upd H1 dx (.own p)) p (.ins (g.cl c) dx [])) σ Γ1 (.nw (.obj c [] []) :: ys) (.ref p :: vs) :=
    ⟨_, vs, rfl, ⟨p, rfl, List.mem_cons_self, ⟨dx, [], rfl, hp', by simp only [Reps]⟩, nin⟩, fun _ _ j e h1 => n2 j e h1, v2⟩
  have ea : argSs Γ1 (.nw (.obj c [] []) :: ys) = some ((.obj c [] [], true) :: as) := by simp only [argSs, argS, Option.bind_some, e2, Option.map_some]
  have nd2 : nodupB (ownIx Γ1 (.nw (.obj c [] []) :: ys)) = true := by simpa only [ownIx] using nd
  match r', os, he, e3 with
  | .fz .non, some (.obj c' ks ds, true) :: os', he, e3 =>
    simp only [Option.some.injEq, Prod.mk.injEq] at he
    obtain ⟨rfl, rfl⟩ := he
    refine call_core r2 v3 ea nd2 (by simpa using e3) (fun i z => by cases z) (by rw [List.length_cons, hl]) fun v H' O2 s2 r3 val nws => ⟨by simpa only [Val, Rep] using val, ?_⟩
    have w1 := nws 0 _ _ p rfl rfl rfl
    exact hQ _ H' O2 (st2.trans s2) (by simpa only [putOuts] using r3) (by simpa only [putOuts] using w1)
theorem make_core {c i n : Nat} {ies : List E} {F : FS} {σ : St} {H : Hp} {Q : VK} {Ex : XK} {np : Nat} (hF : fs[i]? = some F) (hn : ies.length = n) (hp : np = n + 1) (h : tR g fs (.mk c i ies) σ H Q) :
    tMake (g.cl c) (fun vs H Q E => vs.length = np ∧ (kfs g.K H → spF g (n + 1) F vs H Q E)) [] Ex (tAw g fs ies) σ H Q := by
  obtain ⟨Bn, Ow, Γ, r, Γ', rs, he, hQ⟩ := h
  simp only [ev] at he
  obtain ⟨⟨ys, Γ1⟩, e1, he⟩ := Option.bind_eq_some_iff.mp he
  obtain ⟨F', e4, he⟩ := Option.bind_eq_some_iff.mp he
  rw [hF] at e4; cases e4
  refine ⟨Bn, Ow, Γ, ys, Γ1, rs, e1, fun vs H1 O1 s1 r1 v1 => ?_⟩
  intro p dx np0 ndx ne
  show (_ ∧ _)
  rw [List.append_nil]
  exact mkD_core r1 v1 he (by rw [← v1.len, ← evs_len e1, hn]) hp (fun v H' O' st => hQ v H' O' (s1.trans st)) p dx np0 ndx ne
section
variable {e : Expr} {es : List Expr} {ies : List E} {c k i n : Nat} {F : FS} {x : Str} {p : Pos}
theorem p_mk (M : Mkd X.prog X.w X.mg X.base g k c x n F) (C : Cok0 g X) (hF : fs[i]? = some F) (hn : ies.length = n) (hr : Room (k + 1) X.A) (hg : Gl X x) (ha : PA X (e :: es) (tAw g fs ies)) (hdb : (x == ("__debug__" : Str)) = false)
    (he : starEach (e :: es) X.env = (false, eval e X.env) :: starEach es X.env) (hpl : (backTo pos (starEach es X.env)).any (·.1) = false) : PE X (.Call (.Name x p) (e :: es) [] pos) (tR g fs (.mk c i ies)) := by
  obtain ⟨f, fd, ps, h1, h2, h3, h5, h4⟩ := M.ex
  have h6 := FnOk.kf h4
  rw [← C.K] at h2 h3 h6
  refine PE.weak (pe_make h2 h6 hr hg h1 h3 .nil pass0 ha hdb he hpl) fun σ H Q q => ?_
  have := make_core (Ex := E0) hF hn h5 q
  rw [← C.K] at this
  exact this
end
end
end DV

namespace DV
open PySem L2
section
variable {X : Cx} {g : Gx} {k : Nat} {f C : Addr} {fd : FuncData} {ps : List Str} {sp : Sp}
/-- a def called by values, somewhere below -/
theorem run_sub {A : Around} {pins : List (Addr × Obj)} {σ : St} {H : Hp} {s : Shared} {Q : VK} {us : List Value} {vs : List V} (F : FnOk X.prog X.w X.K X.mg X.base CX0 k f fd ps sp) (sb : L2.Sub X k A) (hb : Binds X.K fd ps [])
    (I : Inv X pins σ H s) (r : Vals vs us) (h : sp vs H Q E0) : wpAny (model X.prog X.w) A (call (.ref f) us) (EP X pins σ Q) X.xe s := by
  have e := I.env0
  have e0 : Env0 X.prog X.w X.K X.mg X.base A X.stack s H := { frames := by rw [sb.fr]; exact e.frames, mod := e.mod, bs := e.bs, bsz := e.bsz, funs := e.funs, frf := e.frf, hok := e.hok, bare := e.bare }
  have hl : us.length = ps.length := by rw [← r.length]; exact F.len _ _ _ _ h
  have b0 := hb s us I.kIn (by rw [List.append_nil]; exact hl)
  rw [List.append_nil] at b0
  refine wpAny_call (codeAny_mono (F.run A X.stack s H ⟨us, []⟩ us vs Q E0 sb.room e0 b0 r h) fun fl s' hq => ?_)
  match fl, hq with
  | .ok (.ret u), hq => exact I.after hq
/-- an own operator, by values: the object first -/
def rOwn (C : Addr) (sp : Sp) : R2 := fun x y H Q => ∃ a dx fl, x = .ref a ∧ H a = some (.ins C dx fl) ∧ sp [x, y] H (fun v H' => Q v H') E0
def rOwn2 (K : PySem.W.Frag) (C : Addr) (sp : Sp) (p : Bool → Bool) : R2 := fun x y H Q => ∃ a dx fl tb, x = .ref a ∧ H a = some (.ins C dx fl) ∧ TyX K H y tb ∧ PySem.W.notFirst K C tb = true ∧ sp [x, y] H (fun v H' => ∃ t, v = .bl t ∧ Q (.bl (p t)) H') E0
theorem op_ownEq (F : FnOk X.prog X.w X.K X.mg X.base CX0 k f fd ps sp) (hr : Room k X.A) (hb : Binds X.K fd ps []) (hm : Meth X.K C "__eq__" f) : OpR X (compareOp .Eq) (rOwn2 X.K C sp id) := by
  intro pins s σ H x y v u Q I rx ry h
  obtain ⟨a, dx, fl, tb, rfl, ha, ty, nf, h⟩ := h
  cases rx
  obtain ⟨mA, J, _⟩ := ins_get I.hok ha
  obtain ⟨od, J, _⟩ := J.look
  obtain ⟨m, hF⟩ := I.fr
  obtain ⟨Pk, Z, pk, _⟩ := kit_of I ry ty
  show wpAny (model X.prog X.w) X.A (richCompare .Eq (.ref a) u) (EP X pins σ Q) X.xe s
  refine PySem.W.cmp_K (op := .Eq) (tb := tb) hr.units0 hF I.ok.mod.kin J (Z.ty _ _ I.kIn pk) nf hm.at_ hm.fn ?_
  refine wpAny_mono (run_sub (vs := [.ref a, y]) F ⟨hr, rfl⟩ hb I (.cons rfl (.cons ry .nil)) h) (fun z s' q => ?_) fun _ _ z => z
  obtain ⟨w, H', I', rz, t, rfl, q⟩ := q
  cases (show z = Value.bool t from rz)
  exact ⟨.bl t, H', I', rfl, q⟩
/-- x in o: the object second -/
def rOwnIn (C : Addr) (sp : Sp) (p : Bool → Bool) : R2 := fun x y H Q => ∃ b dy gl, y = .ref b ∧ H b = some (.ins C dy gl) ∧ sp [y, x] H (fun v H' => ∃ t, v = .bl t ∧ Q (.bl (p t)) H') E0
theorem op_ownIn (F : FnOk X.prog X.w X.K X.mg X.base CX0 k f fd ps sp) (hr : Room k X.A) (hb : Binds X.K fd ps []) (hm : Meth X.K C "__contains__" f) : OpR X (compareOp .In) (rOwnIn C sp id) := by
  intro pins s σ H x y v u Q I rx ry h
  obtain ⟨b, dy, gl, rfl, hb', h⟩ := h
  cases ry
  obtain ⟨mB, J', _⟩ := ins_get I.hok hb'
  obtain ⟨od', J', _⟩ := J'.look
  obtain ⟨m, hF⟩ := I.fr
  refine PySem.W.in_K hF I.ok.mod.kin J' hm.at_ hm.fn ?_
  refine wpAny_mono (run_sub (vs := [.ref b, x]) F ⟨hr, rfl⟩ hb I (.cons rfl (.cons rx .nil)) h) (fun z s' q => ?_) fun _ _ z => z
  obtain ⟨w, H', I', rz, t, rfl, q⟩ := q
  cases (show z = Value.bool t from rz)
  exact wpAny_truthy_bool ⟨.bl t, H', I', rfl, q⟩
theorem op_ownNotIn (F : FnOk X.prog X.w X.K X.mg X.base CX0 k f fd ps sp) (hr : Room k X.A) (hb : Binds X.K fd ps []) (hm : Meth X.K C "__contains__" f) : OpR X (compareOp .NotIn) (rOwnIn C sp not) := by
  intro pins s σ H x y v u Q I rx ry h
  obtain ⟨b, dy, gl, rfl, hb', h⟩ := h
  cases ry
  obtain ⟨mB, J', _⟩ := ins_get I.hok hb'
  obtain ⟨od', J', _⟩ := J'.look
  obtain ⟨m, hF⟩ := I.fr
  refine PySem.W.notIn_K hF I.ok.mod.kin J' hm.at_ hm.fn ?_
  refine wpAny_mono (run_sub (vs := [.ref b, x]) F ⟨hr, rfl⟩ hb I (.cons rfl (.cons rx .nil)) h) (fun z s' q => ?_) fun _ _ z => z
  obtain ⟨w, H', I', rz, t, rfl, q⟩ := q
  cases (show z = Value.bool t from rz)
  exact wpAny_truthy_bool ⟨.bl (!t), H', I', rfl, q⟩
end
end DV

namespace DV
open PySem L2
section
variable {X : Cx} {g : Gx} {k : Nat} {f C : Addr} {fd : FuncData} {ps : List Str} {sp : Sp}
theorem op_ownNe (F : FnOk X.prog X.w X.K X.mg X.base CX0 k f fd ps sp) (hr : Room (k + 1) X.A) (hb : Binds X.K fd ps []) (hm : Meth X.K C "__eq__" f) (hne : PySem.W.findIn X.K (.ref C) "__ne__" = some (some (.builtin "object.__ne__"))) (hi : PySem.W.mroIn X.K C (.type "object") = some true) :
    OpR X (compareOp .NotEq) (rOwn2 X.K C sp not) := by
  intro pins s σ H x y v u Q I rx ry h
  obtain ⟨a, dx, fl, tb, rfl, ha, ty, nf, h⟩ := h
  cases rx
  obtain ⟨mA, J, _⟩ := ins_get I.hok ha
  obtain ⟨od, J, _⟩ := J.look
  have KX := I.kIn
  obtain ⟨Pk, Z, pk, _⟩ := kit_of I ry ty
  have tyb : PySem.W.Looks (model X.prog X.w) s.heap (typeOf u) tb := Z.ty _ _ KX pk
  have fin : wpAny (model X.prog X.w) X.A.in1 (call (.ref f) [.ref a, u]) (fun z s' => ∃ t, z = Value.bool t ∧ EP X pins σ Q (.bool (!t)) s') X.xe s := by
    refine wpAny_mono (run_sub (vs := [.ref a, y]) F ⟨hr.in1, rfl⟩ hb I (.cons rfl (.cons ry .nil)) h) (fun z s' q => ?_) fun _ _ z => z
    obtain ⟨w, H', I', rz, t, rfl, q⟩ := q
    exact ⟨t, rz, .bl (!t), H', I', rfl, q⟩
  have sub : PySem.W.Looks (model X.prog X.w) s.heap (isInstance (.ref a) (.type "object")) true := J.type.andThen (PySem.W.looks_mroIn KX hi)
  have body : wpAny (model X.prog X.w) X.A (call (.builtin "object.__ne__") [.ref a, u]) (fun v s' => ∃ t, v = Value.bool t ∧ EP X pins σ Q v s') X.xe s := by
    refine wpAny_call (codeAny_call_builtin PySem.F.cmp_object.ne.plain PySem.F.cmpEntry_ne (PySem.W.check_slot PySem.F.cmpKind_ne PySem.F.cmpSplit_ne sub (PySem.F.cmpArgs_ne _ _) ?_))
    unfold Builtin.«object.__ne__»
    refine wpAny_bind (wpAny_pure ?_)
    refine wpAny_bind (wpAny_cRoomFor hr.in1.units0 ?_)
    refine wpAny_bind (PySem.W.ifBound_K KX J hm.at_ hm.fn (wpAny_mono fin (fun z s' q => ?_) fun _ _ z => z))
    obtain ⟨t, rfl, q⟩ := q
    refine wpAny_bind (wpAny_truthy_bool ?_)
    exact wpAny_pure ⟨!t, rfl, q⟩
  show wpAny (model X.prog X.w) X.A (richCompare .NotEq (.ref a) u) (EP X pins σ Q) X.xe s
  unfold richCompare
  simp only [oneThing_ref]
  refine wpAny_holding (wpAny_bind (wpAny_cRoomFor hr.units0 ?_))
  have one : wpAny (model X.prog X.w) X.A (callSpecialIfBound? (.ref a) "__ne__" [u]) (fun r s' => ∃ t, r = some (Value.bool t) ∧ EP X pins σ Q (.bool t) s') X.xe s := by
    simp only [callSpecialIfBound?, bindSpecialIfBound?]
    refine wpAny_holding (wpAny_bind (wpAny_bind (wpAny_bind (J.type.here ((PySem.W.looks_findIn KX hne).here ?_)))))
    refine wpAny_bind (wpAny_askSetting (wpAny_ite ?_))
    have go : wpAny (model X.prog X.w) X.A (call (.builtin "object.__ne__") ([.ref a] ++ [u]) >>= fun v => pure (some v)) (fun r s' => ∃ t, r = some (Value.bool t) ∧ EP X pins σ Q (.bool t) s') X.xe s := wpAny_bind (wpAny_mono body (fun v s' ⟨t, e, h'⟩ => wpAny_pure ⟨t, by rw [e], by rw [← e]; exact h'⟩) fun _ _ h' => h')
    split
    · rw [PySem.F.cmp_object.ne.bind]
      exact wpAny_bind (wpAny_pure (wpAny_pure go))
    · rw [PySem.F.cmp_object.ne.bind]
      exact wpAny_tryCatch (wpAny_bind (wpAny_pure (wpAny_pure go)))
  have two : wpAny (model X.prog X.w) X.A (tryCompare (.ref a) "__ne__" u) (fun r s' => ∃ t, r = some (Value.bool t) ∧ EP X pins σ Q (.bool t) s') X.xe s := by
    unfold tryCompare
    refine wpAny_bind (wpAny_mono one (fun r s' z => ?_) fun _ _ e => e)
    obtain ⟨t, rfl, q⟩ := z
    exact wpAny_pure ⟨t, rfl, q⟩
  refine wpAny_bind (J.type.here (wpAny_bind (tyb.here ?_)))
  split
  · rename_i q
    have e : PySem.W.subIn X.K tb (.ref C) = some false := by
      rcases Bool.or_eq_true_iff.mp nf with e | e
      · rw [beq_iff_eq.mp e] at q; simp at q
      · exact beq_iff_eq.mp e
    refine wpAny_bind ((PySem.W.looks_subIn KX e).here ?_)
    simp only [Bool.false_eq_true, if_false]
    refine wpAny_bind (wpAny_mono two (fun r s' z => ?_) fun _ _ e => e)
    obtain ⟨t, rfl, q⟩ := z
    exact wpAny_pure q
  · refine wpAny_bind (wpAny_pure ?_)
    simp only [Bool.false_eq_true, if_false]
    refine wpAny_bind (wpAny_mono two (fun r s' z => ?_) fun _ _ e => e)
    obtain ⟨t, rfl, q⟩ := z
    exact wpAny_pure q
end
end DV

namespace DV
open PySem L2
section
variable {X : Cx} {g : Gx} {fs : List FS} {a b : Expr} {ia ib : E} {pos : Pos} {c k i : Nat} {F : FS}
theorem obj_of {d : D} (h : isObj c d = true) : ∃ ks ds, d = .obj c ks ds := by
  cases d <;> simp only [isObj, Bool.false_eq_true, beq_iff_eq] at h
  exact ⟨_, _, by rw [h]⟩
theorem rep_ins {A : Addr → Prop} {H : Hp} {d : D} {v : V} (h : isObj c d = true) (r : Rep g A H d v) : ∃ p dx fl, v = .ref p ∧ H p = some (.ins (g.cl c) dx fl) := by
  obtain ⟨ks, ds, rfl⟩ := obj_of h
  simp only [Rep] at r
  obtain ⟨p, dx, vs, rfl, _, _, hp, _⟩ := r
  exact ⟨p, dx, _, rfl, hp⟩
/-- the two ways of a comparison -/
theorem own_bool {o : OOp} {op : COp} {p : Bool → Bool} {Bn : Addr → Prop} {Ow : List Addr} {H : Hp} {σ : St} {Γ Γ' : Ct} {r : RV} {Q : VK} (hpo : ∀ r5 r, postO o r5 = some r → ∃ t, r5 = .fz (.bl t) ∧ r = .fz (.bl (p t))) (hpl : ∀ d e, plainO o d e = (cmpD op d e).map fun b => .fz (.bl b))
    (hF : fs[i]? = some F) (rs : RS g Bn Ow H σ Γ) (he : ev fs (.own o c i ia ib) Γ = some (r, Γ')) (hQ : ∀ v H' Ow', Stp Ow H Ow' H' → RS g Bn Ow' H' σ Γ' → Val g Bn Ow' H' σ Γ' r v → Q v H') :
    tR g fs ia σ H fun v H1 => tR g fs ib σ H1 fun w H2 => rCmp g op v w H2 Q ∨ ∃ A d e, Rep g A H2 d v ∧ Rep g A H2 e w ∧ isObj c (selfO o d e).1 = true ∧ okO o c (selfO o d e).2 = true ∧
      ∀ sv ov, Rep g A H2 (selfO o d e).1 sv → Rep g A H2 (selfO o d e).2 ov → spF g 2 F [sv, ov] H2 (fun z H' => ∃ t, z = .bl t ∧ Q (.bl (p t)) H') E0 := by
  simp only [ev] at he
  obtain ⟨⟨x, Γ1⟩, e1, he⟩ := Option.bind_eq_some_iff.mp he
  obtain ⟨⟨y, Γ2⟩, e2, he⟩ := Option.bind_eq_some_iff.mp he
  obtain ⟨d, ed, he⟩ := Option.bind_eq_some_iff.mp he
  obtain ⟨e, ee, he⟩ := Option.bind_eq_some_iff.mp he
  simp only at ed ee he
  split at he
  · obtain ⟨⟨d', Γ3⟩, f1, he⟩ := Option.bind_eq_some_iff.mp he
    obtain ⟨⟨e', Γ4⟩, f2, he⟩ := Option.bind_eq_some_iff.mp he
    simp only [Option.ite_none_right_eq_some, Bool.and_eq_true] at he
    obtain ⟨⟨ho1, ho2⟩, he⟩ := he
    obtain ⟨F', hF', he⟩ := Option.bind_eq_some_iff.mp he
    rw [hF] at hF'; cases hF'
    obtain ⟨⟨r5, Γ5⟩, e5, he⟩ := Option.bind_eq_some_iff.mp he
    obtain ⟨r', e6, he⟩ := Option.map_eq_some_iff.mp he
    simp only [Prod.mk.injEq] at he
    obtain ⟨rfl, rfl⟩ := he
    obtain ⟨t, rfl, rfl⟩ := hpo _ _ e6
    rw [← fre_dn] at f1 f2
    refine tR_two rs e1 e2 fun v w H2 O2 s2 r2 v2 w2 => .inr ?_
    obtain ⟨O3, s3, r3, p3⟩ := fre_ok r2 v2 f1
    obtain ⟨O4, s4, r4, p4⟩ := fre_ok r3 (w2.step s3 r3) f2
    refine ⟨Av Bn O4, d', e', p3.step s4 r4, p4, ho1, ho2, fun sv ov q1 q2 => ?_⟩
    refine callD_core (xs := [.fz (selfO o d' e').1, .fz (selfO o d' e').2]) (vs := [sv, ov]) r4 ⟨sv, [ov], rfl, q1, nofun, ov, [], rfl, q2, nofun, rfl⟩ e5 rfl fun z H' O5 s5 r5 v5 => ⟨t, ?_, ?_⟩
    · simpa only [Val, Rep] using v5
    · exact hQ _ H' O5 (((s2.trans s3).trans s4).trans s5) r5 (by simp only [Val, Rep])
  · obtain ⟨r', e6, he⟩ := Option.map_eq_some_iff.mp he
    simp only [Prod.mk.injEq] at he
    obtain ⟨rfl, rfl⟩ := he
    rw [hpl] at e6
    obtain ⟨t, e7, rfl⟩ := Option.map_eq_some_iff.mp e6
    rw [← datum_dn] at ed ee
    exact tR_two rs e1 e2 fun v w H2 O2 s2 r2 v2 w2 => .inl ⟨Av Bn O2, d, e, t, v2.rdb r2 ed, w2.rdb r2 ee, e7, hQ _ H2 O2 s2 r2 (by simp only [Val, Rep])⟩
theorem post_eq (r5 r : RV) (h : postO .eq r5 = some r) : ∃ t, r5 = .fz (.bl t) ∧ r = .fz (.bl (id t)) := by
  cases r5 with
  | fz d =>
    cases d with
    | bl t => simp only [postO, Option.some.injEq] at h; exact ⟨t, rfl, h.symm⟩
    | _ => simp only [postO, reduceCtorEq] at h
  | _ => simp only [postO, reduceCtorEq] at h
theorem post_ne (r5 r : RV) (h : postO .ne r5 = some r) : ∃ t, r5 = .fz (.bl t) ∧ r = .fz (.bl (not t)) := by
  cases r5 with
  | fz d =>
    cases d with
    | bl t => simp only [postO, Option.some.injEq] at h; exact ⟨t, rfl, h.symm⟩
    | _ => simp only [postO, reduceCtorEq] at h
  | _ => simp only [postO, reduceCtorEq] at h
theorem post_inn (r5 r : RV) (h : postO .inn r5 = some r) : ∃ t, r5 = .fz (.bl t) ∧ r = .fz (.bl (id t)) := by
  cases r5 with
  | fz d =>
    cases d with
    | bl t => simp only [postO, Option.some.injEq] at h; exact ⟨t, rfl, h.symm⟩
    | _ => simp only [postO, reduceCtorEq] at h
  | _ => simp only [postO, reduceCtorEq] at h
theorem post_notin (r5 r : RV) (h : postO .notin r5 = some r) : ∃ t, r5 = .fz (.bl t) ∧ r = .fz (.bl (not t)) := by
  cases r5 with
  | fz d =>
    cases d with
    | bl t => simp only [postO, Option.some.injEq] at h; exact ⟨t, rfl, h.symm⟩
    | _ => simp only [postO, reduceCtorEq] at h
  | _ => simp only [postO, reduceCtorEq] at h
section
variable {op : COp} {o : OOp} {p : Bool → Bool}
theorem own2_core {Bn : Addr → Prop} {Ow : List Addr} {H : Hp} {σ : St} {Γ Γ' : Ct} {r : RV} {Q : VK} (hs : ∀ d e, selfO o d e = (d, e)) (hk : ∀ e, okO o c e = (isObj c e || plainB e)) (cx : ClsX g c) (hpo : ∀ r5 r, postO o r5 = some r → ∃ t, r5 = .fz (.bl t) ∧ r = .fz (.bl (p t))) (hpl : ∀ d e, plainO o d e = (cmpD op d e).map fun b => .fz (.bl b))
    (hF : fs[i]? = some F) (rs : RS g Bn Ow H σ Γ) (he : ev fs (.own o c i ia ib) Γ = some (r, Γ')) (hQ : ∀ v H' Ow', Stp Ow H Ow' H' → RS g Bn Ow' H' σ Γ' → Val g Bn Ow' H' σ Γ' r v → Q v H') :
    tOp (fun x y H Q => rCmp g op x y H Q ∨ rOwn2 g.K (g.cl c) (spF g 2 F) p x y H Q) (tR g fs ia) (tR g fs ib) σ H Q := by
  obtain ⟨B, O, G, x, G1, q1, q2, q3⟩ := own_bool hpo hpl hF rs he hQ
  refine ⟨B, O, G, x, G1, q1, q2, fun v H1 O1 s1 r1 v1 => ?_⟩
  obtain ⟨B', O', G', y, G2, t1, t2, t3⟩ := q3 v H1 O1 s1 r1 v1
  refine ⟨B', O', G', y, G2, t1, t2, fun w H2 O2 s2 r2 w2 => ?_⟩
  rcases t3 w H2 O2 s2 r2 w2 with h | ⟨A, d, e, h1, h2, h3, h4, h5⟩
  · exact .inl h
  · rw [hs] at h3 h4 h5
    rw [hk] at h4
    obtain ⟨pa, dx, fl, rfl, e1⟩ := rep_ins h3 h1
    rcases Bool.or_eq_true_iff.mp h4 with h4 | h4
    · obtain ⟨pb, dy, gl, rfl, e2⟩ := rep_ins h4 h2
      exact .inr ⟨pa, dx, fl, _, rfl, e1, cx.ty e2, by simp [PySem.W.notFirst], h5 _ _ h1 h2⟩
    · exact .inr ⟨pa, dx, fl, _, rfl, e1, tyx_of h4 h2.rdb, by simp [PySem.W.notFirst, cx.nf _ (tyS_mem h4)], h5 _ _ h1 h2⟩
theorem ownIn_core {Bn : Addr → Prop} {Ow : List Addr} {H : Hp} {σ : St} {Γ Γ' : Ct} {r : RV} {Q : VK} (hs : ∀ d e, selfO o d e = (e, d)) (hpo : ∀ r5 r, postO o r5 = some r → ∃ t, r5 = .fz (.bl t) ∧ r = .fz (.bl (p t))) (hpl : ∀ d e, plainO o d e = (cmpD op d e).map fun b => .fz (.bl b))
    (hF : fs[i]? = some F) (rs : RS g Bn Ow H σ Γ) (he : ev fs (.own o c i ia ib) Γ = some (r, Γ')) (hQ : ∀ v H' Ow', Stp Ow H Ow' H' → RS g Bn Ow' H' σ Γ' → Val g Bn Ow' H' σ Γ' r v → Q v H') :
    tOp (fun x y H Q => rCmp g op x y H Q ∨ rOwnIn (g.cl c) (spF g 2 F) p x y H Q) (tR g fs ia) (tR g fs ib) σ H Q := by
  obtain ⟨B, O, G, x, G1, q1, q2, q3⟩ := own_bool hpo hpl hF rs he hQ
  refine ⟨B, O, G, x, G1, q1, q2, fun v H1 O1 s1 r1 v1 => ?_⟩
  obtain ⟨B', O', G', y, G2, t1, t2, t3⟩ := q3 v H1 O1 s1 r1 v1
  refine ⟨B', O', G', y, G2, t1, t2, fun w H2 O2 s2 r2 w2 => ?_⟩
  rcases t3 w H2 O2 s2 r2 w2 with h | ⟨A, d, e, h1, h2, h3, h4, h5⟩
  · exact .inl h
  · rw [hs] at h3 h5
    obtain ⟨pb, dy, gl, rfl, e2⟩ := rep_ins h3 h2
    exact .inr ⟨pb, dy, gl, rfl, e2, h5 _ _ h2 h1⟩
end
/-- the facts of an own class with == -/
theorem p_ownEq (cx : ClsX g c) (M : Mtd X.prog X.w X.mg X.base g k c "__eq__" 2 F) (C : Cok0 g X) (hF : fs[i]? = some F) (hr : Room k X.A) (ha : PE X a (tR g fs ia)) (hb : PE X b (tR g fs ib)) (hm : behindInMarks .Eq b = false) : PE X (.Compare a [.Eq] [b] pos) (tR g fs (.own .eq c i ia ib)) := by
  obtain ⟨f, fd, ps, h1, h2, h3, h4⟩ := M.ex
  rw [← C.K] at h1 h2 h3 h4
  refine PE.weak (pe_cmpR ((op_cmp C.K C.hu .eq).or (op_ownEq h4 hr h3 h2)) ha hb hm) ?_
  rintro σ H Q ⟨Bn, Ow, Γ, r, Γ', rs, he, hQ⟩
  rw [C.K]
  exact own2_core (fun _ _ => rfl) (fun _ => rfl) cx post_eq (fun _ _ => rfl) hF rs he hQ
theorem p_ownNe (cx : ClsX g c) (M : Mtd X.prog X.w X.mg X.base g k c "__eq__" 2 F) (hne : PySem.W.findIn g.K (.ref (g.cl c)) "__ne__" = some (some (.builtin "object.__ne__"))) (C : Cok0 g X) (hF : fs[i]? = some F) (hr : Room (k + 1) X.A) (ha : PE X a (tR g fs ia)) (hb : PE X b (tR g fs ib)) (hm : behindInMarks .NotEq b = false) : PE X (.Compare a [.NotEq] [b] pos) (tR g fs (.own .ne c i ia ib)) := by
  obtain ⟨f, fd, ps, h1, h2, h3, h4⟩ := M.ex
  have hi := cx.hm
  rw [← C.K] at h1 h2 h3 h4 hne hi
  refine PE.weak (pe_cmpR ((op_cmp C.K C.hu .ne).or (op_ownNe h4 hr h3 h2 hne hi)) ha hb hm) ?_
  rintro σ H Q ⟨Bn, Ow, Γ, r, Γ', rs, he, hQ⟩
  rw [C.K]
  exact own2_core (fun _ _ => rfl) (fun _ => rfl) cx post_ne (fun _ _ => rfl) hF rs he hQ
theorem p_ownIn (M : Mtd X.prog X.w X.mg X.base g k c "__contains__" 2 F) (C : Cok0 g X) (hF : fs[i]? = some F) (hr : Room k X.A) (ha : PE X a (tR g fs ia)) (hb : PE X b (tR g fs ib)) (hm : behindInMarks .In b = false) : PE X (.Compare a [.In] [b] pos) (tR g fs (.own .inn c i ia ib)) := by
  obtain ⟨f, fd, ps, h1, h2, h3, h4⟩ := M.ex
  rw [← C.K] at h1 h2 h3 h4
  refine PE.weak (pe_cmpR ((op_cmp C.K C.hu .inn).or (op_ownIn h4 hr h3 h2)) ha hb hm) ?_
  rintro σ H Q ⟨Bn, Ow, Γ, r, Γ', rs, he, hQ⟩
  exact ownIn_core (fun _ _ => rfl) post_inn (fun _ _ => rfl) hF rs he hQ
theorem p_ownNotIn (M : Mtd X.prog X.w X.mg X.base g k c "__contains__" 2 F) (C : Cok0 g X) (hF : fs[i]? = some F) (hr : Room k X.A) (ha : PE X a (tR g fs ia)) (hb : PE X b (tR g fs ib)) (hm : behindInMarks .NotIn b = false) : PE X (.Compare a [.NotIn] [b] pos) (tR g fs (.own .notin c i ia ib)) := by
  obtain ⟨f, fd, ps, h1, h2, h3, h4⟩ := M.ex
  rw [← C.K] at h1 h2 h3 h4
  refine PE.weak (pe_cmpR ((op_cmp C.K C.hu .notin).or (op_ownNotIn h4 hr h3 h2)) ha hb hm) ?_
  rintro σ H Q ⟨Bn, Ow, Γ, r, Γ', rs, he, hQ⟩
  exact ownIn_core (fun _ _ => rfl) post_notin (fun _ _ => rfl) hF rs he hQ
end
end DV

namespace DV
open PySem L2
section
variable {X : Cx} {g : Gx} {k : Nat} {f C : Addr} {fd : FuncData} {ps : List Str} {sp : Sp}
/-! ### o + p -/
def rOwnA (C : Addr) (sp : Sp) : R2 := fun x y H Q => ∃ a b dx fl dy gl, x = .ref a ∧ y = .ref b ∧ H a = some (.ins C dx fl) ∧ H b = some (.ins C dy gl) ∧ sp [x, y] H (fun v H' => Q v H') E0
theorem op_ownAdd (F : FnOk X.prog X.w X.K X.mg X.base CX0 k f fd ps sp) (hr : Room k X.A) (hb : Binds X.K fd ps []) (hm : Meth X.K C "__add__" f) (hc : PySem.W.selfFirst X.K C = true) : OpR X (binaryOp .Add) (rOwnA C sp) := by
  intro pins s σ H x y v u Q I rx ry h
  obtain ⟨a, b, dx, fl, dy, gl, rfl, rfl, ha, hb', h⟩ := h
  cases rx
  cases ry
  obtain ⟨mA, J, _⟩ := ins_get I.hok ha
  obtain ⟨mB, J', _⟩ := ins_get I.hok hb'
  obtain ⟨od, J, _⟩ := J.look
  obtain ⟨od', J', _⟩ := J'.look
  obtain ⟨m, hF⟩ := I.fr
  refine PySem.W.binop_K (op := .Add) hF I.ok.mod.kin J J'.type hc hm.at_ hm.fn ?_
  refine wpAny_mono (run_sub (vs := [.ref a, .ref b]) F ⟨hr, rfl⟩ hb I (.cons rfl (.cons rfl .nil)) h) (fun z s' q => ?_) fun _ _ z => z
  obtain ⟨w, H', I', rz, q⟩ := q
  have fin : EP X pins σ Q z s' := ⟨w, H', I', rz, q⟩
  cases w with
  | non => cases (show z = Value.none from rz); exact fin
  | bl b => cases (show z = Value.bool b from rz); exact fin
  | int b => obtain ⟨t, rfl⟩ := (show ∃ t, z = Value.int b t from rz); exact fin
  | str b => obtain ⟨t, rfl⟩ := (show ∃ t, z = Value.str b t from rz); exact fin
  | byt b => obtain ⟨t, rfl⟩ := (show ∃ t, z = Value.bytes b t from rz); exact fin
  | flt b => obtain ⟨t, rfl⟩ := (show ∃ t, z = Value.float b t from rz); exact fin
  | ref b => cases (show z = Value.ref b from rz); exact fin
  | ty b => cases (show z = Value.type b from rz); exact fin
/-! ### o[i] -/
def IxO (X : Cx) (r : R2) : Prop :=
  ∀ (value slice : Expr) (pins : List (Addr × Obj)) (s : Shared) (σ : St) (H : Hp) (x y : V) (v u : Value) (Q : VK), Inv X pins σ H s → RelV x v → RelV y u → r x y H Q →
    subscripted slice true v u = runValue (.builtin "lifetime.subscript" ⟨[v, u], []⟩) → wpAny (model X.prog X.w) X.A (PyProof.Rows.subscriptTail value slice v u) (EP X pins σ Q) X.xe s
theorem pe_ixO {a b : Expr} {ta tb : TE} {pos : Pos} {r r' : R2} (hr : IxR X r) (hr' : IxO X r') (ha : PE X a ta) (hb : PE X b tb) (hs : PlainIx b) (hs' : ∀ o i, subscripted b true o i = runValue (.builtin "lifetime.subscript" ⟨[o, i], []⟩)) : PE X (.Subscript a b pos) (tOp (fun x y H Q => r x y H Q ∨ r' x y H Q) ta tb) := by
  refine ⟨fun pins s σ H Q I h => ?_⟩
  refine PyProof.Rows.Subscript_ (binT ha hb I h fun v u s2 x y H2 I2 rx ry q => ?_)
  rcases q with q | q
  · exact hr a b pins s2 σ H2 x y v u Q I2 rx ry q (hs _ _)
  · exact hr' a b pins s2 σ H2 x y v u Q I2 rx ry q (hs' _ _)
theorem ix_own (F : FnOk X.prog X.w X.K X.mg X.base CX0 k f fd ps sp) (hr : Room (k + 1) X.A) (hb : Binds X.K fd ps []) (hm : Meth X.K C "__getitem__" f) (hf : PySem.W.fnIn X.K f = true) : IxO X (rOwn C sp) := by
  intro value slice pins s σ H x y v u Q I rx ry h hs
  obtain ⟨a, dx, fl, rfl, ha, h⟩ := h
  cases rx
  obtain ⟨mA, J, _⟩ := ins_get I.hok ha
  obtain ⟨od, J, _⟩ := J.look
  obtain ⟨m, hF⟩ := I.fr
  refine PySem.W.sub_K hF I.ok.mod.kin J hm.at_ hf hm.fn ?_ hs
  exact run_sub (vs := [.ref a, y]) F ⟨hr.in1, rfl⟩ hb I (.cons rfl (.cons ry .nil)) h
/-! ### len(o) -/
def rOwnL (C : Addr) (sp : Sp) : List V → Hp → VK → Prop := fun xs H Q => ∃ a dx fl, xs = [.ref a] ∧ H a = some (.ins C dx fl) ∧ sp [.ref a] H (fun v H' => ∃ n, v = .int n ∧ 0 ≤ n ∧ n < 1000000000 ∧ Q (.int n) H') E0
theorem call_ownLen (F : FnOk X.prog X.w X.K X.mg X.base CX0 k f fd ps sp) (hr : Room (k + 1) X.A) (hb : Binds X.K fd ps []) (hm : Meth X.K C "__len__" f) : CallR X (.builtin "len") (rOwnL C sp) := by
  intro pins s σ H xs us Q I r h
  obtain ⟨a, dx, fl, rfl, ha, h⟩ := h
  obtain ⟨u, rfl, r1⟩ := vals1 r
  cases r1
  obtain ⟨mA, J, _⟩ := ins_get I.hok ha
  obtain ⟨od, J, _⟩ := J.look
  obtain ⟨m, hF⟩ := I.fr
  refine PySem.W.len_K hF I.ok.mod.kin J hm.at_ hm.fn ?_
  refine wpAny_mono (run_sub (vs := [.ref a]) F ⟨hr.in1, rfl⟩ hb I (.cons rfl .nil) h) (fun z s' q => ?_) fun _ _ z => z
  obtain ⟨w, H', I', rz, n, rfl, h0, h1, q⟩ := q
  obtain ⟨t, rfl⟩ := (show ∃ t, z = Value.int n t from rz)
  exact ⟨⟨h0, by omega⟩, .int n, H', I'.tok _, ⟨_, rfl⟩, q⟩
end
section
variable {X : Cx} {g : Gx} {fs : List FS} {a b : Expr} {ia ib : E} {pos : Pos} {c k i : Nat} {F : FS}
/-- the two ways of an operator whose answer is a value -/
theorem own_val {o : OOp} {Bn : Addr → Prop} {Ow : List Addr} {H : Hp} {σ : St} {Γ Γ' : Ct} {r : RV} {Q : VK} {R : V → V → Hp → Prop} (hs : ∀ d e, selfO o d e = (d, e)) (hpo : ∀ r5, postO o r5 = some r5)
    (hF : fs[i]? = some F) (rs : RS g Bn Ow H σ Γ) (he : ev fs (.own o c i ia ib) Γ = some (r, Γ')) (hQ : ∀ v H' Ow', Stp Ow H Ow' H' → RS g Bn Ow' H' σ Γ' → Val g Bn Ow' H' σ Γ' r v → Q v H')
    (k1 : ∀ A d e v w H2, Rdb g A H2 d v → Rdb g A H2 e w → (∀ a, A a → H2 a ≠ none) → (∀ u H', Same H2 H' → Res g A H2 H' r u → Q u H') → plainO o d e = some r → R v w H2)
    (k2 : ∀ A d e v w H2, Rep g A H2 d v → Rep g A H2 e w → isObj c d = true → okO o c e = true → spF g 2 F [v, w] H2 Q E0 → R v w H2) :
    tR g fs ia σ H fun v H1 => tR g fs ib σ H1 fun w H2 => R v w H2 := by
  simp only [ev] at he
  obtain ⟨⟨x, Γ1⟩, e1, he⟩ := Option.bind_eq_some_iff.mp he
  obtain ⟨⟨y, Γ2⟩, e2, he⟩ := Option.bind_eq_some_iff.mp he
  obtain ⟨d, ed, he⟩ := Option.bind_eq_some_iff.mp he
  obtain ⟨e, ee, he⟩ := Option.bind_eq_some_iff.mp he
  simp only at ed ee he
  split at he
  · obtain ⟨⟨d', Γ3⟩, f1, he⟩ := Option.bind_eq_some_iff.mp he
    obtain ⟨⟨e', Γ4⟩, f2, he⟩ := Option.bind_eq_some_iff.mp he
    simp only [Option.ite_none_right_eq_some, Bool.and_eq_true] at he
    obtain ⟨⟨ho1, ho2⟩, he⟩ := he
    obtain ⟨F', hF', he⟩ := Option.bind_eq_some_iff.mp he
    rw [hF] at hF'; cases hF'
    obtain ⟨⟨r5, Γ5⟩, e5, he⟩ := Option.bind_eq_some_iff.mp he
    obtain ⟨r', e6, he⟩ := Option.map_eq_some_iff.mp he
    simp only [Prod.mk.injEq] at he
    obtain ⟨rfl, rfl⟩ := he
    rw [hpo] at e6; cases e6
    rw [← fre_dn] at f1 f2
    refine tR_two rs e1 e2 fun v w H2 O2 s2 r2 v2 w2 => ?_
    obtain ⟨O3, s3, r3, p3⟩ := fre_ok r2 v2 f1
    obtain ⟨O4, s4, r4, p4⟩ := fre_ok r3 (w2.step s3 r3) f2
    rw [hs] at ho1 ho2 e5
    have p3' := p3.step s4 r4
    refine k2 (Av Bn O4) d' e' v w H2 p3' p4 ho1 ho2 ?_
    exact callD_core (xs := [.fz d', .fz e']) (vs := [v, w]) r4 ⟨v, [w], rfl, p3', nofun, w, [], rfl, p4, nofun, rfl⟩ e5 rfl fun z H' O5 s5 r5 v5 => hQ _ H' O5 (((s2.trans s3).trans s4).trans s5) r5 v5
  · obtain ⟨r', e6, he⟩ := Option.map_eq_some_iff.mp he
    simp only [Prod.mk.injEq] at he
    obtain ⟨rfl, rfl⟩ := he
    rw [← datum_dn] at ed ee
    exact tR_two rs e1 e2 fun v w H2 O2 s2 r2 v2 w2 => k1 (Av Bn O2) d e v w H2 (v2.rdb r2 ed) (w2.rdb r2 ee) r2.trk (fun u H' sm res => let ⟨O3, s3, r3, val⟩ := res.val r2 sm; hQ u H' O3 (s2.trans s3) r3 val) e6
theorem p_ownIx (M : Mtd X.prog X.w X.mg X.base g k c "__getitem__" 2 F) (hfn : ∀ f, Meth g.K (g.cl c) "__getitem__" f → PySem.W.fnIn g.K f = true) (C : Cok0 g X) (hF : fs[i]? = some F) (hr : Room (k + 1) X.A) (ha : PE X a (tR g fs ia)) (hb : PE X b (tR g fs ib)) (hs : PlainIx b) (hs' : ∀ o i, subscripted b true o i = runValue (.builtin "lifetime.subscript" ⟨[o, i], []⟩)) : PE X (.Subscript a b pos) (tR g fs (.own .ix c i ia ib)) := by
  obtain ⟨f, fd, ps, h1, h2, h3, h4⟩ := M.ex
  have hf := hfn f h2
  rw [← C.K] at h1 h2 h3 h4 hf
  refine PE.weak (pe_ixO ix_seq (ix_own h4 hr h3 h2 hf) ha hb hs hs') ?_
  rintro σ H Q ⟨Bn, Ow, Γ, r, Γ', rs, he, hQ⟩
  refine own_val (fun _ _ => rfl) (fun _ => rfl) hF rs he hQ (fun A d e v w H2 q1 q2 tr q3 q4 => .inl ?_) fun A d e v w H2 q1 q2 q3 q4 q5 => .inr ?_
  · rw [C.K]
    simp only [plainO] at q4
    obtain ⟨z, q6, rfl⟩ := Option.map_eq_some_iff.mp q4
    exact ix_core q1 q2 q6 fun u ru => q3 u H2 (same_rfl H2) ru
  · obtain ⟨pa, dx, fl, rfl, e1⟩ := rep_ins q3 q1
    exact ⟨pa, dx, fl, rfl, e1, q5⟩
theorem p_ownAdd (M : Mtd X.prog X.w X.mg X.base g k c "__add__" 2 F) (hsf : PySem.W.selfFirst g.K (g.cl c) = true) (C : Cok0 g X) (hF : fs[i]? = some F) (hr : Room k X.A) (ha : PE X a (tR g fs ia)) (hb : PE X b (tR g fs ib)) : PE X (.BinOp a .Add b pos) (tR g fs (.own .add c i ia ib)) := by
  obtain ⟨f, fd, ps, h1, h2, h3, h4⟩ := M.ex
  rw [← C.K] at h1 h2 h3 h4 hsf
  refine PE.weak (pe_op ((op_bin C.K .add).or (op_ownAdd h4 hr h3 h2 hsf)) ha hb) ?_
  rintro σ H Q ⟨Bn, Ow, Γ, r, Γ', rs, he, hQ⟩
  refine own_val (fun _ _ => rfl) (fun _ => rfl) hF rs he hQ (fun A d e v w H2 q1 q2 tr q3 q4 => .inl ?_) fun A d e v w H2 q1 q2 q3 q4 q5 => .inr ?_
  · simp only [plainO] at q4
    exact ⟨A, d, e, r, q1, q2, tr, q4, q3⟩
  · obtain ⟨pa, dx, fl, rfl, e1⟩ := rep_ins q3 q1
    obtain ⟨pb, dy, gl, rfl, e2⟩ := rep_ins (g := g) (c := c) q4 q2
    exact ⟨pa, pb, dx, fl, dy, gl, rfl, rfl, e1, e2, q5⟩
theorem p_lenO {p : Pos} (M : Mtd X.prog X.w X.mg X.base g k c "__len__" 1 F) (C : Cok0 g X) (hF : fs[i]? = some F) (hr : Room (k + 1) X.A) (ha : PE X a (tR g fs ia)) (hg : Gl X "len") (hm : X.mg "len" = none)
    (he : starEach (a :: []) X.env = (false, eval a X.env) :: starEach [] X.env) (hpl : (backTo pos (starEach [] X.env)).any (·.1) = false) : PE X (.Call (.Name "len" p) [a] [] pos) (tR g fs (.lenO c i ia)) := by
  obtain ⟨f, fd, ps, h1, h2, h3, h4⟩ := M.ex
  rw [← C.K] at h1 h2 h3 h4
  have cr : CallR X (.builtin "len") (fun xs H Q => rBi g .len xs H Q ∨ rOwnL (g.cl c) (spF g 1 F) xs H Q) := by
    intro pins s σ H x v Q I rx q
    rcases q with q | q
    · exact b_len C.K pins s σ H x v Q I rx q
    · exact call_ownLen h4 hr h3 h2 pins s σ H x v Q I rx q
  refine PE.weak (pe_callB cr hg hm (by decide +kernel) (pa_cons ha pa_nil he) (by decide) (by decide) he hpl) ?_
  rintro σ H Q ⟨Bn, Ow, Γ, r, Γ', rs, he, hQ⟩
  simp only [ev] at he
  obtain ⟨⟨x, Γ1⟩, e1, he⟩ := Option.bind_eq_some_iff.mp he
  obtain ⟨d, ed, he⟩ := Option.bind_eq_some_iff.mp he
  simp only at ed he
  split at he
  · rename_i ho
    obtain ⟨⟨d', Γ2⟩, f1, he⟩ := Option.bind_eq_some_iff.mp he
    obtain ⟨F', hF', he⟩ := Option.bind_eq_some_iff.mp he
    rw [hF] at hF'; cases hF'
    obtain ⟨⟨r5, Γ5⟩, e5, he6⟩ := Option.bind_eq_some_iff.mp he
    refine ⟨Bn, Ow, Γ, x, Γ1, rs, e1, fun v H1 O1 s1 r1 v1 => .inr ?_⟩
    obtain ⟨O2, s2, r2, p2⟩ := fre_ok r1 v1 f1
    have dd : d' = d := by
      cases x with
      | fz z => simp only [fre, datum, Option.some.injEq, Prod.mk.injEq] at f1 ed; rw [← f1.1, ← ed]
      | nw z => simp only [fre, datum, Option.some.injEq, Prod.mk.injEq] at f1 ed; rw [← f1.1, ← ed]
      | sl j =>
        simp only [fre, datum] at f1 ed
        split at ed
        · rename_i y bb q
          rw [q] at f1
          cases bb <;> (simp only [Option.some.injEq, Prod.mk.injEq] at f1 ed; rw [← f1.1, ← ed])
        · cases ed
    subst dd
    obtain ⟨pa, dx, fl, rfl, e2⟩ := rep_ins ho p2
    refine ⟨pa, dx, fl, rfl, e2, ?_⟩
    refine callD_core (xs := [.fz d']) (vs := [.ref pa]) r2 ⟨_, [], rfl, p2, nofun, rfl⟩ e5 rfl fun z H' O5 s5 r5' v5 => ?_
    split at he6
    · rename_i n e7
      simp only at e7
      subst e7
      simp only [Option.ite_none_right_eq_some, Option.some.injEq, Prod.mk.injEq] at he6
      obtain ⟨hb, rfl, rfl⟩ := he6
      have hb := lenOk_iff.mp hb
      exact ⟨n, by simpa only [Val, Rep] using v5, hb.1, hb.2, hQ _ H' O5 ((s1.trans s2).trans s5) r5' (by simp only [Val, Rep])⟩
    · cases he6
  · obtain ⟨r', e6, he⟩ := Option.map_eq_some_iff.mp he
    simp only [Prod.mk.injEq] at he
    obtain ⟨rfl, rfl⟩ := he
    rw [← datum_dn] at ed
    exact tR_one rs e1 fun v H1 O1 s1 r1 v1 => .inl ⟨Av Bn O1, [d], r', .cons (v1.rdb r1 ed) .nil, r1.trk, e6, fun v H' sm res => let ⟨O3, s3, r3, val⟩ := res.val r1 sm; hQ v H' O3 (s1.trans s3) r3 val⟩
theorem p_isc {cs : List Nat} {y : Str} {p p2 : Pos} (hcs : ∀ c' ∈ cs, ClsX g c' ∧ PySem.W.kitOne g.K (.ref (g.cl c')) (.ref (g.cl c)) = some (c == c')) (hpl' : ∀ t ∈ plainTy, PySem.W.kitOne g.K (.type t) (.ref (g.cl c)) = some false) (C : Cok0 g X) (ha : PE X a (tR g fs ia)) (hgy : Gl X y) (hmy : X.mg y = some (.ref (g.cl c))) (hdy : (y == ("__debug__" : Str)) = false) (hg : Gl X "isinstance") (hm : X.mg "isinstance" = none)
    (he : starEach (a :: [.Name y p2]) X.env = (false, eval a X.env) :: starEach [.Name y p2] X.env) (hpl : (backTo pos (starEach [.Name y p2] X.env)).any (·.1) = false) : PE X (.Call (.Name "isinstance" p) [a, .Name y p2] [] pos) (tR g fs (.isc cs c ia)) := by
  have hy : PE X (.Name y p2) (tC (.ref (g.cl c))) := pe_glob (v := .ref (g.cl c)) hgy hmy rfl hdy
  refine PE.weak (pe_callB call_isi hg hm PyProof.Rows.boot_isinstance (pa_cons ha (pa_cons hy pa_nil rfl) he) (by decide) (by decide) he hpl) ?_
  rintro σ H Q ⟨Bn, Ow, Γ, r, Γ', rs, he, hQ⟩
  simp only [ev] at he
  obtain ⟨⟨x, Γ1⟩, e1, he⟩ := Option.bind_eq_some_iff.mp he
  obtain ⟨d, ed, he⟩ := Option.bind_eq_some_iff.mp he
  obtain ⟨bb, eb, he⟩ := Option.map_eq_some_iff.mp he
  simp only [Prod.mk.injEq] at he
  obtain ⟨rfl, rfl⟩ := he
  rw [← datum_dn] at ed
  refine tR_one rs e1 fun v H1 O1 s1 r1 v1 => ?_
  show rIsi X.K [v, .ref (g.cl c)] H1 Q
  rw [C.K]
  have rd := v1.rdb r1 ed
  have q := hQ _ H1 O1 s1 r1 (show Val g Bn O1 H1 σ Γ1 (.fz (.bl bb)) (.bl bb) by simp only [Val, Rep])
  by_cases hp : plainB d = true
  · have : bb = false := by cases d <;> simp only [iscD, Option.some.injEq, plainB, Bool.false_eq_true] at eb hp <;> exact eb.symm
    subst this
    exact ⟨v, _, _, _, false, rfl, .own _, tyx_of hp rd, hpl' _ (tyS_mem hp), q⟩
  · cases d <;> simp only [iscD, plainB, not_true_eq_false, reduceCtorEq] at eb hp
    rename_i c' ks ds
    simp only [Option.ite_none_right_eq_some, List.contains_eq_mem, decide_eq_true_eq, Option.some.injEq] at eb
    obtain ⟨hm', rfl⟩ := eb
    obtain ⟨pa, dx, vs, rfl, _, e2, _⟩ := rd
    exact ⟨_, _, _, _, _, rfl, .own _, (hcs c' hm').1.ty e2, (hcs c' hm').2, q⟩
end
end DV

namespace DV
open PySem L2
section
variable {g : Gx} {Bn : Addr → Prop} {Ow : List Addr} {H : Hp} {σ : St} {Γ : Ct}
theorem VlW.of : ∀ {xs : List RV} {vs : List V}, xs.length = vs.length → (∀ (i : Nat) x, xs[i]? = some x → ∃ v, vs[i]? = some v ∧ Val g Bn Ow H σ Γ x v) → (∀ (i k : Nat) d e v, xs[i]? = some (.nw d) → xs[k]? = some (.nw e) → vs[i]? = some v → vs[k]? = some v → i = k) → VlW g Bn Ow H σ Γ xs vs
  | [], vs, l, _, _ => by
    have : vs = [] := List.length_eq_zero_iff.mp l.symm
    exact this
  | x :: xs, [], l, _, _ => by simp at l
  | x :: xs, v :: vs, l, h, u => by
    refine ⟨v, vs, rfl, ?_, ?_, VlW.of (by simpa using l) (fun i y e => ?_) fun i k d e w h1 h2 h3 h4 => ?_⟩
    · obtain ⟨w, e1, e2⟩ := h 0 x rfl
      simp at e1; subst e1
      exact e2
    · intro d e j e' h1 h2
      have := u 0 (j + 1) d e' v (by simp [e]) (by simpa using h1) rfl (by simpa using h2)
      omega
    · obtain ⟨w, e1, e2⟩ := h (i + 1) y (by simpa using e)
      exact ⟨w, by simpa using e1, e2⟩
    · have := u (i + 1) (k + 1) d e w (by simpa using h1) (by simpa using h2) (by simpa using h3) (by simpa using h4)
      omega
theorem permL_get {α : Type} : ∀ {p : List Nat} {xs : List α}, (∀ i ∈ p, i < xs.length) → ∀ j : Nat, (permL p xs)[j]? = (p[j]?).bind fun i => xs[i]?
  | [], xs, _, j => by simp [permL]
  | i :: p, xs, h, j => by
    have hi := h i List.mem_cons_self
    have e : permL (i :: p) xs = xs[i] :: permL p xs := by simp [permL, List.getElem?_eq_getElem hi]
    rw [e]
    cases j with
    | zero => simp [List.getElem?_eq_getElem hi]
    | succ j => simpa using permL_get (fun k hk => h k (List.mem_cons_of_mem _ hk)) j
theorem permL_len {α : Type} {p : List Nat} {xs : List α} (h : ∀ i ∈ p, i < xs.length) : (permL p xs).length = p.length := by
  induction p with
  | nil => simp [permL]
  | cons i p ih =>
    have hi := h i List.mem_cons_self
    have e : permL (i :: p) xs = xs[i] :: permL p xs := by simp [permL, List.getElem?_eq_getElem hi]
    rw [e, List.length_cons, List.length_cons, ih fun k hk => h k (List.mem_cons_of_mem _ hk)]
theorem nodupB_iff : ∀ {p : List Nat}, nodupB p = true → p.Nodup
  | [], _ => List.nodup_nil
  | x :: p, h => by
    obtain ⟨h1, h2⟩ := nodupB_cons h
    exact List.nodup_cons.mpr ⟨h1, nodupB_iff h2⟩
theorem VlW.perm {p : List Nat} {xs : List RV} {vs : List V} (h : VlW g Bn Ow H σ Γ xs vs) (hp : permOk p xs.length = true) : VlW g Bn Ow H σ Γ (permL p xs) (permL p vs) := by
  simp only [permOk, Bool.and_eq_true, List.all_eq_true, decide_eq_true_eq] at hp
  obtain ⟨nd, hr⟩ := hp
  have hr' : ∀ i ∈ p, i < vs.length := fun i m => by rw [← h.len]; exact hr i m
  refine VlW.of (by rw [permL_len hr, permL_len hr']) (fun i x e => ?_) fun i k d e v h1 h2 h3 h4 => ?_
  · rw [permL_get hr] at e
    obtain ⟨j, e1, e2⟩ := Option.bind_eq_some_iff.mp e
    obtain ⟨v, e3, e4⟩ := h.get e2
    exact ⟨v, by rw [permL_get hr', e1]; exact e3, e4⟩
  · rw [permL_get hr] at h1 h2
    rw [permL_get hr'] at h3 h4
    obtain ⟨j1, a1, a2⟩ := Option.bind_eq_some_iff.mp h1
    obtain ⟨j2, b1, b2⟩ := Option.bind_eq_some_iff.mp h2
    rw [a1] at h3
    rw [b1] at h4
    have := h.uniq a2 b2 h3 h4
    subst this
    exact ((List.getElem?_inj (List.getElem?_eq_some_iff.mp a1).1 (nodupB_iff nd)).mp (a1.trans b1.symm))
end
section
variable {X : Cx} {g : Gx} {fs : List FS}
/-- one behind another -/
def tFold (g : Gx) (fs : List FS) : List E → TA
  | [] => tNil
  | ie :: ies => tCons (tR g fs ie) (tFold g fs ies)
theorem fold_mono : ∀ {is : List E} {σ : St} {H : Hp} {Q Q' : List V → Hp → Prop}, (∀ vs H', Q vs H' → Q' vs H') → tFold g fs is σ H Q → tFold g fs is σ H Q'
  | [], _, _, _, _, k, h => k _ _ h
  | i :: is, σ, H, Q, Q', k, h => by
    obtain ⟨Bn, Ow, Γ, x, Γ1, rs, e1, kk⟩ := h
    exact ⟨Bn, Ow, Γ, x, Γ1, rs, e1, fun v H1 O1 s1 r1 v1 => fold_mono (fun vs H' q => k _ _ q) (kk v H1 O1 s1 r1 v1)⟩
theorem pf_nil : PA X [] (tFold g fs []) := pa_nil
theorem pf_cons {a : Expr} {es : List Expr} {ia : E} {ies : List E} (ha : PE X a (tR g fs ia)) (hr : PA X es (tFold g fs ies)) (hs : starEach (a :: es) X.env = (false, eval a X.env) :: starEach es X.env) : PA X (a :: es) (tFold g fs (ia :: ies)) := pa_cons ha hr hs
theorem kf_nil : PK X [] (tFold g fs []) := pk_nil
theorem kf_cons {a : Expr} {kws : List Keyword} {nm : Option Str} {kpos : Pos} {ia : E} {ies : List E} (ha : PE X a (tR g fs ia)) (hr : PK X kws (tFold g fs ies)) : PK X (⟨nm, a, kpos⟩ :: kws) (tFold g fs (ia :: ies)) := pk_cons ha hr
theorem fold_one {ies : List E} : ∀ {jes : List E} {σ : St} {H : Hp} {Q : List V → Hp → Prop}, tAw g fs (jes ++ ies) σ H Q → tFold g fs jes σ H fun vs H1 => tAw g fs ies σ H1 fun zs H2 => Q (vs ++ zs) H2
  | [], _, _, _, h => h
  | j :: jes, σ, H, Q, h => by
    obtain ⟨Bn, Ow, Γ, x, Γ1, rs, e1, kk⟩ := aw_split h
    exact ⟨Bn, Ow, Γ, x, Γ1, rs, e1, fun v H1 O1 s1 r1 v1 => fold_one (kk v H1 O1 s1 r1 v1)⟩
theorem aw_done {σ : St} {H : Hp} {Q : List V → Hp → Prop} (h : tAw g fs [] σ H Q) : Q [] H := by
  obtain ⟨Bn, Ow, Γ, xs, Γ', rs, he, hQ⟩ := h
  simp only [evs, Option.some.injEq, Prod.mk.injEq] at he
  obtain ⟨rfl, rfl⟩ := he
  exact hQ [] H Ow (.refl _ _) rs rfl
def dfl (ns : List Int) : List E := ns.map fun n => .cst (.int n)
theorem aw_dfl : ∀ {ns : List Int} {σ : St} {H : Hp} {Q : List V → Hp → Prop}, tAw g fs (dfl ns) σ H Q → Q (ns.map .int) H
  | [], _, _, _, h => aw_done h
  | n :: ns, σ, H, Q, h => by
    obtain ⟨Bn, Ow, Γ, x, Γ1, rs, e1, kk⟩ := aw_split h
    simp only [ev, Option.some.injEq, Prod.mk.injEq] at e1
    obtain ⟨rfl, rfl⟩ := e1
    exact aw_dfl (Q := fun vs H2 => Q (.int n :: vs) H2) (kk (.int n) H Ow (.refl _ _) rs (by simp only [Val, Rep]))
theorem fold_all {ies jes : List E} {ns : List Int} {σ : St} {H : Hp} {Q : List V → Hp → Prop} (h : tAw g fs (ies ++ (jes ++ dfl ns)) σ H Q) : tFold g fs ies σ H fun vs H1 => tFold g fs jes σ H1 fun zs H2 => Q (vs ++ (zs ++ ns.map .int)) H2 := by
  exact fold_mono (fun vs H1 q => fold_mono (fun zs H2 q => aw_dfl q) (fold_one q)) (fold_one h)
theorem fold_len : ∀ {ies : List E} {σ : St} {H : Hp} {Q : List V → Hp → Prop}, tFold g fs ies σ H Q → tFold g fs ies σ H fun vs H1 => vs.length = ies.length ∧ Q vs H1
  | [], _, _, _, h => ⟨rfl, h⟩
  | i :: is, σ, H, Q, h => by
    obtain ⟨Bn, Ow, Γ, x, Γ1, rs, e1, kk⟩ := h
    refine ⟨Bn, Ow, Γ, x, Γ1, rs, e1, fun v H1 O1 s1 r1 v1 => ?_⟩
    have q := fold_len (kk v H1 O1 s1 r1 v1)
    exact fold_mono (fun vs H' q => ⟨by rw [List.length_cons, List.length_cons, q.1], q.2⟩) q
theorem fold_len2 {ies jes : List E} {σ : St} {H : Hp} {Q : List V → List V → Hp → Prop} (h : tFold g fs ies σ H fun vs H1 => tFold g fs jes σ H1 fun zs H2 => Q vs zs H2) : tFold g fs ies σ H fun vs H1 => tFold g fs jes σ H1 fun zs H2 => vs.length = ies.length ∧ zs.length = jes.length ∧ Q vs zs H2 := by
  exact fold_mono (fun vs H1 q => fold_mono (fun zs H2 q2 => ⟨q.1, q2.1, q2.2⟩) (fold_len q.2)) (fold_len h)
/-- a def called with n values and keywords ks; p: where each parameter stands -/
structure CalK (P : Program) (w : World) (mg : Str → Option Value) (base : Heap) (g : Gx) (k : Nat) (x : Str) (n : Nat) (ks : List Str) (p : List Nat) (F : FS) : Prop where
  ex : ∃ f fd ps gg gV, mg x = some (.ref f) ∧ PySem.W.keepIn g.K (.ref f) = true ∧ KBn g.K fd ps n ks gg gV ∧ (∀ vs zs : List V, vs.length = n → zs.length = ks.length → gV vs zs = permL p (vs ++ zs)) ∧ FnOk P w g.K mg base CX0 k f fd ps (spF g p.length F)
theorem CalK.mono {P : Program} {w : World} {mg : Str → Option Value} {base : Heap} {j k n : Nat} {x : Str} {ks : List Str} {p : List Nat} {F : FS} (h : CalK P w mg base g j x n ks p F) (l : j ≤ k) : CalK P w mg base g k x n ks p F := by
  obtain ⟨f, fd, ps, gg, gV, h1, h2, h3, h5, h4⟩ := h.ex
  exact ⟨f, fd, ps, gg, gV, h1, h2, h3, h5, h4.mono l⟩
theorem callp_core {i : Nat} {ies jes : List E} {p : List Nat} {F : FS} {σ : St} {H : Hp} {Q : VK} {Ex : XK} (hF : fs[i]? = some F) (h : tR g fs (.callp i p (ies ++ jes)) σ H Q) :
    tFold g fs ies σ H fun vs H1 => tFold g fs jes σ H1 fun zs H2 => vs.length = ies.length ∧ zs.length = jes.length ∧ spF g p.length F (permL p (vs ++ zs)) H2 Q Ex := by
  obtain ⟨Bn, Ow, Γ, r, Γ', rs, he, hQ⟩ := h
  simp only [ev] at he
  obtain ⟨⟨xs, Γ1⟩, e1, he⟩ := Option.bind_eq_some_iff.mp he
  obtain ⟨F', e4, he⟩ := Option.bind_eq_some_iff.mp he
  rw [hF] at e4; cases e4
  simp only [Option.ite_none_right_eq_some] at he
  obtain ⟨hp, he⟩ := he
  have key : tAw g fs (ies ++ (jes ++ dfl [])) σ H fun ws H2 => spF g p.length F (permL p ws) H2 Q Ex := by
    rw [show dfl [] = ([] : List E) from rfl, List.append_nil]
    refine ⟨Bn, Ow, Γ, xs, Γ1, rs, e1, fun ws H1 O1 s1 r1 v1 => ?_⟩
    have hr : ∀ i ∈ p, i < ws.length := by
      simp only [permOk, Bool.and_eq_true, List.all_eq_true, decide_eq_true_eq] at hp
      rw [← v1.len]; exact hp.2
    exact callD_core r1 (v1.perm hp) he (permL_len hr) fun v H' O' st => hQ v H' O' (s1.trans st)
  have := fold_len2 (fold_all key)
  simpa only [List.map_nil, List.append_nil] using this
section
variable {e : Expr} {es : List Expr} {kws : List Keyword} {ies jes : List E} {c k i n : Nat} {ks : List Str} {F : FS} {x : Str} {p : List Nat} {q pos : Pos} {ns : List Int}
theorem c_callK (c : CalK X.prog X.w X.mg X.base g k x n ks p F) (C : Cok0 g X) (hF : fs[i]? = some F) (hn : ies.length = n) (hj : jes.length = ks.length) (hr : Room k X.A) (hg : Gl X x) (ha : PA X (e :: es) (tFold g fs ies)) (hkw : PK X kws (tFold g fs jes))
    (hall : (backToKw pos (keywordEach kws X.env)).all (·.1.isSome) = true) (hks : (backToKw pos (keywordEach kws X.env)).filterMap (·.1) = ks) (hdb : (x == ("__debug__" : Str)) = false) (he : starEach (e :: es) X.env = (false, eval e X.env) :: starEach es X.env)
    (hpl : ((backTo pos (starEach (e :: es) X.env)).any (·.1) || (backToKw pos (keywordEach kws X.env)).any (·.1.isNone)) = false) :
    PE X (.Call (.Name x q) (e :: es) kws pos) (tR g fs (.callp i p (ies ++ jes))) := by
  obtain ⟨f, fd, ps, gg, gV, h1, h2, h3, h5, h4⟩ := c.ex
  rw [← C.K] at h2 h3 h4
  refine PE.weak (pe_callN h4 hr hg h1 h2 h3 pass0 ha hkw hall hks hdb he hpl) fun σ H Q h => ?_
  have core := callp_core (Ex := E0) hF h
  exact fold_mono (fun vs H1 q => fold_mono (fun zs H2 q => ⟨q.1.trans hn, q.2.1.trans hj, by rw [h5 vs zs (q.1.trans hn) (q.2.1.trans hj)]; exact q.2.2⟩) q) core
theorem c_callK0 (c : CalK X.prog X.w X.mg X.base g k x 0 ks p F) (C : Cok0 g X) (hF : fs[i]? = some F) (hj : jes.length = ks.length) (hr : Room k X.A) (hg : Gl X x) (hkw : PK X kws (tFold g fs jes))
    (hall : (backToKw pos (keywordEach kws X.env)).all (·.1.isSome) = true) (hks : (backToKw pos (keywordEach kws X.env)).filterMap (·.1) = ks) (hdb : (x == ("__debug__" : Str)) = false)
    (hpl : ((backTo pos (starEach [] X.env)).any (·.1) || (backToKw pos (keywordEach kws X.env)).any (·.1.isNone)) = false) :
    PE X (.Call (.Name x q) [] kws pos) (tR g fs (.callp i p jes)) := by
  obtain ⟨f, fd, ps, gg, gV, h1, h2, h3, h5, h4⟩ := c.ex
  rw [← C.K] at h2 h3 h4
  refine ⟨fun pins s σ H Q I h => ?_⟩
  have core : tFold g fs jes σ H fun zs H2 => zs.length = jes.length ∧ spF g p.length F (permL p zs) H2 Q E0 := by
    have := callp_core (Ex := E0) (ies := []) hF h
    exact fold_mono (fun vs H1 q => ⟨q.2.1, by simpa using q.2.2⟩) this
  refine wpAny_Call_Name_kw (ld_glob I hg h1 ?_ hdb)
  refine PySem.W.callWith_KW0 (h₀ := X.base) I.ok.mod.kin h2 hall ?_ hpl
  refine thn (hkw.run pos pins s σ H _ I core) fun ws s2 ⟨zs, H2, I2, rz, l1, q2⟩ => ⟨I2.kIn, ?_⟩
  rw [hks]
  exact run_fnN (us := []) (vs := []) h4 hr h3 pass0 I2 .nil rz rfl (l1.trans hj) (by rw [h5 [] zs rfl (l1.trans hj)]; exact q2)
/-- a new object, called with n values and keywords ks; ns: the numbers that lack -/
structure MkdK (P : Program) (w : World) (mg : Str → Option Value) (base : Heap) (g : Gx) (k : Nat) (c : Nat) (x : Str) (n : Nat) (ks : List Str) (p : List Nat) (ns : List Int) (F : FS) : Prop where
  ex : ∃ f fd ps gg gV, mg x = some (.ref (g.cl c)) ∧ Mk g.K (g.cl c) f ∧ KBn g.K fd ps (n + 1) ks gg gV ∧ (∀ (s : V) (vs zs : List V), vs.length = n → zs.length = ks.length → gV (s :: vs) zs = s :: permL p (vs ++ (zs ++ ns.map .int))) ∧ ps.length = p.length + 1 ∧ FnOk P w g.K mg base CX0 k f fd ps (spF g (p.length + 1) F)
theorem MkdK.mono {P : Program} {w : World} {mg : Str → Option Value} {base : Heap} {j k c n : Nat} {x : Str} {ks : List Str} {p : List Nat} {ns : List Int} {F : FS} (h : MkdK P w mg base g j c x n ks p ns F) (l : j ≤ k) : MkdK P w mg base g k c x n ks p ns F := by
  obtain ⟨f, fd, ps, gg, gV, h1, h2, h3, h5, h6, h4⟩ := h.ex
  exact ⟨f, fd, ps, gg, gV, h1, h2, h3, h5, h6, h4.mono l⟩
theorem mkp_core {i c np : Nat} {ies jes : List E} {p : List Nat} {F : FS} {σ : St} {H : Hp} {Q : VK} {Ex : XK} (hF : fs[i]? = some F) (hp : np = p.length + 1) (h : tR g fs (.mkp c i p (ies ++ (jes ++ dfl ns))) σ H Q) :
    tFold g fs ies σ H fun vs H1 => tFold g fs jes σ H1 fun zs H2 => vs.length = ies.length ∧ zs.length = jes.length ∧ ∀ x dx, H2 x = none → H2 dx = none → dx ≠ x →
    (V.ref x :: permL p (vs ++ (zs ++ ns.map .int))).length = np ∧ (kfs g.K (upd (upd H2 dx (.own x)) x (.ins (g.cl c) dx [])) → spF g (p.length + 1) F (V.ref x :: permL p (vs ++ (zs ++ ns.map .int))) (upd (upd H2 dx (.own x)) x (.ins (g.cl c) dx [])) (fun v H2 => v = .non ∧ Q (.ref x) H2) Ex) := by
  obtain ⟨Bn, Ow, Γ, r, Γ', rs, he, hQ⟩ := h
  simp only [ev] at he
  obtain ⟨⟨xs, Γ1⟩, e1, he⟩ := Option.bind_eq_some_iff.mp he
  obtain ⟨F', e4, he⟩ := Option.bind_eq_some_iff.mp he
  rw [hF] at e4; cases e4
  simp only [Option.ite_none_right_eq_some] at he
  obtain ⟨hpk, he⟩ := he
  refine fold_len2 (fold_all (Q := fun ws H2 => ∀ x dx, H2 x = none → H2 dx = none → dx ≠ x →
    (V.ref x :: permL p ws).length = np ∧ (kfs g.K (upd (upd H2 dx (.own x)) x (.ins (g.cl c) dx [])) → spF g (p.length + 1) F (V.ref x :: permL p ws) (upd (upd H2 dx (.own x)) x (.ins (g.cl c) dx [])) (fun v H2 => v = .non ∧ Q (.ref x) H2) Ex)) ⟨Bn, Ow, Γ, xs, Γ1, rs, e1, fun ws H1 O1 s1 r1 v1 => ?_⟩)
  have hr : ∀ i ∈ p, i < ws.length := by
    simp only [permOk, Bool.and_eq_true, List.all_eq_true, decide_eq_true_eq] at hpk
    rw [← v1.len]; exact hpk.2
  exact mkD_core r1 (v1.perm hpk) he (permL_len hr) hp fun v H' O' st => hQ v H' O' (s1.trans st)
theorem p_mkK (M : MkdK X.prog X.w X.mg X.base g k c x n ks p ns F) (C : Cok0 g X) (hF : fs[i]? = some F) (hn : ies.length = n) (hj : jes.length = ks.length) (hr : Room (k + 1) X.A) (hg : Gl X x) (ha : PA X (e :: es) (tFold g fs ies)) (hkw : PK X kws (tFold g fs jes))
    (hall : (backToKw pos (keywordEach kws X.env)).all (·.1.isSome) = true) (hks : (backToKw pos (keywordEach kws X.env)).filterMap (·.1) = ks) (hdb : (x == ("__debug__" : Str)) = false) (he : starEach (e :: es) X.env = (false, eval e X.env) :: starEach es X.env)
    (hpl : ((backTo pos (starEach (e :: es) X.env)).any (·.1) || (backToKw pos (keywordEach kws X.env)).any (·.1.isNone)) = false) :
    PE X (.Call (.Name x q) (e :: es) kws pos) (tR g fs (.mkp c i p (ies ++ (jes ++ dfl ns)))) := by
  obtain ⟨f, fd, ps, gg, gV, h1, h2, h3, h5, h6, h4⟩ := M.ex
  have h7 := FnOk.kf h4
  rw [← C.K] at h2 h3 h7
  refine PE.weak (pe_makeK h2 h7 hr hg h1 h3 pass0 ha hkw hall hks hdb he hpl) fun σ H Q h => ?_
  have core := mkp_core (Ex := E0) hF h6 h
  rw [← C.K] at core
  exact fold_mono (fun vs H1 q => fold_mono (fun zs H2 q => ⟨q.1.trans hn, q.2.1.trans hj, fun x dx a1 a2 a3 => by rw [h5 _ vs zs (q.1.trans hn) (q.2.1.trans hj)]; exact q.2.2 x dx a1 a2 a3⟩) q) core
theorem p_mkK0 (M : MkdK X.prog X.w X.mg X.base g k c x 0 ks p ns F) (C : Cok0 g X) (hF : fs[i]? = some F) (hj : jes.length = ks.length) (hr : Room (k + 1) X.A) (hg : Gl X x) (hkw : PK X kws (tFold g fs jes))
    (hall : (backToKw pos (keywordEach kws X.env)).all (·.1.isSome) = true) (hks : (backToKw pos (keywordEach kws X.env)).filterMap (·.1) = ks) (hdb : (x == ("__debug__" : Str)) = false)
    (hpl : ((backTo pos (starEach [] X.env)).any (·.1) || (backToKw pos (keywordEach kws X.env)).any (·.1.isNone)) = false) :
    PE X (.Call (.Name x q) [] kws pos) (tR g fs (.mkp c i p (jes ++ dfl ns))) := by
  obtain ⟨f, fd, ps, gg, gV, h1, h2, h3, h5, h6, h4⟩ := M.ex
  have h7 := FnOk.kf h4
  rw [← C.K] at h2 h3 h7
  refine PE.weak (pe_makeK0 h2 h7 hr hg h1 h3 pass0 hkw hall hks hdb hpl) fun σ H Q h => ?_
  have core := mkp_core (Ex := E0) (ies := []) hF h6 h
  rw [← C.K] at core
  exact fold_mono (fun zs H2 q => ⟨rfl, q.2.1.trans hj, fun x dx a1 a2 a3 => by rw [h5 _ [] zs rfl (q.2.1.trans hj)]; exact q.2.2 x dx a1 a2 a3⟩) core
/-- positional values alone, with numbers that lack -/
theorem p_mkD (M : MkdK X.prog X.w X.mg X.base g k c x n [] p ns F) (C : Cok0 g X) (hF : fs[i]? = some F) (hn : ies.length = n) (hr : Room (k + 1) X.A) (hg : Gl X x) (ha : PA X (e :: es) (tFold g fs ies)) (hdb : (x == ("__debug__" : Str)) = false) (he : starEach (e :: es) X.env = (false, eval e X.env) :: starEach es X.env)
    (hpl : (backTo pos (starEach es X.env)).any (·.1) = false) :
    PE X (.Call (.Name x q) (e :: es) [] pos) (tR g fs (.mkp c i p (ies ++ ([] ++ dfl ns)))) := by
  obtain ⟨f, fd, ps, gg, gV, h1, h2, h3, h5, h6, h4⟩ := M.ex
  have h7 := FnOk.kf h4
  rw [← C.K] at h2 h3 h7
  refine ⟨fun pins s σ H Q I h => ?_⟩
  have core := mkp_core (Ex := E0) (jes := []) hF h6 h
  rw [← C.K] at core
  refine wpAny_Call_Name_kw (ld_glob I hg h1 ?_ hdb)
  refine PySem.W.callWith_K (h₀ := X.base) I.ok.mod.kin h2.kp (thn (ha.run pos pins s σ H _ I core) fun us s1 ⟨vs, H1, I1, r, q⟩ => ⟨I1.kIn, ?_⟩) he hpl
  exact run_makeK (us := us) (vs := vs) (ws := []) (zs := []) h2 h7 hr h3 pass0 I1 r .nil (q.1.trans hn) rfl (fun x dx a1 a2 a3 => by rw [h5 _ vs [] (q.1.trans hn) rfl]; exact q.2.2 x dx a1 a2 a3)
end
end
end DV

namespace DV
open PySem L2
variable {Wx : L2.XK}
section
variable {P : Program} {w : World} {mg : Str → Option Value} {base : Heap} {g : Gx} {fs : List FS}
theorem def_fnD {x qual : Str} {params : Arguments} {body : List Stmt} {scope : Scope} {dvs : List V} {kws : List (Str × V)} {f : Addr} {fd : FuncData} {N ps : List Str} {k np n : Nat} {ir : List S} (F : FunD g.K x qual params body scope dvs kws f fd) (S : FnScope N ps scope) (hp : ps.length = np) (hN : N.length = n) (ge : g.ea = none)
    (hbody : ∀ (cdv : Value) (A : Around) (outer : List Env) (s : Shared) (H : Hp) (E : XK), Room k (cxOf CX0 P w g.K mg base N qual scope f cdv A outer s H E).nox.A → Cok g (cxOf CX0 P w g.K mg base N qual scope f cdv A outer s H E).nox →
      PSs (cxOf CX0 P w g.K mg base N qual scope f cdv A outer s H E).nox body (tSs g Wx fs ir)) : FnOk P w g.K mg base CX0 (k + 1) f fd ps (spF g np (runF fs np n ir)) := by
  refine F.ok S (fun vs H Q E h => by rw [h.1, hp]) fun cdv A outer s H vs Q E hr h => ?_
  refine ⟨_, (hbody cdv A outer s H E hr ⟨rfl, rfl, hr.units, S.nd, ge⟩).nox, ?_⟩
  obtain ⟨hl, Bn, Ow, Γ, r, os, rs, ef, nr, hQ⟩ := h
  have hG : Γ.length = np := by rw [← rs.len, List.length_map, hl]
  have hle : np ≤ n := by
    rw [← hN, ← hp]
    have := congrArg List.length S.pre
    rw [List.length_take] at this
    omega
  simp only [runF, hG, if_true] at ef
  obtain ⟨o, e1, e2⟩ := Option.bind_eq_some_iff.mp ef
  have est : L2.start N vs = vs.map some ++ List.replicate (n - np) none := by rw [← hN, ← hl]; rfl
  refine ⟨(n, (ownPs 0 Γ).map fun i => (i, vs.getD i .non)), Bn, Ow, Γ ++ List.replicate (n - np) none, o, ?_, ⟨?_, fun p hp => ?_⟩, ?_, ?_⟩
  · rw [est]; exact rs.start _
  · rw [est, List.length_append, List.length_map, List.length_replicate, hl]; show np + (n - np) = n; omega
  · obtain ⟨i, hi, rfl⟩ := List.mem_map.mp hp
    obtain ⟨j, d, rfl, h⟩ := ownPs_mem.mp hi
    have hj : j < vs.length := by
      have h1 := (List.getElem?_eq_some_iff.mp h).1
      omega
    rw [est]
    show (vs.map some ++ List.replicate (n - np) none)[0 + j]? = some (some (vs.getD (0 + j) .non))
    rw [Nat.zero_add, List.getElem?_append_left (by rw [List.length_map]; exact hj), List.getElem?_map, List.getElem?_eq_getElem hj, List.getD_eq_getElem?_getD, List.getElem?_eq_getElem hj]
    rfl
  · rw [List.map_map]
    show exs fs ((ownPs 0 Γ).map id) ir _ = some o
    rw [List.map_id]
    exact e1
  · rw [← hG] at e2
    exact finish_ok rs (by omega) e2 hQ
theorem paired_get {α β : Type} {R : α → β → Prop} : ∀ {xs : List α} {ys : List β}, Paired R xs ys → ∀ i : Nat, (∃ x y, xs[i]? = some x ∧ ys[i]? = some y ∧ R x y) ∨ (xs[i]? = none ∧ ys[i]? = none)
  | _, _, .nil, i => .inr ⟨by simp, by simp⟩
  | _, _, .cons r t, 0 => .inl ⟨_, _, rfl, rfl, r⟩
  | _, _, .cons r t, i + 1 => by simpa using paired_get t i
theorem paired_perm {α β : Type} {R : α → β → Prop} {xs : List α} {ys : List β} (h : Paired R xs ys) : ∀ p : List Nat, Paired R (permL p xs) (permL p ys)
  | [] => .nil
  | i :: p => by
    have ih := paired_perm h p
    rcases paired_get h i with ⟨x, y, e1, e2, r⟩ | ⟨e1, e2⟩
    · have a1 : permL (i :: p) xs = x :: permL p xs := by simp [permL, e1]
      have a2 : permL (i :: p) ys = y :: permL p ys := by simp [permL, e2]
      rw [a1, a2]
      exact .cons r ih
    · have a1 : permL (i :: p) xs = permL p xs := by simp [permL, e1]
      have a2 : permL (i :: p) ys = permL p ys := by simp [permL, e2]
      rw [a1, a2]
      exact ih
/-- keywords of a def without defaults -/
theorem fun_kbn {K : PySem.W.Frag} {x qual : Str} {st : Stmt} {f : Addr} {fd : FuncData} {ps : List Str} (F : Fun K x qual st f fd) {n : Nat} {ks : List Str} {p : List Nat}
    (h : ∀ (kV doc pm : Value) (an : Option Addr) (cdv ct : Value) (us ws : List Value), us.length = n → ws.length = ks.length → bindArgs (PySem.W.fnOf x qual (defArgs st) (defBody st) (defScope st) .none kV doc pm an cdv ct) ⟨us, ks.zip ws⟩ = pure (ps.zip (permL p (us ++ ws)))) :
    KBn K fd ps n ks (fun us ws => permL p (us ++ ws)) (fun vs zs => permL p (vs ++ zs)) := by
  obtain ⟨oc, od, kV, doc, pm, an, cdv, ct, osl, rfl, lk, hcd⟩ := F.ex
  exact ⟨fun s us ws _ l1 l2 => .of_eq (h kV doc pm an cdv ct us ws l1 l2), fun r1 r2 => paired_perm (r1.append r2) p⟩
theorem calk_of {x qual : Str} {st : Stmt} {f : Addr} {fd : FuncData} {ps : List Str} {n np k : Nat} {ks : List Str} {p : List Nat} {F : FS} (Fu : Fun g.K x qual st f fd) (hm : mg x = some (.ref f)) (hp : p.length = np) (G : FnOk P w g.K mg base CX0 k f fd ps (spF g np F))
    (h : ∀ (kV doc pm : Value) (an : Option Addr) (cdv ct : Value) (us ws : List Value), us.length = n → ws.length = ks.length → bindArgs (PySem.W.fnOf x qual (defArgs st) (defBody st) (defScope st) .none kV doc pm an cdv ct) ⟨us, ks.zip ws⟩ = pure (ps.zip (permL p (us ++ ws)))) : CalK P w mg base g k x n ks p F := by
  subst hp
  exact ⟨f, fd, ps, _, _, hm, Fu.kp, fun_kbn Fu h, fun vs zs _ _ => rfl, G⟩
/-- the order of an __init__: the object, then p -/
def gI {α : Type} (p : List Nat) (us mv ws : List α) : List α := match us with
  | [] => []
  | s :: r => s :: permL p (r ++ (ws ++ mv))
theorem gI_rel (p : List Nat) {vs mz zs : List V} {us mv ws : List Value} (h1 : Vals vs us) (h2 : Vals mz mv) (h3 : Vals zs ws) : Vals (gI p vs mz zs) (gI p us mv ws) := by
  cases h1 with
  | nil => exact .nil
  | cons r t => exact .cons r (paired_perm (Vals.append t (h3.append h2)) p)
theorem mkdk_of {c k n np : Nat} {x qual : Str} {params : Arguments} {body : List Stmt} {scope : Scope} {kws : List (Str × V)} {f : Addr} {fd : FuncData} {ps ks : List Str} {p : List Nat} {ms : List (Str × V)} {ns : List Int} {F : FS} {y : Str} (Fu : FunD g.K y qual params body scope [] kws f fd) (hk : kws ≠ []) (hms : ∀ q ∈ ms, q ∈ kws) (hns : ms.map (·.2) = ns.map V.int)
    (hm : mg x = some (.ref (g.cl c))) (M : Mk g.K (g.cl c) f) (hp : p.length = np) (hps : ps.length = np + 1) (G : FnOk P w g.K mg base CX0 k f fd ps (spF g (np + 1) F))
    (h : ∀ (D : Addr) (doc pm : Value) (an : Option Addr) (cdv ct : Value) (us mv ws : List Value), us.length = n + 1 → mv.length = ms.length → ws.length = ks.length →
      KwChain D ((ms.map (·.1)).zip mv) (bindArgs (PySem.W.fnOf y qual params body scope .none (.ref D) doc pm an cdv ct) ⟨us, ks.zip ws⟩) (ps.zip (gI p us mv ws))) : MkdK P w mg base g k c x n ks p ns F := by
  subst hp
  obtain ⟨mv, kb⟩ := Fu.kbinds0 (n + 1) ks ms (fun us mv ws => gI p us mv ws) hk hms (fun h1 h2 h3 => gI_rel p h1 h2 h3) h
  refine ⟨f, fd, ps, _, _, hm, M, kb, fun s vs zs _ _ => ?_, hps, G⟩
  show s :: permL p (vs ++ (zs ++ ms.map (·.2))) = _
  rw [hns]
theorem mkdk_of0 {c k n np : Nat} {x qual : Str} {st : Stmt} {f : Addr} {fd : FuncData} {ps ks : List Str} {p : List Nat} {F : FS} {y : Str} (Fu : Fun g.K y qual st f fd)
    (hm : mg x = some (.ref (g.cl c))) (M : Mk g.K (g.cl c) f) (hp : p.length = np) (hps : ps.length = np + 1) (G : FnOk P w g.K mg base CX0 k f fd ps (spF g (np + 1) F))
    (h : ∀ (kV doc pm : Value) (an : Option Addr) (cdv ct : Value) (us ws : List Value), us.length = n + 1 → ws.length = ks.length → bindArgs (PySem.W.fnOf y qual (defArgs st) (defBody st) (defScope st) .none kV doc pm an cdv ct) ⟨us, ks.zip ws⟩ = pure (ps.zip (gI p us [] ws))) : MkdK P w mg base g k c x n ks p [] F := by
  subst hp
  obtain ⟨oc, od, kV, doc, pm, an, cdv, ct, osl, rfl, lk, hcd⟩ := Fu.ex
  exact ⟨f, _, ps, fun us ws => gI p us [] ws, fun vs zs => gI p vs [] zs, hm, M, ⟨fun s us ws _ l1 l2 => .of_eq (h kV doc pm an cdv ct us ws l1 l2), fun r1 r2 => gI_rel p r1 .nil r2⟩, fun s vs zs _ _ => by simp [gI], hps, G⟩
/-- an __init__ with keyword-only numbers -/
theorem fund_mk {K : PySem.W.Frag} {x qual : Str} {st : Stmt} {f D : Addr} {oc : Value} {od an : Option Addr} {osl : Array (Option Value)} {doc pm cdv ct : Value} {y : Str} {n : Int} {t : Tok} (l : K.lookup f = some ⟨oc, od, .func (PySem.W.fnOf x qual (defArgs st) (defBody st) (defScope st) .none (.ref D) doc pm an cdv ct), osl⟩)
    (c : PySem.W.codeIn K cdv qual = true) (k : PySem.W.keepIn K (.ref f) = true) (d : PySem.W.nsIn K D y = some (some (.int n t))) : FunD K x qual (defArgs st) (defBody st) (defScope st) [] [(y, .int n)] f (PySem.W.fnOf x qual (defArgs st) (defBody st) (defScope st) .none (.ref D) doc pm an cdv ct) :=
  ⟨⟨oc, od, .none, .ref D, doc, pm, an, cdv, ct, osl, rfl, l, c, .inl ⟨rfl, rfl⟩, .inr ⟨D, rfl, fun q hq => by
    rcases List.mem_cons.mp hq with rfl | hq
    · exact ⟨_, d, t, rfl⟩
    · cases hq⟩⟩, k⟩
end
section
variable {X : Cx} {g : Gx} {fs : List FS} {x : Str} {pos : Pos}
/-- a text that the top has written -/
def GStr (mg : Str → Option Value) (x : Str) (z : Str) : Prop := ∃ t, mg x = some (.str z t)
theorem k_gstr {z : Str} (C : Cok0 g X) (h : GStr X.mg x z) (hg : Gl X x) (hd : (x == ("__debug__" : Str)) = false) : PE X (.Name x pos) (tR g fs (.cst (.str z))) := by
  obtain ⟨t, h⟩ := h
  exact p_cst (pe_glob (v := .str z) hg h ⟨t, rfl⟩ hd) C.K fun _ _ _ => by simp only [Rep]
/-- a tuple that the top has written -/
def GTup (K : PySem.W.Frag) (mg : Str → Option Value) (x : Str) (ds : List D) (vs : List V) : Prop := ∃ a o its n, mg x = some (.ref a) ∧ K.lookup a = some o ∧ o.cls = .type "tuple" ∧ o.data = .seq its n ∧ its.size ≤ sizeLine ∧ Vals vs its.toList
theorem k_gtup {ds : List D} {vs : List V} (C : Cok0 g X) (h : GTup g.K X.mg x ds vs) (hr : ∀ A H, Reps g A H ds vs) (hg : Gl X x) (hd : (x == ("__debug__" : Str)) = false) : PE X (.Name x pos) (tR g fs (.cst (.tup ds))) := by
  obtain ⟨a, o, its, n, h1, h2, h3, h4, h5, h6⟩ := h
  refine p_cst (pe_glob (v := .ref a) hg h1 rfl hd) C.K fun A H ka => ?_
  simp only [Rep]
  exact ⟨a, vs, rfl, (fun z => by rw [ka a z] at h2; simp at h2), .inr ⟨o, its, n, h2, h3, h4, h5, h6⟩, hr A H⟩
end
end DV

namespace DV
open PySem L2
theorem all_nil {α : Type} (P : α → Prop) : ∀ c ∈ ([] : List α), P c := fun _ h => nomatch h
theorem all_cons {α : Type} {P : α → Prop} {c : α} {cs : List α} (h : P c) (t : ∀ c ∈ cs, P c) : ∀ d ∈ c :: cs, P d := fun d m => by
  rcases List.mem_cons.mp m with rfl | m
  · exact h
  · exact t d m
theorem kit_pl {K : PySem.W.Frag} {C : Addr} {t : Value} {b : Bool} (h1 : PySem.W.isClsIn K C = true) (h2 : PySem.W.typeIn K (.ref C) = some (.type "type")) (h4 : (t == .ref C) = false) (h3 : PySem.W.subIn K t (.ref C) = some b) : PySem.W.kitOne K t (.ref C) = some b := by
  unfold PySem.W.kitOne PySem.W.kitCls
  unfold PySem.W.isClsIn at h1
  simp only [h4, h1, h2, Bool.false_eq_true, if_false, beq_self_eq_true, Bool.and_self, if_true]
  exact h3
theorem kit_me {K : PySem.W.Frag} {C : Addr} : PySem.W.kitOne K (.ref C) (.ref C) = some true := by
  unfold PySem.W.kitOne
  simp
theorem so_eq (d e : D) : selfO .eq d e = (d, e) := rfl
theorem so_ne (d e : D) : selfO .ne d e = (d, e) := rfl
theorem so_in (d e : D) : selfO .inn d e = (e, d) := rfl
theorem so_ni (d e : D) : selfO .notin d e = (e, d) := rfl
theorem so_ix (d e : D) : selfO .ix d e = (d, e) := rfl
theorem so_ad (d e : D) : selfO .add d e = (d, e) := rfl
theorem oo_eq (c : Nat) (e : D) : okO .eq c e = (isObj c e || plainB e) := rfl
theorem oo_ne (c : Nat) (e : D) : okO .ne c e = (isObj c e || plainB e) := rfl
theorem oo_in (c : Nat) (e : D) : okO .inn c e = true := rfl
theorem oo_ni (c : Nat) (e : D) : okO .notin c e = true := rfl
theorem oo_ix (c : Nat) (e : D) : okO .ix c e = true := rfl
theorem oo_ad (c : Nat) (e : D) : okO .add c e = isObj c e := rfl
theorem pb_non : plainB .non = true := rfl
theorem pb_int (i : Int) : plainB (.int i) = true := rfl
theorem pb_bl (i : Bool) : plainB (.bl i) = true := rfl
theorem pb_str (i : Str) : plainB (.str i) = true := rfl
theorem pb_lst (i : List D) : plainB (.lst i) = true := rfl
theorem pb_tup (i : List D) : plainB (.tup i) = true := rfl
theorem ic_non (cs : List Nat) (c : Nat) : iscD cs c .non = some false := rfl
theorem ic_int (cs : List Nat) (c : Nat) (i : Int) : iscD cs c (.int i) = some false := rfl
theorem ic_bl (cs : List Nat) (c : Nat) (i : Bool) : iscD cs c (.bl i) = some false := rfl
theorem ic_str (cs : List Nat) (c : Nat) (i : Str) : iscD cs c (.str i) = some false := rfl
theorem ic_lst (cs : List Nat) (c : Nat) (i : List D) : iscD cs c (.lst i) = some false := rfl
theorem ic_tup (cs : List Nat) (c : Nat) (i : List D) : iscD cs c (.tup i) = some false := rfl
theorem io_non (c : Nat) : isObj c .non = false := rfl
theorem io_int (c : Nat) (i : Int) : isObj c (.int i) = false := rfl
theorem io_bl (c : Nat) (i : Bool) : isObj c (.bl i) = false := rfl
theorem io_str (c : Nat) (i : Str) : isObj c (.str i) = false := rfl
theorem io_lst (c : Nat) (i : List D) : isObj c (.lst i) = false := rfl
theorem io_tup (c : Nat) (i : List D) : isObj c (.tup i) = false := rfl
def clOf (cs : List Addr) : Nat → Addr := fun c => cs.getD c 0
/-- the law's promise, the classes left open -/
def spN (K : PySem.W.Frag) (F : FS) : Sp := fun vs H Q E => vs.length = 1 ∧ ∀ cl, spF ⟨K, cl, [], none⟩ 1 F vs H Q E
theorem spN_of {P : Program} {w : World} {K : PySem.W.Frag} {mg : Str → Option Value} {base : Heap} {k : Nat} {f : Addr} {fd : FuncData} {ps : List Str} {F : FS} {cl : Nat → Addr} (h : FnOk P w K mg base CX0 k f fd ps (spF ⟨K, cl, [], none⟩ 1 F)) : FnOk P w K mg base CX0 k f fd ps (spN K F) :=
  ⟨fun vs H Q E q => h.len vs H Q E (q.2 cl), fun A outer s H args us vs Q E hr he hb hv hs => h.run A outer s H args us vs Q E hr he hb hv (hs.2 cl)⟩
theorem sp_lawN {K : PySem.W.Frag} {F : FS} {ns : List Int} {a : Addr} {H : Hp} {os : Ct} (hF : F [some (.scr ns, false)] = some (.fz (.bl true), os)) (hS : SqL K H a (ns.map V.int)) : spN K F [.ref a] H (fun v _ => v = .bl true) fun _ _ _ => False := ⟨rfl, fun cl => sp_law hF hS nofun⟩
section
variable {X : Cx} {g : Gx} {fs : List FS} {a b : Expr} {ia ib : E} {pos : Pos} {c k i : Nat} {F : FS}
theorem own_isb {o : OOp} {op : COp} {p : Bool → Bool} {Γ Γ' : Ct} {r : RV} (hpo : ∀ r5 r, postO o r5 = some r → ∃ t, r5 = .fz (.bl t) ∧ r = .fz (.bl (p t))) (hpl : ∀ d e, plainO o d e = (cmpD op d e).map fun b => .fz (.bl b)) (he : ev fs (.own o c i ia ib) Γ = some (r, Γ')) : ∃ b, r = .fz (.bl b) := by
  simp only [ev] at he
  obtain ⟨⟨x, Γ1⟩, e1, he⟩ := Option.bind_eq_some_iff.mp he
  obtain ⟨⟨y, Γ2⟩, e2, he⟩ := Option.bind_eq_some_iff.mp he
  obtain ⟨d, ed, he⟩ := Option.bind_eq_some_iff.mp he
  obtain ⟨e, ee, he⟩ := Option.bind_eq_some_iff.mp he
  simp only at ed ee he
  split at he
  · obtain ⟨⟨d', Γ3⟩, f1, he⟩ := Option.bind_eq_some_iff.mp he
    obtain ⟨⟨e', Γ4⟩, f2, he⟩ := Option.bind_eq_some_iff.mp he
    simp only [Option.ite_none_right_eq_some, Bool.and_eq_true] at he
    obtain ⟨⟨ho1, ho2⟩, he⟩ := he
    obtain ⟨F', hF', he⟩ := Option.bind_eq_some_iff.mp he
    obtain ⟨⟨r5, Γ5⟩, e5, he⟩ := Option.bind_eq_some_iff.mp he
    obtain ⟨r', e6, he⟩ := Option.map_eq_some_iff.mp he
    simp only [Prod.mk.injEq] at he
    obtain ⟨rfl, rfl⟩ := he
    obtain ⟨t, rfl, rfl⟩ := hpo _ _ e6
    exact ⟨_, rfl⟩
  · obtain ⟨r', e6, he⟩ := Option.map_eq_some_iff.mp he
    simp only [Prod.mk.injEq] at he
    obtain ⟨rfl, rfl⟩ := he
    rw [hpl] at e6
    obtain ⟨t, e7, rfl⟩ := Option.map_eq_some_iff.mp e6
    exact ⟨_, rfl⟩
theorem test_of {Bn : Addr → Prop} {Ow : List Addr} {H : Hp} {σ : St} {Γ' : Ct} {r : RV} {t : Bool} {Q : Bool → Hp → Prop} (hr : ∃ b, r = .fz (.bl b)) (ht : testD Γ' r = some t) (hQ : ∀ H' Ow', Stp Ow H Ow' H' → RS g Bn Ow' H' σ Γ' → Q t H') :
    ∀ v H' Ow', Stp Ow H Ow' H' → RS g Bn Ow' H' σ Γ' → Val g Bn Ow' H' σ Γ' r v → ∃ k, v = .bl k ∧ Q k H' := by
  obtain ⟨b, rfl⟩ := hr
  simp only [testD, datum, Option.bind_some, truthD, Option.some.injEq] at ht
  subst ht
  intro v H' O' s1 r1 v1
  simp only [Val, Rep] at v1
  exact ⟨b, v1, hQ H' O' s1 r1⟩
theorem t_ownEq (cx : ClsX g c) (M : Mtd X.prog X.w X.mg X.base g k c "__eq__" 2 F) (C : Cok0 g X) (hF : fs[i]? = some F) (hr : Room k X.A) (ha : PE X a (tR g fs ia)) (hb : PE X b (tR g fs ib)) (hm : behindInMarks .Eq b = false) : PT X (.Compare a [.Eq] [b] pos) (tT g fs (.own .eq c i ia ib)) := by
  obtain ⟨f, fd, ps, h1, h2, h3, h4⟩ := M.ex
  rw [← C.K] at h1 h2 h3 h4
  refine PT.weak (pt_cmpR ((op_cmp C.K C.hu .eq).or (op_ownEq h4 hr h3 h2)) ha hb hm) ?_
  rintro σ H Q ⟨Bn, Ow, Γ, r, Γ', t, rs, he, ht, hQ⟩
  rw [C.K]
  exact own2_core (fun _ _ => rfl) (fun _ => rfl) cx post_eq (fun _ _ => rfl) hF rs he (test_of (own_isb post_eq (op := .eq) (fun _ _ => rfl) he) ht hQ)
theorem t_ownNe (cx : ClsX g c) (M : Mtd X.prog X.w X.mg X.base g k c "__eq__" 2 F) (hne : PySem.W.findIn g.K (.ref (g.cl c)) "__ne__" = some (some (.builtin "object.__ne__"))) (C : Cok0 g X) (hF : fs[i]? = some F) (hr : Room (k + 1) X.A) (ha : PE X a (tR g fs ia)) (hb : PE X b (tR g fs ib)) (hm : behindInMarks .NotEq b = false) : PT X (.Compare a [.NotEq] [b] pos) (tT g fs (.own .ne c i ia ib)) := by
  obtain ⟨f, fd, ps, h1, h2, h3, h4⟩ := M.ex
  have hi := cx.hm
  rw [← C.K] at h1 h2 h3 h4 hne hi
  refine PT.weak (pt_cmpR ((op_cmp C.K C.hu .ne).or (op_ownNe h4 hr h3 h2 hne hi)) ha hb hm) ?_
  rintro σ H Q ⟨Bn, Ow, Γ, r, Γ', t, rs, he, ht, hQ⟩
  rw [C.K]
  exact own2_core (fun _ _ => rfl) (fun _ => rfl) cx post_ne (fun _ _ => rfl) hF rs he (test_of (own_isb post_ne (op := .ne) (fun _ _ => rfl) he) ht hQ)
theorem t_ownIn (M : Mtd X.prog X.w X.mg X.base g k c "__contains__" 2 F) (C : Cok0 g X) (hF : fs[i]? = some F) (hr : Room k X.A) (ha : PE X a (tR g fs ia)) (hb : PE X b (tR g fs ib)) (hm : behindInMarks .In b = false) : PT X (.Compare a [.In] [b] pos) (tT g fs (.own .inn c i ia ib)) := by
  obtain ⟨f, fd, ps, h1, h2, h3, h4⟩ := M.ex
  rw [← C.K] at h1 h2 h3 h4
  refine PT.weak (pt_cmpR ((op_cmp C.K C.hu .inn).or (op_ownIn h4 hr h3 h2)) ha hb hm) ?_
  rintro σ H Q ⟨Bn, Ow, Γ, r, Γ', t, rs, he, ht, hQ⟩
  exact ownIn_core (fun _ _ => rfl) post_inn (fun _ _ => rfl) hF rs he (test_of (own_isb post_inn (op := .inn) (fun _ _ => rfl) he) ht hQ)
theorem t_ownNotIn (M : Mtd X.prog X.w X.mg X.base g k c "__contains__" 2 F) (C : Cok0 g X) (hF : fs[i]? = some F) (hr : Room k X.A) (ha : PE X a (tR g fs ia)) (hb : PE X b (tR g fs ib)) (hm : behindInMarks .NotIn b = false) : PT X (.Compare a [.NotIn] [b] pos) (tT g fs (.own .notin c i ia ib)) := by
  obtain ⟨f, fd, ps, h1, h2, h3, h4⟩ := M.ex
  rw [← C.K] at h1 h2 h3 h4
  refine PT.weak (pt_cmpR ((op_cmp C.K C.hu .notin).or (op_ownNotIn h4 hr h3 h2)) ha hb hm) ?_
  rintro σ H Q ⟨Bn, Ow, Γ, r, Γ', t, rs, he, ht, hQ⟩
  exact ownIn_core (fun _ _ => rfl) post_notin (fun _ _ => rfl) hF rs he (test_of (own_isb post_notin (op := .notin) (fun _ _ => rfl) he) ht hQ)
end
end DV

namespace DV
open PySem L2
/-! ### single steps of the evaluation -/
section
variable {fs : List FS} {a b c : E} {es : List E} {Γ Γ1 Γ2 Γ3 Γ4 Γ5 : Ct} {x y r r' : RV} {xs : List RV} {d e d' e' : D} {F : FS} {k i : Nat} {t : Bool}
theorem ev_mk (h1 : evs fs es Γ = some (xs, Γ1)) (h2 : fs[k]? = some F) (h3 : mkD F i xs Γ1 = some (r, Γ2)) : ev fs (.mk i k es) Γ = some (r, Γ2) := by
  rw [DV.ev.eq_21]
  simp only [h1, h2, Option.bind_some, h3]
theorem ev_call (h1 : evs fs es Γ = some (xs, Γ1)) (h2 : fs[k]? = some F) (h3 : callD F xs Γ1 = some (r, Γ2)) : ev fs (.call k es) Γ = some (r, Γ2) := by
  rw [DV.ev.eq_16]
  simp only [h1, h2, Option.bind_some]
  unfold callD at h3
  exact h3
theorem evs_1 (h : ev fs a Γ = some (x, Γ1)) : evs fs [a] Γ = some ([x], Γ1) := by
  simp only [DV.evs.eq_2, DV.evs.eq_1, h, Option.bind_some, Option.map_some]
theorem evs_c (h : ev fs a Γ = some (x, Γ1)) (h2 : evs fs es Γ1 = some (xs, Γ2)) : evs fs (a :: es) Γ = some (x :: xs, Γ2) := by
  simp only [DV.evs.eq_2, h, h2, Option.bind_some, Option.map_some]
theorem ev_own {o : OOp} (h1 : ev fs a Γ = some (x, Γ1)) (h2 : ev fs b Γ1 = some (y, Γ2)) (h3 : datum Γ2 x = some d) (h4 : datum Γ2 y = some e) (h5 : isObj i (selfO o d e).1 = true) (h6 : fre Γ2 x = some (d', Γ3)) (h7 : fre Γ3 y = some (e', Γ4)) (h8 : isObj i (selfO o d' e').1 = true) (h9 : okO o i (selfO o d' e').2 = true)
    (h10 : fs[k]? = some F) (h11 : callD F [.fz (selfO o d' e').1, .fz (selfO o d' e').2] Γ4 = some (r, Γ5)) (h12 : postO o r = some r') : ev fs (.own o i k a b) Γ = some (r', Γ5) := by
  rw [DV.ev.eq_22]
  simp only [h1, h2, Option.bind_some, h3, h4, h5, if_true, h6, h7, h8, h9, Bool.and_self, h10, h11, h12, Option.map_some]
theorem ev_or_f (h1 : ev fs a Γ = some (x, Γ1)) (h2 : testD Γ1 x = some false) (h3 : ev fs b Γ1 = some (y, Γ2)) : ev fs (.or a b) Γ = some (y, Γ2) := by
  rw [DV.ev.eq_9]
  simp only [h1, Option.bind_some, h2, Bool.false_eq_true, if_false, h3]
theorem ev_or_t (h1 : ev fs a Γ = some (x, Γ1)) (h2 : testD Γ1 x = some true) : ev fs (.or a b) Γ = some (x, Γ1) := by
  rw [DV.ev.eq_9]
  simp only [h1, Option.bind_some, h2, if_true]
theorem ev_and_t (h1 : ev fs a Γ = some (x, Γ1)) (h2 : testD Γ1 x = some true) (h3 : ev fs b Γ1 = some (y, Γ2)) : ev fs (.and a b) Γ = some (y, Γ2) := by
  rw [DV.ev.eq_8]
  simp only [h1, Option.bind_some, h2, if_true, h3]
theorem ev_and_f (h1 : ev fs a Γ = some (x, Γ1)) (h2 : testD Γ1 x = some false) : ev fs (.and a b) Γ = some (x, Γ1) := by
  rw [DV.ev.eq_8]
  simp only [h1, Option.bind_some, h2, Bool.false_eq_true, if_false]
theorem ev_not (h1 : ev fs a Γ = some (x, Γ1)) (h2 : testD Γ1 x = some t) : ev fs (.not a) Γ = some (.fz (.bl (!t)), Γ1) := by
  rw [DV.ev.eq_10]
  simp only [h1, Option.bind_some, h2, Option.map_some]
theorem ev_cmp {o : COp} (h1 : ev fs a Γ = some (x, Γ1)) (h2 : ev fs b Γ1 = some (y, Γ2)) (h3 : datum Γ2 x = some d) (h4 : datum Γ2 y = some e) (h5 : cmpD o d e = some t) : ev fs (.cmp o a b) Γ = some (.fz (.bl t), Γ2) := by
  rw [DV.ev.eq_6]
  simp only [h1, h2, Option.bind_some, h3, h4, h5, Option.map_some]
theorem ev_bin {o : BOp} (h1 : ev fs a Γ = some (x, Γ1)) (h2 : ev fs b Γ1 = some (y, Γ2)) (h3 : datum Γ2 x = some d) (h4 : datum Γ2 y = some e) (h5 : binD o d e = some r) : ev fs (.bin o a b) Γ = some (r, Γ2) := by
  rw [DV.ev.eq_4]
  simp only [h1, h2, Option.bind_some, h3, h4, h5, Option.map_some]
theorem ev_ite {z : RV} (h1 : ev fs a Γ = some (x, Γ1)) (h2 : testD Γ1 x = some t) (h3 : ev fs (if t then b else c) Γ1 = some (z, Γ2)) : ev fs (.ite a b c) Γ = some (z, Γ2) := by
  rw [DV.ev.eq_11]
  simp only [h1, Option.bind_some, h2]
  cases t <;> simpa using h3
theorem test_b (Γ : Ct) (b : Bool) : testD Γ (.fz (.bl b)) = some b := by simp only [testD, datum, Option.bind_some, truthD]
end
end DV

namespace DV
/-- the evaluation equations, as one fact -/
def SC := And.intro (And.intro (And.intro (And.intro (And.intro (And.intro (And.intro (@DV.runF.eq_1) (And.intro (@DV.exs.eq_1) (@DV.exs.eq_2))) (And.intro (And.intro (@DV.ex.eq_1) (@DV.ex.eq_2)) (And.intro (@DV.ex.eq_3) (@DV.ex.eq_4)))) (And.intro (And.intro (And.intro (@DV.ex.eq_5) (@DV.ex.eq_6)) (And.intro (@DV.ex.eq_7) (@DV.ex.eq_8))) (And.intro (And.intro (@DV.ex.eq_9) (@DV.ex.eq_10)) (And.intro (@DV.ex.eq_11) (@DV.ex.eq_12))))) (And.intro (And.intro (And.intro (@DV.ex.eq_13) (And.intro (@DV.ex.eq_14) (@DV.ex.eq_15))) (And.intro (And.intro (@DV.ex.eq_16) (@DV.ev.eq_1)) (And.intro (@DV.ev.eq_2) (@DV.ev.eq_3)))) (And.intro (And.intro (And.intro (@DV.ev.eq_4) (@DV.ev.eq_5)) (And.intro (@DV.ev.eq_6) (@DV.ev.eq_7))) (And.intro (And.intro (@DV.ev.eq_8) (@DV.ev.eq_9)) (And.intro (@DV.ev.eq_10) (@DV.ev.eq_11)))))) (And.intro (And.intro (And.intro (And.intro (@DV.ev.eq_12) (And.intro (@DV.ev.eq_13) (@DV.ev.eq_14))) (And.intro (And.intro (@DV.ev.eq_15) (@DV.ev.eq_16)) (And.intro (@DV.ev.eq_17) (@DV.ev.eq_18)))) (And.intro (And.intro (And.intro (@DV.evs.eq_1) (@DV.evs.eq_2)) (And.intro (@DV.evc.eq_1) (@DV.evc.eq_2))) (And.intro (And.intro (@DV.evn.eq_1) (@DV.evn.eq_2)) (And.intro (@DV.parS.eq_1) (@DV.parS.eq_2))))) (And.intro (And.intro (And.intro (And.intro (@DV.parS.eq_3) (@DV.datums.eq_1)) (And.intro (@DV.datums.eq_2) (@DV.datum.eq_1))) (And.intro (And.intro (@DV.datum.eq_2) (@DV.datum.eq_3)) (And.intro (@DV.fre.eq_1) (@DV.fre.eq_2)))) (And.intro (And.intro (And.intro (@DV.fre.eq_3) (@DV.fres.eq_1)) (And.intro (@DV.fres.eq_2) (@DV.argSs.eq_1))) (And.intro (And.intro (@DV.argSs.eq_2) (@DV.argS.eq_1)) (And.intro (@DV.argS.eq_2) (@DV.argS.eq_3))))))) (And.intro (And.intro (And.intro (And.intro (And.intro (@DV.nodupB.eq_1) (And.intro (@DV.nodupB.eq_2) (@DV.ownIx.eq_1))) (And.intro (And.intro (@DV.ownIx.eq_2) (@DV.ownIx.eq_3)) (And.intro (@DV.putOuts.eq_1) (@DV.putOuts.eq_2)))) (And.intro (And.intro (And.intro (@DV.putOuts.eq_3) (@DV.biD.eq_1)) (And.intro (@DV.biD.eq_2) (@DV.biD.eq_3))) (And.intro (And.intro (@DV.biD.eq_4) (@DV.biD.eq_5)) (And.intro (@DV.biD.eq_6) (@DV.biD.eq_7))))) (And.intro (And.intro (And.intro (And.intro (@DV.biD.eq_8) (@DV.biD.eq_9)) (And.intro (@DV.biD.eq_10) (@DV.biD.eq_11))) (And.intro (And.intro (@DV.biD.eq_12) (@DV.biD.eq_13)) (And.intro (@DV.biD.eq_14) (@DV.biD.eq_15)))) (And.intro (And.intro (And.intro (@DV.biD.eq_16) (@DV.biD.eq_17)) (And.intro (@DV.biD.eq_18) (@DV.biD.eq_19))) (And.intro (And.intro (@DV.isiD.eq_1) (@DV.isiD.eq_2)) (And.intro (@DV.isiD.eq_3) (@DV.isiD.eq_4)))))) (And.intro (And.intro (And.intro (And.intro (@DV.isiD.eq_5) (And.intro (@DV.isiD.eq_6) (@DV.isiD.eq_7))) (And.intro (And.intro (@DV.shallow.eq_1) (@DV.shallow.eq_4)) (And.intro (@DV.shallow.eq_5) (@DV.testD.eq_1)))) (And.intro (And.intro (And.intro (@DV.truthD.eq_1) (@DV.truthD.eq_2)) (And.intro (@DV.truthD.eq_3) (@DV.truthD.eq_4))) (And.intro (And.intro (@DV.truthD.eq_5) (@DV.truthD.eq_6)) (And.intro (@DV.truthD.eq_7) (@DV.truthD.eq_8))))) (And.intro (And.intro (And.intro (And.intro (@DV.finish.eq_1) (@DV.finish.eq_2)) (And.intro (@DV.finish.eq_3) (@DV.finish.eq_4))) (And.intro (And.intro (@DV.finish.eq_5) (@DV.outsOf.eq_1)) (And.intro (@DV.outsOf.eq_2) (@DV.outsOf.eq_3)))) (And.intro (And.intro (And.intro (@DV.ownPs.eq_1) (@DV.ownPs.eq_2)) (And.intro (@DV.ownPs.eq_3) (@DV.disjB.eq_1))) (And.intro (And.intro (@DV.isLst.eq_1) (@DV.appD.eq_1)) (And.intro (@DV.extD.eq_1) (@DV.setD.eq_1)))))))) (And.intro (And.intro (And.intro (And.intro (And.intro (And.intro (@DV.asgT.eq_1) (And.intro (@DV.asgT.eq_2) (@DV.asgT.asgTs.eq_1))) (And.intro (And.intro (@DV.asgT.asgTs.eq_2) (@DV.tgIx.eq_1)) (And.intro (@DV.tgIx.eq_2) (@DV.tgIx.tgIxs.eq_1)))) (And.intro (And.intro (And.intro (@DV.tgIx.tgIxs.eq_2) (@DV.iterD.eq_1)) (And.intro (@DV.iterD.eq_2) (@DV.iterD.eq_3))) (And.intro (And.intro (@DV.it_rng) (@DV.binD.eq_1)) (And.intro (@DV.binD.eq_2) (@DV.binD.eq_3))))) (And.intro (And.intro (And.intro (And.intro (@DV.binD.eq_4) (@DV.binD.eq_5)) (And.intro (@DV.binD.eq_6) (@DV.binD.eq_7))) (And.intro (And.intro (@DV.binD.eq_8) (@DV.binD.eq_9)) (And.intro (@DV.binD.eq_10) (@DV.cmpD.eq_3)))) (And.intro (And.intro (And.intro (@DV.cmpD.eq_4) (@DV.cmpD.eq_5)) (And.intro (@DV.cmpD.eq_6) (@DV.cmpD.eq_7))) (And.intro (And.intro (@DV.cmpD.eq_8) (@DV.cmpD.eq_9)) (And.intro (@DV.cmpD.eq_10) (@DV.cmpD.eq_11)))))) (And.intro (And.intro (And.intro (And.intro (@DV.cmpD.eq_12) (And.intro (@DV.isNonD.eq_1) (@DV.isNonD.eq_2))) (And.intro (And.intro (@DV.ixD.eq_1) (@DV.ixD.eq_2)) (And.intro (@DV.ixD.eq_3) (@DV.ixD.eq_4)))) (And.intro (And.intro (And.intro (@DV.slcD.eq_1) (@DV.slcD.eq_2)) (And.intro (@DV.slcD.eq_3) (@DV.slO.eq_1))) (And.intro (And.intro (@DV.slO.eq_2) (@DV.plainIx.eq_1)) (And.intro (@DV.wipeG.eq_1) (@DV.wipeG.eq_2))))) (And.intro (And.intro (And.intro (And.intro (@DV.restG.eq_1) (@DV.restG.eq_2)) (And.intro (@DV.flatD.eq_1) (@DV.flatD.eq_2))) (And.intro (And.intro (@DV.flatD.eq_3) (@DV.flatD.eq_4)) (And.intro (@DV.flatD.eq_5) (@DV.ex.eq_17)))) (And.intro (And.intro (And.intro (@DV.ev.eq_19) (@DV.ev.eq_20)) (And.intro (@DV.ev.eq_21) (@DV.ev.eq_22))) (And.intro (And.intro (@DV.ev.eq_23) (@DV.ev.eq_24)) (And.intro (@DV.ev.eq_25) (@DV.ev.eq_26))))))) (And.intro (And.intro (And.intro (And.intro (And.intro (@DV.callD.eq_1) (And.intro (@DV.mkD.eq_1) (@DV.fldL.eq_1))) (And.intro (And.intro (@DV.fldL.eq_2) (@DV.fldD.eq_1)) (And.intro (@DV.fldD.eq_2) (@DV.isObj.eq_1)))) (And.intro (And.intro (And.intro (@DV.hasF.eq_1) (@DV.hasF.eq_2)) (And.intro (@DV.postO.eq_1) (@DV.postO.eq_2))) (And.intro (And.intro (@DV.postO.eq_3) (@DV.postO.eq_4)) (And.intro (@DV.postO.eq_5) (@DV.postO.eq_6))))) (And.intro (And.intro (And.intro (And.intro (@DV.plainO.eq_1) (@DV.plainO.eq_2)) (And.intro (@DV.plainO.eq_3) (@DV.plainO.eq_4))) (And.intro (And.intro (@DV.plainO.eq_5) (@DV.plainO.eq_6)) (And.intro (@DV.so_eq) (@DV.so_ne)))) (And.intro (And.intro (And.intro (@DV.so_in) (@DV.so_ni)) (And.intro (@DV.so_ix) (@DV.so_ad))) (And.intro (And.intro (@DV.oo_eq) (@DV.oo_ne)) (And.intro (@DV.oo_in) (@DV.oo_ni)))))) (And.intro (And.intro (And.intro (And.intro (@DV.oo_ix) (And.intro (@DV.oo_ad) (@DV.pb_non))) (And.intro (And.intro (@DV.pb_int) (@DV.pb_bl)) (And.intro (@DV.pb_str) (@DV.pb_lst)))) (And.intro (And.intro (And.intro (@DV.pb_tup) (@DV.ic_non)) (And.intro (@DV.ic_int) (@DV.ic_bl))) (And.intro (And.intro (@DV.ic_str) (@DV.ic_lst)) (And.intro (@DV.ic_tup) (@DV.io_non))))) (And.intro (And.intro (And.intro (And.intro (@DV.io_int) (@DV.io_bl)) (And.intro (@DV.io_str) (@DV.io_lst))) (And.intro (And.intro (@DV.io_tup) (@DV.putL.eq_1)) (And.intro (@DV.putL.eq_2) (@DV.putD.eq_1)))) (And.intro (And.intro (And.intro (@DV.putD.eq_2) (@DV.iscD.eq_1)) (And.intro (@DV.iscD.eq_2) (@DV.plainB.eq_1))) (And.intro (And.intro (@DV.plainB.eq_2) (@DV.permL.eq_1)) (And.intro (@DV.permOk.eq_1) (@DV.dfl.eq_1))))))))
/-- those of == -/
def SE := And.intro (And.intro (And.intro (And.intro (@DV.cmpD.eq_1) (@DV.cmpD.eq_2)) (And.intro (@DV.okB.eq_1) (@DV.okB.eq_2))) (And.intro (And.intro (@DV.okB.eq_3) (@DV.okB.eq_4)) (And.intro (@DV.okB.eq_5) (And.intro (@DV.okB.eq_6) (@DV.eqd.eq_1))))) (And.intro (And.intro (And.intro (@DV.eqd.eq_2) (@DV.eqd.eq_3)) (And.intro (@DV.eqd.eq_4) (And.intro (@DV.eqd.eq_5) (@DV.eqd.eq_6)))) (And.intro (And.intro (@DV.eqd.eq_7) (@DV.eqd.eq_8)) (And.intro (@DV.eqds.eq_1) (And.intro (@DV.eqds.eq_2) (@DV.eqds.eq_3)))))
end DV

namespace DV
open PySem L2
/-! ### what is pinned matters only where it is stored -/
mutual
def asgOf : S → List Nat
  | .asg tg _ => tgIx tg
  | .asgO i _ => [i]
  | .par is _ => is.map (·.1)
  | .ite _ a b => asgOfs a ++ asgOfs b
  | .whl _ b => asgOfs b
  | .for_ tg _ _ b => tgIx tg ++ asgOfs b
  | .grow _ _ _ _ tg _ _ _ _ => tgIx tg
  | .xex _ (.asg tg) => tgIx tg
  | .xex _ (.asgO i) => [i]
  | .try_ is b _ => is ++ asgOfs b
  | _ => []
def asgOfs : List S → List Nat
  | [] => []
  | s :: ss => asgOf s ++ asgOfs ss
end
theorem disjB_app {a b c : List Nat} (h : disjB (a ++ b) c = true) : disjB a c = true ∧ disjB b c = true := by
  simp only [disjB, List.all_append, Bool.and_eq_true] at h
  exact h
theorem forLoop_imp {tg : Tg} {f g : Ct → Option Out} (h : ∀ Γ o, f Γ = some o → g Γ = some o) : ∀ (ds : List D) (Γ : Ct) (o : Out), forLoop tg f ds Γ = some o → forLoop tg g ds Γ = some o
  | [], Γ, o, e => e
  | d :: ds, Γ, o, e => by
    simp only [forLoop] at e ⊢
    obtain ⟨Γ1, e1, e⟩ := Option.bind_eq_some_iff.mp e
    obtain ⟨o1, e2, e⟩ := Option.bind_eq_some_iff.mp e
    rw [e1]
    simp only [Option.bind_some]
    rw [h Γ1 o1 e2]
    simp only [Option.bind_some]
    cases o1 with
    | nx Γ2 => exact forLoop_imp h ds Γ2 o e
    | ct Γ2 => exact forLoop_imp h ds Γ2 o e
    | bk Γ2 => exact e
    | rt r Γ2 => exact e
    | xc c ks ds Γ2 => exact e
theorem whlLoop_imp {c : Ct → Option (Bool × Ct)} {f g : Ct → Option Out} (h : ∀ Γ o, f Γ = some o → g Γ = some o) : ∀ (n : Nat) (Γ : Ct) (o : Out), whlLoop c f n Γ = some o → whlLoop c g n Γ = some o
  | 0, Γ, o, e => e
  | n + 1, Γ, o, e => by
    simp only [whlLoop] at e ⊢
    obtain ⟨⟨b, Γ1⟩, e1, e⟩ := Option.bind_eq_some_iff.mp e
    rw [e1]
    simp only [Option.bind_some] at e ⊢
    cases b with
    | false => exact e
    | true =>
      simp only [if_true] at e ⊢
      obtain ⟨o1, e2, e⟩ := Option.bind_eq_some_iff.mp e
      rw [h Γ1 o1 e2]
      simp only [Option.bind_some]
      cases o1 with
      | nx Γ2 => exact whlLoop_imp h n Γ2 o e
      | ct Γ2 => exact whlLoop_imp h n Γ2 o e
      | bk Γ2 => exact e
      | rt r Γ2 => exact e
      | xc c ks ds Γ2 => exact e
mutual
theorem ex_pn {fs : List FS} {pn pn' : List Nat} : ∀ (s : S), disjB (asgOf s) pn' = true → ∀ (Γ : Ct) (o : Out), ex fs pn s Γ = some o → ex fs pn' s Γ = some o
  | .stuck, _, Γ, o, e => by simp only [ex, reduceCtorEq] at e
  | .pass, _, Γ, o, e => e
  | .brk, _, Γ, o, e => e
  | .cont, _, Γ, o, e => e
  | .retN, _, Γ, o, e => e
  | .asg tg a, h, Γ, o, e => by
    simp only [asgOf] at h
    simp only [ex] at e ⊢
    obtain ⟨⟨x, Γ1⟩, e1, e⟩ := Option.bind_eq_some_iff.mp e
    obtain ⟨⟨d, Γ2⟩, e2, e⟩ := Option.bind_eq_some_iff.mp e
    simp only [Option.ite_none_right_eq_some] at e
    simp only [e1, Option.bind_some, e2, h, if_true]
    exact e.2
  | .asgO i a, h, Γ, o, e => by
    simp only [asgOf] at h
    simp only [ex] at e ⊢
    obtain ⟨⟨x, Γ1⟩, e1, e⟩ := Option.bind_eq_some_iff.mp e
    simp only [e1, Option.bind_some]
    simp only at e
    cases x with
    | nw d =>
      simp only [Option.ite_none_right_eq_some] at e ⊢
      exact ⟨⟨e.1.1, h⟩, e.2⟩
    | fz d =>
      simp only at e ⊢
      obtain ⟨⟨d, Γ2⟩, e2, e⟩ := Option.bind_eq_some_iff.mp e
      simp only [e2, Option.bind_some, Option.ite_none_right_eq_some] at e ⊢
      exact ⟨⟨e.1.1, h⟩, e.2⟩
    | sl j =>
      simp only at e ⊢
      obtain ⟨⟨d, Γ2⟩, e2, e⟩ := Option.bind_eq_some_iff.mp e
      simp only [e2, Option.bind_some, Option.ite_none_right_eq_some] at e ⊢
      exact ⟨⟨e.1.1, h⟩, e.2⟩
  | .par is es, h, Γ, o, e => by
    simp only [asgOf] at h
    simp only [ex, Option.ite_none_right_eq_some] at e ⊢
    exact ⟨h, e.2⟩
  | .expr a, _, Γ, o, e => e
  | .app i a, _, Γ, o, e => e
  | .ext i a, _, Γ, o, e => e
  | .seti i k a, _, Γ, o, e => e
  | .ret a, _, Γ, o, e => e
  | .ite c a b, h, Γ, o, e => by
    simp only [asgOf] at h
    obtain ⟨h1, h2⟩ := disjB_app h
    simp only [ex] at e ⊢
    obtain ⟨⟨x, Γ1⟩, e1, e⟩ := Option.bind_eq_some_iff.mp e
    obtain ⟨t, e2, e⟩ := Option.bind_eq_some_iff.mp e
    simp only [e1, Option.bind_some, e2]
    simp only at e
    cases t with
    | true => exact exs_pn a h1 _ _ e
    | false => exact exs_pn b h2 _ _ e
  | .whl c b, h, Γ, o, e => by
    simp only [asgOf] at h
    simp only [ex] at e ⊢
    exact whlLoop_imp (fun Γ o => exs_pn b h Γ o) _ _ _ e
  | .for_ tg ik its b, h, Γ, o, e => by
    simp only [asgOf] at h
    obtain ⟨h1, h2⟩ := disjB_app h
    simp only [ex] at e ⊢
    obtain ⟨⟨xs, Γ1⟩, e1, e⟩ := Option.bind_eq_some_iff.mp e
    obtain ⟨⟨ds, Γ2⟩, e2, e⟩ := Option.bind_eq_some_iff.mp e
    simp only [Option.ite_none_right_eq_some] at e
    simp only [e1, Option.bind_some, e2, h1, if_true]
    exact forLoop_imp (fun Γ o => exs_pn b h2 Γ o) _ _ _ e.2
  | .setf c i nm a, _, Γ, o, e => e
  | .xapp a d, _, Γ, o, e => e
  | .grow c i nm e0 tg e1 e2 k a, h, Γ, o, e => by
    simp only [asgOf] at h
    simp only [ex] at e ⊢
    obtain ⟨⟨x, Γ1⟩, q1, e⟩ := Option.bind_eq_some_iff.mp e
    rw [q1]
    simp only [Option.bind_some] at e ⊢
    split at e
    · rename_i L0 c1 ks ds z
      simp only [Option.ite_none_right_eq_some] at e ⊢
      refine ⟨⟨e.1.1, e.1.2.1, e.1.2.2.1, e.1.2.2.2.1, ?_⟩, e.2⟩
      have h2 := e.1.2.2.2.2
      simp only [disjB, List.all_eq_true] at h h2 ⊢
      intro y hy
      have q2 := h y hy
      have q3 := h2 y hy
      simp only [List.contains_cons, Bool.not_or, Bool.and_eq_true] at q3 ⊢
      exact ⟨q3.1, q2⟩
    · cases e
  | .rse c ks es, _, Γ, o, e => e
  | .xex a .drop, _, Γ, o, e => e
  | .xex a .ret, _, Γ, o, e => e
  | .xex a (.asg tg), h, Γ, o, e => by
    simp only [asgOf] at h
    simp only [ex] at e ⊢
    obtain ⟨⟨x, Γ1⟩, e1, e⟩ := Option.bind_eq_some_iff.mp e
    rw [e1]
    simp only [Option.bind_some] at e ⊢
    split at e
    · exact e
    · obtain ⟨⟨d, Γ2⟩, e2, e⟩ := Option.bind_eq_some_iff.mp e
      simp only [Option.ite_none_right_eq_some] at e
      simp only [e2, Option.bind_some, h, if_true]
      exact e.2
  | .xex a (.asgO i), h, Γ, o, e => by
    simp only [asgOf] at h
    simp only [ex] at e ⊢
    obtain ⟨⟨x, Γ1⟩, e1, e⟩ := Option.bind_eq_some_iff.mp e
    rw [e1]
    simp only [Option.bind_some] at e ⊢
    split at e
    · exact e
    · split at e
      · simp only [Option.ite_none_right_eq_some] at e ⊢
        exact ⟨⟨e.1.1, h⟩, e.2⟩
      · obtain ⟨⟨d, Γ2⟩, e2, e⟩ := Option.bind_eq_some_iff.mp e
        simp only [e2, Option.bind_some, Option.ite_none_right_eq_some] at e ⊢
        exact ⟨⟨e.1.1, h⟩, e.2⟩
  | .try_ is b hs, h, Γ, o, e => by
    simp only [asgOf] at h
    obtain ⟨h1, h2⟩ := disjB_app h
    simp only [ex, Option.ite_none_right_eq_some] at e ⊢
    refine ⟨h1, ?_⟩
    obtain ⟨o1, e1, e2⟩ := Option.bind_eq_some_iff.mp e.2
    rw [exs_pn b h2 _ _ e1]
    exact e2
theorem exs_pn {fs : List FS} {pn pn' : List Nat} : ∀ (ss : List S), disjB (asgOfs ss) pn' = true → ∀ (Γ : Ct) (o : Out), exs fs pn ss Γ = some o → exs fs pn' ss Γ = some o
  | [], _, Γ, o, e => e
  | s :: ss, h, Γ, o, e => by
    simp only [asgOfs] at h
    obtain ⟨h1, h2⟩ := disjB_app h
    simp only [exs] at e ⊢
    obtain ⟨o1, e1, e⟩ := Option.bind_eq_some_iff.mp e
    rw [ex_pn s h1 Γ o1 e1]
    simp only [Option.bind_some]
    cases o1 with
    | nx Γ1 => exact exs_pn ss h2 Γ1 o e
    | ct Γ2 => exact e
    | bk Γ2 => exact e
    | rt r Γ2 => exact e
    | xc c ks ds Γ2 => exact e
end
theorem exs_app {fs : List FS} {pn : List Nat} : ∀ {l1 l2 : List S} {Γ Γ1 : Ct}, exs fs pn l1 Γ = some (.nx Γ1) → exs fs pn (l1 ++ l2) Γ = exs fs pn l2 Γ1
  | [], l2, Γ, Γ1, h => by simp only [DV.exs.eq_1, Option.some.injEq, Out.nx.injEq] at h; rw [h]; rfl
  | s :: l1, l2, Γ, Γ1, h => by
    rw [List.cons_append]
    simp only [DV.exs.eq_2] at h ⊢
    obtain ⟨o, e1, h⟩ := Option.bind_eq_some_iff.mp h
    rw [e1]
    cases o with
    | nx Γ2 => exact exs_app h
    | bk _ => cases h
    | ct _ => cases h
    | rt _ _ => cases h
    | xc _ _ _ _ => cases h
/-- a def, whatever of its arguments is owned -/
theorem runF_pn {fs : List FS} {np n : Nat} {body : List S} {G0 : Ct} {o : Out} {r : RV × Ct} {pn : List Nat} (hl : G0.length = np) (hd : disjB (asgOfs body) (ownPs 0 G0) = true) (e : exs fs pn body (G0 ++ List.replicate (n - np) none) = some o) (f : DV.finish np G0 o = some r) : runF fs np n body G0 = some r :=
  runF_by hl (exs_pn body hd _ _ e) f
end DV

namespace DV
open PySem L2 PySem.Spec
/-! ### a op b op c op d -/
section
open PyProof.Rows
variable {X : Cx} {a b c d : Expr} {ta tb tc td : TE} {pos : Pos}
def tChain3 (r r' r'' : R2) (ta tb tc td : TE) : TE := fun σ H Q => ta σ H fun x H1 => tb σ H1 fun y H2 => r x y H2 fun z H3 => ∃ k, z = .bl k ∧
  (if k = true then tc σ H3 fun w' H4 => r' y w' H4 fun z' H5 => ∃ k', z' = .bl k' ∧ (if k' = true then td σ H5 fun u H6 => r'' w' u H6 Q else Q (.bl false) H5) else Q (.bl false) H3)
theorem pe_chain3 {op op' op'' : CmpOp} {r r' r'' : R2} (ho : OpR X (compareOp op) r) (ho' : OpR X (compareOp op') r') (ho'' : OpR X (compareOp op'') r'') (ha : PE X a ta) (hb : PE X b tb) (hc : PE X c tc) (hd : PE X d td)
    (hm : lastMarks [op, op', op''] [b, c, d] = false) : PE X (.Compare a [op, op', op''] [b, c, d] pos) (tChain3 r r' r'' ta tb tc td) := by
  refine ⟨fun pins s σ H Q I h => ?_⟩
  refine Compare_chain (thn (ha.run pins s σ H _ I h) fun v s1 ⟨x, H1, I1, r1, q1⟩ => chain_link (thn (hb.run pins s1 σ H1 _ I1 q1) fun u s2 ⟨y, H2, I2, r2, q2⟩ =>
    thn (ho pins s2 σ H2 x y v u _ I2 r1 r2 q2) fun d s3 ⟨z, H3, I3, r3, k, e, q3⟩ => ?_)) hm
  subst e
  cases r3
  refine wpAny_truthy_bool ?_
  cases k with
  | false => exact ite_ff ⟨.bl false, H3, I3, rfl, q3⟩
  | true =>
    refine ite_tt (chain_link (thn (hc.run pins s3 σ H3 _ I3 q3) fun w' s4 ⟨z', H4, I4, r4, q4⟩ => thn (ho' pins s4 σ H4 y z' u w' _ I4 r2 r4 q4) fun d' s5 ⟨z2, H5, I5, r5, k2, e2, q5⟩ => ?_))
    subst e2
    cases r5
    refine wpAny_truthy_bool ?_
    cases k2 with
    | false => exact ite_ff ⟨.bl false, H5, I5, rfl, q5⟩
    | true => exact ite_tt (chain_last (thn (hd.run pins s5 σ H5 _ I5 q5) fun w3 s6 ⟨z3, H6, I6, r6, q6⟩ => ho'' pins s6 σ H6 z' z3 w' w3 Q I6 r4 r6 q6))
end
section
variable {X : Cx} {g : Gx} {fs : List FS} {a b c d : Expr} {ia ib ic id' : E} {pos : Pos} {Bn : Addr → Prop} {Ow : List Addr} {H : Hp} {σ : St} {Γ Γ' : Ct}
theorem chain3_core {o1 o2 o3 : COp} {Q : VK} (rs : RS g Bn Ow H σ Γ) {r : RV} (he : ev fs (.chain3 o1 o2 o3 ia ib ic id') Γ = some (r, Γ')) (hQ : ∀ v H' Ow' (k : Bool), Stp Ow H Ow' H' → RS g Bn Ow' H' σ Γ' → v = .bl k → r = .fz (.bl k) → Q v H') :
    tChain3 (rCmp g o1) (rCmp g o2) (rCmp g o3) (tR g fs ia) (tR g fs ib) (tR g fs ic) (tR g fs id') σ H Q := by
  simp only [ev] at he
  obtain ⟨⟨x, Γ1⟩, e1, he⟩ := Option.bind_eq_some_iff.mp he
  obtain ⟨⟨y, Γ2⟩, e2, he⟩ := Option.bind_eq_some_iff.mp he
  obtain ⟨d, ed, he⟩ := Option.bind_eq_some_iff.mp he
  obtain ⟨e, ee, he⟩ := Option.bind_eq_some_iff.mp he
  obtain ⟨k, hb, he⟩ := Option.bind_eq_some_iff.mp he
  rw [← datum_dn] at ed ee
  refine tR_two rs e1 e2 fun v w H2 O2 s2 r2 v2 w2 => ⟨Av Bn O2, d, e, k, v2.rdb r2 ed, w2.rdb r2 ee, hb, k, rfl, ?_⟩
  cases k with
  | false =>
    simp only [Bool.false_eq_true, if_false, Option.some.injEq, Prod.mk.injEq] at he ⊢
    obtain ⟨rfl, rfl⟩ := he
    exact hQ _ H2 O2 false s2 r2 rfl rfl
  | true =>
    simp only [if_true] at he ⊢
    obtain ⟨⟨z, Γ3⟩, e3, he⟩ := Option.bind_eq_some_iff.mp he
    obtain ⟨e', ee', he⟩ := Option.bind_eq_some_iff.mp he
    obtain ⟨f, ef, he⟩ := Option.bind_eq_some_iff.mp he
    obtain ⟨k', hb', he⟩ := Option.bind_eq_some_iff.mp he
    rw [← datum_dn] at ee' ef
    refine tR_one r2 e3 fun u H3 O3 s3 r3 u3 => ⟨Av Bn O3, e', f, k', (w2.step s3 r3).rdb r3 ee', u3.rdb r3 ef, hb', k', rfl, ?_⟩
    cases k' with
    | false =>
      simp only [Bool.false_eq_true, if_false, Option.some.injEq, Prod.mk.injEq] at he ⊢
      obtain ⟨rfl, rfl⟩ := he
      exact hQ _ H3 O3 false (s2.trans s3) r3 rfl rfl
    | true =>
      simp only [if_true] at he ⊢
      obtain ⟨⟨u4, Γ4⟩, e4, he⟩ := Option.bind_eq_some_iff.mp he
      obtain ⟨f', ef', he⟩ := Option.bind_eq_some_iff.mp he
      obtain ⟨h, eh, he⟩ := Option.bind_eq_some_iff.mp he
      obtain ⟨k4, hb4, he⟩ := Option.map_eq_some_iff.mp he
      simp only [Prod.mk.injEq] at he
      obtain ⟨rfl, rfl⟩ := he
      rw [← datum_dn] at ef' eh
      exact tR_one r3 e4 fun v5 H5 O5 s5 r5 v6 => ⟨Av Bn O5, f', h, k4, (u3.step s5 r5).rdb r5 ef', v6.rdb r5 eh, hb4, hQ _ H5 O5 k4 ((s2.trans s3).trans s5) r5 rfl rfl⟩
theorem p_chain3 {o1 o2 o3 : COp} (C : Cok0 g X) (ha : PE X a (tR g fs ia)) (hb : PE X b (tR g fs ib)) (hc : PE X c (tR g fs ic)) (hd : PE X d (tR g fs id')) (hm : lastMarks [cmpOf o1, cmpOf o2, cmpOf o3] [b, c, d] = false) :
    PE X (.Compare a [cmpOf o1, cmpOf o2, cmpOf o3] [b, c, d] pos) (tR g fs (.chain3 o1 o2 o3 ia ib ic id')) := by
  refine PE.weak (pe_chain3 (op_cmp C.K C.hu o1) (op_cmp C.K C.hu o2) (op_cmp C.K C.hu o3) ha hb hc hd hm) ?_
  rintro σ H Q ⟨Bn, Ow, Γ, r, Γ', rs, he, hQ⟩
  exact chain3_core rs he fun v H1 O1 k s1 r1 e1 e2 => hQ v H1 O1 s1 r1 (by subst e1 e2; simp only [Val, Rep])
/-! ### xs[::-1] -/
theorem p_rev {k : Nat} {p1 p2 p3 : Pos} (C : Cok0 g X) (ha : PE X a (tR g fs ia)) : PE X (.Subscript a (.Slice none none (some (.UnaryOp .USub (.Constant (.int 1) k p1) p2)) p3) pos) (tR g fs (.rev ia)) := by
  refine PE.weak (PE.kf (pe_revL ha)) ?_
  rintro σ H Q ⟨Bn, Ow, Γ, r, Γ', rs, he, hQ⟩
  simp only [ev] at he
  obtain ⟨⟨x, Γ1⟩, e1, he⟩ := Option.bind_eq_some_iff.mp he
  obtain ⟨d, e2, he⟩ := Option.bind_eq_some_iff.mp he
  obtain ⟨d', e3, he⟩ := Option.map_eq_some_iff.mp he
  simp only [Prod.mk.injEq] at he
  obtain ⟨rfl, rfl⟩ := he
  refine ⟨Bn, Ow, Γ, x, Γ1, rs, e1, fun v H1 O1 s1 r1 v1 => ?_⟩
  have rd := v1.rdb r1 e2
  cases d <;> simp only [revD, reduceCtorEq, Option.some.injEq] at e3
  rename_i xs
  subst e3
  obtain ⟨p, vs, rfl, hp, rp⟩ := rd
  rw [C.K]
  refine ⟨p, vs, rfl, .inl (.inl hp), fun q hq kf => ?_⟩
  have sm : Same H1 (upd H1 q (.lst vs.reverse)) := same_new hq
  obtain ⟨O2, s2, r2, v2⟩ := Res.val (r := .nw (.lst xs.reverse)) r1 sm (new_lst hq (kf_new kf upd_same) rp.rev)
  exact hQ _ _ O2 (s1.trans s2) r2 v2
end
end DV

namespace DV
open PySem L2 PySem.Spec
/-! ### sorted pairs of ints -/
theorem insP_perm (p : Int × Int) : ∀ l, (insP p l).Perm (p :: l)
  | [] => .refl _
  | q :: r => by
    unfold insP
    split
    · exact .refl _
    · exact ((insP_perm p r).cons q).trans (.swap p q r)
theorem sortP_perm : ∀ l, (sortP l).Perm l
  | [] => .refl _
  | p :: r => (insP_perm p _).trans ((sortP_perm r).cons p)
theorem pLe_total (p q : Int × Int) (h : pLe p q = false) : pLe q p = true := by
  unfold pLe at *
  simp only [decide_eq_false_iff_not, decide_eq_true_eq] at *
  omega
theorem pLe_trans {p q r : Int × Int} (h1 : pLe p q = true) (h2 : pLe q r = true) : pLe p r = true := by
  unfold pLe at *
  simp only [decide_eq_true_eq] at *
  omega
theorem insP_sorted {p : Int × Int} : ∀ {l}, l.Pairwise (fun a b => pLe a b = true) → (insP p l).Pairwise (fun a b => pLe a b = true)
  | [], _ => by simp [insP]
  | q :: r, h => by
    obtain ⟨h1, h2⟩ := List.pairwise_cons.mp h
    unfold insP
    split
    · rename_i c
      refine List.pairwise_cons.mpr ⟨fun x m => ?_, h⟩
      rcases List.mem_cons.mp m with rfl | m
      · exact c
      · exact pLe_trans c (h1 x m)
    · rename_i c
      have c' := pLe_total p q (by simpa using c)
      refine List.pairwise_cons.mpr ⟨fun x m => ?_, insP_sorted h2⟩
      rcases List.mem_cons.mp ((insP_perm p r).mem_iff.mp m) with rfl | m
      · exact c'
      · exact h1 x m
theorem sortP_sorted : ∀ l, (sortP l).Pairwise (fun a b => pLe a b = true)
  | [] => by simp [sortP]
  | p :: r => insP_sorted (sortP_sorted r)
theorem sorted_uniq : ∀ {l m : List (Int × Int)}, l.Perm m → l.Pairwise (fun a b => pLe a b = true) → m.Pairwise (fun a b => pLe a b = true) → l = m
  | [], m, h, _, _ => h.symm.eq_nil.symm
  | x :: l, [], h, _, _ => absurd h.length_eq (by simp)
  | x :: l, y :: m, h, h1, h2 => by
    obtain ⟨a1, a2⟩ := List.pairwise_cons.mp h1
    obtain ⟨b1, b2⟩ := List.pairwise_cons.mp h2
    have e : x = y := by
      rcases List.mem_cons.mp (h.mem_iff.mp List.mem_cons_self) with e | m1
      · exact e
      · rcases List.mem_cons.mp (h.symm.mem_iff.mp List.mem_cons_self) with e | m2
        · exact e.symm
        · have q1 := b1 x m1
          have q2 := a1 y m2
          unfold pLe at q1 q2
          simp only [decide_eq_true_eq] at q1 q2
          exact Prod.ext (by omega) (by omega)
    subst e
    rw [sorted_uniq h.cons_inv a2 b2]
theorem pairs_reps {g : Gx} {A : Addr → Prop} {H : Hp} : ∀ {ds : List D} {vs : List V} {ps : List (Int × Int)}, Reps g A H ds vs → pairsD ds = some ps → Paired (fun p v => ∃ t, v = V.ref t ∧ ¬ A t ∧ SqT g.K H t [.int p.1, .int p.2]) ps vs
  | [], vs, ps, h, e => by
    simp only [pairsD, Option.some.injEq] at e
    simp only [Reps] at h
    subst e h
    exact .nil
  | d :: ds, vs, ps, h, e => by
    simp only [Reps] at h
    obtain ⟨v, r, rfl, h1, h2⟩ := h
    match d, e with
    | .tup [.int i, .int j], e =>
      simp only [pairsD] at e
      obtain ⟨ps', e1, rfl⟩ := Option.map_eq_some_iff.mp e
      simp only [Rep, Reps] at h1
      obtain ⟨a, ws, rfl, na, sq, w1, r1, rfl, rfl, w2, r2, rfl, rfl, rfl⟩ := h1
      exact .cons ⟨a, rfl, na, sq⟩ (pairs_reps h2 e1)
theorem paired_map {α β : Type} {R : α → β → Prop} {f : β → α} (h : ∀ p v, R p v → f v = p) : ∀ {ps : List α} {vs : List β}, Paired R ps vs → vs.map f = ps
  | _, _, .nil => rfl
  | _, _, .cons q r => by rw [List.map_cons, h _ _ q, paired_map h r]
theorem paired_mem {α β : Type} {R : α → β → Prop} : ∀ {ps : List α} {vs : List β}, Paired R ps vs → ∀ v ∈ vs, ∃ p, R p v
  | _, _, .nil, v, m => by cases m
  | p :: _, _, .cons q r, v, m => by
    rcases List.mem_cons.mp m with rfl | m
    · exact ⟨p, q⟩
    · exact paired_mem r v m
theorem paired_map' {α β : Type} {R : α → β → Prop} {f : β → α} : ∀ {ps : List α} {vs : List β}, Paired R ps vs → (∀ v ∈ vs, ∀ p, R p v → f v = p) → vs.map f = ps
  | _, _, .nil, _ => rfl
  | _, _, .cons q r, h => by rw [List.map_cons, h _ List.mem_cons_self _ q, paired_map' r fun v m => h v (List.mem_cons_of_mem _ m)]
theorem reps_pairs {g : Gx} {A : Addr → Prop} {H : Hp} (k : V → Int × Int) : ∀ {ys : List V}, (∀ y ∈ ys, ∃ t, y = V.ref t ∧ ¬ A t ∧ SqT g.K H t [.int (k y).1, .int (k y).2]) → Reps g A H ((ys.map k).map fun p => .tup [.int p.1, .int p.2]) ys
  | [], _ => by simp [Reps]
  | y :: ys, h => by
    obtain ⟨t, e, na, sq⟩ := h y List.mem_cons_self
    simp only [List.map_cons, Reps]
    refine ⟨y, ys, rfl, ?_, reps_pairs k fun z m => h z (List.mem_cons_of_mem _ m)⟩
    simp only [Rep, Reps]
    exact ⟨t, _, e, na, sq, _, _, rfl, rfl, _, _, rfl, rfl, rfl⟩
section
variable {X : Cx} {g : Gx}
open Classical in
theorem b_sortp (hK : X.K = g.K) : CallR X (.builtin "sorted") (rBi g .sortp) := by
  intro pins s σ H vs us Q I r h
  obtain ⟨A, ds, r0, hp, tr, hb, hQ⟩ := h
  match ds, hb with
  | [d], hb =>
    obtain ⟨v, rfl, q⟩ := paired1 hp
    simp only [biD] at hb
    obtain ⟨d', hb1, rfl⟩ := Option.map_eq_some_iff.mp hb
    obtain ⟨xs, rfl⟩ : ∃ xs, d = .lst xs := by
      cases d with
      | lst xs => exact ⟨xs, rfl⟩
      | _ => simp [sortD] at hb1
    simp only [sortD] at hb1
    obtain ⟨ps, e1, rfl⟩ := Option.map_eq_some_iff.mp hb1
    obtain ⟨a, ws, rfl, ha, rp⟩ := q
    have pr := pairs_reps rp e1
    rw [← hK] at pr
    have hs : SqL X.K H a ws := .inl (.inl ha)
    let k : V → Int × Int := fun w => if h : ∃ p : Int × Int, ∃ t, w = V.ref t ∧ ¬ A t ∧ SqT X.K H t [.int p.1, .int p.2] then h.choose else (0, 0)
    have hk : ∀ w ∈ ws, ∃ t, w = V.ref t ∧ ¬ A t ∧ SqT X.K H t [.int (k w).1, .int (k w).2] := by
      intro w hw
      have ex := paired_mem pr w hw
      have e : k w = ex.choose := dif_pos ex
      rw [e]
      exact ex.choose_spec
    have ek : ws.map k = ps := paired_map' pr fun w hw p ⟨t, e, _, sq⟩ => by
      obtain ⟨t', e', _, sq'⟩ := hk w hw
      rw [e] at e'; cases e'
      have := I.tuple_inj sq' sq
      simp only [List.cons.injEq, V.int.injEq, and_true] at this
      exact Prod.ext this.1 this.2
    obtain ⟨its, rv, hl, hz⟩ := I.list hs
    obtain ⟨u, rfl, ru⟩ := vals1 r
    obtain rfl : u = Value.ref a := ru
    obtain ⟨f1, f2⟩ := refs_back rv fun x m => by
      obtain ⟨t, e, _⟩ := hk x m
      exact ⟨t, e⟩
    refine SrtO.sorted_pairsO (k := fun u => k (backV u)) hl.isList (by rw [← rv.length]; exact hz) (fun v hv => ?_) fun h' d out h1 h2 kp hd hn => ?_
    · obtain ⟨t, rfl⟩ := f2 v hv
      have hm : V.ref t ∈ ws := by rw [f1]; exact List.mem_map.mpr ⟨_, hv, rfl⟩
      obtain ⟨t', e, _, ht⟩ := hk _ hm
      cases e
      obtain ⟨its2, r2, ⟨o, ho, hc, n, hd⟩, _⟩ := I.tuple ht
      obtain ⟨u1, u2, rfl, ri, rj⟩ := vals2 r2
      obtain ⟨t1, rfl⟩ := ri
      obtain ⟨t2, rfl⟩ := rj
      exact ⟨t, o, t1, t2, n, rfl, ho, hc, hd⟩
    · have h3 : ∀ u ∈ out, ∃ a, u = Value.ref a := fun u hu => f2 u (h2.perm.mem_iff.mp hu)
      obtain ⟨n, hn⟩ := hn
      have hb : SrtO.Stb (ltP k) (out.map backV) ws := by
        rw [f1]
        exact SrtO.Stb.map (ltP_swo k) backV h2
      have I' := I.laid (t' := s.toks) kp hd (o := .lst (out.map backV)) ⟨by rw [hb.len]; exact hz, out, n, vals_back h3, hn⟩
      have hsr : SrtO.Srtd (ltP k) (out.map backV) := SrtO.srtd_map h1
      have nd := I.hok.fresh hd
      refine ⟨.ref d, upd H d (.lst (out.map backV)), I', rfl, hQ _ _ (same_new nd) ?_⟩
      have kf : g.K.lookup d = none := by rw [← hK]; exact kf_new (Inv.kf I') upd_same
      have es : sortP ps = (out.map backV).map k := by
        refine sorted_uniq ((sortP_perm ps).trans (by rw [← ek]; exact (hb.perm.map k).symm)) (sortP_sorted ps) ?_
        rw [List.pairwise_map]
        refine hsr.imp fun {x y} h => ?_
        have := SrtO.lexB_no.mp h
        unfold pLe
        rw [decide_eq_true_eq]
        omega
      rw [es]
      refine new_lst nd kf (reps_pairs k fun y hy => ?_)
      rw [← hK]
      exact hk y (hb.perm.mem_iff.mp hy)
variable {fs : List FS} {e : Expr} {es : List Expr} {ies : List E} {p pos : Pos}
theorem k_sortp (C : Cok0 g X) (ha : PA X (e :: es) (tAs g fs ies)) (he : starEach (e :: es) X.env = (false, eval e X.env) :: starEach es X.env) (hpl : (backTo pos (starEach es X.env)).any (·.1) = false) (hm : X.mg "sorted" = none) (hg : Gl X "sorted") : PE X (.Call (.Name "sorted" p) (e :: es) [] pos) (tR g fs (.bi .sortp ies)) :=
  p_biB (b_sortp C.K) hg hm PyProof.Rows.boot_sorted ha (by decide) (by decide) he hpl
/-! ### X.append(constant), X new -/
theorem RS.updO {Bn : Addr → Prop} {Ow : List Addr} {H : Hp} {σ : St} {Γ : Ct} {p : Addr} {o : HO} (rs : RS g Bn Ow H σ Γ) (hp : p ∈ Ow) (no : ∀ (i : Nat) e, Γ[i]? = some (some (e, true)) → σ[i]? ≠ some (some (.ref p))) (ho : LI (upd H p o) p) : RS g Bn Ow (upd H p o) σ Γ ∧ Stp Ow H Ow (upd H p o) := by
  have v := ban_vst (g := g) (H := H) (o := o) (A := Av Bn Ow) (p := p) (.inr hp)
  refine ⟨⟨rs.len, fun i d h => ?_, fun i d h => ?_, rs.dist, fun a h => ?_, rs.sep, rs.kf, rs.tabs.upd (rs.trl p (.inr hp))⟩, ⟨fun b x h _ n => ?_, fun _ h => .inl h⟩⟩
  · obtain ⟨w, e, q⟩ := rs.slot i d h; exact ⟨w, e, rep_mono v _ _ q⟩
  · obtain ⟨a, e, m, q⟩ := rs.own i d h
    have ne : a ≠ p := fun z => by subst z; exact no i d h e
    refine ⟨a, e, m, ?_⟩
    cases d with
    | lst ds => obtain ⟨ws, z1, z2⟩ := q; exact ⟨ws, by rw [upd_ne ne]; exact z1, reps_mono v _ _ z2⟩
    | obj c ks ds => obtain ⟨dx, ws, l, z1, z2⟩ := q; exact ⟨dx, ws, l, by rw [upd_ne ne]; exact z1, reps_mono v _ _ z2⟩
    | _ => exact q
  · exact (rs.trl a h).upd fun _ => ho
  · have z : b ≠ p := fun z => n (by rw [z]; exact hp)
    rw [upd_ne z]; exact h
theorem s_xapp {o e : Expr} {io : E} {d : D} {v : V} {apos cpos : Pos} (C : Cok0 g X) (ho : PE X o (tR g fs io)) (he : PE X e (tC v)) (hbase : attributeBase o "append" X.env (eval o X.env) = eval o X.env)
    (hline : (apos.endLine == cpos.line) = true) (hs : starEach [e] X.env = [(false, eval e X.env)]) (hsw : swapsWith (.Call (.Attribute o "append" apos) [e] [] cpos) none pos.line X.env = pure false) :
    PS X (.Expr (.Call (.Attribute o "append" apos) [e] [] cpos) pos) (tSt g Wx fs (.xapp io d)) := by
  refine PS.weak (ps_expr (pe_bm PySem.F.plainAttrs_list PySem.F.slot_list_append PySem.F.type_list_append mt_append ho (pa_cons he pa_nil (by rw [hs]; rfl)) hbase (by rw [hs]; rfl) hline (by rw [hs]; rfl) rfl) hsw) ?_
  rintro Dn σ H ⟨pv, Bn, Ow, Γ, o, rs, pn, he, po⟩
  simp only [ex] at he
  obtain ⟨⟨x, Γ1⟩, e1, he⟩ := Option.bind_eq_some_iff.mp he
  match x, he, e1 with
  | .nw (.lst xs), he, e1 =>
    simp only [Option.ite_none_right_eq_some, Option.some.injEq] at he
    obtain ⟨⟨hz, hf⟩, rfl⟩ := he
    refine ⟨Bn, Ow, Γ, _, Γ1, rs, e1, fun w H1 O1 s1 r1 vl => ?_⟩
    obtain ⟨a, rfl, m, ⟨ws, ha, rp⟩, no⟩ := vl
    refine ⟨by rw [C.K]; exact .inl ⟨rfl, ws, .inl (.inl ha)⟩, ?_⟩
    obtain ⟨r2, s2⟩ := r1.updO (o := .lst (ws ++ [v])) m no (.inl ⟨_, upd_same⟩)
    exact ⟨a, ws, v, rfl, rfl, ha, by rw [← rp.len]; exact hz, po _ _ O1 (s1.trans s2) r2 pn⟩
end
/-! ### an empty dict, as a datum that says nothing -/
theorem p_dct {X : Cx} {g : Gx} {fs : List FS} {pos : Pos} : PE X (.Dict [] [] pos) (tR g fs .dct) := by
  refine PE.weak pe_dnewK ?_
  rintro σ H Q ⟨Bn, Ow, Γ, r, Γ', rs, he, hQ⟩
  simp only [ev, Option.some.injEq, Prod.mk.injEq] at he
  obtain ⟨rfl, rfl⟩ := he
  intro p hp
  have sm : Same H (upd H p (.dK [])) := same_new hp
  refine hQ _ _ Ow (.same sm) (rs.same sm) ?_
  simp only [Val, Rep]
  exact ⟨p, rfl, fun z => rs.trk p z hp, upd_same⟩
end DV

namespace DV
open PySem L2
/-! ### an argument that was only read comes back as it was handed over -/
mutual
/-- no list and no object inside -/
def noL : D → Bool
  | .lst _ => false
  | .obj _ _ _ => false
  | .scr _ => false
  | .dct => false
  | .dic _ _ => false
  | .exc _ _ _ => false
  | .err _ _ _ => false
  | .tup ds => noLs ds
  | _ => true
def noLs : List D → Bool
  | [] => true
  | d :: ds => noL d && noLs ds
end
section
variable {g : Gx} {A : Addr → Prop} {H : Hp} {a : Addr} {ws : List V}
theorem sqT_ne {t : Addr} {vs : List V} (ha : H a = some (.lst ws)) (hk : g.K.lookup a = none) (h : SqT g.K H t vs) : t ≠ a := by
  intro z
  subst z
  rcases h with (h | ⟨o, h⟩) | ⟨o, _, _, h, _⟩
  · rw [ha] at h; cases h
  · rw [ha] at h; cases h
  · rw [hk] at h; cases h
mutual
theorem noL_rep (ha : H a = some (.lst ws)) (hk : g.K.lookup a = none) : ∀ (d : D) (v : V), noL d = true → Rep g A H d v → Rep g (fun x => A x ∨ x = a) H d v
  | .non, _, _, h => by simpa [Rep] using h
  | .bl _, _, _, h => by simpa [Rep] using h
  | .int _, _, _, h => by simpa [Rep] using h
  | .str _, _, _, h => by simpa [Rep] using h
  | .lst ds, v, n, h => by simp [noL] at n
  | .scr ns, v, n, h => by simp [noL] at n
  | .dct, v, n, h => by simp [noL] at n
  | .dic _ _, v, n, h => by simp [noL] at n
  | .exc _ _ _, v, n, h => by simp [noL] at n
  | .err _ _ _, v, n, h => by simp [noL] at n
  | .obj c ks ds, v, n, h => by simp [noL] at n
  | .tup ds, v, n, h => by
    simp only [Rep] at h ⊢
    simp only [noL] at n
    obtain ⟨t, vs, e, na, s, r⟩ := h
    exact ⟨t, vs, e, fun z => z.elim na (sqT_ne ha hk s), s, noLs_reps ha hk ds vs n r⟩
theorem noLs_reps (ha : H a = some (.lst ws)) (hk : g.K.lookup a = none) : ∀ (ds : List D) (vs : List V), noLs ds = true → Reps g A H ds vs → Reps g (fun x => A x ∨ x = a) H ds vs
  | [], _, _, h => by simpa [Reps] using h
  | d :: ds, _, n, h => by
    simp only [Reps] at h ⊢
    simp only [noLs, Bool.and_eq_true] at n
    obtain ⟨v, r, e, h1, h2⟩ := h
    exact ⟨v, r, e, noL_rep ha hk d v n.1 h1, noLs_reps ha hk ds r n.2 h2⟩
end
end
def resOk : RV → Bool
  | .fz d => noL d
  | .nw (.lst ds) => noLs ds
  | _ => false
/-- the other slots: owned ones hold lists of plain items and come back owned -/
def othOk (i : Nat) : Nat → Ct → Ct → Bool
  | _, [], [] => true
  | j, x :: xs, y :: ys => (match x, y with
    | some (_, true), some (.lst ds, true) => decide (j = i) || noLs ds
    | some (_, true), _ => decide (j = i)
    | some (_, false), some _ => true
    | _, _ => false) && othOk i (j + 1) xs ys
  | _, _, _ => false
def putBack (i : Nat) (ds : List D) : Nat → Ct → Ct → Ct
  | j, x :: xs, y :: ys => (if j = i then some (.lst ds, true) else match x with
    | some (_, true) => y
    | _ => x) :: putBack i ds (j + 1) xs ys
  | _, _, _ => []
def reown (i : Nat) (F : FS) : FS := fun G => (F G).bind fun (r, os) => match G[i]?, os[i]? with
  | some (some (_, true)), some (some (.lst ds, false)) => if resOk r && noLs ds && othOk i 0 G os then some (r, putBack i ds 0 G os) else some (r, os)
  | _, _ => some (r, os)
theorem putBack_get (i : Nat) (ds : List D) : ∀ {n j : Nat} {G os : Ct} {p : D × Bool}, othOk i n G os = true → (putBack i ds n G os)[j]? = some (some p) → (n + j = i ∧ p = (.lst ds, true)) ∨ (n + j ≠ i ∧ ((∃ c es, G[j]? = some (some (c, true)) ∧ os[j]? = some (some (.lst es, true)) ∧ noLs es = true ∧ p = (.lst es, true)) ∨ (∃ c, G[j]? = some (some (c, false)) ∧ p = (c, false))))
  | n, j, [], [], p, _, h => by simp [putBack] at h
  | n, j, [], y :: ys, p, q, h => by simp [othOk] at q
  | n, j, x :: xs, [], p, q, h => by simp [othOk] at q
  | n, 0, x :: xs, y :: ys, p, q, h => by
    simp only [putBack, List.getElem?_cons_zero, Option.some.injEq] at h
    by_cases e : n = i
    · rw [if_pos e] at h
      simp only [Option.some.injEq] at h
      exact .inl ⟨by omega, h.symm⟩
    · rw [if_neg e] at h
      simp only [othOk, Bool.and_eq_true] at q
      refine .inr ⟨by omega, ?_⟩
      match x, y, q.1, h with
      | some (c, true), some (.lst es, true), q1, h =>
        simp only [Bool.or_eq_true, decide_eq_true_eq] at q1
        simp only [Option.some.injEq] at h
        exact .inl ⟨c, es, rfl, rfl, q1.resolve_left e, h.symm⟩
      | some (c, false), some y', q1, h =>
        simp only [Option.some.injEq] at h
        exact .inr ⟨c, rfl, h.symm⟩
      | some (c, true), none, q1, h => simp at q1; exact absurd q1 e
      | some (c, true), some (.non, _), q1, h => simp at q1; exact absurd q1 e
      | some (c, true), some (.bl _, _), q1, h => simp at q1; exact absurd q1 e
      | some (c, true), some (.int _, _), q1, h => simp at q1; exact absurd q1 e
      | some (c, true), some (.str _, _), q1, h => simp at q1; exact absurd q1 e
      | some (c, true), some (.tup _, _), q1, h => simp at q1; exact absurd q1 e
      | some (c, true), some (.obj _ _ _, _), q1, h => simp at q1; exact absurd q1 e
      | some (c, true), some (.scr _, _), q1, h => simp at q1; exact absurd q1 e
      | some (c, true), some (.dct, _), q1, h => simp at q1; exact absurd q1 e
      | some (c, true), some (.dic _ _, _), q1, h => simp at q1; exact absurd q1 e
      | some (c, true), some (.exc _ _ _, _), q1, h => simp at q1; exact absurd q1 e
      | some (c, true), some (.err _ _ _, _), q1, h => simp at q1; exact absurd q1 e
      | some (c, true), some (.lst _, false), q1, h => simp at q1; exact absurd q1 e
      | some (c, false), none, q1, h => simp at q1
      | none, _, q1, h => simp at q1
  | n, j + 1, x :: xs, y :: ys, p, q, h => by
    simp only [putBack, List.getElem?_cons_succ] at h
    simp only [othOk, Bool.and_eq_true] at q
    have := putBack_get i ds (n := n + 1) (j := j) q.2 h
    simp only [List.getElem?_cons_succ]
    rw [show n + (j + 1) = n + 1 + j by omega]
    exact this
theorem putBack_len (i : Nat) (ds : List D) : ∀ {n : Nat} {G os : Ct}, othOk i n G os = true → (putBack i ds n G os).length = G.length
  | n, [], [], _ => rfl
  | n, [], y :: ys, q => by simp [othOk] at q
  | n, x :: xs, [], q => by simp [othOk] at q
  | n, x :: xs, y :: ys, q => by
    simp only [othOk, Bool.and_eq_true] at q
    simp only [putBack, List.length_cons, putBack_len i ds q.2]
theorem spF_reown {g : Gx} {n i : Nat} {F : FS} {vs : List V} {H : Hp} {Q : VK} {E : XK} (h : spF g n (reown i F) vs H Q E) : spF g n F vs H Q E := by
  obtain ⟨hl, Bn, Ow, Γ, r, os, rs, ef, nr, hQ⟩ := h
  simp only [reown] at ef
  obtain ⟨⟨r1, os1⟩, e1, ef⟩ := Option.bind_eq_some_iff.mp ef
  have plain : some (r1, os1) = some (r, os) → spF g n F vs H Q E := fun z => by
    simp only [Option.some.injEq, Prod.mk.injEq] at z
    obtain ⟨rfl, rfl⟩ := z
    exact ⟨hl, Bn, Ow, Γ, _, _, rs, e1, nr, hQ⟩
  simp only at ef
  split at ef
  · rename_i c ds hG hO
    split at ef
    · rename_i cond
      simp only [Bool.and_eq_true] at cond
      obtain ⟨⟨c1, c2⟩, c3⟩ := cond
      simp only [Option.some.injEq, Prod.mk.injEq] at ef
      obtain ⟨rfl, rfl⟩ := ef
      refine ⟨hl, Bn, Ow, Γ, _, _, rs, e1, nr, fun v H' O' st ro vl => ?_⟩
      obtain ⟨a, ea, ma, _⟩ := rs.own i _ hG
      obtain ⟨v', ev', rp⟩ := ro.slot i _ hO
      rw [ea] at ev'
      cases ev'
      simp only [Rep] at rp
      obtain ⟨a', ws, e2, na, ha, rp⟩ := rp
      cases e2
      have hk : g.K.lookup a = none := rs.kf a (.inr ma)
      have naO : a ∉ O' := fun z => na (.inr z)
      have naB : ¬ Bn a := fun z => na (.inl z)
      have av : ∀ x, Av Bn (a :: O') x → Av Bn O' x ∨ x = a := fun x z => by
        rcases z with z | z
        · exact .inl (.inl z)
        · rcases List.mem_cons.mp z with z | z
          · exact .inr z
          · exact .inl (.inr z)
      have inner : ∀ {ds : List D} {us : List V}, noLs ds = true → Reps g (Av Bn O') H' ds us → Reps g (Av Bn (a :: O')) H' ds us := fun n r => reps_less av (noLs_reps ha hk _ _ n r)
      have stp : Stp Ow H (a :: O') H' := ⟨st.keep0, fun x z => (List.mem_cons.mp z).elim (fun z => .inl (by rw [z]; exact ma)) (st.grow x)⟩
      have kf2 : ∀ x, x ∈ a :: O' → g.K.lookup x = none := fun x z => (List.mem_cons.mp z).elim (fun z => by rw [z]; exact hk) fun z => ro.kf x (.inr z)
      refine hQ v H' (a :: O') stp ⟨?_, fun j d h => ?_, fun j d h => ?_, fun j k d e x h1 h2 h3 h4 => ?_, fun x z => ?_, fun x z w => ?_, fun x z => ?_, ro.tabs⟩ ?_
      · rw [putBack_len i ds c3]; exact rs.len
      · rcases putBack_get i ds c3 h with ⟨_, z⟩ | ⟨_, ⟨_, _, _, _, _, z⟩ | ⟨c', z1, z2⟩⟩
        · cases z
        · cases z
        · cases z2
          obtain ⟨w, e3, rp3⟩ := rs.slot j _ z1
          exact ⟨w, e3, rep_mono (step_vst stp kf2) _ _ rp3⟩
      · rcases putBack_get i ds c3 h with ⟨z0, z⟩ | ⟨z0, ⟨c', es, z1, z2, z3, z⟩ | ⟨c', z1, z2⟩⟩
        · cases z
          obtain rfl : j = i := by omega
          exact ⟨a, ea, List.mem_cons_self, ws, ha, inner c2 rp⟩
        · cases z
          obtain ⟨b, e3, m3, us, hb, rb⟩ := ro.own j _ z2
          exact ⟨b, e3, List.mem_cons_of_mem _ m3, us, hb, inner z3 rb⟩
        · cases z2
      · have one : ∀ {j : Nat} {d : D}, (putBack i ds 0 Γ os1)[j]? = some (some (d, true)) → (vs.map some)[j]? = some (some (.ref x)) → (j = i ∧ x = a) ∨ (x ∈ O' ∧ ∃ d', os1[j]? = some (some (d', true))) := fun {j d} h1 h3 => by
          rcases putBack_get i ds c3 h1 with ⟨z0, z⟩ | ⟨z0, ⟨c', es, z1, z2, z3, z⟩ | ⟨c', z1, z2⟩⟩
          · obtain rfl : j = i := by omega
            rw [ea] at h3; cases h3
            exact .inl ⟨rfl, rfl⟩
          · obtain ⟨b, e3, m3, _⟩ := ro.own j _ z2
            rw [h3] at e3; cases e3
            exact .inr ⟨m3, _, z2⟩
          · cases z2
        rcases one h1 h3 with ⟨q1, q2⟩ | ⟨q1, d1, q2⟩
        · rcases one h2 h4 with ⟨q3, q4⟩ | ⟨q3, d2, q4⟩
          · omega
          · rw [q2] at q3; exact absurd q3 naO
        · rcases one h2 h4 with ⟨q3, q4⟩ | ⟨q3, d2, q4⟩
          · rw [q4] at q1; exact absurd q1 naO
          · exact ro.dist j k _ _ x q2 q4 h3 h4
      · rcases z with z | z
        · exact ro.trl x (.inl z)
        · rcases List.mem_cons.mp z with z | z
          · rw [z]; exact .inl ⟨_, ha⟩
          · exact ro.trl x (.inr z)
      · rcases List.mem_cons.mp w with w | w
        · rw [w] at z; exact naB z
        · exact ro.sep x z w
      · rcases z with z | z
        · exact ro.kf x (.inl z)
        · exact kf2 x z
      · match r1, c1, vl with
        | .fz d, c1, vl => exact rep_less av (noL_rep ha hk _ _ c1 vl)
        | .nw (.lst es), c1, vl =>
          obtain ⟨p, e3, m3, ⟨us, hb, rb⟩, no⟩ := vl
          refine ⟨p, e3, List.mem_cons_of_mem _ m3, ⟨us, hb, inner c1 rb⟩, fun j d h1 h2 => ?_⟩
          rcases putBack_get i ds c3 h1 with ⟨z0, z⟩ | ⟨z0, ⟨c', es', z1, z2, z3, z⟩ | ⟨c', z1, z2⟩⟩
          · obtain rfl : j = i := by omega
            rw [ea] at h2; cases h2
            exact naO m3
          · exact no j _ z2 h2
          · cases z2
    · exact plain ef
  · exact plain ef
theorem fnok_reown {P : Program} {w : World} {g : Gx} {mg : Str → Option Value} {base : Heap} {k n : Nat} {f : Addr} {fd : FuncData} {ps : List Str} {F : FS} (i : Nat) (h : FnOk P w g.K mg base CX0 k f fd ps (spF g n F)) : FnOk P w g.K mg base CX0 k f fd ps (spF g n (reown i F)) :=
  ⟨fun vs H Q E q => h.len vs H Q E (spF_reown q), fun A outer s H args us vs Q E hr he hb hv hs => h.run A outer s H args us vs Q E hr he hb hv (spF_reown hs)⟩
end DV

namespace DV
/-- further evaluation equations -/
def SX := And.intro (@DV.tupGt.eq_1) <| And.intro (@DV.cmpD.eq_13) <| And.intro (@DV.ev.eq_36) <| And.intro (@DV.ev.eq_37) <| And.intro (@DV.ev.eq_38) <| And.intro (@DV.ev.eq_39) <| And.intro (@DV.biD.eq_23) <| And.intro (@DV.biD.eq_24) <| And.intro (@DV.lstOf.eq_1) <| And.intro (@DV.ev.eq_35) <| And.intro (@DV.isLD.eq_1) <| And.intro (@DV.idxD.eq_1) <| And.intro (@DV.ev.eq_32) <| And.intro (@DV.ev.eq_33) <| And.intro (@DV.ev.eq_34) <| And.intro (@DV.mxdD.eq_1) <| And.intro (@DV.cntD.eq_1) <| And.intro (@DV.ev.eq_27) (And.intro (@DV.ev.eq_28) (And.intro (@DV.ev.eq_29) (And.intro (@DV.ev.eq_30) (And.intro (@DV.ev.eq_31) (And.intro (@DV.rnglD.eq_1) (And.intro (@DV.tupOf.eq_1) (And.intro (@DV.tneD.eq_1) (And.intro (@DV.tneD.eq_2) (And.intro (@DV.trueR.eq_1) (And.intro (@DV.ex.eq_18) (And.intro (@DV.revD.eq_1) (And.intro (@DV.biD.eq_20) (@DV.sortD.eq_1)))))))))))))
end DV


namespace DV
open PySem L2 PySem.Spec
section
variable {X : Cx} {g : Gx} {fs : List FS} {a b : Expr} {ia ib : E} {pos p p2 pos2 : Pos}
theorem reps_rg {A : Addr → Prop} {H : Hp} : ∀ (n : Nat) (lo : Int) (f : Nat → V), (∀ i, f i = .int (lo + (i : Nat))) → Reps g A H (rngD lo 1 n) ((List.range n).map f)
  | 0, lo, f, _ => by simp [rngD, Reps]
  | n + 1, lo, f, h => by
    rw [List.range_succ_eq_map, List.map_cons, List.map_map, rngD]
    simp only [Reps]
    refine ⟨_, _, rfl, ?_, reps_rg n (lo + 1) _ fun i => ?_⟩
    · rw [h 0]; simp [Rep]
    · show f (i + 1) = _
      rw [h (i + 1)]
      congr 1
      omega
/-- list(range(a, b)) -/
theorem p_rngl (C : Cok g X) (hg : Gl X "list") (hm : X.mg "list" = none) (hg2 : Gl X "range") (hm2 : X.mg "range" = none) (ha : PE X a (tR g fs ia)) (hb : PE X b (tR g fs ib)) (na : starEach [a, b] X.env = (false, eval a X.env) :: starEach [b] X.env)
    (nb : starEach [b] X.env = (false, eval b X.env) :: starEach [] X.env) (hp : (backTo pos2 (starEach [b] X.env)).any (·.1) = false)
    (nc : starEach [.Call (.Name "range" p2) [a, b] [] pos2] X.env = (false, eval (.Call (.Name "range" p2) [a, b] [] pos2) X.env) :: starEach [] X.env) : PE X (.Call (.Name "list" p) [.Call (.Name "range" p2) [a, b] [] pos2] [] pos) (tR g fs (.rngl ia ib)) := by
  refine PE.weak (PE.kf (pe_listRg C.calm hg hm (prg_2 hg2 hm2 ha hb na nb hp) nc)) ?_
  rintro σ H Q ⟨Bn, Ow, Γ, r, Γ', rs, he, hQ⟩
  simp only [ev] at he
  obtain ⟨⟨x, Γ1⟩, e1, he⟩ := Option.bind_eq_some_iff.mp he
  obtain ⟨⟨y, Γ2⟩, e2, he⟩ := Option.bind_eq_some_iff.mp he
  obtain ⟨d, ed, he⟩ := Option.bind_eq_some_iff.mp he
  obtain ⟨e, ee, he⟩ := Option.bind_eq_some_iff.mp he
  obtain ⟨ds, h6, he⟩ := Option.map_eq_some_iff.mp he
  simp only [Prod.mk.injEq] at he
  obtain ⟨rfl, rfl⟩ := he
  rw [← datum_dn] at ed ee
  rw [C.K]
  refine tR_two rs e1 e2 fun v w H2 O2 s2 r2 v2 w2 => ?_
  have q1 := v2.rdb r2 ed
  have q2 := w2.rdb r2 ee
  cases d with
  | int i =>
    cases e with
    | int j =>
      simp only [rnglD] at h6
      split at h6
      · rename_i hc
        simp only [Bool.and_eq_true, decide_eq_true_eq] at hc
        cases h6
        have t1 := in62_of hc.1.1
        have t2 := in62_of hc.1.2
        refine ⟨i, j, rdb_int q1, rdb_int q2, ⟨t1.1, t1.2, t2.1, t2.2, by have := hc.2; omega⟩, fun q hq kf => ?_⟩
        have sm : Same H2 (upd H2 q (.lst (rgV i j))) := same_new hq
        obtain ⟨O3, s3, r3, v3⟩ := Res.val (r := .nw (.lst (rngD i 1 (j - i).toNat))) r2 sm (new_lst hq (kf_new kf upd_same) (reps_rg _ i _ fun _ => rfl))
        exact hQ _ _ O3 (s2.trans s3) r3 v3
      · cases h6
    | _ => simp only [rnglD, reduceCtorEq] at h6
  | _ => simp only [rnglD, reduceCtorEq] at h6
end
end DV

namespace DV
open PySem L2 PySem.Spec
section
variable {X : Cx} {g : Gx} {fs : List FS} {pos : Pos}
theorem VlN.same {Bn : Addr → Prop} {Ow : List Addr} {H H' : Hp} {σ : St} {Γ : Ct} (s : Same H H') : ∀ {xs : List RV} {vs : List V}, VlN g Bn Ow H σ Γ xs vs → VlN g Bn Ow H' σ Γ xs vs
  | [], _, h => h
  | x :: xs, _, ⟨v, r, e, h1, h2, h3, h4⟩ => by
    refine ⟨v, r, e, ?_, h2, h3, VlN.same s h4⟩
    cases x with
    | fz d => exact Rep.same h1 s
    | nw d => obtain ⟨a, e1, m1, o1, n1⟩ := h1; exact ⟨a, e1, m1, o1.same s, n1⟩
    | sl i => exact (h3 i rfl).elim
/-- x, y = a, b over a new tuple: new lists stay owned -/
theorem s_parT2 {i j : Nat} {bi bj : Bool} {x y : Str} {a b : Expr} {ia ib : E} {px py pt : Pos} {kt k2 pt2} (C : Cok0 g X) (ha : PA X [a, b] (tAn g fs [(i, bi), (j, bj)] [ia, ib])) (hg : PG X (.Tuple [.Name x px, .Name y py] kt pt) (tgT g.K (.tp [.nm i, .nm j])))
    (hs : swapsWithSole [.Tuple [.Name x px, .Name y py] kt pt] (.Tuple [a, b] k2 pt2) pos.line X.env = pure false) (hw : swappedStores [.Tuple [.Name x px, .Name y py] kt pt] (.Tuple [a, b] k2 pt2) X.env = pure none)
    (h1 : (assignEach [.Tuple [.Name x px, .Name y py] kt pt] X.env).map (·.2) = [assign (.Tuple [.Name x px, .Name y py] kt pt) X.env]) :
    PS X (.Assign [.Tuple [.Name x px, .Name y py] kt pt] (.Tuple [a, b] k2 pt2) pos) (tSt g Wx fs (.par [(i, bi), (j, bj)] [ia, ib])) := by
  refine PS.weak (ps_asg (pe_tup ha) hg hs hw h1) ?_
  intro Dn σ H q
  obtain ⟨pv, Bn, Ow, Γ, o, rs, pn, he, po⟩ := q
  simp only [ex, Option.ite_none_right_eq_some] at he
  obtain ⟨dj, he⟩ := he
  obtain ⟨⟨ys, Γ2⟩, e1, he⟩ := Option.bind_eq_some_iff.mp he
  obtain ⟨Γ3, e2, rfl⟩ := Option.map_eq_some_iff.mp he
  refine ⟨Bn, Ow, Γ, ys, Γ2, rs, e1, fun vs H1 O1 s1 r1 v1 => ?_⟩
  have hl : vs.length = 2 := by rw [← v1.len, ← parS_len e2]; rfl
  refine ⟨by rw [hl, sizeLine_eq]; decide, fun p hp => ?_⟩
  have sm : Same H1 (upd H1 p (.tup vs)) := same_new hp
  obtain ⟨v, w, rfl⟩ : ∃ v w, vs = [v, w] := by
    match vs, hl with
    | [v, w], _ => exact ⟨v, w, rfl⟩
  obtain ⟨r2, p2⟩ := parS_ok (r1.same sm) (v1.same sm) e2 pn dj
  simp only [tgT, tgT.tgTs]
  refine ⟨p, [v, w], rfl, .inl (.inl upd_same), rfl, v, [w], rfl, w, [], rfl, rfl, ?_⟩
  exact po _ _ O1 (s1.trans (.same sm)) r2 p2
end
end DV

namespace DV
open PySem L2 PySem.Spec
/-! ### a list in a field of a new object grows -/
theorem putF_new {nm : Str} {v : V} : ∀ {ks : List Str} {vs : List V}, ks.length = vs.length → ks.contains nm = false → putF nm v (ks.zip vs) = (ks ++ [nm]).zip (vs ++ [v])
  | [], vs, l, _ => by
    have : vs = [] := by cases vs with | nil => rfl | cons _ _ => simp at l
    subst this; rfl
  | k :: ks, [], l, _ => by simp at l
  | k :: ks, u :: vs, l, h => by
    simp only [List.contains_cons, Bool.or_eq_false_iff] at h
    have hk : ¬ k = nm := fun z => by rw [z] at h; simp at h
    simp only [List.zip_cons_cons, putF, List.cons_append]
    rw [if_neg (by first | exact hk | simpa using hk), putF_new (by simpa using l) h.2]
theorem lookup_newF {nm : Str} {v : V} {ks : List Str} {vs : List V} (l : ks.length = vs.length) (h : ks.contains nm = false) : ((ks ++ [nm]).zip (vs ++ [v])).lookup nm = some v := by
  rw [List.zip_append l, List.lookup_append, lookup_no h]
  simp
theorem Stp.cons {O O' : List Addr} {H H' : Hp} (s : Stp O H O' H') (p : Addr) : Stp (p :: O) H (p :: O') H' where
  keep0 := fun a o h t n => s.keep0 a o h t fun z => n (List.mem_cons_of_mem _ z)
  grow := fun a h => by
    rcases List.mem_cons.mp h with h | h
    · exact .inl (by rw [h]; exact List.mem_cons_self)
    · rcases s.grow a h with z | z
      · exact .inl (List.mem_cons_of_mem _ z)
      · exact .inr z
theorem stp_upd {O : List Addr} {H : Hp} {p : Addr} {o : HO} (h : p ∈ O) : Stp O H O (upd H p o) where
  keep0 := fun a x e _ n => by rw [upd_ne (fun z => n (by rw [z]; exact h))]; exact e
  grow := fun _ h => .inl h
section
variable {g : Gx} {Bn : Addr → Prop} {Ow Ow' : List Addr} {H H' : Hp} {σ : St} {Γ Γ' : Ct}
theorem RS.drop (rs : RS g Bn Ow H σ Γ) (i : Nat) : RS g Bn Ow H σ (Γ.set i none) := by
  have low : ∀ {j : Nat} {p : D × Bool}, (Γ.set i none)[j]? = some (some p) → Γ[j]? = some (some p) := fun {j p} h => by
    by_cases hj : i = j
    · subst hj
      by_cases hl : i < Γ.length
      · rw [List.getElem?_set_self hl] at h; cases h
      · rw [List.getElem?_eq_none (by rw [List.length_set]; omega)] at h; cases h
    · rw [List.getElem?_set_ne hj] at h; exact h
  exact ⟨by rw [List.length_set]; exact rs.len, fun j d h => rs.slot j d (low h), fun j d h => rs.own j d (low h), fun j k d e a h1 h2 => rs.dist j k d e a (low h1) (low h2), rs.trl, rs.sep, rs.kf, rs.tabs⟩
/-- what stands while the list grows -/
structure GrowS (g : Gx) (B : Addr → Prop) (p L dx : Addr) (c : Nat) (ks : List Str) (ds : List D) (nm : Str) (O : List Addr) (H : Hp) (Ls : List D) : Prop where
  bp : B p
  bL : B L
  ne : L ≠ p
  self : ∃ vs, ks.length = vs.length ∧ H p = some (.ins (g.cl c) dx ((ks ++ [nm]).zip (vs ++ [.ref L]))) ∧ Reps g (Av B O) H ds vs
  list : ∃ ws, H L = some (.lst ws) ∧ Reps g (Av B O) H Ls ws
theorem GrowS.step {B : Addr → Prop} {p L dx : Addr} {c : Nat} {ks : List Str} {ds : List D} {nm : Str} {Ls : List D} (G : GrowS g B p L dx c ks ds nm Ow H Ls) (sp : ∀ a, B a → a ∉ Ow) (s : Stp Ow H Ow' H') (rs : RS g B Ow' H' σ Γ) : GrowS g B p L dx c ks ds nm Ow' H' Ls := by
  obtain ⟨vs, l, h, r⟩ := G.self
  obtain ⟨ws, h2, r2⟩ := G.list
  exact ⟨G.bp, G.bL, G.ne, ⟨vs, l, s.keep _ _ h (sp _ G.bp), r.step s rs⟩, ⟨ws, s.keep _ _ h2 (sp _ G.bL), r2.step s rs⟩⟩
theorem GrowS.app {B : Addr → Prop} {p L dx : Addr} {c : Nat} {ks : List Str} {ds : List D} {nm : Str} {Ls : List D} {d : D} {v : V} {ws : List V} (G : GrowS g B p L dx c ks ds nm Ow H Ls) (hw : H L = some (.lst ws)) (r : Rep g (Av B Ow) H d v) : GrowS g B p L dx c ks ds nm Ow (upd H L (.lst (ws ++ [v]))) (Ls ++ [d]) := by
  obtain ⟨vs, l, h, r1⟩ := G.self
  obtain ⟨ws', h2, r2⟩ := G.list
  rw [hw] at h2; cases h2
  have vst := ban_vst (g := g) (H := H) (o := .lst (ws ++ [v])) (A := Av B Ow) (p := L) (.inl G.bL)
  exact ⟨G.bp, G.bL, G.ne, ⟨vs, l, by rw [upd_ne (fun z => G.ne z.symm)]; exact h, reps_mono vst _ _ r1⟩, ⟨_, upd_same, reps_mono vst _ _ (r2.app (Reps.one r))⟩⟩
end
section
variable {X : Cx} {g : Gx} {fs : List FS}
theorem ss_grow {c i k n lv : Nat} {nm : Str} {o0 o1 o2 e0 l l2 : Expr} {es elts : List Expr} {rest : List Stmt} {ie0 ie1 ie2 : E} {ies : List E} {ir : List S} {itg : Tg} {F : FS} {x : Str} {j1} {kk} {tpos0 pos0 tpos pz posz pa1 apos px pa2 pc1 pu1 psb cpos cpos2 spos pos : Pos}
    (C : Cok g X) (ho0 : PE X o0 (tVar i)) (he0 : PE X e0 (tR g fs ie0)) (hc : Cls g.K (g.cl c) ∧ NoAttr g.K (g.cl c) nm) (hs0 : swapsWith e0 (some (.Attribute o0 nm tpos0)) pos0.line X.env = pure false)
    (hp : PassesOwn (model X.prog X.w) X.A X.env X.xe) (hg1 : Gl X "zip") (hm1 : X.mg "zip" = none) (hz : PA X [l, l2] (tAs g fs [ie1, ie2])) (hz1 : starEach [l, l2] X.env = (false, eval l X.env) :: starEach [l2] X.env) (hz2 : (backTo posz (starEach [l2] X.env)).any (·.1) = false)
    (hg : PG X (.Tuple elts kk tpos) (tgT g.K itg)) (hfs : ∀ x, foldedSetIterable (.Call (.Name "zip" pz) [l, l2] [] posz) X.env x = pure x)
    (ho1 : PE X o1 (tVar i)) (hb1 : attributeBase o1 nm X.env (eval o1 X.env) = eval o1 X.env) (ho2 : PE X o2 (tVar i)) (hb2 : attributeBase o2 nm X.env (eval o2 X.env) = eval o2 X.env)
    (cal : Cal X.prog X.w X.mg X.base g lv x n F) (hF : fs[k]? = some F) (hn : ies.length + 1 = n) (hr : Room lv X.A) (hgx : Gl X x) (ha : PA X es (tAw g fs ies))
    (hdb : (x == ("__debug__" : Str)) = false) (hplx : PlainIx (.UnaryOp .USub (.Constant (.int 1) j1 pc1) pu1))
    (hst : starEach (.Subscript (.Attribute o2 nm pa2) (.UnaryOp .USub (.Constant (.int 1) j1 pc1) pu1) psb :: es) X.env = (false, eval (.Subscript (.Attribute o2 nm pa2) (.UnaryOp .USub (.Constant (.int 1) j1 pc1) pu1) psb) X.env) :: starEach es X.env) (hpl : (backTo cpos (starEach es X.env)).any (·.1) = false)
    (hbase : attributeBase (.Attribute o1 nm pa1) "append" X.env (eval (.Attribute o1 nm pa1) X.env) = eval (.Attribute o1 nm pa1) X.env) (hline : (apos.endLine == cpos2.line) = true)
    (hs : starEach [.Call (.Name x px) (.Subscript (.Attribute o2 nm pa2) (.UnaryOp .USub (.Constant (.int 1) j1 pc1) pu1) psb :: es) [] cpos] X.env = [(false, eval (.Call (.Name x px) (.Subscript (.Attribute o2 nm pa2) (.UnaryOp .USub (.Constant (.int 1) j1 pc1) pu1) psb :: es) [] cpos) X.env)])
    (hsw : swapsWith (.Call (.Attribute (.Attribute o1 nm pa1) "append" apos) [.Call (.Name x px) (.Subscript (.Attribute o2 nm pa2) (.UnaryOp .USub (.Constant (.int 1) j1 pc1) pu1) psb :: es) [] cpos] [] cpos2) none spos.line X.env = pure false)
    (hrest : PSs X rest (tSs g Wx fs ir)) :
    PSs X (.Assign [.Attribute o0 nm tpos0] e0 pos0 :: .For (.Tuple elts kk tpos) (.Call (.Name "zip" pz) [l, l2] [] posz) [.Expr (.Call (.Attribute (.Attribute o1 nm pa1) "append" apos) [.Call (.Name x px) (.Subscript (.Attribute o2 nm pa2) (.UnaryOp .USub (.Constant (.int 1) j1 pc1) pu1) psb :: es) [] cpos] [] cpos2) spos] [] pos :: rest)
      (tSs g Wx fs (.grow c i nm ie0 itg ie1 ie2 k ies :: ir)) := by
  obtain ⟨f, fd, ps, c1, c2, c3, c4⟩ := cal.ex
  rw [← C.K] at c2 c3 c4
  refine PSs.weak (pss_cons (ps_fld ho0 he0 hs0) (pss_cons (ps_for hp C.calm (pi_zip hg1 hm1 hz hz1 hz2) hg
    (pss_one (ps_expr (pe_bm PySem.F.plainAttrs_list PySem.F.slot_list_append PySem.F.type_list_append mt_append (pe_fld ho1 hb1)
      (pa_cons (pe_call c4 hr hgx c1 c2 c3 .nil pass0 (pa_cons (pe_ix ix_list (pe_fld ho2 hb2) (pe_un un_neg pe_int) hplx) ha hst) hdb hst hpl) pa_nil (by rw [hs]; rfl)) hbase (by rw [hs]; rfl) hline (by rw [hs]; rfl) rfl) hsw)) hfs) hrest)) ?_
  rintro Dn σ H ⟨pv, Bn, Ow, Γ, o, rs, pn, he, po⟩
  simp only [exs, ex] at he
  obtain ⟨oo, e0', he⟩ := Option.bind_eq_some_iff.mp he
  obtain ⟨⟨x0, Γ1⟩, e1, e0'⟩ := Option.bind_eq_some_iff.mp e0'
  simp only at e0'
  split at e0'
  rotate_left
  · cases e0'
  rename_i L0 cc ks ds hΓi
  simp only [Option.ite_none_right_eq_some] at e0'
  obtain ⟨⟨hcc, kl, kd, kn, dj⟩, e0'⟩ := e0'
  subst hcc
  obtain ⟨⟨xs, Γ2⟩, e2, e0'⟩ := Option.bind_eq_some_iff.mp e0'
  obtain ⟨⟨zs, Γ3⟩, e3, e0'⟩ := Option.bind_eq_some_iff.mp e0'
  obtain ⟨F', e4, e0'⟩ := Option.bind_eq_some_iff.mp e0'
  rw [hF] at e4; cases e4
  obtain ⟨⟨Lf, Γ4⟩, e5, e0'⟩ := Option.map_eq_some_iff.mp e0'
  subst e0'
  simp only at he e2 e3 e5
  refine ⟨Bn, Ow, Γ, _, Γ1, rs, e1, fun v H1 O1 s1 r1 vl => ?_⟩
  obtain ⟨L, rfl, mL, ⟨ws0, hL0, rL0⟩, noL⟩ := vl
  obtain ⟨p, ep, mp, dx, vs0, lv0, hp0, rp0⟩ := r1.own i _ hΓi
  rw [C.K]
  refine ⟨_, ep, p, g.cl cc, dx, ks.zip vs0, rfl, hp0, hc.1, hc.2, by rw [List.length_zip]; omega, ?_⟩
  rw [putF_new lv0 kn]
  have neL : L ≠ p := fun z => by subst z; rw [hL0] at hp0; cases hp0
  have hil : i < Γ1.length := (List.getElem?_eq_some_iff.mp hΓi).1
  have low : ∀ {j : Nat} {q : D × Bool}, (Γ1.set i none)[j]? = some (some q) → i ≠ j ∧ Γ1[j]? = some (some q) := fun {j q} h => by
    by_cases hj : i = j
    · subst hj; rw [List.getElem?_set_self hil] at h; cases h
    · rw [List.getElem?_set_ne hj] at h; exact ⟨hj, h⟩
  have r2 := (r1.drop i).ban (d := .non) mp fun j e h1 h2 => (low h1).1 (r1.dist i j _ _ p hΓi (low h1).2 ep h2)
  have r3 := r2.ban (d := .non) (p := L) (ne_mem mL neL) fun j e h1 h2 => noL j e (low h1).2 h2
  have r4 := r3.updB (p := p) (o := .ins (g.cl cc) dx ((ks ++ [nm]).zip (vs0 ++ [.ref L]))) (.inl (.inr rfl)) (.inr ⟨_, _, _, upd_same⟩)
  generalize hB : orB (orB Bn p) L = B at r3 r4
  generalize hO : (O1.filter (fun x => decide (x ≠ p))).filter (fun x => decide (x ≠ L)) = O3 at r3 r4
  have bp : B p := by rw [← hB]; exact .inl (.inr rfl)
  have bL : B L := by rw [← hB]; exact .inr rfl
  have kB : ∀ a, Av B O3 a → Av Bn O1 a := fun a z => by
    rw [← hB, ← hO] at z
    rcases z with ((z | z) | z) | z
    · exact .inl z
    · rw [z]; exact .inr mp
    · rw [z]; exact .inr mL
    · exact .inr (mem_ne (mem_ne z).1).1
  have vst := ban_vst (g := g) (H := H1) (o := .ins (g.cl cc) dx ((ks ++ [nm]).zip (vs0 ++ [.ref L]))) (A := Av B O3) (p := p) (.inl bp)
  have G0 : GrowS g B p L dx cc ks ds nm O3 (upd H1 p (.ins (g.cl cc) dx ((ks ++ [nm]).zip (vs0 ++ [.ref L])))) L0 :=
    ⟨bp, bL, neL, ⟨vs0, lv0, upd_same, reps_mono vst _ _ (reps_less kB rp0)⟩, ⟨ws0, by rw [upd_ne neL]; exact hL0, reps_mono vst _ _ (reps_less kB rL0)⟩⟩
  have s4 : Stp O1 H1 (p :: L :: O3) (upd H1 p (.ins (g.cl cc) dx ((ks ++ [nm]).zip (vs0 ++ [.ref L])))) := ⟨fun a o h _ n => by rw [upd_ne (fun z => n (by rw [z]; exact mp))]; exact h, fun a h => .inl (by
    rcases List.mem_cons.mp h with h | h
    · rw [h]; exact mp
    · rcases List.mem_cons.mp h with h | h
      · rw [h]; exact mL
      · rw [← hO] at h; exact (mem_ne (mem_ne h).1).1)⟩
  refine ⟨B, O3, Γ1.set i none, xs, Γ2, r4, e2, fun vs H5 O5 s5 r5 v5 => ?_⟩
  simp only [evs] at e2
  obtain ⟨⟨x1, G1⟩, e6, e2⟩ := Option.bind_eq_some_iff.mp e2
  obtain ⟨⟨ys, G2⟩, e7, e2⟩ := Option.map_eq_some_iff.mp e2
  obtain ⟨⟨x2, G3⟩, e8, e7⟩ := Option.bind_eq_some_iff.mp e7
  simp only [Option.map_some, Option.some.injEq, Prod.mk.injEq] at e7 e2
  obtain ⟨rfl, rfl⟩ := e7
  obtain ⟨rfl, rfl⟩ := e2
  simp only [iterD] at e3
  obtain ⟨⟨d, F1⟩, e9, e3⟩ := Option.bind_eq_some_iff.mp e3
  obtain ⟨⟨e, F2⟩, e10, e3⟩ := Option.bind_eq_some_iff.mp e3
  cases d <;> cases e <;> simp only [reduceCtorEq, Option.some.injEq, Prod.mk.injEq] at e3
  rename_i D1 _ D2
  obtain ⟨rfl, rfl⟩ := e3
  obtain ⟨v, w, rfl, v1, w', w'', rfl, v2, z⟩ := v5
  have z : w'' = [] := z
  subst z
  rw [← fre_dn] at e9 e10
  obtain ⟨O6, s6, r6, rp⟩ := fre_ok r5 v1 e9
  obtain ⟨O7, s7, r7, rq⟩ := fre_ok r6 (v2.step s6 r6) e10
  have rp := rp.step s7 r7
  have G7 := G0.step r4.sep ((s5.trans s6).trans s7) r7
  have ra := rp
  have rb := rq
  simp only [Rep] at ra rb
  obtain ⟨a, va, rfl, na, hva, rra⟩ := ra
  obtain ⟨b, vb, rfl, nb, hvb, rrb⟩ := rb
  refine ⟨a, b, va, vb, rfl, .inl (.inl hva), .inl (.inl hvb), ?_⟩
  have S7 : Stp Ow H (p :: L :: O7) H5 := (s1.trans s4).trans ((((s5.trans s6).trans s7).cons L).cons p)
  have hip : i ∉ tgIx itg := fun z => by
    have := List.all_eq_true.mp dj _ z
    simp at this
  have djp : disjB (tgIx itg) (pv.2.map (·.1)) = true := List.all_eq_true.mpr fun y hy => by
    have := List.all_eq_true.mp dj y hy
    simp only [List.contains_cons, Bool.not_or, Bool.and_eq_true] at this
    exact this.2
  let C1 : Nat → St → Hp → Prop := fun m σ2 H2 => ∃ O2 G2 Ls, Stp (p :: L :: O7) H5 (p :: L :: O2) H2 ∧ RS g B O2 H2 σ2 G2 ∧ Pin pv σ2 ∧ σ2[i]? = some (some (.ref p)) ∧ GrowS g B p L dx cc ks ds nm O2 H2 Ls ∧ Rep g (Av B O2) H2 (.lst D1) (.ref a) ∧ Rep g (Av B O2) H2 (.lst D2) (.ref b) ∧ growLoop itg F (evs fs ies) ((zipD D1 D2).drop m) Ls G2 = some (Lf, Γ4)
  refine ⟨fun m r σ2 H2 => r = (zipD D1 D2).length - m ∧ m ≤ (zipD D1 D2).length ∧ C1 m σ2 H2, ⟨(zipD D1 D2).length, by simp, Nat.zero_le _, O7, _, L0, .refl _ _, r7, pn, ep, G7, rp, rq, e5⟩, ?_⟩
  rintro m r σ2 H2 ⟨rfl, hle, O2, G2, Ls, s2', r2', p2', ei, GS, qa, qb, l2'⟩
  have qa' := qa
  have qb' := qb
  simp only [Rep] at qa' qb'
  obtain ⟨a', wa, ea', nwa, hwa, rwa⟩ := qa'
  obtain ⟨b', wb, eb', nwb, hwb, rwb⟩ := qb'
  cases ea'; cases eb'
  by_cases hlt : m < (zipD D1 D2).length
  · have hlt2 := hlt
    rw [zipD_len] at hlt2
    have hm1 : m < wa.length := by rw [← rwa.len]; omega
    have hm2 : m < wb.length := by rw [← rwb.len]; omega
    refine .inr ⟨⟨wa, wb, wa[m], wb[m], .inl (.inl hwa), .inl (.inl hwb), List.getElem?_eq_getElem hm1, List.getElem?_eq_getElem hm2⟩, fun σ' H' => C1 (m + 1) σ' H', fun σ' H' q => ⟨(zipD D1 D2).length - (m + 1), by omega, rfl, hlt, q⟩, fun x' H3 y' => ?_⟩
    have edr : (zipD D1 D2).drop m = (zipD D1 D2)[m] :: (zipD D1 D2).drop (m + 1) := List.drop_eq_getElem_cons hlt
    rw [edr] at l2'
    simp only [growLoop] at l2'
    obtain ⟨G3', a1, l2'⟩ := Option.bind_eq_some_iff.mp l2'
    obtain ⟨ll, a2, l2'⟩ := Option.bind_eq_some_iff.mp l2'
    obtain ⟨⟨ys, G4'⟩, a3, l2'⟩ := Option.bind_eq_some_iff.mp l2'
    obtain ⟨⟨rr, G5'⟩, a4, l2'⟩ := Option.bind_eq_some_iff.mp l2'
    obtain ⟨⟨yd, G6'⟩, a5, l2'⟩ := Option.bind_eq_some_iff.mp l2'
    simp only [Option.ite_none_right_eq_some] at l2'
    obtain ⟨hsz, l2'⟩ := l2'
    obtain ⟨T, v', w', rfl, nT, e0, y1, y2⟩ := y'
    obtain ⟨p1, q1', e1', e2', ez⟩ := zipD_get (List.getElem?_eq_getElem hlt)
    obtain ⟨u1, e3', rr1⟩ := rwa.get e1'
    obtain ⟨u2, e4', rr2⟩ := rwb.get e2'
    have e5' := y1 wa (.inl (.inl hwa))
    have e6' := y2 wb (.inl (.inl hwb))
    rw [e3'] at e5'; cases e5'
    rw [e4'] at e6'; cases e6'
    obtain ⟨sm, rx⟩ := tup2 nT e0 r2'.trk rr1 rr2
    rw [← ez] at rx
    have r3' := r2'.same sm
    have GS3 := GS.step r2'.sep (Stp.same sm) r3'
    refine asgT_ok itg r3' rx a1 fun σ3 q1 q2 q3 => ?_
    have ei3 : σ3[i]? = some (some (.ref p)) := by rw [q3 i hip]; exact ei
    obtain ⟨fv, lfv, hp3, rfv⟩ := GS3.self
    obtain ⟨lw, hL3, rlw⟩ := GS3.list
    refine ⟨_, ei3, p, g.cl cc, dx, _, .ref L, rfl, hp3, hc.1, hc.2, lookup_newF lfv kn, ?_⟩
    refine ⟨.inl ⟨rfl, lw, .inl (.inl hL3)⟩, ?_⟩
    have hll : atI lw (-1) = some (lw.getLast?.getD .non) ∧ Rep g (Av B O2) H3 ll (lw.getLast?.getD .non) := by
      have hne : Ls ≠ [] := fun z => by rw [z] at a2; cases a2
      obtain ⟨Li, rfl⟩ : ∃ Li, Ls = Li ++ [ll] := ⟨Ls.dropLast, by rw [List.getLast?_eq_getLast hne, Option.some.injEq] at a2; rw [← a2, List.dropLast_concat_getLast]⟩
      obtain ⟨vl, g1, g2⟩ := rlw.get (i := Li.length) (d := ll) (by simp)
      have hlen := rlw.len
      rw [List.length_append, List.length_singleton] at hlen
      have : lw = lw.take Li.length ++ [vl] := by
        apply List.ext_getElem?
        intro q
        by_cases hq : q < Li.length
        · rw [List.getElem?_append_left (by rw [List.length_take]; omega), List.getElem?_take_of_lt hq]
        · by_cases hq2 : q = Li.length
          · subst hq2
            rw [g1, List.getElem?_append_right (by rw [List.length_take]; omega), List.length_take]
            rw [show Li.length - min Li.length lw.length = 0 by omega]; rfl
          · rw [List.getElem?_eq_none (by omega), List.getElem?_eq_none (by simp; omega)]
      rw [this, List.getLast?_concat]
      exact ⟨atI_last _ _, g2⟩
    refine ⟨_, ei3, p, g.cl cc, dx, _, .ref L, rfl, hp3, hc.1, hc.2, lookup_newF lfv kn, 1, rfl, L, lw, _, _, rfl, rfl, .inl (.inl hL3), hll.1, ?_⟩
    refine ⟨B, O2, G3', ys, G4', q1, a3, fun vs H6 O6 s6' r6' v6 => ?_⟩
    have rl6 := hll.2.step s6' r6'
    have GS6 := GS3.step q1.sep s6' r6'
    show spF g n F (_ ++ []) H6 _ _
    rw [List.append_nil]
    refine callD_core (xs := .fz ll :: ys) r6' ⟨_, vs, rfl, rl6, nofun, v6⟩ a4 ?_ fun u H7 O7' s7' r7' v7 => ?_
    · rw [List.length_cons, ← v6.len, ← evs_len a3]; exact hn
    obtain ⟨O8, s8, r8, rp8⟩ := fre_ok r7' v7 a5
    have GS8 := GS6.step r6'.sep (s7'.trans s8) r8
    obtain ⟨lw8, hL8, rlw8⟩ := GS8.list
    refine ⟨L, lw8, u, rfl, rfl, hL8, by rw [← rlw8.len]; exact hsz, ?_⟩
    have st8 : Stp O2 H2 O8 H7 := (Stp.same sm).trans (s6'.trans (s7'.trans s8))
    have vst8 := ban_vst (g := g) (H := H7) (o := .lst (lw8 ++ [u])) (A := Av B O8) (p := L) (.inl bL)
    refine ⟨O8, G6', Ls ++ [yd], s2'.trans (((st8.cons L).cons p).trans (stp_upd (List.mem_cons_of_mem _ List.mem_cons_self))), r8.updB bL (.inl ⟨_, upd_same⟩), p2'.keep djp q2 q3, ei3, GS8.app hL8 rp8, rep_mono vst8 _ _ (qa.step st8 r8), rep_mono vst8 _ _ (qb.step st8 r8), l2'⟩
  · have e : m = (zipD D1 D2).length := by omega
    subst e
    rw [List.drop_length] at l2'
    simp only [growLoop, Option.some.injEq, Prod.mk.injEq] at l2'
    obtain ⟨rfl, rfl⟩ := l2'
    refine .inl ⟨⟨wa, wb, .inl (.inl hwa), .inl (.inl hwb), by rw [zipD_len, ← rwa.len, ← rwb.len]; omega⟩, ?_⟩
    have nbp : ¬ Bn p := fun z => r1.sep p z mp
    have nbL : ¬ Bn L := fun z => r1.sep L z mL
    obtain ⟨fv, lfv, hp3, rfv⟩ := GS.self
    obtain ⟨lw, hL3, rlw⟩ := GS.list
    have npO : p ∉ O2 := r2'.sep p bp
    have nLO : L ∉ O2 := r2'.sep L bL
    have kA : ∀ a, Av Bn (p :: O2) a → Av B O2 a := fun a z => by
      rcases z with z | z
      · exact .inl (by rw [← hB]; exact .inl (.inl z))
      · rcases List.mem_cons.mp z with z | z
        · rw [z]; exact .inl bp
        · exact .inr z
    have nAL : ¬ Av Bn (p :: O2) L := fun z => by
      rcases z with z | z
      · exact nbL z
      · rcases List.mem_cons.mp z with z | z
        · exact neL z
        · exact nLO z
    have rLf : Rep g (Av Bn (p :: O2)) H2 (.lst Ls) (.ref L) := by
      simp only [Rep]
      exact ⟨L, lw, rfl, nAL, hL3, reps_less kA rlw⟩
    have own : OwnA g (Av Bn (p :: O2)) H2 (.obj cc (ks ++ [nm]) (ds ++ [.lst Ls])) p := ⟨dx, fv ++ [.ref L], by rw [List.length_append, List.length_append, lfv]; rfl, hp3, (reps_less kA rfv).app (Reps.one rLf)⟩
    have hiG : i < G2.length := by rw [← r2'.len]; exact (List.getElem?_eq_some_iff.mp ei).1
    have rfin : RS g Bn (p :: O2) H2 σ2 (G2.set i (some (.obj cc (ks ++ [nm]) (ds ++ [.lst Ls]), true))) := by
      refine ⟨by rw [List.length_set]; exact r2'.len, fun j d h => ?_, fun j d h => ?_, fun j k d e a h1 h2 h3 h4 => ?_, fun a h => r2'.trl a (kA a h), fun a h z => ?_, fun a h => r2'.kf a (kA a h), r2'.tabs⟩
      · have hj : i ≠ j := fun z => by subst z; rw [List.getElem?_set_self hiG] at h; cases h
        rw [List.getElem?_set_ne hj] at h
        obtain ⟨u, h1, h2⟩ := r2'.slot j d h
        exact ⟨u, h1, rep_less kA h2⟩
      · by_cases hj : i = j
        · subst hj
          rw [List.getElem?_set_self hiG] at h; cases h
          exact ⟨p, ei, List.mem_cons_self, own⟩
        · rw [List.getElem?_set_ne hj] at h
          obtain ⟨u, h1, h2, h3⟩ := r2'.own j d h
          exact ⟨u, h1, List.mem_cons_of_mem _ h2, own_less kA h3⟩
      · by_cases hj : i = j
        · by_cases hk : i = k
          · rw [← hj, ← hk]
          · subst hj
            rw [List.getElem?_set_ne hk] at h2
            rw [ei] at h3; cases h3
            obtain ⟨u, q1, q2, _⟩ := r2'.own k e h2
            rw [h4] at q1; cases q1
            exact absurd q2 npO
        · by_cases hk : i = k
          · subst hk
            rw [List.getElem?_set_ne hj] at h1
            rw [ei] at h4; cases h4
            obtain ⟨u, q1, q2, _⟩ := r2'.own j d h1
            rw [h3] at q1; cases q1
            exact absurd q2 npO
          · rw [List.getElem?_set_ne hj] at h1
            rw [List.getElem?_set_ne hk] at h2
            exact r2'.dist j k d e a h1 h2 h3 h4
      · rcases List.mem_cons.mp z with z | z
        · rw [z] at h; exact nbp h
        · exact r2'.sep a (by rw [← hB]; exact .inl (.inl h)) z
    have sfin : Stp Ow H (p :: O2) H2 := ⟨(S7.trans s2').keep0, fun a h => (S7.trans s2').grow a (by
      rcases List.mem_cons.mp h with h | h
      · rw [h]; exact List.mem_cons_self
      · exact List.mem_cons_of_mem _ (List.mem_cons_of_mem _ h))⟩
    exact ⟨pv, Bn, p :: O2, _, o, rfin, p2', he, po.step sfin⟩
end
end DV

namespace DV
open PySem L2 PySem.Spec PyProof.Rows
/-! ### max, min with default= -/
theorem depth_ints : ∀ ns : List Int, PyData.depthAll (ns.map PyData.int) ≤ 1
  | [] => Nat.zero_le _
  | n :: ns => Nat.max_le.mpr ⟨by simp [PyData.depth], depth_ints ns⟩
theorem alike_ints' (ns : List Int) : PySem.W.AlikeAll (ns.map PyData.int) := by
  constructor
  · intro x hx y hy
    obtain ⟨i, _, rfl⟩ := List.mem_map.mp hx
    obtain ⟨j, _, rfl⟩ := List.mem_map.mp hy
    rfl
  · intro x hx
    obtain ⟨i, _, rfl⟩ := List.mem_map.mp hx
    exact fun z => nomatch z
theorem foldMax : ∀ (ns : List Int) (n : Int), ns.foldl max n ∈ n :: ns ∧ ∀ y ∈ n :: ns, y ≤ ns.foldl max n
  | [], n => ⟨List.mem_cons_self, fun y hy => by simp at hy; rw [hy]; exact Int.le_refl _⟩
  | k :: ns, n => by
    have ih := foldMax ns (max n k)
    rw [List.foldl_cons]
    constructor
    · rcases List.mem_cons.mp ih.1 with e | e
      · rw [e]
        rcases Int.le_total n k with h | h
        · rw [Int.max_eq_right h]; simp
        · rw [Int.max_eq_left h]; simp
      · exact List.mem_cons_of_mem _ (List.mem_cons_of_mem _ e)
    · intro y hy
      have a := ih.2 _ List.mem_cons_self
      rcases List.mem_cons.mp hy with rfl | hy
      · omega
      · rcases List.mem_cons.mp hy with rfl | hy
        · omega
        · exact ih.2 y (List.mem_cons_of_mem _ hy)
theorem foldMin : ∀ (ns : List Int) (n : Int), ns.foldl min n ∈ n :: ns ∧ ∀ y ∈ n :: ns, ns.foldl min n ≤ y
  | [], n => ⟨List.mem_cons_self, fun y hy => by simp at hy; rw [hy]; exact Int.le_refl _⟩
  | k :: ns, n => by
    have ih := foldMin ns (min n k)
    rw [List.foldl_cons]
    constructor
    · rcases List.mem_cons.mp ih.1 with e | e
      · rw [e]
        rcases Int.le_total n k with h | h
        · rw [Int.min_eq_left h]; simp
        · rw [Int.min_eq_right h]; simp
      · exact List.mem_cons_of_mem _ (List.mem_cons_of_mem _ e)
    · intro y hy
      have a := ih.2 _ List.mem_cons_self
      rcases List.mem_cons.mp hy with rfl | hy
      · omega
      · rcases List.mem_cons.mp hy with rfl | hy
        · omega
        · exact ih.2 y (List.mem_cons_of_mem _ hy)
def rMxd (K : PySem.W.Frag) (m : Bool) : List V → List V → Hp → VK → Prop := fun vs zs H Q => ∃ (a : Addr) (ns : List Int) (z : V), vs = [V.ref a] ∧ zs = [z] ∧ SqL K H a (ns.map V.int) ∧ (ns = [] → Q z H) ∧ ∀ M, M ∈ ns → (∀ y, y ∈ ns → if m then y ≤ M else M ≤ y) → Q (.int M) H
section
variable {X : Cx}
theorem cr_maxDef (hc : X.calm = true) (hu : X.A.units + 64 < cLine) : CallRK X (.builtin "max") [Str.ofString "default"] (rMxd X.K true) := by
  intro pins s σ H vs zs us ws Q I r rz h
  obtain ⟨a, ns, z, rfl, rfl, hs, h0, q⟩ := h
  obtain ⟨its, rv, hl, _⟩ := I.list hs
  rw [Vals.ref1 r]
  obtain ⟨u, rfl, ru⟩ := rz.one
  have hd := depth_ints ns
  refine PySem.W.max_list_default (I.ok.hd hc) hl.isList (ints_readAll s.heap rv.ints) (alike_ints' ns) (by omega) (fun e h' tk hk => ?_) (fun y ys i v h' tk bs e hv hr hk => ?_)
  · have e : ns = [] := by cases ns with
      | nil => rfl
      | cons x l => simp at e
    exact ⟨z, H, I.kept hk, ru, h0 e⟩
  · cases ns with
    | nil => simp at e
    | cons x l =>
      simp only [List.map_cons, List.cons.injEq] at e
      obtain ⟨rfl, rfl⟩ := e
      rw [PySem.W.maxD_ints] at hr
      obtain ⟨t, rfl, _⟩ := reads_int_inv hr
      have f := foldMax l x
      exact ⟨.int _, H, I.kept hk, ⟨_, rfl⟩, q _ f.1 (fun y hy => by simpa using f.2 y hy)⟩
theorem cr_minDef (hc : X.calm = true) (hu : X.A.units + 64 < cLine) : CallRK X (.builtin "min") [Str.ofString "default"] (rMxd X.K false) := by
  intro pins s σ H vs zs us ws Q I r rz h
  obtain ⟨a, ns, z, rfl, rfl, hs, h0, q⟩ := h
  obtain ⟨its, rv, hl, _⟩ := I.list hs
  rw [Vals.ref1 r]
  obtain ⟨u, rfl, ru⟩ := rz.one
  have hd := depth_ints ns
  refine PySem.W.min_list_default (I.ok.hd hc) hl.isList (ints_readAll s.heap rv.ints) (alike_ints' ns) (by omega) (fun e h' tk hk => ?_) (fun y ys i v h' tk bs e hv hr hk => ?_)
  · have e : ns = [] := by cases ns with
      | nil => rfl
      | cons x l => simp at e
    exact ⟨z, H, I.kept hk, ru, h0 e⟩
  · cases ns with
    | nil => simp at e
    | cons x l =>
      simp only [List.map_cons, List.cons.injEq] at e
      obtain ⟨rfl, rfl⟩ := e
      rw [PySem.W.minD_ints] at hr
      obtain ⟨t, rfl, _⟩ := reads_int_inv hr
      have f := foldMin l x
      exact ⟨.int _, H, I.kept hk, ⟨_, rfl⟩, q _ f.1 (fun y hy => by simpa using f.2 y hy)⟩
end
section
variable {X : Cx} {g : Gx} {fs : List FS} {a b : Expr} {ia ib : E} {pos p kp : Pos} {es : List Expr}
theorem maxI_nil {ns : List Int} (h : maxI ns = none) : ns = [] := by cases ns <;> simp_all [maxI]
theorem minI_nil {ns : List Int} (h : minI ns = none) : ns = [] := by cases ns <;> simp_all [minI]
theorem mxd_core {m : Bool} {Q : VK} {σ : L2.St} {H : Hp} (hK : X.K = g.K) (h : tR g fs (.mxd m ia ib) σ H Q) : tCKw (rMxd X.K m) (tCons (tR g fs ia) tNil) (tCons (tR g fs ib) tNil) σ H Q := by
  obtain ⟨Bn, Ow, Γ, r, Γ', rs, he, hQ⟩ := h
  simp only [ev] at he
  obtain ⟨⟨x, Γ1⟩, e1, he⟩ := Option.bind_eq_some_iff.mp he
  obtain ⟨⟨y, Γ2⟩, e2, he⟩ := Option.bind_eq_some_iff.mp he
  obtain ⟨d, ed, he⟩ := Option.bind_eq_some_iff.mp he
  obtain ⟨e, ee, he⟩ := Option.bind_eq_some_iff.mp he
  obtain ⟨d', h6, he⟩ := Option.map_eq_some_iff.mp he
  simp only [Prod.mk.injEq] at he
  obtain ⟨rfl, rfl⟩ := he
  rw [← datum_dn] at ed ee
  rw [hK]
  show tR g fs ia σ H fun v H1 => tR g fs ib σ H1 fun w H2 => rMxd g.K m [v] [w] H2 Q
  refine tR_two rs e1 e2 fun v w H2 O2 s2 r2 v2 w2 => ?_
  have q1 := v2.rdb r2 ed
  have q2 := w2.rdb r2 ee
  cases d with
  | lst xs =>
    simp only [mxdD] at h6
    obtain ⟨ns, e3, h6⟩ := Option.bind_eq_some_iff.mp h6
    obtain ⟨l, ws, rfl, e4, r1⟩ := q1
    rw [ints_of r1 e3] at e4
    refine ⟨l, ns, w, rfl, rfl, .inl (.inl e4), fun hn => ?_, fun M hM hy => ?_⟩
    · subst hn
      have h7 : (if flatD e then some e else none) = some d' := by
        cases m
        · simpa only [Bool.false_eq_true, if_false, minI] using h6
        · simpa only [if_true, maxI] using h6
      simp only [Option.ite_none_right_eq_some, Option.some.injEq] at h7
      obtain ⟨hf, rfl⟩ := h7
      refine hQ w H2 O2 s2 r2 ?_
      show Rep g (Av Bn O2) H2 e w
      cases e <;> first | exact q2 | (simp [flatD] at hf)
    · have : d' = .int M := by
        cases m with
        | true =>
          simp only [if_true] at h6 hy
          cases hm : maxI ns with
          | none => have := maxI_nil hm; subst this; cases hM
          | some k =>
            rw [hm] at h6
            have sp := maxI_spec hm
            simp only [Option.some.injEq] at h6
            rw [← h6, Int.le_antisymm (hy k sp.1) (sp.2 M hM)]
        | false =>
          simp only [Bool.false_eq_true, if_false] at h6 hy
          cases hm : minI ns with
          | none => have := minI_nil hm; subst this; cases hM
          | some k =>
            rw [hm] at h6
            have sp := minI_spec hm
            simp only [Option.some.injEq] at h6
            rw [← h6, Int.le_antisymm (sp.2 M hM) (hy k sp.1)]
      subst this
      exact hQ _ H2 O2 s2 r2 (show Rep g (Av Bn O2) H2 (.int M) (.int M) by simp only [Rep])
  | _ => simp only [mxdD, reduceCtorEq] at h6
theorem p_maxd (C : Cok g X) (hg : Gl X "max") (hm : X.mg "max" = none) (ha : PE X a (tR g fs ia)) (hb : PE X b (tR g fs ib))
    (na : starEach [a] X.env = (false, eval a X.env) :: starEach [] X.env)
    (he : backTo pos (starEach [a] X.env) = (false, eval a X.env) :: backTo pos (starEach [] X.env)) (hpl : (backTo pos (starEach [a] X.env)).any (·.1) = false)
    (hall : (backToKw pos (keywordEach [⟨some "default", b, kp⟩] X.env)).all (·.1.isSome) = true) (hnone : (backToKw pos (keywordEach [⟨some "default", b, kp⟩] X.env)).any (·.1.isNone) = false) (hks : (backToKw pos (keywordEach [⟨some "default", b, kp⟩] X.env)).filterMap (·.1) = [Str.ofString "default"]) :
    PE X (.Call (.Name "max" p) [a] [⟨some "default", b, kp⟩] pos) (tR g fs (.mxd true ia ib)) :=
  PE.weak (pe_callBK (cr_maxDef C.calm C.hu) hg hm PyProof.Rows.boot_max (pa_cons ha pa_nil na) (pk_cons hb pk_nil) (by decide) (by decide) he hpl hall hnone hks) fun σ H Q h => mxd_core C.K h
theorem p_mind (C : Cok g X) (hg : Gl X "min") (hm : X.mg "min" = none) (ha : PE X a (tR g fs ia)) (hb : PE X b (tR g fs ib))
    (na : starEach [a] X.env = (false, eval a X.env) :: starEach [] X.env)
    (he : backTo pos (starEach [a] X.env) = (false, eval a X.env) :: backTo pos (starEach [] X.env)) (hpl : (backTo pos (starEach [a] X.env)).any (·.1) = false)
    (hall : (backToKw pos (keywordEach [⟨some "default", b, kp⟩] X.env)).all (·.1.isSome) = true) (hnone : (backToKw pos (keywordEach [⟨some "default", b, kp⟩] X.env)).any (·.1.isNone) = false) (hks : (backToKw pos (keywordEach [⟨some "default", b, kp⟩] X.env)).filterMap (·.1) = [Str.ofString "default"]) :
    PE X (.Call (.Name "min" p) [a] [⟨some "default", b, kp⟩] pos) (tR g fs (.mxd false ia ib)) :=
  PE.weak (pe_callBK (cr_minDef C.calm C.hu) hg hm PyProof.Rows.boot_min (pa_cons ha pa_nil na) (pk_cons hb pk_nil) (by decide) (by decide) he hpl hall hnone hks) fun σ H Q h => mxd_core C.K h
end

/-! ### list.count, list.index of flat items; list.pop() -/
def rCntV (K : PySem.W.Frag) : V → List V → Hp → VK → Prop := fun x xs H Q => ∃ (a : Addr) (ys : List V) (y : V), x = V.ref a ∧ xs = [y] ∧ SqL K H a ys ∧ flatV y = true ∧ ys.all flatV = true ∧ Q (.int ((ys.countP fun z => eqV z y : Nat) : Int)) H
theorem countP_eqU (y : V) : ∀ {ys : List V} {us : List Value}, Vals ys us → ys.all flatV = true → us.countP (eqU y) = ys.countP fun z => eqV z y
  | _, _, .nil, _ => rfl
  | z :: ys, u :: us, .cons r t, f => by
    rw [List.all_cons, Bool.and_eq_true] at f
    rw [List.countP_cons, List.countP_cons, countP_eqU y t f.2, eqU_of r f.1]
theorem mt_countV {X : Cx} : MtR X "list.count" (rCntV X.K) := by
  intro pins s σ H x xs v us Q I rx rxs h
  obtain ⟨a, ys, y, rfl, rfl, hs, fy, fys, q⟩ := h
  cases rx
  obtain ⟨u, rfl, ru⟩ := rxs.one
  obtain ⟨its, rv, ⟨⟨cls, dd, data, sl⟩, n, ho, hc, hdn, hd⟩, hlen⟩ := I.list hs
  simp only at hc hd
  subst hc hd
  refine call_meets PySem.F.slot_list_count ⟨_, ho, rfl⟩ PySem.F.entry_list_count (PySem.F.args_list_count_2 _ _)
    (SeqAt.list_countAt a its.toArray n dd sl u (eqU y)) ⟨ho, fun u' hu' => mem_eqAt ru fy rv fys u' (by simpa using hu'), ?_⟩
  refine ⟨.int ((ys.countP fun z => eqV z y : Nat) : Int), H, I.tok _, ⟨s.toks, ?_⟩, q⟩
  show Value.int ((its.toArray.toList.countP (eqU y) : Nat) : Int) s.toks = _
  rw [show its.toArray.toList = its from rfl, countP_eqU y rv fys]
section
variable {X : Cx} {g : Gx} {fs : List FS} {a b : Expr} {ia ib : E} {apos cpos : Pos}
theorem isLD_lst {d : D} (h : isLD d = true) : ∃ xs, d = .lst xs := by
  cases d <;> first | exact ⟨_, rfl⟩ | (simp [isLD] at h)
theorem cnt_eq {A : Addr → Prop} {H : Hp} {y : D} {w : V} (hy : flatD y = true) (hw : Rep g A H y w) : ∀ {ds : List D} {vs : List V}, ds.all flatD = true → Reps g A H ds vs → (vs.countP fun z => eqV z w) = (ds.filter fun d => eqd d y).length
  | [], _, _, h => by simp only [Reps] at h; subst h; rfl
  | d :: ds, _, k, h => by
    rw [List.all_cons, Bool.and_eq_true] at k
    simp only [Reps] at h
    obtain ⟨v, r, rfl, h1, h2⟩ := h
    rw [List.countP_cons, cnt_eq hy hw k.2 h2, (flat_rep k.1 h1).2 hy hw, List.filter_cons]
    cases eqd d y <;> simp
theorem idx_eq {A : Addr → Prop} {H : Hp} {y : D} {w : V} (hy : flatD y = true) (hw : Rep g A H y w) : ∀ {ds : List D} {vs : List V}, ds.all flatD = true → Reps g A H ds vs → ∀ (j : Nat), (ds.findIdx? fun d => eqd d y) = some j → ∃ z, vs[j]? = some z ∧ eqV z w = true ∧ ∀ (m : Nat) (z' : V), m < j → vs[m]? = some z' → eqV z' w = false
  | [], _, _, h, j, hj => by simp at hj
  | d :: ds, _, k, h, j, hj => by
    rw [List.all_cons, Bool.and_eq_true] at k
    simp only [Reps] at h
    obtain ⟨v, r, rfl, h1, h2⟩ := h
    have e := (flat_rep k.1 h1).2 hy hw
    rw [List.findIdx?_cons] at hj
    cases hc : eqd d y with
    | true =>
      rw [hc] at hj
      simp only [if_true, Option.some.injEq] at hj
      subst hj
      exact ⟨v, rfl, by rw [e, hc], fun m z' hm => absurd hm (Nat.not_lt_zero _)⟩
    | false =>
      rw [hc] at hj
      simp only [Bool.false_eq_true, if_false] at hj
      obtain ⟨i, hi, rfl⟩ := Option.map_eq_some_iff.mp hj
      obtain ⟨z, q1, q2, q3⟩ := idx_eq hy hw k.2 h2 i hi
      refine ⟨z, by simpa using q1, q2, fun m z' hm hz => ?_⟩
      cases m with
      | zero => simp at hz; subst hz; rw [e, hc]
      | succ m => exact q3 m z' (by omega) (by simpa using hz)
theorem cnt_flat {xs : List D} {d r : D} (h : cntD (.lst xs) d = some r) : flatD d = true ∧ xs.all flatD = true ∧ r = .int ((xs.filter fun y => eqd y d).length : Int) := by
  simp only [cntD, Option.ite_none_right_eq_some, Bool.and_eq_true, Option.some.injEq] at h
  exact ⟨h.1.1, h.1.2, h.2.symm⟩
theorem p_cnt (C : Cok0 g X) (ho : PE X a (tR g fs ia)) (he : PE X b (tR g fs ib)) (hbase : attributeBase a "count" X.env (eval a X.env) = eval a X.env)
    (hline : (apos.endLine == cpos.line) = true) (hs : starEach [b] X.env = [(false, eval b X.env)]) :
    PE X (.Call (.Attribute a "count" apos) [b] [] cpos) (tR g fs (.cnt ia ib)) := by
  refine PE.weak (pe_bm PySem.F.plainAttrs_list PySem.F.slot_list_count PySem.F.type_list_count mt_countV ho (pa_cons he pa_nil (by rw [hs]; rfl)) hbase (by rw [hs]; rfl) hline (by rw [hs]; rfl) rfl) ?_
  rintro σ H Q ⟨Bn, Ow, Γ, r, Γ', rs, he, hQ⟩
  simp only [ev] at he
  obtain ⟨⟨x, Γ1⟩, e1, he⟩ := Option.bind_eq_some_iff.mp he
  obtain ⟨d0, e0, he⟩ := Option.bind_eq_some_iff.mp he
  simp only [Option.ite_none_right_eq_some] at he
  obtain ⟨hl, he⟩ := he
  obtain ⟨⟨y, Γ2⟩, e2, he⟩ := Option.bind_eq_some_iff.mp he
  obtain ⟨d, ed, he⟩ := Option.bind_eq_some_iff.mp he
  obtain ⟨e, ee, he⟩ := Option.bind_eq_some_iff.mp he
  obtain ⟨r', h6, he⟩ := Option.map_eq_some_iff.mp he
  simp only [Prod.mk.injEq] at he
  obtain ⟨rfl, rfl⟩ := he
  rw [← datum_dn] at e0 ed ee
  obtain ⟨xs0, rfl⟩ := isLD_lst hl
  refine tR_one rs e1 fun v H1 O1 s1 r1 v1 => ?_
  obtain ⟨l, ws, rfl, e3, _⟩ := v1.rdb r1 e0
  refine ⟨.inl ⟨rfl, ws, .inl (.inl e3)⟩, tR_one r1 e2 fun w H2 O2 s2 r2 w2 => ?_⟩
  have q1 := (v1.step s2 r2).rdb r2 ed
  have q2 := w2.rdb r2 ee
  cases d with
  | lst xs =>
    obtain ⟨fe, fx, rfl⟩ := cnt_flat h6
    obtain ⟨l', ws', el, e4, rp⟩ := q1
    cases el
    have hw := rdb_flat fe q2
    refine ⟨_, ws', w, rfl, rfl, ?_, (flat_rep fe hw).1, (flat_reps fx rp fe hw).1, ?_⟩
    · exact .inl (.inl e4)
    · rw [cnt_eq fe hw fx rp]
      exact hQ _ _ O2 (s1.trans s2) r2 (show Rep g (Av Bn O2) H2 _ _ by simp only [Rep])
  | _ => simp only [cntD, reduceCtorEq] at h6
theorem p_idx (C : Cok0 g X) (ho : PE X a (tR g fs ia)) (he : PE X b (tR g fs ib)) (hbase : attributeBase a "index" X.env (eval a X.env) = eval a X.env)
    (hline : (apos.endLine == cpos.line) = true) (hs : starEach [b] X.env = [(false, eval b X.env)]) :
    PE X (.Call (.Attribute a "index" apos) [b] [] cpos) (tR g fs (.idx ia ib)) := by
  refine PE.weak (pe_bm PySem.F.plainAttrs_list PySem.F.slot_list_index PySem.F.type_list_index mt_index ho (pa_cons he pa_nil (by rw [hs]; rfl)) hbase (by rw [hs]; rfl) hline (by rw [hs]; rfl) rfl) ?_
  rintro σ H Q ⟨Bn, Ow, Γ, r, Γ', rs, he, hQ⟩
  simp only [ev] at he
  obtain ⟨⟨x, Γ1⟩, e1, he⟩ := Option.bind_eq_some_iff.mp he
  obtain ⟨d0, e0, he⟩ := Option.bind_eq_some_iff.mp he
  simp only [Option.ite_none_right_eq_some] at he
  obtain ⟨hl, he⟩ := he
  obtain ⟨⟨y, Γ2⟩, e2, he⟩ := Option.bind_eq_some_iff.mp he
  obtain ⟨d, ed, he⟩ := Option.bind_eq_some_iff.mp he
  obtain ⟨e, ee, he⟩ := Option.bind_eq_some_iff.mp he
  obtain ⟨r', h6, he⟩ := Option.map_eq_some_iff.mp he
  simp only [Prod.mk.injEq] at he
  obtain ⟨rfl, rfl⟩ := he
  rw [← datum_dn] at e0 ed ee
  obtain ⟨xs0, rfl⟩ := isLD_lst hl
  refine tR_one rs e1 fun v H1 O1 s1 r1 v1 => ?_
  obtain ⟨l, ws, rfl, e3, _⟩ := v1.rdb r1 e0
  refine ⟨.inl ⟨rfl, ws, .inl (.inl e3)⟩, tR_one r1 e2 fun w H2 O2 s2 r2 w2 => ?_⟩
  have q1 := (v1.step s2 r2).rdb r2 ed
  have q2 := w2.rdb r2 ee
  cases d with
  | lst xs =>
    simp only [idxD, Option.ite_none_right_eq_some, Bool.and_eq_true] at h6
    obtain ⟨⟨fe, fx⟩, h6⟩ := h6
    obtain ⟨j, hj, rfl⟩ := Option.map_eq_some_iff.mp h6
    obtain ⟨l', ws', el, e4, rp⟩ := q1
    cases el
    have hw := rdb_flat fe q2
    obtain ⟨z, k1, k2, k3⟩ := idx_eq fe hw fx rp j hj
    exact ⟨_, ws', w, j, z, rfl, rfl, .inl (.inl e4), (flat_rep fe hw).1, (flat_reps fx rp fe hw).1, k1, k2, k3, hQ _ _ O2 (s1.trans s2) r2 (show Rep g (Av Bn O2) H2 _ _ by simp only [Rep])⟩
  | _ => simp only [idxD, reduceCtorEq] at h6
theorem Reps.dropLast {A : Addr → Prop} {H : Hp} {ds : List D} {vs : List V} (h : Reps g A H ds vs) : Reps g A H ds.dropLast vs.dropLast := by
  rw [List.dropLast_eq_take, List.dropLast_eq_take, ← h.len]
  exact h.take _
theorem p_pop {i : Nat} (C : Cok0 g X) (ho : PE X a (tVar i)) (hbase : attributeBase a "pop" X.env (eval a X.env) = eval a X.env) (hline : (apos.endLine == cpos.line) = true) :
    PE X (.Call (.Attribute a "pop" apos) [] [] cpos) (tR g fs (.pop i)) := by
  refine PE.weak (pe_bm0 PySem.F.plainAttrs_list PySem.F.slot_list_pop PySem.F.type_list_pop mt_pop ho hbase hline) ?_
  rintro σ H Q ⟨Bn, Ow, Γ, r, Γ', rs, he, hQ⟩
  simp only [ev] at he
  obtain ⟨⟨d, c⟩, e1, he⟩ := Option.map_eq_some_iff.mp he
  simp only [Prod.mk.injEq] at he
  obtain ⟨rfl, rfl⟩ := he
  unfold popD at e1
  split at e1
  · rename_i xs q
    split at e1
    · rename_i dl el
      simp only [Option.some.injEq, Prod.mk.injEq] at e1
      obtain ⟨rfl, rfl⟩ := e1
      obtain ⟨p, ep, mp, vs, hv, rp⟩ := rs.own i _ q
      have e2 : xs[xs.length - 1]? = some dl := by rw [← List.getLast?_eq_getElem?]; exact el
      obtain ⟨v, e3, rv⟩ := rp.get e2
      obtain ⟨r3, s3⟩ := rs.mut q ep rp.dropLast
      refine ⟨_, ep, .inl ⟨rfl, vs, .inl (.inl hv)⟩, p, vs, v, rfl, rfl, hv, by rw [← rp.len]; exact e3, ?_⟩
      exact hQ v _ Ow s3 r3 (rv.step s3 r3)
    · cases e1
  · cases e1
/-- a new value, shared from now on -/
theorem p_shr (h : PE X a (tR g fs ia)) : PE X a (tR g fs (.shr ia)) := by
  refine PE.weak h ?_
  rintro σ H Q ⟨Bn, Ow, Γ, r, Γ', rs, he, hQ⟩
  simp only [ev] at he
  obtain ⟨⟨x, Γ1⟩, e1, he⟩ := Option.bind_eq_some_iff.mp he
  obtain ⟨⟨d, Γ2⟩, e2, he⟩ := Option.map_eq_some_iff.mp he
  simp only [Prod.mk.injEq] at he
  obtain ⟨rfl, rfl⟩ := he
  refine ⟨Bn, Ow, Γ, x, Γ1, rs, e1, fun v H1 O1 s1 r1 vl => ?_⟩
  obtain ⟨O2, s2, r2, p2⟩ := fre_ok r1 vl e2
  exact hQ v H1 O2 (s1.trans s2) r2 (by simpa only [Val] using p2)
end
end DV

namespace DV
open PySem L2 PySem.Spec PyProof.Rows
/-! ### min of pairs of ints -/
theorem lt_pLt (p q : Int × Int) : PySem.W.DatumOrd.lt p q = pLt p q := by
  show (if p.1 = q.1 then decide (p.2 < q.2) else decide (p.1 < q.1)) = pLt p q
  unfold pLt
  by_cases h : p.1 = q.1
  · rw [if_pos h]
    exact decide_eq_decide.mpr ⟨fun k => .inr ⟨h, k⟩, fun k => by omega⟩
  · rw [if_neg h]
    exact decide_eq_decide.mpr ⟨fun k => .inl k, fun k => by omega⟩
theorem minOf_minP (p : Int × Int) (ps : List (Int × Int)) : minP (p :: ps) = some (PySem.W.minOf p ps) := by
  unfold minP PySem.W.minOf
  simp only [lt_pLt]
def pyP (p : Int × Int) : PyData := .tuple [.int p.1, .int p.2]
theorem pyP_toD (p : Int × Int) : pyP p = PySem.W.Datum.toD p := rfl
theorem pyP_inj {p q : Int × Int} (h : pyP p = pyP q) : p = q := by
  unfold pyP at h
  simp only [PyData.tuple.injEq, List.cons.injEq, PyData.int.injEq, and_true] at h
  exact Prod.ext h.1 h.2
theorem pairs_dp {K : PySem.W.Frag} {A : Addr → Prop} {H : Hp} : ∀ {ps : List (Int × Int)} {vs : List V}, Paired (fun p v => ∃ t, v = V.ref t ∧ ¬ A t ∧ SqT K H t [.int p.1, .int p.2]) ps vs → DpAll K H vs (ps.map pyP)
  | _, _, .nil => .nil
  | _, _, .cons ⟨t, e, _, sq⟩ r => by
    subst e
    exact .cons (.tup sq (.cons (.int _) (.cons (.int _) .nil))) (pairs_dp r)
section
variable {X : Cx} {g : Gx}
theorem vals_getR : ∀ {vs : List V} {us : List Value}, Vals vs us → ∀ {i : Nat} {u : Value}, us[i]? = some u → ∃ v, vs[i]? = some v ∧ RelV v u
  | _, _, .nil, i, u, h => by simp at h
  | _, _, .cons r t, i, u, h => by
    cases i with
    | zero => simp at h; subst h; exact ⟨_, rfl, r⟩
    | succ i => simp at h; obtain ⟨v, e, q⟩ := vals_getR t h; exact ⟨v, by simpa using e, q⟩
theorem paired_getR {α β : Type} {R : α → β → Prop} : ∀ {ps : List α} {vs : List β}, Paired R ps vs → ∀ {i : Nat} {v : β}, vs[i]? = some v → ∃ p, ps[i]? = some p ∧ R p v
  | _, _, .nil, i, v, h => by simp at h
  | _, _, .cons r t, i, v, h => by
    cases i with
    | zero => simp at h; subst h; exact ⟨_, rfl, r⟩
    | succ i => simp at h; obtain ⟨p, e, q⟩ := paired_getR t h; exact ⟨p, by simpa using e, q⟩
theorem pair_reads {A : Addr → Prop} {pins : List (Addr × Obj)} {σ : L2.St} {H : Hp} {s : Shared} (I : Inv X pins σ H s) {p : Int × Int} {v : V} {u : Value} (h : ∃ t, v = V.ref t ∧ ¬ A t ∧ SqT X.K H t [.int p.1, .int p.2]) (r : RelV v u) : ∃ as, Reads s.heap u (pyP p) as := by
  obtain ⟨t, rfl, _, sq⟩ := h
  exact Dp.reads I (pyP p) _ _ (.tup sq (.cons (.int _) (.cons (.int _) .nil))) r
theorem b_minp (C : Cok g X) : CallR X (.builtin "min") (rBi g .minp) := by
  intro pins s σ H vs us Q I r h
  obtain ⟨A, ds, r0, hp, tr, hb, hQ⟩ := h
  match ds, hb with
  | [.lst xs], hb =>
    simp only [biD] at hb
    obtain ⟨ps, e1, hb⟩ := Option.bind_eq_some_iff.mp hb
    obtain ⟨m, e2, rfl⟩ := Option.map_eq_some_iff.mp hb
    obtain ⟨v, rfl, q⟩ := paired1 hp
    obtain ⟨a, ws, rfl, ha, rp⟩ := q
    have pr := pairs_reps rp e1
    rw [← C.K] at pr
    obtain ⟨its, rv, hl, hz⟩ := I.list (show SqL X.K H a ws from .inl (.inl ha))
    rw [Vals.ref1 r]
    obtain ⟨as, hr⟩ := Dp.readsAll I _ _ _ (pairs_dp pr) rv
    cases ps with
    | nil => simp [minP] at e2
    | cons p ps =>
      rw [minOf_minP] at e2
      simp only [Option.some.injEq] at e2
      have hA := PySem.W.alikeAll_datum (p :: ps)
      have hdp : PyData.depthAll ((p :: ps).map pyP) ≤ 1 := PySem.W.depthAll_map (p :: ps)
      have hu := C.hu
      refine PySem.W.min_list_data (I.ok.hd C.calm) hl.isList (xs := ps.map pyP) (x := pyP p) hr hA (by
        have : PyData.depthAll (pyP p :: ps.map pyP) ≤ 1 := hdp
        omega) fun i v h' tk bs hv hr' hk => ?_
      obtain ⟨wv, hw, rw'⟩ := vals_getR rv (by simpa using hv)
      obtain ⟨q0, hq, sq⟩ := paired_getR pr hw
      obtain ⟨cs, r3⟩ := pair_reads I sq rw'
      have e4 : pyP q0 = PySem.W.minD (pyP p) (ps.map pyP) := (Reads.unique (Reads.keeps hk r3) _ _ hr').1
      have e5 : q0 = m := by
        apply pyP_inj
        rw [e4, ← e2]
        exact PySem.W.minD_map p ps
      subst e5
      refine ⟨wv, H, I.kept hk, rw', hQ _ H (same_rfl H) ?_⟩
      obtain ⟨t, rfl, na, sq⟩ := sq
      rw [C.K] at sq
      simp only [Res, Rep, Reps]
      exact ⟨t, _, rfl, na, sq, _, _, rfl, rfl, _, _, rfl, rfl, rfl⟩
end
section
variable {prog : Program} {w : World} {A : Around} {E : Value → Shared → Prop} {s : Shared}
theorem call_min_twoH {a b : Value} {Q : Value → Shared → Prop}
    (h : wpAny (model prog w) A.in1 (pyIter (.ref s.heap.objs.size)) (fun it s₂ => ∃ I fp wr G n P St H bt, it = .ref I ∧ WalksS prog w A.in1 I fp wr G n P St ∧ St 0 s₂ ∧ (∀ b ∈ fp, b < s₂.heap.objs.size) ∧ 0 < n ∧
      (∀ b o, H.get? b = some o → b ∉ wr) ∧ (∀ b o, H.get? b = some o → s₂.heap.get? b = some o) ∧ CmpIn prog w A.in1 .Lt H P bt ∧ ∀ v s', P (argBest bt (n - 1)) v → Moved wr G s₂ s' → Q v s') E
      { s with heap := s.heap.push { cls := .type "tuple", data := .seq #[a, b] } }) :
    wpAny (model prog w) A (call (.builtin "min") [a, b]) Q E s := by
  have hname : (toString "min" ++ toString ".loop" : String) = "min.loop" := by decide
  refine call_function_tree F.kind_min F.plain_min F.entry_min (F.args_min2 _ _) ?_
  show wpAny _ A.in1 (Builtin.Builtins.bindParams "min" ["key", "default"] 0 ⟨[], []⟩ >>= _) _ _ s
  refine wpAny_bind (wpAny_of_eq (show Builtin.Builtins.bindParams "min" ["key", "default"] 0 ⟨[], []⟩ = pure [none, none] from rfl) ?_)
  show wpAny _ A.in1 (newTuple [a, b] >>= _) _ _ s
  refine wpAny_bind (wpAny_newObj_type ?_)
  refine wpAny_bind (wpAny_mono h (fun it s₂ h₂ => ?_) fun _ _ e => e)
  obtain ⟨I, fp, wr, G, n, P, St, H, bt, rfl, W, hst, hfp, hn, hw, hkeep, hcmp, hQ⟩ := h₂
  refine wpAny_bind (wpAny_newObj_type ?_)
  have hSf : s₂.heap.objs.size ∉ fp := fun hm => Nat.lt_irrefl _ (hfp _ hm)
  rw [hname]
  refine wpAny_pure ⟨plainId_quiet F.plain_min_loop _, codeAny_min_loop_firstH W H hw bt hcmp s₂.heap.objs.size hSf (fresh_in hkeep) _ hn (fun b o e => Heap.get?_push_of_some _ (hkeep b o e)) (W.frame 0 s₂ _ s₂.toks hst (Nat.le_refl _) fun b _ o e => Heap.get?_push_of_some _ e) (Heap.get?_push_size _ rfl) fun v s' hP hm => ?_⟩
  exact hQ v s' hP (Moved.drop_new (tk := s₂.toks) hm (Nat.le_refl _))
theorem min_two_data {a b : Value} {da db : PyData} {as bs : List Addr} {Q : Value → Shared → Prop} (hh : A.handled = none) (ra : Reads s.heap a da as) (rb : Reads s.heap b db bs) (hA : PySem.W.AlikeAll [da, db]) (hu : A.units + 1 + PyData.depthAll [da, db] < cLine)
    (h : ∀ h' tk, (∀ c o, s.heap.get? c = some o → h'.get? c = some o) → Q (if PySem.W.dataLt db da then b else a) { s with heap := h', toks := tk }) :
    wpAny (model prog w) A (call (.builtin "min") [a, b]) Q E s := by
  refine call_min_twoH ?_
  have k1 : ∀ c o, s.heap.get? c = some o → (s.heap.push { cls := .type "tuple", data := .seq #[a, b] }).get? c = some o := fun c o e => Heap.get?_push_of_some _ e
  have hT : (s.heap.push { cls := .type "tuple", data := .seq #[a, b] }).IsTuple s.heap.objs.size #[a, b] := ⟨_, Heap.get?_push_size _ rfl, rfl, 0, rfl⟩
  have hr : ReadsAll (s.heap.push { cls := .type "tuple", data := .seq #[a, b] }) (#[a, b] : Array Value).toList [da, db] _ := .cons (Reads.keeps k1 ra) (.cons (Reads.keeps k1 rb) .nil)
  refine PySem.W.iter_tupleW (A := A.in1) hh hT fun s₂ e W st hfp hw hk => ?_
  refine ⟨_, _, _, _, _, _, _, _, _, rfl, W, st, hfp, by simp, hw, hk, PySem.W.cmpIn_lt (s := { s with heap := s.heap.push { cls := .type "tuple", data := .seq #[a, b] } }) (A := A.in1) hr hA (by show A.units + 1 + _ < _; exact hu), fun v s' hP m => ?_⟩
  obtain ⟨h', tk, rfl, hk'⟩ := PySem.W.moved_old e rfl m
  have := h h' tk fun c o e => hk' c o (k1 c o e)
  have hv : v = if PySem.W.dataLt db da then b else a := by
    have e1 : argBest (fun i j => PySem.W.dataLt ([da, db].getD i .none) ([da, db].getD j .none)) 1 = if PySem.W.dataLt db da then 1 else 0 := rfl
    have hP' : (#[a, b] : Array Value)[argBest (fun i j => PySem.W.dataLt ([da, db].getD i .none) ([da, db].getD j .none)) 1]? = some v := hP
    rw [e1] at hP'
    cases hd : PySem.W.dataLt db da with
    | true => simp [hd] at hP'; simp [hP']
    | false => simp [hd] at hP'; simp [hP']
  rw [hv]; exact this
end
section
variable {X : Cx} {g : Gx}
theorem b_min2p (C : Cok g X) : CallR X (.builtin "min") (rBi g .min2p) := by
  intro pins s σ H vs us Q I r h
  obtain ⟨A, ds, r0, hp, tr, hb, hQ⟩ := h
  match ds, hb with
  | [.tup [.int i, .int j], .tup [.int k, .int l]], hb =>
    simp only [biD, Option.some.injEq] at hb; subst hb
    obtain ⟨v, w, rfl, q, q'⟩ := paired2 hp
    obtain ⟨u, w', rfl, rv, rw'⟩ := vals2 r
    have rp : Reps g A H [.tup [.int i, .int j], .tup [.int k, .int l]] [v, w] := by
      simp only [Reps]
      exact ⟨v, _, rfl, q, w, _, rfl, q', rfl⟩
    have pr := pairs_reps (ps := [(i, j), (k, l)]) rp rfl
    rw [← C.K] at pr
    obtain ⟨s1, s2⟩ : (∃ t, v = V.ref t ∧ ¬ A t ∧ SqT X.K H t [.int i, .int j]) ∧ (∃ t, w = V.ref t ∧ ¬ A t ∧ SqT X.K H t [.int k, .int l]) := by
      cases pr with
      | cons a1 t1 => cases t1 with | cons a2 t2 => exact ⟨a1, a2⟩
    obtain ⟨as, r1⟩ := pair_reads I (p := (i, j)) s1 rv
    obtain ⟨bs, r2⟩ := pair_reads I (p := (k, l)) s2 rw'
    have hu := C.hu
    have hdp : PyData.depthAll [pyP (i, j), pyP (k, l)] ≤ 1 := PySem.W.depthAll_map [(i, j), (k, l)]
    refine min_two_data (I.ok.hd C.calm) r1 r2 (PySem.W.alikeAll_datum [(i, j), (k, l)]) (by omega) fun h' tk hk => ?_
    have e : PySem.W.dataLt (pyP (k, l)) (pyP (i, j)) = pLt (k, l) (i, j) := (PySem.W.DatumOrd.lt_eq (k, l) (i, j)).trans (lt_pLt _ _)
    rw [e]
    have fin : ∀ (p : Int × Int) (v : V) (u : Value), RelV v u → (∃ t, v = V.ref t ∧ ¬ A t ∧ SqT X.K H t [.int p.1, .int p.2]) → (∀ v H', Same H H' → Res g A H H' (.fz (.tup [.int p.1, .int p.2])) v → Q v H') → ∃ x H1, Inv X pins σ H1 { s with heap := h', toks := tk } ∧ RelV x u ∧ Q x H1 := by
      intro p v u rv ⟨t, ev, na, sq⟩ hq
      subst ev
      rw [C.K] at sq
      refine ⟨_, H, I.kept hk, rv, hq _ H (same_rfl H) ?_⟩
      simp only [Res, Rep, Reps]
      exact ⟨t, _, rfl, na, sq, _, _, rfl, rfl, _, _, rfl, rfl, rfl⟩
    cases hb : pLt (k, l) (i, j) with
    | true => rw [hb] at hQ; exact fin (k, l) w w' rw' s2 hQ
    | false => rw [hb] at hQ; exact fin (i, j) v u rv s1 hQ
variable {fs : List FS} {e : Expr} {es : List Expr} {ies : List E} {p pos : Pos}
theorem k_minp (C : Cok g X) (ha : PA X (e :: es) (tAs g fs ies)) (he : starEach (e :: es) X.env = (false, eval e X.env) :: starEach es X.env) (hpl : (backTo pos (starEach es X.env)).any (·.1) = false) (hm : X.mg "min" = none) (hg : Gl X "min") : PE X (.Call (.Name "min" p) (e :: es) [] pos) (tR g fs (.bi .minp ies)) :=
  p_biB (b_minp C) hg hm PyProof.Rows.boot_min ha (by decide) (by decide) he hpl
theorem k_min2p (C : Cok g X) (ha : PA X (e :: es) (tAs g fs ies)) (he : starEach (e :: es) X.env = (false, eval e X.env) :: starEach es X.env) (hpl : (backTo pos (starEach es X.env)).any (·.1) = false) (hm : X.mg "min" = none) (hg : Gl X "min") : PE X (.Call (.Name "min" p) (e :: es) [] pos) (tR g fs (.bi .min2p ies)) :=
  p_biB (b_min2p C) hg hm PyProof.Rows.boot_min ha (by decide) (by decide) he hpl
end
end DV


namespace DV
open PySem L2 PySem.Spec
/-! ### dicts that are read -/
theorem valV_dk : ∀ (ks : List Int) (vs : List V) (i : Int), ks.length = vs.length → (valV (dkV ks vs) (.inl i)).isSome = ks.contains i
  | [], [], i, _ => rfl
  | [], _ :: _, i, h => by simp at h
  | _ :: _, [], i, h => by simp at h
  | k :: ks, v :: vs, i, h => by
    have ih := valV_dk ks vs i (by simpa using h)
    show (valV ((.inl k, v) :: dkV ks vs) (.inl i)).isSome = _
    by_cases e : k = i
    · subst e
      rw [valV_pos (p := ((Sum.inl k : Key), v)) rfl]
      simp
    · rw [valV_neg (p := ((Sum.inl k : Key), v)) (fun z => e (by injection z)), ih]
      have : i ≠ k := fun z => e z.symm
      simp [List.contains_cons, this]
theorem valV_get {g : Gx} {A : Addr → Prop} {H : Hp} : ∀ {ks : List Int} {ds : List D} {vs : List V} {i : Int} {d : D}, Reps g A H ds vs → dgetL ks ds i = some d → ∃ v, valV (dkV ks vs) (.inl i) = some v ∧ Rep g A H d v
  | [], ds, vs, i, d, _, h => by simp [dgetL] at h
  | k :: ks, [], vs, i, d, _, h => by simp [dgetL] at h
  | k :: ks, e :: ds, vs, i, d, r, h => by
    simp only [Reps] at r
    obtain ⟨v, ws, rfl, r1, r2⟩ := r
    unfold dgetL at h
    by_cases c : k = i
    · subst c
      rw [if_pos rfl, Option.some.injEq] at h
      subst h
      exact ⟨v, valV_pos (p := ((Sum.inl k : Key), v)) rfl, r1⟩
    · rw [if_neg c] at h
      obtain ⟨w, e1, e2⟩ := valV_get r2 h
      exact ⟨w, by
        show valV ((.inl k, v) :: dkV ks ws) (.inl i) = _
        rw [valV_neg (p := ((Sum.inl k : Key), v)) (fun z => c (by injection z))]; exact e1, e2⟩
section
variable {X : Cx} {g : Gx} {fs : List FS} {a b : Expr} {ia ib : E} {pos : Pos}
def rDin : R2 := fun x y H Q => ∃ p kvs i, y = .ref p ∧ H p = some (.dK kvs) ∧ x = .int i ∧ Q (.bl (valV kvs (.inl i)).isSome) H
theorem op_din (hu : X.A.units + 1 < cLine) : OpR X (compareOp .In) rDin := by
  intro pins s σ H x y v u Q I rx ry h
  obtain ⟨p, kvs, i, rfl, hp, rfl, q⟩ := h
  cases ry
  exact d_in hu I (DGet.k (k := .inl i) hp) rx fun s' I' => ⟨.bl _, H, I', rfl, q⟩
theorem din_core {Bn : Addr → Prop} {Ow : List Addr} {H : Hp} {σ : L2.St} {Γ Γ' : Ct} {r : RV} {Q : VK} (rs : RS g Bn Ow H σ Γ) (he : ev fs (.din ia ib) Γ = some (r, Γ')) (hQ : ∀ v H' Ow', Stp Ow H Ow' H' → RS g Bn Ow' H' σ Γ' → Val g Bn Ow' H' σ Γ' r v → Q v H') :
    (∃ t, r = .fz (.bl t)) ∧ tOp rDin (tR g fs ia) (tR g fs ib) σ H Q := by
  simp only [ev] at he
  obtain ⟨⟨x, Γ1⟩, e1, he⟩ := Option.bind_eq_some_iff.mp he
  obtain ⟨⟨y, Γ2⟩, e2, he⟩ := Option.bind_eq_some_iff.mp he
  obtain ⟨d, ed, he⟩ := Option.bind_eq_some_iff.mp he
  obtain ⟨e, ee, he⟩ := Option.bind_eq_some_iff.mp he
  obtain ⟨t, h6, he⟩ := Option.map_eq_some_iff.mp he
  simp only [Prod.mk.injEq] at he
  obtain ⟨rfl, rfl⟩ := he
  refine ⟨⟨t, rfl⟩, ?_⟩
  rw [← datum_dn] at ed ee
  refine tR_two rs e1 e2 fun v w H2 O2 s2 r2 v2 w2 => ?_
  have q1 := v2.rdb r2 ed
  have q2 := w2.rdb r2 ee
  match d, e, h6 with
  | .int i, .dic ks ds, h6 =>
    simp only [dinD, Option.some.injEq] at h6
    subst h6
    obtain rfl := rdb_int q1
    obtain ⟨p, vs, rfl, _, l, hp, _⟩ := rdb_dic q2
    refine ⟨p, _, i, rfl, hp, rfl, ?_⟩
    rw [valV_dk ks vs i l]
    exact hQ _ H2 O2 s2 r2 (by simp only [Val, Rep])
theorem p_din (C : Cok0 g X) (ha : PE X a (tR g fs ia)) (hb : PE X b (tR g fs ib)) (hm : behindInMarks .In b = false) : PE X (.Compare a [.In] [b] pos) (tR g fs (.din ia ib)) := by
  refine PE.weak (pe_cmpR (op_din (by have := C.hu; omega)) ha hb hm) ?_
  rintro σ H Q ⟨Bn, Ow, Γ, r, Γ', rs, he, hQ⟩
  exact (din_core rs he hQ).2
theorem t_din (C : Cok0 g X) (ha : PE X a (tR g fs ia)) (hb : PE X b (tR g fs ib)) (hm : behindInMarks .In b = false) : PT X (.Compare a [.In] [b] pos) (tT g fs (.din ia ib)) := by
  refine PT.weak (pt_cmpR (op_din (by have := C.hu; omega)) ha hb hm) ?_
  rintro σ H Q ⟨Bn, Ow, Γ, r, Γ', t, rs, he, ht, hQ⟩
  have e := (din_core (Q := fun _ _ => True) rs he fun _ _ _ _ _ _ => trivial).1
  exact (din_core rs he (test_of e ht hQ)).2
theorem p_dget (C : Cok0 g X) (ha : PE X a (tR g fs ia)) (hb : PE X b (tR g fs ib)) (hs : NoSl b) : PE X (.Subscript a b pos) (tR g fs (.dget ia ib)) := by
  refine PE.weak (pe_dget (by have := C.hu; omega) ha hb hs) ?_
  rintro σ H Q ⟨Bn, Ow, Γ, r, Γ', rs, he, hQ⟩
  simp only [ev] at he
  obtain ⟨⟨x, Γ1⟩, e1, he⟩ := Option.bind_eq_some_iff.mp he
  obtain ⟨⟨y, Γ2⟩, e2, he⟩ := Option.bind_eq_some_iff.mp he
  obtain ⟨d, ed, he⟩ := Option.bind_eq_some_iff.mp he
  obtain ⟨e, ee, he⟩ := Option.bind_eq_some_iff.mp he
  obtain ⟨t, h6, he⟩ := Option.map_eq_some_iff.mp he
  simp only [Prod.mk.injEq] at he
  obtain ⟨rfl, rfl⟩ := he
  rw [← datum_dn] at ed ee
  refine tR_two rs e1 e2 fun v w H2 O2 s2 r2 v2 w2 => ?_
  have q1 := v2.rdb r2 ed
  have q2 := w2.rdb r2 ee
  match d, e, h6 with
  | .dic ks ds, .int i, h6 =>
    simp only [dgetD] at h6
    obtain rfl := rdb_int q2
    obtain ⟨p, vs, rfl, _, l, hp, rp⟩ := rdb_dic q1
    obtain ⟨z, e3, e4⟩ := valV_get rp h6
    exact ⟨p, z, rfl, by rw [← e3]; exact DGet.k (k := .inl i) hp, hQ _ H2 O2 s2 r2 e4⟩
end
/-! ### dict(a list of pairs) -/
/-- the pairs at ts -/
def PrR (K : PySem.W.Frag) (H : Hp) : List Addr → List Int → List V → Prop
  | [], [], [] => True
  | t :: ts, k :: ks, v :: vs => SqT K H t [.int k, v] ∧ PrR K H ts ks vs
  | _, _, _ => False
theorem prR_of {g : Gx} {A : Addr → Prop} {H : Hp} : ∀ {xs : List D} {ws : List V} {ks : List Int} {ds : List D}, Reps g A H xs ws → dctpD xs = some (ks, ds) → ∃ ts vs, ws = ts.map V.ref ∧ PrR g.K H ts ks vs ∧ Reps g A H ds vs ∧ ks.length = vs.length ∧ ks.Nodup
  | [], ws, ks, ds, r, h => by
    simp only [Reps] at r
    simp only [dctpD, Option.some.injEq, Prod.mk.injEq] at h
    obtain ⟨rfl, rfl⟩ := h
    subst r
    exact ⟨[], [], rfl, trivial, by simp only [Reps], rfl, List.nodup_nil⟩
  | x :: xs, ws, ks, ds, r, h => by
    match x, h with
    | .tup [.int k, d], h =>
      simp only [dctpD] at h
      obtain ⟨⟨ks', ds'⟩, h1, h2⟩ := Option.bind_eq_some_iff.mp h
      simp only [Reps] at r
      obtain ⟨v, rs, rfl, r1, r2⟩ := r
      simp only [Option.ite_none_left_eq_some, Option.some.injEq, Prod.mk.injEq, Bool.not_eq_true] at h2
      obtain ⟨hn, rfl, rfl⟩ := h2
      obtain ⟨ts, vs, rfl, p1, p2, p3, p4⟩ := prR_of r2 h1
      simp only [Rep, Reps] at r1
      obtain ⟨t, us, rfl, _, sq, u1, r3, rfl, rfl, u2, r4, rfl, r5, rfl⟩ := r1
      refine ⟨t :: ts, u2 :: vs, rfl, ⟨sq, p1⟩, by simp only [Reps]; exact ⟨u2, vs, rfl, r5, p2⟩, by simp [p3], List.nodup_cons.mpr ⟨fun m => ?_, p4⟩⟩
      rw [List.contains_iff_mem.mpr m] at hn
      cases hn
/-- the pairs, read off -/
theorem prR_at {X : Cx} {pins : List (Addr × Obj)} {σ : L2.St} {H : Hp} {s : Shared} (I : Inv X pins σ H s) : ∀ {ts : List Addr} {ks : List Int} {vs : List V}, PrR X.K H ts ks vs →
    ∃ (ps : List (Value × Value)) (kv : List (Key × Value)), ps.length = ts.length ∧ kv.length = ts.length ∧ KV (dkV ks vs) kv ∧ (∀ (j : Nat) k v, ps[j]? = some (k, v) → ∃ t, ts[j]? = some t ∧ PySem.PairAt s.heap t k v) ∧ (∀ (j : Nat) k v, ps[j]? = some (k, v) → ∃ q, kv[j]? = some (q, v) ∧ (mixKind X.prog X.w).is q k = true)
  | [], [], [], _ => ⟨[], [], rfl, rfl, .nil, fun j k v h => by simp at h, fun j k v h => by simp at h⟩
  | t :: ts, k :: ks, v :: vs, h => by
    obtain ⟨h1, h2⟩ := h
    obtain ⟨ps, kv, a1, a2, a3, a4, a5⟩ := prR_at I h2
    obtain ⟨its, r, z, _⟩ := I.tuple h1
    obtain ⟨u1, u2, rfl, r1, r2⟩ := vals2 r
    obtain ⟨tk, rfl⟩ := (show ∃ tk, u1 = Value.int k tk from r1)
    refine ⟨(.int k tk, u2) :: ps, (.inl k, u2) :: kv, by simp [a1], by simp [a2], .cons ⟨rfl, r2⟩ a3, fun j k' v' h => ?_, fun j k' v' h => ?_⟩
    · cases j with
      | zero =>
        simp only [List.getElem?_cons_zero, Option.some.injEq, Prod.mk.injEq] at h
        obtain ⟨rfl, rfl⟩ := h
        obtain ⟨o, ho, hc, n, hd⟩ := z
        exact ⟨t, rfl, .inl ⟨o, ho, hc, n, hd⟩⟩
      | succ j => exact a4 j k' v' (by simpa using h)
    · cases j with
      | zero =>
        simp only [List.getElem?_cons_zero, Option.some.injEq, Prod.mk.injEq] at h
        obtain ⟨rfl, rfl⟩ := h
        exact ⟨.inl k, rfl, mixKind_int _ _ k tk⟩
      | succ j => exact a5 j k' v' (by simpa using h)
theorem kv_merged : ∀ {L : List (Key × V)} {L' : List (Key × Value)}, KV L L' → ∀ {a : List (Key × V)} {a' : List (Key × Value)}, KV a a' → KV (L.foldl (fun acc kv => putK acc kv.1 kv.2) a) (PySem.merged a' L')
  | _, _, .nil, a, a', r => r
  | p :: L, q :: L', .cons h t, a, a', r => by
    obtain ⟨e, rv⟩ := h
    have := kv_merged t (KV.put r p.1 rv)
    rw [List.foldl_cons]
    unfold PySem.merged at this ⊢
    rw [List.foldl_cons]
    rw [e] at this ⊢
    exact this
theorem fold_put : ∀ (ks : List Int) (vs : List V) (a : List (Key × V)), ks.Nodup → ks.length = vs.length → (∀ k ∈ ks, valV a (.inl k) = none) → (dkV ks vs).foldl (fun acc kv => putK acc kv.1 kv.2) a = a ++ dkV ks vs
  | [], vs, a, _, _, _ => by simp [dkV]
  | k :: ks, [], a, _, h, _ => by simp at h
  | k :: ks, v :: vs, a, n, h, hn => by
    obtain ⟨n1, n2⟩ := List.nodup_cons.mp n
    show (dkV ks vs).foldl _ (putK a (.inl k) v) = a ++ ((.inl k, v) :: dkV ks vs)
    rw [putK_new v (hn k List.mem_cons_self), fold_put ks vs _ n2 (by simpa using h) fun j hj => ?_]
    · simp
    · rw [valV_snoc (.inl k) (.inl j) v a (hn k List.mem_cons_self), if_neg (fun z => n1 (by injection z with z; exact z ▸ hj))]
      exact hn j (List.mem_cons_of_mem _ hj)
section
variable {X : Cx} {g : Gx}
theorem b_dictp (C : Cok g X) : CallR X (.type "dict") (rBi g .dictp) := by
  intro pins s σ H vs us Q I r h
  obtain ⟨A, ds, r0, hp, tr, hb, hQ⟩ := h
  match ds, hb with
  | [.lst xs], hb =>
    obtain ⟨v, rfl, q⟩ := paired1 hp
    simp only [biD] at hb
    obtain ⟨⟨ks, es⟩, hb1, rfl⟩ := Option.map_eq_some_iff.mp hb
    obtain ⟨a, ws, rfl, ha, rp⟩ := q
    obtain ⟨ts, ys, rfl, p1, p2, p3, p4⟩ := prR_of rp hb1
    rw [← C.K] at p1
    obtain ⟨ps, kv, a1, a2, a3, a4, a5⟩ := prR_at I p1
    obtain ⟨its, rv, ⟨o, n, ho, hc, hdn, hdt⟩, hz⟩ := I.list (.inl (.inl ha))
    obtain rfl := refs_at rv
    obtain ⟨u, rfl, ru⟩ := vals1 r
    obtain rfl : u = Value.ref a := ru
    have pi : PySem.PairItems s.heap (ts.map Value.ref).toArray (fun j => ts.getD j 0) ps := ⟨by simp [a1], fun j k w hj => by
      obtain ⟨t, e1, e2⟩ := a4 j k w hj
      have eg : ts.getD j 0 = t := by rw [List.getD_eq_getElem?_getD, e1]; rfl
      simp only [eg]
      exact ⟨by simp [e1], e2⟩⟩
    have lt : ts.length ≤ sizeLine := by simpa using hz
    refine PySem.call_dict_pairs (knd := mixKind X.prog X.w) (kvs := kv) (PySem.PairArg.list a (ts.map Value.ref).toArray (fun j => ts.getD j 0) ps) (I.ok.hd C.calm) ⟨⟨o, n, ho, hc, hdn, hdt⟩, pi⟩ ⟨by rw [a2, a1], fun i key w hw => a5 i key w hw⟩ (by rw [a1]; exact lt) fun h' tk hd hk => ?_
    have hm := kv_merged a3 (a := []) (a' := []) .nil
    rw [fold_put ks ys [] p4 p3 (fun _ _ => rfl), List.nil_append] at hm
    have hlen : (dkV ks ys).length ≤ sizeLine := by
      have e1 : (dkV ks ys).length = (PySem.merged [] kv).length := hm.length
      have e2 := PySem.merged_length (K := Key) [] kv
      rw [List.length_nil, Nat.zero_add, a2] at e2
      exact Nat.le_trans (Nat.le_of_eq e1) (Nat.le_trans e2 lt)
    have hne : (s.heap.objs.size == sysModules) = false := beq_eq_false_iff_ne.mpr fun z => by
      have q := I.big
      rw [z] at q
      exact Nat.lt_irrefl _ q
    have kp : ∀ b o, s.heap.get? b = some o → h'.get? b = some o := fun b o e => hk b o (by simp) e
    have I' := I.laid (t' := tk) kp (Nat.le_refl _) (o := .dK (dkV ks ys)) ⟨hlen, hne, _, hm, hd⟩
    have nd := I.hok.fresh (Nat.le_refl s.heap.objs.size)
    refine ⟨.ref s.heap.objs.size, upd H s.heap.objs.size (.dK (dkV ks ys)), I', rfl, hQ _ _ (same_new nd) ?_⟩
    have sm : Same H (upd H s.heap.objs.size (.dK (dkV ks ys))) := same_new nd
    show Rep _ _ _ _ _
    simp only [Rep]
    exact ⟨_, ys, rfl, fun z => tr _ z nd, p3, upd_same, p2.same sm⟩
variable {fs : List FS} {e : Expr} {es : List Expr} {ies : List E} {p pos : Pos}
theorem k_dictp (C : Cok g X) (ha : PA X (e :: es) (tAs g fs ies)) (he : starEach (e :: es) X.env = (false, eval e X.env) :: starEach es X.env) (hpl : (backTo pos (starEach es X.env)).any (·.1) = false) (hm : X.mg "dict" = none) (hg : Gl X "dict") : PE X (.Call (.Name "dict" p) (e :: es) [] pos) (tR g fs (.bi .dictp ies)) :=
  p_biT (b_dictp C) hg hm rfl ha (by decide) (by decide) he hpl
end
/-! ### sorted(triples that ascend) -/
def t3D (t : Int × Int × Int) : D := .tup [.int t.1, .int t.2.1, .int t.2.2]
theorem ascT_is : ∀ {xs : List D}, ascT xs = true → ∃ ts : List (Int × Int × Int), xs = ts.map t3D ∧ ts.Pairwise (fun a b => a.1 < b.1)
  | [], _ => ⟨[], rfl, .nil⟩
  | [x], h => by
    match x, h with
    | .tup [.int a, .int b, .int c], _ => exact ⟨[(a, b, c)], rfl, List.pairwise_singleton _ _⟩
  | x :: y :: r, h => by
    match x, y, h with
    | .tup [.int a, .int b, .int c], .tup [.int a', .int b', .int c'], h =>
      simp only [ascT, Bool.and_eq_true, decide_eq_true_eq] at h
      obtain ⟨h1, h2⟩ := h
      obtain ⟨ts, e, pw⟩ := ascT_is h2
      match ts, e, pw with
      | t :: ts, e, pw =>
        rw [List.map_cons] at e
        injection e with e1 e2
        simp only [t3D, D.tup.injEq, List.cons.injEq, D.int.injEq, and_true] at e1
        refine ⟨(a, b, c) :: t :: ts, by rw [List.map_cons, List.map_cons, e2]; simp only [t3D, ← e1.1, ← e1.2.1, ← e1.2.2], List.pairwise_cons.mpr ⟨fun z m => ?_, pw⟩⟩
        rcases List.mem_cons.mp m with rfl | m
        · simp only; omega
        · have := (List.pairwise_cons.mp pw).1 z m
          simp only; omega
def enc3 (b : V × Int × Int × Int) : PyData := .tuple [.int b.2.1, .int b.2.2.1, .int b.2.2.2]
theorem le_enc3 {a b : V × Int × Int × Int} (h : a.2.1 < b.2.1) : PySem.W.dataLe false enc3 a b = true := by
  rw [PySem.W.dataLe_eq]
  show (!PySem.W.dataLt (enc3 b) (enc3 a)) = true
  unfold enc3
  rw [PySem.W.dataLt_tuple, PySem.W.dataLt_cons (by simp [PySem.W.alike]), if_neg (by simp only [PyData.eqv, beq_iff_eq]; omega), PySem.W.dataLt_int, decide_eq_false (by omega)]
  rfl
section
variable {X : Cx} {g : Gx}
theorem each_vals {s : Shared} : ∀ {ws : List V} {ts : List (Int × Int × Int)} {its : List Value}, Vals ws its → ws.length = ts.length → PySem.W.EachIs (fun u (b : V × Int × Int × Int) => RelV b.1 u) its (ws.zip ts)
  | [], [], _, .nil, _ => .nil
  | w :: ws, t :: ts, _, .cons r rs, h => .cons r (each_vals (s := s) rs (by simpa using h))
  | [], _ :: _, _, _, h => by simp at h
  | _ :: _, [], _, _, h => by simp at h
theorem vals_each : ∀ {ws : List V} {ts : List (Int × Int × Int)} {out : List Value}, PySem.W.EachIs (fun u (b : V × Int × Int × Int) => RelV b.1 u) out (ws.zip ts) → ws.length = ts.length → Vals ws out
  | [], [], out, e, _ => by
    have e : PySem.W.EachIs _ out [] := e
    cases e
    exact .nil
  | w :: ws, t :: ts, out, e, h => by
    have e : PySem.W.EachIs _ out ((w, t) :: ws.zip ts) := e
    cases e with
    | cons r rs => exact .cons r (vals_each rs (by simpa using h))
  | [], _ :: _, _, _, h => by simp at h
  | _ :: _, [], _, _, h => by simp at h
theorem each_reads {A : Addr → Prop} {pins : List (Addr × Obj)} {σ : L2.St} {H : Hp} {s : Shared} (hK : X.K = g.K) (I : Inv X pins σ H s) : ∀ {ws : List V} {ts : List (Int × Int × Int)} {its : List Value}, Vals ws its → Reps g A H (ts.map t3D) ws → PySem.W.EachIs (fun u b => ∃ as, PySem.Reads s.heap u (enc3 b) as) its (ws.zip ts)
  | [], [], _, .nil, _ => .nil
  | w :: ws, t :: ts, _, .cons r rs, h => by
    simp only [List.map_cons, Reps] at h
    obtain ⟨w', ws', e, h1, h2⟩ := h
    injection e with e1 e2
    subst e1 e2
    have dp := rdb_dp (n := 3) (d := t3D t) rfl h1.rdb
    rw [← hK] at dp
    obtain ⟨as, q⟩ := Dp.reads I _ _ _ dp r
    exact .cons ⟨as, q⟩ (each_reads hK I rs h2)
  | [], _ :: _, _, _, h => by simp [Reps] at h
  | _ :: _, [], _, _, h => by simp [Reps] at h
theorem zip_pw : ∀ {ws : List V} {ts : List (Int × Int × Int)}, ts.Pairwise (fun a b => a.1 < b.1) → (ws.zip ts).Pairwise (fun a b => PySem.W.dataLe false enc3 a b = true)
  | [], _, _ => by simp
  | _ :: _, [], _ => by simp
  | w :: ws, t :: ts, h => by
    obtain ⟨h1, h2⟩ := List.pairwise_cons.mp h
    refine List.pairwise_cons.mpr ⟨fun b m => ?_, zip_pw h2⟩
    exact le_enc3 (h1 b.2 (List.of_mem_zip m).2)
theorem b_sortt (C : Cok0 g X) : CallR X (.builtin "sorted") (rBi g .sortt) := by
  intro pins s σ H vs us Q I r h
  obtain ⟨A, ds, r0, hp, tr, hb, hQ⟩ := h
  match ds, hb with
  | [.lst xs], hb =>
    obtain ⟨v, rfl, q⟩ := paired1 hp
    simp only [biD, Option.ite_none_right_eq_some, Option.some.injEq] at hb
    obtain ⟨hb1, rfl⟩ := hb
    obtain ⟨a, ws, rfl, ha, rp⟩ := q
    obtain ⟨ts, rfl, pw⟩ := ascT_is hb1
    obtain ⟨its, rv, hl, hz⟩ := I.list (.inl (.inl ha))
    obtain ⟨u, rfl, ru⟩ := vals1 r
    obtain rfl : u = Value.ref a := ru
    have lw : ws.length = ts.length := by rw [← rp.len, List.length_map]
    have lz : (ws.zip ts).length = ws.length := by rw [List.length_zip, lw, Nat.min_self]
    refine PySem.W.sorted_data (β := V × Int × Int × Int) (bs := ws.zip ts) (enc := enc3) (R := fun u b => RelV b.1 u) hl.isList (each_vals (s := s) rv lw) (each_reads C.K I rv rp) (PySem.W.AllAlike.of fun b b' => by simp [enc3, PySem.W.alike, PySem.W.alikeAll]) (PySem.W.Sortable.tuples fun b => ⟨_, _, rfl⟩) (by rw [lz]; exact hz) (fun b _ => ?_) fun out lo eo => ?_
    · have := C.hu
      have hdp : (enc3 b).depth ≤ 2 := by simp [enc3, PyData.depth, PyData.depthAll]
      omega
    · rw [List.mergeSort_of_pairwise (zip_pw pw)] at eo
      have vo := vals_each eo lw
      obtain ⟨c, hc⟩ := PyProof.Rows.sortedAll_at s.heap its out.toArray
      have I' := I.laid (t' := s.toks) (h' := PyProof.Rows.sortedAll s.heap its out.toArray) (fun b o e => PyProof.Rows.sortedAll_old e) (Nat.le_succ _) (o := .lst ws) ⟨hz, out, c, vo, hc⟩
      have nd := I.hok.fresh (Nat.le_succ s.heap.objs.size)
      refine ⟨.ref (s.heap.objs.size + 1), upd H (s.heap.objs.size + 1) (.lst ws), I', rfl, hQ _ _ (same_new nd) ?_⟩
      have kf : g.K.lookup (s.heap.objs.size + 1) = none := by rw [← C.K]; exact kf_new (Inv.kf I') upd_same
      exact new_lst nd kf rp
variable {fs : List FS} {e : Expr} {es : List Expr} {ies : List E} {p pos : Pos}
theorem k_sortt (C : Cok0 g X) (ha : PA X (e :: es) (tAs g fs ies)) (he : starEach (e :: es) X.env = (false, eval e X.env) :: starEach es X.env) (hpl : (backTo pos (starEach es X.env)).any (·.1) = false) (hm : X.mg "sorted" = none) (hg : Gl X "sorted") : PE X (.Call (.Name "sorted" p) (e :: es) [] pos) (tR g fs (.bi .sortt ies)) :=
  p_biB (b_sortt C) hg hm PyProof.Rows.boot_sorted ha (by decide) (by decide) he hpl
end
/-! ### a op b op c op d, as a test -/
section
open PyProof.Rows
variable {X : Cx} {a b c d : Expr} {ta tb tc td : TE} {pos : Pos}
theorem pt_chain3 {op op' op'' : CmpOp} {r r' r'' : R2} (ho : OpR X (compareOp op) r) (ho' : OpR X (compareOp op') r') (ho'' : OpR X (compareOp op'') r'') (ha : PE X a ta) (hb : PE X b tb) (hc : PE X c tc) (hd : PE X d td)
    (hm : lastMarks [op, op', op''] [b, c, d] = false) : PT X (.Compare a [op, op', op''] [b, c, d] pos) (tTest (tChain3 r r' r'' ta tb tc td)) := by
  refine ⟨fun pins s σ H Q I h => ?_⟩
  refine isTrue_chain (thn (ha.run pins s σ H _ I h) fun v s1 ⟨x, H1, I1, r1, q1⟩ => test_link (thn (hb.run pins s1 σ H1 _ I1 q1) fun u s2 ⟨y, H2, I2, r2, q2⟩ =>
    thn (ho pins s2 σ H2 x y v u _ I2 r1 r2 q2) fun d s3 ⟨z, H3, I3, r3, k, e, q3⟩ => ?_)) hm
  subst e
  cases r3
  refine wpAny_truthy_bool ?_
  cases k with
  | false =>
    obtain ⟨k', e', q'⟩ := q3
    cases e'
    exact ite_ff ⟨H3, I3, q'⟩
  | true =>
    refine ite_tt (test_link (thn (hc.run pins s3 σ H3 _ I3 q3) fun w' s4 ⟨z', H4, I4, r4, q4⟩ => thn (ho' pins s4 σ H4 y z' u w' _ I4 r2 r4 q4) fun d' s5 ⟨z2, H5, I5, r5, k2, e2, q5⟩ => ?_))
    subst e2
    cases r5
    refine wpAny_truthy_bool ?_
    cases k2 with
    | false =>
      obtain ⟨k', e', q'⟩ := q5
      cases e'
      exact ite_ff ⟨H5, I5, q'⟩
    | true =>
      refine ite_tt (test_last (thn (hd.run pins s5 σ H5 _ I5 q5) fun w3 s6 ⟨z3, H6, I6, r6, q6⟩ => thn (ho'' pins s6 σ H6 z' z3 w' w3 _ I6 r4 r6 q6) fun d2 s7 ⟨z4, H7, I7, r7, k3, e3, q7⟩ => ?_))
      subst e3
      cases r7
      exact wpAny_truthy_bool ⟨H7, I7, q7⟩
end
section
variable {X : Cx} {g : Gx} {fs : List FS} {a b c d : Expr} {ia ib ic id' : E} {pos : Pos}
theorem t_chain3 {o1 o2 o3 : COp} (C : Cok0 g X) (ha : PE X a (tR g fs ia)) (hb : PE X b (tR g fs ib)) (hc : PE X c (tR g fs ic)) (hd : PE X d (tR g fs id')) (hm : lastMarks [cmpOf o1, cmpOf o2, cmpOf o3] [b, c, d] = false) :
    PT X (.Compare a [cmpOf o1, cmpOf o2, cmpOf o3] [b, c, d] pos) (tT g fs (.chain3 o1 o2 o3 ia ib ic id')) := by
  refine PT.weak (pt_chain3 (op_cmp C.K C.hu o1) (op_cmp C.K C.hu o2) (op_cmp C.K C.hu o3) ha hb hc hd hm) ?_
  rintro σ H Q ⟨Bn, Ow, Γ, r, Γ', t, rs, he, ht, hQ⟩
  refine chain3_core rs he fun v H1 O1 k s1 r1 e1 e2 => ⟨k, e1, ?_⟩
  subst e2
  simp only [testD, datum, Option.bind_some, truthD, Option.some.injEq] at ht
  subst ht
  exact hQ H1 O1 s1 r1
end
end DV

namespace DV
open PySem L2
variable {Wx : L2.XK}
/-! ### defs that may raise -/
/-- the exceptions of the frame are wished for by W -/
abbrev Tk (X : Cx) (W : L2.XK) : Prop := Takes X (fun cls d _ H => W cls d H)
def isXc : RV → Bool
  | .fz (.exc _ _ _) => true
  | _ => false
/-- a def that may raise: what it raises is told as its value -/
def finishX (np : Nat) (G0 : Ct) : Out → Option (RV × Ct)
  | .xc c ks ds _ => some (.fz (.exc c ks ds), List.replicate np none)
  | o => (finish np G0 o).bind fun p => if isXc p.1 then none else some p
def runX (fs : List FS) (np n : Nat) (body : List S) : FS := fun G0 =>
  if G0.length = np then (exs fs (ownPs 0 G0) body (G0 ++ List.replicate (n - np) none)).bind (finishX np G0) else none
/-- what is wished behind a call: an exception is told as its fields -/
def xcQ (g : Gx) (W : L2.XK) (Q : VK) : RV → VK
  | .fz (.exc c _ _) => fun v H' => ∀ d, v = .ref d → W (.ref (g.cl c)) (some d) H'
  | _ => Q
theorem xcQ_no {g : Gx} {W : L2.XK} {Q : VK} {r : RV} (h : isXc r = false) : xcQ g W Q r = Q := by
  cases r with
  | fz d => cases d <;> first | rfl | (simp [isXc] at h)
  | nw d => rfl
  | sl i => rfl
/-- the promise of a def that may raise -/
def spX (g : Gx) (n : Nat) (F : FS) : Sp := fun vs H Q E => spG g n F (xcQ g E Q) vs H
section
variable {g : Gx} {Bn : Addr → Prop} {Ow Ow' : List Addr} {H H' : Hp} {σ : St} {Γ Γ' : Ct}
theorem RS.nones {σ' : St} {k : Nat} (rs : RS g Bn Ow H σ Γ) (hl : σ'.length = k) : RS g Bn Ow H σ' (List.replicate k none) := by
  have no : ∀ (i : Nat) (p : D × Bool), (List.replicate k (none : Sl))[i]? ≠ some (some p) := fun i p h => by
    rw [List.getElem?_replicate] at h
    split at h <;> cases h
  exact ⟨by rw [List.length_replicate]; exact hl, fun i d h => absurd h (no i _), fun i d h => absurd h (no i _), fun i j d e a h => absurd h (no i _), rs.trl, rs.sep, rs.kf, rs.tabs⟩
theorem finishX_no {np : Nat} {G0 : Ct} {o : Out} {r : RV} {os : Ct} (h : finish np G0 o = some (r, os)) (n : isXc r = false) : finishX np G0 o = some (r, os) := by
  cases o with
  | xc c ks ds G => simp only [finish, reduceCtorEq] at h
  | _ => simp only [finishX, h, Option.bind_some, n, Bool.false_eq_true, if_false]
theorem finishX_ok {vs : List V} {G0 : Ct} {n : Nat} {o : Out} {r : RV} {os : Ct} {Q : VK} (r0 : RS g Bn Ow H (vs.map some) G0) (hn : G0.length ≤ n) (hf : finishX G0.length G0 o = some (r, os))
    (hQ : ∀ v H' Ow', Stp Ow H Ow' H' → RS g Bn Ow' H' (vs.map some) os → Val g Bn Ow' H' (vs.map some) os r v → xcQ g Wx Q r v H') :
    Post g Wx { nx := fun _ H' => Q .non H', rt := Q } (n, (ownPs 0 G0).map fun i => (i, vs.getD i .non)) Bn Ow H o := by
  cases o with
  | xc c ks ds G =>
    simp only [finishX, Option.some.injEq, Prod.mk.injEq] at hf
    obtain ⟨rfl, rfl⟩ := hf
    intro d σ' H' Ow' st rs' pn rp
    exact hQ (.ref d) H' Ow' st (rs'.nones r0.len) rp d rfl
  | nx G =>
    simp only [finishX] at hf
    obtain ⟨⟨r1, o1⟩, f1, f2⟩ := Option.bind_eq_some_iff.mp hf
    split at f2
    · cases f2
    · rename_i n1
      cases f2
      rw [xcQ_no (by simpa using n1)] at hQ
      exact finish_ok r0 hn f1 hQ
  | rt x G =>
    simp only [finishX] at hf
    obtain ⟨⟨r1, o1⟩, f1, f2⟩ := Option.bind_eq_some_iff.mp hf
    split at f2
    · cases f2
    · rename_i n1
      cases f2
      rw [xcQ_no (by simpa using n1)] at hQ
      exact finish_ok r0 hn f1 hQ
  | bk G => simp only [finishX, finish, Option.bind_none, reduceCtorEq] at hf
  | ct G => simp only [finishX, finish, Option.bind_none, reduceCtorEq] at hf
end
/-- a def that can be called, and may raise -/
structure CalX (P : Program) (w : World) (mg : Str → Option Value) (base : Heap) (g : Gx) (k : Nat) (x : Str) (n : Nat) (F : FS) : Prop where
  ex : ∃ f fd ps, mg x = some (.ref f) ∧ PySem.W.keepIn g.K (.ref f) = true ∧ Binds g.K fd ps [] ∧ FnOk P w g.K mg base (L2.CX P w) k f fd ps (spX g n F)
structure MtdX (P : Program) (w : World) (mg : Str → Option Value) (base : Heap) (g : Gx) (k : Nat) (c : Nat) (x : Str) (n : Nat) (F : FS) : Prop where
  ex : ∃ f fd ps, Cls g.K (g.cl c) ∧ Meth g.K (g.cl c) x f ∧ Binds g.K fd ps [] ∧ FnOk P w g.K mg base (L2.CX P w) k f fd ps (spX g n F)
structure MkdX (P : Program) (w : World) (mg : Str → Option Value) (base : Heap) (g : Gx) (k : Nat) (c : Nat) (x : Str) (n : Nat) (F : FS) : Prop where
  ex : ∃ f fd ps, mg x = some (.ref (g.cl c)) ∧ Mk g.K (g.cl c) f ∧ Binds g.K fd ps [] ∧ ps.length = n + 1 ∧ FnOk P w g.K mg base (L2.CX P w) k f fd ps (spX g (n + 1) F)
section
variable {P : Program} {w : World} {mg : Str → Option Value} {base : Heap} {g : Gx} {fs : List FS}
theorem CalX.mono {j k : Nat} {x : Str} {n : Nat} {F : FS} (h : CalX P w mg base g j x n F) (l : j ≤ k) : CalX P w mg base g k x n F := by
  obtain ⟨f, fd, ps, h1, h2, h3, h4⟩ := h.ex
  exact ⟨f, fd, ps, h1, h2, h3, h4.mono l⟩
theorem MtdX.mono {j k c : Nat} {x : Str} {n : Nat} {F : FS} (h : MtdX P w mg base g j c x n F) (l : j ≤ k) : MtdX P w mg base g k c x n F := by
  obtain ⟨f, fd, ps, h1, h2, h3, h4⟩ := h.ex
  exact ⟨f, fd, ps, h1, h2, h3, h4.mono l⟩
theorem MkdX.mono {j k c : Nat} {x : Str} {n : Nat} {F : FS} (h : MkdX P w mg base g j c x n F) (l : j ≤ k) : MkdX P w mg base g k c x n F := by
  obtain ⟨f, fd, ps, h1, h2, h3, h5, h4⟩ := h.ex
  exact ⟨f, fd, ps, h1, h2, h3, h5, h4.mono l⟩
theorem def_fnX {x qual : Str} {st : Stmt} {f : Addr} {fd : FuncData} {N ps : List Str} {k np n : Nat} {ir : List S} (F : Fun g.K x qual st f fd) (S : FnScope N ps (defScope st)) (hp : ps.length = np) (hN : N.length = n) (ge : g.ea = none)
    (hbody : ∀ (cdv : Value) (A : Around) (outer : List Env) (s : Shared) (H : Hp) (E : L2.XK), Room k (cxOf (L2.CX P w) P w g.K mg base N qual (defScope st) f cdv A outer s H E).A → Cok g (cxOf (L2.CX P w) P w g.K mg base N qual (defScope st) f cdv A outer s H E) →
      Tk (cxOf (L2.CX P w) P w g.K mg base N qual (defScope st) f cdv A outer s H E) E → PassesOwn (model P w) (cxOf (L2.CX P w) P w g.K mg base N qual (defScope st) f cdv A outer s H E).A (cxOf (L2.CX P w) P w g.K mg base N qual (defScope st) f cdv A outer s H E).env (cxOf (L2.CX P w) P w g.K mg base N qual (defScope st) f cdv A outer s H E).xe →
      PSs (cxOf (L2.CX P w) P w g.K mg base N qual (defScope st) f cdv A outer s H E) (defBody st) (tSs g E fs ir)) : FnOk P w g.K mg base (L2.CX P w) (k + 1) f fd ps (spX g np (runX fs np n ir)) := by
  refine F.okX S (fun vs H Q E h => by rw [h.1, hp]) fun cdv A outer s H vs Q E hr h => ?_
  refine ⟨_, hbody cdv A outer s H E hr ⟨rfl, rfl, hr.units, S.nd, ge⟩ (takes_of rfl rfl rfl rfl) (passes_of rfl), ?_⟩
  obtain ⟨hl, Bn, Ow, Γ, r, os, rs, ef, nr, hQ⟩ := h
  have hG : Γ.length = np := by rw [← rs.len, List.length_map, hl]
  have hle : np ≤ n := by
    rw [← hN, ← hp]
    have := congrArg List.length S.pre
    rw [List.length_take] at this
    omega
  simp only [runX, hG, if_true] at ef
  obtain ⟨o, e1, e2⟩ := Option.bind_eq_some_iff.mp ef
  have est : L2.start N vs = vs.map some ++ List.replicate (n - np) none := by rw [← hN, ← hl]; rfl
  refine ⟨(n, (ownPs 0 Γ).map fun i => (i, vs.getD i .non)), Bn, Ow, Γ ++ List.replicate (n - np) none, o, ?_, ⟨?_, fun p hp => ?_⟩, ?_, ?_⟩
  · rw [est]; exact rs.start _
  · rw [est, List.length_append, List.length_map, List.length_replicate, hl]; show np + (n - np) = n; omega
  · obtain ⟨i, hi, rfl⟩ := List.mem_map.mp hp
    obtain ⟨j, d, rfl, h⟩ := ownPs_mem.mp hi
    have hj : j < vs.length := by
      have h1 := (List.getElem?_eq_some_iff.mp h).1
      omega
    rw [est]
    show (vs.map some ++ List.replicate (n - np) none)[0 + j]? = some (some (vs.getD (0 + j) .non))
    rw [Nat.zero_add, List.getElem?_append_left (by rw [List.length_map]; exact hj), List.getElem?_map, List.getElem?_eq_getElem hj, List.getD_eq_getElem?_getD, List.getElem?_eq_getElem hj]
    rfl
  · rw [List.map_map]
    show exs fs ((ownPs 0 Γ).map id) ir _ = some o
    rw [List.map_id]
    exact e1
  · rw [← hG] at e2
    exact finishX_ok rs (by omega) e2 hQ
end
/-! ### calls that may raise, as whole statements -/
def tRX (g : Gx) (W : L2.XK) (fs : List FS) (ie : E) : TE := fun σ H Q => ∃ Bn Ow Γ r Γ', RS g Bn Ow H σ Γ ∧ ev fs ie Γ = some (r, Γ') ∧ ∀ v H' Ow', Stp Ow H Ow' H' → RS g Bn Ow' H' σ Γ' → Val g Bn Ow' H' σ Γ' r v → xcQ g W Q r v H'
section
variable {X : Cx} {g : Gx} {fs : List FS} {e : Expr} {es : List Expr} {ie : E} {ies : List E} {x : Str} {p pos : Pos} {c k i n : Nat} {F : FS}
theorem callD_coreG {xs : List RV} {vs : List V} {Bn : Addr → Prop} {Ow : List Addr} {H : Hp} {σ : St} {Γ Γ' : Ct} {r : RV} {R : RV → VK} (rs : RS g Bn Ow H σ Γ) (hv : VlW g Bn Ow H σ Γ xs vs) (he : callD F xs Γ = some (r, Γ')) (hn : vs.length = n)
    (hQ : ∀ v H' Ow', Stp Ow H Ow' H' → RS g Bn Ow' H' σ Γ' → Val g Bn Ow' H' σ Γ' r v → R r v H') : spG g n F R vs H := by
  simp only [callD] at he
  obtain ⟨as, e3, he⟩ := Option.bind_eq_some_iff.mp he
  simp only [Option.ite_none_right_eq_some] at he
  obtain ⟨nd, he⟩ := he
  obtain ⟨⟨r', os⟩, e4, he⟩ := Option.bind_eq_some_iff.mp he
  cases r' with
  | sl i => cases he
  | fz d =>
    simp only [Option.some.injEq, Prod.mk.injEq] at he
    obtain ⟨rfl, rfl⟩ := he
    exact call_coreG rs hv e3 nd e4 (fun i z => nomatch z) hn fun v H' O2 s2 r2 val _ => hQ v H' O2 s2 r2 val
  | nw d =>
    simp only [Option.some.injEq, Prod.mk.injEq] at he
    obtain ⟨rfl, rfl⟩ := he
    exact call_coreG rs hv e3 nd e4 (fun i z => nomatch z) hn fun v H' O2 s2 r2 val _ => hQ v H' O2 s2 r2 val
theorem ev_callD {Γ : Ct} {r : RV × Ct} (h : ev fs (.call k ies) Γ = some r) : ∃ xs Γ1 F, evs fs ies Γ = some (xs, Γ1) ∧ fs[k]? = some F ∧ callD F xs Γ1 = some r := by
  simp only [ev] at h
  obtain ⟨⟨xs, Γ1⟩, e1, h⟩ := Option.bind_eq_some_iff.mp h
  obtain ⟨F, e2, h⟩ := Option.bind_eq_some_iff.mp h
  exact ⟨xs, Γ1, F, e1, e2, h⟩
theorem pass_tk {W : L2.XK} (tk : Tk X W) : Passes (L2.CX X.prog X.w) X W := passes_call tk fun _ _ _ _ h => h
theorem cx_call (c : CalX X.prog X.w X.mg X.base g k x n F) (C : Cok0 g X) (tk : Tk X Wx) (hF : fs[i]? = some F) (hn : ies.length = n) (hr : Room k X.A) (hg : Gl X x)
    (ha : PA X (e :: es) (tAw g fs ies)) (hdb : (x == ("__debug__" : Str)) = false) (he : starEach (e :: es) X.env = (false, eval e X.env) :: starEach es X.env) (hpl : (backTo pos (starEach es X.env)).any (·.1) = false) :
    PE X (.Call (.Name x p) (e :: es) [] pos) (tRX g Wx fs (.call i ies)) := by
  obtain ⟨f, fd, ps, h1, h2, h3, h4⟩ := c.ex
  rw [← C.K] at h2 h3 h4
  refine PE.weak (pe_call h4 hr hg h1 h2 h3 .nil (pass_tk tk) ha hdb he hpl) ?_
  rintro σ H Q ⟨Bn, Ow, Γ, r, Γ', rs, he, hQ⟩
  obtain ⟨xs, Γ1, F', e1, e2, e3⟩ := ev_callD he
  rw [hF] at e2; cases e2
  refine ⟨Bn, Ow, Γ, xs, Γ1, rs, e1, fun vs H1 O1 s1 r1 v1 => ?_⟩
  show spG g n F (xcQ g Wx Q) (vs ++ []) H1
  rw [List.append_nil]
  exact callD_coreG r1 v1 e3 (by rw [← v1.len, ← evs_len e1, hn]) fun v H' O2 s2 r2 val => hQ v H' O2 (s1.trans s2) r2 val
theorem mkX_core {np : Nat} {ys : List RV} {vs : List V} {Bn : Addr → Prop} {O1 : List Addr} {H1 : Hp} {σ : St} {Γ1 Γ' : Ct} {r : RV} {Q : VK} (r1 : RS g Bn O1 H1 σ Γ1) (v1 : VlW g Bn O1 H1 σ Γ1 ys vs) (he : mkX F c ys Γ1 = some (r, Γ')) (hl : vs.length = n) (hp : np = n + 1)
    (hQ : ∀ v H' Ow', Stp O1 H1 Ow' H' → RS g Bn Ow' H' σ Γ' → Val g Bn Ow' H' σ Γ' r v → xcQ g Wx Q r v H') : ∀ x dx, H1 x = none → H1 dx = none → dx ≠ x →
    (V.ref x :: vs).length = np ∧ (kfs g.K (upd (upd H1 dx (.own x)) x (.ins (g.cl c) dx [])) → spX g (n + 1) F (V.ref x :: vs) (upd (upd H1 dx (.own x)) x (.ins (g.cl c) dx [])) (fun v H2 => v = .non ∧ Q (.ref x) H2) Wx) := by
  simp only [mkX] at he
  obtain ⟨as, e2, he⟩ := Option.bind_eq_some_iff.mp he
  simp only [Option.ite_none_right_eq_some] at he
  obtain ⟨nd, he⟩ := he
  obtain ⟨⟨r', os⟩, e3, he⟩ := Option.bind_eq_some_iff.mp he
  intro p dx np0 ndx ne
  refine ⟨by rw [List.length_cons, hl, hp], fun kf => ?_⟩
  have sm : Same H1 (upd (upd H1 dx (.own p)) p (.ins (g.cl c) dx [])) := fun b x e => by
    rw [upd_ne (ne_of_none e np0), upd_ne (ne_of_none e ndx)]; exact e
  have hp' : (upd (upd H1 dx (.own p)) p (.ins (g.cl c) dx [])) p = some (.ins (g.cl c) dx []) := upd_same
  have hk : g.K.lookup p = none := kf_new kf hp'
  have r2 := r1.add sm np0 (.inr ⟨_, _, _, hp'⟩) hk
  have st2 : Stp O1 H1 (p :: O1) _ := stp_add sm np0
  have nin : ∀ (j : Nat) (e : D), Γ1[j]? = some (some (e, true)) → σ[j]? ≠ some (some (.ref p)) := fun j e h1 h2 => by
    obtain ⟨b, e5, m5, _⟩ := r1.own j e h1
    rw [h2] at e5; cases e5
    exact r1.trk p (.inr m5) np0
  have vw : ∀ {xs : List RV} {ws : List V}, VlW g Bn O1 H1 σ Γ1 xs ws → VlW g Bn (p :: O1) (upd (upd H1 dx (.own p)) p (.ins (g.cl c) dx [])) σ Γ1 xs ws ∧ ∀ (j : Nat) (e : D), xs[j]? = some (.nw e) → ws[j]? ≠ some (.ref p) := by
    intro xs
    induction xs with
    | nil => intro ws h; exact ⟨h, fun j e h => by simp at h⟩
    | cons x xs ih =>
      rintro ws ⟨v, w, rfl, q1, q2, q3⟩
      obtain ⟨i1, i2⟩ := ih q3
      have kstep := step_vst (g := g) (Bn := Bn) st2 fun a h => r2.kf a (.inr h)
      refine ⟨⟨v, w, rfl, ?_, q2, i1⟩, fun j e h => ?_⟩
      · cases x with
        | fz d => exact rep_mono kstep _ _ q1
        | sl j => exact q1
        | nw d =>
          obtain ⟨b, rfl, m, ow, no⟩ := q1
          refine ⟨b, rfl, List.mem_cons_of_mem _ m, ?_, no⟩
          cases d with
          | lst ds => obtain ⟨us, f1, f2⟩ := ow; exact ⟨us, sm _ _ f1, reps_mono kstep _ _ f2⟩
          | obj c ks ds => obtain ⟨dx, us, l, f1, f2⟩ := ow; exact ⟨dx, us, l, sm _ _ f1, reps_mono kstep _ _ f2⟩
          | _ => exact ow
      · cases j with
        | zero =>
          simp at h
          subst h
          obtain ⟨b, rfl, m, _⟩ := q1
          intro z
          simp at z
          subst z
          exact r1.trk b (.inr m) np0
        | succ j => exact i2 j e (by simpa using h)
  obtain ⟨v2, n2⟩ := vw v1
  have v3 : VlW g Bn (p :: O1) (upd (upd H1 dx (.own p)) p (.ins (g.cl c) dx [])) σ Γ1 (.nw (.obj c [] []) :: ys) (.ref p :: vs) :=
    ⟨_, vs, rfl, ⟨p, rfl, List.mem_cons_self, ⟨dx, [], rfl, hp', by simp only [Reps]⟩, nin⟩, fun _ _ j e h1 => n2 j e h1, v2⟩
  have ea : argSs Γ1 (.nw (.obj c [] []) :: ys) = some ((.obj c [] [], true) :: as) := by simp only [argSs, argS, Option.bind_some, e2, Option.map_some]
  have nd2 : nodupB (ownIx Γ1 (.nw (.obj c [] []) :: ys)) = true := by simpa only [ownIx] using nd
  match r', os, he, e3 with
  | .fz (.exc c' ks ds), o0 :: os', he, e3 =>
    simp only [Option.some.injEq, Prod.mk.injEq] at he
    obtain ⟨rfl, rfl⟩ := he
    refine call_coreG (R := xcQ g Wx (fun v H2 => v = .non ∧ Q (.ref p) H2)) r2 v3 ea nd2 (by simpa using e3) (fun i z => by cases z) (by rw [List.length_cons, hl]) fun v H' O2 s2 r3 val _ => ?_
    have w : Rep g (Av Bn O2) H' (.exc c' ks ds) v := val
    intro d hd
    exact hQ v H' O2 (st2.trans s2) (by simpa only [putOuts] using r3) w d hd
  | .fz .non, some (.obj c' ks ds, true) :: os', he, e3 =>
    simp only [Option.some.injEq, Prod.mk.injEq] at he
    obtain ⟨rfl, rfl⟩ := he
    refine call_coreG (R := xcQ g Wx (fun v H2 => v = .non ∧ Q (.ref p) H2)) r2 v3 ea nd2 (by simpa using e3) (fun i z => by cases z) (by rw [List.length_cons, hl]) fun v H' O2 s2 r3 val nws => ?_
    show v = .non ∧ Q (.ref p) H'
    refine ⟨by simpa only [Val, Rep] using val, ?_⟩
    have w1 := nws 0 _ _ p rfl rfl rfl
    exact hQ _ H' O2 (st2.trans s2) (by simpa only [putOuts] using r3) (by simpa only [putOuts] using w1)
theorem px_mk (M : MkdX X.prog X.w X.mg X.base g k c x n F) (C : Cok0 g X) (tk : Tk X Wx) (hF : fs[i]? = some F) (hn : ies.length = n) (hr : Room (k + 1) X.A) (hg : Gl X x) (ha : PA X (e :: es) (tAw g fs ies)) (hdb : (x == ("__debug__" : Str)) = false)
    (he : starEach (e :: es) X.env = (false, eval e X.env) :: starEach es X.env) (hpl : (backTo pos (starEach es X.env)).any (·.1) = false) : PE X (.Call (.Name x p) (e :: es) [] pos) (tRX g Wx fs (.mkx c i ies)) := by
  obtain ⟨f, fd, ps, h1, h2, h3, h5, h4⟩ := M.ex
  have h6 := FnOk.kf h4
  rw [← C.K] at h2 h3 h6
  refine PE.weak (pe_make h2 h6 hr hg h1 h3 .nil (pass_tk tk) ha hdb he hpl) ?_
  rintro σ H Q ⟨Bn, Ow, Γ, r, Γ', rs, he, hQ⟩
  simp only [ev] at he
  obtain ⟨⟨ys, Γ1⟩, e1, he⟩ := Option.bind_eq_some_iff.mp he
  obtain ⟨F', e4, he⟩ := Option.bind_eq_some_iff.mp he
  rw [hF] at e4; cases e4
  refine ⟨Bn, Ow, Γ, ys, Γ1, rs, e1, fun vs H1 O1 s1 r1 v1 => ?_⟩
  intro p dx np0 ndx ne
  show (_ ∧ _)
  rw [List.append_nil, C.K]
  exact mkX_core r1 v1 he (by rw [← v1.len, ← evs_len e1, hn]) h5 (fun v H' O' st => hQ v H' O' (s1.trans st)) p dx np0 ndx ne
/-- a def called by values, somewhere below -/
theorem run_subX {sp : Sp} {fd : FuncData} {ps : List Str} {f : Addr} {A : Around} {pins : List (Addr × Obj)} {σ : St} {H : Hp} {s : Shared} {Q : VK} {us : List Value} {vs : List V} (tk : Tk X Wx) (F : FnOk X.prog X.w X.K X.mg X.base (L2.CX X.prog X.w) k f fd ps sp) (sb : L2.Sub X k A) (hb : Binds X.K fd ps [])
    (I : Inv X pins σ H s) (r : Vals vs us) (h : sp vs H Q Wx) : wpAny (model X.prog X.w) A (call (.ref f) us) (EP X pins σ Q) X.xe s := by
  have e := I.env0
  have e0 : Env0 X.prog X.w X.K X.mg X.base A X.stack s H := { frames := by rw [sb.fr]; exact e.frames, mod := e.mod, bs := e.bs, bsz := e.bsz, funs := e.funs, frf := e.frf, hok := e.hok, bare := e.bare }
  have hl : us.length = ps.length := by rw [← r.length]; exact F.len _ _ _ _ h
  have b0 := hb s us I.kIn (by rw [List.append_nil]; exact hl)
  rw [List.append_nil] at b0
  refine wpAny_call (codeAny_mono (F.run A X.stack s H ⟨us, []⟩ us vs Q Wx sb.room e0 b0 r h) fun fl s' hq => ?_)
  match fl, hq with
  | .ok (.ret u), hq => exact I.after hq
  | .error u, hq => exact pass_tk tk pins σ H s u s' I hq
def rOwnX (C : Addr) (sp : Sp) (W : L2.XK) : R2 := fun x y H Q => ∃ a dx fl, x = .ref a ∧ H a = some (.ins C dx fl) ∧ sp [x, y] H Q W
theorem ix_ownX {sp : Sp} {fd : FuncData} {ps : List Str} {f C : Addr} (tk : Tk X Wx) (F : FnOk X.prog X.w X.K X.mg X.base (L2.CX X.prog X.w) k f fd ps sp) (hr : Room (k + 1) X.A) (hb : Binds X.K fd ps []) (hm : Meth X.K C "__getitem__" f) (hf : PySem.W.fnIn X.K f = true) : IxO X (rOwnX C sp Wx) := by
  intro value slice pins s σ H x y v u Q I rx ry h hs
  obtain ⟨a, dx, fl, rfl, ha, h⟩ := h
  cases rx
  obtain ⟨mA, J, _⟩ := ins_get I.hok ha
  obtain ⟨od, J, _⟩ := J.look
  obtain ⟨m, hF⟩ := I.fr
  refine PySem.W.sub_K hF I.ok.mod.kin J hm.at_ hf hm.fn ?_ hs
  exact run_subX (vs := [.ref a, y]) tk F ⟨hr.in1, rfl⟩ hb I (.cons rfl (.cons ry .nil)) h
theorem own_valX {o : OOp} {a b : Expr} {ia ib : E} {Bn : Addr → Prop} {Ow : List Addr} {H : Hp} {σ : St} {Γ Γ' : Ct} {r : RV} {Q : VK} {R : V → V → Hp → Prop}
    (hF : fs[i]? = some F) (rs : RS g Bn Ow H σ Γ) (he : ev fs (.ownx o c i ia ib) Γ = some (r, Γ')) (hQ : ∀ v H' Ow', Stp Ow H Ow' H' → RS g Bn Ow' H' σ Γ' → Val g Bn Ow' H' σ Γ' r v → xcQ g Wx Q r v H')
    (k2 : ∀ A d e v w H2, Rep g A H2 d v → Rep g A H2 e w → isObj c d = true → okO o c e = true → spX g 2 F [v, w] H2 Q Wx → R v w H2) :
    tR g fs ia σ H fun v H1 => tR g fs ib σ H1 fun w H2 => R v w H2 := by
  simp only [ev] at he
  obtain ⟨⟨x, Γ1⟩, e1, he⟩ := Option.bind_eq_some_iff.mp he
  obtain ⟨⟨y, Γ2⟩, e2, he⟩ := Option.bind_eq_some_iff.mp he
  obtain ⟨⟨d', Γ3⟩, f1, he⟩ := Option.bind_eq_some_iff.mp he
  obtain ⟨⟨e', Γ4⟩, f2, he⟩ := Option.bind_eq_some_iff.mp he
  simp only [Option.ite_none_right_eq_some, Bool.and_eq_true] at he
  obtain ⟨⟨ho1, ho2⟩, he⟩ := he
  obtain ⟨F', hF', e5⟩ := Option.bind_eq_some_iff.mp he
  rw [hF] at hF'; cases hF'
  simp only at f1 f2
  rw [← fre_dn] at f1 f2
  refine tR_two rs e1 e2 fun v w H2 O2 s2 r2 v2 w2 => ?_
  obtain ⟨O3, s3, r3, p3⟩ := fre_ok r2 v2 f1
  obtain ⟨O4, s4, r4, p4⟩ := fre_ok r3 (w2.step s3 r3) f2
  have p3' := p3.step s4 r4
  refine k2 (Av Bn O4) d' e' v w H2 p3' p4 ho1 ho2 ?_
  exact callD_coreG (xs := [.fz d', .fz e']) (vs := [v, w]) r4 ⟨v, [w], rfl, p3', nofun, w, [], rfl, p4, nofun, rfl⟩ e5 rfl fun z H' O5 s5 r5 v5 => hQ _ H' O5 (((s2.trans s3).trans s4).trans s5) r5 v5
theorem px_ownIx {a b : Expr} {ia ib : E} (M : MtdX X.prog X.w X.mg X.base g k c "__getitem__" 2 F) (hfn : ∀ f, Meth g.K (g.cl c) "__getitem__" f → PySem.W.fnIn g.K f = true) (C : Cok0 g X) (tk : Tk X Wx) (hF : fs[i]? = some F) (hr : Room (k + 1) X.A) (ha : PE X a (tR g fs ia)) (hb : PE X b (tR g fs ib)) (hs : PlainIx b) (hs' : ∀ o i, subscripted b true o i = runValue (.builtin "lifetime.subscript" ⟨[o, i], []⟩)) : PE X (.Subscript a b pos) (tRX g Wx fs (.ownx .ix c i ia ib)) := by
  obtain ⟨f, fd, ps, h1, h2, h3, h4⟩ := M.ex
  have hf := hfn f h2
  rw [← C.K] at h1 h2 h3 h4 hf
  refine PE.weak (pe_ixO ix_seq (ix_ownX tk h4 hr h3 h2 hf) ha hb hs hs') ?_
  rintro σ H Q ⟨Bn, Ow, Γ, r, Γ', rs, he, hQ⟩
  refine own_valX (a := a) (b := b) hF rs he hQ fun A d e v w H2 q1 q2 q3 q4 q5 => .inr ?_
  obtain ⟨pa, dx, fl, rfl, e1⟩ := rep_ins q3 q1
  exact ⟨pa, dx, fl, rfl, e1, q5⟩
/-! ### statements -/
theorem sx_drop (h : PE X e (tRX g Wx fs ie)) (hs : swapsWith e none pos.line X.env = pure false) : PS X (.Expr e pos) (tSt g Wx fs (.xex ie .drop)) := by
  refine PS.weak (ps_expr h hs) ?_
  rintro Dn σ H ⟨pv, Bn, Ow, Γ, o, rs, pn, he, po⟩
  simp only [ex] at he
  obtain ⟨⟨x, Γ1⟩, e1, he⟩ := Option.bind_eq_some_iff.mp he
  refine ⟨Bn, Ow, Γ, x, Γ1, rs, e1, fun v H1 O1 s1 r1 vl => ?_⟩
  simp only at he
  split at he
  · simp only [Option.some.injEq] at he; subst he
    intro d hd
    subst hd
    exact po d σ H1 O1 s1 r1 pn vl
  · rename_i z
    simp only [Option.some.injEq] at he; subst he
    rw [xcQ_no (by cases x with
      | fz d => cases d <;> first | rfl | exact absurd rfl (z _ _ _)
      | _ => rfl)]
    exact po σ H1 O1 s1 r1 pn
theorem no_xc {x : RV} (z : ∀ (c : Nat) (ks : List Str) (ds : List D), x = .fz (.exc c ks ds) → False) : isXc x = false := by
  cases x with
  | fz d => cases d <;> first | rfl | exact (z _ _ _ rfl).elim
  | _ => rfl
theorem sx_ret (h : PE X e (tRX g Wx fs ie)) : PS X (.Return (some e) pos) (tSt g Wx fs (.xex ie .ret)) := by
  refine PS.weak (ps_ret h) ?_
  rintro Dn σ H ⟨pv, Bn, Ow, Γ, o, rs, pn, he, po⟩
  simp only [ex] at he
  obtain ⟨⟨x, Γ1⟩, e1, he⟩ := Option.bind_eq_some_iff.mp he
  refine ⟨Bn, Ow, Γ, x, Γ1, rs, e1, fun v H1 O1 s1 r1 vl => ?_⟩
  simp only at he
  split at he
  · simp only [Option.some.injEq] at he; subst he
    intro d hd
    subst hd
    exact po d σ H1 O1 s1 r1 pn vl
  · rename_i z
    simp only [Option.some.injEq] at he; subst he
    rw [xcQ_no (no_xc fun c ks ds q => z c ks ds q)]
    exact po v σ H1 O1 s1 r1 pn vl
theorem sx_asg {tg : Expr} {itg : Tg} (h : PE X e (tRX g Wx fs ie)) (hg : PG X tg (tgT g.K itg)) (hs : swapsWithSole [tg] e pos.line X.env = pure false) (hw : swappedStores [tg] e X.env = pure none)
    (h1 : (assignEach [tg] X.env).map (·.2) = [assign tg X.env]) : PS X (.Assign [tg] e pos) (tSt g Wx fs (.xex ie (.asg itg))) := by
  refine PS.weak (ps_asg h hg hs hw h1) ?_
  rintro Dn σ H ⟨pv, Bn, Ow, Γ, o, rs, pn, he, po⟩
  simp only [ex] at he
  obtain ⟨⟨x, Γ1⟩, e1, he⟩ := Option.bind_eq_some_iff.mp he
  refine ⟨Bn, Ow, Γ, x, Γ1, rs, e1, fun v H1 O1 s1 r1 vl => ?_⟩
  simp only at he
  split at he
  · simp only [Option.some.injEq] at he; subst he
    intro d hd
    subst hd
    exact po d σ H1 O1 s1 r1 pn vl
  · rename_i z
    rw [xcQ_no (no_xc fun c ks ds q => z c ks ds q)]
    obtain ⟨⟨d, Γ2⟩, e2, he⟩ := Option.bind_eq_some_iff.mp he
    simp only [Option.ite_none_right_eq_some] at he
    obtain ⟨dj, he⟩ := he
    obtain ⟨Γ3, e3, rfl⟩ := Option.map_eq_some_iff.mp he
    obtain ⟨O2, s2, r2, p2⟩ := fre_ok r1 vl e2
    exact asgT_ok itg r2 p2 e3 fun σ' q1 q2 q3 => po σ' H1 O2 (s1.trans s2) q1 (pn.keep dj q2 q3)
end
end DV

namespace DV
open PySem L2
variable {Wx : L2.XK}
/-! ### errors of the program: own classes over ArithmeticError whose __init__ stores its arguments -/
abbrev aeT : List Value := [.type "ArithmeticError", .type "Exception", .type "BaseException", .type "object"]
/-- what is written of such a class -/
structure AexC (K : PySem.W.Frag) (C : Addr) : Prop where
  ini : PySem.W.excInitIn K C aeT "ArithmeticError.__new__" = true
  ov : PySem.W.excOver K C aeT = true
  hd : PySem.W.hasDictIn K C = true
  sa : PySem.W.findIn K (.ref C) "__setattr__" = some (some (.builtin "object.__setattr__"))
  exC : PySem.W.subIn K (.ref C) (.type "BaseException") = some true
  tyC : PySem.W.typeIn K (.ref C) = some (.type "type")
  kC : PySem.W.keepIn K (.ref C) = true
def aexB (K : PySem.W.Frag) (C : Addr) : Bool := PySem.W.excInitIn K C aeT "ArithmeticError.__new__" && (PySem.W.excOver K C aeT && (PySem.W.hasDictIn K C &&
  (decide (PySem.W.findIn K (.ref C) "__setattr__" = some (some (.builtin "object.__setattr__"))) && (decide (PySem.W.subIn K (.ref C) (.type "BaseException") = some true) && (decide (PySem.W.typeIn K (.ref C) = some (.type "type")) && PySem.W.keepIn K (.ref C))))))
theorem aexB_ok {K : PySem.W.Frag} {C : Addr} (h : aexB K C = true) : AexC K C := by
  simp only [aexB, Bool.and_eq_true, decide_eq_true_eq] at h
  exact ⟨h.1, h.2.1, h.2.2.1, h.2.2.2.1, h.2.2.2.2.1, h.2.2.2.2.2.1, h.2.2.2.2.2.2⟩
/-- the class whose __init__ is called with the text -/
structure BexC (K : PySem.W.Frag) (B : Addr) : Prop where
  ga : PySem.W.specialIn K (.ref B) "__getattribute__" = some (some (.builtin "type.__getattribute__"))
  rd : PySem.W.readsIn K B (.type "type") = true
  at_ : PySem.W.findCls K (.ref B) (.type "type") "__init__" = some (.val (.builtin "ArithmeticError.__init__"))
section
variable {X : Cx} {pins : List (Addr × Obj)} {σ : L2.St} {H : Hp} {s : Shared} {a C dx : Addr} {f : Str} {y : V} {u : Value} {fs : List (Str × V)} {Q : Unit → Shared → Prop} {E : Value → Shared → Prop} {A : Around}
/-- the first field -/
theorem aes_new (T : AexC X.K C) (I : Inv X pins σ H s) (e : H a = some (exo a C none)) (hno : PySem.W.takerIn X.K C f = some none) (ry : RelV y u)
    (go : ∀ d z, H d = none → d ≠ a → Inv X pins σ (upd (upd H d (exd d [(f, y)])) a (exo a C (some d))) z → Q () z) : wpAny (model X.prog X.w) A (setAttr (.ref a) f u) Q E s := by
  obtain ⟨cd, hcd, hdc⟩ := PySem.W.any_some T.hd
  obtain ⟨t1, ho⟩ := exo_at I.hok e
  have KI := I.kIn
  obtain ⟨hp, g, dr, t, os⟩ := s
  have J : PySem.W.InstAt hp a { cls := .ref C, dict := none, data := .fields #[.ref t1, .none, .none, .none, .bool false, .none] } C none := ⟨ho, rfl, rfl, trivial⟩
  refine PySem.W.set_plain KI J T.sa ?_
  refine PySem.W.osa_openX (s := ⟨hp, g, dr, t + 1, os⟩) PySem.F.store_ArithmeticError KI J T.ov hno fun b => ?_
  have hcls : PySem.W.Looks (model X.prog X.w) hp (classData C) cd := PySem.W.looks_clsIn KI hcd
  have hxs : a ≠ hp.objs.size := Nat.ne_of_lt (Heap.lt_size ho)
  have fin : ∀ h1 tk1, h1.Ns1 hp.objs.size (fun z => if z = f then some u else none) → Heap.SameBut hp.objs.size ((hp.push { cls := .type "dict", data := .dict #[] }).update a (fun o => { o with dict := some hp.objs.size })) h1 →
      Q () ⟨h1, g, dr, tk1, os⟩ := fun h1 tk1 hn1 hs1 => by
    have ha1 : (hp.push { cls := .type "dict", data := .dict #[] }).get? a = some { cls := .ref C, data := .fields #[.ref t1, .none, .none, .none, .bool false, .none] } := Heap.get?_push_of_some _ ho
    have dn : hp.objs.size ≤ hp.objs.size := Nat.le_refl _
    have hnd : H hp.objs.size = none := I.hok.fresh dn
    have kp : ∀ b o, b ≠ a → hp.get? b = some o → h1.get? b = some o := fun b o hb z =>
      (hs1.2 b (Nat.ne_of_lt (Heap.lt_size z))).trans ((Heap.get?_update_ne _ _ _ _ hb).trans (Heap.get?_push_of_some _ z))
    have hx1 : h1.get? a = some { cls := .ref C, dict := some hp.objs.size, data := .fields #[.ref t1, .none, .none, .none, .bool false, .none] } :=
      (hs1.2 a hxs).trans (Heap.get?_update_self _ ha1 rfl)
    have nd : ∀ {b : Addr} {o : Obj}, hp.get? b = some o → b ≠ hp.objs.size := fun {b o} z => Nat.ne_of_lt (Heap.lt_size z)
    have na : ∀ {b : Addr}, H b = none → b ≠ a := fun {b} n z => by rw [z, e] at n; cases n
    have dne : hp.objs.size ≠ a := fun z => hxs z.symm
    have U : Un X.fs [] H (upd (upd H hp.objs.size (exd hp.objs.size [(f, y)])) a (exo a C (some hp.objs.size))) hp h1 := {
      keep := fun b o z n _ _ => kp b o (na n) z
      slot := fun b o z n _ _ => ⟨o.slots, kp b o (na n) z⟩
      free := fun b o z n _ => by rw [upd_ne (na n), upd_ne (nd z)]; exact n
      there := fun b o z _ => by
        by_cases hb : b = a
        · rw [hb]; exact ⟨_, hx1⟩
        · exact ⟨o, kp b o hb z⟩
      tups := fun b xs z => by rw [upd_ne (at_ne e z exo_tup), upd_ne (ne_of_none z hnd)]; exact z
      frzs := fun b o v z => by rw [upd_ne (at_ne e z exo_frz), upd_ne (ne_of_none z hnd)]; exact z
      tbls := fun b ps z => ⟨#[], by rw [upd_ne (at_ne e z exo_tbl), upd_ne (ne_of_none z hnd), z]; simp⟩ }
    refine go hp.objs.size _ hnd dne (I.un (t' := tk1) U fun b o z => ?_)
    by_cases hb : b = a
    · subst hb; rw [upd_same] at z; cases z; exact exo_ok hx1
    · rw [upd_ne hb] at z
      by_cases hb2 : b = hp.objs.size
      · subst hb2; rw [upd_same] at z; cases z
        exact exd_ok hn1 (relO_put (fs := []) ry fun _ => True.intro)
      · rw [upd_ne hb2] at z
        refine (I.hok b o z).stay (fun c v hc q => kp c v ?_ q) (fun c hc => ?_) fun c xs hc => ?_
        · rcases hc with hc | hc
          · rw [hc]; exact hb
          · exact at_ne e hc exo_own
        · rw [upd_ne (at_ne e hc exo_own), upd_ne (ne_of_none hc hnd)]; exact hc
        · rw [upd_ne (at_ne e hc exo_tup), upd_ne (ne_of_none hc hnd)]; exact hc
  obtain ⟨nm, bs, mro, ns, qn, hd, sn, sb, ab, col, del⟩ := cd
  dsimp only at hdc
  subst hdc
  unfold Builtin.ObjectAttr.storeInOwnDict Builtin.ObjectAttr.ownDictForStores
  repeat (first | with_reducible refine PySem.HandSPX.store_in_new ?_ ?_ | with_reducible refine wpAny_loadPart_at ho ?_ | with_reducible refine hcls.at ?_ | wp_step)
  · exact ⟨_, #[], _, (Heap.get?_update_ne _ _ _ _ hxs.symm).trans (Heap.get?_push_at rfl rfl), rfl, fun q he => absurd he (by simp), fun _ => rfl⟩
  · exact fin
/-- a further field -/
theorem aes_old (T : AexC X.K C) (I : Inv X pins σ H s) (e : H a = some (exo a C (some dx))) (ed : H dx = some (exd dx fs)) (hl : fs.length ≤ 900) (hno : PySem.W.takerIn X.K C f = some none) (ry : RelV y u)
    (go : ∀ z, Inv X pins σ (upd H dx (exd dx ((f, y) :: fs))) z → Q () z) : wpAny (model X.prog X.w) A (setAttr (.ref a) f u) Q E s := by
  obtain ⟨cd, hcd, hdc⟩ := PySem.W.any_some T.hd
  obtain ⟨t1, ho⟩ := exo_at I.hok e
  obtain ⟨mA, hns, rel⟩ := exd_at I.hok ed
  have hw := within_of rel
  have KI := I.kIn
  obtain ⟨hp, g, dr, t, os⟩ := s
  obtain ⟨oD, esD, epD, hoD, hdD, hcD⟩ := hns.count hw
  have J : PySem.W.InstAt hp a { cls := .ref C, dict := some dx, data := .fields #[.ref t1, .none, .none, .none, .bool false, .none] } C (some oD) := ⟨ho, rfl, rfl, hoD⟩
  refine PySem.W.set_plain KI J T.sa ?_
  refine PySem.W.osa_openX (s := ⟨hp, g, dr, t + 1, os⟩) PySem.F.store_ArithmeticError KI J T.ov hno fun b => ?_
  have hcls : PySem.W.Looks (model X.prog X.w) hp (classData C) cd := PySem.W.looks_clsIn KI hcd
  have fin : ∀ h1 tk1, h1.Ns1 dx (fun z => if z = f then some u else mA z) → Heap.SameBut dx hp h1 → Q () ⟨h1, g, dr, tk1, os⟩ := fun h1 tk1 hn1 hs1 => by
    have hd1 : ∃ o, h1.get? dx = some o := by
      obtain ⟨o, _, _, z, _⟩ := hn1
      exact ⟨o, z⟩
    exact go _ (I.write (t' := tk1) (x := dx) (e := dx) (o := exd dx ((f, y) :: fs)) (by rw [ed]; exact True.intro) (.inl rfl) (fun b o hb z => (hs1.2 b hb).trans z) hd1 (exd_ok hn1 (relO_put ry rel)))
  obtain ⟨nm, bs, mro, ns, qn, hd, sn, sb, ab, col, del⟩ := cd
  dsimp only at hdc
  subst hdc
  unfold Builtin.ObjectAttr.storeInOwnDict Builtin.ObjectAttr.ownDictForStores
  repeat (first | with_reducible refine PySem.OEX.store_in_old hns hw (by rw [List.length_map]; omega) ?_ | with_reducible refine wpAny_loadPart_at ho ?_ | with_reducible refine hcls.at ?_ | wp_step)
  exact fin
/-- the base class' __init__ with a text: nothing of it is told -/
theorem aei_ok {us : List Value} {Q : Value → Shared → Prop} (T : AexC X.K C) (I : Inv X pins σ H s) (e : H a = some (exo a C none)) (hl : us.length ≤ sizeLine) (go : ∀ z, Inv X pins σ H z → Q .none z) :
    wpAny (model X.prog X.w) A (call (.builtin "ArithmeticError.__init__") (.ref a :: us)) Q E s := by
  obtain ⟨nm, N, q, bs, bm, hdct, sn, sub, ab, col, dd, k0, k1, k2, k3, k5, hC, hT⟩ := PySem.W.excInit_of I.kIn T.ini
  obtain ⟨t1, ho⟩ := exo_at I.hok e
  obtain ⟨hp, g, dr, t, os⟩ := s
  refine wpAny_call (PySem.HandSPX.init_base PySem.F.excBase_ArithmeticError hT hC ho hl fun h1 t2 k hx => ?_)
  have I2 := I.write (t' := t) (x := a) (e := a) (o := exo a C none) (by rw [e]; exact True.intro) (.inl rfl) k ⟨_, hx⟩ (exo_ok hx)
  have eu : upd H a (exo a C none) = H := funext fun b => by
    by_cases hb : b = a
    · rw [hb, upd_same, e]
    · rw [upd_ne hb]
  rw [eu] at I2
  exact go _ I2
end
/-! ### readings and rules -/
def tAeI (K : PySem.W.Frag) (ta : TA) : TE := fun σ H Q => ta σ H fun vs H1 => ∃ (a C : Addr) (ws : List V), vs = .ref a :: ws ∧ ws.length ≤ 1000 ∧ AexC K C ∧ H1 a = some (exo a C none) ∧ Q .non H1
def tAes (K : PySem.W.Frag) (f : Str) (to te : TE) : TS := fun D σ H => te σ H fun y H1 => to σ H1 fun x H2 => ∃ a C : Addr, x = .ref a ∧ AexC K C ∧ PySem.W.takerIn K C f = some none ∧
  ((H2 a = some (exo a C none) ∧ ∀ dx, H2 dx = none → dx ≠ a → D.nx σ (upd (upd H2 dx (exd dx [(f, y)])) a (exo a C (some dx)))) ∨
    ∃ (dx : Addr) (fs : List (Str × V)), H2 a = some (exo a C (some dx)) ∧ H2 dx = some (exd dx fs) ∧ fs.length ≤ 900 ∧ D.nx σ (upd H2 dx (exd dx ((f, y) :: fs))))
def tMkA (C : Addr) (sp : Sp) (ta : TA) : L2.St → Hp → L2.XK → Prop := fun σ H Q => ta σ H fun vs H1 => vs.length ≤ 1000 ∧ ∀ a, H1 a = none → sp (.ref a :: vs) (upd H1 a (exo a C none))
  (fun v H2 => v = .non ∧ ∃ (d : Addr) (fs : List (Str × V)), H2 a = some (exo a C (some d)) ∧ H2 d = some (exd d fs) ∧ H1 d = none ∧ Q (.ref C) (some d) (upd (del H2 a) d (.xd fs))) (fun _ _ _ => False)
section
variable {X : Cx} {o e : Expr} {es : List Expr} {to te : TE} {ta : TA} {f x : Str} {p p' p1 p2 pos : Pos} {B : Addr}
theorem pe_aei {pl : Sem Bool} (T : BexC X.K B) (hg : Gl X x) (hm : X.mg x = some (.ref B)) (hdb : (x == ("__debug__" : Str)) = false) (ha : PA X (e :: es) ta)
    (hc : eval (.Call (.Attribute (.Name x p1) "__init__" p2) (e :: es) [] pos) X.env = (do
      let ov ← eval (.Name x p1) X.env
      standAt p2.atName
      let (f, first) ← holding [ov] (getMethod ov "__init__" pl)
      callWith pos f first (backTo pos (starEach (e :: es) X.env)) (backToKw pos (keywordEach [] X.env))))
    (he : starEach (e :: es) X.env = (false, eval e X.env) :: starEach es X.env) (hpl : (backTo pos (starEach es X.env)).any (·.1) = false) :
    PE X (.Call (.Attribute (.Name x p1) "__init__" p2) (e :: es) [] pos) (tAeI X.K ta) := by
  refine ⟨fun pins s σ H Q I h => PySem.W.methodCall_KW (ld_glob I hg hm ?_ hdb) hc⟩
  refine PySem.W.method_cls I.kIn T.ga (PySem.W.cls_value I.kIn T.rd T.at_ rfl ?_)
  show wpAny _ _ (callWith pos (Value.builtin "ArithmeticError.__init__") [] (backTo pos (starEach (e :: es) X.env)) []) _ _ _
  refine PyProof.Rows.callWith_method1 (thn (ha.run pos pins _ σ H _ (I.tok _) h) fun us s1 ⟨vs, H1, I1, r1, a, C, ws, ev, hl, T', ea, q⟩ => ?_) he hpl
  subst ev
  cases r1 with
  | @cons _ u0 _ ur ra rw' =>
    obtain rfl : u0 = Value.ref a := ra
    exact aei_ok T' I1 ea (by rw [← Paired.length rw', sizeLine_eq]; omega) fun s2 J => ⟨.non, H1, J, rfl, q⟩
theorem ps_aes (ho : PE X o to) (he : PE X e te) (hs : swapsWith e (some (.Attribute o f p')) pos.line X.env = pure false) : PS X (.Assign [.Attribute o f p'] e pos) (tAes X.K f to te) := by
  refine ⟨fun pins s σ H D I h => plainObj_wpAny_Assign_Attribute (thn (he.run pins s σ H _ I h) fun v s1 hv => ?_) hs⟩
  obtain ⟨y, H1, I1, r1, q1⟩ := hv
  refine thn (ho.run pins s1 σ H1 _ I1 q1) fun u s2 hu => ?_
  obtain ⟨z, H2, I2, r2, a, C, ex, T, hno, q⟩ := hu
  subst ex
  obtain rfl : u = Value.ref a := r2
  rcases q with ⟨ea, q⟩ | ⟨dx, fs, ea, ed, hl, q⟩
  · exact aes_new T I2 ea hno r1 fun dx z n ne J => ⟨σ, _, J, q dx n ne⟩
  · exact aes_old T I2 ea ed hl hno r1 fun z J => ⟨σ, _, J, q⟩
theorem pmk_aex {CX : CXT} {C fI : Addr} {k : Nat} {fd : FuncData} {ps : List Str} {sp : Sp} (T : AexC X.K C) (iC : PySem.W.findIn X.K (.ref C) "__init__" = some (some (.ref fI))) (tI : PySem.W.typeIn X.K (.ref fI) = some (.type "function"))
    (F1 : FnOk X.prog X.w X.K X.mg X.base CX k fI fd ps sp) (hr : Room (k + 1) X.A) (hb : Binds X.K fd ps []) (hx : Passes CX X (fun _ _ _ => False)) (hg : Gl X x) (hm : X.mg x = some (.ref C)) (ha : PA X (e :: es) ta)
    (hdb : (x == ("__debug__" : Str)) = false) (he : starEach (e :: es) X.env = (false, eval e X.env) :: starEach es X.env) (hpl : (backTo pos (starEach es X.env)).any (·.1) = false) :
    PMk X (.Call (.Name x p) (e :: es) [] pos) (tMkA C sp ta) := by
  intro pins s σ H Q I h
  refine wpAny_Call_Name_kw (ld_glob I hg hm ?_ hdb)
  refine PySem.W.callWith_K (h₀ := X.base) I.ok.mod.kin T.kC (thn (ha.run pos pins s σ H _ I h) fun us s1 hs1 => ?_) he hpl
  obtain ⟨vs, H1, I1, r1, hz, q1⟩ := hs1
  refine ⟨I1.kIn, ?_⟩
  obtain ⟨nm, N, q, bs, bm, hdct, sn, sub, ab, col, dd, k0, k1, k2, k3, k5, hC, hT⟩ := PySem.W.excInit_of I1.kIn T.ini
  show wpAny _ _ (call (.ref C) us) _ _ _
  have KI := I1.kIn
  obtain ⟨hp, g, dr, tk, os⟩ := s1
  have hsz : hp.objs.size ≤ hp.objs.size + 1 := Nat.le_succ _
  have hn : H1 (hp.objs.size + 1) = none := I1.hok.fresh hsz
  have hq := q1 (hp.objs.size + 1) hn
  have kk : ∀ b o, hp.get? b = some o → ((hp.push (PySem.W.kdv_tup us)).push (PySem.HandSPX.excO C hp.objs.size)).get? b = some o := fun b o z => Heap.get?_push_of_some _ (Heap.get?_push_of_some _ z)
  have hget : ((hp.push (PySem.W.kdv_tup us)).push (PySem.HandSPX.excO C hp.objs.size)).get? (hp.objs.size + 1) = some (PySem.HandSPX.excO C hp.objs.size) := by heap_get
  have I2 := I1.laid (t' := tk) (a := hp.objs.size + 1) (o := exo (hp.objs.size + 1) C none) (h' := (hp.push (PySem.W.kdv_tup us)).push (PySem.HandSPX.excO C hp.objs.size)) kk hsz (exo_ok hget)
  have r2 : Vals (V.ref (hp.objs.size + 1) :: vs) (Value.ref (hp.objs.size + 1) :: us) := .cons rfl r1
  have hl : (Value.ref (hp.objs.size + 1) :: us ++ []).length = ps.length := by
    have z := r2.length
    rw [F1.len _ _ _ _ hq] at z
    rw [List.append_nil]
    exact z.symm
  have b0 := hb _ (Value.ref (hp.objs.size + 1) :: us) I2.kIn hl
  rw [List.append_nil] at b0
  have hus : us.length ≤ sizeLine := by rw [← Paired.length r1, sizeLine_eq]; omega
  have run := F1.run _ X.stack _ _ ⟨Value.ref (hp.objs.size + 1) :: us, []⟩ _ _ _ (fun _ _ _ => False) (hr.make C us []) (I2.env0.make C us []) b0 r2 hq
  refine wpAny_call (PySem.HandSPX.call_own PySem.F.excBase_ArithmeticError hT hC (PySem.W.looks_findIn KI iC) (fun self => PySem.W.bind_fn KI self tI) hus (codeAny_mono run fun r s2 hq2 => ?_))
  match r, hq2 with
  | .error er, hq2 => exact hx pins σ _ _ er s2 I2 hq2
  | .ok (.ret u), hq2 =>
    obtain ⟨v, H2, os2, bare2, un2, hok2, rv, ev, d, fs, ea, ed, hd1, q2⟩ := hq2
    subst ev
    obtain ⟨h2, g2, d2, t2, os'⟩ := s2
    exact ⟨rv, mk_end (raises_own T.exC T.tyC) I1 hsz kk un2 hok2 os2 bare2 ea ed hd1 q2⟩
end
end DV

namespace DV
open PySem L2
variable {Wx : L2.XK}
/-! ### raise -/
/-- what the __init__ of an error does: each argument becomes a field -/
def spI (g : Gx) (c : Nat) (ks : List Str) : Sp := fun vs H Q _ => ∃ a ws, vs = V.ref a :: ws ∧ ws.length = ks.length ∧ H a = some (exo a (g.cl c) none) ∧
  ∀ H' d, H' a = some (exo a (g.cl c) (some d)) → H' d = some (exd d (ks.zip ws).reverse) → H d = none → d ≠ a → (∀ b, b ≠ a → b ≠ d → H' b = H b) → Q .non H'
theorem spI_len {g : Gx} {c : Nat} {ks : List Str} {vs : List V} {H : Hp} {Q : VK} {E : L2.XK} (h : spI g c ks vs H Q E) : vs.length = ks.length + 1 := by
  obtain ⟨a, ws, rfl, l, _⟩ := h
  rw [List.length_cons, l]
structure XCls (P : Program) (w : World) (mg : Str → Option Value) (base : Heap) (g : Gx) (k c : Nat) (x : Str) (ks : List Str) : Prop where
  ex : ∃ fI fd ps, mg x = some (.ref (g.cl c)) ∧ AexC g.K (g.cl c) ∧ PySem.W.findIn g.K (.ref (g.cl c)) "__init__" = some (some (.ref fI)) ∧ PySem.W.typeIn g.K (.ref fI) = some (.type "function") ∧ Binds g.K fd ps [] ∧ FnOk P w g.K mg base CX0 k fI fd ps (spI g c ks)
theorem XCls.mono {P : Program} {w : World} {mg : Str → Option Value} {base : Heap} {g : Gx} {j k c : Nat} {x : Str} {ks : List Str} (h : XCls P w mg base g j c x ks) (l : j ≤ k) : XCls P w mg base g k c x ks := by
  obtain ⟨f, fd, ps, h1, h2, h3, h4, h5, h6⟩ := h.ex
  exact ⟨f, fd, ps, h1, h2, h3, h4, h5, h6.mono l⟩
theorem s_rse {X : Cx} {g : Gx} {fs : List FS} {e : Expr} {es : List Expr} {ies : List E} {x : Str} {ks : List Str} {p pos' pos : Pos} {c k : Nat} (M : XCls X.prog X.w X.mg X.base g k c x ks) (C : Cok g X) (tk : Tk X Wx) (hr : Room (k + 1) X.A) (hg : Gl X x)
    (ha : PA X (e :: es) (tAs g fs ies)) (hdb : (x == ("__debug__" : Str)) = false) (he : starEach (e :: es) X.env = (false, eval e X.env) :: starEach es X.env) (hpl : (backTo pos' (starEach es X.env)).any (·.1) = false) (hks : ks.length ≤ 1000) :
    PS X (.Raise (some (.Call (.Name x p) (e :: es) [] pos')) none pos) (tSt g Wx fs (.rse c ks ies)) := by
  obtain ⟨f, fd, ps, h1, h2, h3, h4, h5, h6⟩ := M.ex
  rw [← C.K] at h2 h3 h4 h5 h6
  refine PS.weak (ps_raise C.calm tk (pmk_aex h2 h3 h4 h6 hr h5 (fun _ _ _ _ _ _ _ z => z.elim) hg h1 ha hdb he hpl)) ?_
  rintro Dn σ H ⟨pv, Bn, Ow, Γ, o, rs, pn, he, po⟩
  simp only [ex] at he
  obtain ⟨⟨xs, Γ1⟩, e1, he⟩ := Option.bind_eq_some_iff.mp he
  obtain ⟨⟨ds, Γ2⟩, e2, he⟩ := Option.bind_eq_some_iff.mp he
  simp only [Option.ite_none_right_eq_some, Option.some.injEq, excOk, decide_eq_true_eq] at he
  obtain ⟨hl, rfl⟩ := he
  refine ⟨Bn, Ow, Γ, xs, Γ1, rs, e1, fun vs H1 O1 s1 r1 v1 => ?_⟩
  obtain ⟨O2, s2, r2, rp⟩ := fres_ok r1 v1 e2
  have l2 : ks.length = vs.length := by rw [hl, rp.len]
  refine ⟨by omega, fun a na => ⟨a, vs, rfl, l2.symm, upd_same, fun H' d q1 q2 hd hne hk => ⟨rfl, d, _, q1, q2, ?_, ?_⟩⟩⟩
  · rw [upd_ne hne] at hd; exact hd
  · rw [upd_ne hne] at hd
    have sm : Same H1 (upd (del H' a) d (.xd (ks.zip vs).reverse)) := fun b u hb => by
      have nb : b ≠ a := fun z => by rw [z, na] at hb; cases hb
      have nd : b ≠ d := fun z => by rw [z, hd] at hb; cases hb
      rw [upd_ne nd, del_ne nb, hk b nb nd, upd_ne nb]
      exact hb
    refine po d σ _ O2 ((s1.trans s2).trans (Stp.same sm)) (r2.same sm) pn ?_
    simp only [Rep]
    exact ⟨d, vs, rfl, fun z => r2.trk d z hd, l2, upd_same, rp.same sm⟩
/-! ### the readings of an __init__ -/
section
variable {g : Gx} {c : Nat} {K : PySem.W.Frag} {k1 k2 n0 n1 n2 msg : Str} {vs : List V} {H : Hp} {Q : VK} {E : L2.XK}
theorem xin1 (T : AexC K (g.cl c)) (t1 : PySem.W.takerIn K (g.cl c) k1 = some none) (h : spI g c [k1] vs H Q E) :
    tSeq (tDrop (tAeI K (tCons (tVar 0) (tCons (tC (.str msg)) tNil)))) (tSeq (tAes K k1 (tVar 0) (tVar 1)) tNext) { nx := fun _ H' => Q .non H', rt := Q } (L2.start [n0, n1] vs) H := by
  obtain ⟨a, ws, rfl, l, ea, hQ⟩ := h
  match ws, l with
  | [y], _ =>
    exact ⟨.ref a, rfl, a, g.cl c, [.str msg], rfl, by simp, T, ea, y, rfl, .ref a, rfl, a, g.cl c, rfl, T, t1, .inl ⟨ea, fun dx nd ne =>
      hQ _ dx upd_same (by rw [upd_ne ne, upd_same]; rfl) nd ne fun b b1 b2 => by rw [upd_ne b1, upd_ne b2]⟩⟩
theorem xin2 (T : AexC K (g.cl c)) (t1 : PySem.W.takerIn K (g.cl c) k1 = some none) (t2 : PySem.W.takerIn K (g.cl c) k2 = some none) (h : spI g c [k1, k2] vs H Q E) :
    tSeq (tDrop (tAeI K (tCons (tVar 0) (tCons (tC (.str msg)) tNil)))) (tSeq (tAes K k1 (tVar 0) (tVar 1)) (tSeq (tAes K k2 (tVar 0) (tVar 2)) tNext)) { nx := fun _ H' => Q .non H', rt := Q } (L2.start [n0, n1, n2] vs) H := by
  obtain ⟨a, ws, rfl, l, ea, hQ⟩ := h
  match ws, l with
  | [y, z], _ =>
    refine ⟨.ref a, rfl, a, g.cl c, [.str msg], rfl, by simp, T, ea, y, rfl, .ref a, rfl, a, g.cl c, rfl, T, t1, .inl ⟨ea, fun dx nd ne => ?_⟩⟩
    refine ⟨z, rfl, .ref a, rfl, a, g.cl c, rfl, T, t2, .inr ⟨dx, [(k1, y)], upd_same, by rw [upd_ne ne, upd_same], by simp, ?_⟩⟩
    exact hQ _ dx (by rw [upd_ne ne.symm, upd_same]) (by rw [upd_same]; rfl) nd ne fun b b1 b2 => by rw [upd_ne b2, upd_ne b1, upd_ne b2]
end
end DV

namespace DV
open PySem L2
variable {Wx : L2.XK}
/-! ### an error that a suite holds: isinstance(e, C), e.f -/
/-- the suite holds the error -/
abbrev gE (g : Gx) (c : Nat) (e d : Addr) : Gx := ⟨g.K, g.cl, g.T, some (c, e, d)⟩
/-- what is written of an error's class, so that its instances can be asked -/
structure ErrC (K : PySem.W.Frag) (C : Addr) : Prop where
  cl : (PySem.W.clsIn K C).isSome = true
  ga : PySem.W.findIn K (.ref C) "__getattribute__" = some (some (.builtin "BaseException.__getattribute__"))
  gt : PySem.W.findIn K (.ref C) "__getattr__" = some none
  sb : PySem.W.subIn K (.ref C) (.type "BaseException") = some true
  ha : PySem.W.findIn K (.ref C) "__class__" = some (some (.builtin "object.__class__"))
  hn : PySem.W.specialIn K (.builtin "object.__class__") "__get__" = some (some (.builtin "getset_descriptor.__get__"))
  htk : PySem.W.takesIn K (.builtin "object.__class__") = some true
  hm : PySem.W.mroIn K C (.type "object") = some true
  hd : PySem.W.hasDictIn K C = true
section
variable {Y : Cx} {X : Cx} {g : Gx} {fs : List FS} {a dd DC : Addr} {oe : Obj} {pn : List (Addr × Obj)} {c0 i : Nat} {n y : Str} {p p2 pe pos : Pos}
def rXis (K : PySem.W.Frag) (D a dd : Addr) : List V → Hp → VK → Prop := fun xs H Q => ∃ (c : V) (cv : Value) (b : Bool) (fl : List (Str × V)), xs = [.ref a, c] ∧ ClsV c cv ∧ H dd = some (.xd fl) ∧ PySem.W.kitOne K (.ref D) cv = some b ∧ Q (.bl b) H
def rXit (K : PySem.W.Frag) (D a dd : Addr) : List V → Hp → VK → Prop := fun xs H Q => ∃ (tp : Addr) (cs : List V) (us : List Value) (b : Bool) (fl : List (Str × V)), xs = [.ref a, .ref tp] ∧ H tp = some (.tup cs) ∧ Paired ClsV cs us ∧ H dd = some (.xd fl) ∧ PySem.W.kitAny K (.ref D) us = some b ∧ Q (.bl b) H
theorem err_at {pins : List (Addr × Obj)} {σ : L2.St} {H : Hp} {s : Shared} {fl : List (Str × V)} (hz : Zc (.ref DC) (some dd) oe) (hf : ∃ vs, oe.data = .fields vs) (I : Inv (X.suite a ((a, oe) :: pn)) pins σ H s) (hd : H dd = some (.xd fl)) : ∃ od, PySem.W.InstAt s.heap a oe DC (some od) := by
  obtain ⟨hget, _⟩ := I.pin (a, oe) (List.mem_append.mpr (.inl List.mem_cons_self))
  obtain ⟨vs, hv⟩ := hf
  have hx : ObjOk X.prog X.w H s.heap dd (.xd fl) := I.hok dd _ hd
  obtain ⟨mA, hns, hr⟩ := hx
  obtain ⟨od, ho, _⟩ := lookIn_ns hns
  exact ⟨od, hget, hz.1, by unfold PySem.W.notCls; rw [hv] <;> rfl, by rw [hz.2]; exact ho⟩
theorem call_xis (C : ErrC X.K DC) (hz : Zc (.ref DC) (some dd) oe) (hf : ∃ vs, oe.data = .fields vs) : CallR (X.suite a ((a, oe) :: pn)) (.builtin "isinstance") (rXis X.K DC a dd) := by
  intro pins s σ H xs us Q I r h
  obtain ⟨c, cv, b, fl, rfl, k, hd, e, q⟩ := h
  obtain ⟨u1, u2, rfl, r1, r2⟩ := vals2 r
  have e2 := k.eq r2
  subst e2
  cases (show u1 = Value.ref a from r1)
  obtain ⟨od, J⟩ := err_at hz hf I hd
  exact PySem.W.kia_one (PySem.W.kitx_exc C.cl C.ga C.gt C.sb C.ha C.hn C.htk C.hm) I.kIn J e (fun z => nomatch z) fun tk => ⟨.bl b, H, I.kept (t' := tk) fun _ _ z => z, rfl, q⟩
theorem call_xit (C : ErrC X.K DC) (hz : Zc (.ref DC) (some dd) oe) (hf : ∃ vs, oe.data = .fields vs) : CallR (X.suite a ((a, oe) :: pn)) (.builtin "isinstance") (rXit X.K DC a dd) := by
  intro pins s σ H xs us Q I r h
  obtain ⟨tp, cs, ws, b, fl, rfl, hT, k, hd, e, q⟩ := h
  obtain ⟨u1, u2, rfl, r1, r2⟩ := vals2 r
  cases (show u1 = Value.ref a from r1)
  cases (show u2 = Value.ref tp from r2)
  obtain ⟨od, J⟩ := err_at hz hf I hd
  obtain ⟨_, its, rv, o, h1, h2, m, h3⟩ := (show ObjOk X.prog X.w H s.heap tp (.tup cs) from I.hok tp _ hT)
  have e3 := ClsV.all k rv
  subst e3
  obtain ⟨oc, od', dt, sl⟩ := o
  simp only at h2 h3
  subst h2 h3
  exact PySem.W.kia_tup (PySem.W.kitx_exc C.cl C.ga C.gt C.sb C.ha C.hn C.htk C.hm) I.kIn J h1 e (fun z => nomatch z) fun tk => ⟨.bl b, H, I.kept (t' := tk) fun _ _ z => z, rfl, q⟩
/-- the slot that holds the error -/
theorem err_slot {Bn : Addr → Prop} {Ow : List Addr} {H : Hp} {σ : L2.St} {Γ : Ct} {c : Nat} {ks : List Str} {ds : List D} (rs : RS (gE g c0 a dd) Bn Ow H σ Γ) (h : Γ.getD i none = some (.err c ks ds, false)) :
    c = c0 ∧ σ[i]? = some (some (.ref a)) ∧ ∃ vs, ks.length = vs.length ∧ H dd = some (.xd (ks.zip vs).reverse) ∧ Reps (gE g c0 a dd) (Av Bn Ow) H ds vs := by
  have h' : Γ[i]? = some (some (.err c ks ds, false)) := by
    rw [List.getD_eq_getElem?_getD] at h
    cases e : Γ[i]? with
    | none => rw [e] at h; simp at h
    | some z => rw [e] at h; simp at h; rw [h]
  obtain ⟨v, e1, r1⟩ := rs.slot i _ h'
  simp only [Rep] at r1
  obtain ⟨e0, a0, vs, q1, rfl, _, l, hd, rp⟩ := r1
  simp only [Option.some.injEq, Prod.mk.injEq] at q1
  obtain ⟨rfl, rfl, rfl⟩ := q1
  exact ⟨rfl, e1, vs, l, hd, rp⟩
theorem p_xis {all cs : List Nat} {cv : Value} {cV : V} (hall : ∀ c ∈ all, ErrC g.K (g.cl c) ∧ PySem.W.kitOne g.K (.ref (g.cl c)) cv = some (cs.contains c)) (hcv : ClsV cV cv) (hK : X.K = g.K) (hz : Zc (.ref (g.cl c0)) (some dd) oe) (hf : ∃ vs, oe.data = .fields vs)
    (he : PE (X.suite a ((a, oe) :: pn)) (.Name n pe) (tVar i)) (hc : PE (X.suite a ((a, oe) :: pn)) (.Name y p2) (tC cV)) (hg : Gl (X.suite a ((a, oe) :: pn)) "isinstance") (hm : X.mg "isinstance" = none)
    (hst : starEach (.Name n pe :: [.Name y p2]) (X.suite a ((a, oe) :: pn)).env = (false, eval (.Name n pe) (X.suite a ((a, oe) :: pn)).env) :: starEach [.Name y p2] (X.suite a ((a, oe) :: pn)).env) (hpl : (backTo pos (starEach [.Name y p2] (X.suite a ((a, oe) :: pn)).env)).any (·.1) = false) :
    PE (X.suite a ((a, oe) :: pn)) (.Call (.Name "isinstance" p) [.Name n pe, .Name y p2] [] pos) (tR (gE g c0 a dd) fs (.xis all cs i)) := by
  by_cases hm0 : c0 ∈ all
  · obtain ⟨C, hk⟩ := hall c0 hm0
    rw [← hK] at C hk
    refine PE.weak (pe_callB (call_xis C hz hf) hg hm PyProof.Rows.boot_isinstance (pa_cons he (pa_cons hc pa_nil rfl) hst) (by decide) (by decide) hst hpl) ?_
    rintro σ H Q ⟨Bn, Ow, Γ, r, Γ', rs, hev, hQ⟩
    simp only [ev] at hev
    obtain ⟨b, e1, e2⟩ := Option.map_eq_some_iff.mp hev
    simp only [Prod.mk.injEq] at e2
    obtain ⟨rfl, rfl⟩ := e2
    unfold xisD at e1
    split at e1
    · rename_i c ks ds hs
      simp only [Option.ite_none_right_eq_some, Option.some.injEq] at e1
      obtain ⟨hall', rfl⟩ := e1
      obtain ⟨rfl, e3, vs, l, hd, rp⟩ := err_slot rs hs
      exact ⟨.ref a, e3, cV, cv, _, _, rfl, hcv, hd, hk, hQ _ H Ow (.refl _ _) rs (by simp only [Val, Rep])⟩
    · cases e1
  · refine PE.weak (p_stuck (g := g) (fs := fs)) ?_
    rintro σ H Q ⟨Bn, Ow, Γ, r, Γ', rs, hev, hQ⟩
    exfalso
    simp only [ev] at hev
    obtain ⟨b, e1, e2⟩ := Option.map_eq_some_iff.mp hev
    unfold xisD at e1
    split at e1
    · rename_i c ks ds hs
      simp only [Option.ite_none_right_eq_some, Option.some.injEq] at e1
      obtain ⟨rfl, _⟩ := err_slot rs hs
      exact hm0 (by simpa using e1.1)
    · cases e1
end
end DV

namespace DV
open PySem L2
variable {Wx : L2.XK}
/-! ### data without an error inside -/
mutual
def noE : D → Bool
  | .err _ _ _ => false
  | .lst ds => noEs ds
  | .tup ds => noEs ds
  | .obj _ _ ds => noEs ds
  | .dic _ ds => noEs ds
  | .exc _ _ ds => noEs ds
  | _ => true
def noEs : List D → Bool
  | [] => true
  | d :: ds => noE d && noEs ds
end
section
variable {g : Gx} {A : Addr → Prop} {H : Hp} {c : Nat} {e dd : Addr}
mutual
theorem rep_up (h0 : g.ea = none) : ∀ (d : D) (v : V), Rep g A H d v → Rep (gE g c e dd) A H d v
  | .non, _, h => by simpa [Rep] using h
  | .bl _, _, h => by simpa [Rep] using h
  | .int _, _, h => by simpa [Rep] using h
  | .str _, _, h => by simpa [Rep] using h
  | .scr _, _, h => by simpa [Rep] using h
  | .dct, _, h => by simpa [Rep] using h
  | .lst ds, v, h => by
    simp only [Rep] at h ⊢
    obtain ⟨a, vs, q, n, s, r⟩ := h
    exact ⟨a, vs, q, n, s, reps_up h0 ds vs r⟩
  | .tup ds, v, h => by
    simp only [Rep] at h ⊢
    obtain ⟨a, vs, q, n, s, r⟩ := h
    exact ⟨a, vs, q, n, s, reps_up h0 ds vs r⟩
  | .obj _ ks ds, v, h => by
    simp only [Rep] at h ⊢
    obtain ⟨a, dx, vs, q, n, l, s, r⟩ := h
    exact ⟨a, dx, vs, q, n, l, s, reps_up h0 ds vs r⟩
  | .dic ks ds, v, h => by
    simp only [Rep] at h ⊢
    obtain ⟨a, vs, q, n, l, s, r⟩ := h
    exact ⟨a, vs, q, n, l, s, reps_up h0 ds vs r⟩
  | .exc _ ks ds, v, h => by
    simp only [Rep] at h ⊢
    obtain ⟨a, vs, q, n, l, s, r⟩ := h
    exact ⟨a, vs, q, n, l, s, reps_up h0 ds vs r⟩
  | .err _ ks ds, v, h => by
    simp only [Rep] at h
    obtain ⟨_, _, _, q, _⟩ := h
    rw [h0] at q; cases q
theorem reps_up (h0 : g.ea = none) : ∀ (ds : List D) (vs : List V), Reps g A H ds vs → Reps (gE g c e dd) A H ds vs
  | [], _, h => by simpa [Reps] using h
  | d :: ds, _, h => by
    simp only [Reps] at h ⊢
    obtain ⟨v, r, q, h1, h2⟩ := h
    exact ⟨v, r, q, rep_up h0 d v h1, reps_up h0 ds r h2⟩
end
mutual
theorem rep_dn : ∀ (d : D) (v : V), noE d = true → Rep (gE g c e dd) A H d v → Rep g A H d v
  | .non, _, _, h => by simpa [Rep] using h
  | .bl _, _, _, h => by simpa [Rep] using h
  | .int _, _, _, h => by simpa [Rep] using h
  | .str _, _, _, h => by simpa [Rep] using h
  | .scr _, _, _, h => by simpa [Rep] using h
  | .dct, _, _, h => by simpa [Rep] using h
  | .lst ds, v, k, h => by
    simp only [Rep] at h ⊢
    simp only [noE] at k
    obtain ⟨a, vs, q, n, s, r⟩ := h
    exact ⟨a, vs, q, n, s, reps_dn ds vs k r⟩
  | .tup ds, v, k, h => by
    simp only [Rep] at h ⊢
    simp only [noE] at k
    obtain ⟨a, vs, q, n, s, r⟩ := h
    exact ⟨a, vs, q, n, s, reps_dn ds vs k r⟩
  | .obj _ ks ds, v, k, h => by
    simp only [Rep] at h ⊢
    simp only [noE] at k
    obtain ⟨a, dx, vs, q, n, l, s, r⟩ := h
    exact ⟨a, dx, vs, q, n, l, s, reps_dn ds vs k r⟩
  | .dic ks ds, v, k, h => by
    simp only [Rep] at h ⊢
    simp only [noE] at k
    obtain ⟨a, vs, q, n, l, s, r⟩ := h
    exact ⟨a, vs, q, n, l, s, reps_dn ds vs k r⟩
  | .exc _ ks ds, v, k, h => by
    simp only [Rep] at h ⊢
    simp only [noE] at k
    obtain ⟨a, vs, q, n, l, s, r⟩ := h
    exact ⟨a, vs, q, n, l, s, reps_dn ds vs k r⟩
  | .err _ ks ds, v, k, h => by simp [noE] at k
theorem reps_dn : ∀ (ds : List D) (vs : List V), noEs ds = true → Reps (gE g c e dd) A H ds vs → Reps g A H ds vs
  | [], _, _, h => by simpa [Reps] using h
  | d :: ds, _, k, h => by
    simp only [Reps] at h ⊢
    simp only [noEs, Bool.and_eq_true] at k
    obtain ⟨v, r, q, h1, h2⟩ := h
    exact ⟨v, r, q, rep_dn d v k.1 h1, reps_dn ds r k.2 h2⟩
end
end
/-- plain slots without an error inside -/
def plainG (Γ : Ct) : Bool := Γ.all fun s => match s with
  | some (d, false) => noE d
  | some (_, true) => false
  | none => true
section
variable {g : Gx} {Bn : Addr → Prop} {Ow O : List Addr} {H H' : Hp} {σ σs : L2.St} {Γ Γs Γ' : Ct} {c : Nat} {e dd : Addr}
theorem plainG_at {i : Nat} {d : D} {b : Bool} (h : plainG Γ = true) (q : Γ[i]? = some (some (d, b))) : b = false ∧ noE d = true := by
  have := List.all_eq_true.mp h _ (List.mem_of_getElem? q)
  cases b with
  | false => exact ⟨rfl, this⟩
  | true => cases this
/-- plain slots alone -/
theorem RS.plain {σ1 : L2.St} {Γ1 : Ct} (rs : RS g Bn Ow H σ Γ) (hl : σ1.length = Γ1.length) (hp : plainG Γ1 = true) (hs : ∀ (i : Nat) d, Γ1[i]? = some (some (d, false)) → ∃ v, σ1[i]? = some (some v) ∧ Rep g (Av Bn Ow) H d v) : RS g (Av Bn Ow) [] H σ1 Γ1 := by
  have av : ∀ a, Av (Av Bn Ow) [] a → Av Bn Ow a := fun a z => z.elim id fun z => nomatch z
  refine ⟨hl, fun i d h => ?_, fun i d h => ?_, fun i j d f a h => ?_, fun a h => rs.trl a (av a h), fun a _ => by simp, fun a h => rs.kf a (av a h), rs.tabs⟩
  · obtain ⟨v, q, r⟩ := hs i d h
    exact ⟨v, q, rep_less av r⟩
  · exact absurd (plainG_at hp h).1 Bool.noConfusion
  · exact absurd (plainG_at hp h).1 Bool.noConfusion
theorem nones_plain (k : Nat) : plainG (List.replicate k none) = true := by
  simp only [plainG, List.all_eq_true]
  intro x hx
  rw [List.eq_of_mem_replicate hx]
theorem RS.frame {k : Nat} (rs : RS g Bn Ow H σ Γ) (hl : σs.length = k) : RS g (Av Bn Ow) [] H σs (List.replicate k none) :=
  rs.plain (by rw [List.length_replicate]; exact hl) (nones_plain k) fun i d h => by
    rw [List.getElem?_replicate] at h
    split at h <;> cases h
/-- a frame behind what another one did that could not touch it -/
theorem RS.over (r0 : RS g Bn Ow H σ Γ) (s : Stp [] H O H') (t : Tb g.T H') : RS g Bn Ow H' σ Γ := by
  have kp : ∀ a, Vst g (Av Bn Ow) H a → (∀ o, H a = some o → nT o → H' a = some o) ∧ ¬ Av Bn Ow a := fun a z => ⟨fun o h q => s.keep0 a o h q (by simp), z.1⟩
  refine ⟨r0.len, fun i d h => ?_, fun i d h => ?_, r0.dist, fun a h => ?_, r0.sep, r0.kf, t⟩
  · obtain ⟨v, q, r⟩ := r0.slot i d h
    exact ⟨v, q, rep_mono kp _ _ r⟩
  · obtain ⟨a, q, m, r⟩ := r0.own i d h
    refine ⟨a, q, m, ?_⟩
    cases d with
    | lst ds => obtain ⟨ws, z1, z2⟩ := r; exact ⟨ws, s.keep0 a _ z1 nofun (by simp), reps_mono kp _ _ z2⟩
    | obj c ks ds => obtain ⟨dx, ws, l, z1, z2⟩ := r; exact ⟨dx, ws, l, s.keep0 a _ z1 nofun (by simp), reps_mono kp _ _ z2⟩
    | _ => exact r
  · rcases r0.trl a h with ⟨vs, q⟩ | ⟨C, dx, fl, q⟩
    · exact .inl ⟨vs, s.keep0 a _ q nofun (by simp)⟩
    · exact .inr ⟨C, dx, fl, s.keep0 a _ q nofun (by simp)⟩
theorem Stp.any (s : Stp [] H O H') : Stp Ow H Ow H' := ⟨fun a o h t _ => s.keep0 a o h t (by simp), fun _ h => .inl h⟩
theorem RS.up (h0 : g.ea = none) (rs : RS g Bn Ow H σ Γ) : RS (gE g c e dd) Bn Ow H σ Γ := by
  refine ⟨rs.len, fun i d h => ?_, fun i d h => ?_, rs.dist, rs.trl, rs.sep, rs.kf, rs.tabs⟩
  · obtain ⟨v, q, r⟩ := rs.slot i d h
    exact ⟨v, q, rep_up h0 _ _ r⟩
  · obtain ⟨a, q, m, r⟩ := rs.own i d h
    refine ⟨a, q, m, ?_⟩
    cases d with
    | lst ds => obtain ⟨ws, z1, z2⟩ := r; exact ⟨ws, z1, reps_up h0 _ _ z2⟩
    | obj c ks ds => obtain ⟨dx, ws, l, z1, z2⟩ := r; exact ⟨dx, ws, l, z1, reps_up h0 _ _ z2⟩
    | _ => exact r
theorem Vst.eq {a : Addr} {A : Addr → Prop} (h : Vst (gE g c e dd) A H a) : Vst g A H a := h
/-- tables alone: a lambda was made -/
theorem RS.ext (r0 : RS g Bn Ow H σ Γ) (k : LamX.ExtN H H') (t : Tb g.T H') : Stp Ow H Ow H' ∧ RS g Bn Ow H' σ Γ := by
  have s : Stp [] H [] H' := ⟨fun a o h n _ => k a o h n, fun _ h => .inl h⟩
  exact ⟨s.any, r0.over s t⟩
end
end DV

namespace DV
open PySem L2
/-! ### a def that calls what it got, and tells of the error: told(lambda: e) -/
def nxP : Option Out → Option Ct
  | some (.nx Γ) => if plainG Γ then some Γ else none
  | _ => none
def retD : Option Out → Option D
  | some (.rt r Γ) => (fre Γ r).map fun p => p.1
  | _ => none
/-- what it tells if nothing is raised: the statements ahead of the try, behind the call, behind the try -/
def saidN (fs : List FS) (n : Nat) (i2 : S) (im : List S) (iq : S) : Option D :=
  (nxP (ex fs [0] i2 (List.replicate n none))).bind fun Γ2 => (nxP (exs fs [] im Γ2)).bind fun Γ3 => retD (ex fs [] iq Γ3)
/-- what it tells of an error: the suite, where slot ie holds the error, and what stands behind -/
def saidX (fs : List FS) (n ie : Nat) (all : List Nat) (is : List S) (iq : S) (c : Nat) (ks : List Str) (ds : List D) : Option D :=
  if all.contains c then match exs fs [] is ((List.replicate n none).set ie (some (.err c ks ds, false))) with
    | some (.nx Γ) => if plainG (Γ.set ie none) then retD (ex fs [] iq (Γ.set ie none)) else none
    | _ => none
  else none
theorem nxP_some {o : Option Out} {Γ : Ct} (h : nxP o = some Γ) : o = some (.nx Γ) ∧ plainG Γ = true := by
  unfold nxP at h
  split at h
  · simp only [Option.ite_none_right_eq_some, Option.some.injEq] at h
    obtain ⟨h1, rfl⟩ := h
    exact ⟨rfl, h1⟩
  · cases h
theorem retD_some {o : Option Out} {d : D} (h : retD o = some d) : ∃ r Γ Γ', o = some (.rt r Γ) ∧ fre Γ r = some (d, Γ') := by
  unfold retD at h
  split at h
  · rename_i r Γ
    obtain ⟨⟨d', Γ'⟩, h1, rfl⟩ := Option.map_eq_some_iff.mp h
    exact ⟨r, Γ, Γ', rfl, h1⟩
  · cases h
abbrev WF : L2.XK := fun _ _ _ => False
section
variable {g : Gx} {fs0 : List FS} {B : Addr → Prop} {H : Hp} {σ : L2.St} {Γ : Ct}
/-- the return behind the try -/
theorem said_ret {n : Nat} {iq : S} {d : D} {D' : Ends} (rs : RS g B [] H σ Γ) (hl : σ.length = n) (hr : retD (ex fs0 [] iq Γ) = some d)
    (hQ : ∀ v H4 O4, Stp [] H O4 H4 → Tb g.T H4 → Rep g B H4 d v → D'.rt v H4) : tSeq (tSt g WF fs0 iq) tNext D' σ H := by
  obtain ⟨r, Γ5, Γ6, e1, e2⟩ := retD_some hr
  refine ⟨(n, []), B, [], Γ, .rt r Γ5, rs, ⟨hl, nofun⟩, e1, fun v σ' H' O' st r1 _ vl => ?_⟩
  obtain ⟨O6, s6, r6, p6⟩ := fre_ok r1 vl e2
  exact hQ v H' O6 (st.trans s6) r6.tabs (rep_less (fun a z => .inl z) p6)
theorem plain_step {Bn : Addr → Prop} {Ow O : List Addr} {H2 : Hp} {σ0 σ1 : L2.St} {Γ0 Γ1 : Ct} (r1 : RS g B O H σ1 Γ1) (hp : plainG Γ1 = true) (sub : ∀ a, Av Bn Ow a → B a) {Ow2 : List Addr} (s : Stp Ow H Ow2 H2) (r2 : RS g Bn Ow2 H2 σ0 Γ0) : RS g (Av Bn Ow2) [] H2 σ1 Γ1 :=
  r2.plain r1.len hp fun i d h => by
    obtain ⟨v, e, r⟩ := r1.slot i d h
    exact ⟨v, e, Rep.step (rep_less (fun a z => .inl (sub a z)) r) s r2⟩
theorem err_frame {Bn : Addr → Prop} {Ow : List Addr} {c ie n : Nat} {a dd : Addr} {ks : List Str} {ds : List D} {σ0 σ1 : L2.St} {Γ0 : Ct} (h0 : g.ea = none) (rs : RS g Bn Ow H σ0 Γ0) (hl : σ1.length = n) (hi : ie < n) (r : Rep g (Av Bn Ow) H (.exc c ks ds) (.ref dd)) :
    RS (gE g c a dd) (Av Bn Ow) [] H (σ1.set ie (some (.ref a))) ((List.replicate n none).set ie (some (.err c ks ds, false))) := by
  have av : ∀ x, Av (Av Bn Ow) [] x → Av Bn Ow x := fun x z => z.elim id fun z => nomatch z
  have at_ : ∀ (i : Nat) (p : D × Bool), ((List.replicate n (none : Sl)).set ie (some (.err c ks ds, false)))[i]? = some (some p) → i = ie ∧ p = (.err c ks ds, false) := fun i p h => by
    by_cases e : ie = i
    · subst e
      rw [List.getElem?_set_self (by rw [List.length_replicate]; exact hi)] at h
      cases h; exact ⟨rfl, rfl⟩
    · rw [List.getElem?_set_ne e, List.getElem?_replicate] at h
      split at h <;> cases h
  refine ⟨by rw [List.length_set, List.length_set, List.length_replicate]; exact hl, fun i d h => ?_, fun i d h => ?_, fun i j d f x h => ?_, fun x h => rs.trl x (av x h), fun x _ => by simp, fun x h => rs.kf x (av x h), rs.tabs⟩
  · obtain ⟨rfl, q⟩ := at_ i _ h
    cases q
    refine ⟨.ref a, List.getElem?_set_self (by rw [hl]; exact hi), ?_⟩
    simp only [Rep] at r ⊢
    obtain ⟨x, vs, q1, n1, l, hx, rp⟩ := r
    cases q1
    exact ⟨a, dd, vs, rfl, rfl, fun z => n1 (av _ z), l, hx, reps_less av (reps_up h0 _ _ rp)⟩
  · obtain ⟨_, q⟩ := at_ i _ h; cases q
  · obtain ⟨_, q⟩ := at_ i _ h; cases q
end
/-- the promise of such a def, by what its lambda does -/
def TTs (g : Gx) (fs0 : List FS) (d0 : D) (sd : Nat → List Str → List D → Option D) : (L2.XK → Hp → VK → Prop) → Hp → VK → Prop := fun tl H Q =>
  ∃ Bn Ow σ0 Γ0 r Γ1 d, RS g Bn Ow H σ0 Γ0 ∧ saidD d0 sd r = some d ∧
    (∀ (E' : L2.XK) (Q' : VK) (H' : Hp), RS g Bn Ow H' σ0 Γ0 → (∀ v H2 O2, Stp Ow H' O2 H2 → RS g Bn O2 H2 σ0 Γ1 → Val g Bn O2 H2 σ0 Γ1 r v → xcQ g E' Q' r v H2) → tl E' H' Q') ∧
    ∀ v H' Ow', Stp Ow H Ow' H' → RS g Bn Ow' H' σ0 Γ1 → Rep g (Av Bn Ow') H' d v → Q v H'
section
variable {X : Cx} {g : Gx} {fs0 : List FS} {Ng : List Str} {x a be n q : Str} {sg : Scope} {g0 BE : Addr} {cdg : Value} {p2 q1 b0 : Stmt} {mid suite : List Stmt} {pa pb pc np pos' pos : Pos} {i2 iq : S} {im isu : List S} {ie nn : Nat} {all : List Nat} {d0 : D}
theorem takesLen {Y : Cx} {W : WX} (tk : Takes Y W) : Takes Y (fun cls d σ H => σ.length = Y.N.length → W cls d σ H) := fun u s' ⟨a, B, sI, pins, σ, H, cls, d, e, I, nb, up, sky, na, os, ag, w⟩ =>
  tk u s' ⟨a, B, sI, pins, σ, H, cls, d, e, I, nb, up, sky, na, os, ag, w I.len⟩
abbrev cxS (X : Cx) (Ng : List Str) (x : Str) (sg : Scope) (g0 : Addr) (cdg : Value) (s : Shared) (H : Hp) : Cx := (cxOf C8.CX0 X.prog X.w X.K X.mg X.base Ng x sg g0 cdg X.A X.stack s H C8.E0)
theorem said_gives (h0 : g.ea = none) (hnn : Ng.length = nn) (hNd : Ng.Nodup) (hie : Ng[ie]? = some n) (hie0 : ie < nn) (hln : sg.names.lookup n = some .local) (hbe : sg.names.lookup be = some .globalImplicit) (hmb : X.mg be = some (.ref BE)) (hdb : (be == ("__debug__" : Str)) = false)
    (hsub : ∀ c ∈ all, PySem.W.exmOne X.K (.ref (g.cl c)) (.ref BE) = some true)
    (hp2 : ∀ s H, PS (cxS X Ng x sg g0 cdg s H).nox p2 (tSt g WF fs0 i2)) (hq1 : ∀ s H, PS (cxS X Ng x sg g0 cdg s H).nox q1 (tSt g WF fs0 iq))
    (hmid : ∀ s H pn xe, PSs ((cxS X Ng x sg g0 cdg s H).nox.tr pn xe) mid (tSs g WF fs0 im))
    (hsu : ∀ s H (e : Addr) (oe : Obj) (pn : List (Addr × Obj)) (c : Nat) (dd : Addr), Zc (.ref (g.cl c)) (some dd) oe → (∃ vs, oe.data = .fields vs) → PSs ((cxS X Ng x sg g0 cdg s H).nox.suite e ((e, oe) :: pn)) (b0 :: suite) (tSs (gE g c e dd) WF fs0 isu))
    (hN : saidN fs0 nn i2 im iq = some d0) (hsw : ∀ s H, swapsWith (.Call (.Name a pa) [] [] pb) none pc.line (cxS X Ng x sg g0 cdg s H).nox.env = pure false) :
    LamX.GivesTo X Ng x sg g0 cdg [p2, .Try (.Expr (.Call (.Name a pa) [] [] pb) pc :: mid) [.ExceptHandler (some (.Name be np)) (some n) (b0 :: suite) pos'] [] [] pos, q1] a q (TTs g fs0 d0 (saidX fs0 nn ie all isu iq)) := by
  intro f c' s H Q tl act hco hTT
  obtain ⟨Bn, Ow, σ0, Γ0, r, Γ1, d, rs0, hd, hdeed, hfin⟩ := hTT
  let Z := (cxS X Ng x sg g0 cdg s H).nox
  obtain ⟨Γb, n2, hN⟩ := Option.bind_eq_some_iff.mp hN
  obtain ⟨Γc, n3, hN⟩ := Option.bind_eq_some_iff.mp hN
  obtain ⟨e2, pl2⟩ := nxP_some n2
  obtain ⟨e3, pl3⟩ := nxP_some n3
  let ts : Addr → Value → Option Addr → TS := fun e cls d Dn σ H => ∃ c dd, cls = .ref (g.cl c) ∧ d = some dd ∧ tSs (gE g c e dd) WF fs0 isu Dn σ H
  let tb : WX → TS := fun W D σ H => ∃ Ech : L2.XK, (∀ cls d σ' H', σ'.length = nn → Ech cls d H' → W cls d σ' H') ∧ σ[0]? = some (some (.ref f)) ∧ H c' = some (LamX.CodeO c' q) ∧ tl Ech H (fun v H' => tSs g WF fs0 im D σ H')
  have hnm : Names Z be (.ref BE) := ⟨hbe, hdb, .inl hmb⟩
  have body : ∀ (W : WX) (pn : List (Addr × Obj)) (xe : Value → Shared → Prop), Takes (Z.tr pn xe) W → PassesOwn (model Z.prog Z.w) Z.A Z.env xe → PSs (Z.tr pn xe) (.Expr (.Call (.Name a pa) [] [] pb) pc :: mid) (tb W) := fun W pn xe tk _ => ⟨fun pins s' σ H' D I h' => by
    obtain ⟨Ech, hW, h1, h2, h3⟩ := h'
    have tk' : Takes (Z.tr pn xe) (fun cls d σ H => σ.length = nn → W cls d σ H) := by
      have z := takesLen tk
      have e : (Z.tr pn xe).N.length = nn := hnn
      rw [e] at z
      exact z
    have hp := act (fun cls d σ H => σ.length = nn → W cls d σ H) pn xe Ech pa pb tk' (fun cls d σ' H' hE hl => hW cls d σ' H' hl hE)
    exact (pss_cons (ps_expr hp (hsw s H)) (hmid s H pn xe)).run pins s' σ H' D I ⟨h1, h2, h3⟩⟩
  have suit : ∀ (e : Addr) (oe : Obj) (cls : Value) (d : Option Addr) (pn : List (Addr × Obj)), Zc cls d oe → (∃ vs, oe.data = .fields vs) → PSs (Z.suite e ((e, oe) :: pn)) (b0 :: suite) (ts e cls d) := fun e oe cls d pn hz hf => ⟨fun pins s' σ H' D I h' => by
    obtain ⟨c, dd, rfl, rfl, h⟩ := h'
    exact (hsu s H e oe pn c dd hz hf).run pins s' σ H' D I h⟩
  refine ⟨_, pss_cons (hp2 s H) (pss_cons (ps_try_as (X := Z) (c := .ref BE) (i := ie) (ts := ts) (tb := tb) rfl rfl hNd hie hln hnm LamX.takes0 body suit) (pss_cons (hq1 s H) pss_nil)), ?_⟩
  have hst : (L2.start Ng [V.ref f]).length = nn := by
    rw [← hnn]
    show (([V.ref f].map some) ++ List.replicate (Ng.length - [V.ref f].length) none).length = Ng.length
    have hpos : 0 < Ng.length := by omega
    simp
    omega
  have h00 : (L2.start Ng [V.ref f])[0]? = some (some (.ref f)) := rfl
  have f0 := rs0.frame hst
  -- the statements ahead of the try keep slot 0
  refine ⟨(nn, [(0, .ref f)]), Av Bn Ow, [], _, .nx Γb, f0, ⟨hst, fun p hp => by cases List.mem_singleton.mp hp; exact h00⟩, e2, fun σ2 H2 O2 st2 r2 q2' => ?_⟩
  have rsb : RS g Bn Ow H2 σ0 Γ0 := rs0.over st2 r2.tabs
  let EE : L2.XK := fun cls d H' => ∃ c ks ds dd Ow', r = .fz (.exc c ks ds) ∧ cls = .ref (g.cl c) ∧ d = some dd ∧ Stp Ow H2 Ow' H' ∧ RS g Bn Ow' H' σ0 Γ1 ∧ Rep g (Av Bn Ow') H' (.exc c ks ds) (.ref dd)
  -- the end, with what is told
  have fin : ∀ {Ow' : List Addr} {H3 : Hp} {B3 : Addr → Prop} {σ3 : L2.St} {Γ3 : Ct}, Stp Ow H Ow' H3 → RS g Bn Ow' H3 σ0 Γ1 → (∀ a, Av Bn Ow' a → B3 a) → RS g B3 [] H3 σ3 Γ3 → σ3.length = nn → retD (ex fs0 [] iq Γ3) = some d →
      tSeq (tSt g WF fs0 iq) tNext { nx := fun _ H' => Q .non H', rt := Q } σ3 H3 := fun st rsx sub rs3 hl hr =>
    said_ret rs3 hl hr fun v H4 O4 s4 t4 rp => hfin v H4 _ (st.trans s4.any) (rsx.over s4 t4) (rep_less sub rp)
  refine ⟨EE, ?_, q2'.2 _ (List.mem_singleton.mpr rfl), st2.keep0 _ _ hco LamX.codeO_ne (by simp), hdeed EE _ H2 rsb fun v H3 O3 s3 r3 vl => ?_⟩
  · rintro cls dx σ' H' hl ⟨c, ks, ds, dd, Ow', er, rfl, rfl, st', rs', rp⟩
    subst er
    simp only [saidD, saidX, Option.ite_none_right_eq_some] at hd
    obtain ⟨hall, hd⟩ := hd
    refine ⟨true, hsub c (by simpa using hall), fun _ e na => ?_, nofun⟩
    split at hd
    · rename_i Γ3 e4
      simp only [Option.ite_none_right_eq_some] at hd
      obtain ⟨pl4, hd⟩ := hd
      refine ⟨c, dd, rfl, rfl, (nn, []), Av Bn Ow', [], _, .nx Γ3, err_frame h0 rs' hl hie0 rp, ⟨by rw [List.length_set]; exact hl, nofun⟩, e4, fun σ3 H3 O3 s3 r3 q3 => ?_⟩
      have hl3 : (σ3.set ie none).length = nn := by rw [List.length_set]; exact q3.1
      refine fin (B3 := Av (Av Bn Ow') O3) (((st2.any).trans st').trans s3.any) (rs'.over s3 r3.tabs) (fun a z => .inl z) ?_ hl3 hd
      -- the frame behind the suite
      have up : ∀ (i : Nat) dt, (Γ3.set ie none)[i]? = some (some (dt, false)) → i ≠ ie ∧ Γ3[i]? = some (some (dt, false)) := fun i dt h => by
        by_cases e : ie = i
        · subst e
          by_cases hlt : ie < Γ3.length
          · rw [List.getElem?_set_self hlt] at h; cases h
          · rw [List.getElem?_eq_none (by rw [List.length_set]; omega)] at h; cases h
        · rw [List.getElem?_set_ne e] at h
          exact ⟨fun z => e z.symm, h⟩
      refine ⟨by rw [List.length_set, List.length_set]; exact r3.len, fun i dt h => ?_, fun i dt h => ?_, fun i j dt f x h => ?_, fun x h => r3.trl x (h.elim id fun z => nomatch z), fun x _ => by simp, fun x h => r3.kf x (h.elim id fun z => nomatch z), r3.tabs⟩
      · obtain ⟨n1, h1⟩ := up i dt h
        obtain ⟨v, q1, q2⟩ := r3.slot i dt h1
        exact ⟨v, by rw [List.getElem?_set_ne (fun z => n1 z.symm)]; exact q1, rep_less (fun x z => z.elim id fun z => nomatch z) (rep_dn _ _ (plainG_at pl4 h).2 q2)⟩
      · exact absurd (plainG_at pl4 h).1 Bool.noConfusion
      · exact absurd (plainG_at pl4 h).1 Bool.noConfusion
    · cases hd
  · by_cases hx : isXc r = true
    · obtain ⟨c, ks, ds, rfl⟩ : ∃ c ks ds, r = .fz (.exc c ks ds) := by
        cases r with
        | fz z => cases z <;> first | exact ⟨_, _, _, rfl⟩ | (simp [isXc] at hx)
        | nw z => simp [isXc] at hx
        | sl z => simp [isXc] at hx
      intro dd hv
      subst hv
      exact ⟨c, ks, ds, dd, O3, rfl, rfl, rfl, s3, r3, vl⟩
    · have hx' : isXc r = false := by simpa using hx
      rw [xcQ_no hx']
      have ed : d = d0 := by
        cases r with
        | fz z => cases z <;> first | (simp only [saidD, Option.some.injEq] at hd; exact hd.symm) | (simp [isXc] at hx')
        | nw z => simp only [saidD, Option.some.injEq] at hd; exact hd.symm
        | sl z => simp only [saidD, Option.some.injEq] at hd; exact hd.symm
      subst ed
      have r4 : RS g (Av Bn O3) [] H3 σ2 Γb := plain_step r2 pl2 (fun a z => z) s3 r3
      refine ⟨(nn, []), Av Bn O3, [], Γb, .nx Γc, r4, ⟨q2'.1, nofun⟩, e3, fun σ4 H4 O4 s4 r5 q4 => ?_⟩
      refine fin (B3 := Av (Av Bn O3) O4) (((st2.any).trans s3).trans s4.any) (r3.over s4 r5.tabs) (fun a z => .inl z) ?_ q4.1 hN
      exact r5.plain r5.len pl3 fun i dt h => r5.slot i dt h
end
end DV

namespace DV
open PySem L2
/-! ### told(lambda: e), in the frame that asks -/
section
variable {X : Cx} {g : Gx} {fs fs0 : List FS} {d0 : D} {sd : Nat → List Str → List D → Option D} {ie : E} {x a : Str} {g0 c P : Addr} {k : Nat} {pg : Arguments} {bg : List Stmt} {sg : Scope} {dV kV doc pm cdv ct oc : Value} {an od : Option Addr} {osl : Array (Option Value)} {Ng : List Str}
  {params : Arguments} {body : Expr} {scope : Scope} {p lpos pos : Pos}
theorem p_said (C : Cok g X) (hg : Gl X x) (hm : X.mg x = some (.ref g0)) (hk : PySem.W.keepIn X.K (.ref g0) = true)
    (lk : X.K.lookup g0 = some ⟨oc, od, .func (PySem.W.fnOf x x pg bg sg dV kV doc pm an cdv ct), osl⟩) (hcg : PySem.W.codeIn X.K cdv x = true) (hb : L2.Binds X.K (PySem.W.fnOf x x pg bg sg dV kV doc pm an cdv ct) [a] []) (Sg : FnScope Ng [a] sg) (hNg : Ng[0]? = some a) (hva : Vis sg a)
    (hG : LamX.GivesTo X Ng x sg g0 cdv bg a (X.env.qual ++ "<lambda>") (TTs g fs0 d0 sd))
    (TB : LamX.TabB X.base X.mg c P) (hcode : X.env.code = .ref c) (hmT : (P, X.env.qual ++ "<lambda>") ∈ g.T) (hu : ∀ q ∈ g.T, q.1 = P → q.2 = X.env.qual ++ "<lambda>") (hr : Room (k + 2) X.A) (L : LamX.LamS X.env.scope scope) (hdef : defaultsOf params X.env = ([], []))
    (hbind : ∀ (q : Str) (cl : List (Str × Addr)) (pm cv ctv : Value), bindArgs (PySem.W.kla_fn "<lambda>" q params body scope cl pm cv ctv) ⟨[], []⟩ = pure [])
    (hbody : ∀ (A : Around) (outer : List Env) (s : Shared) (H : Hp) (E : L2.XK) (f c' : Addr), Room k (LamX.lamCx X A outer s H E scope f c').A → Cok g (LamX.lamCx X A outer s H E scope f c') → Tk (LamX.lamCx X A outer s H E scope f c') E → PE (LamX.lamCx X A outer s H E scope f c') body (tRX g E fs ie))
    (hdb : (x == ("__debug__" : Str)) = false) (hd : (a == ("__debug__" : Str)) = false) (hcd : (a == ("__classdict__" : Str)) = false) :
    PE X (.Call (.Name x p) [.Lambda params body scope lpos] [] pos) (tR g fs (.said d0 sd ie)) := by
  refine PE.weak (LamX.pe_lamcall (T := g.T) (TT := TTs g fs0 d0 sd) (t := fun E => tRX g E fs ie) hg hm hk lk hcg hb Sg hNg hva hG TB hcode hmT hu hr L hdef hbind
    (fun A outer s H E f c' hr' => hbody A outer s H E f c' hr' ⟨C.K, rfl, hr'.units, C.nd, C.ea⟩ (takes_of rfl rfl rfl rfl)) hdb hd hcd) ?_
  rintro σ H Q ⟨Bn, Ow, Γ, r, Γ', rs, he, hQ⟩
  simp only [ev] at he
  obtain ⟨⟨x1, Γ1⟩, e1, he⟩ := Option.bind_eq_some_iff.mp he
  obtain ⟨d, e2, he⟩ := Option.map_eq_some_iff.mp he
  simp only [Prod.mk.injEq] at he
  obtain ⟨rfl, rfl⟩ := he
  refine ⟨rs.tabs, fun H1 kx t => ?_⟩
  obtain ⟨st, rs1⟩ := rs.ext kx t
  exact ⟨Bn, Ow, σ, Γ, x1, Γ1, d, rs1, e2, fun E' Q' H' rs' cont => ⟨Bn, Ow, Γ, x1, Γ1, rs', e1, cont⟩, fun v H' Ow' s' r' rp => hQ v H' Ow' (st.trans s') r' rp⟩
end
/-! ### a def that makes lambdas: its code object is at c -/
section
variable {P : Program} {w : World} {mg : Str → Option Value} {base : Heap} {g : Gx} {fs : List FS}
theorem def_fnL {x qual : Str} {st : Stmt} {f c : Addr} {oc kV doc pm ct : Value} {od an : Option Addr} {osl : Array (Option Value)} {N ps : List Str} {k np n : Nat} {ir : List S} (lk : g.K.lookup f = some ⟨oc, od, .func (PySem.W.fnOf x qual (defArgs st) (defBody st) (defScope st) .none kV doc pm an (.ref c) ct), osl⟩)
    (hcd : PySem.W.codeIn g.K (.ref c) qual = true) (S : FnScope N ps (defScope st)) (hp : ps.length = np) (hN : N.length = n) (ge : g.ea = none)
    (hbody : ∀ (A : Around) (outer : List Env) (s : Shared) (H : Hp) (E : L2.XK), Room k (cxOf CX0 P w g.K mg base N qual (defScope st) f (.ref c) A outer s H E).nox.A → Cok g (cxOf CX0 P w g.K mg base N qual (defScope st) f (.ref c) A outer s H E).nox →
      PSs (cxOf CX0 P w g.K mg base N qual (defScope st) f (.ref c) A outer s H E).nox (defBody st) (tSs g (fun _ _ _ => False) fs ir)) : FnOk P w g.K mg base CX0 (k + 1) f (PySem.W.fnOf x qual (defArgs st) (defBody st) (defScope st) .none kV doc pm an (.ref c) ct) ps (spF g np (runF fs np n ir)) := by
  refine fn_of lk hcd S (fun vs H Q E h => by rw [h.1, hp]) fun A outer s H vs Q E hr h => ?_
  refine ⟨_, (hbody A outer s H E hr ⟨rfl, rfl, hr.units, S.nd, ge⟩).nox, ?_⟩
  obtain ⟨hl, Bn, Ow, Γ, r, os, rs, ef, nr, hQ⟩ := h
  have hG : Γ.length = np := by rw [← rs.len, List.length_map, hl]
  have hle : np ≤ n := by
    rw [← hN, ← hp]
    have := congrArg List.length S.pre
    rw [List.length_take] at this
    omega
  simp only [runF, hG, if_true] at ef
  obtain ⟨o, e1, e2⟩ := Option.bind_eq_some_iff.mp ef
  have est : L2.start N vs = vs.map some ++ List.replicate (n - np) none := by rw [← hN, ← hl]; rfl
  refine ⟨(n, (ownPs 0 Γ).map fun i => (i, vs.getD i .non)), Bn, Ow, Γ ++ List.replicate (n - np) none, o, ?_, ⟨?_, fun p hp => ?_⟩, ?_, ?_⟩
  · rw [est]; exact rs.start _
  · rw [est, List.length_append, List.length_map, List.length_replicate, hl]; show np + (n - np) = n; omega
  · obtain ⟨i, hi, rfl⟩ := List.mem_map.mp hp
    obtain ⟨j, d, rfl, h⟩ := ownPs_mem.mp hi
    have hj : j < vs.length := by
      have h1 := (List.getElem?_eq_some_iff.mp h).1
      omega
    rw [est]
    show (vs.map some ++ List.replicate (n - np) none)[0 + j]? = some (some (vs.getD (0 + j) .non))
    rw [Nat.zero_add, List.getElem?_append_left (by rw [List.length_map]; exact hj), List.getElem?_map, List.getElem?_eq_getElem hj, List.getD_eq_getElem?_getD, List.getElem?_eq_getElem hj]
    rfl
  · rw [List.map_map]
    show exs fs ((ownPs 0 Γ).map id) ir _ = some o
    rw [List.map_id]
    exact e1
  · rw [← hG] at e2
    exact finish_ok rs (by omega) e2 hQ
end
/-! ### the law behind the top, with tables -/
def spT (K : PySem.W.Frag) (T : List (Addr × Str)) (F : FS) : Sp := fun vs H Q E => vs.length = 1 ∧ Tb T H ∧ ∀ cl, spF ⟨K, cl, T, none⟩ 1 F vs H Q E
theorem spT_of {P : Program} {w : World} {K : PySem.W.Frag} {T : List (Addr × Str)} {mg : Str → Option Value} {base : Heap} {k : Nat} {f : Addr} {fd : FuncData} {ps : List Str} {F : FS} {cl : Nat → Addr} (h : FnOk P w K mg base CX0 k f fd ps (spF ⟨K, cl, T, none⟩ 1 F)) : FnOk P w K mg base CX0 k f fd ps (spT K T F) :=
  ⟨fun vs H Q E q => h.len vs H Q E (q.2.2 cl), fun A outer s H args us vs Q E hr he hb hv hs => h.run A outer s H args us vs Q E hr he hb hv (hs.2.2 cl)⟩
theorem sp_lawT {K : PySem.W.Frag} {T : List (Addr × Str)} {F : FS} {ns : List Int} {a : Addr} {H : Hp} {os : Ct} (hF : F [some (.scr ns, false)] = some (.fz (.bl true), os)) (hS : SqL K H a (ns.map V.int)) (hT : ∀ p ∈ T, H p.1 = some (.tbl #[])) : spT K T F [.ref a] H (fun v _ => v = .bl true) fun _ _ _ => False :=
  have t : Tb T H := fun p hp => LamX.TabS.nil (hT p hp)
  ⟨rfl, t, fun cl => sp_law hF hS t⟩
theorem walkT {l : PySem.W.OpenLaw} {n k : Nat} {q : Program} {lo : List Str} {XP : (Str → Option Value) → Heap → Prop} {YP : World → Heap → Prop} {d : DefRec} {K : Params → PySem.W.Frag} {CX : World → CXT} {x : Str}
    (hn : l.most = some n) (hz : n ≤ sizeLine) (hdf : d.params.defaults = []) (hr : Room k callerA) (hY : ∀ (w : World) (h : Heap), YP w h → (K w.params).In h)
    (F : ∀ (w : World) (mg mb : Str → Option Value) (mean : ExcName → Option Value) (fa : Addr) (h : Heap), PyProof.Rows.Top q (PySem.W.looseW q lo) mean mg mb h → (K w.params).In h → mg d.name = some (.ref fa) → LamX.LawAtS l w (K w.params) (CX w) k n x mg fa h)
    (hCX : ∀ (w : World) (H : Hp) (s : Shared) (e : Value) (z : Shared), CX w [] H s (fun _ _ _ => False) e z → False) :
    PySem.W.WalkO q lo XP YP l.row.toRowW d [] (fun f vs => PySem.call f vs) := by
  refine Att.attach_callB hn hdf fun w z0 z1 mg mb fa o pm cd doc a vs ns G Y ho hd hcd hmg hobj hints hlen hbits hg => ?_
  have hX := hY w _ Y
  have tp := G.T
  obtain ⟨fd, cs, sp, t1, t2, t3, hb, hsp, hF⟩ := F w mg mb _ fa _ tp hX hmg
  refine LamX.law_callTs hX tp.g tp.b tp.builtins tp.nolimit hg t1 t2 t3 tp.bmain hobj hints (Nat.le_trans hlen hz) hr hF hb (fun H hH hS => ?_) fun H e z => hCX w H z1 e z
  exact hsp H a ns hlen hbits hH hS
/-- a def's code object and its empty table, behind the top -/
theorem tab_at {q : Program} {lo : List Str} {mean : ExcName → Option Value} {mg mb : Str → Option Value} {h : Heap} {K : PySem.W.Frag} {x : Str} {c P : Addr} (T : PyProof.Rows.Top q lo mean mg mb h) (X : K.In h) (hr : ((PyProof.Rows.recsOf q).find? fun e => e.name == x).isSome = true) (ht : PySem.W.tabIn K x = some (c, P)) :
    PySem.W.CodeHd h c P ∧ h.get? P = some { cls := .none, data := .fields #[] } := by
  obtain ⟨d, hd⟩ := Option.isSome_iff_exists.mp hr
  exact PySem.W.tab_of T X hd ht
end DV

namespace DV
open PySem L2
variable {Wx : L2.XK}
theorem zip_rev {α β : Type} : ∀ {a : List α} {b : List β}, a.length = b.length → (a.zip b).reverse = a.reverse.zip b.reverse
  | [], b, h => by simp
  | x :: a, [], h => by simp at h
  | x :: a, y :: b, h => by
    have l : a.length = b.length := by simpa using h
    rw [List.zip_cons_cons, List.reverse_cons, List.reverse_cons, List.reverse_cons, zip_rev l, List.zip_append (by simpa using l)]
    rfl
/-- written classes, one behind another -/
def tCs (vs : List V) : TA := fun _ H Q => Q vs H
section
variable {X : Cx} {g : Gx} {fs : List FS} {a dd : Addr} {oe : Obj} {pn : List (Addr × Obj)} {c0 i : Nat} {n y : Str} {p p2 pe pos tp : Pos} {es : List Expr} {kt : Nat} {Y : Cx} {e : Expr} {v : V} {vs : List V}
theorem cs_nil : PA Y [] (tCs []) := pa_nil
theorem cs_cons (h : PE Y e (tC v)) (hr : PA Y es (tCs vs)) (hs : starEach (e :: es) Y.env = (false, eval e Y.env) :: starEach es Y.env) : PA Y (e :: es) (tCs (v :: vs)) := PA.weak (pa_cons h hr hs) fun _ _ _ q => q
theorem p_xit {all cs : List Nat} {us : List Value} (hall : ∀ c ∈ all, ErrC g.K (g.cl c) ∧ PySem.W.kitAny g.K (.ref (g.cl c)) us = some (cs.contains c)) (hcv : Paired ClsV vs us) (hK : X.K = g.K) (hz : Zc (.ref (g.cl c0)) (some dd) oe) (hf : ∃ vs, oe.data = .fields vs)
    (he : PE (X.suite a ((a, oe) :: pn)) (.Name n pe) (tVar i)) (hc : PA (X.suite a ((a, oe) :: pn)) es (tCs vs)) (hlen : vs.length ≤ sizeLine) (hg : Gl (X.suite a ((a, oe) :: pn)) "isinstance") (hm : X.mg "isinstance" = none)
    (hst : starEach (.Name n pe :: [.Tuple es kt tp]) (X.suite a ((a, oe) :: pn)).env = (false, eval (.Name n pe) (X.suite a ((a, oe) :: pn)).env) :: starEach [.Tuple es kt tp] (X.suite a ((a, oe) :: pn)).env) (hpl : (backTo pos (starEach [.Tuple es kt tp] (X.suite a ((a, oe) :: pn)).env)).any (·.1) = false) :
    PE (X.suite a ((a, oe) :: pn)) (.Call (.Name "isinstance" p) [.Name n pe, .Tuple es kt tp] [] pos) (tR (gE g c0 a dd) fs (.xis all cs i)) := by
  by_cases hm0 : c0 ∈ all
  · obtain ⟨C, hk⟩ := hall c0 hm0
    rw [← hK] at C hk
    refine PE.weak (pe_callB (call_xit C hz hf) hg hm PyProof.Rows.boot_isinstance (pa_cons he (pa_cons (pe_tup hc) pa_nil rfl) hst) (by decide) (by decide) hst hpl) ?_
    rintro σ H Q ⟨Bn, Ow, Γ, r, Γ', rs, hev, hQ⟩
    simp only [ev] at hev
    obtain ⟨b, e1, e2⟩ := Option.map_eq_some_iff.mp hev
    simp only [Prod.mk.injEq] at e2
    obtain ⟨rfl, rfl⟩ := e2
    unfold xisD at e1
    split at e1
    · rename_i c ks ds hs
      simp only [Option.ite_none_right_eq_some, Option.some.injEq] at e1
      obtain ⟨hall', rfl⟩ := e1
      obtain ⟨rfl, e3, ws, l, hd, rp⟩ := err_slot rs hs
      refine ⟨.ref a, e3, hlen, fun q hq => ?_⟩
      have sm : Same H (upd H q (.tup vs)) := same_new hq
      exact ⟨q, vs, us, _, _, rfl, upd_same, hcv, sm _ _ hd, hk, hQ _ _ Ow (Stp.same sm) (rs.same sm) (by simp only [Val, Rep])⟩
    · cases e1
  · refine PE.weak (p_stuck (g := g) (fs := fs)) ?_
    rintro σ H Q ⟨Bn, Ow, Γ, r, Γ', rs, hev, hQ⟩
    exfalso
    simp only [ev] at hev
    obtain ⟨b, e1, e2⟩ := Option.map_eq_some_iff.mp hev
    unfold xisD at e1
    split at e1
    · rename_i c ks ds hs
      simp only [Option.ite_none_right_eq_some, Option.some.injEq] at e1
      obtain ⟨rfl, _⟩ := err_slot rs hs
      exact hm0 (by simpa using e1.1)
    · cases e1
theorem p_xfld {all : List Nat} {nm : Str} (hall : ∀ c ∈ all, XfC g.K (g.cl c) ∧ PySem.W.findIn g.K (.ref (g.cl c)) nm = some none) (hK : X.K = g.K) (hz : Zc (.ref (g.cl c0)) (some dd) oe) (hf : ∃ vs, oe.data = .fields vs)
    (he : PE (X.suite a ((a, oe) :: pn)) (.Name n pe) (tVar i)) (hb : attributeBase (.Name n pe) nm (X.suite a ((a, oe) :: pn)).env (eval (.Name n pe) (X.suite a ((a, oe) :: pn)).env) = eval (.Name n pe) (X.suite a ((a, oe) :: pn)).env) :
    PE (X.suite a ((a, oe) :: pn)) (.Attribute (.Name n pe) nm pos) (tR (gE g c0 a dd) fs (.xfld all i nm)) := by
  by_cases hm0 : c0 ∈ all
  · obtain ⟨C, hk⟩ := hall c0 hm0
    rw [← hK] at C hk
    refine PE.weak (pe_xf C hk hz hf he hb) ?_
    rintro σ H Q ⟨Bn, Ow, Γ, r, Γ', rs, hev, hQ⟩
    simp only [ev] at hev
    obtain ⟨d, e1, e2⟩ := Option.map_eq_some_iff.mp hev
    simp only [Prod.mk.injEq] at e2
    obtain ⟨rfl, rfl⟩ := e2
    unfold xfldD at e1
    split at e1
    · rename_i c ks ds hs
      simp only [Option.ite_none_right_eq_some] at e1
      obtain ⟨hall', e4⟩ := e1
      obtain ⟨rfl, e3, ws, l, hd, rp⟩ := err_slot rs hs
      obtain ⟨v, l1, r1⟩ := fldL_ok (by simpa using l) rp.rev e4
      rw [zip_rev l] at hd
      exact ⟨.ref a, e3, rfl, rfl, dd, _, v, rfl, hd, l1, hQ v H Ow (.refl _ _) rs r1⟩
    · cases e1
  · refine PE.weak (p_stuck (g := g) (fs := fs)) ?_
    rintro σ H Q ⟨Bn, Ow, Γ, r, Γ', rs, hev, hQ⟩
    exfalso
    simp only [ev] at hev
    obtain ⟨d, e1, e2⟩ := Option.map_eq_some_iff.mp hev
    unfold xfldD at e1
    split at e1
    · rename_i c ks ds hs
      simp only [Option.ite_none_right_eq_some] at e1
      obtain ⟨rfl, _⟩ := err_slot rs hs
      exact hm0 (by simpa using e1.1)
    · cases e1
end
end DV

namespace DV
open PySem L2
/-- the qualified name of the lambdas of a def -/
abbrev lamQ (qual : Str) : Str := (qual ++ (".<locals>." : Str)) ++ ("<lambda>" : Str)
/-- a def's code object at c has a table, which is told -/
structure LamT (g : Gx) (base : Heap) (mg : Str → Option Value) (c : Addr) (qual : Str) : Prop where
  ex : ∃ P, LamX.TabB base mg c P ∧ (P, lamQ qual) ∈ g.T ∧ ∀ q ∈ g.T, q.1 = P → q.2 = lamQ qual
/-- a def of one parameter that calls it -/
structure Told (g : Gx) (mg : Str → Option Value) (x a : Str) (st : Stmt) : Prop where
  ex : ∃ (g0 : Addr) (oc : Value) (od : Option Addr) (kV doc pm : Value) (an : Option Addr) (cdv ct : Value) (osl : Array (Option Value)), mg x = some (.ref g0) ∧ PySem.W.keepIn g.K (.ref g0) = true ∧
    g.K.lookup g0 = some ⟨oc, od, .func (PySem.W.fnOf x x (defArgs st) (defBody st) (defScope st) .none kV doc pm an cdv ct), osl⟩ ∧ PySem.W.codeIn g.K cdv x = true ∧ L2.Binds g.K (PySem.W.fnOf x x (defArgs st) (defBody st) (defScope st) .none kV doc pm an cdv ct) [a] []
theorem told_of {g : Gx} {mg : Str → Option Value} {x a : Str} {st : Stmt} {g0 : Addr} {oc kV doc pm cdv ct : Value} {od an : Option Addr} {osl : Array (Option Value)} (h1 : mg x = some (.ref g0)) (h2 : PySem.W.keepIn g.K (.ref g0) = true)
    (h3 : g.K.lookup g0 = some ⟨oc, od, .func (PySem.W.fnOf x x (defArgs st) (defBody st) (defScope st) .none kV doc pm an cdv ct), osl⟩) (h4 : PySem.W.codeIn g.K cdv x = true)
    (h5 : ∀ (us : List Value), us.length = [a].length → bindArgs (PySem.W.fnOf x x (defArgs st) (defBody st) (defScope st) .none kV doc pm an cdv ct) ⟨us, []⟩ = pure ([a].zip us)) : Told g mg x a st :=
  ⟨g0, oc, od, kV, doc, pm, an, cdv, ct, osl, h1, h2, h3, h4, .all h5⟩
theorem p_told {X : Cx} {g : Gx} {fs fs0 : List FS} {d0 : D} {sd : Nat → List Str → List D → Option D} {ie : E} {x a qual : Str} {st : Stmt} {c : Addr} {k : Nat} {Ng : List Str} {params : Arguments} {body : Expr} {scope : Scope} {p lpos pos : Pos} (C : Cok g X) (W : Told g X.mg x a st) (LT : LamT g X.base X.mg c qual) (hg : Gl X x)
    (Sg : FnScope Ng [a] (defScope st)) (hNg : Ng[0]? = some a) (hva : Vis (defScope st) a) (hG : ∀ (g0 : Addr) (cdv : Value), LamX.GivesTo X Ng x (defScope st) g0 cdv (defBody st) a (X.env.qual ++ "<lambda>") (TTs g fs0 d0 sd))
    (hcode : X.env.code = .ref c) (hq : X.env.qual ++ ("<lambda>" : Str) = lamQ qual) (hr : Room (k + 2) X.A) (L : LamX.LamS X.env.scope scope) (hdef : defaultsOf params X.env = ([], []))
    (hbind : ∀ (q : Str) (cl : List (Str × Addr)) (pm cv ctv : Value), bindArgs (PySem.W.kla_fn "<lambda>" q params body scope cl pm cv ctv) ⟨[], []⟩ = pure [])
    (hbody : ∀ (A : Around) (outer : List Env) (s : Shared) (H : Hp) (E : L2.XK) (f c' : Addr), Room k (LamX.lamCx X A outer s H E scope f c').A → Cok g (LamX.lamCx X A outer s H E scope f c') → Tk (LamX.lamCx X A outer s H E scope f c') E → PE (LamX.lamCx X A outer s H E scope f c') body (tRX g E fs ie))
    (hdb : (x == ("__debug__" : Str)) = false) (hd : (a == ("__debug__" : Str)) = false) (hcd : (a == ("__classdict__" : Str)) = false) :
    PE X (.Call (.Name x p) [.Lambda params body scope lpos] [] pos) (tR g fs (.said d0 sd ie)) := by
  obtain ⟨g0, oc, od, kV, doc, pm, an, cdv, ct, osl, h1, h2, h3, h4, h5⟩ := W.ex
  obtain ⟨P, TB, m1, m2⟩ := LT.ex
  rw [← C.K] at h2 h3 h4 h5
  exact p_said C hg h1 h2 h3 h4 h5 Sg hNg hva (hG g0 cdv) TB hcode (by rw [hq]; exact m1) (by rw [hq]; exact m2) hr L hdef hbind hbody hdb hd hcd
/-- what the end asks of a law with tables -/
theorem lawAt {l : PySem.W.OpenLaw} {w : World} {K : PySem.W.Frag} {k n : Nat} {x : Str} {mg : Str → Option Value} {fa : Addr} {h : Heap} {cs : List (Addr × Addr)} {T : List (Addr × Str)} {F : FS} (hc : ∀ p ∈ cs, PySem.W.CodeHd h p.1 p.2 ∧ h.get? p.2 = some { cls := .none, data := .fields #[] }) (nP : ∀ p ∈ cs, K.lookup p.2 = none)
    (hT : ∀ q ∈ T, ∃ p ∈ cs, p.2 = q.1) (ht : ∀ ns : List Int, ns.length ≤ n → (∀ z ∈ ns, Builtin.Int.intBits z ≤ 1048576) → ∃ os, F [some (.scr ns, false)] = some (.fz (.bl true), os))
    (A : ∃ fd : FuncData, (∀ (s : Shared) (u : Value), BindsTo s fd ⟨[u], []⟩ [(x, u)]) ∧ ∀ base : Heap, K.In base → base.Ns mainGlobals mg → (∀ p ∈ cs, LamX.TabB base mg p.1 p.2) → FnOk l.prog w K mg base CX0 k fa fd [x] (spT K T F)) : LamX.LawAtS l w K CX0 k n x mg fa h := by
  obtain ⟨fd, hb, hF⟩ := A
  refine ⟨fd, cs, spT K T F, fun p hp => (hc p hp).2, nP, fun p hp => (hc p hp).1, hb, fun H a ns hl hz hH hS => ?_, hF⟩
  obtain ⟨os, e⟩ := ht ns hl hz
  refine sp_lawT e hS fun q hq => ?_
  obtain ⟨p, hp, z⟩ := hT q hq
  rw [← z]
  exact hH p hp
theorem tabIn_of {K : PySem.W.Frag} {x : Str} {f c P : Addr} {c1 c2 : Value} {d1 d2 : Option Addr} {s1 s2 : Array (Option Value)} {fd : FuncData} {vs : Array Value} (h1 : PySem.W.nsIn K mainGlobals x = some (some (.ref f)))
    (h2 : K.lookup f = some ⟨c1, d1, .func fd, s1⟩) (h3 : fd.code = .ref c) (h4 : K.lookup c = some ⟨c2, d2, .fields vs, s2⟩) (h5 : (vs[11]? : Option Value) = some (.ref P)) : PySem.W.tabIn K x = some (c, P) := by
  unfold PySem.W.tabIn
  simp only [h1, h2, h3, h4, h5]
end DV

namespace L
open PySem L2 DV
def F__law_well : FS := runF [] 1 1 [.ret (.lst [.bin .mul (.var 0) (.bi .int1 [.cmp .ge (.var 0) (.bin .pow (.cst (.int 10)) (.cst (.int 18)))]), .var 0, .cst (.int 0)])]
def F__law_mixed : FS := runF [] 2 3 [.asgO 2 (.bin .mod (.bi .int1 [.bin .pow (.bin .add (.bin .add (.bin .mod (.bi .int1 [.var 0]) (.cst (.int 2147483629))) (.bin .mul (.cst (.int 30011)) (.var 1))) (.cst (.int 7))) (.cst (.int 3))]) (.cst (.int 2147483647))),
  .asgO 2 (.bin .mod (.bi .int1 [.bin .add (.var 2) (.bin .mul (.bin .mod (.bi .int1 [.bin .fdiv (.var 0) (.cst (.int 2147483629))]) (.cst (.int 65537))) (.bin .add (.var 1) (.cst (.int 5))))]) (.cst (.int 2147483587))),
  .asgO 2 (.bin .mod (.bi .int1 [.bin .mul (.var 2) (.bin .add (.bin .add (.bin .fdiv (.var 2) (.cst (.int 1009))) (.cst (.int 69621))) (.var 1))]) (.cst (.int 2147483563))),
  .ret (.bin .mod (.bi .int1 [.bin .mul (.var 2) (.bin .add (.bin .fdiv (.var 2) (.cst (.int 2003))) (.cst (.int 40692)))]) (.cst (.int 2147483399)))]
def F__law_draw : FS := runF [F__law_mixed] 2 3 [.ite (.cmp .gt (.ix (.var 0) (.cst (.int 0))) (.cst (.int 0))) [.asgO 2 (.bin .mod (.bi .int1 [.ix (.var 0) (.cst (.int 0))]) (.var 1)),
  .seti 0 (.cst (.int 0)) (.bin .fdiv (.ix (.var 0) (.cst (.int 0))) (.var 1)),
  .ret (.var 2)] [],
  .seti 0 (.cst (.int 2)) (.bin .add (.ix (.var 0) (.cst (.int 2))) (.cst (.int 1))),
  .ret (.bin .mod (.bi .int1 [.call 0 [.ix (.var 0) (.cst (.int 1)), .ix (.var 0) (.cst (.int 2))]]) (.var 1))]
def F__law_one : FS := runF [F__law_draw] 2 2 [.ret (.ix (.var 1) (.call 0 [.var 0, .bi .len [.var 1]]))]
def B__law_log_1 : List S := [.asgO 6 (.or (.cmp .is (.var 5) (.cst .non)) (.cmp .ge (.var 2) (.bin .add (.var 5) (.ix (.var 0) (.cst (.int 1)))))),
  .ite (.var 6) [.asgO 4 (.bi .max2 [.bin .sub (.var 4) (.cst (.int 1)), .cst (.int 0)]),
  .asgO 5 (.ite (.cmp .eq (.var 4) (.cst (.int 0))) (.var 2) (.cst .non))] [],
  .app 3 (.tup [.var 2, .var 6])]
def F__law_log : FS := runF [] 2 7 [.par [(3, true), (4, true), (5, true)] [.lst [], .ix (.var 0) (.cst (.int 0)), .cst .non],
  .for_ (.nm 2) .seq [.var 1] B__law_log_1,
  .ret (.var 3)]
def B__law_seen_1 : List S := [.app 4 (.var 5),
  .asg (.nm 5) (.bin .add (.var 5) (.call 1 [.var 0, .lst [.cst (.int 1), .cst (.int 1), .cst (.int 2), .bin .add (.cst (.int 1)) (.call 0 [.var 0, .cst (.int 9)])]]))]
def F__law_seen : FS := runF [F__law_draw, F__law_one, F__law_log] 2 7 [.par [(4, true), (5, false)] [.lst [], .call 0 [.var 0, .cst (.int 3)]],
  .for_ (.nm 2) .rng [.call 0 [.var 0, .bin .add (.var 1) (.cst (.int 1))]] B__law_seen_1,
  .asgO 3 (.call 2 [.tup [.bin .add (.cst (.int 1)) (.call 0 [.var 0, .cst (.int 5)]), .bin .add (.cst (.int 1)) (.call 0 [.var 0, .cst (.int 12)]), .cst (.int 1)], .var 4]),
  .ite (.and (.cmp .ne (.var 3) (.lst [])) (.cmp .eq (.call 0 [.var 0, .cst (.int 3)]) (.cst (.int 0)))) [.asg (.nm 6) (.call 0 [.var 0, .bi .len [.var 3]]),
  .seti 3 (.var 6) (.tup [.ix (.ix (.var 3) (.var 6)) (.cst (.int 0)), .not (.ix (.ix (.var 3) (.var 6)) (.cst (.int 1)))])] [],
  .ret (.var 3)]
def B__law_fits_1 : List S := [.ext 4 (.comp [7] (.nm 7) .rng [.cst (.int 1), .bin .add (.var 1) (.cst (.int 1))] [.cmp .eq (.call 0 [.tup [.var 2, .var 7, .cst (.int 1)], .var 3]) (.var 0)] (.tup [.var 2, .var 7]))]
def F__law_fits : FS := runF [F__law_log] 2 8 [.par [(3, false), (4, true)] [.comp [5, 6] (.tp [.nm 5, .nm 6]) .seq [.var 0] [] (.var 5), .lst []],
  .for_ (.nm 2) .rng [.cst (.int 1), .bin .add (.bi .len [.var 0]) (.cst (.int 2))] B__law_fits_1,
  .ret (.var 4)]
def B__law_conflict_1 : List S := [.ite (.cmp .eq (.call 0 [.slc (.var 0) [] [.bin .add (.var 2) (.cst (.int 1))], .var 1]) (.lst [])) [.ret (.var 2)] []]
def F__law_conflict : FS := runF [F__law_fits] 2 3 [.for_ (.nm 2) .rng [.bi .len [.var 0]] B__law_conflict_1,
  .ret (.cst .non)]
def F_is_integer : FS := runF [] 1 1 [.ret (.and (.bi (.isi .int) [.var 0]) (.not (.bi (.isi .bool) [.var 0])))]
def F_is_entry : FS := runF [F_is_integer] 1 1 [.ite (.or (.not (.bi (.isi .tuple) [.var 0])) (.or (.cmp .ne (.bi .len [.var 0]) (.cst (.int 2))) (.not (.bi (.isi .bool) [.ix (.var 0) (.cst (.int 1))])))) [.ret (.cst (.bl false))] [],
  .ret (.and (.call 0 [.ix (.var 0) (.cst (.int 0))]) (.cmp .ge (.ix (.var 0) (.cst (.int 0))) (.cst (.int 0))))]
def B_check_log_1 : List S := [.ite (.or (.not (.call 0 [.var 2])) (.and (.cmp .gt (.var 1) (.cst (.int 0))) (.cmp .le (.ix (.var 2) (.cst (.int 0))) (.ix (.ix (.var 0) (.bin .sub (.var 1) (.cst (.int 1)))) (.cst (.int 0)))))) [.stuck] []]
def F_check_log : FS := runF [F_is_entry] 1 3 [.ite (.or (.not (.bi (.isi .list) [.var 0])) (.cmp .gt (.bi .len [.var 0]) (.cst (.int 1000)))) [.stuck] [],
  .for_ (.tp [.nm 1, .nm 2]) .enum [.var 0] B_check_log_1]
def B_first_passes_1 : List S := [.asgO 1 (.bin .add (.var 1) (.cst (.int 1)))]
def C_first_passes_2 : E := .and (.cmp .lt (.var 1) (.bi .len [.var 0])) (.ix (.ix (.var 0) (.var 1)) (.cst (.int 1)))
def F_first_passes : FS := runF [] 1 2 [.asgO 1 (.cst (.int 0)),
  .whl C_first_passes_2 B_first_passes_1,
  .ret (.var 1)]
def B_later_bounds_1 : List S := [.asg (.tp [.nm 6, .nm 7]) (.ix (.var 0) (.var 2)),
  .ite (.var 7) [.par [(4, true), (5, true)] [.bi .min2 [.var 4, .bin .sub (.var 6) (.var 5)], .var 6]] [.asgO 3 (.bi .max2 [.var 3, .bin .add (.bin .sub (.var 6) (.var 5)) (.cst (.int 1))])],
  .ite (.cmp .gt (.var 3) (.var 4)) [.ret (.tup [.var 3, .var 4, .var 2])] []]
def F_later_bounds : FS := runF [F_first_passes] 1 8 [.asgO 1 (.call 0 [.var 0]),
  .ite (.cmp .eq (.var 1) (.cst (.int 0))) [.ret (.tup [.cst (.int 1), .cst (.int 1000000000000000000000000000000), .ite (.cmp .eq (.var 0) (.lst [])) (.cst .non) (.cst (.int 0))])] [],
  .par [(3, true), (4, true), (5, true)] [.cst (.int 1), .cst (.int 1000000000000000000000000000000), .ix (.ix (.var 0) (.bin .sub (.var 1) (.cst (.int 1)))) (.cst (.int 0))],
  .for_ (.nm 2) .rng [.var 1, .bi .len [.var 0]] B_later_bounds_1,
  .ret (.tup [.var 3, .var 4, .cst .non])]
def F_first_conflict : FS := runF [F_check_log, F_later_bounds] 1 1 [.expr (.call 0 [.var 0]),
  .ret (.ix (.call 1 [.var 0]) (.cst (.int 2)))]

def B_check_log_x_1 : List S := [.ite (.or (.not (.call 0 [.var 2])) (.and (.cmp .gt (.var 1) (.cst (.int 0))) (.cmp .le (.ix (.var 2) (.cst (.int 0))) (.ix (.ix (.var 0) (.bin .sub (.var 1) (.cst (.int 1)))) (.cst (.int 0)))))) [.rse 15 ["at"] [.var 1]] []]
def F_check_log_x : FS := runX [F_is_entry] 1 3 [.ite (.or (.not (.bi (.isi .list) [.var 0])) (.cmp .gt (.bi .len [.var 0]) (.cst (.int 1000)))) [.rse 15 ["at"] [.neg (.cst (.int 1))]] [],
  .for_ (.tp [.nm 1, .nm 2]) .enum [.var 0] B_check_log_x_1]

def F_forecast_x : FS := runX [F_check_log_x, F_is_integer, F_later_bounds, F_first_passes] 2 8 [.xex (.call 0 [.var 0]) .drop,
  .ite (.or (.not (.call 1 [.var 1])) (.or (.cmp .lt (.var 1) (.cst (.int 0))) (.and (.cmp .ne (.var 0) (.lst [])) (.cmp .le (.var 1) (.ix (.ix (.var 0) (.neg (.cst (.int 1)))) (.cst (.int 0))))))) [.rse 10 ["time"] [.var 1]] [],
  .asg (.tp [.nm 4, .nm 5, .nm 6]) (.call 2 [.var 0]),
  .ite (.cmp .isnot (.var 6) (.cst .non)) [.rse 15 ["at"] [.var 6]] [],
  .ite (.cmp .eq (.var 0) (.lst [])) [.ret (.cst (.str "pass"))] [],
  .asgO 2 (.bi .maxl [.comp [7] (.nm 7) .seq [.var 0] [.ix (.var 7) (.cst (.int 1))] (.ix (.var 7) (.cst (.int 0)))]),
  .asgO 3 (.or (.cmp .eq (.call 3 [.var 0]) (.bi .len [.var 0])) (.cmp .le (.var 4) (.bin .sub (.var 1) (.var 2)))),
  .ite (.not (.var 3)) [.ret (.cst (.str "reject"))] [],
  .ret (.ite (.cmp .gt (.var 5) (.bin .sub (.var 1) (.var 2))) (.cst (.str "either")) (.cst (.str "pass")))]
def D0__law_said : D := .non
def I2__law_said : S := .asgO 1 (.cst .non)
def IM__law_said : List S := []
def IS__law_said : List S := [.asg (.nm 3) (.lst [.xis [15, 10] [] 2, .xis [15, 10] [10] 2, .xis [15, 10] [] 2]),
  .asg (.nm 3) (.bin .add (.var 3) (.lst [.xis [15, 10] [] 2, .xis [15, 10] [] 2, .xis [15, 10] [15] 2])),
  .asgO 4 (.xis [15, 10] [] 2),
  .ite (.or (.cmp .ne (.cnt (.var 3) (.cst (.bl true))) (.cst (.int 1))) (.or (.var 4) (.not (.xis [15, 10] [15, 10] 2)))) [.asgO 1 (.cst (.str "other"))] [.ite (.ix (.var 3) (.cst (.int 0))) [.asgO 1 (.tup [.cst (.str "row"), .stuck, .xfld [15] 2 "at"])] [.ite (.or (.ix (.var 3) (.cst (.int 1))) (.ix (.var 3) (.cst (.int 3)))) [.asgO 1 (.ite (.ix (.var 3) (.cst (.int 1))) (.tup [.cst (.str "time"), .stuck]) (.tup [.cst (.str "index"), .stuck]))] [.ite (.or (.ix (.var 3) (.cst (.int 2))) (.ix (.var 3) (.cst (.int 5)))) [.asgO 1 (.tup [.ite (.ix (.var 3) (.cst (.int 2))) (.cst (.str "outages")) (.cst (.str "log")), .xfld [15] 2 "at"])] [.asgO 1 (.tup [.cst (.str "bound"), .stuck])]]]]]
def IQ__law_said : S := .ret (.var 1)
def SD__law_said : Nat → List Str → List D → Option D := saidX [] 5 2 [15, 10] IS__law_said IQ__law_said
def F_forecast : FS := runF [F_check_log, F_is_integer, F_later_bounds, F_first_passes] 2 8 [.expr (.call 0 [.var 0]),
  .ite (.or (.not (.call 1 [.var 1])) (.or (.cmp .lt (.var 1) (.cst (.int 0))) (.and (.cmp .ne (.var 0) (.lst [])) (.cmp .le (.var 1) (.ix (.ix (.var 0) (.neg (.cst (.int 1)))) (.cst (.int 0))))))) [.stuck] [],
  .asg (.tp [.nm 4, .nm 5, .nm 6]) (.call 2 [.var 0]),
  .ite (.cmp .isnot (.var 6) (.cst .non)) [.stuck] [],
  .ite (.cmp .eq (.var 0) (.lst [])) [.ret (.cst (.str "pass"))] [],
  .asgO 2 (.bi .maxl [.comp [7] (.nm 7) .seq [.var 0] [.ix (.var 7) (.cst (.int 1))] (.ix (.var 7) (.cst (.int 0)))]),
  .asgO 3 (.or (.cmp .eq (.call 3 [.var 0]) (.bi .len [.var 0])) (.cmp .le (.var 4) (.bin .sub (.var 1) (.var 2)))),
  .ite (.not (.var 3)) [.ret (.cst (.str "reject"))] [],
  .ret (.ite (.cmp .gt (.var 5) (.bin .sub (.var 1) (.var 2))) (.cst (.str "either")) (.cst (.str "pass")))]
def B__law_next_1 : List S := [.app 4 (.ix (.ix (.call 1 [.tup [.var 5, .var 6, .cst (.int 1)], .bin .add (.var 3) (.lst [.var 2])]) (.neg (.cst (.int 1)))) (.cst (.int 1)))]
def F__law_next : FS := runF [F__law_fits, F__law_log] 3 9 [.par [(3, false), (4, true)] [.comp [7, 8] (.tp [.nm 7, .nm 8]) .seq [.var 0] [] (.var 7), .lst []],
  .for_ (.tp [.nm 5, .nm 6]) .seq [.call 0 [.var 0, .var 1]] B__law_next_1,
  .ite (.cmp .notin (.cst (.bl false)) (.var 4)) [.ret (.cst (.str "pass"))] [],
  .ret (.ite (.cmp .inn (.cst (.bl true)) (.var 4)) (.cst (.str "either")) (.cst (.str "reject")))]
def B__law_right_1 : List S := [.asgO 6 (.bin .add (.var 2) (.var 5)),
  .ite (.and (.cmp .isnot (.var 4) (.cst .non)) (.cmp .ne (.said D0__law_said SD__law_said (.call 4 [.var 1, .var 6])) (.tup [.cst (.str "log"), .var 4]))) [.ret (.cst (.bl false))] [],
  .ite (.and (.cmp .is (.var 4) (.cst .non)) (.cmp .ne (.call 5 [.var 1, .var 6]) (.call 6 [.var 1, .var 3, .var 6]))) [.ret (.cst (.bl false))] []]
def F__law_right : FS := runF [F__law_seen, F__law_conflict, F_first_conflict, F__law_draw, F_forecast_x, F_forecast, F__law_next] 1 7 [.asg (.nm 1) (.call 0 [.var 0, .cst (.int 8)]),
  .asg (.nm 2) (.ite (.cmp .ne (.var 1) (.lst [])) (.ix (.ix (.var 1) (.neg (.cst (.int 1)))) (.cst (.int 0))) (.cst (.int 0))),
  .asgO 3 (.bin .add (.var 2) (.cst (.int 40))),
  .asg (.nm 4) (.call 1 [.var 1, .var 3]),
  .ite (.cmp .ne (.call 2 [.var 1]) (.var 4)) [.ret (.cst (.bl false))] [],
  .for_ (.nm 5) .seq [.tup [.cst (.int 1), .cst (.int 2), .bin .add (.cst (.int 3)) (.call 3 [.var 0, .cst (.int 4)]), .bin .add (.cst (.int 7)) (.call 3 [.var 0, .cst (.int 9)])]] B__law_right_1,
  .ret (.cst (.bl true))]
def B_law_1 : List S := [.ite (.not (.call 1 [.call 0 [.var 1]])) [.ret (.cst (.bl false))] []]
def F_law : FS := runF [F__law_well, F__law_right] 1 2 [.for_ (.nm 1) .seq [.bin .add (.slc (.var 0) [] [.cst (.int 3)]) (.lst [.cst (.int 0)])] B_law_1,
  .ret (.cst (.bl true))]
end L
namespace L
open PySem L2 DV
def topS (i : Nat) : Stmt := PySem.Challenge.pw_breakerrow_k47_conflicts_and_forecasts.main.body.getD i (.Pass ⟨0, 0, 0, 0⟩)
structure Txt (g : Gx) (mg : Str → Option Value) : Prop where
  tt : g.ea = none
  z_ArithmeticError : mg "ArithmeticError" = none
  z_bool : mg "bool" = none
  z_enumerate : mg "enumerate" = none
  z_int : mg "int" = none
  z_isinstance : mg "isinstance" = none
  z_len : mg "len" = none
  z_list : mg "list" = none
  z_max : mg "max" = none
  z_min : mg "min" = none
  z_range : mg "range" = none
  z_tuple : mg "tuple" = none
  g_MOST_ENTRIES : GInt mg "MOST_ENTRIES" 1000
  g_MOST_WAIT : GInt mg "MOST_WAIT" 1000000000000000000000000000000
  ax_InvalidLog : AexC g.K (g.cl 15)
  bx_BreakerError : BexC g.K (g.cl 8)
  n_BreakerError : mg "BreakerError" = some (.ref (g.cl 8))
  n_InvalidLog : mg "InvalidLog" = some (.ref (g.cl 15))
  tx_InvalidLog_at : PySem.W.takerIn g.K (g.cl 15) "at" = some none
  ax_InvalidTime : AexC g.K (g.cl 10)
  n_InvalidTime : mg "InvalidTime" = some (.ref (g.cl 10))
  tx_InvalidTime_time : PySem.W.takerIn g.K (g.cl 10) "time" = some none
  xe_InvalidLog : ErrC g.K (g.cl 15)
  xk_InvalidLog_InvalidRow : PySem.W.kitOne g.K (.ref (g.cl 15)) (.ref (g.cl 9)) = some false
  xe_InvalidTime : ErrC g.K (g.cl 10)
  xk_InvalidTime_InvalidRow : PySem.W.kitOne g.K (.ref (g.cl 10)) (.ref (g.cl 9)) = some false
  n_InvalidRow : mg "InvalidRow" = some (.ref (g.cl 9))
  xk_InvalidLog_InvalidTime : PySem.W.kitOne g.K (.ref (g.cl 15)) (.ref (g.cl 10)) = some false
  xk_InvalidTime_InvalidTime : PySem.W.kitOne g.K (.ref (g.cl 10)) (.ref (g.cl 10)) = some true
  xk_InvalidLog_InvalidOutages : PySem.W.kitOne g.K (.ref (g.cl 15)) (.ref (g.cl 11)) = some false
  xk_InvalidTime_InvalidOutages : PySem.W.kitOne g.K (.ref (g.cl 10)) (.ref (g.cl 11)) = some false
  n_InvalidOutages : mg "InvalidOutages" = some (.ref (g.cl 11))
  xk_InvalidLog_InvalidIndex : PySem.W.kitOne g.K (.ref (g.cl 15)) (.ref (g.cl 13)) = some false
  xk_InvalidTime_InvalidIndex : PySem.W.kitOne g.K (.ref (g.cl 10)) (.ref (g.cl 13)) = some false
  n_InvalidIndex : mg "InvalidIndex" = some (.ref (g.cl 13))
  xk_InvalidLog_InvalidBound : PySem.W.kitOne g.K (.ref (g.cl 15)) (.ref (g.cl 14)) = some false
  xk_InvalidTime_InvalidBound : PySem.W.kitOne g.K (.ref (g.cl 10)) (.ref (g.cl 14)) = some false
  n_InvalidBound : mg "InvalidBound" = some (.ref (g.cl 14))
  xk_InvalidLog_InvalidLog : PySem.W.kitOne g.K (.ref (g.cl 15)) (.ref (g.cl 15)) = some true
  xk_InvalidTime_InvalidLog : PySem.W.kitOne g.K (.ref (g.cl 10)) (.ref (g.cl 15)) = some false
  xt_InvalidLog__InvalidTrains_InvalidCall_InvalidText_LimitExceeded : PySem.W.kitAny g.K (.ref (g.cl 15)) [.ref (g.cl 12), .ref (g.cl 16), .ref (g.cl 17), .ref (g.cl 18)] = some false
  xt_InvalidTime__InvalidTrains_InvalidCall_InvalidText_LimitExceeded : PySem.W.kitAny g.K (.ref (g.cl 10)) [.ref (g.cl 12), .ref (g.cl 16), .ref (g.cl 17), .ref (g.cl 18)] = some false
  n_LimitExceeded : mg "LimitExceeded" = some (.ref (g.cl 18))
  n_InvalidText : mg "InvalidText" = some (.ref (g.cl 17))
  n_InvalidCall : mg "InvalidCall" = some (.ref (g.cl 16))
  n_InvalidTrains : mg "InvalidTrains" = some (.ref (g.cl 12))
  xk_InvalidLog_ArithmeticError : PySem.W.kitOne g.K (.ref (g.cl 15)) (.type "ArithmeticError") = some true
  xk_InvalidTime_ArithmeticError : PySem.W.kitOne g.K (.ref (g.cl 10)) (.type "ArithmeticError") = some true
  xf_InvalidLog : XfC g.K (g.cl 15)
  xn_InvalidLog_at : PySem.W.findIn g.K (.ref (g.cl 15)) "at" = some none
  xm_InvalidLog_BreakerError : PySem.W.exmOne g.K (.ref (g.cl 15)) (.ref (g.cl 8)) = some true
  xm_InvalidTime_BreakerError : PySem.W.exmOne g.K (.ref (g.cl 10)) (.ref (g.cl 8)) = some true
section
variable {P : Program} {w : World} {mg : Str → Option Value} {base : Heap} {g : Gx}
abbrev s__law_well : Stmt := topS 25
theorem sc__law_well : FnScope ["_law_cell"] ["_law_cell"] (defScope s__law_well) := ⟨rfl, rfl, rfl, by decide +kernel, rfl, by decide +kernel, by decide +kernel⟩
theorem ok__law_well {k : Nat} {f : Addr} {fd : FuncData} (T : Txt g mg) (F : Fun g.K "_law_well" "_law_well" s__law_well f fd)  : FnOk P w g.K mg base CX0 (k + 1) f fd ["_law_cell"] (spF g 1 F__law_well) := by
  refine def_fn (fs := []) F sc__law_well rfl rfl T.tt fun cdv A outer s H E hr C => ?_
  exact (ss_cons (s_ret (p_lst C (a_cons (p_bin (op := .mul) C (k_var 0 rfl (by first | exact .inl rfl | exact .inr (.inl rfl) | exact .inr (.inr rfl)) rfl rfl) (k_int1 C (a_cons (p_cmp (op := .ge) C (k_var 0 rfl (by first | exact .inl rfl | exact .inr (.inl rfl) | exact .inr (.inr rfl)) rfl rfl) (p_bin (op := .pow) C (k_int C) (k_int C)) rfl) a_nil rfl) rfl rfl (T.z_int) rfl)) (a_cons (k_var 0 rfl (by first | exact .inl rfl | exact .inr (.inl rfl) | exact .inr (.inr rfl)) rfl rfl) (a_cons (k_int C) a_nil rfl) rfl) rfl)))
  ss_nil)
abbrev s__law_mixed : Stmt := topS 24
theorem sc__law_mixed : FnScope ["_law_cell", "_law_k", "_law_figure"] ["_law_cell", "_law_k"] (defScope s__law_mixed) := ⟨rfl, rfl, rfl, by decide +kernel, rfl, by decide +kernel, by decide +kernel⟩
theorem ok__law_mixed {k : Nat} {f : Addr} {fd : FuncData} (T : Txt g mg) (F : Fun g.K "_law_mixed" "_law_mixed" s__law_mixed f fd)  : FnOk P w g.K mg base CX0 (k + 1) f fd ["_law_cell", "_law_k"] (spF g 2 F__law_mixed) := by
  refine def_fn (fs := []) F sc__law_mixed rfl rfl T.tt fun cdv A outer s H E hr C => ?_
  exact (ss_cons (s_asgO (i := 2) C rfl (by first | exact .inl rfl | exact .inr rfl) (p_bin (op := .mod) C (k_int1 C (a_cons (p_bin (op := .pow) C (p_bin (op := .add) C (p_bin (op := .add) C (p_bin (op := .mod) C (k_int1 C (a_cons (k_var 0 rfl (by first | exact .inl rfl | exact .inr (.inl rfl) | exact .inr (.inr rfl)) rfl rfl) a_nil rfl) rfl rfl (T.z_int) rfl) (k_int C)) (p_bin (op := .mul) C (k_int C) (k_var 1 rfl (by first | exact .inl rfl | exact .inr (.inl rfl) | exact .inr (.inr rfl)) rfl rfl))) (k_int C)) (k_int C)) a_nil rfl) rfl rfl (T.z_int) rfl) (k_int C)) rfl (by first | exact .inr rfl | exact .inl rfl))
  (ss_cons (s_asgO (i := 2) C rfl (by first | exact .inl rfl | exact .inr rfl) (p_bin (op := .mod) C (k_int1 C (a_cons (p_bin (op := .add) C (k_var 2 rfl (by first | exact .inl rfl | exact .inr (.inl rfl) | exact .inr (.inr rfl)) rfl rfl) (p_bin (op := .mul) C (p_bin (op := .mod) C (k_int1 C (a_cons (p_bin (op := .fdiv) C (k_var 0 rfl (by first | exact .inl rfl | exact .inr (.inl rfl) | exact .inr (.inr rfl)) rfl rfl) (k_int C)) a_nil rfl) rfl rfl (T.z_int) rfl) (k_int C)) (p_bin (op := .add) C (k_var 1 rfl (by first | exact .inl rfl | exact .inr (.inl rfl) | exact .inr (.inr rfl)) rfl rfl) (k_int C)))) a_nil rfl) rfl rfl (T.z_int) rfl) (k_int C)) rfl (by first | exact .inr rfl | exact .inl rfl))
  (ss_cons (s_asgO (i := 2) C rfl (by first | exact .inl rfl | exact .inr rfl) (p_bin (op := .mod) C (k_int1 C (a_cons (p_bin (op := .mul) C (k_var 2 rfl (by first | exact .inl rfl | exact .inr (.inl rfl) | exact .inr (.inr rfl)) rfl rfl) (p_bin (op := .add) C (p_bin (op := .add) C (p_bin (op := .fdiv) C (k_var 2 rfl (by first | exact .inl rfl | exact .inr (.inl rfl) | exact .inr (.inr rfl)) rfl rfl) (k_int C)) (k_int C)) (k_var 1 rfl (by first | exact .inl rfl | exact .inr (.inl rfl) | exact .inr (.inr rfl)) rfl rfl))) a_nil rfl) rfl rfl (T.z_int) rfl) (k_int C)) rfl (by first | exact .inr rfl | exact .inl rfl))
  (ss_cons (s_ret (p_bin (op := .mod) C (k_int1 C (a_cons (p_bin (op := .mul) C (k_var 2 rfl (by first | exact .inl rfl | exact .inr (.inl rfl) | exact .inr (.inr rfl)) rfl rfl) (p_bin (op := .add) C (p_bin (op := .fdiv) C (k_var 2 rfl (by first | exact .inl rfl | exact .inr (.inl rfl) | exact .inr (.inr rfl)) rfl rfl) (k_int C)) (k_int C))) a_nil rfl) rfl rfl (T.z_int) rfl) (k_int C)))
  ss_nil))))
abbrev s__law_draw : Stmt := topS 26
theorem sc__law_draw : FnScope ["_law_well_here", "_law_many", "_law_found"] ["_law_well_here", "_law_many"] (defScope s__law_draw) := ⟨rfl, rfl, rfl, by decide +kernel, rfl, by decide +kernel, by decide +kernel⟩
theorem ok__law_draw {k : Nat} {f : Addr} {fd : FuncData} (T : Txt g mg) (F : Fun g.K "_law_draw" "_law_draw" s__law_draw f fd) (c__law_mixed : Cal P w mg base g k "_law_mixed" 2 F__law_mixed) : FnOk P w g.K mg base CX0 (k + 1) f fd ["_law_well_here", "_law_many"] (spF g 2 F__law_draw) := by
  refine def_fn (fs := [F__law_mixed]) F sc__law_draw rfl rfl T.tt fun cdv A outer s H E hr C => ?_
  exact (ss_cons (s_ite (t_cmp (op := .gt) C (p_ix C (k_var 0 rfl (by first | exact .inl rfl | exact .inr (.inl rfl) | exact .inr (.inr rfl)) rfl rfl) (k_int C) (fun _ _ => rfl)) (k_int C) rfl) (ss_cons (s_asgO (i := 2) C rfl (by first | exact .inl rfl | exact .inr rfl) (p_bin (op := .mod) C (k_int1 C (a_cons (p_ix C (k_var 0 rfl (by first | exact .inl rfl | exact .inr (.inl rfl) | exact .inr (.inr rfl)) rfl rfl) (k_int C) (fun _ _ => rfl)) a_nil rfl) rfl rfl (T.z_int) rfl) (k_var 1 rfl (by first | exact .inl rfl | exact .inr (.inl rfl) | exact .inr (.inr rfl)) rfl rfl)) rfl (by first | exact .inr rfl | exact .inl rfl))
  (ss_cons (s_seti C (pe_var (i := 0) rfl (by first | exact .inl rfl | exact .inr (.inl rfl) | exact .inr (.inr rfl)) rfl rfl) (k_int C) (p_bin (op := .fdiv) C (p_ix C (k_var 0 rfl (by first | exact .inl rfl | exact .inr (.inl rfl) | exact .inr (.inr rfl)) rfl rfl) (k_int C) (fun _ _ => rfl)) (k_var 1 rfl (by first | exact .inl rfl | exact .inr (.inl rfl) | exact .inr (.inr rfl)) rfl rfl)) rfl rfl rfl (fun _ => rfl))
  (ss_cons (s_ret (k_var 2 rfl (by first | exact .inl rfl | exact .inr (.inl rfl) | exact .inr (.inr rfl)) rfl rfl))
  ss_nil))) ss_nil)
  (ss_cons (s_seti C (pe_var (i := 0) rfl (by first | exact .inl rfl | exact .inr (.inl rfl) | exact .inr (.inr rfl)) rfl rfl) (k_int C) (p_bin (op := .add) C (p_ix C (k_var 0 rfl (by first | exact .inl rfl | exact .inr (.inl rfl) | exact .inr (.inr rfl)) rfl rfl) (k_int C) (fun _ _ => rfl)) (k_int C)) rfl rfl rfl (fun _ => rfl))
  (ss_cons (s_ret (p_bin (op := .mod) C (k_int1 C (a_cons (c_call c__law_mixed C rfl rfl hr rfl (aw_cons (p_ix C (k_var 0 rfl (by first | exact .inl rfl | exact .inr (.inl rfl) | exact .inr (.inr rfl)) rfl rfl) (k_int C) (fun _ _ => rfl)) (aw_cons (p_ix C (k_var 0 rfl (by first | exact .inl rfl | exact .inr (.inl rfl) | exact .inr (.inr rfl)) rfl rfl) (k_int C) (fun _ _ => rfl)) aw_nil rfl) rfl) rfl rfl rfl) a_nil rfl) rfl rfl (T.z_int) rfl) (k_var 1 rfl (by first | exact .inl rfl | exact .inr (.inl rfl) | exact .inr (.inr rfl)) rfl rfl)))
  ss_nil)))
abbrev s__law_one : Stmt := topS 27
theorem sc__law_one : FnScope ["_law_well_here", "_law_some"] ["_law_well_here", "_law_some"] (defScope s__law_one) := ⟨rfl, rfl, rfl, by decide +kernel, rfl, by decide +kernel, by decide +kernel⟩
theorem ok__law_one {k : Nat} {f : Addr} {fd : FuncData} (T : Txt g mg) (F : Fun g.K "_law_one" "_law_one" s__law_one f fd) (c__law_draw : Cal P w mg base g k "_law_draw" 2 F__law_draw) : FnOk P w g.K mg base CX0 (k + 1) f fd ["_law_well_here", "_law_some"] (spF g 2 F__law_one) := by
  refine def_fn (fs := [F__law_draw]) F sc__law_one rfl rfl T.tt fun cdv A outer s H E hr C => ?_
  exact (ss_cons (s_ret (p_ix C (k_var 1 rfl (by first | exact .inl rfl | exact .inr (.inl rfl) | exact .inr (.inr rfl)) rfl rfl) (c_call c__law_draw C rfl rfl hr rfl (aw_cons (k_var 0 rfl (by first | exact .inl rfl | exact .inr (.inl rfl) | exact .inr (.inr rfl)) rfl rfl) (aw_cons (k_len C (a_cons (k_var 1 rfl (by first | exact .inl rfl | exact .inr (.inl rfl) | exact .inr (.inr rfl)) rfl rfl) a_nil rfl) rfl rfl (T.z_len) rfl) aw_nil rfl) rfl) rfl rfl rfl) (fun _ _ => rfl)))
  ss_nil)
abbrev s__law_log : Stmt := topS 29
theorem sc__law_log : FnScope ["_law_breaker", "_law_times", "_law_time", "_law_found", "_law_left", "_law_since", "_law_is_passed"] ["_law_breaker", "_law_times"] (defScope s__law_log) := ⟨rfl, rfl, rfl, by decide +kernel, rfl, by decide +kernel, by decide +kernel⟩
theorem ok__law_log {k : Nat} {f : Addr} {fd : FuncData} (T : Txt g mg) (F : Fun g.K "_law_log" "_law_log" s__law_log f fd)  : FnOk P w g.K mg base CX0 (k + 1) f fd ["_law_breaker", "_law_times"] (spF g 2 F__law_log) := by
  refine def_fn (fs := []) F sc__law_log rfl rfl T.tt fun cdv A outer s H E hr C => ?_
  exact (ss_cons (s_par3 (i := 3) (j := 4) (l := 5) C rfl rfl rfl (by decide) (by decide) (by decide) rfl rfl rfl (an_cons C (p_lst C a_nil) (an_cons C (p_ix C (k_var 0 rfl (by first | exact .inl rfl | exact .inr (.inl rfl) | exact .inr (.inr rfl)) rfl rfl) (k_int C) (fun _ _ => rfl)) (an_cons C (k_non C) an_nil rfl) rfl) rfl) rfl rfl)
  (ss_cons (s_for C PassesOwn.never (i_seq C (k_var 1 rfl (by first | exact .inl rfl | exact .inr (.inl rfl) | exact .inr (.inr rfl)) rfl rfl)) (tg_nm (pg_name (i := 2) C.nd rfl (by first | exact .inl rfl | exact .inr rfl) (by first | exact .inr rfl | exact .inl rfl))) (ss_cons (s_asgO (i := 6) C rfl (by first | exact .inl rfl | exact .inr rfl) (p_or C (p_cmp (op := .is) C (k_var 5 rfl (by first | exact .inl rfl | exact .inr (.inl rfl) | exact .inr (.inr rfl)) rfl rfl) (k_non C) rfl) (p_one (p_cmp (op := .ge) C (k_var 2 rfl (by first | exact .inl rfl | exact .inr (.inl rfl) | exact .inr (.inr rfl)) rfl rfl) (p_bin (op := .add) C (k_var 5 rfl (by first | exact .inl rfl | exact .inr (.inl rfl) | exact .inr (.inr rfl)) rfl rfl) (p_ix C (k_var 0 rfl (by first | exact .inl rfl | exact .inr (.inl rfl) | exact .inr (.inr rfl)) rfl rfl) (k_int C) (fun _ _ => rfl))) rfl))) rfl (by first | exact .inr rfl | exact .inl rfl))
  (ss_cons (s_ite (t_val C (k_var 6 rfl (by first | exact .inl rfl | exact .inr (.inl rfl) | exact .inr (.inr rfl)) rfl rfl) (fun _ => rfl)) (ss_cons (s_asgO (i := 4) C rfl (by first | exact .inl rfl | exact .inr rfl) (k_max2 C (a_cons (p_bin (op := .sub) C (k_var 4 rfl (by first | exact .inl rfl | exact .inr (.inl rfl) | exact .inr (.inr rfl)) rfl rfl) (k_int C)) (a_cons (k_int C) a_nil rfl) rfl) rfl rfl (T.z_max) rfl) rfl (by first | exact .inr rfl | exact .inl rfl))
  (ss_cons (s_asgO (i := 5) C rfl (by first | exact .inl rfl | exact .inr rfl) (p_ite (t_cmp (op := .eq) C (k_var 4 rfl (by first | exact .inl rfl | exact .inr (.inl rfl) | exact .inr (.inr rfl)) rfl rfl) (k_int C) rfl) (k_var 2 rfl (by first | exact .inl rfl | exact .inr (.inl rfl) | exact .inr (.inr rfl)) rfl rfl) (k_non C)) rfl (by first | exact .inr rfl | exact .inl rfl))
  ss_nil)) ss_nil)
  (ss_cons (s_app C (pe_var (i := 3) rfl (by first | exact .inl rfl | exact .inr (.inl rfl) | exact .inr (.inr rfl)) rfl rfl) (p_tup C (a_cons (k_var 2 rfl (by first | exact .inl rfl | exact .inr (.inl rfl) | exact .inr (.inr rfl)) rfl rfl) (a_cons (k_var 6 rfl (by first | exact .inl rfl | exact .inr (.inl rfl) | exact .inr (.inr rfl)) rfl rfl) a_nil rfl) rfl)) rfl rfl rfl rfl)
  ss_nil))) (fun _ => rfl))
  (ss_cons (s_ret (k_var 3 rfl (by first | exact .inl rfl | exact .inr (.inl rfl) | exact .inr (.inr rfl)) rfl rfl))
  ss_nil)))
abbrev s__law_seen : Stmt := topS 30
theorem sc__law_seen : FnScope ["_law_well_here", "_law_most", "_law_turn", "_law_found", "_law_times", "_law_time", "_law_at"] ["_law_well_here", "_law_most"] (defScope s__law_seen) := ⟨rfl, rfl, rfl, by decide +kernel, rfl, by decide +kernel, by decide +kernel⟩
theorem ok__law_seen {k : Nat} {f : Addr} {fd : FuncData} (T : Txt g mg) (F : Fun g.K "_law_seen" "_law_seen" s__law_seen f fd) (c__law_draw : Cal P w mg base g k "_law_draw" 2 F__law_draw) (c__law_one : Cal P w mg base g k "_law_one" 2 F__law_one) (c__law_log : Cal P w mg base g k "_law_log" 2 F__law_log) : FnOk P w g.K mg base CX0 (k + 1) f fd ["_law_well_here", "_law_most"] (spF g 2 F__law_seen) := by
  refine def_fn (fs := [F__law_draw, F__law_one, F__law_log]) F sc__law_seen rfl rfl T.tt fun cdv A outer s H E hr C => ?_
  exact (ss_cons (s_par2 (i := 4) (j := 5) C rfl rfl (by decide) rfl rfl (an_cons C (p_lst C a_nil) (an_cons C (c_call c__law_draw C rfl rfl hr rfl (aw_cons (k_var 0 rfl (by first | exact .inl rfl | exact .inr (.inl rfl) | exact .inr (.inr rfl)) rfl rfl) (aw_cons (k_int C) aw_nil rfl) rfl) rfl rfl rfl) an_nil rfl) rfl) rfl rfl)
  (ss_cons (s_for C PassesOwn.never (i_rng1 C rfl (T.z_range) (a_cons (c_call c__law_draw C rfl rfl hr rfl (aw_cons (k_var 0 rfl (by first | exact .inl rfl | exact .inr (.inl rfl) | exact .inr (.inr rfl)) rfl rfl) (aw_cons (p_bin (op := .add) C (k_var 1 rfl (by first | exact .inl rfl | exact .inr (.inl rfl) | exact .inr (.inr rfl)) rfl rfl) (k_int C)) aw_nil rfl) rfl) rfl rfl rfl) a_nil rfl) rfl) (tg_nm (pg_name (i := 2) C.nd rfl (by first | exact .inl rfl | exact .inr rfl) (by first | exact .inr rfl | exact .inl rfl))) (ss_cons (s_app C (pe_var (i := 4) rfl (by first | exact .inl rfl | exact .inr (.inl rfl) | exact .inr (.inr rfl)) rfl rfl) (k_var 5 rfl (by first | exact .inl rfl | exact .inr (.inl rfl) | exact .inr (.inr rfl)) rfl rfl) rfl rfl rfl rfl)
  (ss_cons (s_asg (p_bin (op := .add) C (k_var 5 rfl (by first | exact .inl rfl | exact .inr (.inl rfl) | exact .inr (.inr rfl)) rfl rfl) (c_call c__law_one C rfl rfl hr rfl (aw_cons (k_var 0 rfl (by first | exact .inl rfl | exact .inr (.inl rfl) | exact .inr (.inr rfl)) rfl rfl) (aw_cons (p_lst C (a_cons (k_int C) (a_cons (k_int C) (a_cons (k_int C) (a_cons (p_bin (op := .add) C (k_int C) (c_call c__law_draw C rfl rfl hr rfl (aw_cons (k_var 0 rfl (by first | exact .inl rfl | exact .inr (.inl rfl) | exact .inr (.inr rfl)) rfl rfl) (aw_cons (k_int C) aw_nil rfl) rfl) rfl rfl rfl)) a_nil rfl) rfl) rfl) rfl)) aw_nil rfl) rfl) rfl rfl rfl)) (tg_nm (pg_name (i := 5) C.nd rfl (by first | exact .inl rfl | exact .inr rfl) (by first | exact .inr rfl | exact .inl rfl))) rfl rfl rfl)
  ss_nil)) (fun _ => rfl))
  (ss_cons (s_asgO (i := 3) C rfl (by first | exact .inl rfl | exact .inr rfl) (c_call c__law_log C rfl rfl hr rfl (aw_cons (p_tup C (a_cons (p_bin (op := .add) C (k_int C) (c_call c__law_draw C rfl rfl hr rfl (aw_cons (k_var 0 rfl (by first | exact .inl rfl | exact .inr (.inl rfl) | exact .inr (.inr rfl)) rfl rfl) (aw_cons (k_int C) aw_nil rfl) rfl) rfl rfl rfl)) (a_cons (p_bin (op := .add) C (k_int C) (c_call c__law_draw C rfl rfl hr rfl (aw_cons (k_var 0 rfl (by first | exact .inl rfl | exact .inr (.inl rfl) | exact .inr (.inr rfl)) rfl rfl) (aw_cons (k_int C) aw_nil rfl) rfl) rfl rfl rfl)) (a_cons (k_int C) a_nil rfl) rfl) rfl)) (aw_cons (k_var 4 rfl (by first | exact .inl rfl | exact .inr (.inl rfl) | exact .inr (.inr rfl)) rfl rfl) aw_nil rfl) rfl) rfl rfl rfl) rfl (by first | exact .inr rfl | exact .inl rfl))
  (ss_cons (s_ite (PW.pt (w_and (t_cmp (op := .ne) C (k_var 3 rfl (by first | exact .inl rfl | exact .inr (.inl rfl) | exact .inr (.inr rfl)) rfl rfl) (p_lst C a_nil) rfl) (w_and1 (t_cmp (op := .eq) C (c_call c__law_draw C rfl rfl hr rfl (aw_cons (k_var 0 rfl (by first | exact .inl rfl | exact .inr (.inl rfl) | exact .inr (.inr rfl)) rfl rfl) (aw_cons (k_int C) aw_nil rfl) rfl) rfl rfl rfl) (k_int C) rfl)))) (ss_cons (s_asg (c_call c__law_draw C rfl rfl hr rfl (aw_cons (k_var 0 rfl (by first | exact .inl rfl | exact .inr (.inl rfl) | exact .inr (.inr rfl)) rfl rfl) (aw_cons (k_len C (a_cons (k_var 3 rfl (by first | exact .inl rfl | exact .inr (.inl rfl) | exact .inr (.inr rfl)) rfl rfl) a_nil rfl) rfl rfl (T.z_len) rfl) aw_nil rfl) rfl) rfl rfl rfl) (tg_nm (pg_name (i := 6) C.nd rfl (by first | exact .inl rfl | exact .inr rfl) (by first | exact .inr rfl | exact .inl rfl))) rfl rfl rfl)
  (ss_cons (s_seti C (pe_var (i := 3) rfl (by first | exact .inl rfl | exact .inr (.inl rfl) | exact .inr (.inr rfl)) rfl rfl) (k_var 6 rfl (by first | exact .inl rfl | exact .inr (.inl rfl) | exact .inr (.inr rfl)) rfl rfl) (p_tup C (a_cons (p_ix C (p_ix C (k_var 3 rfl (by first | exact .inl rfl | exact .inr (.inl rfl) | exact .inr (.inr rfl)) rfl rfl) (k_var 6 rfl (by first | exact .inl rfl | exact .inr (.inl rfl) | exact .inr (.inr rfl)) rfl rfl) (fun _ _ => rfl)) (k_int C) (fun _ _ => rfl)) (a_cons (p_not C (p_ix C (p_ix C (k_var 3 rfl (by first | exact .inl rfl | exact .inr (.inl rfl) | exact .inr (.inr rfl)) rfl rfl) (k_var 6 rfl (by first | exact .inl rfl | exact .inr (.inl rfl) | exact .inr (.inr rfl)) rfl rfl) (fun _ _ => rfl)) (k_int C) (fun _ _ => rfl))) a_nil rfl) rfl)) rfl rfl rfl (fun _ => rfl))
  ss_nil)) ss_nil)
  (ss_cons (s_ret (k_var 3 rfl (by first | exact .inl rfl | exact .inr (.inl rfl) | exact .inr (.inr rfl)) rfl rfl))
  ss_nil)))))
abbrev s__law_fits : Stmt := topS 31
theorem sc__law_fits : FnScope ["_law_log_here", "_law_most", "_law_failures", "_law_times", "_law_found", "_law_time", "_law_is_passed", "_law_wait"] ["_law_log_here", "_law_most"] (defScope s__law_fits) := ⟨rfl, rfl, rfl, by decide +kernel, rfl, by decide +kernel, by decide +kernel⟩
theorem ok__law_fits {k : Nat} {f : Addr} {fd : FuncData} (T : Txt g mg) (F : Fun g.K "_law_fits" "_law_fits" s__law_fits f fd) (c__law_log : Cal P w mg base g k "_law_log" 2 F__law_log) : FnOk P w g.K mg base CX0 (k + 1) f fd ["_law_log_here", "_law_most"] (spF g 2 F__law_fits) := by
  refine def_fn (fs := [F__law_log]) F sc__law_fits rfl rfl T.tt fun cdv A outer s H E hr C => ?_
  exact (ss_cons (s_parT2 (i := 3) (j := 4) C (an_cons C (p_comp C (i_seq C (k_var 0 rfl (by first | exact .inl rfl | exact .inr (.inl rfl) | exact .inr (.inr rfl)) rfl rfl)) (blkOk_by (own := [("_law_time", 5), ("_law_is_passed", 6)]) rfl) (fun _ _ _ _ _ => (tgp (by first | exact ((C.blk _ _ _ _ _)).c0 | exact (C.blk _ _ _ _ _)) (tgs_cons (tg_nm (pg_name (i := 5) (C.blk _ _ _ _ _).nd rfl (by first | exact .inl rfl | exact .inr rfl) (by first | exact .inr rfl | exact .inl rfl))) (tgs_cons (tg_nm (pg_name (i := 6) (C.blk _ _ _ _ _).nd rfl (by first | exact .inl rfl | exact .inr rfl) (by first | exact .inr rfl | exact .inl rfl))) tgs_nil rfl) rfl) rfl rfl)) (fun _ _ _ _ _ => c_nil) (fun _ _ _ _ _ => (k_var 5 rfl (by first | exact .inl rfl | exact .inr (.inl rfl) | exact .inr (.inr rfl)) rfl rfl)) (fun _ => rfl)) (an_cons C (p_lst C a_nil) an_nil rfl) rfl) (tgp C (tgs_cons (tg_nm (pg_name (i := 3) C.nd rfl (by first | exact .inl rfl | exact .inr rfl) (by first | exact .inr rfl | exact .inl rfl))) (tgs_cons (tg_nm (pg_name (i := 4) C.nd rfl (by first | exact .inl rfl | exact .inr rfl) (by first | exact .inr rfl | exact .inl rfl))) tgs_nil rfl) rfl) rfl rfl) rfl rfl rfl)
  (ss_cons (s_for C PassesOwn.never (i_rng2 C rfl (T.z_range) (a_cons (k_int C) (a_cons (p_bin (op := .add) C (k_len C (a_cons (k_var 0 rfl (by first | exact .inl rfl | exact .inr (.inl rfl) | exact .inr (.inr rfl)) rfl rfl) a_nil rfl) rfl rfl (T.z_len) rfl) (k_int C)) a_nil rfl) rfl) rfl rfl) (tg_nm (pg_name (i := 2) C.nd rfl (by first | exact .inl rfl | exact .inr rfl) (by first | exact .inr rfl | exact .inl rfl))) (ss_cons (s_ext C (pe_var (i := 4) rfl (by first | exact .inl rfl | exact .inr (.inl rfl) | exact .inr (.inr rfl)) rfl rfl) (p_comp C (i_rng2 C rfl (T.z_range) (a_cons (k_int C) (a_cons (p_bin (op := .add) C (k_var 1 rfl (by first | exact .inl rfl | exact .inr (.inl rfl) | exact .inr (.inr rfl)) rfl rfl) (k_int C)) a_nil rfl) rfl) rfl rfl) (blkOk_by (own := [("_law_wait", 7)]) rfl) (fun _ _ _ _ _ => (tg_nm (pg_name (i := 7) (C.blk _ _ _ _ _).nd rfl (by first | exact .inl rfl | exact .inr rfl) (by first | exact .inr rfl | exact .inl rfl)))) (fun _ _ _ _ _ => (c_one (t_cmp (op := .eq) (by first | exact ((C.blk _ _ _ _ _)).c0 | exact (C.blk _ _ _ _ _)) (c_call c__law_log (by first | exact ((C.blk _ _ _ _ _)).c0 | exact (C.blk _ _ _ _ _)) rfl rfl hr rfl (aw_cons (p_tup (by first | exact ((C.blk _ _ _ _ _)).c0 | exact (C.blk _ _ _ _ _)) (a_cons (k_var 2 rfl (by first | exact .inl rfl | exact .inr (.inl rfl) | exact .inr (.inr rfl)) rfl rfl) (a_cons (k_var 7 rfl (by first | exact .inl rfl | exact .inr (.inl rfl) | exact .inr (.inr rfl)) rfl rfl) (a_cons (k_int (by first | exact ((C.blk _ _ _ _ _)).c0 | exact (C.blk _ _ _ _ _))) a_nil rfl) rfl) rfl)) (aw_cons (k_var 3 rfl (by first | exact .inl rfl | exact .inr (.inl rfl) | exact .inr (.inr rfl)) rfl rfl) aw_nil rfl) rfl) rfl rfl rfl) (k_var 0 rfl (by first | exact .inl rfl | exact .inr (.inl rfl) | exact .inr (.inr rfl)) rfl rfl) rfl))) (fun _ _ _ _ _ => (p_tup (by first | exact ((C.blk _ _ _ _ _)).c0 | exact (C.blk _ _ _ _ _)) (a_cons (k_var 2 rfl (by first | exact .inl rfl | exact .inr (.inl rfl) | exact .inr (.inr rfl)) rfl rfl) (a_cons (k_var 7 rfl (by first | exact .inl rfl | exact .inr (.inl rfl) | exact .inr (.inr rfl)) rfl rfl) a_nil rfl) rfl))) (fun _ => rfl)) rfl rfl rfl rfl)
  ss_nil) (fun _ => rfl))
  (ss_cons (s_ret (k_var 4 rfl (by first | exact .inl rfl | exact .inr (.inl rfl) | exact .inr (.inr rfl)) rfl rfl))
  ss_nil)))
abbrev s__law_conflict : Stmt := topS 32
theorem sc__law_conflict : FnScope ["_law_log_here", "_law_most", "_law_at"] ["_law_log_here", "_law_most"] (defScope s__law_conflict) := ⟨rfl, rfl, rfl, by decide +kernel, rfl, by decide +kernel, by decide +kernel⟩
theorem ok__law_conflict {k : Nat} {f : Addr} {fd : FuncData} (T : Txt g mg) (F : Fun g.K "_law_conflict" "_law_conflict" s__law_conflict f fd) (c__law_fits : Cal P w mg base g k "_law_fits" 2 F__law_fits) : FnOk P w g.K mg base CX0 (k + 1) f fd ["_law_log_here", "_law_most"] (spF g 2 F__law_conflict) := by
  refine def_fn (fs := [F__law_fits]) F sc__law_conflict rfl rfl T.tt fun cdv A outer s H E hr C => ?_
  exact (ss_cons (s_for C PassesOwn.never (i_rng1 C rfl (T.z_range) (a_cons (k_len C (a_cons (k_var 0 rfl (by first | exact .inl rfl | exact .inr (.inl rfl) | exact .inr (.inr rfl)) rfl rfl) a_nil rfl) rfl rfl (T.z_len) rfl) a_nil rfl) rfl) (tg_nm (pg_name (i := 2) C.nd rfl (by first | exact .inl rfl | exact .inr rfl) (by first | exact .inr rfl | exact .inl rfl))) (ss_cons (s_ite (t_cmp (op := .eq) C (c_call c__law_fits C rfl rfl hr rfl (aw_cons (p_slc C (k_var 0 rfl (by first | exact .inl rfl | exact .inr (.inl rfl) | exact .inr (.inr rfl)) rfl rfl) part0 (part1 (p_bin (op := .add) C (k_var 2 rfl (by first | exact .inl rfl | exact .inr (.inl rfl) | exact .inr (.inr rfl)) rfl rfl) (k_int C)))) (aw_cons (k_var 1 rfl (by first | exact .inl rfl | exact .inr (.inl rfl) | exact .inr (.inr rfl)) rfl rfl) aw_nil rfl) rfl) rfl rfl rfl) (p_lst C a_nil) rfl) (ss_cons (s_ret (k_var 2 rfl (by first | exact .inl rfl | exact .inr (.inl rfl) | exact .inr (.inr rfl)) rfl rfl))
  ss_nil) ss_nil)
  ss_nil) (fun _ => rfl))
  (ss_cons (s_ret (k_non C))
  ss_nil))
abbrev s_is_integer : Stmt := topS 13
theorem sc_is_integer : FnScope ["value"] ["value"] (defScope s_is_integer) := ⟨rfl, rfl, rfl, by decide +kernel, rfl, by decide +kernel, by decide +kernel⟩
theorem ok_is_integer {k : Nat} {f : Addr} {fd : FuncData} (T : Txt g mg) (F : Fun g.K "is_integer" "is_integer" s_is_integer f fd)  : FnOk P w g.K mg base CX0 (k + 1) f fd ["value"] (spF g 1 F_is_integer) := by
  refine def_fn (fs := []) F sc_is_integer rfl rfl T.tt fun cdv A outer s H E hr C => ?_
  exact (ss_cons (s_ret (p_and C (p_isi (t := .int) C (k_var 0 rfl (by first | exact .inl rfl | exact .inr (.inl rfl) | exact .inr (.inr rfl)) rfl rfl) (ty_int (T.z_int) rfl) rfl (T.z_isinstance) rfl rfl) (p_one (p_not C (p_isi (t := .bool) C (k_var 0 rfl (by first | exact .inl rfl | exact .inr (.inl rfl) | exact .inr (.inr rfl)) rfl rfl) (ty_bool (T.z_bool) rfl) rfl (T.z_isinstance) rfl rfl)))))
  ss_nil)
abbrev s_is_entry : Stmt := topS 17
theorem sc_is_entry : FnScope ["value"] ["value"] (defScope s_is_entry) := ⟨rfl, rfl, rfl, by decide +kernel, rfl, by decide +kernel, by decide +kernel⟩
theorem ok_is_entry {k : Nat} {f : Addr} {fd : FuncData} (T : Txt g mg) (F : Fun g.K "is_entry" "is_entry" s_is_entry f fd) (c_is_integer : Cal P w mg base g k "is_integer" 1 F_is_integer) : FnOk P w g.K mg base CX0 (k + 1) f fd ["value"] (spF g 1 F_is_entry) := by
  refine def_fn (fs := [F_is_integer]) F sc_is_entry rfl rfl T.tt fun cdv A outer s H E hr C => ?_
  exact (ss_cons (s_ite (PW.pt (w_or (t_not (t_val C (p_isi (t := .tuple) C (k_var 0 rfl (by first | exact .inl rfl | exact .inr (.inl rfl) | exact .inr (.inr rfl)) rfl rfl) (ty_tuple (T.z_tuple) rfl) rfl (T.z_isinstance) rfl rfl) (fun _ => rfl))) (w_or (t_cmp (op := .ne) C (k_len C (a_cons (k_var 0 rfl (by first | exact .inl rfl | exact .inr (.inl rfl) | exact .inr (.inr rfl)) rfl rfl) a_nil rfl) rfl rfl (T.z_len) rfl) (k_int C) rfl) (w_or1 (t_not (t_val C (p_isi (t := .bool) C (p_ix C (k_var 0 rfl (by first | exact .inl rfl | exact .inr (.inl rfl) | exact .inr (.inr rfl)) rfl rfl) (k_int C) (fun _ _ => rfl)) (ty_bool (T.z_bool) rfl) rfl (T.z_isinstance) rfl rfl) (fun _ => rfl))))))) (ss_cons (s_ret (k_bl C))
  ss_nil) ss_nil)
  (ss_cons (s_ret (p_and C (c_call c_is_integer C rfl rfl hr rfl (aw_cons (p_ix C (k_var 0 rfl (by first | exact .inl rfl | exact .inr (.inl rfl) | exact .inr (.inr rfl)) rfl rfl) (k_int C) (fun _ _ => rfl)) aw_nil rfl) rfl rfl rfl) (p_one (p_cmp (op := .ge) C (p_ix C (k_var 0 rfl (by first | exact .inl rfl | exact .inr (.inl rfl) | exact .inr (.inr rfl)) rfl rfl) (k_int C) (fun _ _ => rfl)) (k_int C) rfl))))
  ss_nil))
abbrev s_check_log : Stmt := topS 18
theorem sc_check_log : FnScope ["log", "at", "entry"] ["log"] (defScope s_check_log) := ⟨rfl, rfl, rfl, by decide +kernel, rfl, by decide +kernel, by decide +kernel⟩
theorem ok_check_log {k : Nat} {f : Addr} {fd : FuncData} (T : Txt g mg) (F : Fun g.K "check_log" "check_log" s_check_log f fd) (c_is_entry : Cal P w mg base g k "is_entry" 1 F_is_entry) : FnOk P w g.K mg base CX0 (k + 1) f fd ["log"] (spF g 1 F_check_log) := by
  refine def_fn (fs := [F_is_entry]) F sc_check_log rfl rfl T.tt fun cdv A outer s H E hr C => ?_
  exact (ss_cons (s_ite (PW.pt (w_or (t_not (t_val C (p_isi (t := .list) C (k_var 0 rfl (by first | exact .inl rfl | exact .inr (.inl rfl) | exact .inr (.inr rfl)) rfl rfl) (ty_list (T.z_list) rfl) rfl (T.z_isinstance) rfl rfl) (fun _ => rfl))) (w_or1 (t_cmp (op := .gt) C (k_len C (a_cons (k_var 0 rfl (by first | exact .inl rfl | exact .inr (.inl rfl) | exact .inr (.inr rfl)) rfl rfl) a_nil rfl) rfl rfl (T.z_len) rfl) (k_gint C T.g_MOST_ENTRIES rfl rfl) rfl)))) (ss_cons s_stuck
  ss_nil) ss_nil)
  (ss_cons (s_for C PassesOwn.never (i_enum C rfl (T.z_enumerate) (a_cons (k_var 0 rfl (by first | exact .inl rfl | exact .inr (.inl rfl) | exact .inr (.inr rfl)) rfl rfl) a_nil rfl) rfl) (tgp C (tgs_cons (tg_nm (pg_name (i := 1) C.nd rfl (by first | exact .inl rfl | exact .inr rfl) (by first | exact .inr rfl | exact .inl rfl))) (tgs_cons (tg_nm (pg_name (i := 2) C.nd rfl (by first | exact .inl rfl | exact .inr rfl) (by first | exact .inr rfl | exact .inl rfl))) tgs_nil rfl) rfl) rfl rfl) (ss_cons (s_ite (PW.pt (w_or (t_not (t_val C (c_call c_is_entry C rfl rfl hr rfl (aw_cons (k_var 2 rfl (by first | exact .inl rfl | exact .inr (.inl rfl) | exact .inr (.inr rfl)) rfl rfl) aw_nil rfl) rfl rfl rfl) (fun _ => rfl))) (w_or1 (PW.pt (w_and (t_cmp (op := .gt) C (k_var 1 rfl (by first | exact .inl rfl | exact .inr (.inl rfl) | exact .inr (.inr rfl)) rfl rfl) (k_int C) rfl) (w_and1 (t_cmp (op := .le) C (p_ix C (k_var 2 rfl (by first | exact .inl rfl | exact .inr (.inl rfl) | exact .inr (.inr rfl)) rfl rfl) (k_int C) (fun _ _ => rfl)) (p_ix C (p_ix C (k_var 0 rfl (by first | exact .inl rfl | exact .inr (.inl rfl) | exact .inr (.inr rfl)) rfl rfl) (p_bin (op := .sub) C (k_var 1 rfl (by first | exact .inl rfl | exact .inr (.inl rfl) | exact .inr (.inr rfl)) rfl rfl) (k_int C)) (fun _ _ => rfl)) (k_int C) (fun _ _ => rfl)) rfl))))))) (ss_cons s_stuck
  ss_nil) ss_nil)
  ss_nil) (fun _ => rfl))
  ss_nil))
abbrev s_first_passes : Stmt := topS 19
theorem sc_first_passes : FnScope ["log", "found"] ["log"] (defScope s_first_passes) := ⟨rfl, rfl, rfl, by decide +kernel, rfl, by decide +kernel, by decide +kernel⟩
theorem ok_first_passes {k : Nat} {f : Addr} {fd : FuncData} (T : Txt g mg) (F : Fun g.K "first_passes" "first_passes" s_first_passes f fd)  : FnOk P w g.K mg base CX0 (k + 1) f fd ["log"] (spF g 1 F_first_passes) := by
  refine def_fn (fs := []) F sc_first_passes rfl rfl T.tt fun cdv A outer s H E hr C => ?_
  exact (ss_cons (s_asgO (i := 1) C rfl (by first | exact .inl rfl | exact .inr rfl) (k_int C) rfl (by first | exact .inr rfl | exact .inl rfl))
  (ss_cons (s_whl PassesOwn.never (PW.pt (w_and (t_cmp (op := .lt) C (k_var 1 rfl (by first | exact .inl rfl | exact .inr (.inl rfl) | exact .inr (.inr rfl)) rfl rfl) (k_len C (a_cons (k_var 0 rfl (by first | exact .inl rfl | exact .inr (.inl rfl) | exact .inr (.inr rfl)) rfl rfl) a_nil rfl) rfl rfl (T.z_len) rfl) rfl) (w_and1 (t_val C (p_ix C (p_ix C (k_var 0 rfl (by first | exact .inl rfl | exact .inr (.inl rfl) | exact .inr (.inr rfl)) rfl rfl) (k_var 1 rfl (by first | exact .inl rfl | exact .inr (.inl rfl) | exact .inr (.inr rfl)) rfl rfl) (fun _ _ => rfl)) (k_int C) (fun _ _ => rfl)) (fun _ => rfl))))) (ss_cons (s_asgO (i := 1) C rfl (by first | exact .inl rfl | exact .inr rfl) (p_bin (op := .add) C (k_var 1 rfl (by first | exact .inl rfl | exact .inr (.inl rfl) | exact .inr (.inr rfl)) rfl rfl) (k_int C)) rfl (by first | exact .inr rfl | exact .inl rfl))
  ss_nil))
  (ss_cons (s_ret (k_var 1 rfl (by first | exact .inl rfl | exact .inr (.inl rfl) | exact .inr (.inr rfl)) rfl rfl))
  ss_nil)))
abbrev s_later_bounds : Stmt := topS 20
theorem sc_later_bounds : FnScope ["log", "begun", "at", "low", "high", "since", "time", "is_passed"] ["log"] (defScope s_later_bounds) := ⟨rfl, rfl, rfl, by decide +kernel, rfl, by decide +kernel, by decide +kernel⟩
theorem ok_later_bounds {k : Nat} {f : Addr} {fd : FuncData} (T : Txt g mg) (F : Fun g.K "later_bounds" "later_bounds" s_later_bounds f fd) (c_first_passes : Cal P w mg base g k "first_passes" 1 F_first_passes) : FnOk P w g.K mg base CX0 (k + 1) f fd ["log"] (spF g 1 F_later_bounds) := by
  refine def_fn (fs := [F_first_passes]) F sc_later_bounds rfl rfl T.tt fun cdv A outer s H E hr C => ?_
  exact (ss_cons (s_asgO (i := 1) C rfl (by first | exact .inl rfl | exact .inr rfl) (c_call c_first_passes C rfl rfl hr rfl (aw_cons (k_var 0 rfl (by first | exact .inl rfl | exact .inr (.inl rfl) | exact .inr (.inr rfl)) rfl rfl) aw_nil rfl) rfl rfl rfl) rfl (by first | exact .inr rfl | exact .inl rfl))
  (ss_cons (s_ite (t_cmp (op := .eq) C (k_var 1 rfl (by first | exact .inl rfl | exact .inr (.inl rfl) | exact .inr (.inr rfl)) rfl rfl) (k_int C) rfl) (ss_cons (s_ret (p_tup C (a_cons (k_int C) (a_cons (k_gint C T.g_MOST_WAIT rfl rfl) (a_cons (p_ite (t_cmp (op := .eq) C (k_var 0 rfl (by first | exact .inl rfl | exact .inr (.inl rfl) | exact .inr (.inr rfl)) rfl rfl) (p_lst C a_nil) rfl) (k_non C) (k_int C)) a_nil rfl) rfl) rfl)))
  ss_nil) ss_nil)
  (ss_cons (s_par3 (i := 3) (j := 4) (l := 5) C rfl rfl rfl (by decide) (by decide) (by decide) rfl rfl rfl (an_cons C (k_int C) (an_cons C (k_gint C T.g_MOST_WAIT rfl rfl) (an_cons C (p_ix C (p_ix C (k_var 0 rfl (by first | exact .inl rfl | exact .inr (.inl rfl) | exact .inr (.inr rfl)) rfl rfl) (p_bin (op := .sub) C (k_var 1 rfl (by first | exact .inl rfl | exact .inr (.inl rfl) | exact .inr (.inr rfl)) rfl rfl) (k_int C)) (fun _ _ => rfl)) (k_int C) (fun _ _ => rfl)) an_nil rfl) rfl) rfl) rfl rfl)
  (ss_cons (s_for C PassesOwn.never (i_rng2 C rfl (T.z_range) (a_cons (k_var 1 rfl (by first | exact .inl rfl | exact .inr (.inl rfl) | exact .inr (.inr rfl)) rfl rfl) (a_cons (k_len C (a_cons (k_var 0 rfl (by first | exact .inl rfl | exact .inr (.inl rfl) | exact .inr (.inr rfl)) rfl rfl) a_nil rfl) rfl rfl (T.z_len) rfl) a_nil rfl) rfl) rfl rfl) (tg_nm (pg_name (i := 2) C.nd rfl (by first | exact .inl rfl | exact .inr rfl) (by first | exact .inr rfl | exact .inl rfl))) (ss_cons (s_asg (p_ix C (k_var 0 rfl (by first | exact .inl rfl | exact .inr (.inl rfl) | exact .inr (.inr rfl)) rfl rfl) (k_var 2 rfl (by first | exact .inl rfl | exact .inr (.inl rfl) | exact .inr (.inr rfl)) rfl rfl) (fun _ _ => rfl)) (tgp C (tgs_cons (tg_nm (pg_name (i := 6) C.nd rfl (by first | exact .inl rfl | exact .inr rfl) (by first | exact .inr rfl | exact .inl rfl))) (tgs_cons (tg_nm (pg_name (i := 7) C.nd rfl (by first | exact .inl rfl | exact .inr rfl) (by first | exact .inr rfl | exact .inl rfl))) tgs_nil rfl) rfl) rfl rfl) rfl rfl rfl)
  (ss_cons (s_ite (t_val C (k_var 7 rfl (by first | exact .inl rfl | exact .inr (.inl rfl) | exact .inr (.inr rfl)) rfl rfl) (fun _ => rfl)) (ss_cons (s_par2 (i := 4) (j := 5) C rfl rfl (by decide) rfl rfl (an_cons C (k_min2 C (a_cons (k_var 4 rfl (by first | exact .inl rfl | exact .inr (.inl rfl) | exact .inr (.inr rfl)) rfl rfl) (a_cons (p_bin (op := .sub) C (k_var 6 rfl (by first | exact .inl rfl | exact .inr (.inl rfl) | exact .inr (.inr rfl)) rfl rfl) (k_var 5 rfl (by first | exact .inl rfl | exact .inr (.inl rfl) | exact .inr (.inr rfl)) rfl rfl)) a_nil rfl) rfl) rfl rfl (T.z_min) rfl) (an_cons C (k_var 6 rfl (by first | exact .inl rfl | exact .inr (.inl rfl) | exact .inr (.inr rfl)) rfl rfl) an_nil rfl) rfl) rfl rfl)
  ss_nil) (ss_cons (s_asgO (i := 3) C rfl (by first | exact .inl rfl | exact .inr rfl) (k_max2 C (a_cons (k_var 3 rfl (by first | exact .inl rfl | exact .inr (.inl rfl) | exact .inr (.inr rfl)) rfl rfl) (a_cons (p_bin (op := .add) C (p_bin (op := .sub) C (k_var 6 rfl (by first | exact .inl rfl | exact .inr (.inl rfl) | exact .inr (.inr rfl)) rfl rfl) (k_var 5 rfl (by first | exact .inl rfl | exact .inr (.inl rfl) | exact .inr (.inr rfl)) rfl rfl)) (k_int C)) a_nil rfl) rfl) rfl rfl (T.z_max) rfl) rfl (by first | exact .inr rfl | exact .inl rfl))
  ss_nil))
  (ss_cons (s_ite (t_cmp (op := .gt) C (k_var 3 rfl (by first | exact .inl rfl | exact .inr (.inl rfl) | exact .inr (.inr rfl)) rfl rfl) (k_var 4 rfl (by first | exact .inl rfl | exact .inr (.inl rfl) | exact .inr (.inr rfl)) rfl rfl) rfl) (ss_cons (s_ret (p_tup C (a_cons (k_var 3 rfl (by first | exact .inl rfl | exact .inr (.inl rfl) | exact .inr (.inr rfl)) rfl rfl) (a_cons (k_var 4 rfl (by first | exact .inl rfl | exact .inr (.inl rfl) | exact .inr (.inr rfl)) rfl rfl) (a_cons (k_var 2 rfl (by first | exact .inl rfl | exact .inr (.inl rfl) | exact .inr (.inr rfl)) rfl rfl) a_nil rfl) rfl) rfl)))
  ss_nil) ss_nil)
  ss_nil))) (fun _ => rfl))
  (ss_cons (s_ret (p_tup C (a_cons (k_var 3 rfl (by first | exact .inl rfl | exact .inr (.inl rfl) | exact .inr (.inr rfl)) rfl rfl) (a_cons (k_var 4 rfl (by first | exact .inl rfl | exact .inr (.inl rfl) | exact .inr (.inr rfl)) rfl rfl) (a_cons (k_non C) a_nil rfl) rfl) rfl)))
  ss_nil)))))
abbrev s_first_conflict : Stmt := topS 21
theorem sc_first_conflict : FnScope ["log"] ["log"] (defScope s_first_conflict) := ⟨rfl, rfl, rfl, by decide +kernel, rfl, by decide +kernel, by decide +kernel⟩
theorem ok_first_conflict {k : Nat} {f : Addr} {fd : FuncData} (T : Txt g mg) (F : Fun g.K "first_conflict" "first_conflict" s_first_conflict f fd) (c_check_log : Cal P w mg base g k "check_log" 1 F_check_log) (c_later_bounds : Cal P w mg base g k "later_bounds" 1 F_later_bounds) : FnOk P w g.K mg base CX0 (k + 1) f fd ["log"] (spF g 1 F_first_conflict) := by
  refine def_fn (fs := [F_check_log, F_later_bounds]) F sc_first_conflict rfl rfl T.tt fun cdv A outer s H E hr C => ?_
  exact (ss_cons (s_expr (c_call c_check_log C rfl rfl hr rfl (aw_cons (k_var 0 rfl (by first | exact .inl rfl | exact .inr (.inl rfl) | exact .inr (.inr rfl)) rfl rfl) aw_nil rfl) rfl rfl rfl) rfl)
  (ss_cons (s_ret (p_ix C (c_call c_later_bounds C rfl rfl hr rfl (aw_cons (k_var 0 rfl (by first | exact .inl rfl | exact .inr (.inl rfl) | exact .inr (.inr rfl)) rfl rfl) aw_nil rfl) rfl rfl rfl) (k_int C) (fun _ _ => rfl)))
  ss_nil))
abbrev s_InvalidLog___init__ : Stmt := inClass (topS 8) 0
theorem sc_InvalidLog___init__ : FnScope ["self", "at"] ["self", "at"] (defScope s_InvalidLog___init__) := ⟨rfl, rfl, rfl, by decide +kernel, rfl, by decide +kernel, by decide +kernel⟩
theorem ok_InvalidLog___init__ {k : Nat} {f : Addr} {fd : FuncData} (T : Txt g mg) (F : Fun g.K "__init__" "InvalidLog.__init__" s_InvalidLog___init__ f fd) : FnOk P w g.K mg base CX0 (k + 1) f fd ["self", "at"] (spI g 15 ["at"]) := by
  refine F.ok sc_InvalidLog___init__ (fun vs H Q E h => spI_len h) fun cdv A outer s H vs Q E hr h => ?_
  exact ⟨_, pss_cons (ps_expr (pe_aei T.bx_BreakerError rfl T.n_BreakerError rfl (pa_cons (pe_var (i := 0) rfl (.inl rfl) rfl rfl) (pa_cons pe_str pa_nil rfl) rfl) rfl rfl rfl) rfl) (pss_cons (ps_aes (pe_var (i := 0) rfl (.inl rfl) rfl rfl) (pe_var (i := 1) rfl (.inl rfl) rfl rfl) rfl) pss_nil), xin1 T.ax_InvalidLog T.tx_InvalidLog_at h⟩
abbrev s_check_log_x : Stmt := topS 18
theorem sc_check_log_x : FnScope ["log", "at", "entry"] ["log"] (defScope s_check_log_x) := ⟨rfl, rfl, rfl, by decide +kernel, rfl, by decide +kernel, by decide +kernel⟩
theorem ok_check_log_x {k : Nat} {f : Addr} {fd : FuncData} (T : Txt g mg) (F : Fun g.K "check_log" "check_log" s_check_log_x f fd) (xc_InvalidLog : XCls P w mg base g k 15 "InvalidLog" ["at"]) (c_is_entry : Cal P w mg base g k "is_entry" 1 F_is_entry) : FnOk P w g.K mg base (L2.CX P w) (k + 2) f fd ["log"] (spX g 1 F_check_log_x) := by
  refine def_fnX (fs := [F_is_entry]) F sc_check_log_x rfl rfl T.tt fun cdv A outer s H E hr1 C tk hp => ?_
  have hr := hr1.mono (Nat.le_succ k)
  exact (ss_cons (s_ite (PW.pt (w_or (t_not (t_val C (p_isi (t := .list) C (k_var 0 rfl (by first | exact .inl rfl | exact .inr (.inl rfl) | exact .inr (.inr rfl)) rfl rfl) (ty_list (T.z_list) rfl) rfl (T.z_isinstance) rfl rfl) (fun _ => rfl))) (w_or1 (t_cmp (op := .gt) C (k_len C (a_cons (k_var 0 rfl (by first | exact .inl rfl | exact .inr (.inl rfl) | exact .inr (.inr rfl)) rfl rfl) a_nil rfl) rfl rfl (T.z_len) rfl) (k_gint C T.g_MOST_ENTRIES rfl rfl) rfl)))) (ss_cons (s_rse xc_InvalidLog C tk hr1 rfl (a_cons (p_neg (k_int C)) a_nil rfl) rfl rfl rfl (by decide))
  ss_nil) ss_nil)
  (ss_cons (s_for C hp (i_enum C rfl (T.z_enumerate) (a_cons (k_var 0 rfl (by first | exact .inl rfl | exact .inr (.inl rfl) | exact .inr (.inr rfl)) rfl rfl) a_nil rfl) rfl) (tgp C (tgs_cons (tg_nm (pg_name (i := 1) C.nd rfl (by first | exact .inl rfl | exact .inr rfl) (by first | exact .inr rfl | exact .inl rfl))) (tgs_cons (tg_nm (pg_name (i := 2) C.nd rfl (by first | exact .inl rfl | exact .inr rfl) (by first | exact .inr rfl | exact .inl rfl))) tgs_nil rfl) rfl) rfl rfl) (ss_cons (s_ite (PW.pt (w_or (t_not (t_val C (c_call c_is_entry C rfl rfl hr rfl (aw_cons (k_var 2 rfl (by first | exact .inl rfl | exact .inr (.inl rfl) | exact .inr (.inr rfl)) rfl rfl) aw_nil rfl) rfl rfl rfl) (fun _ => rfl))) (w_or1 (PW.pt (w_and (t_cmp (op := .gt) C (k_var 1 rfl (by first | exact .inl rfl | exact .inr (.inl rfl) | exact .inr (.inr rfl)) rfl rfl) (k_int C) rfl) (w_and1 (t_cmp (op := .le) C (p_ix C (k_var 2 rfl (by first | exact .inl rfl | exact .inr (.inl rfl) | exact .inr (.inr rfl)) rfl rfl) (k_int C) (fun _ _ => rfl)) (p_ix C (p_ix C (k_var 0 rfl (by first | exact .inl rfl | exact .inr (.inl rfl) | exact .inr (.inr rfl)) rfl rfl) (p_bin (op := .sub) C (k_var 1 rfl (by first | exact .inl rfl | exact .inr (.inl rfl) | exact .inr (.inr rfl)) rfl rfl) (k_int C)) (fun _ _ => rfl)) (k_int C) (fun _ _ => rfl)) rfl))))))) (ss_cons (s_rse xc_InvalidLog C tk hr1 rfl (a_cons (k_var 1 rfl (by first | exact .inl rfl | exact .inr (.inl rfl) | exact .inr (.inr rfl)) rfl rfl) a_nil rfl) rfl rfl rfl (by decide))
  ss_nil) ss_nil)
  ss_nil) (fun _ => rfl))
  ss_nil))
abbrev s_InvalidTime___init__ : Stmt := inClass (topS 3) 0
theorem sc_InvalidTime___init__ : FnScope ["self", "time"] ["self", "time"] (defScope s_InvalidTime___init__) := ⟨rfl, rfl, rfl, by decide +kernel, rfl, by decide +kernel, by decide +kernel⟩
theorem ok_InvalidTime___init__ {k : Nat} {f : Addr} {fd : FuncData} (T : Txt g mg) (F : Fun g.K "__init__" "InvalidTime.__init__" s_InvalidTime___init__ f fd) : FnOk P w g.K mg base CX0 (k + 1) f fd ["self", "time"] (spI g 10 ["time"]) := by
  refine F.ok sc_InvalidTime___init__ (fun vs H Q E h => spI_len h) fun cdv A outer s H vs Q E hr h => ?_
  exact ⟨_, pss_cons (ps_expr (pe_aei T.bx_BreakerError rfl T.n_BreakerError rfl (pa_cons (pe_var (i := 0) rfl (.inl rfl) rfl rfl) (pa_cons pe_str pa_nil rfl) rfl) rfl rfl rfl) rfl) (pss_cons (ps_aes (pe_var (i := 0) rfl (.inl rfl) rfl rfl) (pe_var (i := 1) rfl (.inl rfl) rfl rfl) rfl) pss_nil), xin1 T.ax_InvalidTime T.tx_InvalidTime_time h⟩
abbrev s_forecast_x : Stmt := topS 22
theorem sc_forecast_x : FnScope ["log", "time", "since", "can_pass", "low", "high", "conflict", "entry"] ["log", "time"] (defScope s_forecast_x) := ⟨rfl, rfl, rfl, by decide +kernel, rfl, by decide +kernel, by decide +kernel⟩
theorem ok_forecast_x {k : Nat} {f : Addr} {fd : FuncData} (T : Txt g mg) (F : Fun g.K "forecast" "forecast" s_forecast_x f fd) (cx_check_log_x : CalX P w mg base g k "check_log" 1 F_check_log_x) (c_is_integer : Cal P w mg base g k "is_integer" 1 F_is_integer) (xc_InvalidTime : XCls P w mg base g k 10 "InvalidTime" ["time"]) (c_later_bounds : Cal P w mg base g k "later_bounds" 1 F_later_bounds) (xc_InvalidLog : XCls P w mg base g k 15 "InvalidLog" ["at"]) (c_first_passes : Cal P w mg base g k "first_passes" 1 F_first_passes) : FnOk P w g.K mg base (L2.CX P w) (k + 2) f fd ["log", "time"] (spX g 2 F_forecast_x) := by
  refine def_fnX (fs := [F_check_log_x, F_is_integer, F_later_bounds, F_first_passes]) F sc_forecast_x rfl rfl T.tt fun cdv A outer s H E hr1 C tk hp => ?_
  have hr := hr1.mono (Nat.le_succ k)
  exact (ss_cons (sx_drop (cx_call cx_check_log_x C tk rfl rfl hr rfl (aw_cons (k_var 0 rfl (by first | exact .inl rfl | exact .inr (.inl rfl) | exact .inr (.inr rfl)) rfl rfl) aw_nil rfl) rfl rfl rfl) rfl)
  (ss_cons (s_ite (PW.pt (w_or (t_not (t_val C (c_call c_is_integer C rfl rfl hr rfl (aw_cons (k_var 1 rfl (by first | exact .inl rfl | exact .inr (.inl rfl) | exact .inr (.inr rfl)) rfl rfl) aw_nil rfl) rfl rfl rfl) (fun _ => rfl))) (w_or (t_cmp (op := .lt) C (k_var 1 rfl (by first | exact .inl rfl | exact .inr (.inl rfl) | exact .inr (.inr rfl)) rfl rfl) (k_int C) rfl) (w_or1 (PW.pt (w_and (t_cmp (op := .ne) C (k_var 0 rfl (by first | exact .inl rfl | exact .inr (.inl rfl) | exact .inr (.inr rfl)) rfl rfl) (p_lst C a_nil) rfl) (w_and1 (t_cmp (op := .le) C (k_var 1 rfl (by first | exact .inl rfl | exact .inr (.inl rfl) | exact .inr (.inr rfl)) rfl rfl) (p_ix C (p_ix C (k_var 0 rfl (by first | exact .inl rfl | exact .inr (.inl rfl) | exact .inr (.inr rfl)) rfl rfl) (p_neg (k_int C)) (fun _ _ => rfl)) (k_int C) (fun _ _ => rfl)) rfl)))))))) (ss_cons (s_rse xc_InvalidTime C tk hr1 rfl (a_cons (k_var 1 rfl (by first | exact .inl rfl | exact .inr (.inl rfl) | exact .inr (.inr rfl)) rfl rfl) a_nil rfl) rfl rfl rfl (by decide))
  ss_nil) ss_nil)
  (ss_cons (s_asg (c_call c_later_bounds C rfl rfl hr rfl (aw_cons (k_var 0 rfl (by first | exact .inl rfl | exact .inr (.inl rfl) | exact .inr (.inr rfl)) rfl rfl) aw_nil rfl) rfl rfl rfl) (tgp C (tgs_cons (tg_nm (pg_name (i := 4) C.nd rfl (by first | exact .inl rfl | exact .inr rfl) (by first | exact .inr rfl | exact .inl rfl))) (tgs_cons (tg_nm (pg_name (i := 5) C.nd rfl (by first | exact .inl rfl | exact .inr rfl) (by first | exact .inr rfl | exact .inl rfl))) (tgs_cons (tg_nm (pg_name (i := 6) C.nd rfl (by first | exact .inl rfl | exact .inr rfl) (by first | exact .inr rfl | exact .inl rfl))) tgs_nil rfl) rfl) rfl) rfl rfl) rfl rfl rfl)
  (ss_cons (s_ite (t_cmp (op := .isnot) C (k_var 6 rfl (by first | exact .inl rfl | exact .inr (.inl rfl) | exact .inr (.inr rfl)) rfl rfl) (k_non C) rfl) (ss_cons (s_rse xc_InvalidLog C tk hr1 rfl (a_cons (k_var 6 rfl (by first | exact .inl rfl | exact .inr (.inl rfl) | exact .inr (.inr rfl)) rfl rfl) a_nil rfl) rfl rfl rfl (by decide))
  ss_nil) ss_nil)
  (ss_cons (s_ite (t_cmp (op := .eq) C (k_var 0 rfl (by first | exact .inl rfl | exact .inr (.inl rfl) | exact .inr (.inr rfl)) rfl rfl) (p_lst C a_nil) rfl) (ss_cons (s_ret (k_str C))
  ss_nil) ss_nil)
  (ss_cons (s_asgO (i := 2) C rfl (by first | exact .inl rfl | exact .inr rfl) (k_maxl C (a_cons (p_comp C (i_seq C (k_var 0 rfl (by first | exact .inl rfl | exact .inr (.inl rfl) | exact .inr (.inr rfl)) rfl rfl)) (blkOk_by (own := [("entry", 7)]) rfl) (fun _ _ _ _ _ => (tg_nm (pg_name (i := 7) (C.blk _ _ _ _ _).nd rfl (by first | exact .inl rfl | exact .inr rfl) (by first | exact .inr rfl | exact .inl rfl)))) (fun _ _ _ _ _ => (c_one (t_val (by first | exact ((C.blk _ _ _ _ _)).c0 | exact (C.blk _ _ _ _ _)) (p_ix (by first | exact ((C.blk _ _ _ _ _)).c0 | exact (C.blk _ _ _ _ _)) (k_var 7 rfl (by first | exact .inl rfl | exact .inr (.inl rfl) | exact .inr (.inr rfl)) rfl rfl) (k_int (by first | exact ((C.blk _ _ _ _ _)).c0 | exact (C.blk _ _ _ _ _))) (fun _ _ => rfl)) (fun _ => rfl)))) (fun _ _ _ _ _ => (p_ix (by first | exact ((C.blk _ _ _ _ _)).c0 | exact (C.blk _ _ _ _ _)) (k_var 7 rfl (by first | exact .inl rfl | exact .inr (.inl rfl) | exact .inr (.inr rfl)) rfl rfl) (k_int (by first | exact ((C.blk _ _ _ _ _)).c0 | exact (C.blk _ _ _ _ _))) (fun _ _ => rfl))) (fun _ => rfl)) a_nil rfl) rfl rfl (T.z_max) rfl) rfl (by first | exact .inr rfl | exact .inl rfl))
  (ss_cons (s_asgO (i := 3) C rfl (by first | exact .inl rfl | exact .inr rfl) (p_or C (p_cmp (op := .eq) C (c_call c_first_passes C rfl rfl hr rfl (aw_cons (k_var 0 rfl (by first | exact .inl rfl | exact .inr (.inl rfl) | exact .inr (.inr rfl)) rfl rfl) aw_nil rfl) rfl rfl rfl) (k_len C (a_cons (k_var 0 rfl (by first | exact .inl rfl | exact .inr (.inl rfl) | exact .inr (.inr rfl)) rfl rfl) a_nil rfl) rfl rfl (T.z_len) rfl) rfl) (p_one (p_cmp (op := .le) C (k_var 4 rfl (by first | exact .inl rfl | exact .inr (.inl rfl) | exact .inr (.inr rfl)) rfl rfl) (p_bin (op := .sub) C (k_var 1 rfl (by first | exact .inl rfl | exact .inr (.inl rfl) | exact .inr (.inr rfl)) rfl rfl) (k_var 2 rfl (by first | exact .inl rfl | exact .inr (.inl rfl) | exact .inr (.inr rfl)) rfl rfl)) rfl))) rfl (by first | exact .inr rfl | exact .inl rfl))
  (ss_cons (s_ite (t_not (t_val C (k_var 3 rfl (by first | exact .inl rfl | exact .inr (.inl rfl) | exact .inr (.inr rfl)) rfl rfl) (fun _ => rfl))) (ss_cons (s_ret (k_str C))
  ss_nil) ss_nil)
  (ss_cons (s_ret (p_ite (t_cmp (op := .gt) C (k_var 5 rfl (by first | exact .inl rfl | exact .inr (.inl rfl) | exact .inr (.inr rfl)) rfl rfl) (p_bin (op := .sub) C (k_var 1 rfl (by first | exact .inl rfl | exact .inr (.inl rfl) | exact .inr (.inr rfl)) rfl rfl) (k_var 2 rfl (by first | exact .inl rfl | exact .inr (.inl rfl) | exact .inr (.inr rfl)) rfl rfl)) rfl) (k_str C) (k_str C)))
  ss_nil)))))))))
abbrev s__law_said : Stmt := topS 28
theorem sc__law_said : FnScope ["_law_deed", "_law_found", "e", "_law_kinds", "_law_others"] ["_law_deed"] (defScope s__law_said) := ⟨rfl, rfl, rfl, by decide +kernel, rfl, by decide +kernel, by decide +kernel⟩
theorem nodup__law_said : (["_law_deed", "_law_found", "e", "_law_kinds", "_law_others"] : List Str).Nodup := by decide +kernel
theorem gv__law_said {X : Cx} {g0 : Addr} {cdg : Value} {q : Str} {k : Nat} (T : Txt g X.mg) (hK : X.K = g.K) (hr : Room (k + 2) X.A) : LamX.GivesTo X ["_law_deed", "_law_found", "e", "_law_kinds", "_law_others"] "_law_said" (defScope s__law_said) g0 cdg (defBody s__law_said) "_law_deed" q (TTs g [] D0__law_said SD__law_said) := by
  refine said_gives (nn := 5) (ie := 2) (i2 := I2__law_said) (im := IM__law_said) (iq := IQ__law_said) T.tt rfl (by decide) rfl (by decide) rfl rfl T.n_BreakerError rfl (all_cons (hK.symm ▸ T.xm_InvalidLog_BreakerError) (all_cons (hK.symm ▸ T.xm_InvalidTime_BreakerError) (all_nil _))) ?_ ?_ ?_ ?_ ?_ (fun _ _ => rfl)
  · intro s H
    have C : Cok g (cxS X ["_law_deed", "_law_found", "e", "_law_kinds", "_law_others"] "_law_said" (defScope s__law_said) g0 cdg s H).nox := ⟨hK, rfl, (hr.deeper _).units, nodup__law_said, T.tt⟩
    exact (s_asgO (i := 1) C rfl (by first | exact .inl rfl | exact .inr rfl) (k_non C) rfl (by first | exact .inr rfl | exact .inl rfl))
  · intro s H
    have C : Cok g (cxS X ["_law_deed", "_law_found", "e", "_law_kinds", "_law_others"] "_law_said" (defScope s__law_said) g0 cdg s H).nox := ⟨hK, rfl, (hr.deeper _).units, nodup__law_said, T.tt⟩
    exact (s_ret (k_var 1 rfl (by first | exact .inl rfl | exact .inr (.inl rfl) | exact .inr (.inr rfl)) rfl rfl))
  · intro s H pn xe
    have C : Cok g ((cxS X ["_law_deed", "_law_found", "e", "_law_kinds", "_law_others"] "_law_said" (defScope s__law_said) g0 cdg s H).nox.tr pn xe) := ⟨hK, rfl, (hr.deeper _).units, nodup__law_said, T.tt⟩
    exact ss_nil
  · intro s H e oe pn c dd hz hf
    have C1 : Cok g (cxS X ["_law_deed", "_law_found", "e", "_law_kinds", "_law_others"] "_law_said" (defScope s__law_said) g0 cdg s H).nox := ⟨hK, rfl, (hr.deeper _).units, nodup__law_said, T.tt⟩
    have C : Cok0 (gE g c e dd) ((cxS X ["_law_deed", "_law_found", "e", "_law_kinds", "_law_others"] "_law_said" (defScope s__law_said) g0 cdg s H).nox.suite e ((e, oe) :: pn)) := ⟨hK, C1.hu, nodup__law_said⟩
    exact (ss_cons (s_asg (p_lst C (a_cons (p_xis (all := [15, 10]) (cs := []) (all_cons ⟨T.xe_InvalidLog, T.xk_InvalidLog_InvalidRow⟩ (all_cons ⟨T.xe_InvalidTime, T.xk_InvalidTime_InvalidRow⟩ (all_nil _))) (.own _) hK hz hf (pe_var (i := 2) rfl (by first | exact .inl rfl | exact .inr (.inl rfl) | exact .inr (.inr rfl)) rfl rfl) (pe_glob (v := .ref (g.cl 9)) rfl T.n_InvalidRow rfl rfl) rfl (T.z_isinstance) rfl rfl) (a_cons (p_xis (all := [15, 10]) (cs := [10]) (all_cons ⟨T.xe_InvalidLog, T.xk_InvalidLog_InvalidTime⟩ (all_cons ⟨T.xe_InvalidTime, T.xk_InvalidTime_InvalidTime⟩ (all_nil _))) (.own _) hK hz hf (pe_var (i := 2) rfl (by first | exact .inl rfl | exact .inr (.inl rfl) | exact .inr (.inr rfl)) rfl rfl) (pe_glob (v := .ref (g.cl 10)) rfl T.n_InvalidTime rfl rfl) rfl (T.z_isinstance) rfl rfl) (a_cons (p_xis (all := [15, 10]) (cs := []) (all_cons ⟨T.xe_InvalidLog, T.xk_InvalidLog_InvalidOutages⟩ (all_cons ⟨T.xe_InvalidTime, T.xk_InvalidTime_InvalidOutages⟩ (all_nil _))) (.own _) hK hz hf (pe_var (i := 2) rfl (by first | exact .inl rfl | exact .inr (.inl rfl) | exact .inr (.inr rfl)) rfl rfl) (pe_glob (v := .ref (g.cl 11)) rfl T.n_InvalidOutages rfl rfl) rfl (T.z_isinstance) rfl rfl) a_nil rfl) rfl) rfl)) (tg_nm (pg_name (i := 3) C.nd rfl (by first | exact .inl rfl | exact .inr rfl) (by first | exact .inr rfl | exact .inl rfl))) rfl rfl rfl)
  (ss_cons (s_asg (p_bin (op := .add) C (k_var 3 rfl (by first | exact .inl rfl | exact .inr (.inl rfl) | exact .inr (.inr rfl)) rfl rfl) (p_lst C (a_cons (p_xis (all := [15, 10]) (cs := []) (all_cons ⟨T.xe_InvalidLog, T.xk_InvalidLog_InvalidIndex⟩ (all_cons ⟨T.xe_InvalidTime, T.xk_InvalidTime_InvalidIndex⟩ (all_nil _))) (.own _) hK hz hf (pe_var (i := 2) rfl (by first | exact .inl rfl | exact .inr (.inl rfl) | exact .inr (.inr rfl)) rfl rfl) (pe_glob (v := .ref (g.cl 13)) rfl T.n_InvalidIndex rfl rfl) rfl (T.z_isinstance) rfl rfl) (a_cons (p_xis (all := [15, 10]) (cs := []) (all_cons ⟨T.xe_InvalidLog, T.xk_InvalidLog_InvalidBound⟩ (all_cons ⟨T.xe_InvalidTime, T.xk_InvalidTime_InvalidBound⟩ (all_nil _))) (.own _) hK hz hf (pe_var (i := 2) rfl (by first | exact .inl rfl | exact .inr (.inl rfl) | exact .inr (.inr rfl)) rfl rfl) (pe_glob (v := .ref (g.cl 14)) rfl T.n_InvalidBound rfl rfl) rfl (T.z_isinstance) rfl rfl) (a_cons (p_xis (all := [15, 10]) (cs := [15]) (all_cons ⟨T.xe_InvalidLog, T.xk_InvalidLog_InvalidLog⟩ (all_cons ⟨T.xe_InvalidTime, T.xk_InvalidTime_InvalidLog⟩ (all_nil _))) (.own _) hK hz hf (pe_var (i := 2) rfl (by first | exact .inl rfl | exact .inr (.inl rfl) | exact .inr (.inr rfl)) rfl rfl) (pe_glob (v := .ref (g.cl 15)) rfl T.n_InvalidLog rfl rfl) rfl (T.z_isinstance) rfl rfl) a_nil rfl) rfl) rfl))) (tg_nm (pg_name (i := 3) C.nd rfl (by first | exact .inl rfl | exact .inr rfl) (by first | exact .inr rfl | exact .inl rfl))) rfl rfl rfl)
  (ss_cons (s_asgO (i := 4) C rfl (by first | exact .inl rfl | exact .inr rfl) (p_xit (all := [15, 10]) (cs := []) (all_cons ⟨T.xe_InvalidLog, T.xt_InvalidLog__InvalidTrains_InvalidCall_InvalidText_LimitExceeded⟩ (all_cons ⟨T.xe_InvalidTime, T.xt_InvalidTime__InvalidTrains_InvalidCall_InvalidText_LimitExceeded⟩ (all_nil _))) (.cons (.own _) (.cons (.own _) (.cons (.own _) (.cons (.own _) .nil)))) hK hz hf (pe_var (i := 2) rfl (by first | exact .inl rfl | exact .inr (.inl rfl) | exact .inr (.inr rfl)) rfl rfl) (cs_cons (pe_glob (v := .ref (g.cl 12)) rfl T.n_InvalidTrains rfl rfl) (cs_cons (pe_glob (v := .ref (g.cl 16)) rfl T.n_InvalidCall rfl rfl) (cs_cons (pe_glob (v := .ref (g.cl 17)) rfl T.n_InvalidText rfl rfl) (cs_cons (pe_glob (v := .ref (g.cl 18)) rfl T.n_LimitExceeded rfl rfl) cs_nil rfl) rfl) rfl) rfl) (show 4 ≤ 16777216 by decide) rfl (T.z_isinstance) rfl rfl) rfl (by first | exact .inr rfl | exact .inl rfl))
  (ss_cons (s_ite (PW.pt (w_or (t_cmp (op := .ne) C (p_cnt C (k_var 3 rfl (by first | exact .inl rfl | exact .inr (.inl rfl) | exact .inr (.inr rfl)) rfl rfl) (k_bl C) rfl rfl rfl) (k_int C) rfl) (w_or (t_val C (k_var 4 rfl (by first | exact .inl rfl | exact .inr (.inl rfl) | exact .inr (.inr rfl)) rfl rfl) (fun _ => rfl)) (w_or1 (t_not (t_val C (p_xis (all := [15, 10]) (cs := [15, 10]) (all_cons ⟨T.xe_InvalidLog, T.xk_InvalidLog_ArithmeticError⟩ (all_cons ⟨T.xe_InvalidTime, T.xk_InvalidTime_ArithmeticError⟩ (all_nil _))) (.ty _) hK hz hf (pe_var (i := 2) rfl (by first | exact .inl rfl | exact .inr (.inl rfl) | exact .inr (.inr rfl)) rfl rfl) (pe_bltn (v := .ty "ArithmeticError") rfl (T.z_ArithmeticError) PyProof.Rows.Boot.«ArithmeticError» rfl (by decide) rfl) rfl (T.z_isinstance) rfl rfl) (fun _ => rfl))))))) (ss_cons (s_asgO (i := 1) C rfl (by first | exact .inl rfl | exact .inr rfl) (k_str C) rfl (by first | exact .inr rfl | exact .inl rfl))
  ss_nil) (ss_cons (s_ite (t_val C (p_ix C (k_var 3 rfl (by first | exact .inl rfl | exact .inr (.inl rfl) | exact .inr (.inr rfl)) rfl rfl) (k_int C) (fun _ _ => rfl)) (fun _ => rfl)) (ss_cons (s_asgO (i := 1) C rfl (by first | exact .inl rfl | exact .inr rfl) (p_tup C (a_cons (k_str C) (a_cons p_stuck (a_cons (p_xfld (all := [15]) (all_cons ⟨T.xf_InvalidLog, T.xn_InvalidLog_at⟩ (all_nil _)) hK hz hf (pe_var (i := 2) rfl (by first | exact .inl rfl | exact .inr (.inl rfl) | exact .inr (.inr rfl)) rfl rfl) rfl) a_nil rfl) rfl) rfl)) rfl (by first | exact .inr rfl | exact .inl rfl))
  ss_nil) (ss_cons (s_ite (PW.pt (w_or (t_val C (p_ix C (k_var 3 rfl (by first | exact .inl rfl | exact .inr (.inl rfl) | exact .inr (.inr rfl)) rfl rfl) (k_int C) (fun _ _ => rfl)) (fun _ => rfl)) (w_or1 (t_val C (p_ix C (k_var 3 rfl (by first | exact .inl rfl | exact .inr (.inl rfl) | exact .inr (.inr rfl)) rfl rfl) (k_int C) (fun _ _ => rfl)) (fun _ => rfl))))) (ss_cons (s_asgO (i := 1) C rfl (by first | exact .inl rfl | exact .inr rfl) (p_ite (t_val C (p_ix C (k_var 3 rfl (by first | exact .inl rfl | exact .inr (.inl rfl) | exact .inr (.inr rfl)) rfl rfl) (k_int C) (fun _ _ => rfl)) (fun _ => rfl)) (p_tup C (a_cons (k_str C) (a_cons p_stuck a_nil rfl) rfl)) (p_tup C (a_cons (k_str C) (a_cons p_stuck a_nil rfl) rfl))) rfl (by first | exact .inr rfl | exact .inl rfl))
  ss_nil) (ss_cons (s_ite (PW.pt (w_or (t_val C (p_ix C (k_var 3 rfl (by first | exact .inl rfl | exact .inr (.inl rfl) | exact .inr (.inr rfl)) rfl rfl) (k_int C) (fun _ _ => rfl)) (fun _ => rfl)) (w_or1 (t_val C (p_ix C (k_var 3 rfl (by first | exact .inl rfl | exact .inr (.inl rfl) | exact .inr (.inr rfl)) rfl rfl) (k_int C) (fun _ _ => rfl)) (fun _ => rfl))))) (ss_cons (s_asgO (i := 1) C rfl (by first | exact .inl rfl | exact .inr rfl) (p_tup C (a_cons (p_ite (t_val C (p_ix C (k_var 3 rfl (by first | exact .inl rfl | exact .inr (.inl rfl) | exact .inr (.inr rfl)) rfl rfl) (k_int C) (fun _ _ => rfl)) (fun _ => rfl)) (k_str C) (k_str C)) (a_cons (p_xfld (all := [15]) (all_cons ⟨T.xf_InvalidLog, T.xn_InvalidLog_at⟩ (all_nil _)) hK hz hf (pe_var (i := 2) rfl (by first | exact .inl rfl | exact .inr (.inl rfl) | exact .inr (.inr rfl)) rfl rfl) rfl) a_nil rfl) rfl)) rfl (by first | exact .inr rfl | exact .inl rfl))
  ss_nil) (ss_cons (s_asgO (i := 1) C rfl (by first | exact .inl rfl | exact .inr rfl) (p_tup C (a_cons (k_str C) (a_cons p_stuck a_nil rfl) rfl)) rfl (by first | exact .inr rfl | exact .inl rfl))
  ss_nil))
  ss_nil))
  ss_nil))
  ss_nil))
  ss_nil))))
  · simp only [saidN, nxP, retD, I2__law_said, IM__law_said, IQ__law_said, D0__law_said, plainG, noE, DV.SC, DV.SE, DV.SX] <;> rfl
abbrev s_forecast : Stmt := topS 22
theorem sc_forecast : FnScope ["log", "time", "since", "can_pass", "low", "high", "conflict", "entry"] ["log", "time"] (defScope s_forecast) := ⟨rfl, rfl, rfl, by decide +kernel, rfl, by decide +kernel, by decide +kernel⟩
theorem ok_forecast {k : Nat} {f : Addr} {fd : FuncData} (T : Txt g mg) (F : Fun g.K "forecast" "forecast" s_forecast f fd) (c_check_log : Cal P w mg base g k "check_log" 1 F_check_log) (c_is_integer : Cal P w mg base g k "is_integer" 1 F_is_integer) (c_later_bounds : Cal P w mg base g k "later_bounds" 1 F_later_bounds) (c_first_passes : Cal P w mg base g k "first_passes" 1 F_first_passes) : FnOk P w g.K mg base CX0 (k + 1) f fd ["log", "time"] (spF g 2 F_forecast) := by
  refine def_fn (fs := [F_check_log, F_is_integer, F_later_bounds, F_first_passes]) F sc_forecast rfl rfl T.tt fun cdv A outer s H E hr C => ?_
  exact (ss_cons (s_expr (c_call c_check_log C rfl rfl hr rfl (aw_cons (k_var 0 rfl (by first | exact .inl rfl | exact .inr (.inl rfl) | exact .inr (.inr rfl)) rfl rfl) aw_nil rfl) rfl rfl rfl) rfl)
  (ss_cons (s_ite (PW.pt (w_or (t_not (t_val C (c_call c_is_integer C rfl rfl hr rfl (aw_cons (k_var 1 rfl (by first | exact .inl rfl | exact .inr (.inl rfl) | exact .inr (.inr rfl)) rfl rfl) aw_nil rfl) rfl rfl rfl) (fun _ => rfl))) (w_or (t_cmp (op := .lt) C (k_var 1 rfl (by first | exact .inl rfl | exact .inr (.inl rfl) | exact .inr (.inr rfl)) rfl rfl) (k_int C) rfl) (w_or1 (PW.pt (w_and (t_cmp (op := .ne) C (k_var 0 rfl (by first | exact .inl rfl | exact .inr (.inl rfl) | exact .inr (.inr rfl)) rfl rfl) (p_lst C a_nil) rfl) (w_and1 (t_cmp (op := .le) C (k_var 1 rfl (by first | exact .inl rfl | exact .inr (.inl rfl) | exact .inr (.inr rfl)) rfl rfl) (p_ix C (p_ix C (k_var 0 rfl (by first | exact .inl rfl | exact .inr (.inl rfl) | exact .inr (.inr rfl)) rfl rfl) (p_neg (k_int C)) (fun _ _ => rfl)) (k_int C) (fun _ _ => rfl)) rfl)))))))) (ss_cons s_stuck
  ss_nil) ss_nil)
  (ss_cons (s_asg (c_call c_later_bounds C rfl rfl hr rfl (aw_cons (k_var 0 rfl (by first | exact .inl rfl | exact .inr (.inl rfl) | exact .inr (.inr rfl)) rfl rfl) aw_nil rfl) rfl rfl rfl) (tgp C (tgs_cons (tg_nm (pg_name (i := 4) C.nd rfl (by first | exact .inl rfl | exact .inr rfl) (by first | exact .inr rfl | exact .inl rfl))) (tgs_cons (tg_nm (pg_name (i := 5) C.nd rfl (by first | exact .inl rfl | exact .inr rfl) (by first | exact .inr rfl | exact .inl rfl))) (tgs_cons (tg_nm (pg_name (i := 6) C.nd rfl (by first | exact .inl rfl | exact .inr rfl) (by first | exact .inr rfl | exact .inl rfl))) tgs_nil rfl) rfl) rfl) rfl rfl) rfl rfl rfl)
  (ss_cons (s_ite (t_cmp (op := .isnot) C (k_var 6 rfl (by first | exact .inl rfl | exact .inr (.inl rfl) | exact .inr (.inr rfl)) rfl rfl) (k_non C) rfl) (ss_cons s_stuck
  ss_nil) ss_nil)
  (ss_cons (s_ite (t_cmp (op := .eq) C (k_var 0 rfl (by first | exact .inl rfl | exact .inr (.inl rfl) | exact .inr (.inr rfl)) rfl rfl) (p_lst C a_nil) rfl) (ss_cons (s_ret (k_str C))
  ss_nil) ss_nil)
  (ss_cons (s_asgO (i := 2) C rfl (by first | exact .inl rfl | exact .inr rfl) (k_maxl C (a_cons (p_comp C (i_seq C (k_var 0 rfl (by first | exact .inl rfl | exact .inr (.inl rfl) | exact .inr (.inr rfl)) rfl rfl)) (blkOk_by (own := [("entry", 7)]) rfl) (fun _ _ _ _ _ => (tg_nm (pg_name (i := 7) (C.blk _ _ _ _ _).nd rfl (by first | exact .inl rfl | exact .inr rfl) (by first | exact .inr rfl | exact .inl rfl)))) (fun _ _ _ _ _ => (c_one (t_val (by first | exact ((C.blk _ _ _ _ _)).c0 | exact (C.blk _ _ _ _ _)) (p_ix (by first | exact ((C.blk _ _ _ _ _)).c0 | exact (C.blk _ _ _ _ _)) (k_var 7 rfl (by first | exact .inl rfl | exact .inr (.inl rfl) | exact .inr (.inr rfl)) rfl rfl) (k_int (by first | exact ((C.blk _ _ _ _ _)).c0 | exact (C.blk _ _ _ _ _))) (fun _ _ => rfl)) (fun _ => rfl)))) (fun _ _ _ _ _ => (p_ix (by first | exact ((C.blk _ _ _ _ _)).c0 | exact (C.blk _ _ _ _ _)) (k_var 7 rfl (by first | exact .inl rfl | exact .inr (.inl rfl) | exact .inr (.inr rfl)) rfl rfl) (k_int (by first | exact ((C.blk _ _ _ _ _)).c0 | exact (C.blk _ _ _ _ _))) (fun _ _ => rfl))) (fun _ => rfl)) a_nil rfl) rfl rfl (T.z_max) rfl) rfl (by first | exact .inr rfl | exact .inl rfl))
  (ss_cons (s_asgO (i := 3) C rfl (by first | exact .inl rfl | exact .inr rfl) (p_or C (p_cmp (op := .eq) C (c_call c_first_passes C rfl rfl hr rfl (aw_cons (k_var 0 rfl (by first | exact .inl rfl | exact .inr (.inl rfl) | exact .inr (.inr rfl)) rfl rfl) aw_nil rfl) rfl rfl rfl) (k_len C (a_cons (k_var 0 rfl (by first | exact .inl rfl | exact .inr (.inl rfl) | exact .inr (.inr rfl)) rfl rfl) a_nil rfl) rfl rfl (T.z_len) rfl) rfl) (p_one (p_cmp (op := .le) C (k_var 4 rfl (by first | exact .inl rfl | exact .inr (.inl rfl) | exact .inr (.inr rfl)) rfl rfl) (p_bin (op := .sub) C (k_var 1 rfl (by first | exact .inl rfl | exact .inr (.inl rfl) | exact .inr (.inr rfl)) rfl rfl) (k_var 2 rfl (by first | exact .inl rfl | exact .inr (.inl rfl) | exact .inr (.inr rfl)) rfl rfl)) rfl))) rfl (by first | exact .inr rfl | exact .inl rfl))
  (ss_cons (s_ite (t_not (t_val C (k_var 3 rfl (by first | exact .inl rfl | exact .inr (.inl rfl) | exact .inr (.inr rfl)) rfl rfl) (fun _ => rfl))) (ss_cons (s_ret (k_str C))
  ss_nil) ss_nil)
  (ss_cons (s_ret (p_ite (t_cmp (op := .gt) C (k_var 5 rfl (by first | exact .inl rfl | exact .inr (.inl rfl) | exact .inr (.inr rfl)) rfl rfl) (p_bin (op := .sub) C (k_var 1 rfl (by first | exact .inl rfl | exact .inr (.inl rfl) | exact .inr (.inr rfl)) rfl rfl) (k_var 2 rfl (by first | exact .inl rfl | exact .inr (.inl rfl) | exact .inr (.inr rfl)) rfl rfl)) rfl) (k_str C) (k_str C)))
  ss_nil)))))))))
abbrev s__law_next : Stmt := topS 33
theorem sc__law_next : FnScope ["_law_log_here", "_law_most", "_law_time", "_law_times", "_law_words", "_law_failures", "_law_wait", "_law_one_here", "_law_is_passed"] ["_law_log_here", "_law_most", "_law_time"] (defScope s__law_next) := ⟨rfl, rfl, rfl, by decide +kernel, rfl, by decide +kernel, by decide +kernel⟩
theorem ok__law_next {k : Nat} {f : Addr} {fd : FuncData} (T : Txt g mg) (F : Fun g.K "_law_next" "_law_next" s__law_next f fd) (c__law_fits : Cal P w mg base g k "_law_fits" 2 F__law_fits) (c__law_log : Cal P w mg base g k "_law_log" 2 F__law_log) : FnOk P w g.K mg base CX0 (k + 1) f fd ["_law_log_here", "_law_most", "_law_time"] (spF g 3 F__law_next) := by
  refine def_fn (fs := [F__law_fits, F__law_log]) F sc__law_next rfl rfl T.tt fun cdv A outer s H E hr C => ?_
  exact (ss_cons (s_par2 (i := 3) (j := 4) C rfl rfl (by decide) rfl rfl (an_cons C (p_comp C (i_seq C (k_var 0 rfl (by first | exact .inl rfl | exact .inr (.inl rfl) | exact .inr (.inr rfl)) rfl rfl)) (blkOk_by (own := [("_law_one_here", 7), ("_law_is_passed", 8)]) rfl) (fun _ _ _ _ _ => (tgp (by first | exact ((C.blk _ _ _ _ _)).c0 | exact (C.blk _ _ _ _ _)) (tgs_cons (tg_nm (pg_name (i := 7) (C.blk _ _ _ _ _).nd rfl (by first | exact .inl rfl | exact .inr rfl) (by first | exact .inr rfl | exact .inl rfl))) (tgs_cons (tg_nm (pg_name (i := 8) (C.blk _ _ _ _ _).nd rfl (by first | exact .inl rfl | exact .inr rfl) (by first | exact .inr rfl | exact .inl rfl))) tgs_nil rfl) rfl) rfl rfl)) (fun _ _ _ _ _ => c_nil) (fun _ _ _ _ _ => (k_var 7 rfl (by first | exact .inl rfl | exact .inr (.inl rfl) | exact .inr (.inr rfl)) rfl rfl)) (fun _ => rfl)) (an_cons C (p_lst C a_nil) an_nil rfl) rfl) rfl rfl)
  (ss_cons (s_for C PassesOwn.never (i_seq C (c_call c__law_fits C rfl rfl hr rfl (aw_cons (k_var 0 rfl (by first | exact .inl rfl | exact .inr (.inl rfl) | exact .inr (.inr rfl)) rfl rfl) (aw_cons (k_var 1 rfl (by first | exact .inl rfl | exact .inr (.inl rfl) | exact .inr (.inr rfl)) rfl rfl) aw_nil rfl) rfl) rfl rfl rfl)) (tgp C (tgs_cons (tg_nm (pg_name (i := 5) C.nd rfl (by first | exact .inl rfl | exact .inr rfl) (by first | exact .inr rfl | exact .inl rfl))) (tgs_cons (tg_nm (pg_name (i := 6) C.nd rfl (by first | exact .inl rfl | exact .inr rfl) (by first | exact .inr rfl | exact .inl rfl))) tgs_nil rfl) rfl) rfl rfl) (ss_cons (s_app C (pe_var (i := 4) rfl (by first | exact .inl rfl | exact .inr (.inl rfl) | exact .inr (.inr rfl)) rfl rfl) (p_ix C (p_ix C (c_call c__law_log C rfl rfl hr rfl (aw_cons (p_tup C (a_cons (k_var 5 rfl (by first | exact .inl rfl | exact .inr (.inl rfl) | exact .inr (.inr rfl)) rfl rfl) (a_cons (k_var 6 rfl (by first | exact .inl rfl | exact .inr (.inl rfl) | exact .inr (.inr rfl)) rfl rfl) (a_cons (k_int C) a_nil rfl) rfl) rfl)) (aw_cons (p_bin (op := .add) C (k_var 3 rfl (by first | exact .inl rfl | exact .inr (.inl rfl) | exact .inr (.inr rfl)) rfl rfl) (p_lst C (a_cons (k_var 2 rfl (by first | exact .inl rfl | exact .inr (.inl rfl) | exact .inr (.inr rfl)) rfl rfl) a_nil rfl))) aw_nil rfl) rfl) rfl rfl rfl) (p_neg (k_int C)) (fun _ _ => rfl)) (k_int C) (fun _ _ => rfl)) rfl rfl rfl rfl)
  ss_nil) (fun _ => rfl))
  (ss_cons (s_ite (t_cmp (op := .notin) C (k_bl C) (k_var 4 rfl (by first | exact .inl rfl | exact .inr (.inl rfl) | exact .inr (.inr rfl)) rfl rfl) rfl) (ss_cons (s_ret (k_str C))
  ss_nil) ss_nil)
  (ss_cons (s_ret (p_ite (t_cmp (op := .inn) C (k_bl C) (k_var 4 rfl (by first | exact .inl rfl | exact .inr (.inl rfl) | exact .inr (.inr rfl)) rfl rfl) rfl) (k_str C) (k_str C)))
  ss_nil))))
abbrev s__law_right : Stmt := topS 34
theorem sc__law_right : FnScope ["_law_well_here", "_law_log_here", "_law_last", "_law_most", "_law_due", "_law_more", "_law_time"] ["_law_well_here"] (defScope s__law_right) := ⟨rfl, rfl, rfl, by decide +kernel, rfl, by decide +kernel, by decide +kernel⟩
theorem ok__law_right {k : Nat} {f c : Addr} {oc kV dc pm ct : Value} {od an : Option Addr} {sl : Array (Option Value)} (T : Txt g mg) (lk : g.K.lookup f = some ⟨oc, od, .func (PySem.W.fnOf "_law_right" "_law_right" (defArgs s__law_right) (defBody s__law_right) (defScope s__law_right) .none kV dc pm an (.ref c) ct), sl⟩) (hcd : PySem.W.codeIn g.K (.ref c) "_law_right" = true) (LT : LamT g base mg c "_law_right") (c__law_seen : Cal P w mg base g k "_law_seen" 2 F__law_seen) (c__law_conflict : Cal P w mg base g k "_law_conflict" 2 F__law_conflict) (c_first_conflict : Cal P w mg base g k "first_conflict" 1 F_first_conflict) (c__law_draw : Cal P w mg base g k "_law_draw" 2 F__law_draw) (cx_forecast_x : CalX P w mg base g k "forecast" 2 F_forecast_x) (td__law_said : Told g mg "_law_said" "_law_deed" s__law_said) (c_forecast : Cal P w mg base g k "forecast" 2 F_forecast) (c__law_next : Cal P w mg base g k "_law_next" 3 F__law_next) : FnOk P w g.K mg base CX0 (k + 3) f (PySem.W.fnOf "_law_right" "_law_right" (defArgs s__law_right) (defBody s__law_right) (defScope s__law_right) .none kV dc pm an (.ref c) ct) ["_law_well_here"] (spF g 1 F__law_right) := by
  refine def_fnL (fs := [F__law_seen, F__law_conflict, F_first_conflict, F__law_draw, F_forecast_x, F_forecast, F__law_next]) lk hcd sc__law_right rfl rfl T.tt fun A outer s H E hr3 C => ?_
  have hr := hr3.mono (show k ≤ k + 2 by omega)
  have hr1 := hr3.mono (show k + 1 ≤ k + 2 by omega)
  exact (ss_cons (s_asg (c_call c__law_seen C rfl rfl hr rfl (aw_cons (k_var 0 rfl (by first | exact .inl rfl | exact .inr (.inl rfl) | exact .inr (.inr rfl)) rfl rfl) (aw_cons (k_int C) aw_nil rfl) rfl) rfl rfl rfl) (tg_nm (pg_name (i := 1) C.nd rfl (by first | exact .inl rfl | exact .inr rfl) (by first | exact .inr rfl | exact .inl rfl))) rfl rfl rfl)
  (ss_cons (s_asg (p_ite (t_cmp (op := .ne) C (k_var 1 rfl (by first | exact .inl rfl | exact .inr (.inl rfl) | exact .inr (.inr rfl)) rfl rfl) (p_lst C a_nil) rfl) (p_ix C (p_ix C (k_var 1 rfl (by first | exact .inl rfl | exact .inr (.inl rfl) | exact .inr (.inr rfl)) rfl rfl) (p_neg (k_int C)) (fun _ _ => rfl)) (k_int C) (fun _ _ => rfl)) (k_int C)) (tg_nm (pg_name (i := 2) C.nd rfl (by first | exact .inl rfl | exact .inr rfl) (by first | exact .inr rfl | exact .inl rfl))) rfl rfl rfl)
  (ss_cons (s_asgO (i := 3) C rfl (by first | exact .inl rfl | exact .inr rfl) (p_bin (op := .add) C (k_var 2 rfl (by first | exact .inl rfl | exact .inr (.inl rfl) | exact .inr (.inr rfl)) rfl rfl) (k_int C)) rfl (by first | exact .inr rfl | exact .inl rfl))
  (ss_cons (s_asg (c_call c__law_conflict C rfl rfl hr rfl (aw_cons (k_var 1 rfl (by first | exact .inl rfl | exact .inr (.inl rfl) | exact .inr (.inr rfl)) rfl rfl) (aw_cons (k_var 3 rfl (by first | exact .inl rfl | exact .inr (.inl rfl) | exact .inr (.inr rfl)) rfl rfl) aw_nil rfl) rfl) rfl rfl rfl) (tg_nm (pg_name (i := 4) C.nd rfl (by first | exact .inl rfl | exact .inr rfl) (by first | exact .inr rfl | exact .inl rfl))) rfl rfl rfl)
  (ss_cons (s_ite (t_cmp (op := .ne) C (c_call c_first_conflict C rfl rfl hr rfl (aw_cons (k_var 1 rfl (by first | exact .inl rfl | exact .inr (.inl rfl) | exact .inr (.inr rfl)) rfl rfl) aw_nil rfl) rfl rfl rfl) (k_var 4 rfl (by first | exact .inl rfl | exact .inr (.inl rfl) | exact .inr (.inr rfl)) rfl rfl) rfl) (ss_cons (s_ret (k_bl C))
  ss_nil) ss_nil)
  (ss_cons (s_for C PassesOwn.never (i_seq C (p_tup C (a_cons (k_int C) (a_cons (k_int C) (a_cons (p_bin (op := .add) C (k_int C) (c_call c__law_draw C rfl rfl hr rfl (aw_cons (k_var 0 rfl (by first | exact .inl rfl | exact .inr (.inl rfl) | exact .inr (.inr rfl)) rfl rfl) (aw_cons (k_int C) aw_nil rfl) rfl) rfl rfl rfl)) (a_cons (p_bin (op := .add) C (k_int C) (c_call c__law_draw C rfl rfl hr rfl (aw_cons (k_var 0 rfl (by first | exact .inl rfl | exact .inr (.inl rfl) | exact .inr (.inr rfl)) rfl rfl) (aw_cons (k_int C) aw_nil rfl) rfl) rfl rfl rfl)) a_nil rfl) rfl) rfl) rfl))) (tg_nm (pg_name (i := 5) C.nd rfl (by first | exact .inl rfl | exact .inr rfl) (by first | exact .inr rfl | exact .inl rfl))) (ss_cons (s_asgO (i := 6) C rfl (by first | exact .inl rfl | exact .inr rfl) (p_bin (op := .add) C (k_var 2 rfl (by first | exact .inl rfl | exact .inr (.inl rfl) | exact .inr (.inr rfl)) rfl rfl) (k_var 5 rfl (by first | exact .inl rfl | exact .inr (.inl rfl) | exact .inr (.inr rfl)) rfl rfl)) rfl (by first | exact .inr rfl | exact .inl rfl))
  (ss_cons (s_ite (PW.pt (w_and (t_cmp (op := .isnot) C (k_var 4 rfl (by first | exact .inl rfl | exact .inr (.inl rfl) | exact .inr (.inr rfl)) rfl rfl) (k_non C) rfl) (w_and1 (t_cmp (op := .ne) C (p_told C td__law_said LT rfl sc__law_said rfl (by first | exact .inl rfl | exact .inr (.inl rfl)) (fun g0 cdv => gv__law_said T C.K hr3) rfl rfl hr3 (LamX.lamS_by rfl) rfl (fun _ _ _ _ _ => rfl) (fun A outer s H E f c' hr C tk => (cx_call cx_forecast_x C tk rfl rfl hr rfl (aw_cons (k_var 1 rfl (by first | exact .inl rfl | exact .inr (.inl rfl) | exact .inr (.inr rfl)) rfl rfl) (aw_cons (k_var 6 rfl (by first | exact .inl rfl | exact .inr (.inl rfl) | exact .inr (.inr rfl)) rfl rfl) aw_nil rfl) rfl) rfl rfl rfl)) rfl rfl rfl) (p_tup C (a_cons (k_str C) (a_cons (k_var 4 rfl (by first | exact .inl rfl | exact .inr (.inl rfl) | exact .inr (.inr rfl)) rfl rfl) a_nil rfl) rfl)) rfl)))) (ss_cons (s_ret (k_bl C))
  ss_nil) ss_nil)
  (ss_cons (s_ite (PW.pt (w_and (t_cmp (op := .is) C (k_var 4 rfl (by first | exact .inl rfl | exact .inr (.inl rfl) | exact .inr (.inr rfl)) rfl rfl) (k_non C) rfl) (w_and1 (t_cmp (op := .ne) C (c_call c_forecast C rfl rfl hr rfl (aw_cons (k_var 1 rfl (by first | exact .inl rfl | exact .inr (.inl rfl) | exact .inr (.inr rfl)) rfl rfl) (aw_cons (k_var 6 rfl (by first | exact .inl rfl | exact .inr (.inl rfl) | exact .inr (.inr rfl)) rfl rfl) aw_nil rfl) rfl) rfl rfl rfl) (c_call c__law_next C rfl rfl hr rfl (aw_cons (k_var 1 rfl (by first | exact .inl rfl | exact .inr (.inl rfl) | exact .inr (.inr rfl)) rfl rfl) (aw_cons (k_var 3 rfl (by first | exact .inl rfl | exact .inr (.inl rfl) | exact .inr (.inr rfl)) rfl rfl) (aw_cons (k_var 6 rfl (by first | exact .inl rfl | exact .inr (.inl rfl) | exact .inr (.inr rfl)) rfl rfl) aw_nil rfl) rfl) rfl) rfl rfl rfl) rfl)))) (ss_cons (s_ret (k_bl C))
  ss_nil) ss_nil)
  ss_nil))) (fun _ => rfl))
  (ss_cons (s_ret (k_bl C))
  ss_nil)))))))
abbrev s_law : Stmt := topS 35
theorem sc_law : FnScope ["_law_script", "_law_cell"] ["_law_script"] (defScope s_law) := ⟨rfl, rfl, rfl, by decide +kernel, rfl, by decide +kernel, by decide +kernel⟩
theorem ok_law {k : Nat} {f : Addr} {fd : FuncData} (T : Txt g mg) (F : Fun g.K "law" "law" s_law f fd) (c__law_well : Cal P w mg base g k "_law_well" 1 F__law_well) (c__law_right : Cal P w mg base g k "_law_right" 1 F__law_right) : FnOk P w g.K mg base CX0 (k + 1) f fd ["_law_script"] (spF g 1 F_law) := by
  refine def_fn (fs := [F__law_well, F__law_right]) F sc_law rfl rfl T.tt fun cdv A outer s H E hr C => ?_
  exact (ss_cons (s_for C PassesOwn.never (i_seq C (p_bin (op := .add) C (p_slc C (k_var 0 rfl (by first | exact .inl rfl | exact .inr (.inl rfl) | exact .inr (.inr rfl)) rfl rfl) part0 (part1 (k_int C))) (p_lst C (a_cons (k_int C) a_nil rfl)))) (tg_nm (pg_name (i := 1) C.nd rfl (by first | exact .inl rfl | exact .inr rfl) (by first | exact .inr rfl | exact .inl rfl))) (ss_cons (s_ite (t_not (t_val C (c_call c__law_right C rfl rfl hr rfl (aw_cons (c_call c__law_well C rfl rfl hr rfl (aw_cons (k_var 1 rfl (by first | exact .inl rfl | exact .inr (.inl rfl) | exact .inr (.inr rfl)) rfl rfl) aw_nil rfl) rfl rfl rfl) aw_nil rfl) rfl rfl rfl) (fun _ => rfl))) (ss_cons (s_ret (k_bl C))
  ss_nil) ss_nil)
  ss_nil) (fun _ => rfl))
  (ss_cons (s_ret (k_bl C))
  ss_nil))
end
theorem all_mk {l : PySem.W.OpenLaw} {w : World} {K : PySem.W.Frag} {h : Heap} {mg mb : Str → Option Value} {qv : Program} {lo : List Str} {mean : ExcName → Option Value} {fa C8 C9 C10 C11 C12 C13 C14 C15 C16 C17 C18 : Addr} (X : K.In h) (TP : PyProof.Rows.Top qv lo mean mg mb h) (hfa : mg "law" = some (.ref fa)) (ht : ∀ ns : List Int, ns.length ≤ 63 → (∀ z ∈ ns, Builtin.Int.intBits z ≤ 1048576) → ∃ os, F_law [some (.scr ns, false)] = some (.fz (.bl true), os))
    {f0 : Addr} {od0 an0 : Option Addr} {sl0 : Array (Option Value)} {oc0 kV0 dc0 pm0 cd0 ct0 : Value}
    {f1 : Addr} {od1 an1 : Option Addr} {sl1 : Array (Option Value)} {oc1 kV1 dc1 pm1 cd1 ct1 : Value}
    {f2 : Addr} {od2 an2 : Option Addr} {sl2 : Array (Option Value)} {oc2 kV2 dc2 pm2 cd2 ct2 : Value}
    {f3 : Addr} {od3 an3 : Option Addr} {sl3 : Array (Option Value)} {oc3 kV3 dc3 pm3 cd3 ct3 : Value}
    {f4 : Addr} {od4 an4 : Option Addr} {sl4 : Array (Option Value)} {oc4 kV4 dc4 pm4 cd4 ct4 : Value}
    {f5 : Addr} {od5 an5 : Option Addr} {sl5 : Array (Option Value)} {oc5 kV5 dc5 pm5 cd5 ct5 : Value}
    {f6 : Addr} {od6 an6 : Option Addr} {sl6 : Array (Option Value)} {oc6 kV6 dc6 pm6 cd6 ct6 : Value}
    {f7 : Addr} {od7 an7 : Option Addr} {sl7 : Array (Option Value)} {oc7 kV7 dc7 pm7 cd7 ct7 : Value}
    {f8 : Addr} {od8 an8 : Option Addr} {sl8 : Array (Option Value)} {oc8 kV8 dc8 pm8 cd8 ct8 : Value}
    {f9 : Addr} {od9 an9 : Option Addr} {sl9 : Array (Option Value)} {oc9 kV9 dc9 pm9 cd9 ct9 : Value}
    {f10 : Addr} {od10 an10 : Option Addr} {sl10 : Array (Option Value)} {oc10 kV10 dc10 pm10 cd10 ct10 : Value}
    {f11 : Addr} {od11 an11 : Option Addr} {sl11 : Array (Option Value)} {oc11 kV11 dc11 pm11 cd11 ct11 : Value}
    {f12 : Addr} {od12 an12 : Option Addr} {sl12 : Array (Option Value)} {oc12 kV12 dc12 pm12 cd12 ct12 : Value}
    {f13 : Addr} {od13 an13 : Option Addr} {sl13 : Array (Option Value)} {oc13 kV13 dc13 pm13 cd13 ct13 : Value}
    {f14 : Addr} {od14 an14 : Option Addr} {sl14 : Array (Option Value)} {oc14 kV14 dc14 pm14 cd14 ct14 : Value}
    {f15 : Addr} {od15 an15 : Option Addr} {sl15 : Array (Option Value)} {oc15 kV15 dc15 pm15 cd15 ct15 : Value}
    {f16 : Addr} {od16 an16 : Option Addr} {sl16 : Array (Option Value)} {oc16 kV16 dc16 pm16 cd16 ct16 : Value}
    {f17 : Addr} {od17 an17 : Option Addr} {sl17 : Array (Option Value)} {oc17 kV17 dc17 pm17 cd17 ct17 : Value}
    {f18 : Addr} {od18 an18 : Option Addr} {sl18 : Array (Option Value)} {oc18 kV18 dc18 pm18 cd18 ct18 : Value}
    {f19 : Addr} {od19 an19 : Option Addr} {sl19 : Array (Option Value)} {oc19 kV19 dc19 pm19 cd19 ct19 : Value}
    {f20 : Addr} {od20 an20 : Option Addr} {sl20 : Array (Option Value)} {oc20 kV20 dc20 pm20 cd20 ct20 : Value}
    {cc21 PP21 : Addr}
    {f21 : Addr} {od21 an21 : Option Addr} {sl21 : Array (Option Value)} {oc21 kV21 dc21 pm21 ct21 : Value}
    {f22 : Addr} {od22 an22 : Option Addr} {sl22 : Array (Option Value)} {oc22 kV22 dc22 pm22 cd22 ct22 : Value}
    {t_MOST_ENTRIES : _}
    {t_MOST_WAIT : _}
    (aC8 : PySem.W.nsIn K mainGlobals "BreakerError" = some (some (.ref C8)))
    (aC9 : PySem.W.nsIn K mainGlobals "InvalidRow" = some (some (.ref C9)))
    (aC10 : PySem.W.nsIn K mainGlobals "InvalidTime" = some (some (.ref C10)))
    (aC11 : PySem.W.nsIn K mainGlobals "InvalidOutages" = some (some (.ref C11)))
    (aC12 : PySem.W.nsIn K mainGlobals "InvalidTrains" = some (some (.ref C12)))
    (aC13 : PySem.W.nsIn K mainGlobals "InvalidIndex" = some (some (.ref C13)))
    (aC14 : PySem.W.nsIn K mainGlobals "InvalidBound" = some (some (.ref C14)))
    (aC15 : PySem.W.nsIn K mainGlobals "InvalidLog" = some (some (.ref C15)))
    (aC16 : PySem.W.nsIn K mainGlobals "InvalidCall" = some (some (.ref C16)))
    (aC17 : PySem.W.nsIn K mainGlobals "InvalidText" = some (some (.ref C17)))
    (aC18 : PySem.W.nsIn K mainGlobals "LimitExceeded" = some (some (.ref C18)))
    (a0 : PySem.W.nsIn K mainGlobals "_law_well" = some (some (.ref f0)))
    (l0 : K.lookup f0 = some ⟨oc0, od0, .func (PySem.W.fnOf "_law_well" "_law_well" (defArgs s__law_well) (defBody s__law_well) (defScope s__law_well) .none (kV0) dc0 pm0 an0 cd0 ct0), sl0⟩)
    (e0 : PySem.W.codeIn K cd0 "_law_well" = true)
    (k0 : PySem.W.keepIn K (.ref f0) = true)
    (a1 : PySem.W.nsIn K mainGlobals "_law_mixed" = some (some (.ref f1)))
    (l1 : K.lookup f1 = some ⟨oc1, od1, .func (PySem.W.fnOf "_law_mixed" "_law_mixed" (defArgs s__law_mixed) (defBody s__law_mixed) (defScope s__law_mixed) .none (kV1) dc1 pm1 an1 cd1 ct1), sl1⟩)
    (e1 : PySem.W.codeIn K cd1 "_law_mixed" = true)
    (k1 : PySem.W.keepIn K (.ref f1) = true)
    (a2 : PySem.W.nsIn K mainGlobals "_law_draw" = some (some (.ref f2)))
    (l2 : K.lookup f2 = some ⟨oc2, od2, .func (PySem.W.fnOf "_law_draw" "_law_draw" (defArgs s__law_draw) (defBody s__law_draw) (defScope s__law_draw) .none (kV2) dc2 pm2 an2 cd2 ct2), sl2⟩)
    (e2 : PySem.W.codeIn K cd2 "_law_draw" = true)
    (k2 : PySem.W.keepIn K (.ref f2) = true)
    (a3 : PySem.W.nsIn K mainGlobals "_law_one" = some (some (.ref f3)))
    (l3 : K.lookup f3 = some ⟨oc3, od3, .func (PySem.W.fnOf "_law_one" "_law_one" (defArgs s__law_one) (defBody s__law_one) (defScope s__law_one) .none (kV3) dc3 pm3 an3 cd3 ct3), sl3⟩)
    (e3 : PySem.W.codeIn K cd3 "_law_one" = true)
    (k3 : PySem.W.keepIn K (.ref f3) = true)
    (a4 : PySem.W.nsIn K mainGlobals "_law_log" = some (some (.ref f4)))
    (l4 : K.lookup f4 = some ⟨oc4, od4, .func (PySem.W.fnOf "_law_log" "_law_log" (defArgs s__law_log) (defBody s__law_log) (defScope s__law_log) .none (kV4) dc4 pm4 an4 cd4 ct4), sl4⟩)
    (e4 : PySem.W.codeIn K cd4 "_law_log" = true)
    (k4 : PySem.W.keepIn K (.ref f4) = true)
    (a5 : PySem.W.nsIn K mainGlobals "_law_seen" = some (some (.ref f5)))
    (l5 : K.lookup f5 = some ⟨oc5, od5, .func (PySem.W.fnOf "_law_seen" "_law_seen" (defArgs s__law_seen) (defBody s__law_seen) (defScope s__law_seen) .none (kV5) dc5 pm5 an5 cd5 ct5), sl5⟩)
    (e5 : PySem.W.codeIn K cd5 "_law_seen" = true)
    (k5 : PySem.W.keepIn K (.ref f5) = true)
    (a6 : PySem.W.nsIn K mainGlobals "_law_fits" = some (some (.ref f6)))
    (l6 : K.lookup f6 = some ⟨oc6, od6, .func (PySem.W.fnOf "_law_fits" "_law_fits" (defArgs s__law_fits) (defBody s__law_fits) (defScope s__law_fits) .none (kV6) dc6 pm6 an6 cd6 ct6), sl6⟩)
    (e6 : PySem.W.codeIn K cd6 "_law_fits" = true)
    (k6 : PySem.W.keepIn K (.ref f6) = true)
    (a7 : PySem.W.nsIn K mainGlobals "_law_conflict" = some (some (.ref f7)))
    (l7 : K.lookup f7 = some ⟨oc7, od7, .func (PySem.W.fnOf "_law_conflict" "_law_conflict" (defArgs s__law_conflict) (defBody s__law_conflict) (defScope s__law_conflict) .none (kV7) dc7 pm7 an7 cd7 ct7), sl7⟩)
    (e7 : PySem.W.codeIn K cd7 "_law_conflict" = true)
    (k7 : PySem.W.keepIn K (.ref f7) = true)
    (a8 : PySem.W.nsIn K mainGlobals "is_integer" = some (some (.ref f8)))
    (l8 : K.lookup f8 = some ⟨oc8, od8, .func (PySem.W.fnOf "is_integer" "is_integer" (defArgs s_is_integer) (defBody s_is_integer) (defScope s_is_integer) .none (kV8) dc8 pm8 an8 cd8 ct8), sl8⟩)
    (e8 : PySem.W.codeIn K cd8 "is_integer" = true)
    (k8 : PySem.W.keepIn K (.ref f8) = true)
    (a9 : PySem.W.nsIn K mainGlobals "is_entry" = some (some (.ref f9)))
    (l9 : K.lookup f9 = some ⟨oc9, od9, .func (PySem.W.fnOf "is_entry" "is_entry" (defArgs s_is_entry) (defBody s_is_entry) (defScope s_is_entry) .none (kV9) dc9 pm9 an9 cd9 ct9), sl9⟩)
    (e9 : PySem.W.codeIn K cd9 "is_entry" = true)
    (k9 : PySem.W.keepIn K (.ref f9) = true)
    (a10 : PySem.W.nsIn K mainGlobals "check_log" = some (some (.ref f10)))
    (l10 : K.lookup f10 = some ⟨oc10, od10, .func (PySem.W.fnOf "check_log" "check_log" (defArgs s_check_log) (defBody s_check_log) (defScope s_check_log) .none (kV10) dc10 pm10 an10 cd10 ct10), sl10⟩)
    (e10 : PySem.W.codeIn K cd10 "check_log" = true)
    (k10 : PySem.W.keepIn K (.ref f10) = true)
    (a11 : PySem.W.nsIn K mainGlobals "first_passes" = some (some (.ref f11)))
    (l11 : K.lookup f11 = some ⟨oc11, od11, .func (PySem.W.fnOf "first_passes" "first_passes" (defArgs s_first_passes) (defBody s_first_passes) (defScope s_first_passes) .none (kV11) dc11 pm11 an11 cd11 ct11), sl11⟩)
    (e11 : PySem.W.codeIn K cd11 "first_passes" = true)
    (k11 : PySem.W.keepIn K (.ref f11) = true)
    (a12 : PySem.W.nsIn K mainGlobals "later_bounds" = some (some (.ref f12)))
    (l12 : K.lookup f12 = some ⟨oc12, od12, .func (PySem.W.fnOf "later_bounds" "later_bounds" (defArgs s_later_bounds) (defBody s_later_bounds) (defScope s_later_bounds) .none (kV12) dc12 pm12 an12 cd12 ct12), sl12⟩)
    (e12 : PySem.W.codeIn K cd12 "later_bounds" = true)
    (k12 : PySem.W.keepIn K (.ref f12) = true)
    (a13 : PySem.W.nsIn K mainGlobals "first_conflict" = some (some (.ref f13)))
    (l13 : K.lookup f13 = some ⟨oc13, od13, .func (PySem.W.fnOf "first_conflict" "first_conflict" (defArgs s_first_conflict) (defBody s_first_conflict) (defScope s_first_conflict) .none (kV13) dc13 pm13 an13 cd13 ct13), sl13⟩)
    (e13 : PySem.W.codeIn K cd13 "first_conflict" = true)
    (k13 : PySem.W.keepIn K (.ref f13) = true)
    (a14 : PySem.W.findIn K (.ref C15) "__init__" = some (some (.ref f14)))
    (i14 : PySem.W.isFn K (.ref f14) = true)
    (l14 : K.lookup f14 = some ⟨oc14, od14, .func (PySem.W.fnOf "__init__" "InvalidLog.__init__" (defArgs s_InvalidLog___init__) (defBody s_InvalidLog___init__) (defScope s_InvalidLog___init__) .none (kV14) dc14 pm14 an14 cd14 ct14), sl14⟩)
    (e14 : PySem.W.codeIn K cd14 "InvalidLog.__init__" = true)
    (ti14 : PySem.W.typeIn K (.ref f14) = some (.type "function"))
    (k14 : PySem.W.keepIn K (.ref f14) = true)
    (a15 : PySem.W.nsIn K mainGlobals "check_log" = some (some (.ref f15)))
    (l15 : K.lookup f15 = some ⟨oc15, od15, .func (PySem.W.fnOf "check_log" "check_log" (defArgs s_check_log_x) (defBody s_check_log_x) (defScope s_check_log_x) .none (kV15) dc15 pm15 an15 cd15 ct15), sl15⟩)
    (e15 : PySem.W.codeIn K cd15 "check_log" = true)
    (k15 : PySem.W.keepIn K (.ref f15) = true)
    (a16 : PySem.W.findIn K (.ref C10) "__init__" = some (some (.ref f16)))
    (i16 : PySem.W.isFn K (.ref f16) = true)
    (l16 : K.lookup f16 = some ⟨oc16, od16, .func (PySem.W.fnOf "__init__" "InvalidTime.__init__" (defArgs s_InvalidTime___init__) (defBody s_InvalidTime___init__) (defScope s_InvalidTime___init__) .none (kV16) dc16 pm16 an16 cd16 ct16), sl16⟩)
    (e16 : PySem.W.codeIn K cd16 "InvalidTime.__init__" = true)
    (ti16 : PySem.W.typeIn K (.ref f16) = some (.type "function"))
    (k16 : PySem.W.keepIn K (.ref f16) = true)
    (a17 : PySem.W.nsIn K mainGlobals "forecast" = some (some (.ref f17)))
    (l17 : K.lookup f17 = some ⟨oc17, od17, .func (PySem.W.fnOf "forecast" "forecast" (defArgs s_forecast_x) (defBody s_forecast_x) (defScope s_forecast_x) .none (kV17) dc17 pm17 an17 cd17 ct17), sl17⟩)
    (e17 : PySem.W.codeIn K cd17 "forecast" = true)
    (k17 : PySem.W.keepIn K (.ref f17) = true)
    (a18 : PySem.W.nsIn K mainGlobals "_law_said" = some (some (.ref f18)))
    (l18 : K.lookup f18 = some ⟨oc18, od18, .func (PySem.W.fnOf "_law_said" "_law_said" (defArgs s__law_said) (defBody s__law_said) (defScope s__law_said) .none (kV18) dc18 pm18 an18 cd18 ct18), sl18⟩)
    (e18 : PySem.W.codeIn K cd18 "_law_said" = true)
    (k18 : PySem.W.keepIn K (.ref f18) = true)
    (a19 : PySem.W.nsIn K mainGlobals "forecast" = some (some (.ref f19)))
    (l19 : K.lookup f19 = some ⟨oc19, od19, .func (PySem.W.fnOf "forecast" "forecast" (defArgs s_forecast) (defBody s_forecast) (defScope s_forecast) .none (kV19) dc19 pm19 an19 cd19 ct19), sl19⟩)
    (e19 : PySem.W.codeIn K cd19 "forecast" = true)
    (k19 : PySem.W.keepIn K (.ref f19) = true)
    (a20 : PySem.W.nsIn K mainGlobals "_law_next" = some (some (.ref f20)))
    (l20 : K.lookup f20 = some ⟨oc20, od20, .func (PySem.W.fnOf "_law_next" "_law_next" (defArgs s__law_next) (defBody s__law_next) (defScope s__law_next) .none (kV20) dc20 pm20 an20 cd20 ct20), sl20⟩)
    (e20 : PySem.W.codeIn K cd20 "_law_next" = true)
    (k20 : PySem.W.keepIn K (.ref f20) = true)
    (a21 : PySem.W.nsIn K mainGlobals "_law_right" = some (some (.ref f21)))
    (l21 : K.lookup f21 = some ⟨oc21, od21, .func (PySem.W.fnOf "_law_right" "_law_right" (defArgs s__law_right) (defBody s__law_right) (defScope s__law_right) .none (kV21) dc21 pm21 an21 (.ref cc21) ct21), sl21⟩)
    (e21 : PySem.W.codeIn K (.ref cc21) "_law_right" = true)
    (tb21 : PySem.W.tabIn K "_law_right" = some (cc21, PP21))
    (np21 : K.lookup PP21 = none)
    (rc21 : ((PyProof.Rows.recsOf qv).find? fun e => e.name == ("_law_right" : Str)).isSome = true)
    (k21 : PySem.W.keepIn K (.ref f21) = true)
    (a22 : PySem.W.nsIn K mainGlobals "law" = some (some (.ref f22)))
    (l22 : K.lookup f22 = some ⟨oc22, od22, .func (PySem.W.fnOf "law" "law" (defArgs s_law) (defBody s_law) (defScope s_law) .none (kV22) dc22 pm22 an22 cd22 ct22), sl22⟩)
    (e22 : PySem.W.codeIn K cd22 "law" = true)
    (k22 : PySem.W.keepIn K (.ref f22) = true)
    (z_ArithmeticError : PySem.W.nsIn K mainGlobals "ArithmeticError" = some none)
    (z_bool : PySem.W.nsIn K mainGlobals "bool" = some none)
    (z_enumerate : PySem.W.nsIn K mainGlobals "enumerate" = some none)
    (z_int : PySem.W.nsIn K mainGlobals "int" = some none)
    (z_isinstance : PySem.W.nsIn K mainGlobals "isinstance" = some none)
    (z_len : PySem.W.nsIn K mainGlobals "len" = some none)
    (z_list : PySem.W.nsIn K mainGlobals "list" = some none)
    (z_max : PySem.W.nsIn K mainGlobals "max" = some none)
    (z_min : PySem.W.nsIn K mainGlobals "min" = some none)
    (z_range : PySem.W.nsIn K mainGlobals "range" = some none)
    (z_tuple : PySem.W.nsIn K mainGlobals "tuple" = some none)
    (g_MOST_ENTRIES : PySem.W.nsIn K mainGlobals "MOST_ENTRIES" = some (some (.int 1000 t_MOST_ENTRIES)))
    (g_MOST_WAIT : PySem.W.nsIn K mainGlobals "MOST_WAIT" = some (some (.int 1000000000000000000000000000000 t_MOST_WAIT)))
    (qin15 : PySem.W.excInitIn K C15 aeT "ArithmeticError.__new__" = true)
    (qov15 : PySem.W.excOver K C15 aeT = true)
    (qhd15 : PySem.W.hasDictIn K C15 = true)
    (qsa15 : PySem.W.findIn K (.ref C15) "__setattr__" = some (some (.builtin "object.__setattr__")))
    (qsb15 : PySem.W.subIn K (.ref C15) (.type "BaseException") = some true)
    (qty15 : PySem.W.typeIn K (.ref C15) = some (.type "type"))
    (qkc15 : PySem.W.keepIn K (.ref C15) = true)
    (qtg8 : PySem.W.specialIn K (.ref C8) "__getattribute__" = some (some (.builtin "type.__getattribute__")))
    (qrd8 : PySem.W.readsIn K C8 (.type "type") = true)
    (qat8 : PySem.W.findCls K (.ref C8) (.type "type") "__init__" = some (.val (.builtin "ArithmeticError.__init__")))
    (tx_InvalidLog_at : PySem.W.takerIn K C15 "at" = some none)
    (qin10 : PySem.W.excInitIn K C10 aeT "ArithmeticError.__new__" = true)
    (qov10 : PySem.W.excOver K C10 aeT = true)
    (qhd10 : PySem.W.hasDictIn K C10 = true)
    (qsa10 : PySem.W.findIn K (.ref C10) "__setattr__" = some (some (.builtin "object.__setattr__")))
    (qsb10 : PySem.W.subIn K (.ref C10) (.type "BaseException") = some true)
    (qty10 : PySem.W.typeIn K (.ref C10) = some (.type "type"))
    (qkc10 : PySem.W.keepIn K (.ref C10) = true)
    (tx_InvalidTime_time : PySem.W.takerIn K C10 "time" = some none)
    (qcl15 : (PySem.W.clsIn K C15).isSome = true)
    (qga15 : PySem.W.findIn K (.ref C15) "__getattribute__" = some (some (.builtin "BaseException.__getattribute__")))
    (qgt15 : PySem.W.findIn K (.ref C15) "__getattr__" = some none)
    (qha15 : PySem.W.findIn K (.ref C15) "__class__" = some (some (.builtin "object.__class__")))
    (qhn : PySem.W.specialIn K (.builtin "object.__class__") "__get__" = some (some (.builtin "getset_descriptor.__get__")))
    (qtk : PySem.W.takesIn K (.builtin "object.__class__") = some true)
    (qhm15 : PySem.W.mroIn K C15 (.type "object") = some true)
    (xk_InvalidLog_InvalidRow : PySem.W.kitOne K (.ref C15) (.ref C9) = some false)
    (qcl10 : (PySem.W.clsIn K C10).isSome = true)
    (qga10 : PySem.W.findIn K (.ref C10) "__getattribute__" = some (some (.builtin "BaseException.__getattribute__")))
    (qgt10 : PySem.W.findIn K (.ref C10) "__getattr__" = some none)
    (qha10 : PySem.W.findIn K (.ref C10) "__class__" = some (some (.builtin "object.__class__")))
    (qhm10 : PySem.W.mroIn K C10 (.type "object") = some true)
    (xk_InvalidTime_InvalidRow : PySem.W.kitOne K (.ref C10) (.ref C9) = some false)
    (xk_InvalidLog_InvalidTime : PySem.W.kitOne K (.ref C15) (.ref C10) = some false)
    (xk_InvalidTime_InvalidTime : PySem.W.kitOne K (.ref C10) (.ref C10) = some true)
    (xk_InvalidLog_InvalidOutages : PySem.W.kitOne K (.ref C15) (.ref C11) = some false)
    (xk_InvalidTime_InvalidOutages : PySem.W.kitOne K (.ref C10) (.ref C11) = some false)
    (xk_InvalidLog_InvalidIndex : PySem.W.kitOne K (.ref C15) (.ref C13) = some false)
    (xk_InvalidTime_InvalidIndex : PySem.W.kitOne K (.ref C10) (.ref C13) = some false)
    (xk_InvalidLog_InvalidBound : PySem.W.kitOne K (.ref C15) (.ref C14) = some false)
    (xk_InvalidTime_InvalidBound : PySem.W.kitOne K (.ref C10) (.ref C14) = some false)
    (xk_InvalidLog_InvalidLog : PySem.W.kitOne K (.ref C15) (.ref C15) = some true)
    (xk_InvalidTime_InvalidLog : PySem.W.kitOne K (.ref C10) (.ref C15) = some false)
    (xt_InvalidLog__InvalidTrains_InvalidCall_InvalidText_LimitExceeded : PySem.W.kitAny K (.ref C15) [.ref C12, .ref C16, .ref C17, .ref C18] = some false)
    (xt_InvalidTime__InvalidTrains_InvalidCall_InvalidText_LimitExceeded : PySem.W.kitAny K (.ref C10) [.ref C12, .ref C16, .ref C17, .ref C18] = some false)
    (xk_InvalidLog_ArithmeticError : PySem.W.kitOne K (.ref C15) (.type "ArithmeticError") = some true)
    (xk_InvalidTime_ArithmeticError : PySem.W.kitOne K (.ref C10) (.type "ArithmeticError") = some true)
    (xn_InvalidLog_at : PySem.W.findIn K (.ref C15) "at" = some none)
    (xm_InvalidLog_BreakerError : PySem.W.exmOne K (.ref C15) (.ref C8) = some true)
    (xm_InvalidTime_BreakerError : PySem.W.exmOne K (.ref C10) (.ref C8) = some true)
    : LamX.LawAtS l w K CX0 10 63 "_law_script" mg fa h := by
  have G := TP.g
  have e := hfa.symm.trans (PySem.W.mg_of X G a22)
  cases e
  have T : Txt ⟨K, clOf [0, 0, 0, 0, 0, 0, 0, 0, C8, C9, C10, C11, C12, C13, C14, C15, C16, C17, C18], [(PP21, lamQ "_law_right")], none⟩ mg := ⟨rfl, PySem.W.mg_none_of X G z_ArithmeticError, PySem.W.mg_none_of X G z_bool, PySem.W.mg_none_of X G z_enumerate, PySem.W.mg_none_of X G z_int, PySem.W.mg_none_of X G z_isinstance, PySem.W.mg_none_of X G z_len, PySem.W.mg_none_of X G z_list, PySem.W.mg_none_of X G z_max, PySem.W.mg_none_of X G z_min, PySem.W.mg_none_of X G z_range, PySem.W.mg_none_of X G z_tuple, ⟨t_MOST_ENTRIES, PySem.W.mg_of X G g_MOST_ENTRIES⟩, ⟨t_MOST_WAIT, PySem.W.mg_of X G g_MOST_WAIT⟩, ⟨qin15, qov15, qhd15, qsa15, qsb15, qty15, qkc15⟩, ⟨qtg8, qrd8, qat8⟩, PySem.W.mg_of X G aC8, PySem.W.mg_of X G aC15, tx_InvalidLog_at, ⟨qin10, qov10, qhd10, qsa10, qsb10, qty10, qkc10⟩, PySem.W.mg_of X G aC10, tx_InvalidTime_time, ⟨qcl15, qga15, qgt15, qsb15, qha15, qhn, qtk, qhm15, qhd15⟩, xk_InvalidLog_InvalidRow, ⟨qcl10, qga10, qgt10, qsb10, qha10, qhn, qtk, qhm10, qhd10⟩, xk_InvalidTime_InvalidRow, PySem.W.mg_of X G aC9, xk_InvalidLog_InvalidTime, xk_InvalidTime_InvalidTime, xk_InvalidLog_InvalidOutages, xk_InvalidTime_InvalidOutages, PySem.W.mg_of X G aC11, xk_InvalidLog_InvalidIndex, xk_InvalidTime_InvalidIndex, PySem.W.mg_of X G aC13, xk_InvalidLog_InvalidBound, xk_InvalidTime_InvalidBound, PySem.W.mg_of X G aC14, xk_InvalidLog_InvalidLog, xk_InvalidTime_InvalidLog, xt_InvalidLog__InvalidTrains_InvalidCall_InvalidText_LimitExceeded, xt_InvalidTime__InvalidTrains_InvalidCall_InvalidText_LimitExceeded, PySem.W.mg_of X G aC18, PySem.W.mg_of X G aC17, PySem.W.mg_of X G aC16, PySem.W.mg_of X G aC12, xk_InvalidLog_ArithmeticError, xk_InvalidTime_ArithmeticError, ⟨qga15, qgt15, qsb15, qhd15⟩, xn_InvalidLog_at, xm_InvalidLog_BreakerError, xm_InvalidTime_BreakerError⟩
  refine lawAt (cs := [(cc21, PP21)]) (T := [(PP21, lamQ "_law_right")]) (F := F_law) (all_cons (tab_at TP X rc21 tb21) (all_nil _)) (all_cons np21 (all_nil _)) (by intro q hq; simp only [List.mem_cons, List.not_mem_nil, or_false] at hq ⊢; rcases hq with rfl <;> simp) ht ⟨PySem.W.fnOf "law" "law" (defArgs s_law) (defBody s_law) (defScope s_law) .none kV22 dc22 pm22 an22 cd22 ct22, fun s v => .of_eq rfl, fun base _ _ TB => ?_⟩
  have F0 := fun_mk (st := s__law_well) l0 e0 k0
  have G0 := ok__law_well (P := l.prog) (w := w) (base := base) (g := ⟨K, clOf [0, 0, 0, 0, 0, 0, 0, 0, C8, C9, C10, C11, C12, C13, C14, C15, C16, C17, C18], [(PP21, lamQ "_law_right")], none⟩) (k := 0) T F0 
  have F1 := fun_mk (st := s__law_mixed) l1 e1 k1
  have G1 := ok__law_mixed (P := l.prog) (w := w) (base := base) (g := ⟨K, clOf [0, 0, 0, 0, 0, 0, 0, 0, C8, C9, C10, C11, C12, C13, C14, C15, C16, C17, C18], [(PP21, lamQ "_law_right")], none⟩) (k := 0) T F1 
  have h_c__law_mixed : Cal l.prog w mg base ⟨K, clOf [0, 0, 0, 0, 0, 0, 0, 0, C8, C9, C10, C11, C12, C13, C14, C15, C16, C17, C18], [(PP21, lamQ "_law_right")], none⟩ 1 "_law_mixed" 2 F__law_mixed := ⟨_, _, _, PySem.W.mg_of X G a1, k1, (F1.binds (ps := ["_law_cell", "_law_k"]) fun _ _ _ _ _ _ us hl => match us, hl with | [_, _], _ => rfl), G1⟩
  have F2 := fun_mk (st := s__law_draw) l2 e2 k2
  have G2 := ok__law_draw (P := l.prog) (w := w) (base := base) (g := ⟨K, clOf [0, 0, 0, 0, 0, 0, 0, 0, C8, C9, C10, C11, C12, C13, C14, C15, C16, C17, C18], [(PP21, lamQ "_law_right")], none⟩) (k := 1) T F2 (h_c__law_mixed.mono (by decide))
  have h_c__law_draw : Cal l.prog w mg base ⟨K, clOf [0, 0, 0, 0, 0, 0, 0, 0, C8, C9, C10, C11, C12, C13, C14, C15, C16, C17, C18], [(PP21, lamQ "_law_right")], none⟩ 2 "_law_draw" 2 F__law_draw := ⟨_, _, _, PySem.W.mg_of X G a2, k2, (F2.binds (ps := ["_law_well_here", "_law_many"]) fun _ _ _ _ _ _ us hl => match us, hl with | [_, _], _ => rfl), G2⟩
  have F3 := fun_mk (st := s__law_one) l3 e3 k3
  have G3 := ok__law_one (P := l.prog) (w := w) (base := base) (g := ⟨K, clOf [0, 0, 0, 0, 0, 0, 0, 0, C8, C9, C10, C11, C12, C13, C14, C15, C16, C17, C18], [(PP21, lamQ "_law_right")], none⟩) (k := 2) T F3 (h_c__law_draw.mono (by decide))
  have F4 := fun_mk (st := s__law_log) l4 e4 k4
  have G4 := ok__law_log (P := l.prog) (w := w) (base := base) (g := ⟨K, clOf [0, 0, 0, 0, 0, 0, 0, 0, C8, C9, C10, C11, C12, C13, C14, C15, C16, C17, C18], [(PP21, lamQ "_law_right")], none⟩) (k := 0) T F4 
  have h_c__law_one : Cal l.prog w mg base ⟨K, clOf [0, 0, 0, 0, 0, 0, 0, 0, C8, C9, C10, C11, C12, C13, C14, C15, C16, C17, C18], [(PP21, lamQ "_law_right")], none⟩ 3 "_law_one" 2 F__law_one := ⟨_, _, _, PySem.W.mg_of X G a3, k3, (F3.binds (ps := ["_law_well_here", "_law_some"]) fun _ _ _ _ _ _ us hl => match us, hl with | [_, _], _ => rfl), G3⟩
  have h_c__law_log : Cal l.prog w mg base ⟨K, clOf [0, 0, 0, 0, 0, 0, 0, 0, C8, C9, C10, C11, C12, C13, C14, C15, C16, C17, C18], [(PP21, lamQ "_law_right")], none⟩ 1 "_law_log" 2 F__law_log := ⟨_, _, _, PySem.W.mg_of X G a4, k4, (F4.binds (ps := ["_law_breaker", "_law_times"]) fun _ _ _ _ _ _ us hl => match us, hl with | [_, _], _ => rfl), G4⟩
  have F5 := fun_mk (st := s__law_seen) l5 e5 k5
  have G5 := ok__law_seen (P := l.prog) (w := w) (base := base) (g := ⟨K, clOf [0, 0, 0, 0, 0, 0, 0, 0, C8, C9, C10, C11, C12, C13, C14, C15, C16, C17, C18], [(PP21, lamQ "_law_right")], none⟩) (k := 3) T F5 (h_c__law_draw.mono (by decide)) (h_c__law_one.mono (by decide)) (h_c__law_log.mono (by decide))
  have F6 := fun_mk (st := s__law_fits) l6 e6 k6
  have G6 := ok__law_fits (P := l.prog) (w := w) (base := base) (g := ⟨K, clOf [0, 0, 0, 0, 0, 0, 0, 0, C8, C9, C10, C11, C12, C13, C14, C15, C16, C17, C18], [(PP21, lamQ "_law_right")], none⟩) (k := 1) T F6 (h_c__law_log.mono (by decide))
  have h_c__law_fits : Cal l.prog w mg base ⟨K, clOf [0, 0, 0, 0, 0, 0, 0, 0, C8, C9, C10, C11, C12, C13, C14, C15, C16, C17, C18], [(PP21, lamQ "_law_right")], none⟩ 2 "_law_fits" 2 F__law_fits := ⟨_, _, _, PySem.W.mg_of X G a6, k6, (F6.binds (ps := ["_law_log_here", "_law_most"]) fun _ _ _ _ _ _ us hl => match us, hl with | [_, _], _ => rfl), G6⟩
  have F7 := fun_mk (st := s__law_conflict) l7 e7 k7
  have G7 := ok__law_conflict (P := l.prog) (w := w) (base := base) (g := ⟨K, clOf [0, 0, 0, 0, 0, 0, 0, 0, C8, C9, C10, C11, C12, C13, C14, C15, C16, C17, C18], [(PP21, lamQ "_law_right")], none⟩) (k := 2) T F7 (h_c__law_fits.mono (by decide))
  have F8 := fun_mk (st := s_is_integer) l8 e8 k8
  have G8 := ok_is_integer (P := l.prog) (w := w) (base := base) (g := ⟨K, clOf [0, 0, 0, 0, 0, 0, 0, 0, C8, C9, C10, C11, C12, C13, C14, C15, C16, C17, C18], [(PP21, lamQ "_law_right")], none⟩) (k := 0) T F8 
  have h_c_is_integer : Cal l.prog w mg base ⟨K, clOf [0, 0, 0, 0, 0, 0, 0, 0, C8, C9, C10, C11, C12, C13, C14, C15, C16, C17, C18], [(PP21, lamQ "_law_right")], none⟩ 1 "is_integer" 1 F_is_integer := ⟨_, _, _, PySem.W.mg_of X G a8, k8, (F8.binds (ps := ["value"]) fun _ _ _ _ _ _ us hl => match us, hl with | [_], _ => rfl), G8⟩
  have F9 := fun_mk (st := s_is_entry) l9 e9 k9
  have G9 := ok_is_entry (P := l.prog) (w := w) (base := base) (g := ⟨K, clOf [0, 0, 0, 0, 0, 0, 0, 0, C8, C9, C10, C11, C12, C13, C14, C15, C16, C17, C18], [(PP21, lamQ "_law_right")], none⟩) (k := 1) T F9 (h_c_is_integer.mono (by decide))
  have h_c_is_entry : Cal l.prog w mg base ⟨K, clOf [0, 0, 0, 0, 0, 0, 0, 0, C8, C9, C10, C11, C12, C13, C14, C15, C16, C17, C18], [(PP21, lamQ "_law_right")], none⟩ 2 "is_entry" 1 F_is_entry := ⟨_, _, _, PySem.W.mg_of X G a9, k9, (F9.binds (ps := ["value"]) fun _ _ _ _ _ _ us hl => match us, hl with | [_], _ => rfl), G9⟩
  have F10 := fun_mk (st := s_check_log) l10 e10 k10
  have G10 := ok_check_log (P := l.prog) (w := w) (base := base) (g := ⟨K, clOf [0, 0, 0, 0, 0, 0, 0, 0, C8, C9, C10, C11, C12, C13, C14, C15, C16, C17, C18], [(PP21, lamQ "_law_right")], none⟩) (k := 2) T F10 (h_c_is_entry.mono (by decide))
  have F11 := fun_mk (st := s_first_passes) l11 e11 k11
  have G11 := ok_first_passes (P := l.prog) (w := w) (base := base) (g := ⟨K, clOf [0, 0, 0, 0, 0, 0, 0, 0, C8, C9, C10, C11, C12, C13, C14, C15, C16, C17, C18], [(PP21, lamQ "_law_right")], none⟩) (k := 0) T F11 
  have h_c_first_passes : Cal l.prog w mg base ⟨K, clOf [0, 0, 0, 0, 0, 0, 0, 0, C8, C9, C10, C11, C12, C13, C14, C15, C16, C17, C18], [(PP21, lamQ "_law_right")], none⟩ 1 "first_passes" 1 F_first_passes := ⟨_, _, _, PySem.W.mg_of X G a11, k11, (F11.binds (ps := ["log"]) fun _ _ _ _ _ _ us hl => match us, hl with | [_], _ => rfl), G11⟩
  have F12 := fun_mk (st := s_later_bounds) l12 e12 k12
  have G12 := ok_later_bounds (P := l.prog) (w := w) (base := base) (g := ⟨K, clOf [0, 0, 0, 0, 0, 0, 0, 0, C8, C9, C10, C11, C12, C13, C14, C15, C16, C17, C18], [(PP21, lamQ "_law_right")], none⟩) (k := 1) T F12 (h_c_first_passes.mono (by decide))
  have h_c_check_log : Cal l.prog w mg base ⟨K, clOf [0, 0, 0, 0, 0, 0, 0, 0, C8, C9, C10, C11, C12, C13, C14, C15, C16, C17, C18], [(PP21, lamQ "_law_right")], none⟩ 3 "check_log" 1 F_check_log := ⟨_, _, _, PySem.W.mg_of X G a10, k10, (F10.binds (ps := ["log"]) fun _ _ _ _ _ _ us hl => match us, hl with | [_], _ => rfl), G10⟩
  have h_c_later_bounds : Cal l.prog w mg base ⟨K, clOf [0, 0, 0, 0, 0, 0, 0, 0, C8, C9, C10, C11, C12, C13, C14, C15, C16, C17, C18], [(PP21, lamQ "_law_right")], none⟩ 2 "later_bounds" 1 F_later_bounds := ⟨_, _, _, PySem.W.mg_of X G a12, k12, (F12.binds (ps := ["log"]) fun _ _ _ _ _ _ us hl => match us, hl with | [_], _ => rfl), G12⟩
  have F13 := fun_mk (st := s_first_conflict) l13 e13 k13
  have G13 := ok_first_conflict (P := l.prog) (w := w) (base := base) (g := ⟨K, clOf [0, 0, 0, 0, 0, 0, 0, 0, C8, C9, C10, C11, C12, C13, C14, C15, C16, C17, C18], [(PP21, lamQ "_law_right")], none⟩) (k := 3) T F13 (h_c_check_log.mono (by decide)) (h_c_later_bounds.mono (by decide))
  have F14 := fun_mk (st := s_InvalidLog___init__) l14 e14 k14
  have G14 := ok_InvalidLog___init__ (P := l.prog) (w := w) (base := base) (g := ⟨K, clOf [0, 0, 0, 0, 0, 0, 0, 0, C8, C9, C10, C11, C12, C13, C14, C15, C16, C17, C18], [(PP21, lamQ "_law_right")], none⟩) (k := 0) T F14 
  have h_xc_InvalidLog : XCls l.prog w mg base ⟨K, clOf [0, 0, 0, 0, 0, 0, 0, 0, C8, C9, C10, C11, C12, C13, C14, C15, C16, C17, C18], [(PP21, lamQ "_law_right")], none⟩ 1 15 "InvalidLog" ["at"] := ⟨_, _, _, PySem.W.mg_of X G aC15, T.ax_InvalidLog, a14, ti14, (F14.binds (ps := ["self", "at"]) fun _ _ _ _ _ _ us hl => match us, hl with | [_, _], _ => rfl), G14⟩
  have F15 := fun_mk (st := s_check_log_x) l15 e15 k15
  have G15 := ok_check_log_x (P := l.prog) (w := w) (base := base) (g := ⟨K, clOf [0, 0, 0, 0, 0, 0, 0, 0, C8, C9, C10, C11, C12, C13, C14, C15, C16, C17, C18], [(PP21, lamQ "_law_right")], none⟩) (k := 2) T F15 (h_xc_InvalidLog.mono (by decide)) (h_c_is_entry.mono (by decide))
  have F16 := fun_mk (st := s_InvalidTime___init__) l16 e16 k16
  have G16 := ok_InvalidTime___init__ (P := l.prog) (w := w) (base := base) (g := ⟨K, clOf [0, 0, 0, 0, 0, 0, 0, 0, C8, C9, C10, C11, C12, C13, C14, C15, C16, C17, C18], [(PP21, lamQ "_law_right")], none⟩) (k := 0) T F16 
  have h_cx_check_log_x : CalX l.prog w mg base ⟨K, clOf [0, 0, 0, 0, 0, 0, 0, 0, C8, C9, C10, C11, C12, C13, C14, C15, C16, C17, C18], [(PP21, lamQ "_law_right")], none⟩ 4 "check_log" 1 F_check_log_x := ⟨_, _, _, PySem.W.mg_of X G a15, k15, (F15.binds (ps := ["log"]) fun _ _ _ _ _ _ us hl => match us, hl with | [_], _ => rfl), G15⟩
  have h_xc_InvalidTime : XCls l.prog w mg base ⟨K, clOf [0, 0, 0, 0, 0, 0, 0, 0, C8, C9, C10, C11, C12, C13, C14, C15, C16, C17, C18], [(PP21, lamQ "_law_right")], none⟩ 1 10 "InvalidTime" ["time"] := ⟨_, _, _, PySem.W.mg_of X G aC10, T.ax_InvalidTime, a16, ti16, (F16.binds (ps := ["self", "time"]) fun _ _ _ _ _ _ us hl => match us, hl with | [_, _], _ => rfl), G16⟩
  have F17 := fun_mk (st := s_forecast_x) l17 e17 k17
  have G17 := ok_forecast_x (P := l.prog) (w := w) (base := base) (g := ⟨K, clOf [0, 0, 0, 0, 0, 0, 0, 0, C8, C9, C10, C11, C12, C13, C14, C15, C16, C17, C18], [(PP21, lamQ "_law_right")], none⟩) (k := 4) T F17 (h_cx_check_log_x.mono (by decide)) (h_c_is_integer.mono (by decide)) (h_xc_InvalidTime.mono (by decide)) (h_c_later_bounds.mono (by decide)) (h_xc_InvalidLog.mono (by decide)) (h_c_first_passes.mono (by decide))
  have F18 := fun_mk (st := s__law_said) l18 e18 k18
  have F19 := fun_mk (st := s_forecast) l19 e19 k19
  have G19 := ok_forecast (P := l.prog) (w := w) (base := base) (g := ⟨K, clOf [0, 0, 0, 0, 0, 0, 0, 0, C8, C9, C10, C11, C12, C13, C14, C15, C16, C17, C18], [(PP21, lamQ "_law_right")], none⟩) (k := 3) T F19 (h_c_check_log.mono (by decide)) (h_c_is_integer.mono (by decide)) (h_c_later_bounds.mono (by decide)) (h_c_first_passes.mono (by decide))
  have F20 := fun_mk (st := s__law_next) l20 e20 k20
  have G20 := ok__law_next (P := l.prog) (w := w) (base := base) (g := ⟨K, clOf [0, 0, 0, 0, 0, 0, 0, 0, C8, C9, C10, C11, C12, C13, C14, C15, C16, C17, C18], [(PP21, lamQ "_law_right")], none⟩) (k := 2) T F20 (h_c__law_fits.mono (by decide)) (h_c__law_log.mono (by decide))
  have h_c__law_seen : Cal l.prog w mg base ⟨K, clOf [0, 0, 0, 0, 0, 0, 0, 0, C8, C9, C10, C11, C12, C13, C14, C15, C16, C17, C18], [(PP21, lamQ "_law_right")], none⟩ 4 "_law_seen" 2 F__law_seen := ⟨_, _, _, PySem.W.mg_of X G a5, k5, (F5.binds (ps := ["_law_well_here", "_law_most"]) fun _ _ _ _ _ _ us hl => match us, hl with | [_, _], _ => rfl), G5⟩
  have h_c__law_conflict : Cal l.prog w mg base ⟨K, clOf [0, 0, 0, 0, 0, 0, 0, 0, C8, C9, C10, C11, C12, C13, C14, C15, C16, C17, C18], [(PP21, lamQ "_law_right")], none⟩ 3 "_law_conflict" 2 F__law_conflict := ⟨_, _, _, PySem.W.mg_of X G a7, k7, (F7.binds (ps := ["_law_log_here", "_law_most"]) fun _ _ _ _ _ _ us hl => match us, hl with | [_, _], _ => rfl), G7⟩
  have h_c_first_conflict : Cal l.prog w mg base ⟨K, clOf [0, 0, 0, 0, 0, 0, 0, 0, C8, C9, C10, C11, C12, C13, C14, C15, C16, C17, C18], [(PP21, lamQ "_law_right")], none⟩ 4 "first_conflict" 1 F_first_conflict := ⟨_, _, _, PySem.W.mg_of X G a13, k13, (F13.binds (ps := ["log"]) fun _ _ _ _ _ _ us hl => match us, hl with | [_], _ => rfl), G13⟩
  have h_cx_forecast_x : CalX l.prog w mg base ⟨K, clOf [0, 0, 0, 0, 0, 0, 0, 0, C8, C9, C10, C11, C12, C13, C14, C15, C16, C17, C18], [(PP21, lamQ "_law_right")], none⟩ 6 "forecast" 2 F_forecast_x := ⟨_, _, _, PySem.W.mg_of X G a17, k17, (F17.binds (ps := ["log", "time"]) fun _ _ _ _ _ _ us hl => match us, hl with | [_, _], _ => rfl), G17⟩
  have h_td__law_said : Told ⟨K, clOf [0, 0, 0, 0, 0, 0, 0, 0, C8, C9, C10, C11, C12, C13, C14, C15, C16, C17, C18], [(PP21, lamQ "_law_right")], none⟩ mg "_law_said" "_law_deed" s__law_said := told_of (PySem.W.mg_of X G a18) k18 l18 e18 (fun us hl => match us, hl with | [_], _ => rfl)
  have h_c_forecast : Cal l.prog w mg base ⟨K, clOf [0, 0, 0, 0, 0, 0, 0, 0, C8, C9, C10, C11, C12, C13, C14, C15, C16, C17, C18], [(PP21, lamQ "_law_right")], none⟩ 4 "forecast" 2 F_forecast := ⟨_, _, _, PySem.W.mg_of X G a19, k19, (F19.binds (ps := ["log", "time"]) fun _ _ _ _ _ _ us hl => match us, hl with | [_, _], _ => rfl), G19⟩
  have h_c__law_next : Cal l.prog w mg base ⟨K, clOf [0, 0, 0, 0, 0, 0, 0, 0, C8, C9, C10, C11, C12, C13, C14, C15, C16, C17, C18], [(PP21, lamQ "_law_right")], none⟩ 3 "_law_next" 3 F__law_next := ⟨_, _, _, PySem.W.mg_of X G a20, k20, (F20.binds (ps := ["_law_log_here", "_law_most", "_law_time"]) fun _ _ _ _ _ _ us hl => match us, hl with | [_, _, _], _ => rfl), G20⟩
  have F21 := fun_mk (st := s__law_right) l21 e21 k21
  have LT21 : LamT ⟨K, clOf [0, 0, 0, 0, 0, 0, 0, 0, C8, C9, C10, C11, C12, C13, C14, C15, C16, C17, C18], [(PP21, lamQ "_law_right")], none⟩ base mg cc21 "_law_right" := ⟨PP21, TB (cc21, PP21) (by simp), by simp, fun q hq e => by simp only [List.mem_cons, List.not_mem_nil, or_false] at hq; rcases hq with rfl <;> first | rfl | (simp_all)⟩
  have G21 := ok__law_right (P := l.prog) (w := w) (base := base) (g := ⟨K, clOf [0, 0, 0, 0, 0, 0, 0, 0, C8, C9, C10, C11, C12, C13, C14, C15, C16, C17, C18], [(PP21, lamQ "_law_right")], none⟩) (k := 6) T l21 e21 LT21 (h_c__law_seen.mono (by decide)) (h_c__law_conflict.mono (by decide)) (h_c_first_conflict.mono (by decide)) (h_c__law_draw.mono (by decide)) (h_cx_forecast_x.mono (by decide)) h_td__law_said (h_c_forecast.mono (by decide)) (h_c__law_next.mono (by decide))
  have h_c__law_well : Cal l.prog w mg base ⟨K, clOf [0, 0, 0, 0, 0, 0, 0, 0, C8, C9, C10, C11, C12, C13, C14, C15, C16, C17, C18], [(PP21, lamQ "_law_right")], none⟩ 1 "_law_well" 1 F__law_well := ⟨_, _, _, PySem.W.mg_of X G a0, k0, (F0.binds (ps := ["_law_cell"]) fun _ _ _ _ _ _ us hl => match us, hl with | [_], _ => rfl), G0⟩
  have h_c__law_right : Cal l.prog w mg base ⟨K, clOf [0, 0, 0, 0, 0, 0, 0, 0, C8, C9, C10, C11, C12, C13, C14, C15, C16, C17, C18], [(PP21, lamQ "_law_right")], none⟩ 9 "_law_right" 1 F__law_right := ⟨_, _, _, PySem.W.mg_of X G a21, k21, (F21.binds (ps := ["_law_well_here"]) fun _ _ _ _ _ _ us hl => match us, hl with | [_], _ => rfl), G21⟩
  exact spT_of (ok_law (P := l.prog) (w := w) (base := base) (g := ⟨K, clOf [0, 0, 0, 0, 0, 0, 0, 0, C8, C9, C10, C11, C12, C13, C14, C15, C16, C17, C18], [(PP21, lamQ "_law_right")], none⟩) (k := 9) T (fun_mk (st := s_law) l22 e22 k22) (h_c__law_well.mono (by decide)) (h_c__law_right.mono (by decide)))
end L
namespace L
open PySem L2 DV
/-! ### great numbers -/
@[irreducible] def BB : Int := 2 ^ 3000
theorem BB_big : 10 ^ 600 < BB := by unfold BB; decide +kernel
theorem log_bb {a : Int} (h1 : -(1000 * BB) < a) (h2 : a < 1000 * BB) : a.natAbs.log2 < 4000 := by
  by_cases z : a.natAbs = 0
  · rw [z]; decide
  · rw [Nat.log2_lt z]
    have e : (1000 : Int) * BB < 2 ^ 4000 := by unfold BB; decide +kernel
    have : (a.natAbs : Int) < 2 ^ 4000 := by omega
    exact Int.ofNat_lt.mp (by simpa using this)
theorem mul_bb {a b : Int} (h1 : -(1000 * BB) < a) (h2 : a < 1000 * BB) (h3 : -(1000 * BB) < b) (h4 : b < 1000 * BB) : mulOk a b = true := by
  have := log_bb h1 h2
  have := log_bb h3 h4
  unfold mulOk
  rw [decide_eq_true (p := a.natAbs.log2 + b.natAbs.log2 < 1000000) (by omega)]
  simp only [Bool.or_true]
theorem div_bb {b : Int} (h1 : 0 < b) (h2 : b < 1000 * BB) : b.natAbs.log2 < 9000 := by
  have := log_bb (a := b) (by have := BB_big; omega) h2
  omega
/-! ### small reads -/
def cD : Option Int → D
  | none => .non
  | some n => .int n
theorem i3_0 (x y z : D) : atI [x, y, z] 0 = some x := rfl
theorem i3_1 (x y z : D) : atI [x, y, z] 1 = some y := rfl
theorem i3_2 (x y z : D) : atI [x, y, z] 2 = some z := rfl
theorem i1_m (x : D) : atI [x] (-1) = some x := rfl
theorem cut_init (xs : List D) : cutD xs none (some (-1)) = xs.dropLast := by
  unfold cutD
  rw [HT.sIx_none, List.drop_zero, Nat.sub_zero, List.dropLast_eq_take]
  congr 1
  show (if (-1 : Int) < 0 then (-1 + (xs.length : Int)).toNat else min (-1 : Int).toNat xs.length) = _
  rw [if_pos (by decide)]
  omega
def lastL (xs : List D) : List D := match xs.getLast? with
  | none => []
  | some a => [a]
theorem cut_last (xs : List D) : cutD xs (some (-1)) none = lastL xs := by
  unfold cutD
  rw [HT.sIx_none]
  have e : HT.sIx xs.length 0 (some (-1)) = xs.length - 1 := by
    show (if (-1 : Int) < 0 then (-1 + (xs.length : Int)).toNat else min (-1 : Int).toNat xs.length) = _
    rw [if_pos (by decide)]
    omega
  rw [e, List.take_of_length_le (by rw [List.length_drop]; omega)]
  unfold lastL
  cases h : xs.getLast? with
  | none =>
    rw [List.getLast?_eq_none_iff] at h
    subst h
    rfl
  | some a =>
    obtain ⟨l, rfl⟩ := List.getLast?_eq_some_iff.mp h
    simp
theorem eq_ni (i : Int) : eqd .non (.int i) = false := by simp [eqd]
theorem eq_in (i : Int) : eqd (.int i) .non = false := by simp [eqd]
theorem is_int_i (i : Int) (b : Bool) : F_is_integer [some (.int i, b)] = some (.fz (.bl true), [some (.int i, b)]) := by
  cases b <;> simp [F_is_integer, DV.SC, DV.SE, DV.SX]

/-! ### is_breaker, check_times, log_of -/
theorem is_integer_int (i : Int) : F_is_integer [some (.int i, false)] = some (.fz (.bl true), [some (.int i, false)]) := rfl
abbrev br (f w s : Int) : D := .tup [.int f, .int w, .int s]
/-- times that rise -/
def Rise (lo : Int) : List Int → Prop
  | [] => True
  | t :: r => lo < t ∧ Rise t r
/-- what log_of tells -/
def logF (w : Int) : Int → Int → List Int → List D
  | _, _, [] => []
  | l, s, t :: r => if 0 < l ∨ w ≤ t - s then .tup [.int t, .bl true] :: logF w (max 0 (l - 1)) t r else .tup [.int t, .bl false] :: logF w l s r

/-! ### comprehensions and loops, in general -/
theorem comp_gen {fs : List FS} {own : List Nat} {tg : Tg} {ik : IK} {its cs : List DV.E} {elt : DV.E} {ds : List D} {Γ0 Γ : Ct} (g : D → Bool) (f : D → D)
    (e1 : (evs fs its Γ0).bind (fun p => iterD ik p.1 p.2) = some (ds, Γ)) (hp : plainIx Γ own = true) (hw : wipeG Γ own = Γ) (hr : restG Γ Γ own = Γ) (ht : (tgIx tg).all (fun i => own.contains i) = true) (hl : ds.length ≤ 16777216)
    (he : ∀ d ∈ ds, ∃ Γd, asgT tg d Γ = some Γd ∧ evc fs cs Γd = some (g d, Γd) ∧ plainIx Γd own = true ∧ wipeG Γd own = Γ ∧ (g d = true → ∃ x, ev fs elt Γd = some (x, Γd) ∧ fre Γd x = some (f d, Γd))) :
    ev fs (.comp own tg ik its cs elt) Γ0 = some (.nw (.lst ((ds.filter g).map f)), Γ) := by
  have key : ∀ (ds acc : List D), (∀ d ∈ ds, ∃ Γd, asgT tg d Γ = some Γd ∧ evc fs cs Γd = some (g d, Γd) ∧ plainIx Γd own = true ∧ wipeG Γd own = Γ ∧ (g d = true → ∃ x, ev fs elt Γd = some (x, Γd) ∧ fre Γd x = some (f d, Γd))) → compLoop own tg (evc fs cs) (ev fs elt) ds acc Γ = some (acc ++ (ds.filter g).map f, Γ) := by
    intro ds
    induction ds with
    | nil => intro acc _; simp [compLoop]
    | cons d ds ih =>
      intro acc h
      obtain ⟨Γd, a1, a2, a3, a4, a5⟩ := h d List.mem_cons_self
      have ih' := fun a => ih a fun e m => h e (List.mem_cons_of_mem _ m)
      simp only [compLoop, a1, Option.bind_some, a2]
      cases hg : g d with
      | true =>
        obtain ⟨x, ex, fx⟩ := a5 hg
        simp only [if_true, ex, Option.bind_some, fx]
        rw [if_pos a3, a4, ih', List.filter_cons, if_pos hg]
        simp
      | false =>
        simp only [Bool.false_eq_true, if_false]
        rw [if_pos a3, a4, ih', List.filter_cons, if_neg (by rw [hg]; simp)]
  obtain ⟨⟨xs, Γ1⟩, b1, b2⟩ := Option.bind_eq_some_iff.mp e1
  rw [DV.ev.eq_18]
  simp only [b1, Option.bind_some, b2]
  rw [if_pos (by rw [hp, ht, decide_eq_true (show ds.length ≤ sizeLine from hl)]; rfl), hw, key ds [] he]
  simp only [Option.map_some, hr, List.nil_append]
theorem comp_run {fs : List FS} {own : List Nat} {tg : Tg} {ik : IK} {its cs : List DV.E} {elt : DV.E} {ds out : List D} {Γ0 Γ1 Γ2 Γ3 : Ct}
    (e1 : (evs fs its Γ0).bind (fun p => iterD ik p.1 p.2) = some (ds, Γ1)) (hp : plainIx Γ1 own = true) (ht : (tgIx tg).all (fun i => own.contains i) = true) (hl : ds.length ≤ 16777216)
    (lp : compLoop own tg (evc fs cs) (ev fs elt) ds [] (wipeG Γ1 own) = some (out, Γ2)) (hr : restG Γ1 Γ2 own = Γ3) :
    ev fs (.comp own tg ik its cs elt) Γ0 = some (.nw (.lst out), Γ3) := by
  obtain ⟨⟨xs, Γ'⟩, b1, b2⟩ := Option.bind_eq_some_iff.mp e1
  rw [DV.ev.eq_18]
  simp only [b1, Option.bind_some, b2]
  rw [if_pos (by rw [hp, ht, decide_eq_true (show ds.length ≤ sizeLine from hl)]; rfl), lp]
  simp only [Option.map_some, hr]
theorem compLoop_step {own : List Nat} {tg : Tg} {ct : Ct → Option (Bool × Ct)} {el : Ct → Option (RV × Ct)} {d e : D} {ds acc : List D} {Γ Γ1 Γ2 Γ3 Γ4 Γ5 : Ct} {x : RV}
    (h1 : asgT tg d Γ = some Γ1) (h2 : ct Γ1 = some (true, Γ2)) (h3 : el Γ2 = some (x, Γ3)) (h4 : fre Γ3 x = some (e, Γ4)) (h5 : plainIx Γ4 own = true) (h6 : wipeG Γ4 own = Γ5) :
    compLoop own tg ct el (d :: ds) acc Γ = compLoop own tg ct el ds (acc ++ [e]) Γ5 := by
  simp only [compLoop, h1, h2, h3, h4, Option.bind_some, if_true]
  rw [if_pos h5, h6]
theorem for_inv {tg : Tg} {body : Ct → Option Out} (P : List D → Ct → Prop) (h : ∀ d ds Γ, P (d :: ds) Γ → ∃ Γ1 Γ2, asgT tg d Γ = some Γ1 ∧ body Γ1 = some (.nx Γ2) ∧ P ds Γ2) :
    ∀ (ds : List D) (Γ : Ct), P ds Γ → ∃ Γ', forLoop tg body ds Γ = some (.nx Γ') ∧ P [] Γ'
  | [], Γ, p => ⟨Γ, by simp [forLoop], p⟩
  | d :: ds, Γ, p => by
    obtain ⟨Γ1, Γ2, a, b, c⟩ := h d ds Γ p
    obtain ⟨Γ', e, q⟩ := for_inv P h ds Γ2 c
    exact ⟨Γ', by rw [forLoop_step a b]; exact e, q⟩

theorem cut_to (xs : List D) (k : Nat) : cutD xs none (some (k : Int)) = xs.take k := by
  unfold cutD
  rw [HT.sIx_none, HT.sIx_nat, List.drop_zero, Nat.sub_zero]
  by_cases h : k ≤ xs.length
  · rw [Nat.min_eq_left h]
  · rw [Nat.min_eq_right (by omega), List.take_of_length_le (Nat.le_refl _), List.take_of_length_le (by omega)]
/-! ### what is told of a row -/

/-! ### logs in plain words -/
abbrev eD (e : Int × Bool) : D := .tup [.int e.1, .bl e.2]
/-- what a breaker does that has so many passes left, or opened then -/
def runB (w : Int) : Nat → Int → List Int → List (Int × Bool)
  | _, _, [] => []
  | l + 1, _, t :: ts => (t, true) :: runB w l t ts
  | 0, s, t :: ts => if w ≤ t - s then (t, true) :: runB w 0 t ts else (t, false) :: runB w 0 s ts
theorem logF_run (w : Int) : ∀ (ts : List Int) (l : Nat) (s : Int), logF w (l : Int) s ts = (runB w l s ts).map eD
  | [], l, s => by cases l <;> rfl
  | t :: ts, 0, s => by
    rw [logF, runB]
    by_cases c : w ≤ t - s
    · rw [if_pos c, if_pos (.inr c), List.map_cons, show max 0 (((0 : Nat) : Int) - 1) = ((0 : Nat) : Int) from rfl, logF_run w ts 0 t]
    · rw [if_neg c, if_neg (by rintro (h | h); exact absurd h (by decide); exact c h), List.map_cons, logF_run w ts 0 s]
  | t :: ts, l + 1, s => by
    rw [logF, runB, if_pos (.inl (by omega)), List.map_cons, show max 0 (((l + 1 : Nat) : Int) - 1) = (l : Int) by omega, logF_run w ts l t]
/-- a breaker with so many passes left does what a log says -/
def okF (w : Int) : Nat → Int → List (Int × Bool) → Prop
  | _, _, [] => True
  | l + 1, _, (t, b) :: E => b = true ∧ okF w l t E
  | 0, s, (t, b) :: E => (b = true ↔ w ≤ t - s) ∧ okF w 0 (if b then t else s) E
theorem run_ok (w : Int) : ∀ (E : List (Int × Bool)) (l : Nat) (s : Int), runB w l s (E.map (·.1)) = E ↔ okF w l s E
  | [], l, s => by cases l <;> simp [runB, okF]
  | (t, b) :: E, 0, s => by
    rw [List.map_cons, runB, okF]
    by_cases c : w ≤ t - s
    · rw [if_pos c]
      cases b with
      | true => simp [c, run_ok w E 0 t]
      | false => simp [c]
    · rw [if_neg c]
      cases b with
      | true => simp [c]
      | false => simp [c, run_ok w E 0 s]
  | (t, b) :: E, l + 1, s => by
    rw [List.map_cons, runB, okF]
    cases b <;> simp [run_ok w E l t]
/-- bounds on the wait by the entries behind a pass -/
def bdE : Int → Int → Int → List (Int × Bool) → Int × Int
  | lo, hi, _, [] => (lo, hi)
  | lo, hi, s, (t, true) :: E => bdE lo (min hi (t - s)) t E
  | lo, hi, s, (t, false) :: E => bdE (max lo (t - s + 1)) hi s E
theorem bdE_ok (w : Int) : ∀ (E : List (Int × Bool)) (lo hi s : Int), (lo ≤ w ∧ w ≤ hi ∧ okF w 0 s E) ↔ ((bdE lo hi s E).1 ≤ w ∧ w ≤ (bdE lo hi s E).2)
  | [], lo, hi, s => by simp [bdE, okF]
  | (t, true) :: E, lo, hi, s => by
    rw [bdE, okF, ← bdE_ok w E]
    constructor
    · rintro ⟨a, b, c, d⟩
      have c := c.mp rfl
      exact ⟨a, by omega, by simpa using d⟩
    · rintro ⟨a, b, d⟩
      exact ⟨a, by omega, ⟨fun _ => by omega, fun _ => rfl⟩, by simpa using d⟩
  | (t, false) :: E, lo, hi, s => by
    rw [bdE, okF, ← bdE_ok w E]
    constructor
    · rintro ⟨a, b, c, d⟩
      have c : ¬ w ≤ t - s := fun z => by have := c.mpr z; cases this
      exact ⟨by omega, b, by simpa using d⟩
    · rintro ⟨a, b, d⟩
      exact ⟨by omega, b, ⟨fun z => (by cases z), fun z => (by omega)⟩, by simpa using d⟩
theorem bdE_mono : ∀ (E : List (Int × Bool)) (lo hi s : Int), lo ≤ (bdE lo hi s E).1 ∧ (bdE lo hi s E).2 ≤ hi
  | [], lo, hi, s => ⟨Int.le_refl _, Int.le_refl _⟩
  | (t, true) :: E, lo, hi, s => by
    have := bdE_mono E lo (min hi (t - s)) t
    rw [bdE]; omega
  | (t, false) :: E, lo, hi, s => by
    have := bdE_mono E (max lo (t - s + 1)) hi s
    rw [bdE]; omega
/-- how many entries are passed first -/
def fpN : List (Int × Bool) → Nat
  | (_, true) :: E => fpN E + 1
  | _ => 0
theorem fpN_le : ∀ E : List (Int × Bool), fpN E ≤ E.length
  | [] => Nat.le_refl _
  | (_, true) :: E => by rw [fpN, List.length_cons]; have := fpN_le E; omega
  | (_, false) :: E => Nat.zero_le _
/-- the time of an entry -/
def tmE (E : List (Int × Bool)) (i : Nat) : Int := (E[i]?.map (·.1)).getD 0
/-- so many entries are passed -/
theorem okF_true (w : Int) : ∀ (E : List (Int × Bool)) (f : Nat) (s : Int), f ≤ fpN E → (okF w f s E ↔ okF w 0 (if f = 0 then s else tmE E (f - 1)) (E.drop f))
  | E, 0, s, _ => by simp
  | [], f + 1, s, h => by simp [fpN] at h
  | (t, false) :: E, f + 1, s, h => by simp [fpN] at h
  | (t, true) :: E, f + 1, s, h => by
    rw [fpN] at h
    rw [okF, List.drop_succ_cons, okF_true w E f t (by omega), if_neg (show ¬ f + 1 = 0 by omega), Nat.add_sub_cancel]
    cases f with
    | zero => simp [tmE]
    | succ f =>
      rw [if_neg (show ¬ f + 1 = 0 by omega), Nat.add_sub_cancel]
      simp [tmE]
/-- more failures than entries that are passed first do not fit, if an entry is rejected -/
theorem okF_many (w : Int) : ∀ (E : List (Int × Bool)) (f : Nat) (s : Int), fpN E < f → fpN E < E.length → ¬ okF w f s E
  | [], f, s, _, h => by simp at h
  | (t, false) :: E, 0, s, h, _ => by simp [fpN] at h
  | (t, false) :: E, f + 1, s, _, _ => by simp [okF]
  | (t, true) :: E, 0, s, h, _ => by omega
  | (t, true) :: E, f + 1, s, h, h2 => by
    rw [fpN] at h h2
    rw [List.length_cons] at h2
    rw [okF]
    exact fun z => okF_many w E f t (by omega) (by omega) z.2
/-- the greatest wait for a number of failures -/
def hiF (E : List (Int × Bool)) (hi : Int) (b : Nat) : Nat → Int
  | 0 => hi
  | k + 1 => min (hiF E hi b k) (tmE E (b - (k + 1)) - tmE E (b - (k + 1) - 1))
theorem okF_step (w : Int) {E : List (Int × Bool)} {f : Nat} (h : f < fpN E) (f1 : 1 ≤ f) (s : Int) : okF w f s E ↔ (w ≤ tmE E f - tmE E (f - 1) ∧ okF w (f + 1) s E) := by
  rw [okF_true w E f s (by omega), okF_true w E (f + 1) s (by omega), if_neg (by omega), if_neg (by omega), Nat.add_sub_cancel]
  have hl : f < E.length := Nat.lt_of_lt_of_le h (fpN_le E)
  have key : ∀ (E : List (Int × Bool)) (f : Nat) (h : f < fpN E) (hl : f < E.length), E[f].2 = true := by
    intro E
    induction E with
    | nil => intro f h; simp [fpN] at h
    | cons e E ih =>
      intro f h hl
      obtain ⟨t, b⟩ := e
      cases b with
      | false => simp [fpN] at h
      | true =>
        cases f with
        | zero => rfl
        | succ f => exact ih f (by rw [fpN] at h; omega) (by simpa using hl)
  have hb := key E f h hl
  have et : tmE E f = E[f].1 := by unfold tmE; rw [List.getElem?_eq_getElem hl]; rfl
  rw [List.drop_eq_getElem_cons hl]
  generalize E[f] = e at *
  obtain ⟨t, b⟩ := e
  simp only at hb et
  subst hb
  rw [okF, et]
  simp
theorem okF_hi (w : Int) {E : List (Int × Bool)} {hi lo : Int} (s0 : Int) (hb : 1 ≤ fpN E) (h : okF w (fpN E) s0 E ↔ (lo ≤ w ∧ w ≤ hi)) : ∀ k : Nat, k < fpN E → (okF w (fpN E - k) s0 E ↔ (lo ≤ w ∧ w ≤ hiF E hi (fpN E) k))
  | 0, _ => h
  | k + 1, hk => by
    have ih := okF_hi w s0 hb h k (by omega)
    rw [okF_step w (f := fpN E - (k + 1)) (by omega) (by omega) s0, show fpN E - (k + 1) + 1 = fpN E - k by omega, ih, hiF]
    constructor
    · rintro ⟨a, b, c⟩; exact ⟨b, by omega⟩
    · rintro ⟨a, b⟩; exact ⟨by omega, a, by omega⟩
/-- which waits explain a log with a number of failures, from 1 to the number of entries passed first -/
theorem fits_iff (w : Int) {E : List (Int × Bool)} (hb : 1 ≤ fpN E) (w1 : 1 ≤ w) (w2 : w ≤ 1000000000000000000000000000000) {k : Nat} (hk : k < fpN E) :
    okF w (fpN E - k) 0 E ↔ ((bdE 1 1000000000000000000000000000000 (tmE E (fpN E - 1)) (E.drop (fpN E))).1 ≤ w ∧ w ≤ hiF E (bdE 1 1000000000000000000000000000000 (tmE E (fpN E - 1)) (E.drop (fpN E))).2 (fpN E) k) := by
  refine okF_hi w 0 hb ?_ k hk
  rw [okF_true w E (fpN E) 0 (Nat.le_refl _), if_neg (by omega), ← bdE_ok]
  exact ⟨fun z => ⟨w1, w2, z⟩, fun z => z.2.2⟩
/-! ### logs in order -/
def RiseE : Int → List (Int × Bool) → Prop
  | _, [] => True
  | lo, (t, _) :: E => lo < t ∧ RiseE t E
/-- the greatest wait is the greatest one of all, or a difference of times -/
def topE (lo : Int) : List (Int × Bool) → Int
  | [] => lo
  | (t, _) :: E => topE t E
theorem rise_top : ∀ (E : List (Int × Bool)) (lo : Int), RiseE lo E → lo ≤ topE lo E
  | [], _, _ => Int.le_refl _
  | (t, _) :: E, lo, ⟨h, r⟩ => by have := rise_top E t r; show lo ≤ topE t E; omega
theorem rise_get : ∀ (E : List (Int × Bool)) (lo : Int), RiseE lo E → ∀ (i : Nat), i < E.length → lo < tmE E i ∧ tmE E i ≤ topE lo E
  | [], _, _, i, h => by simp at h
  | (t, b) :: E, lo, ⟨h, r⟩, 0, _ => ⟨by simpa [tmE] using h, by have := rise_top E t r; simpa [tmE, topE] using this⟩
  | (t, b) :: E, lo, ⟨h, r⟩, i + 1, hi => by
    have := rise_get E t r i (by simpa using hi)
    have e : tmE ((t, b) :: E) (i + 1) = tmE E i := by simp [tmE]
    rw [e]
    show lo < _ ∧ _ ≤ topE t E
    omega
theorem rise_drop : ∀ (E : List (Int × Bool)) (lo : Int) (n : Nat), RiseE lo E → 1 ≤ n → n ≤ E.length → RiseE (tmE E (n - 1)) (E.drop n) ∧ topE (tmE E (n - 1)) (E.drop n) = topE lo E
  | [], _, n, _, h, h2 => by simp at h2; omega
  | (t, b) :: E, lo, 1, ⟨h, r⟩, _, _ => ⟨by simpa [tmE] using r, by simp [tmE, topE]⟩
  | (t, b) :: E, lo, n + 2, ⟨h, r⟩, _, h2 => by
    have := rise_drop E t (n + 1) r (by omega) (by simpa using h2)
    simpa [tmE, topE] using this
theorem bdE_hi : ∀ (E : List (Int × Bool)) (lo hi s T : Int), RiseE s E → topE s E = T → 0 ≤ s → (bdE lo hi s E).2 = hi ∨ (bdE lo hi s E).2 ≤ T
  | [], lo, hi, s, T, _, _, _ => .inl rfl
  | (t, true) :: E, lo, hi, s, T, ⟨h, r⟩, e, s0 => by
    rw [bdE]
    have := rise_top E t r
    have e : topE t E = T := e
    have m := (bdE_mono E lo (min hi (t - s)) t).2
    right
    omega
  | (t, false) :: E, lo, hi, s, T, ⟨h, r⟩, e, s0 => by
    rw [bdE]
    -- the pass stays, the times go on
    have key : ∀ (E : List (Int × Bool)) (lo hi s t : Int), s ≤ t → RiseE t E → 0 ≤ s → (bdE lo hi s E).2 = hi ∨ (bdE lo hi s E).2 ≤ topE t E := by
      intro E
      induction E with
      | nil => intro lo hi s t _ _ _; exact .inl rfl
      | cons e E ih =>
        intro lo hi s t hst ⟨h1, r1⟩ s0
        obtain ⟨t', b⟩ := e
        have h1 : t < t' := h1
        have tt := rise_top E t' r1
        cases b with
        | true =>
          rw [bdE]
          have m := (bdE_mono E lo (min hi (t' - s)) t').2
          right
          show _ ≤ topE t' E
          omega
        | false =>
          rw [bdE]
          exact ih _ hi s t' (by omega) r1 s0
    rw [← e]
    exact key E _ hi s t (by omega) r s0
theorem bdE_lo : ∀ (E : List (Int × Bool)) (lo hi s t T : Int), s ≤ t → RiseE t E → topE t E = T → 0 ≤ s → (bdE lo hi s E).1 ≤ max lo (T + 1)
  | [], lo, hi, s, t, T, _, _, _, _ => by simp [bdE]; omega
  | (t', true) :: E, lo, hi, s, t, T, hst, ⟨h, r⟩, e, s0 => by
    rw [bdE]
    have h : t < t' := h
    exact bdE_lo E lo _ t' t' T (Int.le_refl _) r e (by omega)
  | (t', false) :: E, lo, hi, s, t, T, hst, ⟨h, r⟩, e, s0 => by
    rw [bdE]
    have h : t < t' := h
    have tt := rise_top E t' r
    have e : topE t' E = T := e
    have := bdE_lo E (max lo (t' - s + 1)) hi s t' T (by omega) r e s0
    omega
theorem hiF_or {E : List (Int × Bool)} {hi T : Int} {lo : Int} (r : RiseE lo E) (l0 : -1 ≤ lo) (hT : topE lo E = T) (h : hi = 1000000000000000000000000000000 ∨ hi ≤ T) {b : Nat} (hb : b ≤ E.length) : ∀ k : Nat, k < b → hiF E hi b k = 1000000000000000000000000000000 ∨ hiF E hi b k ≤ T
  | 0, _ => h
  | k + 1, hk => by
    have ih := hiF_or r l0 hT h hb k (by omega)
    have a := rise_get E lo r (b - (k + 1)) (by omega)
    have c := rise_get E lo r (b - (k + 1) - 1) (by omega)
    rw [hiF]
    right
    omega

/-! ### the law's own breaker -/
def snO (l : Nat) (s : Int) : D := if l = 0 then .int s else .non
abbrev lgG (B T : D) (x2 : Sl) (F : List D) (l : Nat) (s : Int) (x6 : Sl) : Ct := [some (B, false), some (T, false), x2, some (.lst F, true), some (.int (l : Int), false), some (snO l s, false), x6]
theorem lg_body (f w : Int) (T : D) (F : List D) (hz : F.length < 100000) (l : Nat) (s t : Int) (x6 : Sl) : ∃ e l' s', runB w l s [t] = [e] ∧ (∀ ts, runB w l s (t :: ts) = e :: runB w l' s' ts) ∧ exs [] [] B__law_log_1 (lgG (br f w 1) T (some (.int t, false)) F l s x6) = some (.nx (lgG (br f w 1) T (some (.int t, false)) (F ++ [eD e]) l' s' (some (.bl e.2, false)))) := by
  have i1 : atI [D.int f, D.int w, D.int 1] 1 = some (.int w) := rfl
  have hz2 : F.length < 16777216 := by omega
  cases l with
  | zero =>
    by_cases c : w ≤ t - s
    · have c2 : s + w ≤ t := by omega
      refine ⟨(t, true), 0, t, by simp [runB, c], fun ts => by simp [runB, c], ?_⟩
      simp [B__law_log_1, DV.SC, DV.SE, DV.SX, snO, i1, c2, hz2, sizeLine]
    · have c2 : ¬ s + w ≤ t := by omega
      refine ⟨(t, false), 0, s, by simp [runB, c], fun ts => by simp [runB, c], ?_⟩
      simp [B__law_log_1, DV.SC, DV.SE, DV.SX, snO, i1, c2, hz2, sizeLine]
  | succ l =>
    refine ⟨(t, true), l, t, by cases l <;> simp [runB], fun ts => rfl, ?_⟩
    have e1 : ((l + 1 : Nat) : Int) - 1 = (l : Int) := by omega
    have e2 : ¬ (l : Int) < 0 := by omega
    have sn : snO (l + 1) s = .non := by unfold snO; exact if_neg (by omega)
    cases l with
    | zero => simp [B__law_log_1, DV.SC, DV.SE, DV.SX, snO, hz2, sizeLine]
    | succ l =>
      have e3 : ¬ ((l : Int) + 1 = 0) := by omega
      have e4 : ¬ ((l : Int) + 1 < 0) := by omega
      have e5 : (l : Int) + 1 + 1 - 1 = (l : Int) + 1 := by omega
      simp [B__law_log_1, DV.SC, DV.SE, DV.SX, snO, hz2, e3, e4, e5, sizeLine]
theorem lg_loop (f w : Int) (T : D) : ∀ (ts : List Int) (F : List D) (l : Nat) (s : Int) (x2 x6 : Sl), F.length + ts.length ≤ 90000 → ∃ l' s' y2 y6, forLoop (.nm 2) (exs [] [] B__law_log_1) (ts.map D.int) (lgG (br f w 1) T x2 F l s x6) = some (.nx (lgG (br f w 1) T y2 (F ++ (runB w l s ts).map eD) l' s' y6))
  | [], F, l, s, x2, x6, _ => ⟨l, s, x2, x6, by cases l <;> simp [forLoop, runB]⟩
  | t :: ts, F, l, s, x2, x6, hz => by
    rw [List.length_cons] at hz
    obtain ⟨e, l', s', _, er, bd⟩ := lg_body f w T F (by omega) l s t x6
    obtain ⟨l2, s2, y2, y6, ih⟩ := lg_loop f w T ts (F ++ [eD e]) l' s' (some (.int t, false)) (some (.bl e.2, false)) (by rw [List.length_append, List.length_singleton]; omega)
    refine ⟨l2, s2, y2, y6, ?_⟩
    have el : F ++ (runB w l s (t :: ts)).map eD = F ++ [eD e] ++ (runB w l' s' ts).map eD := by rw [er]; simp
    rw [List.map_cons, el, ← ih]
    refine forLoop_step ?_ bd
    simp [DV.SC, DV.SE, DV.SX]
theorem law_log_ok (f : Nat) (w : Int) (hf : 1 ≤ f) (ts : List Int) (hz : ts.length ≤ 1000) (fl : Bool) : F__law_log [some (br f w 1, false), some (.lst (ts.map D.int), fl)] = some (.nw (.lst ((runB w f 0 ts).map eD)), [some (br f w 1, false), some (.lst (ts.map D.int), false)]) := by
  obtain ⟨l', s', y2, y6, lp⟩ := lg_loop f w (.lst (ts.map D.int)) ts [] f 0 none none (by simp; omega)
  rw [List.nil_append] at lp
  have i0 : atI [D.int (f : Int), D.int w, D.int 1] 0 = some (.int f) := rfl
  have sn : snO f 0 = .non := by unfold snO; exact if_neg (by omega)
  generalize (runB w f 0 ts).map eD = RR at *
  refine runF_pn (pn := []) (o := .rt (.sl 3) (lgG (br f w 1) (.lst (ts.map D.int)) y2 RR l' s' y6)) rfl (by cases fl <;> rfl) (?_ : exs _ [] _ [some (br f w 1, false), some (.lst (ts.map D.int), fl), none, none, none, none, none] = _) (by cases fl <;> rfl)
  refine (exs_nx (Γ1 := [some (br f w 1, false), some (.lst (ts.map D.int), fl), none, some (.lst [], true), some (.int (f : Int), false), some (.non, false), none]) (by generalize ts.map D.int = TT; simp [DV.SC, DV.SE, DV.SX, i0, sizeLine])).trans ?_
  have lp' : forLoop (.nm 2) (exs [] [] B__law_log_1) (ts.map D.int) [some (br f w 1, false), some (.lst (ts.map D.int), false), none, some (.lst [], true), some (.int (f : Int), false), some (.non, false), none] = some (.nx (lgG (br f w 1) (.lst (ts.map D.int)) y2 RR l' s' y6)) := by rw [← sn]; exact lp
  refine (exs_nx (ex_for (Γ2 := [some (br f w 1, false), some (.lst (ts.map D.int), false), none, some (.lst [], true), some (.int (f : Int), false), some (.non, false), none]) (ds := ts.map D.int) (by generalize ts.map D.int = TT; cases fl <;> simp [DV.SC, DV.SE, DV.SX]) (by simp [DV.SC, DV.SE, DV.SX]) lp')).trans ?_
  generalize ts.map D.int = TT
  simp [DV.SC, DV.SE, DV.SX]
/-! ### the package's words -/
abbrev EL (E : List (Int × Bool)) : D := .lst (E.map eD)
theorem e_get {E : List (Int × Bool)} {i : Nat} {e : Int × Bool} (h : E[i]? = some e) : atI (E.map eD) (i : Int) = some (eD e) := atI_nat (by rw [List.getElem?_map, h]; rfl)
theorem e2_0 (a b : D) : atI [a, b] 0 = some a := rfl
theorem e2_1 (a b : D) : atI [a, b] 1 = some b := rfl
theorem fp_loop (A : List (Int × Bool)) : ∀ (E B : List (Int × Bool)) (n : Nat) (fl : Bool), A = B ++ E → E.length < n → A.length ≤ 1000 → whlLoop (tst [] C_first_passes_2) (exs [] [] B_first_passes_1) n [some (EL A, fl), some (.int (B.length : Int), false)] = some (.nx [some (EL A, fl), some (.int ((B.length + fpN E : Nat) : Int), false)])
  | [], B, 0, fl, _, h, _ => by simp at h
  | [], B, n + 1, fl, e, h, hz => by
    rw [show B.length + fpN [] = B.length from rfl]
    refine whl_done ?_
    have hl : ((A.map eD).length : Int) = (B.length : Int) := by rw [List.length_map, e]; simp
    unfold EL
    generalize A.map eD = AA at *
    generalize (B.length : Int) = bb at *
    simp [tst, C_first_passes_2, DV.SC, DV.SE, DV.SX, hl]
  | (t, b) :: E, B, 0, fl, _, h, _ => by simp at h
  | (t, b) :: E, B, n + 1, fl, e, h, hz => by
    have hl : (B.length : Int) < ((A.map eD).length : Int) := by rw [List.length_map, e]; simp; omega
    have g : atI (A.map eD) (B.length : Int) = some (eD (t, b)) := e_get (by rw [e]; simp)
    cases b with
    | false =>
      rw [show B.length + fpN ((t, false) :: E) = B.length from rfl]
      refine whl_done ?_
      unfold EL
      generalize A.map eD = AA at *
      generalize (B.length : Int) = bb at *
      simp [tst, C_first_passes_2, DV.SC, DV.SE, DV.SX, hl, g, e2_1, eD]
    | true =>
      have ih := fp_loop A E (B ++ [(t, true)]) n fl (by rw [e]; simp) (by simpa using h) hz
      rw [List.length_append, List.length_singleton] at ih
      rw [show fpN ((t, true) :: E) = fpN E + 1 from rfl, show B.length + (fpN E + 1) = B.length + 1 + fpN E by omega, ← ih]
      rw [show ((B.length + 1 : Nat) : Int) = (B.length : Int) + 1 by omega]
      refine whl_step (Γ1 := [some (EL A, fl), some (.int (B.length : Int), false)]) ?_ ?_
      · unfold EL
        generalize A.map eD = AA at *
        generalize (B.length : Int) = bb at *
        simp [tst, C_first_passes_2, DV.SC, DV.SE, DV.SX, hl, g, e2_1, eD]
      · unfold EL
        generalize A.map eD = AA at *
        generalize (B.length : Int) = bb at *
        simp [B_first_passes_1, DV.SC, DV.SE, DV.SX]
theorem first_passes_ok (E : List (Int × Bool)) (hz : E.length ≤ 1000) (fl : Bool) : F_first_passes [some (EL E, fl)] = some (.fz (.int ((fpN E : Nat) : Int)), [some (EL E, fl)]) := by
  have lp := fp_loop E E [] fuel fl rfl (by unfold fuel; omega) hz
  rw [List.length_nil, Nat.zero_add] at lp
  unfold EL at *
  generalize E.map eD = EE at *
  generalize ((fpN E : Nat) : Int) = v at *
  refine runF_pn (pn := []) (o := .rt (.sl 1) [some (.lst EE, fl), some (.int v, false)]) rfl (by cases fl <;> rfl) (?_ : exs _ [] _ [some (.lst EE, fl), none] = _) (by cases fl <;> rfl)
  refine (exs_nx (Γ1 := [some (.lst EE, fl), some (.int 0, false)]) (by simp [DV.SC, DV.SE, DV.SX])).trans ?_
  refine (exs_nx (ex_whl lp)).trans ?_
  simp [DV.SC, DV.SE, DV.SX]

/-! ### later_bounds -/
theorem exs_appR {fs : List FS} {pn : List Nat} {r : RV} {Γ' : Ct} : ∀ {l1 l2 : List DV.S} {Γ : Ct}, exs fs pn l1 Γ = some (.rt r Γ') → exs fs pn (l1 ++ l2) Γ = some (.rt r Γ')
  | [], l2, Γ, h => by simp [DV.exs.eq_1] at h
  | s :: l1, l2, Γ, h => by
    rw [List.cons_append]
    simp only [DV.exs.eq_2] at h ⊢
    obtain ⟨o, e1, h⟩ := Option.bind_eq_some_iff.mp h
    rw [e1]
    cases o with
    | nx Γ2 => exact exs_appR h
    | bk _ => cases h
    | ct _ => cases h
    | rt _ _ => exact h
    | xc _ _ _ _ => cases h
abbrev fsB : List FS := [F_first_passes]
abbrev lbG (L : D) (fl : Bool) (n : Int) (x2 : Sl) (lo hi s : Int) (x6 x7 : Sl) : Ct := [some (L, fl), some (.int n, false), x2, some (.int lo, false), some (.int hi, false), some (.int s, false), x6, x7]
theorem lb_body (L : List D) (fl : Bool) (n i lo hi s t : Int) (b : Bool) (x6 x7 : Sl) (g : atI L i = some (.tup [.int t, .bl b])) (pn : List Nat) (h6 : ¬ 6 ∈ pn) (h7 : ¬ 7 ∈ pn) (h3 : ¬ 3 ∈ pn) (h4 : ¬ 4 ∈ pn) (h5 : ¬ 5 ∈ pn) :
    exs fsB pn B_later_bounds_1 (lbG (.lst L) fl n (some (.int i, false)) lo hi s x6 x7) =
      if (if b then lo else max lo (t - s + 1)) > (if b then min hi (t - s) else hi) then some (.rt (.fz (.tup [.int (if b then lo else max lo (t - s + 1)), .int (if b then min hi (t - s) else hi), .int i])) (lbG (.lst L) fl n (some (.int i, false)) (if b then lo else max lo (t - s + 1)) (if b then min hi (t - s) else hi) (if b then t else s) (some (.int t, false)) (some (.bl b, false))))
      else some (.nx (lbG (.lst L) fl n (some (.int i, false)) (if b then lo else max lo (t - s + 1)) (if b then min hi (t - s) else hi) (if b then t else s) (some (.int t, false)) (some (.bl b, false)))) := by
  have mi : (if t - s < hi then t - s else hi) = min hi (t - s) := by split <;> omega
  have ma : (if lo < t - s + 1 then t - s + 1 else lo) = max lo (t - s + 1) := by split <;> omega
  cases b with
  | true =>
    simp only [if_true]
    generalize min hi (t - s) = m at *
    by_cases c : m < lo
    · rw [if_pos c]; simp [B_later_bounds_1, DV.SC, DV.SE, DV.SX, g, mi, c, h3, h4, h5, h6, h7, sizeLine]
    · rw [if_neg c]; simp [B_later_bounds_1, DV.SC, DV.SE, DV.SX, g, mi, c, h3, h4, h5, h6, h7, sizeLine]
  | false =>
    simp only [Bool.false_eq_true, if_false]
    generalize max lo (t - s + 1) = m at *
    by_cases c : hi < m
    · rw [if_pos c]; simp [B_later_bounds_1, DV.SC, DV.SE, DV.SX, g, ma, c, h3, h4, h5, h6, h7, sizeLine]
    · rw [if_neg c]; simp [B_later_bounds_1, DV.SC, DV.SE, DV.SX, g, ma, c, h3, h4, h5, h6, h7, sizeLine]
/-- how the walk over the entries ends -/
theorem lb_loop (A : List (Int × Bool)) (fl : Bool) (n : Int) : ∀ (E B : List (Int × Bool)) (lo hi s : Int) (x2 x6 x7 : Sl), A = B ++ E → lo ≤ hi →
    (∃ y2 y6 y7 s', forLoop (.nm 2) (exs fsB [] B_later_bounds_1) (rngD (B.length : Int) 1 E.length) (lbG (EL A) fl n x2 lo hi s x6 x7) = some (.nx (lbG (EL A) fl n y2 (bdE lo hi s E).1 (bdE lo hi s E).2 s' y6 y7)) ∧ (bdE lo hi s E).1 ≤ (bdE lo hi s E).2) ∨
    (∃ y2 y6 y7 s' lo' hi' k, forLoop (.nm 2) (exs fsB [] B_later_bounds_1) (rngD (B.length : Int) 1 E.length) (lbG (EL A) fl n x2 lo hi s x6 x7) = some (.rt (.fz (.tup [.int lo', .int hi', .int ((B.length + k : Nat) : Int)])) (lbG (EL A) fl n y2 lo' hi' s' y6 y7)) ∧ k < E.length ∧ (bdE lo hi s (E.take k)).1 ≤ (bdE lo hi s (E.take k)).2 ∧ (bdE lo hi s (E.take (k + 1))).2 < (bdE lo hi s (E.take (k + 1))).1)
  | [], B, lo, hi, s, x2, x6, x7, e, h => .inl ⟨x2, x6, x7, s, by simp [rngD, forLoop, bdE], by simpa [bdE] using h⟩
  | (t, b) :: E, B, lo, hi, s, x2, x6, x7, e, h => by
    have g : atI (A.map eD) (B.length : Int) = some (.tup [.int t, .bl b]) := e_get (e := (t, b)) (by rw [e]; simp)
    have bd := lb_body (A.map eD) fl n B.length lo hi s t b x6 x7 g [] (by simp) (by simp) (by simp) (by simp) (by simp)
    have ebd : ∀ E, bdE lo hi s ((t, b) :: E) = bdE (if b then lo else max lo (t - s + 1)) (if b then min hi (t - s) else hi) (if b then t else s) E := fun E => by cases b <;> rfl
    have h0 : (bdE lo hi s []).1 ≤ (bdE lo hi s []).2 := by simpa [bdE] using h
    have as : asgT (.nm 2) (.int (B.length : Int)) (lbG (EL A) fl n x2 lo hi s x6 x7) = some (lbG (EL A) fl n (some (.int (B.length : Int), false)) lo hi s x6 x7) := by
      unfold EL
      generalize A.map eD = AA
      simp [DV.SC, DV.SE, DV.SX]
    rw [List.length_cons, rngD, ebd]
    generalize (if b then lo else max lo (t - s + 1)) = lo1 at *
    generalize (if b then min hi (t - s) else hi) = hi1 at *
    generalize (if b then t else s) = s1 at *
    by_cases c : lo1 > hi1
    · rw [if_pos c] at bd
      refine .inr ⟨some (.int (B.length : Int), false), some (.int t, false), some (.bl b, false), s1, lo1, hi1, 0, ?_, by omega, h0, ?_⟩
      · have bd' : exs fsB [] B_later_bounds_1 (lbG (EL A) fl n (some (.int (B.length : Int), false)) lo hi s x6 x7) = _ := bd
        simp only [forLoop, as, Option.bind_some, bd', Nat.add_zero]
      · rw [List.take_succ_cons, ebd, List.take_zero]
        exact c
    · rw [if_neg c] at bd
      have ih := lb_loop A fl n E (B ++ [(t, b)]) lo1 hi1 s1 (some (.int (B.length : Int), false)) (some (.int t, false)) (some (.bl b, false)) (by rw [e]; simp) (by omega)
      rw [List.length_append, List.length_singleton, show ((B.length + 1 : Nat) : Int) = (B.length : Int) + 1 by omega] at ih
      have st := forLoop_step (ds := rngD ((B.length : Int) + 1) 1 E.length) (body := exs fsB [] B_later_bounds_1) as bd
      rw [st]
      rcases ih with q | ⟨y2, y6, y7, s', lo', hi', k, q, k1, k2, k3⟩
      · exact .inl q
      · refine .inr ⟨y2, y6, y7, s', lo', hi', k + 1, ?_, by omega, ?_, ?_⟩
        · rw [show B.length + (k + 1) = B.length + 1 + k by omega]
          exact q
        · rw [List.take_succ_cons, ebd]; exact k2
        · rw [List.take_succ_cons, ebd]; exact k3

abbrev bE (E : List (Int × Bool)) : Int × Int := bdE 1 1000000000000000000000000000000 (tmE E (fpN E - 1)) (E.drop (fpN E))
theorem hiF_le (E : List (Int × Bool)) (hi : Int) (b : Nat) : ∀ k, hiF E hi b k ≤ hi
  | 0 => Int.le_refl _
  | k + 1 => by have := hiF_le E hi b k; rw [hiF]; omega
/-- the waits that fit, tried from 1 to top -/
def wts (E : List (Int × Bool)) (top : Nat) (f : Nat) : List Int := ((List.range top).map fun (j : Nat) => (1 : Int) + (j : Int)).filter fun w => decide (runB w f 0 (E.map (·.1)) = E)
/-- an interval of a range -/
theorem ivl (lo h : Int) (l1 : 1 ≤ lo) : ∀ top : Nat, ((List.range top).map fun (j : Nat) => (1 : Int) + (j : Int)).filter (fun w => decide (lo ≤ w ∧ w ≤ h)) = (List.range (min h top - lo + 1).toNat).map fun (j : Nat) => lo + (j : Int)
  | 0 => by
    rw [show (min h ((0 : Nat) : Int) - lo + 1).toNat = 0 by omega]
    rfl
  | top + 1 => by
    rw [List.range_succ, List.map_append, List.filter_append, ivl lo h l1 top]
    by_cases c : lo ≤ (1 : Int) + (top : Int) ∧ (1 : Int) + (top : Int) ≤ h
    · have e1 : (min h ((top + 1 : Nat) : Int) - lo + 1).toNat = (min h (top : Int) - lo + 1).toNat + 1 := by omega
      rw [e1, List.range_succ, List.map_append]
      simp only [List.map_cons, List.map_nil, List.filter_cons, List.filter_nil]
      rw [if_pos (decide_eq_true c)]
      have : lo + (((min h (top : Int) - lo + 1).toNat : Nat) : Int) = 1 + (top : Int) := by omega
      rw [this]
    · have e1 : (min h ((top + 1 : Nat) : Int) - lo + 1).toNat = (min h (top : Int) - lo + 1).toNat := by omega
      rw [e1]
      simp only [List.map_cons, List.map_nil, List.filter_cons, List.filter_nil]
      rw [if_neg (by rw [decide_eq_false c]; simp), List.append_nil]
/-- the waits in plain words -/
theorem wts_ivl (E : List (Int × Bool)) (top : Nat) (ht : (top : Int) ≤ 1000000) {f : Nat} (f1 : 1 ≤ f) (hf : f ≤ fpN E) : wts E top f = (List.range (min (hiF E (bE E).2 (fpN E) (fpN E - f)) top - (bE E).1 + 1).toNat).map fun (j : Nat) => (bE E).1 + (j : Int) := by
  have l1 : 1 ≤ (bE E).1 := (bdE_mono _ 1 _ _).1
  rw [← ivl (bE E).1 (hiF E (bE E).2 (fpN E) (fpN E - f)) l1 top]
  unfold wts
  refine List.filter_congr fun w m => ?_
  obtain ⟨j, hj, rfl⟩ := List.mem_map.mp m
  have := List.mem_range.mp hj
  rw [decide_eq_decide, run_ok]
  have := fits_iff (1 + (j : Int)) (E := E) (by omega) (by omega) (by omega) (k := fpN E - f) (by omega)
  rw [show fpN E - (fpN E - f) = f by omega] at this
  exact this
theorem wts_none (E : List (Int × Bool)) (top : Nat) {f : Nat} (hf : fpN E < f) (hl : fpN E < E.length) : wts E top f = [] := by
  unfold wts
  refine List.filter_eq_nil_iff.mpr fun w _ => ?_
  rw [decide_eq_true_eq, run_ok]
  exact okF_many w E f 0 hf hl

/-! ### the first entry that no breaker explains -/
/-- a breaker explains a log that is not empty -/
def okP (E : List (Int × Bool)) : Prop := 1 ≤ fpN E ∧ (bE E).1 ≤ (bE E).2
theorem bdE_app : ∀ (A B : List (Int × Bool)) (lo hi s : Int), ∃ s', bdE lo hi s (A ++ B) = bdE (bdE lo hi s A).1 (bdE lo hi s A).2 s' B
  | [], B, lo, hi, s => ⟨s, rfl⟩
  | (t, true) :: A, B, lo, hi, s => by
    obtain ⟨s', h⟩ := bdE_app A B lo (min hi (t - s)) t
    exact ⟨s', by rw [List.cons_append, bdE, bdE]; exact h⟩
  | (t, false) :: A, B, lo, hi, s => by
    obtain ⟨s', h⟩ := bdE_app A B (max lo (t - s + 1)) hi s
    exact ⟨s', by rw [List.cons_append, bdE, bdE]; exact h⟩
theorem bdE_take {E : List (Int × Bool)} {lo hi s : Int} {j k : Nat} (h : j ≤ k) (c : (bdE lo hi s (E.take k)).1 ≤ (bdE lo hi s (E.take k)).2) : (bdE lo hi s (E.take j)).1 ≤ (bdE lo hi s (E.take j)).2 := by
  have e : E.take k = E.take j ++ (E.take k).drop j := by
    have := (List.take_append_drop j (E.take k)).symm
    rw [List.take_take, Nat.min_eq_left h] at this
    exact this
  obtain ⟨s', q⟩ := bdE_app (E.take j) ((E.take k).drop j) lo hi s
  rw [← e] at q
  have m := bdE_mono ((E.take k).drop j) (bdE lo hi s (E.take j)).1 (bdE lo hi s (E.take j)).2 s'
  rw [← q] at m
  omega
theorem fp_take : ∀ (E : List (Int × Bool)) (k : Nat), fpN (E.take k) = min k (fpN E)
  | E, 0 => by rw [List.take_zero]; simp [fpN]
  | [], k + 1 => by simp [fpN]
  | (t, true) :: E, k + 1 => by
    rw [List.take_succ_cons, fpN, fpN, fp_take E k]
    omega
  | (t, false) :: E, k + 1 => by
    rw [List.take_succ_cons]
    show 0 = min (k + 1) 0
    simp
theorem tm_take {E : List (Int × Bool)} {i k : Nat} (h : i < k) : tmE (E.take k) i = tmE E i := by
  unfold tmE
  rw [List.getElem?_take, if_pos h]
theorem bE_take {E : List (Int × Bool)} {k : Nat} (p : 1 ≤ fpN E) (h : fpN E ≤ k) : bE (E.take k) = bdE 1 1000000000000000000000000000000 (tmE E (fpN E - 1)) ((E.drop (fpN E)).take (k - fpN E)) := by
  unfold bE
  rw [fp_take, Nat.min_eq_right h, tm_take (by omega), List.drop_take]
theorem okP_early {E : List (Int × Bool)} {k : Nat} (h : 1 ≤ k) (hk : k ≤ fpN E) : okP (E.take k) := by
  have le := fpN_le E
  have e : fpN (E.take k) = k := by rw [fp_take]; omega
  have l : (E.take k).length = k := by rw [List.length_take]; omega
  refine ⟨by omega, ?_⟩
  have : bE (E.take k) = (1, 1000000000000000000000000000000) := by
    unfold bE
    rw [e, List.drop_of_length_le (by omega)]
    rfl
  rw [this]
  decide
/-- the first prefix that no breaker explains ends with this entry -/
def Cf (E : List (Int × Bool)) : Option Int → Prop
  | none => ∀ j, j < E.length → okP (E.take (j + 1))
  | some i => ∃ k : Nat, i = (k : Int) ∧ k < E.length ∧ ¬ okP (E.take (k + 1)) ∧ ∀ j, j < k → okP (E.take (j + 1))
theorem Cf.uniq {E : List (Int × Bool)} : ∀ {c c' : Option Int}, Cf E c → Cf E c' → c = c'
  | none, none, _, _ => rfl
  | none, some i, h, ⟨k, e, l, b, _⟩ => absurd (h k l) b
  | some i, none, ⟨k, e, l, b, _⟩, h => absurd (h k l) b
  | some i, some i', ⟨k, e, l, b, a⟩, ⟨k', e', l', b', a'⟩ => by
    have : k = k' := by
      rcases Nat.lt_trichotomy k k' with h | h | h
      · exact absurd (a' k h) b
      · exact h
      · exact absurd (a k' h) b'
    rw [e, e', this]
theorem cf_all {E : List (Int × Bool)} (p : 1 ≤ fpN E) (m : Nat) (h : (bdE 1 1000000000000000000000000000000 (tmE E (fpN E - 1)) ((E.drop (fpN E)).take m)).1 ≤ (bdE 1 1000000000000000000000000000000 (tmE E (fpN E - 1)) ((E.drop (fpN E)).take m)).2) :
    ∀ j, j < fpN E + m → okP (E.take (j + 1)) := fun j hj => by
  by_cases c : j + 1 ≤ fpN E
  · exact okP_early (by omega) c
  · refine ⟨by rw [fp_take]; omega, ?_⟩
    rw [bE_take p (by omega)]
    exact bdE_take (by omega) h
theorem cf_bad {E : List (Int × Bool)} (p : 1 ≤ fpN E) (m : Nat) (h : (bdE 1 1000000000000000000000000000000 (tmE E (fpN E - 1)) ((E.drop (fpN E)).take (m + 1))).2 < (bdE 1 1000000000000000000000000000000 (tmE E (fpN E - 1)) ((E.drop (fpN E)).take (m + 1))).1) :
    ¬ okP (E.take (fpN E + m + 1)) := fun q => by
  have q := q.2
  rw [bE_take p (by omega), show fpN E + m + 1 - fpN E = m + 1 by omega] at q
  omega

theorem lb_pre0 (L : List D) (fl : Bool) (c : Bool) (hc : cmpD .eq (.lst L) (.lst []) = some c) (e : F_first_passes [some (.lst L, fl)] = some (.fz (.int 0), [some (.lst L, fl)])) :
    F_later_bounds [some (.lst L, fl)] = some (.fz (.tup [.int 1, .int 1000000000000000000000000000000, if c then .non else .int 0]), [some (.lst L, fl)]) := by
  refine runF_pn (pn := []) (o := .rt (.fz (.tup [.int 1, .int 1000000000000000000000000000000, if c then .non else .int 0])) [some (.lst L, fl), some (.int 0, false), none, none, none, none, none, none]) rfl (by cases fl <;> rfl) (?_ : exs _ [] _ [some (.lst L, fl), none, none, none, none, none, none, none] = _) (by cases fl <;> rfl)
  refine (exs_nx (Γ1 := [some (.lst L, fl), some (.int 0, false), none, none, none, none, none, none]) (by cases fl <;> simp [DV.SC, DV.SE, DV.SX, e])).trans ?_
  have c0 : cmpD .eq (.int 0) (.int 0) = some true := cmp_eq_self rfl
  cases c <;> simp [DV.SC, DV.SX, hc, c0, sizeLine]
theorem lb_pre1 (L : List D) (fl : Bool) (n N t : Int) (d : D) (o : Out) (hn : 0 < n) (hN : (L.length : Int) = N) (RD : List D) (hr : ∀ Γ, rngO Γ [.int n, .int N] = some (RD, Γ)) (g : atI L (n - 1) = some (.tup [.int t, d])) (e : F_first_passes [some (.lst L, fl)] = some (.fz (.int n), [some (.lst L, fl)]))
    (lp : forLoop (.nm 2) (exs fsB [] B_later_bounds_1) RD (lbG (.lst L) fl n none 1 1000000000000000000000000000000 t none none) = some o) :
    exs fsB [] [.asgO 1 (.call 0 [.var 0]), .ite (.cmp .eq (.var 1) (.cst (.int 0))) [.ret (.tup [.cst (.int 1), .cst (.int 1000000000000000000000000000000), .ite (.cmp .eq (.var 0) (.lst [])) (.cst .non) (.cst (.int 0))])] [], .par [(3, true), (4, true), (5, true)] [.cst (.int 1), .cst (.int 1000000000000000000000000000000), .ix (.ix (.var 0) (.bin .sub (.var 1) (.cst (.int 1)))) (.cst (.int 0))], .for_ (.nm 2) .rng [.var 1, .bi .len [.var 0]] B_later_bounds_1] [some (.lst L, fl), none, none, none, none, none, none, none] = some o := by
  have c0 : cmpD .eq (.int n) (.int 0) = some false := by simp [DV.SC, DV.SE, DV.SX]; omega
  refine (exs_nx (Γ1 := [some (.lst L, fl), some (.int n, false), none, none, none, none, none, none]) (by cases fl <;> simp [DV.SC, DV.SE, DV.SX, e])).trans ?_
  refine (exs_nx (Γ1 := [some (.lst L, fl), some (.int n, false), none, none, none, none, none, none]) (by simp [DV.SC, DV.SX, c0])).trans ?_
  refine (exs_nx (Γ1 := lbG (.lst L) fl n none 1 1000000000000000000000000000000 t none none) (by simp [DV.SC, DV.SE, DV.SX, g, e2_0, sizeLine])).trans ?_
  rw [DV.exs.eq_2, ex_for (Γ2 := lbG (.lst L) fl n none 1 1000000000000000000000000000000 t none none) (ds := RD) (by simp [DV.SC, DV.SE, DV.SX, hN, hr]) rfl lp]
  cases o <;> rfl
theorem later_bounds_ok (E : List (Int × Bool)) (hz : E.length ≤ 1000) (fl : Bool) : ∃ lo hi c, F_later_bounds [some (EL E, fl)] = some (.fz (.tup [.int lo, .int hi, cD c]), [some (EL E, fl)]) ∧ Cf E c ∧ (c = none → E ≠ [] → lo = (bE E).1 ∧ hi = (bE E).2) := by
  have ef := first_passes_ok E hz fl
  have le := fpN_le E
  by_cases h0 : fpN E = 0
  · rw [h0] at ef
    have hc : cmpD .eq (.lst (E.map eD)) (.lst []) = some E.isEmpty := by
      cases E with
      | nil => exact cmp_eq_self rfl
      | cons a E => simp [DV.SC, DV.SE, DV.SX, eD]
    have q := lb_pre0 (E.map eD) fl E.isEmpty hc ef
    cases E with
    | nil => exact ⟨1, 1000000000000000000000000000000, none, q, fun j z => absurd z (Nat.not_lt_zero j), fun _ z => absurd rfl z⟩
    | cons a E =>
      refine ⟨1, 1000000000000000000000000000000, some 0, q, ⟨0, rfl, by simp, fun z => ?_, fun j z => absurd z (Nat.not_lt_zero j)⟩, fun z => (by cases z)⟩
      have z := z.1
      rw [fp_take, h0] at z
      omega
  · obtain ⟨B, hB⟩ : ∃ B, B = E.take (fpN E) := ⟨_, rfl⟩
    have bl : B.length = fpN E := by rw [hB, List.length_take]; omega
    have eA : E = B ++ E.drop (fpN E) := by rw [hB]; exact (List.take_append_drop _ _).symm
    have dl : (E.drop (fpN E)).length = E.length - fpN E := List.length_drop
    have gl : fpN E - 1 < E.length := by omega
    have g : atI (E.map eD) (((fpN E : Nat) : Int) - 1) = some (.tup [.int (tmE E (fpN E - 1)), .bl E[fpN E - 1].2]) := by
      have := e_get (List.getElem?_eq_getElem gl)
      rw [show ((fpN E - 1 : Nat) : Int) = ((fpN E : Nat) : Int) - 1 by omega] at this
      rw [this]
      unfold tmE
      rw [List.getElem?_eq_getElem gl]
      rfl
    have hr : ∀ Γ, rngO Γ [.int ((fpN E : Nat) : Int), .int (E.length : Int)] = some (rngD ((fpN E : Nat) : Int) 1 (E.drop (fpN E)).length, Γ) := fun Γ => by
      have := rngO2 Γ ((fpN E : Nat) : Int) (E.length : Int) (in62_nat (by omega)) (in62_nat (by omega))
      rw [this, dl, show ((E.length : Int) - ((fpN E : Nat) : Int)).toNat = E.length - fpN E by omega]
    have hN : ((E.map eD).length : Int) = (E.length : Int) := by rw [List.length_map]
    have lp := lb_loop E fl (fpN E : Nat) (E.drop (fpN E)) B 1 1000000000000000000000000000000 (tmE E (fpN E - 1)) none none none eA (by decide)
    rw [bl] at lp
    rcases lp with ⟨y2, y6, y7, s', lp, h1⟩ | ⟨y2, y6, y7, s', lo', hi', i, lp, i1, i2, i3⟩
    · have q := lb_pre1 (E.map eD) fl _ _ _ _ _ (by omega) hN _ hr g ef lp
      refine ⟨_, _, none, ?_, fun j hj => cf_all (by omega) (E.drop (fpN E)).length (by rw [List.take_length]; exact h1) j (by omega), fun _ _ => ⟨rfl, rfl⟩⟩
      refine runF_pn (pn := []) (o := .rt (.fz (.tup [.int (bdE 1 1000000000000000000000000000000 (tmE E (fpN E - 1)) (E.drop (fpN E))).1, .int (bdE 1 1000000000000000000000000000000 (tmE E (fpN E - 1)) (E.drop (fpN E))).2, .non])) (lbG (EL E) fl (fpN E : Nat) y2 (bdE 1 1000000000000000000000000000000 (tmE E (fpN E - 1)) (E.drop (fpN E))).1 (bdE 1 1000000000000000000000000000000 (tmE E (fpN E - 1)) (E.drop (fpN E))).2 s' y6 y7)) rfl (by cases fl <;> rfl) ((exs_app (l1 := [.asgO 1 (.call 0 [.var 0]), .ite (.cmp .eq (.var 1) (.cst (.int 0))) [.ret (.tup [.cst (.int 1), .cst (.int 1000000000000000000000000000000), .ite (.cmp .eq (.var 0) (.lst [])) (.cst .non) (.cst (.int 0))])] [], .par [(3, true), (4, true), (5, true)] [.cst (.int 1), .cst (.int 1000000000000000000000000000000), .ix (.ix (.var 0) (.bin .sub (.var 1) (.cst (.int 1)))) (.cst (.int 0))], .for_ (.nm 2) .rng [.var 1, .bi .len [.var 0]] B_later_bounds_1]) (l2 := [.ret (.tup [.var 3, .var 4, .cst .non])]) q).trans ?_) (by cases fl <;> rfl)
      generalize (bdE 1 1000000000000000000000000000000 (tmE E (fpN E - 1)) (E.drop (fpN E))).1 = a1
      generalize (bdE 1 1000000000000000000000000000000 (tmE E (fpN E - 1)) (E.drop (fpN E))).2 = a2
      unfold EL
      generalize E.map eD = EE
      simp [DV.SC, DV.SE, DV.SX, sizeLine]
    · have q := lb_pre1 (E.map eD) fl _ _ _ _ _ (by omega) hN _ hr g ef lp
      refine ⟨lo', hi', some ((fpN E + i : Nat) : Int), ?_, ⟨fpN E + i, rfl, by omega, cf_bad (by omega) i i3, cf_all (by omega) i i2⟩, fun z => by cases z⟩
      refine runF_pn (pn := []) (o := .rt (.fz (.tup [.int lo', .int hi', .int ((fpN E + i : Nat) : Int)])) (lbG (EL E) fl (fpN E : Nat) y2 lo' hi' s' y6 y7)) rfl (by cases fl <;> rfl) (?_ : exs _ [] _ [some (EL E, fl), none, none, none, none, none, none, none] = _) (by cases fl <;> rfl)
      exact exs_appR (l1 := [.asgO 1 (.call 0 [.var 0]), .ite (.cmp .eq (.var 1) (.cst (.int 0))) [.ret (.tup [.cst (.int 1), .cst (.int 1000000000000000000000000000000), .ite (.cmp .eq (.var 0) (.lst [])) (.cst .non) (.cst (.int 0))])] [], .par [(3, true), (4, true), (5, true)] [.cst (.int 1), .cst (.int 1000000000000000000000000000000), .ix (.ix (.var 0) (.bin .sub (.var 1) (.cst (.int 1)))) (.cst (.int 0))], .for_ (.nm 2) .rng [.var 1, .bi .len [.var 0]] B_later_bounds_1]) (l2 := [.ret (.tup [.var 3, .var 4, .cst .non])]) q

/-! ### check_log -/
theorem is_entry_ok (t : Int) (b : Bool) (h : 0 ≤ t) : F_is_entry [some (.tup [.int t, .bl b], false)] = some (.fz (.bl true), [some (.tup [.int t, .bl b], false)]) := by
  have e1 := is_integer_int t
  simp [F_is_entry, DV.SC, DV.SE, DV.SX, e2_0, e2_1, e1, h]
theorem cl_loop (A : List (Int × Bool)) : ∀ (E B : List (Int × Bool)) (lo : Int) (x1 x2 : Sl), A = B ++ E → RiseE lo E → -1 ≤ lo → (∀ b, B.getLast? = some b → b.1 = lo) → ∃ y1 y2, forLoop (.tp [.nm 1, .nm 2]) (exs [F_is_entry] [] B_check_log_1) (enumD B.length (E.map eD)) [some (EL A, false), x1, x2] = some (.nx [some (EL A, false), y1, y2])
  | [], B, lo, x1, x2, _, _, _, _ => ⟨x1, x2, by simp [enumD, forLoop]⟩
  | (t, b) :: E, B, lo, x1, x2, e, ⟨hr, r⟩, l0, hB => by
    obtain ⟨y1, y2, ih⟩ := cl_loop A E (B ++ [(t, b)]) t (some (.int (B.length : Nat), false)) (some (eD (t, b), false)) (by rw [e]; simp) r (by omega) (by simp)
    rw [List.length_append, List.length_singleton] at ih
    refine ⟨y1, y2, ?_⟩
    rw [List.map_cons, enumD, ← ih]
    have ie := is_entry_ok t b (by omega)
    have hg : 0 < (B.length : Int) → ∃ d, atI (A.map eD) ((B.length : Int) - 1) = some (.tup [.int lo, d]) := fun hp => by
      have hl : B.length - 1 < B.length := by omega
      obtain ⟨z, hz⟩ : ∃ z, B.getLast? = some z := by
        cases h : B.getLast? with
        | none => rw [List.getLast?_eq_none_iff] at h; subst h; simp at hp
        | some z => exact ⟨z, rfl⟩
      have h1 := hB z hz
      have h2 : A[B.length - 1]? = some z := by rw [e, List.getElem?_append_left hl, ← hz, List.getLast?_eq_getElem?]
      have := e_get h2
      rw [show ((B.length - 1 : Nat) : Int) = (B.length : Int) - 1 by omega] at this
      exact ⟨.bl z.2, by rw [this]; show some (D.tup [.int z.1, .bl z.2]) = _; rw [h1]⟩
    unfold EL eD
    simp only
    unfold eD at hg
    generalize A.map (fun e => D.tup [D.int e.1, D.bl e.2]) = AA at *
    generalize hn : ((B.length : Nat) : Int) = n at *
    refine forLoop_step (Γ1 := [some (.lst AA, false), some (.int n, false), some (.tup [.int t, .bl b], false)]) (by simp [DV.SC, DV.SE, DV.SX]) ?_
    by_cases c : 0 < n
    · obtain ⟨d, g⟩ := hg c
      have c2 : ¬ t ≤ lo := by omega
      simp [B_check_log_1, DV.SC, DV.SE, DV.SX, ie, c, g, e2_0, c2]
    · simp [B_check_log_1, DV.SC, DV.SE, DV.SX, ie, c]
theorem cl_s1 (EE : List D) (fl : Bool) (n : Int) (hn : (EE.length : Int) = n) (hl : ¬ 1000 < n) : ex [F_is_entry] [] (.ite (.or (.not (.bi (.isi .list) [.var 0])) (.cmp .gt (.bi .len [.var 0]) (.cst (.int 1000)))) [.stuck] []) [some (.lst EE, fl), none, none] = some (.nx [some (.lst EE, fl), none, none]) := by
  have e1 : ev [F_is_entry] (.not (.bi (.isi .list) [.var 0])) [some (.lst EE, fl), none, none] = some (.fz (.bl false), [some (.lst EE, fl), none, none]) := by simp [DV.SC, DV.SE, DV.SX]
  have e2 : ev [F_is_entry] (.bi .len [.var 0]) [some (.lst EE, fl), none, none] = some (.fz (.int n), [some (.lst EE, fl), none, none]) := by simp [DV.SC, DV.SE, DV.SX, hn]
  have e3 : ∀ m : Int, ¬ m < n → ev [F_is_entry] (.cmp .gt (.bi .len [.var 0]) (.cst (.int m))) [some (.lst EE, fl), none, none] = some (.fz (.bl false), [some (.lst EE, fl), none, none]) := fun m hm => by
    generalize DV.E.bi DV.Bi.len _ = EL' at e2 ⊢
    simp [DV.SC, DV.SE, DV.SX, e2, hm]
  have e3 := e3 1000 hl
  generalize DV.E.not _ = X at e1 ⊢
  generalize DV.E.cmp _ _ _ = Y at e3 ⊢
  simp [DV.SC, DV.SE, DV.SX, e1, e3]
theorem cl_gen (EE : List D) (fl : Bool) (y1 y2 : Sl) (s1 : ex [F_is_entry] [] (.ite (.or (.not (.bi (.isi .list) [.var 0])) (.cmp .gt (.bi .len [.var 0]) (.cst (.int 1000)))) [.stuck] []) [some (.lst EE, fl), none, none] = some (.nx [some (.lst EE, fl), none, none])) (lp : forLoop (.tp [.nm 1, .nm 2]) (exs [F_is_entry] [] B_check_log_1) (enumD 0 EE) [some (.lst EE, false), none, none] = some (.nx [some (.lst EE, false), y1, y2])) :
    F_check_log [some (.lst EE, fl)] = some (.fz .non, [some (.lst EE, false)]) := by
  have e : exs [F_is_entry] [] [.ite (.or (.not (.bi (.isi .list) [.var 0])) (.cmp .gt (.bi .len [.var 0]) (.cst (.int 1000)))) [.stuck] [], .for_ (.tp [.nm 1, .nm 2]) .enum [.var 0] B_check_log_1] [some (.lst EE, fl), none, none] = some (.nx [some (.lst EE, false), y1, y2]) :=
    (exs_nx s1).trans ((exs_nx (ex_for (Γ2 := [some (.lst EE, false), none, none]) (ds := enumD 0 EE) (by cases fl <;> simp [DV.SC, DV.SE, DV.SX]) (by simp [DV.SC, DV.SE, DV.SX]) lp)).trans (by simp only [DV.exs.eq_1]))
  cases fl with
  | true => exact runF_pn (pn := []) rfl rfl e rfl
  | false => exact runF_pn (pn := []) rfl rfl e rfl
theorem check_log_ok (E : List (Int × Bool)) (r : RiseE (-1) E) (hz : E.length ≤ 1000) (fl : Bool) : F_check_log [some (EL E, fl)] = some (.fz .non, [some (EL E, false)]) := by
  obtain ⟨y1, y2, lp⟩ := cl_loop E E [] (-1) none none rfl r (by decide) (by simp)
  exact cl_gen (E.map eD) fl y1 y2 (cl_s1 _ fl (E.length : Int) (by rw [List.length_map]) (by omega)) lp
theorem runX_pn {fs : List FS} {np n : Nat} {body : List S} {G0 : Ct} {o : Out} {r : RV × Ct} {pn : List Nat} (hl : G0.length = np) (hd : disjB (asgOfs body) (ownPs 0 G0) = true) (e : exs fs pn body (G0 ++ List.replicate (n - np) none) = some o) (f : finishX np G0 o = some r) : runX fs np n body G0 = some r := by
  simp only [runX, hl, if_true, exs_pn body hd _ _ e, Option.bind_some, f]
theorem exs_xc {fs : List FS} {pn : List Nat} {s : S} {ss : List S} {Γ G : Ct} {c : Nat} {ks : List Str} {ds : List D} (h : ex fs pn s Γ = some (.xc c ks ds G)) : exs fs pn (s :: ss) Γ = some (.xc c ks ds G) := by
  simp only [exs, h, Option.bind_some]
theorem xcl_loop (A : List (Int × Bool)) : ∀ (E B : List (Int × Bool)) (lo : Int) (x1 x2 : Sl), A = B ++ E → RiseE lo E → -1 ≤ lo → (∀ b, B.getLast? = some b → b.1 = lo) → ∃ y1 y2, forLoop (.tp [.nm 1, .nm 2]) (exs [F_is_entry] [] B_check_log_x_1) (enumD B.length (E.map eD)) [some (EL A, false), x1, x2] = some (.nx [some (EL A, false), y1, y2])
  | [], B, lo, x1, x2, _, _, _, _ => ⟨x1, x2, by simp [enumD, forLoop]⟩
  | (t, b) :: E, B, lo, x1, x2, e, ⟨hr, r⟩, l0, hB => by
    obtain ⟨y1, y2, ih⟩ := xcl_loop A E (B ++ [(t, b)]) t (some (.int (B.length : Nat), false)) (some (eD (t, b), false)) (by rw [e]; simp) r (by omega) (by simp)
    rw [List.length_append, List.length_singleton] at ih
    refine ⟨y1, y2, ?_⟩
    rw [List.map_cons, enumD, ← ih]
    have ie := is_entry_ok t b (by omega)
    have hg : 0 < (B.length : Int) → ∃ d, atI (A.map eD) ((B.length : Int) - 1) = some (.tup [.int lo, d]) := fun hp => by
      have hl : B.length - 1 < B.length := by omega
      obtain ⟨z, hz⟩ : ∃ z, B.getLast? = some z := by
        cases h : B.getLast? with
        | none => rw [List.getLast?_eq_none_iff] at h; subst h; simp at hp
        | some z => exact ⟨z, rfl⟩
      have h1 := hB z hz
      have h2 : A[B.length - 1]? = some z := by rw [e, List.getElem?_append_left hl, ← hz, List.getLast?_eq_getElem?]
      have := e_get h2
      rw [show ((B.length - 1 : Nat) : Int) = (B.length : Int) - 1 by omega] at this
      exact ⟨.bl z.2, by rw [this]; show some (D.tup [.int z.1, .bl z.2]) = _; rw [h1]⟩
    unfold EL eD
    simp only
    unfold eD at hg
    generalize A.map (fun e => D.tup [D.int e.1, D.bl e.2]) = AA at *
    generalize hn : ((B.length : Nat) : Int) = n at *
    refine forLoop_step (Γ1 := [some (.lst AA, false), some (.int n, false), some (.tup [.int t, .bl b], false)]) (by simp [DV.SC, DV.SE, DV.SX]) ?_
    by_cases c : 0 < n
    · obtain ⟨d, g⟩ := hg c
      have c2 : ¬ t ≤ lo := by omega
      simp [B_check_log_x_1, DV.SC, DV.SE, DV.SX, ie, c, g, e2_0, c2]
    · simp [B_check_log_x_1, DV.SC, DV.SE, DV.SX, ie, c]
theorem xcl_s1 (EE : List D) (fl : Bool) (n : Int) (hn : (EE.length : Int) = n) (hl : ¬ 1000 < n) : ex [F_is_entry] [] (.ite (.or (.not (.bi (.isi .list) [.var 0])) (.cmp .gt (.bi .len [.var 0]) (.cst (.int 1000)))) [.rse 15 ["at"] [.neg (.cst (.int 1))]] []) [some (.lst EE, fl), none, none] = some (.nx [some (.lst EE, fl), none, none]) := by
  have e1 : ev [F_is_entry] (.not (.bi (.isi .list) [.var 0])) [some (.lst EE, fl), none, none] = some (.fz (.bl false), [some (.lst EE, fl), none, none]) := by simp [DV.SC, DV.SE, DV.SX]
  have e2 : ev [F_is_entry] (.bi .len [.var 0]) [some (.lst EE, fl), none, none] = some (.fz (.int n), [some (.lst EE, fl), none, none]) := by simp [DV.SC, DV.SE, DV.SX, hn]
  have e3 : ∀ m : Int, ¬ m < n → ev [F_is_entry] (.cmp .gt (.bi .len [.var 0]) (.cst (.int m))) [some (.lst EE, fl), none, none] = some (.fz (.bl false), [some (.lst EE, fl), none, none]) := fun m hm => by
    generalize DV.E.bi DV.Bi.len _ = EL' at e2 ⊢
    simp [DV.SC, DV.SE, DV.SX, e2, hm]
  have e3 := e3 1000 hl
  generalize DV.E.not _ = X at e1 ⊢
  generalize DV.E.cmp _ _ _ = Y at e3 ⊢
  simp [DV.SC, DV.SE, DV.SX, e1, e3]
theorem xcl_gen (EE : List D) (fl : Bool) (y1 y2 : Sl) (s1 : ex [F_is_entry] [] (.ite (.or (.not (.bi (.isi .list) [.var 0])) (.cmp .gt (.bi .len [.var 0]) (.cst (.int 1000)))) [.rse 15 ["at"] [.neg (.cst (.int 1))]] []) [some (.lst EE, fl), none, none] = some (.nx [some (.lst EE, fl), none, none])) (lp : forLoop (.tp [.nm 1, .nm 2]) (exs [F_is_entry] [] B_check_log_x_1) (enumD 0 EE) [some (.lst EE, false), none, none] = some (.nx [some (.lst EE, false), y1, y2])) :
    F_check_log_x [some (.lst EE, fl)] = some (.fz .non, [some (.lst EE, false)]) := by
  have e : exs [F_is_entry] [] [.ite (.or (.not (.bi (.isi .list) [.var 0])) (.cmp .gt (.bi .len [.var 0]) (.cst (.int 1000)))) [.rse 15 ["at"] [.neg (.cst (.int 1))]] [], .for_ (.tp [.nm 1, .nm 2]) .enum [.var 0] B_check_log_x_1] [some (.lst EE, fl), none, none] = some (.nx [some (.lst EE, false), y1, y2]) :=
    (exs_nx s1).trans ((exs_nx (ex_for (Γ2 := [some (.lst EE, false), none, none]) (ds := enumD 0 EE) (by cases fl <;> simp [DV.SC, DV.SE, DV.SX]) (by simp [DV.SC, DV.SE, DV.SX]) lp)).trans (by simp only [DV.exs.eq_1]))
  cases fl with
  | true => exact runX_pn (pn := []) rfl rfl e rfl
  | false => exact runX_pn (pn := []) rfl rfl e rfl
theorem xcheck_log_ok (E : List (Int × Bool)) (r : RiseE (-1) E) (hz : E.length ≤ 1000) (fl : Bool) : F_check_log_x [some (EL E, fl)] = some (.fz .non, [some (EL E, false)]) := by
  obtain ⟨y1, y2, lp⟩ := xcl_loop E E [] (-1) none none rfl r (by decide) (by simp)
  exact xcl_gen (E.map eD) fl y1 y2 (xcl_s1 _ fl (E.length : Int) (by rw [List.length_map]) (by omega)) lp

/-! ### the law's own search, as data -/
theorem comp_two {fs : List FS} {own : List Nat} {tg : Tg} {ik : IK} {its cs : List DV.E} {elt : DV.E} {ds : List D} {Γ0 Γa Γb : Ct} (g : D → Bool) (f : D → D) (hne : ds ≠ [])
    (e1 : (evs fs its Γ0).bind (fun p => iterD ik p.1 p.2) = some (ds, Γa)) (hp : plainIx Γa own = true) (hw : wipeG Γa own = Γa) (hr : restG Γa Γb own = Γb) (ht : (tgIx tg).all (fun i => own.contains i) = true) (hl : ds.length ≤ 16777216)
    (he : ∀ Γs, Γs = Γa ∨ Γs = Γb → ∀ d ∈ ds, ∃ Γd Γe, asgT tg d Γs = some Γd ∧ evc fs cs Γd = some (g d, Γe) ∧ plainIx Γe own = true ∧ wipeG Γe own = Γb ∧ (g d = true → ∃ x, ev fs elt Γe = some (x, Γe) ∧ fre Γe x = some (f d, Γe))) :
    ev fs (.comp own tg ik its cs elt) Γ0 = some (.nw (.lst ((ds.filter g).map f)), Γb) := by
  have key : ∀ (ds acc : List D) (Γs : Ct), (Γs = Γa ∨ Γs = Γb) → (∀ Γs, Γs = Γa ∨ Γs = Γb → ∀ d ∈ ds, ∃ Γd Γe, asgT tg d Γs = some Γd ∧ evc fs cs Γd = some (g d, Γe) ∧ plainIx Γe own = true ∧ wipeG Γe own = Γb ∧ (g d = true → ∃ x, ev fs elt Γe = some (x, Γe) ∧ fre Γe x = some (f d, Γe))) →
      compLoop own tg (evc fs cs) (ev fs elt) ds acc Γs = some (acc ++ (ds.filter g).map f, if ds = [] then Γs else Γb) := by
    intro ds
    induction ds with
    | nil => intro acc Γs _ _; simp [compLoop]
    | cons d ds ih =>
      intro acc Γs hs h
      obtain ⟨Γd, Γe, a1, a2, a3, a4, a5⟩ := h Γs hs d List.mem_cons_self
      have ih' := fun a => ih a Γb (.inr rfl) fun Γs hs e m => h Γs hs e (List.mem_cons_of_mem _ m)
      have en : (if ds = [] then Γb else Γb) = Γb := by split <;> rfl
      simp only [compLoop, a1, Option.bind_some, a2]
      rw [if_neg (show ¬ d :: ds = [] by simp)]
      cases hg : g d with
      | true =>
        obtain ⟨x, ex, fx⟩ := a5 hg
        simp only [if_true, ex, Option.bind_some, fx]
        rw [if_pos a3, a4, ih', en, List.filter_cons, if_pos hg]
        simp
      | false =>
        simp only [Bool.false_eq_true, if_false]
        rw [if_pos a3, a4, ih', en, List.filter_cons, if_neg (by rw [hg]; simp)]
  obtain ⟨⟨xs, Γ1⟩, b1, b2⟩ := Option.bind_eq_some_iff.mp e1
  rw [DV.ev.eq_18]
  simp only [b1, Option.bind_some, b2]
  rw [if_pos (by rw [hp, ht, decide_eq_true (show ds.length ≤ sizeLine from hl)]; rfl), hw, key ds [] Γa (.inl rfl) he, if_neg hne]
  simp only [Option.map_some, hr, List.nil_append]
theorem eqds_e : ∀ A B : List (Int × Bool), eqds (A.map eD) (B.map eD) = decide (A = B)
  | [], [] => rfl
  | [], b :: B => by simp [eqds]
  | a :: A, [] => by simp [eqds]
  | (t, a) :: A, (u, b) :: B => by
    have ih := eqds_e A B
    simp only [List.map_cons, eqds, eqd, ih, Bool.and_true, List.cons.injEq, Prod.mk.injEq]
    by_cases c : t = u <;> by_cases d : a = b <;> by_cases e : A = B <;> simp [c, d, e]
theorem okB_e (E : List (Int × Bool)) : okB 12 (EL E) = true := by
  show (E.map eD).all (okB 11) = true
  refine List.all_eq_true.mpr fun d m => ?_
  obtain ⟨e, _, rfl⟩ := List.mem_map.mp m
  rfl
theorem cmp_e (A B : List (Int × Bool)) : cmpD .eq (EL A) (EL B) = some (decide (A = B)) := by
  simp only [cmpD, okB_e, Bool.and_self, if_true, Option.some.injEq]
  exact eqds_e A B
theorem rngD_rE : ∀ (n : Nat) (lo : Int), rngD lo 1 n = (List.range n).map fun (j : Nat) => D.int (lo + (j : Int))
  | 0, lo => rfl
  | n + 1, lo => by
    rw [rngD, rngD_rE n (lo + 1), List.range_succ_eq_map, List.map_cons, List.map_map]
    congr 1
    · simp
    · refine List.map_congr_left fun j _ => ?_
      show D.int (lo + 1 + (j : Int)) = D.int (lo + ((j + 1 : Nat) : Int))
      congr 1
      omega
abbrev fsF : List FS := [F__law_log]
abbrev fiG (L : D) (top : Int) (x2 : Sl) (TS : D) (f3 : Bool) (F : List D) : Ct := [some (L, false), some (.int top, false), x2, some (TS, f3), some (.lst F, true), none, none, none]
abbrev prW (f : Nat) (ws : List Int) : List D := ws.map fun w => .tup [.int (f : Int), .int w]
theorem fi_body (E : List (Int × Bool)) (hE : E.length ≤ 100) (top : Nat) (t1 : 1 ≤ top) (ht : top ≤ 1000000) (f : Nat) (f1 : 1 ≤ f) (f3 : Bool) (F : List D) (hz : F.length + top ≤ 16000000) :
    exs fsF [] B__law_fits_1 (fiG (EL E) top (some (.int (f : Int), false)) (.lst ((E.map (·.1)).map D.int)) f3 F) = some (.nx (fiG (EL E) top (some (.int (f : Int), false)) (.lst ((E.map (·.1)).map D.int)) false (F ++ prW f (wts E top f)))) := by
  have hr := fun Γ => rngO2 Γ 1 ((top : Int) + 1) (in62_int (by decide) (by decide)) (in62_int (by omega) (by omega))
  have en : ((top : Int) + 1 - 1).toNat = top := by omega
  have ec := comp_two (fs := fsF) (own := [7]) (tg := .nm 7) (ik := .rng) (its := [.cst (.int 1), .bin .add (.var 1) (.cst (.int 1))]) (cs := [.cmp .eq (.call 0 [.tup [.var 2, .var 7, .cst (.int 1)], .var 3]) (.var 0)]) (elt := .tup [.var 2, .var 7]) (ds := rngD 1 1 top)
    (Γ0 := fiG (EL E) top (some (.int (f : Int), false)) (.lst ((E.map (·.1)).map D.int)) f3 F) (Γa := fiG (EL E) top (some (.int (f : Int), false)) (.lst ((E.map (·.1)).map D.int)) f3 F) (Γb := fiG (EL E) top (some (.int (f : Int), false)) (.lst ((E.map (·.1)).map D.int)) false F)
    (fun d => match d with | .int w => decide (runB w f 0 (E.map (·.1)) = E) | _ => false) (fun d => .tup [.int (f : Int), d]) (by cases top with | zero => omega | succ n => simp [rngD])
    (by
      unfold EL
      generalize E.map eD = EE
      generalize (E.map (·.1)).map D.int = TT
      simp [DV.SC, DV.SE, DV.SX, hr, en]) rfl rfl rfl (by decide) (by rw [rngD_len]; omega) (fun Γs hs d hd => by
      rw [rngD_rE] at hd
      obtain ⟨j, _, rfl⟩ := List.mem_map.mp hd
      generalize (1 : Int) + (j : Int) = w
      have le := fun fl => law_log_ok f w f1 (E.map (·.1)) (by rw [List.length_map]; omega) fl
      have ce := cmp_e (runB w f 0 (E.map (·.1))) E
      unfold EL at ce
      obtain ⟨fl, rfl⟩ : ∃ fl, Γs = fiG (EL E) top (some (.int (f : Int), false)) (.lst ((E.map (·.1)).map D.int)) fl F := by
        rcases hs with rfl | rfl
        · exact ⟨f3, rfl⟩
        · exact ⟨false, rfl⟩
      have le := le fl
      refine ⟨[some (EL E, false), some (.int (top : Int), false), some (.int (f : Int), false), some (.lst ((E.map (·.1)).map D.int), fl), some (.lst F, true), none, none, some (.int w, false)], [some (EL E, false), some (.int (top : Int), false), some (.int (f : Int), false), some (.lst ((E.map (·.1)).map D.int), false), some (.lst F, true), none, none, some (.int w, false)], ?_, ?_, rfl, rfl, fun _ => ⟨.fz (.tup [.int (f : Int), .int w]), ?_, ?_⟩⟩
      · unfold EL
        generalize E.map eD = EE
        generalize (E.map (·.1)).map D.int = TT
        simp [DV.SC, DV.SE, DV.SX]
      · show evc fsF _ _ = some (decide (runB w f 0 (E.map (·.1)) = E), _)
        unfold EL
        generalize decide (runB w f 0 (E.map (·.1)) = E) = b at *
        generalize E.map eD = EE at *
        generalize (runB w f 0 (E.map (·.1))).map eD = RR at *
        generalize (E.map (·.1)).map D.int = TT at *
        cases fl <;> simp [DV.SC, DV.SX, le, ce, sizeLine]
      · unfold EL
        generalize E.map eD = EE
        generalize (E.map (·.1)).map D.int = TT
        simp [DV.SC, DV.SE, DV.SX, sizeLine]
      · simp [DV.SC, DV.SE, DV.SX])
  have el : ((rngD 1 1 top).filter (fun d => match d with | .int w => decide (runB w f 0 (E.map (·.1)) = E) | _ => false)).map (fun d => D.tup [.int (f : Int), d]) = prW f (wts E top f) := by
    unfold prW wts
    rw [rngD_rE, show ((List.range top).map fun (j : Nat) => D.int (1 + (j : Int))) = ((List.range top).map fun (j : Nat) => (1 : Int) + (j : Int)).map D.int by rw [List.map_map]; rfl, List.filter_map, List.map_map]
    rfl
  rw [el] at ec
  have wl : (prW f (wts E top f)).length ≤ top := by
    unfold prW wts
    rw [List.length_map]
    have := List.length_filter_le (fun w => decide (runB w f 0 (E.map (·.1)) = E)) ((List.range top).map fun (j : Nat) => (1 : Int) + (j : Int))
    rw [List.length_map, List.length_range] at this
    exact this
  have hz2 : F.length + (prW f (wts E top f)).length ≤ 16777216 := by omega
  generalize prW f (wts E top f) = PW at *
  unfold EL at *
  generalize E.map eD = EE at *
  generalize (E.map (·.1)).map D.int = TT at *
  unfold B__law_fits_1
  generalize DV.E.comp _ _ _ _ _ _ = XX at ec ⊢
  simp [DV.SC, DV.SE, DV.SX, ec, hz2, sizeLine]
theorem fi_loop (E : List (Int × Bool)) (hE : E.length ≤ 100) (top : Nat) (t1 : 1 ≤ top) (ht : top ≤ 10000) : ∀ (m lo : Nat) (f3 : Bool) (F : List D) (x2 : Sl), 1 ≤ lo → F.length + m * top ≤ 3000000 → ∃ y2 g3, forLoop (.nm 2) (exs fsF [] B__law_fits_1) (rngD (lo : Int) 1 m) (fiG (EL E) top x2 (.lst ((E.map (·.1)).map D.int)) f3 F) = some (.nx (fiG (EL E) top y2 (.lst ((E.map (·.1)).map D.int)) g3 (F ++ (List.range' lo m).flatMap fun f => prW f (wts E top f))))
  | 0, lo, f3, F, x2, _, _ => ⟨x2, f3, by simp [rngD, forLoop]⟩
  | m + 1, lo, f3, F, x2, h1, hz => by
    have e1 : (m + 1) * top = m * top + top := by rw [Nat.add_mul, Nat.one_mul]
    have bd := fi_body E hE top t1 (by omega) lo h1 f3 F (by omega)
    have wl : (prW lo (wts E top lo)).length ≤ top := by
      unfold prW wts
      rw [List.length_map]
      have := List.length_filter_le (fun w => decide (runB w lo 0 (E.map (·.1)) = E)) ((List.range top).map fun (j : Nat) => (1 : Int) + (j : Int))
      rw [List.length_map, List.length_range] at this
      exact this
    obtain ⟨y2, g3, ih⟩ := fi_loop E hE top t1 ht m (lo + 1) false (F ++ prW lo (wts E top lo)) (some (.int (lo : Int), false)) (by omega) (by rw [List.length_append]; omega)
    rw [show ((lo + 1 : Nat) : Int) = (lo : Int) + 1 by omega] at ih
    refine ⟨y2, g3, ?_⟩
    rw [rngD, List.range'_succ, List.flatMap_cons, ← List.append_assoc, ← ih]
    refine forLoop_step ?_ bd
    unfold EL
    generalize E.map eD = EE
    generalize (E.map (·.1)).map D.int = TT
    simp [DV.SC, DV.SE, DV.SX]
/-- all that fits -/
def fitL (E : List (Int × Bool)) (top : Nat) : List D := (List.range' 1 (E.length + 1)).flatMap fun f => prW f (wts E top f)
theorem fits_ok (E : List (Int × Bool)) (hE : E.length ≤ 100) (top : Nat) (t1 : 1 ≤ top) (ht : top ≤ 10000) (fl : Bool) : F__law_fits [some (EL E, fl), some (.int (top : Int), false)] = some (.nw (.lst (fitL E top)), [some (EL E, false), some (.int (top : Int), false)]) := by
  obtain ⟨y2, g3, lp⟩ := fi_loop E hE top t1 ht (E.length + 1) 1 false [] none (Nat.le_refl _) (by
    have : (E.length + 1) * top ≤ 101 * 10000 := Nat.mul_le_mul (by omega) ht
    simp; omega)
  rw [List.nil_append] at lp
  have ec := comp_gen (fs := fsF) (own := [5, 6]) (tg := .tp [.nm 5, .nm 6]) (ik := .seq) (its := [.var 0]) (cs := []) (elt := .var 5) (ds := E.map eD) (Γ0 := [some (EL E, fl), some (.int (top : Int), false), none, none, none, none, none, none]) (Γ := [some (EL E, false), some (.int (top : Int), false), none, none, none, none, none, none]) (fun _ => true) (fun d => match d with | .tup [a, _] => a | d => d)
    (by unfold EL; generalize E.map eD = EE; cases fl <;> simp [DV.SC, DV.SE, DV.SX]) rfl rfl rfl (by decide) (by rw [List.length_map]; omega) (fun d hd => by
      obtain ⟨e, _, rfl⟩ := List.mem_map.mp hd
      unfold EL
      generalize E.map eD = EE
      exact ⟨[some (.lst EE, false), some (.int (top : Int), false), none, none, none, some (.int e.1, false), some (.bl e.2, false), none], by simp [DV.SC, DV.SE, DV.SX, eD], by simp [DV.SC, DV.SE, DV.SX], rfl, rfl, fun _ => ⟨.sl 5, by simp [DV.SC, DV.SE, DV.SX], by simp [DV.SC, DV.SE, DV.SX]⟩⟩)
  have el : ((E.map eD).filter fun _ => true).map (fun d => match d with | .tup [a, _] => a | d => d) = (E.map (·.1)).map D.int := by
    rw [List.filter_eq_self.mpr fun _ _ => rfl, List.map_map, List.map_map]
    rfl
  rw [el] at ec
  have hl : ((E.map eD).length : Int) = (E.length : Int) := by rw [List.length_map]
  have hr : ∀ Γ, rngO Γ [.int 1, .int ((E.length : Int) + 2)] = some (rngD 1 1 (E.length + 1), Γ) := fun Γ => by
    have := rngO2 Γ 1 ((E.length : Int) + 2) (in62_int (by decide) (by decide)) (in62_int (by omega) (by omega))
    rw [this, show ((E.length : Int) + 2 - 1).toNat = E.length + 1 by omega]
  have lp : forLoop (.nm 2) (exs fsF [] B__law_fits_1) (rngD 1 1 (E.length + 1)) (fiG (EL E) top none (.lst ((E.map (·.1)).map D.int)) false []) = some (.nx (fiG (EL E) top y2 (.lst ((E.map (·.1)).map D.int)) g3 (fitL E top))) := lp
  generalize fitL E top = FL at *
  generalize rngD 1 1 (E.length + 1) = RD at *
  generalize (E.length : Int) = nn at *
  refine runF_pn (pn := []) (o := .rt (.sl 4) (fiG (EL E) top y2 (.lst ((E.map (·.1)).map D.int)) g3 FL)) rfl (by cases fl <;> rfl) (?_ : exs _ [] _ [some (EL E, fl), some (.int (top : Int), false), none, none, none, none, none, none] = _) (by cases fl <;> rfl)
  unfold EL at *
  generalize E.map eD = EE at *
  generalize (E.map (·.1)).map D.int = TT at *
  refine (exs_nx (Γ1 := fiG (.lst EE) top none (.lst TT) false []) ?_).trans ?_
  · generalize DV.E.comp _ _ _ _ _ _ = XX at ec ⊢
    simp [DV.SC, DV.SE, DV.SX, ec, sizeLine]
  refine (exs_nx (ex_for (Γ2 := fiG (.lst EE) top none (.lst TT) false []) (ds := RD) (by simp [DV.SC, DV.SE, DV.SX, hl, hr]) rfl lp)).trans ?_
  simp [DV.SC, DV.SE, DV.SX]

/-! ### forecast -/
abbrev fitsW (E : List (Int × Bool)) (f : Nat) (w : Int) : Prop := runB w f 0 (E.map (·.1)) = E
theorem fp_all : ∀ {E : List (Int × Bool)}, fpN E = E.length → ∀ e ∈ E, e.2 = true
  | [], _, e, m => by simp at m
  | (t, true) :: E, h, e, m => by
    rcases List.mem_cons.mp m with rfl | m
    · rfl
    · exact fp_all (by simpa [fpN] using h) e m
  | (t, false) :: E, h, e, m => by simp [fpN] at h
theorem fp_pos {E : List (Int × Bool)} (ne : E ≠ []) {w s : Int} {f : Nat} (f1 : 1 ≤ f) (h : okF w f s E) : 1 ≤ fpN E := by
  cases E with
  | nil => exact absurd rfl ne
  | cons e E =>
    obtain ⟨t, b⟩ := e
    cases f with
    | zero => omega
    | succ f =>
      rw [okF] at h
      rw [h.1]
      simp [fpN]
/-! ### the next request -/
/-- the time of the last pass -/
def lpT : Int → List (Int × Bool) → Int
  | s, [] => s
  | s, (t, b) :: E => lpT (if b then t else s) E
/-- the log of one more request -/
theorem run_snoc (w t : Int) : ∀ (ts : List Int) (l : Nat) (s : Int), ∃ l' s', runB w l s (ts ++ [t]) = runB w l s ts ++ runB w l' s' [t] ∧ l' = l - ts.length ∧ (l' = 0 → l = 0 ∨ 1 ≤ ts.length → True) ∧ s' = lpT s (runB w l s ts)
  | [], l, s => ⟨l, s, by cases l <;> simp [runB], by simp, fun _ _ => trivial, by cases l <;> rfl⟩
  | u :: ts, l + 1, s => by
    obtain ⟨l', s', e1, e2, _, e3⟩ := run_snoc w t ts l u
    exact ⟨l', s', by rw [List.cons_append, runB, runB, e1, List.cons_append], by rw [e2, List.length_cons]; omega, fun _ _ => trivial, by rw [runB, lpT, e3]; rfl⟩
  | u :: ts, 0, s => by
    by_cases c : w ≤ u - s
    · obtain ⟨l', s', e1, e2, _, e3⟩ := run_snoc w t ts 0 u
      refine ⟨l', s', by rw [List.cons_append, runB, runB, if_pos c, if_pos c, e1, List.cons_append], by rw [e2]; omega, fun _ _ => trivial, by rw [runB, if_pos c, lpT, e3]; rfl⟩
    · obtain ⟨l', s', e1, e2, _, e3⟩ := run_snoc w t ts 0 s
      refine ⟨l', s', by rw [List.cons_append, runB, runB, if_neg c, if_neg c, e1, List.cons_append], by rw [e2]; omega, fun _ _ => trivial, by rw [runB, if_neg c, lpT, e3]; rfl⟩
def psG : D → Bool
  | .tup [_, .bl b] => b
  | _ => false
def fsG : D → D
  | .tup [a, _] => a
  | d => d
abbrev fsK : List FS := [F_check_log, F_is_integer, F_later_bounds, F_first_passes]
theorem fc_comp (E : List (Int × Bool)) (hz : E.length ≤ 1000) (x1 x2 x3 x4 x5 x6 : Sl) : ev fsK (.comp [7] (.nm 7) .seq [.var 0] [.ix (.var 7) (.cst (.int 1))] (.ix (.var 7) (.cst (.int 0)))) [some (EL E, false), x1, x2, x3, x4, x5, x6, none] = some (.nw (.lst (((E.filter (·.2)).map (·.1)).map D.int)), [some (EL E, false), x1, x2, x3, x4, x5, x6, none]) := by
  have ec := comp_gen (fs := fsK) (own := [7]) (tg := .nm 7) (ik := .seq) (its := [.var 0]) (cs := [.ix (.var 7) (.cst (.int 1))]) (elt := .ix (.var 7) (.cst (.int 0))) (ds := E.map eD) (Γ0 := [some (EL E, false), x1, x2, x3, x4, x5, x6, none]) (Γ := [some (EL E, false), x1, x2, x3, x4, x5, x6, none]) psG fsG
    (by simp only [EL]; generalize E.map eD = EE; simp [DV.SC, DV.SE, DV.SX]) rfl rfl rfl (by decide) (by simp; omega) (fun d hd => by
      obtain ⟨e, _, rfl⟩ := List.mem_map.mp hd
      obtain ⟨t, b⟩ := e
      refine ⟨[some (EL E, false), x1, x2, x3, x4, x5, x6, some (eD (t, b), false)], by simp [DV.SC, DV.SE, DV.SX], ?_, rfl, rfl, fun _ => ⟨.fz (.int t), by simp [DV.SC, DV.SE, DV.SX, e2_0], rfl⟩⟩
      simp [DV.SC, DV.SE, DV.SX, e2_1, psG])
  have el : ((E.map eD).filter psG).map fsG = ((E.filter (·.2)).map (·.1)).map D.int := by
    rw [List.filter_map, List.map_map, List.map_map]
    rfl
  rw [el] at ec
  exact ec
theorem fc_nil (t : Int) (t0 : 0 ≤ t) (e1 : F_check_log [some (.lst [], false)] = some (.fz .non, [some (.lst [], false)])) (lo hi : Int) (e2 : F_later_bounds [some (.lst [], false)] = some (.fz (.tup [.int lo, .int hi, .non]), [some (.lst [], false)])) : F_forecast [some (.lst [], false), some (.int t, false)] = some (.fz (.str "pass"), [some (.lst [], false), some (.int t, false)]) := by
  have ei := is_integer_int t
  have c1 : cmpD .ne (.lst []) (.lst []) = some false := rfl
  have c2 : cmpD .eq (.lst []) (.lst []) = some true := rfl
  have n0 : ¬ t < 0 := by omega
  simp [F_forecast, DV.SC, DV.SX, e1, e2, ei, c1, c2, n0, sizeLine]
def wordF (n N lo hi d : Int) : Str := if n = N ∨ lo ≤ d then (if d < hi then "either" else "pass") else "reject"
theorem fc_gen (L : List D) (t T lo hi since n N : Int) (d : D) (PT : List D) (e1 : F_check_log [some (.lst L, false)] = some (.fz .non, [some (.lst L, false)])) (e2 : F_later_bounds [some (.lst L, false)] = some (.fz (.tup [.int lo, .int hi, .non]), [some (.lst L, false)])) (e3 : F_first_passes [some (.lst L, false)] = some (.fz (.int n), [some (.lst L, false)]))
    (cn : cmpD .ne (.lst L) (.lst []) = some true) (cq : cmpD .eq (.lst L) (.lst []) = some false) (al : ixD (.lst L) (.int (-1)) = some (.tup [.int T, d])) (hT : T < t) (t0 : 0 ≤ t)
    (ec : ev fsK (.comp [7] (.nm 7) .seq [.var 0] [.ix (.var 7) (.cst (.int 1))] (.ix (.var 7) (.cst (.int 0)))) [some (.lst L, false), some (.int t, false), none, none, some (.int lo, false), some (.int hi, false), some (.non, false), none] = some (.nw (.lst PT), [some (.lst L, false), some (.int t, false), none, none, some (.int lo, false), some (.int hi, false), some (.non, false), none]))
    (em : biD .maxl [.lst PT] = some (.fz (.int since))) (hn : biD .len [.lst L] = some (.fz (.int N))) :
    F_forecast [some (.lst L, false), some (.int t, false)] = some (.fz (.str (wordF n N lo hi (t - since))), [some (.lst L, false), some (.int t, false)]) := by
  have ei := is_integer_int t
  have n0 : ¬ t < 0 := by omega
  have n1 : ¬ t ≤ T := by omega
  refine runF_pn (pn := []) (o := .rt (.fz (.str (wordF n N lo hi (t - since)))) [some (.lst L, false), some (.int t, false), some (.int since, false), some (.bl (decide (n = N ∨ lo ≤ t - since)), false), some (.int lo, false), some (.int hi, false), some (.non, false), none]) rfl rfl (?_ : exs _ [] _ [some (.lst L, false), some (.int t, false), none, none, none, none, none, none] = _) rfl
  generalize D.lst L = LL at *
  refine (exs_nx (Γ1 := [some (LL, false), some (.int t, false), none, none, none, none, none, none]) (by simp [DV.SC, DV.SE, DV.SX, e1])).trans ?_
  refine (exs_nx (Γ1 := [some (LL, false), some (.int t, false), none, none, none, none, none, none]) (by simp [DV.SC, DV.SX, ei, n0, n1, cn, al, e2_0, sizeLine])).trans ?_
  refine (exs_nx (Γ1 := [some (LL, false), some (.int t, false), none, none, some (.int lo, false), some (.int hi, false), some (.non, false), none]) (by simp [DV.SC, DV.SE, DV.SX, e2])).trans ?_
  refine (exs_nx (Γ1 := [some (LL, false), some (.int t, false), none, none, some (.int lo, false), some (.int hi, false), some (.non, false), none]) (by simp [DV.SC, DV.SE, DV.SX])).trans ?_
  refine (exs_nx (Γ1 := [some (LL, false), some (.int t, false), none, none, some (.int lo, false), some (.int hi, false), some (.non, false), none]) (by simp [DV.SC, DV.SX, cq, sizeLine])).trans ?_
  refine (exs_nx (Γ1 := [some (LL, false), some (.int t, false), some (.int since, false), none, some (.int lo, false), some (.int hi, false), some (.non, false), none]) ?_).trans ?_
  · have e4 : ev fsK (.bi .maxl [.comp [7] (.nm 7) .seq [.var 0] [.ix (.var 7) (.cst (.int 1))] (.ix (.var 7) (.cst (.int 0)))]) [some (LL, false), some (.int t, false), none, none, some (.int lo, false), some (.int hi, false), some (.non, false), none] = some (.fz (.int since), [some (LL, false), some (.int t, false), none, none, some (.int lo, false), some (.int hi, false), some (.non, false), none]) := by
      rw [DV.ev.eq_17, evs_1 ec]
      simp only [Option.bind_some, DV.datums.eq_2, DV.datums.eq_1, DV.datum.eq_2, Option.map_some, em]
    generalize DV.E.bi .maxl _ = EE at e4 ⊢
    simp [DV.SC, DV.SE, DV.SX, e4]
  have e5 : ev fsK (.bi .len [.var 0]) [some (LL, false), some (.int t, false), some (.int since, false), none, some (.int lo, false), some (.int hi, false), some (.non, false), none] = some (.fz (.int N), [some (LL, false), some (.int t, false), some (.int since, false), none, some (.int lo, false), some (.int hi, false), some (.non, false), none]) := by
    rw [DV.ev.eq_17, evs_1 (x := .sl 0) (Γ1 := [some (LL, false), some (.int t, false), some (.int since, false), none, some (.int lo, false), some (.int hi, false), some (.non, false), none]) (by simp [DV.SC, DV.SE, DV.SX])]
    simp only [Option.bind_some, DV.datums.eq_2, DV.datums.eq_1, DV.datum.eq_3, List.getElem?_cons_zero, Option.map_some, hn]
  have ceq : cmpD .eq (.int n) (.int N) = some (decide (n = N)) := by simp [cmpD, okB, eqd]; rfl
  refine (exs_nx (Γ1 := [some (LL, false), some (.int t, false), some (.int since, false), some (.bl (decide (n = N ∨ lo ≤ t - since)), false), some (.int lo, false), some (.int hi, false), some (.non, false), none]) ?_).trans ?_
  · generalize DV.E.bi .len _ = EE at e5 ⊢
    by_cases c1 : n = N
    · subst c1
      rw [decide_eq_true rfl] at ceq
      simp [DV.SC, DV.SX, e3, e5, ceq]
    · rw [decide_eq_false c1] at ceq
      simp [DV.SC, DV.SX, e3, e5, ceq, c1]
  unfold wordF
  by_cases c1 : n = N ∨ lo ≤ t - since
  · rw [if_pos c1, decide_eq_true c1]
    by_cases c2 : t - since < hi
    · simp [DV.SC, DV.SE, DV.SX, c2]
    · simp [DV.SC, DV.SE, DV.SX, c2]
  · rw [if_neg c1, decide_eq_false c1]
    simp [DV.SC, DV.SE, DV.SX]
/-- the greatest of the times that are passed is the last one -/
theorem lp_fold : ∀ (E : List (Int × Bool)) (lo s : Int), RiseE lo E → s ≤ lo → ((E.filter (·.2)).map (·.1)).foldl (fun a b => if a < b then b else a) s = lpT s E
  | [], _, _, _, _ => rfl
  | (t, true) :: E, lo, s, ⟨h, r⟩, hs => by
    have h : lo < t := h
    rw [List.filter_cons, if_pos rfl, List.map_cons, List.foldl_cons, if_pos (show s < t by omega), lp_fold E t t r (Int.le_refl _)]
    rfl
  | (t, false) :: E, lo, s, ⟨h, r⟩, hs => by
    have h : lo < t := h
    rw [List.filter_cons, if_neg (by simp), lp_fold E t s r (by omega)]
    rfl
theorem lp_max {E : List (Int × Bool)} (r : RiseE (-1) E) (p : 1 ≤ fpN E) : maxI ((E.filter (·.2)).map (·.1)) = some (lpT 0 E) := by
  match E, r, p with
  | (t, true) :: E, r, _ =>
    rw [List.filter_cons, if_pos rfl, List.map_cons]
    show some (((E.filter (·.2)).map (·.1)).foldl (fun a b => if a < b then b else a) t) = _
    rw [lp_fold E t t r.2 (Int.le_refl _)]
    rfl
  | (t, false) :: E, _, p => simp [fpN] at p
  | [], _, p => simp [fpN] at p
theorem eq_or_snoc {α : Type} (l : List α) : l = [] ∨ ∃ A e, l = A ++ [e] := by
  cases hg : l.getLast? with
  | none => exact .inl (List.getLast?_eq_none_iff.mp hg)
  | some e =>
    obtain ⟨A, h⟩ := List.getLast?_eq_some_iff.mp hg
    exact .inr ⟨A, e, h⟩
theorem at_lastE (A : List D) (x : D) : ixD (.lst (A ++ [x])) (.int (-1)) = some x := by
  show atI (A ++ [x]) (-1) = some x
  unfold atI
  rw [List.length_append, List.length_singleton]
  have e : ixN (A.length + 1) (-1) = some A.length := by
    unfold ixN
    simp
    try omega
  rw [e]
  simp
theorem cn_e {E : List (Int × Bool)} (ne : E ≠ []) : cmpD .eq (.lst (E.map eD)) (.lst []) = some false ∧ cmpD .ne (.lst (E.map eD)) (.lst []) = some true := by
  cases E with
  | nil => exact absurd rfl ne
  | cons a E => exact ⟨by simp [DV.SC, DV.SE, DV.SX, eD], by simp [DV.SC, DV.SE, DV.SX, eD]⟩
theorem cf_full {E : List (Int × Bool)} (h : Cf E none) (ne : E ≠ []) : okP E := by
  have := h (E.length - 1) (by have := List.length_pos_iff.mpr ne; omega)
  rwa [show E.length - 1 + 1 = E.length by have := List.length_pos_iff.mpr ne; omega, List.take_length] at this
/-- what is foretold -/
theorem forecast_is {E : List (Int × Bool)} (r : RiseE (-1) E) (hz : E.length ≤ 1000) {t : Int} (h : Cf E none) (t0 : 0 ≤ t) (hT : ∀ B e, E = B ++ [e] → e.1 < t) :
    F_forecast [some (EL E, false), some (.int t, false)] = some (.fz (.str (if E = [] then ("pass" : Str) else wordF (fpN E : Nat) (E.length : Nat) (bE E).1 (bE E).2 (t - lpT 0 E))), [some (EL E, false), some (.int t, false)]) := by
  have e1 := check_log_ok E r hz false
  obtain ⟨lo, hi, c, e2, c1, c2⟩ := later_bounds_ok E hz false
  have hc := c1.uniq h
  subst hc
  have e3 := first_passes_ok E hz false
  rw [show cD none = .non from rfl] at e2
  by_cases ne : E = []
  · subst ne
    exact fc_nil t t0 e1 lo hi e2
  · obtain ⟨hlo, hhi⟩ := c2 rfl ne
    have p := (cf_full h ne).1
    rw [if_neg ne, ← hlo, ← hhi]
    have ec := fc_comp E hz (some (.int t, false)) none none (some (.int lo, false)) (some (.int hi, false)) (some (.non, false))
    have em : biD .maxl [.lst (((E.filter (·.2)).map (·.1)).map D.int)] = some (.fz (.int (lpT 0 E))) := by
      have ii : ∀ l : List Int, intsD (l.map D.int) = some l := fun l => by
        induction l with
        | nil => rfl
        | cons a l ih => rw [List.map_cons, intsD, ih]; rfl
      simp only [biD, ii, Option.bind_some, lp_max r p, Option.map_some]
    obtain ⟨cc, cn⟩ := cn_e ne
    obtain ⟨A, e, eA⟩ : ∃ A e, E = A ++ [e] := by
      rcases eq_or_snoc E with z | z
      · exact absurd z ne
      · exact z
    have al : ixD (.lst (E.map eD)) (.int (-1)) = some (.tup [.int e.1, .bl e.2]) := by
      rw [eA, List.map_append]
      exact at_lastE _ _
    exact fc_gen (E.map eD) t e.1 lo hi (lpT 0 E) (fpN E : Nat) (E.length : Nat) _ _ e1 e2 e3 cn cc al (hT A e eA) t0 ec em (by simp [biD])
/-! ### forecast where no breaker explains the log -/
abbrev fsX : List FS := [F_check_log_x, F_is_integer, F_later_bounds, F_first_passes]
theorem fx_gen (L : List D) (t T lo hi i : Int) (d : D) (e1 : F_check_log_x [some (.lst L, false)] = some (.fz .non, [some (.lst L, false)])) (e2 : F_later_bounds [some (.lst L, false)] = some (.fz (.tup [.int lo, .int hi, .int i]), [some (.lst L, false)]))
    (cn : cmpD .ne (.lst L) (.lst []) = some true) (al : ixD (.lst L) (.int (-1)) = some (.tup [.int T, d])) (hT : T < t) (t0 : 0 ≤ t) :
    F_forecast_x [some (.lst L, false), some (.int t, false)] = some (.fz (.exc 15 ["at"] [.int i]), [none, none]) := by
  have ei := is_integer_int t
  have n0 : ¬ t < 0 := by omega
  have n1 : ¬ t ≤ T := by omega
  refine runX_pn (pn := []) (o := .xc 15 ["at"] [.int i] [some (.lst L, false), some (.int t, false), none, none, some (.int lo, false), some (.int hi, false), some (.int i, false), none]) rfl rfl (?_ : exs _ [] _ [some (.lst L, false), some (.int t, false), none, none, none, none, none, none] = _) rfl
  generalize D.lst L = LL at *
  refine (exs_nx (Γ1 := [some (LL, false), some (.int t, false), none, none, none, none, none, none]) (by simp [DV.SC, DV.SE, DV.SX, e1, DV.ex.eq_21])).trans ?_
  refine (exs_nx (Γ1 := [some (LL, false), some (.int t, false), none, none, none, none, none, none]) (by simp [DV.SC, DV.SX, ei, n0, n1, cn, al, e2_0, sizeLine])).trans ?_
  refine (exs_nx (Γ1 := [some (LL, false), some (.int t, false), none, none, some (.int lo, false), some (.int hi, false), some (.int i, false), none]) (by simp [DV.SC, DV.SE, DV.SX, e2])).trans ?_
  exact exs_xc (by simp [DV.SC, DV.SE, DV.SX, DV.ex.eq_20, fres, excOk])
theorem forecast_no {E : List (Int × Bool)} (r : RiseE (-1) E) (hz : E.length ≤ 1000) {t i : Int} (h : Cf E (some i)) (t0 : 0 ≤ t) (hT : ∀ B e, E = B ++ [e] → e.1 < t) :
    F_forecast_x [some (EL E, false), some (.int t, false)] = some (.fz (.exc 15 ["at"] [.int i]), [none, none]) := by
  have e1 := xcheck_log_ok E r hz false
  obtain ⟨lo, hi, c, e2, c1, c2⟩ := later_bounds_ok E hz false
  have hc := c1.uniq h
  subst hc
  rw [show cD (some i) = .int i from rfl] at e2
  have ne : E ≠ [] := fun z => by
    obtain ⟨k, _, l, _⟩ := h
    rw [z] at l
    exact absurd l (Nat.not_lt_zero k)
  obtain ⟨A, e, eA⟩ : ∃ A e, E = A ++ [e] := by
    rcases eq_or_snoc E with z | z
    · exact absurd z ne
    · exact z
  have al : ixD (.lst (E.map eD)) (.int (-1)) = some (.tup [.int e.1, .bl e.2]) := by
    rw [eA, List.map_append]
    exact at_lastE _ _
  exact fx_gen (E.map eD) t e.1 lo hi i _ e1 e2 (cn_e ne).2 al (hT A e eA) t0
theorem first_conflict_ok (E : List (Int × Bool)) (r : RiseE (-1) E) (hz : E.length ≤ 1000) {c : Option Int} (h : Cf E c) (fl : Bool) : F_first_conflict [some (EL E, fl)] = some (.fz (cD c), [some (EL E, false)]) := by
  have e1 := check_log_ok E r hz fl
  obtain ⟨lo, hi, c', e2, c1, _⟩ := later_bounds_ok E hz false
  have hc := c1.uniq h
  subst hc
  have a2 : ∀ x y z : D, atI [x, y, z] 2 = some z := fun _ _ _ => rfl
  generalize EL E = L at *
  generalize cD c' = CD at *
  cases fl <;> simp [F_first_conflict, DV.SC, DV.SE, DV.SX, e1, e2, a2]

/-! ### the law's own search for a conflict -/
def fitP (E : List (Int × Bool)) (top : Nat) : List (Nat × Int) := (List.range' 1 (E.length + 1)).flatMap fun f => (wts E top f).map fun w => (f, w)
abbrev pN (p : Nat × Int) : D := .tup [.int (p.1 : Int), .int p.2]
theorem fitL_is (E : List (Int × Bool)) (top : Nat) : fitL E top = (fitP E top).map pN := by
  unfold fitL fitP
  rw [List.map_flatMap]
  congr 1
  funext f
  rw [List.map_map]
  rfl
theorem fitP_mem {E : List (Int × Bool)} {top : Nat} {p : Nat × Int} (h : p ∈ fitP E top) : 1 ≤ p.1 ∧ p.1 ≤ E.length + 1 ∧ p.2 ∈ wts E top p.1 := by
  obtain ⟨f, m, h⟩ := List.mem_flatMap.mp h
  obtain ⟨w, hw, rfl⟩ := List.mem_map.mp h
  have := List.mem_range'_1.mp m
  exact ⟨this.1, by show f ≤ _; omega, hw⟩
theorem mem_fitP {E : List (Int × Bool)} {top : Nat} {f : Nat} {w : Int} (h1 : 1 ≤ f) (h2 : f ≤ E.length + 1) (h : w ∈ wts E top f) : (f, w) ∈ fitP E top :=
  List.mem_flatMap.mpr ⟨f, List.mem_range'_1.mpr ⟨h1, by omega⟩, List.mem_map.mpr ⟨w, h, rfl⟩⟩
theorem wts_mem {E : List (Int × Bool)} {top : Nat} {f : Nat} {w : Int} (h : w ∈ wts E top f) : 1 ≤ w ∧ w ≤ (top : Int) ∧ fitsW E f w := by
  obtain ⟨m, c⟩ := List.mem_filter.mp h
  obtain ⟨j, hj, rfl⟩ := List.mem_map.mp m
  have := List.mem_range.mp hj
  exact ⟨by omega, by omega, of_decide_eq_true c⟩
theorem mem_wts {E : List (Int × Bool)} {top : Nat} {f : Nat} {w : Int} (w1 : 1 ≤ w) (w2 : w ≤ (top : Int)) (h : fitsW E f w) : w ∈ wts E top f := by
  refine List.mem_filter.mpr ⟨List.mem_map.mpr ⟨(w - 1).toNat, List.mem_range.mpr (by omega), by omega⟩, decide_eq_true h⟩
theorem rise_take : ∀ (E : List (Int × Bool)) (lo : Int) (k : Nat), RiseE lo E → RiseE lo (E.take k) ∧ topE lo (E.take k) ≤ topE lo E
  | E, lo, 0, r => by rw [List.take_zero]; exact ⟨trivial, rise_top E lo r⟩
  | [], lo, k + 1, r => ⟨trivial, Int.le_refl _⟩
  | (t, b) :: E, lo, k + 1, ⟨h, r⟩ => by
    obtain ⟨a, c⟩ := rise_take E t k r
    rw [List.take_succ_cons]
    exact ⟨⟨h, a⟩, c⟩
/-- the least wait is no more than the last time and one -/
theorem lo_le {E : List (Int × Bool)} (r : RiseE (-1) E) (p : 1 ≤ fpN E) : (bE E).1 ≤ topE (-1) E + 1 := by
  have le := fpN_le E
  obtain ⟨r1, r2⟩ := rise_drop E (-1) (fpN E) r p le
  have g := rise_get E (-1) r (fpN E - 1) (by omega)
  have := bdE_lo (E.drop (fpN E)) 1 1000000000000000000000000000000 (tmE E (fpN E - 1)) (tmE E (fpN E - 1)) (topE (-1) E) (Int.le_refl _) r1 r2 (by omega)
  have e : (bE E).1 = (bdE 1 1000000000000000000000000000000 (tmE E (fpN E - 1)) (E.drop (fpN E))).1 := rfl
  rw [e]
  omega
/-- which waits explain with as many failures as entries are passed first -/
theorem fit_b {E : List (Int × Bool)} (p : 1 ≤ fpN E) {w : Int} (w1 : 1 ≤ w) (w2 : w ≤ 1000000000000000000000000000000) : fitsW E (fpN E) w ↔ (bE E).1 ≤ w ∧ w ≤ (bE E).2 := by
  have := fits_iff w (E := E) p w1 w2 (k := 0) (by omega)
  rw [Nat.sub_zero] at this
  exact (run_ok w E (fpN E) 0).trans this
/-- a breaker that explains has at most as many failures, unless all is passed, and its wait lies in the bounds -/
theorem fit_any {E : List (Int × Bool)} (ne : E ≠ []) {f : Nat} {w : Int} (f1 : 1 ≤ f) (w1 : 1 ≤ w) (w2 : w ≤ 1000000000000000000000000000000) (h : fitsW E f w) : 1 ≤ fpN E ∧ (bE E).1 ≤ w ∧ w ≤ (bE E).2 ∧ (fpN E < f → fpN E = E.length) := by
  have ok := (run_ok w E f 0).mp h
  have p := fp_pos ne f1 ok
  have le := fpN_le E
  by_cases c : f ≤ fpN E
  · have q := fits_iff w (E := E) p w1 w2 (k := fpN E - f) (by omega)
    rw [show fpN E - (fpN E - f) = f by omega] at q
    obtain ⟨q1, q2⟩ := q.mp ok
    have q3 := hiF_le E (bE E).2 (fpN E) (fpN E - f)
    have q2 : w ≤ hiF E (bE E).2 (fpN E) (fpN E - f) := q2
    exact ⟨p, q1, by omega, fun z => by omega⟩
  · have all : fpN E = E.length := by
      refine Decidable.byContradiction fun z => ?_
      exact okF_many w E f 0 (by omega) (by omega) ok
    have e : bE E = (1, 1000000000000000000000000000000) := by
      show bdE 1 1000000000000000000000000000000 (tmE E (fpN E - 1)) (E.drop (fpN E)) = _
      rw [all, List.drop_length]
      rfl
    rw [e]
    exact ⟨p, w1, w2, fun _ => all⟩
theorem fit_nil {E : List (Int × Bool)} (ne : E ≠ []) (r : RiseE (-1) E) (top : Nat) (h1 : topE (-1) E + 1 ≤ (top : Int)) (h2 : (top : Int) ≤ 1000000) : fitP E top = [] ↔ ¬ okP E := by
  constructor
  · intro z ⟨p, q⟩
    have l := lo_le r p
    have m := (bdE_mono (E.drop (fpN E)) 1 1000000000000000000000000000000 (tmE E (fpN E - 1)))
    have l1 : 1 ≤ (bE E).1 := m.1
    have := mem_fitP (top := top) p (by have := fpN_le E; omega) (mem_wts l1 (by omega) ((fit_b p l1 (by omega)).mpr ⟨Int.le_refl _, q⟩))
    rw [z] at this
    exact nomatch this
  · intro b
    refine List.eq_nil_iff_forall_not_mem.mpr fun t m => ?_
    obtain ⟨f1, _, hw⟩ := fitP_mem m
    obtain ⟨w1, w2, hf⟩ := wts_mem hw
    obtain ⟨p, a, c, _⟩ := fit_any ne f1 w1 (by omega) hf
    exact b ⟨p, Int.le_trans a c⟩
theorem cmp_fit (P : List (Nat × Int)) : cmpD .eq (.lst (P.map pN)) (.lst []) = some P.isEmpty := by
  cases P with
  | nil => exact cmp_eq_self rfl
  | cons p P =>
    have o : okB 12 (.lst ((p :: P).map pN)) = true := by
      simp only [okB, List.all_eq_true, List.mem_map]
      rintro d ⟨e, _, rfl⟩
      rfl
    rw [DV.cmpD.eq_1, o, show okB 12 (.lst []) = true from rfl]
    rfl
abbrev cfG (L : D) (top : Int) (x2 : Sl) : Ct := [some (L, false), some (.int top, false), x2]
theorem cf_step (L A R : D) (top a : Int) (b : Bool) (hs : slcD L none (some (a + 1)) = some (.nw A)) (hf : F__law_fits [some (A, true), some (.int top, false)] = some (.nw R, [some (A, false), some (.int top, false)])) (hc : cmpD .eq R (.lst []) = some b) :
    exs [F__law_fits] [] B__law_conflict_1 (cfG L top (some (.int a, false))) = if b then some (.rt (.sl 2) (cfG L top (some (.int a, false)))) else some (.nx (cfG L top (some (.int a, false)))) := by
  cases b <;> simp [B__law_conflict_1, DV.SC, DV.SX, hs, hf, hc, sizeLine]
theorem cf_loop {E : List (Int × Bool)} (r : RiseE (-1) E) (hz : E.length ≤ 100) (top : Nat) (h1 : topE (-1) E + 1 ≤ (top : Int)) (h2 : top ≤ 10000) (t1 : 1 ≤ top) : ∀ (m n : Nat) (x2 : Sl), n + m = E.length → (∀ j, j < n → okP (E.take (j + 1))) →
    (∃ y2, forLoop (.nm 2) (exs [F__law_fits] [] B__law_conflict_1) (rngD (n : Int) 1 m) (cfG (EL E) top x2) = some (.nx (cfG (EL E) top y2)) ∧ Cf E none) ∨
    (∃ i, forLoop (.nm 2) (exs [F__law_fits] [] B__law_conflict_1) (rngD (n : Int) 1 m) (cfG (EL E) top x2) = some (.rt (.sl 2) (cfG (EL E) top (some (.int i, false)))) ∧ Cf E (some i))
  | 0, n, x2, e, h => .inl ⟨x2, by simp [rngD, forLoop], fun j hj => h j (by omega)⟩
  | m + 1, n, x2, e, h => by
    obtain ⟨r1, r2⟩ := rise_take E (-1) (n + 1) r
    have ln : (E.take (n + 1)).length = n + 1 := by rw [List.length_take]; omega
    have ne : E.take (n + 1) ≠ [] := fun z => by rw [z] at ln; cases ln
    have hf := fits_ok (E.take (n + 1)) (by omega) top t1 h2 true
    rw [fitL_is] at hf
    have hs : slcD (EL E) none (some ((n : Int) + 1)) = some (.nw (EL (E.take (n + 1)))) := by
      show some (RV.nw (.lst (cutD (E.map eD) none (some ((n : Int) + 1))))) = _
      rw [show (n : Int) + 1 = ((n + 1 : Nat) : Int) by omega, cut_to, ← List.map_take]
    have st := cf_step (EL E) (EL (E.take (n + 1))) _ top n _ hs hf (cmp_fit _)
    have q := fit_nil ne r1 top (by omega) (by omega)
    have as : asgT (.nm 2) (.int (n : Int)) (cfG (EL E) top x2) = some (cfG (EL E) top (some (.int (n : Int), false))) := rfl
    rw [rngD]
    cases hb : (fitP (E.take (n + 1)) top).isEmpty with
    | true =>
      rw [hb, if_pos rfl] at st
      refine .inr ⟨n, ?_, ⟨n, rfl, by omega, q.mp (List.isEmpty_iff.mp hb), h⟩⟩
      simp only [forLoop, as, Option.bind_some, st]
    | false =>
      rw [hb, if_neg (by simp)] at st
      have ok : okP (E.take (n + 1)) := Classical.byContradiction fun z => by
        have := q.mpr z
        rw [this] at hb
        cases hb
      have ih := cf_loop r hz top h1 h2 t1 m (n + 1) (some (.int (n : Int), false)) (by omega) (fun j hj => by
        by_cases c : j < n
        · exact h j c
        · rw [show j = n by omega]; exact ok)
      rw [forLoop_step as st]
      rw [show ((n + 1 : Nat) : Int) = (n : Int) + 1 by omega] at ih
      exact ih
theorem law_conflict_ok {E : List (Int × Bool)} (r : RiseE (-1) E) (hz : E.length ≤ 100) (top : Nat) (h1 : topE (-1) E + 1 ≤ (top : Int)) (h2 : top ≤ 10000) (t1 : 1 ≤ top) :
    ∃ c, F__law_conflict [some (EL E, false), some (.int (top : Int), false)] = some (.fz (cD c), [some (EL E, false), some (.int (top : Int), false)]) ∧ Cf E c := by
  have hl : (D.lst (E.map eD)) = EL E := rfl
  have i1 : (evs [F__law_fits] [.bi .len [.var 0]] (cfG (EL E) top none)).bind (fun q => iterD .rng q.1 q.2) = some (rngD 0 1 E.length, cfG (EL E) top none) := by
    have hn : ((E.map eD).length : Int) = (E.length : Int) := by rw [List.length_map]
    have hr := fun Γ => rngN1 Γ E.length (by omega)
    unfold EL
    generalize E.map eD = EE at *
    generalize rngD 0 1 E.length = RD at *
    generalize (E.length : Int) = nn at *
    simp [DV.SC, DV.SE, DV.SX, hn, hr]
  rcases cf_loop r hz top h1 h2 t1 E.length 0 none (by omega) (fun j hj => absurd hj (Nat.not_lt_zero j)) with ⟨y2, lp, c⟩ | ⟨i, lp, c⟩
  · refine ⟨none, ?_, c⟩
    refine runF_pn (pn := []) (o := .rt (.fz .non) (cfG (EL E) top y2)) rfl rfl (?_ : exs _ [] _ (cfG (EL E) top none) = _) rfl
    refine (exs_nx (ex_for i1 rfl lp)).trans ?_
    exact exs_rt (by simp only [DV.ex.eq_13, DV.ev.eq_3, Option.map_some])
  · refine ⟨some i, ?_, c⟩
    refine runF_pn (pn := []) (o := .rt (.sl 2) (cfG (EL E) top (some (.int i, false)))) rfl rfl (?_ : exs _ [] _ (cfG (EL E) top none) = _) rfl
    exact exs_rt (ex_for i1 rfl lp)

/-! ### what the breakers that explain a log do next -/
/-- whether it passes -/
def bfN (E : List (Int × Bool)) (d : Int) (p : Nat × Int) : Bool := decide (E.length < p.1 ∨ p.2 ≤ d)
theorem run_next {E : List (Int × Bool)} {f : Nat} {w : Int} (h : fitsW E f w) (t : Int) : runB w f 0 (E.map (·.1) ++ [t]) = E ++ [(t, bfN E (t - lpT 0 E) (f, w))] := by
  obtain ⟨l', s', e1, e2, _, e3⟩ := run_snoc w t (E.map (·.1)) f 0
  rw [show runB w f 0 (E.map (·.1)) = E from h] at e1 e3
  rw [List.length_map] at e2
  rw [e1, ← e3]
  unfold bfN
  congr 1
  cases l' with
  | zero =>
    have : ¬ E.length < f := by omega
    by_cases c : w ≤ t - s'
    · simp [runB, c]
    · simp [runB, c, this]
  | succ l =>
    have : E.length < f := by omega
    simp [runB, this]
abbrev fsN : List FS := [F__law_fits, F__law_log]
abbrev nxG (L : D) (top t : Int) (TS : List D) (F : List Bool) (x5 x6 : Sl) : Ct := [some (L, false), some (.int top, false), some (.int t, false), some (.lst TS, false), some (.lst (F.map D.bl), true), x5, x6, none, none]
theorem nx_body (L : D) (top t : Int) (TS : List D) (F : List Bool) (f w : Int) (b : Bool) (A : List D) (hz : TS.length + 1 ≤ 16777216) (hF : F.length < 16777216)
    (e : F__law_log [some (br f w 1, false), some (.lst (TS ++ [.int t]), true)] = some (.nw (.lst (A ++ [eD (t, b)])), [some (br f w 1, false), some (.lst (TS ++ [.int t]), false)])) :
    exs fsN [] B__law_next_1 (nxG L top t TS F (some (.int f, false)) (some (.int w, false))) = some (.nx (nxG L top t TS (F ++ [b]) (some (.int f, false)) (some (.int w, false)))) := by
  have ea : binD .add (.lst TS) (.lst [.int t]) = some (.nw (.lst (TS ++ [.int t]))) := by
    simp [binD, sizeLine, hz]
  have al := at_lastE A (eD (t, b))
  have e1 : (F ++ [b]).map D.bl = F.map D.bl ++ [.bl b] := by simp
  have hF2 : (F.map D.bl).length < 16777216 := by rw [List.length_map]; exact hF
  simp only [nxG]
  rw [e1]
  generalize F.map D.bl = FB at *
  generalize D.lst (A ++ [eD (t, b)]) = R at *
  generalize D.lst (TS ++ [.int t]) = T1 at *
  generalize D.lst TS = T0 at *
  generalize hone : D.lst [D.int t] = O1 at *
  simp [B__law_next_1, DV.SC, DV.SE, DV.SX, hone, ea, e, al, eD, e2_1, hF2, sizeLine]
theorem nx_loop {E : List (Int × Bool)} (hE : E.length ≤ 100) (L : D) (top t : Int) : ∀ (P : List (Nat × Int)) (F : List Bool) (x5 x6 : Sl), (∀ p ∈ P, 1 ≤ p.1 ∧ fitsW E p.1 p.2) → F.length + P.length ≤ 3000000 →
    ∃ y5 y6, forLoop (.tp [.nm 5, .nm 6]) (exs fsN [] B__law_next_1) (P.map pN) (nxG L top t ((E.map (·.1)).map D.int) F x5 x6) = some (.nx (nxG L top t ((E.map (·.1)).map D.int) (F ++ P.map (bfN E (t - lpT 0 E))) y5 y6))
  | [], F, x5, x6, _, _ => ⟨x5, x6, by simp [forLoop]⟩
  | p :: P, F, x5, x6, h, hz => by
    obtain ⟨f, w⟩ := p
    obtain ⟨f1, hf⟩ := h (f, w) List.mem_cons_self
    rw [List.length_cons] at hz
    have lg := law_log_ok f w f1 (E.map (·.1) ++ [t]) (by simp; omega) true
    rw [run_next hf t, List.map_append, List.map_append] at lg
    have bd := nx_body L top t ((E.map (·.1)).map D.int) F (f : Int) w _ _ (by simp; omega) (by omega) lg
    obtain ⟨y5, y6, ih⟩ := nx_loop hE L top t P (F ++ [bfN E (t - lpT 0 E) (f, w)]) (some (.int (f : Int), false)) (some (.int w, false)) (fun q m => h q (List.mem_cons_of_mem _ m)) (by simp; omega)
    refine ⟨y5, y6, ?_⟩
    rw [List.map_cons, List.map_cons, show F ++ bfN E (t - lpT 0 E) (f, w) :: P.map (bfN E (t - lpT 0 E)) = (F ++ [bfN E (t - lpT 0 E) (f, w)]) ++ P.map (bfN E (t - lpT 0 E)) by simp, ← ih]
    exact forLoop_step rfl bd
theorem cmp_b (x : Bool) (bs : List Bool) : cmpD .inn (.bl x) (.lst (bs.map D.bl)) = some (bs.contains x) ∧ cmpD .notin (.bl x) (.lst (bs.map D.bl)) = some (!bs.contains x) := by
  have hf : (bs.map D.bl).all flatD = true := by
    refine List.all_eq_true.mpr fun d m => ?_
    obtain ⟨e, _, rfl⟩ := List.mem_map.mp m
    rfl
  have h1 : flatD (.bl x) = true := rfl
  have e : ((bs.map D.bl).any fun y => eqd y (.bl x)) = bs.contains x := by
    induction bs with
    | nil => rfl
    | cons b bs ih =>
      rw [List.map_cons, List.any_cons, List.contains_cons, ih (by rw [List.map_cons, List.all_cons, Bool.and_eq_true] at hf; exact hf.2)]
      cases b <;> cases x <;> rfl
  constructor
  · simp only [cmpD, h1, hf, Bool.and_self, if_true, e]
  · simp only [cmpD, h1, hf, Bool.and_self, if_true, e]
def wordN (bs : List Bool) : Str := if bs.contains false then (if bs.contains true then "either" else "reject") else "pass"
theorem nx_gen (L : D) (top t : Int) (TS : List D) (P : List D) (B : List Bool) (y5 y6 : Sl)
    (cm : ev fsN (.comp [7, 8] (.tp [.nm 7, .nm 8]) .seq [.var 0] [] (.var 7)) [some (L, false), some (.int top, false), some (.int t, false), none, none, none, none, none, none] = some (.nw (.lst TS), [some (L, false), some (.int top, false), some (.int t, false), none, none, none, none, none, none]))
    (ef : F__law_fits [some (L, false), some (.int top, false)] = some (.nw (.lst P), [some (L, false), some (.int top, false)]))
    (lp : forLoop (.tp [.nm 5, .nm 6]) (exs fsN [] B__law_next_1) P (nxG L top t TS [] none none) = some (.nx (nxG L top t TS B y5 y6))) :
    F__law_next [some (L, false), some (.int top, false), some (.int t, false)] = some (.fz (.str (wordN B)), [some (L, false), some (.int top, false), some (.int t, false)]) := by
  obtain ⟨ci, cn⟩ := cmp_b false B
  obtain ⟨ti, _⟩ := cmp_b true B
  refine runF_pn (pn := []) (o := .rt (.fz (.str (wordN B))) (nxG L top t TS B y5 y6)) rfl rfl (?_ : exs _ [] _ [some (L, false), some (.int top, false), some (.int t, false), none, none, none, none, none, none] = _) rfl
  refine (exs_nx (Γ1 := nxG L top t TS [] none none) ?_).trans ?_
  · generalize DV.E.comp _ _ _ _ _ _ = CE at cm ⊢
    simp [DV.SC, DV.SE, DV.SX, cm, sizeLine]
  refine (exs_nx (ex_for (Γ2 := nxG L top t TS [] none none) (ds := P) (by simp [DV.SC, DV.SE, DV.SX, ef]) rfl lp)).trans ?_
  unfold wordN
  simp only [nxG]
  generalize B.map D.bl = FB at *
  generalize B.contains false = c0 at *
  generalize B.contains true = c1 at *
  cases c0
  · simp [DV.SC, DV.SX, cn, sizeLine]
  · cases c1 <;> simp [DV.SC, DV.SX, cn, ti, sizeLine]
theorem law_next_ok {E : List (Int × Bool)} (hE : E.length ≤ 100) (top : Nat) (t1 : 1 ≤ top) (ht : top ≤ 10000) (t : Int) :
    F__law_next [some (EL E, false), some (.int (top : Int), false), some (.int t, false)] = some (.fz (.str (wordN ((fitP E top).map (bfN E (t - lpT 0 E))))), [some (EL E, false), some (.int (top : Int), false), some (.int t, false)]) := by
  have ef := fits_ok E hE top t1 ht false
  rw [fitL_is] at ef
  have pl : (fitP E top).length ≤ 3000000 := by
    have : ∀ m a : Nat, ((List.range' a m).flatMap fun f => (wts E top f).map fun w => (f, w)).length ≤ m * top := fun m => by
      induction m with
      | zero => intro a; simp
      | succ m ih =>
        intro a
        rw [List.range'_succ, List.flatMap_cons, List.length_append, List.length_map, Nat.add_mul, Nat.one_mul]
        have := ih (a + 1)
        have wl : (wts E top a).length ≤ top := by
          unfold wts
          have := List.length_filter_le (fun w => decide (runB w a 0 (E.map (·.1)) = E)) ((List.range top).map fun (j : Nat) => (1 : Int) + (j : Int))
          rwa [List.length_map, List.length_range] at this
        omega
    have := this (E.length + 1) 1
    have l2 : (E.length + 1) * top ≤ 101 * 10000 := Nat.mul_le_mul (by omega) ht
    unfold fitP
    omega
  obtain ⟨y5, y6, lp⟩ := nx_loop hE (EL E) top t (fitP E top) [] none none (fun p m => by
    obtain ⟨a, _, b⟩ := fitP_mem m
    exact ⟨a, (wts_mem b).2.2⟩) (by simpa using pl)
  have cm := comp_gen (fs := fsN) (own := [7, 8]) (tg := .tp [.nm 7, .nm 8]) (ik := .seq) (its := [.var 0]) (cs := []) (elt := .var 7) (ds := E.map eD) (Γ0 := [some (EL E, false), some (.int (top : Int), false), some (.int t, false), none, none, none, none, none, none]) (Γ := [some (EL E, false), some (.int (top : Int), false), some (.int t, false), none, none, none, none, none, none]) (fun _ => true) (fun d => match d with | .tup [a, _] => a | d => d)
    (by unfold EL; generalize E.map eD = EE; simp [DV.SC, DV.SE, DV.SX]) rfl rfl rfl (by decide) (by rw [List.length_map]; omega) (fun d hd => by
      obtain ⟨e, _, rfl⟩ := List.mem_map.mp hd
      unfold EL
      generalize E.map eD = EE
      exact ⟨[some (.lst EE, false), some (.int (top : Int), false), some (.int t, false), none, none, none, none, some (.int e.1, false), some (.bl e.2, false)], by simp [DV.SC, DV.SE, DV.SX, eD], by simp [DV.SC, DV.SE, DV.SX], rfl, rfl, fun _ => ⟨.sl 7, by simp [DV.SC, DV.SE, DV.SX], by simp [DV.SC, DV.SE, DV.SX]⟩⟩)
  have el : ((E.map eD).filter fun _ => true).map (fun d => match d with | .tup [a, _] => a | d => d) = (E.map (·.1)).map D.int := by
    rw [List.filter_eq_self.mpr fun _ _ => rfl, List.map_map, List.map_map]
    rfl
  rw [el] at cm
  rw [List.nil_append] at lp
  exact nx_gen (EL E) top t _ _ _ y5 y6 cm ef lp

/-! ### the forecast is what the breakers do -/
theorem lp_bd : ∀ (E : List (Int × Bool)) (lo s : Int), RiseE lo E → s ≤ lo → s ≤ lpT s E ∧ lpT s E ≤ topE lo E
  | [], lo, s, _, h => ⟨Int.le_refl _, h⟩
  | (t, true) :: E, lo, s, ⟨h, r⟩, hs => by
    have h : lo < t := h
    obtain ⟨a, b⟩ := lp_bd E t t r (Int.le_refl _)
    show s ≤ lpT t E ∧ lpT t E ≤ topE t E
    omega
  | (t, false) :: E, lo, s, ⟨h, r⟩, hs => by
    have h : lo < t := h
    obtain ⟨a, b⟩ := lp_bd E t s r (by omega)
    show s ≤ lpT s E ∧ lpT s E ≤ topE t E
    omega
theorem lp_0 : ∀ {E : List (Int × Bool)}, RiseE (-1) E → 1 ≤ fpN E → 0 ≤ lpT 0 E ∧ lpT 0 E ≤ topE (-1) E
  | (t, true) :: E, ⟨h, r⟩, _ => by
    have h : -1 < t := h
    obtain ⟨a, b⟩ := lp_bd E t t r (Int.le_refl _)
    show 0 ≤ lpT t E ∧ lpT t E ≤ topE t E
    omega
  | (t, false) :: E, _, p => by simp [fpN] at p
  | [], _, p => by simp [fpN] at p
theorem con_t {P : List (Nat × Int)} {g : Nat × Int → Bool} {b : Bool} {p : Nat × Int} (m : p ∈ P) (h : g p = b) : (P.map g).contains b = true := by
  rw [List.contains_iff_mem]
  exact List.mem_map.mpr ⟨p, m, h⟩
theorem con_f {P : List (Nat × Int)} {g : Nat × Int → Bool} {b : Bool} (h : ∀ p ∈ P, g p ≠ b) : (P.map g).contains b = false := by
  rw [← Bool.not_eq_true, List.contains_iff_mem]
  intro m
  obtain ⟨p, m, e⟩ := List.mem_map.mp m
  exact h p m e
theorem word_eq {E : List (Int × Bool)} (ne : E ≠ []) (r : RiseE (-1) E) (h : okP E) {top : Nat} {t : Int} (h1 : (top : Int) = topE (-1) E + 40) (h2 : top ≤ 10000) (t0 : topE (-1) E < t) (t1 : t ≤ topE (-1) E + 15) :
    wordF (fpN E : Nat) (E.length : Nat) (bE E).1 (bE E).2 (t - lpT 0 E) = wordN ((fitP E top).map (bfN E (t - lpT 0 E))) := by
  obtain ⟨p, q⟩ := h
  obtain ⟨l0, l1⟩ := lp_0 r p
  have le := fpN_le E
  have lo1 : 1 ≤ (bE E).1 := (bdE_mono (E.drop (fpN E)) 1 1000000000000000000000000000000 (tmE E (fpN E - 1))).1
  have hi1 : (bE E).2 ≤ 1000000000000000000000000000000 := (bdE_mono (E.drop (fpN E)) 1 1000000000000000000000000000000 (tmE E (fpN E - 1))).2
  have ll := lo_le r p
  obtain ⟨d, hd⟩ : ∃ d, t - lpT 0 E = d := ⟨_, rfl⟩
  rw [hd]
  have d1 : 1 ≤ d := by omega
  have d2 : d < (top : Int) := by omega
  have mem : ∀ w, (bE E).1 ≤ w → w ≤ (bE E).2 → w ≤ (top : Int) → (fpN E, w) ∈ fitP E top := fun w a b c => mem_fitP p (by omega) (mem_wts (by omega) c ((fit_b p (by omega) (by omega)).mpr ⟨a, b⟩))
  unfold wordF wordN
  by_cases all : fpN E = E.length
  · have e : bE E = (1, 1000000000000000000000000000000) := by
      show bdE 1 1000000000000000000000000000000 (tmE E (fpN E - 1)) (E.drop (fpN E)) = _
      rw [all, List.drop_length]
      rfl
    rw [e] at mem ⊢
    have m1 := mem 1 (Int.le_refl _) (by show (1 : Int) ≤ _; decide) (by omega)
    have m2 := mem top (by show (1 : Int) ≤ _; omega) (by show (top : Int) ≤ 1000000000000000000000000000000; omega) (Int.le_refl _)
    rw [con_t (b := false) m2 (by unfold bfN; rw [decide_eq_false]; simp only; omega), con_t (b := true) m1 (by unfold bfN; rw [decide_eq_true]; simp only; omega), if_pos (.inl (by rw [all])), if_pos (by show d < 1000000000000000000000000000000; omega)]
    rfl
  · have only : ∀ x ∈ fitP E top, bfN E d x = decide (x.2 ≤ d) ∧ (bE E).1 ≤ x.2 ∧ x.2 ≤ (bE E).2 := fun x m => by
      obtain ⟨f1, _, hw⟩ := fitP_mem m
      obtain ⟨w1, w2, hf⟩ := wts_mem hw
      obtain ⟨_, a, c, z⟩ := fit_any ne f1 w1 (by omega) hf
      refine ⟨?_, a, c⟩
      have : ¬ E.length < x.1 := fun y => all (z (by omega))
      unfold bfN
      rw [decide_eq_decide]
      exact ⟨fun y => y.resolve_left this, .inr⟩
    have bf : ∀ w, bfN E d (fpN E, w) = decide (w ≤ d) := fun w => by
      unfold bfN
      rw [decide_eq_decide]
      simp only
      omega
    by_cases c1 : (bE E).1 ≤ d
    · rw [if_pos (.inr c1)]
      by_cases c2 : d < (bE E).2
      · rw [if_pos c2, con_t (b := false) (mem (d + 1) (by omega) (by omega) (by omega)) (by rw [bf, decide_eq_false (by omega)]), con_t (b := true) (mem (bE E).1 (Int.le_refl _) q (by omega)) (by rw [bf, decide_eq_true c1])]
        rfl
      · rw [if_neg c2, con_f (b := false) (fun x m => by
          obtain ⟨e, a, b⟩ := only x m
          rw [e, decide_eq_true (by omega)]
          decide)]
        rfl
    · rw [if_neg (by omega), con_t (b := false) (mem (bE E).1 (Int.le_refl _) q (by omega)) (by rw [bf, decide_eq_false c1]), con_f (b := true) (fun x m => by
          obtain ⟨e, a, b⟩ := only x m
          rw [e, decide_eq_false (by omega)]
          decide)]
      rfl
/-- the same behind an empty log -/
theorem word_nil (top : Nat) (d : Int) : wordN ((fitP [] top).map (bfN [] d)) = "pass" := by
  unfold wordN
  rw [con_f (b := false) (fun x m => by
    obtain ⟨f1, _, _⟩ := fitP_mem m
    unfold bfN
    rw [decide_eq_true (.inl (by show 0 < x.1; omega))]
    decide)]
  rfl

/-! ### wells -/
abbrev wl (a c k : Int) : D := .lst [.int a, .int c, .int k]
theorem lg_lt {b : Int} (h : b < 2 ^ 200) (h0 : 0 < b) : b.natAbs.log2 < 9000 := by
  have : b.natAbs ≠ 0 := by omega
  rw [Nat.log2_lt this]
  have e : b.natAbs < 2 ^ 200 := by omega
  exact Nat.lt_of_lt_of_le e (Nat.pow_le_pow_right (by decide) (by decide))
theorem mixed_ok (c k : Int) (h0 : 0 ≤ k) (h1 : k ≤ 2 ^ 40) : ∃ v, F__law_mixed [some (.int c, false), some (.int k, false)] = some (.fz (.int v), [some (.int c, false), some (.int k, false)]) := by
  have a1 : 0 ≤ c % 2147483629 := Int.emod_nonneg _ (by decide)
  have a2 : c % 2147483629 < 2147483629 := Int.emod_lt_of_pos _ (by decide)
  have b : (c % 2147483629 + 30011 * k + 7).natAbs < 2 ^ 64 := by omega
  generalize hx : (c % 2147483629 + 30011 * k + 7) = x at b
  have m1 : mulOk 30011 k = true := mulOk_l (by decide) (by decide)
  have m2 : mulOk (c / 2147483629 % 65537) (k + 5) = true := mulOk_l (by have := Int.emod_nonneg (c / 2147483629) (b := 65537) (by decide); omega) (by have := Int.emod_lt_of_pos (c / 2147483629) (b := 65537) (by decide); omega)
  have m3 : ∀ y z : Int, mulOk (y % 2147483587) z = true := fun y z => mulOk_l (by have := Int.emod_nonneg y (b := 2147483587) (by decide); omega) (by have := Int.emod_lt_of_pos y (b := 2147483587) (by decide); omega)
  have m4 : ∀ y z : Int, mulOk (y % 2147483563) z = true := fun y z => mulOk_l (by have := Int.emod_nonneg y (b := 2147483563) (by decide); omega) (by have := Int.emod_lt_of_pos y (b := 2147483563) (by decide); omega)
  have g1 : Nat.log2 2147483629 < 9000 := by decide +kernel
  have g2 : Nat.log2 1009 < 9000 := by decide +kernel
  have g3 : Nat.log2 2003 < 9000 := by decide +kernel
  simp [F__law_mixed, DV.SC, DV.SE, DV.SX, m1, m2, hx, b, m3, m4, g1, g2, g3]
theorem draw_ok (a c k m : Int) (h0 : 0 ≤ k) (h1 : k < 2 ^ 40) (m0 : 0 < m) (m1 : m < 2 ^ 200) : ∃ r a' k', F__law_draw [some (wl a c k, true), some (.int m, false)] = some (.fz (.int r), [some (wl a' c k', true), some (.int m, false)]) ∧ 0 ≤ r ∧ r < m ∧ 0 ≤ k' ∧ k' ≤ k + 1 := by
  have lg := lg_lt m1 m0
  have i0 : ∀ x y z : D, atI [x, y, z] 0 = some x := fun _ _ _ => rfl
  have i1 : ∀ x y z : D, atI [x, y, z] 1 = some y := fun _ _ _ => rfl
  have i2 : ∀ x y z : D, atI [x, y, z] 2 = some z := fun _ _ _ => rfl
  have j0 : ixN 3 0 = some 0 := rfl
  have j2 : ixN 3 2 = some 2 := rfl
  by_cases ha : 0 < a
  · refine ⟨a % m, a / m, k, ?_, Int.emod_nonneg _ (by omega), Int.emod_lt_of_pos _ m0, h0, by omega⟩
    simp [F__law_draw, DV.SC, DV.SE, DV.SX, ha, i0, i1, i2, j0, lg, m0]
  · obtain ⟨v, hv⟩ := mixed_ok c (k + 1) (by omega) (by omega)
    refine ⟨v % m, a, k + 1, ?_, Int.emod_nonneg _ (by omega), Int.emod_lt_of_pos _ m0, by omega, by omega⟩
    simp [F__law_draw, DV.SC, DV.SE, DV.SX, ha, i0, i1, i2, j2, lg, m0, hv]

theorem well_ok (c : Int) : ∃ a, F__law_well [some (.int c, false)] = some (.nw (wl a c 0), [some (.int c, false)]) := by
  by_cases h : 1000000000000000000 ≤ c
  · have m : mulOk c 1 = true := mulOk_r (by decide) (by decide)
    refine ⟨c, ?_⟩
    simp [F__law_well, DV.SC, DV.SE, DV.SX, h, m, sizeLine]
  · have m : mulOk c 0 = true := mulOk_r (by decide) (by decide)
    refine ⟨0, ?_⟩
    simp [F__law_well, DV.SC, DV.SE, DV.SX, h, m, sizeLine]
theorem one_ok (a c k : Int) (ds : List D) (fl : Bool) (h0 : 0 ≤ k) (h1 : k < 2 ^ 40) (m0 : 0 < ds.length) (m1 : ds.length < 2 ^ 60) : ∃ d a' k', F__law_one [some (wl a c k, true), some (.lst ds, fl)] = some (.fz d, [some (wl a' c k', true), some (.lst ds, fl)]) ∧ d ∈ ds ∧ 0 ≤ k' ∧ k' ≤ k + 1 := by
  obtain ⟨r, a', k', e, r0, r1, l0, l1⟩ := draw_ok a c k ds.length h0 h1 (by omega) (by omega)
  obtain ⟨j, rfl⟩ : ∃ j : Nat, r = j := ⟨r.toNat, by omega⟩
  have hj : j < ds.length := by omega
  refine ⟨ds[j], a', k', ?_, List.getElem_mem hj, l0, l1⟩
  have i1 : atI ds (j : Int) = some ds[j] := atI_nat (List.getElem?_eq_getElem hj)
  cases fl <;> simp [F__law_one, DV.SC, DV.SE, DV.SX, e, i1]

/-! ### a log seen -/
theorem run_fst (w : Int) : ∀ (ts : List Int) (l : Nat) (s : Int), (runB w l s ts).map (·.1) = ts
  | [], l, s => by cases l <;> rfl
  | t :: ts, l + 1, s => by rw [runB, List.map_cons, run_fst w ts]
  | t :: ts, 0, s => by
    rw [runB]
    split <;> rw [List.map_cons, run_fst w ts]
theorem rise_e : ∀ (E : List (Int × Bool)) (lo : Int), Rise lo (E.map (·.1)) → RiseE lo E
  | [], _, _ => trivial
  | (t, b) :: E, lo, ⟨h, r⟩ => ⟨h, rise_e E t r⟩
theorem top_le : ∀ (E : List (Int × Bool)) (lo B : Int), lo ≤ B → (∀ x ∈ E.map (·.1), x ≤ B) → topE lo E ≤ B
  | [], _, _, h, _ => h
  | (t, b) :: E, lo, B, h, q => top_le E t B (q t (by simp)) fun x m => q x (by rw [List.map_cons]; exact List.mem_cons_of_mem _ m)
theorem rise_lt : ∀ (ts : List Int) (lo t : Int), Rise lo (ts ++ [t]) → lo < t ∧ ∀ x ∈ ts, x < t
  | [], lo, t, h => ⟨h.1, fun x m => nomatch m⟩
  | y :: ts, lo, t, h => by
    have ih := rise_lt ts y t h.2
    have h1 : lo < y := h.1
    refine ⟨by omega, fun x m => ?_⟩
    rcases List.mem_cons.mp m with rfl | m
    · exact ih.1
    · exact ih.2 x m
theorem Rise.snoc : ∀ {lo t u : Int} {ts : List Int}, Rise lo (ts ++ [t]) → t < u → Rise lo (ts ++ [t, u])
  | lo, t, u, [], h, q => ⟨h.1, q, trivial⟩
  | lo, t, u, x :: ts, h, q => ⟨h.1, Rise.snoc (ts := ts) h.2 q⟩
theorem Rise.init : ∀ {lo t : Int} {ts : List Int}, Rise lo (ts ++ [t]) → Rise lo ts
  | lo, t, [], h => trivial
  | lo, t, x :: ts, h => ⟨h.1, Rise.init (ts := ts) h.2⟩
abbrev fsS : List FS := [F__law_draw, F__law_one, F__law_log]
abbrev sG (W : D) (u : Int) (x2 x3 : Sl) (ts : List Int) (t : Int) (x6 : Sl) : Ct := [some (W, true), some (.int u, false), x2, x3, some (.lst (ts.map D.int), true), some (.int t, false), x6]
theorem seen_loop (c u : Int) : ∀ (n : Nat) (lo a k t : Int) (ts : List Int) (x2 : Sl), 0 ≤ k → k + 2 * n < 2 ^ 40 → ts.length + n ≤ 1000 → Rise (-1) (ts ++ [t]) → t ≤ 2 + 10 * ts.length →
    ∃ a' k' t' ts' x2', forLoop (.nm 2) (exs fsS [0] B__law_seen_1) (rngD lo 1 n) (sG (wl a c k) u x2 none ts t none) = some (.nx (sG (wl a' c k') u x2' none ts' t' none)) ∧ 0 ≤ k' ∧ k' ≤ k + 2 * n ∧ Rise (-1) (ts' ++ [t']) ∧ t' ≤ 2 + 10 * ts'.length ∧ ts'.length = ts.length + n
  | 0, lo, a, k, t, ts, x2, h0, h1, hz, hr, hb => ⟨a, k, t, ts, x2, by simp [rngD, forLoop], h0, by omega, hr, hb, by simp⟩
  | n + 1, lo, a, k, t, ts, x2, h0, h1, hz, hr, hb => by
    obtain ⟨r1, a1, k1, e1, p1, q1, l1, b1⟩ := draw_ok a c k 9 h0 (by omega) (by decide) (by decide)
    obtain ⟨d, a2, k2, e2, p2, l2, b2⟩ := one_ok a1 c k1 [.int 1, .int 1, .int 2, .int (1 + r1)] true l1 (by omega) (by simp) (by simp)
    have hd : ∃ v : Int, d = .int v ∧ 1 ≤ v ∧ v ≤ 9 := by
      simp only [List.mem_cons, List.not_mem_nil, or_false] at p2
      rcases p2 with rfl | rfl | rfl | rfl
      · exact ⟨1, rfl, by decide, by decide⟩
      · exact ⟨1, rfl, by decide, by decide⟩
      · exact ⟨2, rfl, by decide, by decide⟩
      · exact ⟨1 + r1, rfl, by omega, by omega⟩
    obtain ⟨v, rfl, hv, hv2⟩ := hd
    have hlen : ts.length < 16777216 := by omega
    obtain ⟨a', k', t', ts', x2', e3, l3, b3, r3, t3, z3⟩ := seen_loop c u n (lo + 1) a2 k2 (t + v) (ts ++ [t]) (some (.int lo, false)) l2 (by omega) (by simp; omega) (by simpa using hr.snoc (u := t + v) (by omega)) (by simp; omega)
    refine ⟨a', k', t', ts', x2', ?_, l3, by omega, r3, t3, by simp at z3; omega⟩
    rw [rngD, ← e3]
    refine forLoop_step (Γ1 := sG (wl a c k) u (some (.int lo, false)) none ts t none) (by simp [DV.SC, DV.SE, DV.SX]) ?_
    simp [B__law_seen_1, DV.SC, DV.SE, DV.SX, e1, e2, hlen, sizeLine]
/-! ### a log seen, whole -/
abbrev sR (W : D) (R : List D) (x2 : Sl) (TS : D) (t : Int) (x6 : Sl) : Ct := [some (W, true), some (.int 8, false), x2, some (.lst R, true), some (TS, false), some (.int t, false), x6]
theorem sn_a (W : D) (x2 : Sl) (TS : D) (t : Int) : ex fsS [0] (.ite (.and (.cmp .ne (.var 3) (.lst [])) (.cmp .eq (.call 0 [.var 0, .cst (.int 3)]) (.cst (.int 0)))) [.asg (.nm 6) (.call 0 [.var 0, .bi .len [.var 3]]),
  .seti 3 (.var 6) (.tup [.ix (.ix (.var 3) (.var 6)) (.cst (.int 0)), .not (.ix (.ix (.var 3) (.var 6)) (.cst (.int 1)))])] []) (sR W [] x2 TS t none) = some (.nx (sR W [] x2 TS t none)) := by
  simp [DV.SC, DV.SE, DV.SX]
theorem sn_b (a c k a1 k1 r : Int) (R : List D) (x2 : Sl) (TS : D) (t : Int) (c1 : cmpD .ne (.lst R) (.lst []) = some true) (e1 : F__law_draw [some (wl a c k, true), some (.int 3, false)] = some (.fz (.int r), [some (wl a1 c k1, true), some (.int 3, false)])) (c2 : cmpD .eq (.int r) (.int 0) = some false) : ex fsS [0] (.ite (.and (.cmp .ne (.var 3) (.lst [])) (.cmp .eq (.call 0 [.var 0, .cst (.int 3)]) (.cst (.int 0)))) [.asg (.nm 6) (.call 0 [.var 0, .bi .len [.var 3]]),
  .seti 3 (.var 6) (.tup [.ix (.ix (.var 3) (.var 6)) (.cst (.int 0)), .not (.ix (.ix (.var 3) (.var 6)) (.cst (.int 1)))])] []) (sR (wl a c k) R x2 TS t none) = some (.nx (sR (wl a1 c k1) R x2 TS t none)) := by
  simp [DV.SC, DV.SX, c1, e1, c2, sizeLine]
theorem sn_c (a c k a1 k1 a2 k2 j u : Int) (b : Bool) (R R' : List D) (N : Int) (hN : (R.length : Int) = N) (x2 : Sl) (TS : D) (t : Int) (c1 : cmpD .ne (.lst R) (.lst []) = some true) (e1 : F__law_draw [some (wl a c k, true), some (.int 3, false)] = some (.fz (.int 0), [some (wl a1 c k1, true), some (.int 3, false)])) (c2 : cmpD .eq (.int 0) (.int 0) = some true)
    (e2 : F__law_draw [some (wl a1 c k1, true), some (.int N, false)] = some (.fz (.int j), [some (wl a2 c k2, true), some (.int N, false)])) (g : atI R j = some (.tup [.int u, .bl b])) (st : setD (.lst R) (.int j) (.tup [.int u, .bl !b]) = some (.lst R')) : ex fsS [0] (.ite (.and (.cmp .ne (.var 3) (.lst [])) (.cmp .eq (.call 0 [.var 0, .cst (.int 3)]) (.cst (.int 0)))) [.asg (.nm 6) (.call 0 [.var 0, .bi .len [.var 3]]),
  .seti 3 (.var 6) (.tup [.ix (.ix (.var 3) (.var 6)) (.cst (.int 0)), .not (.ix (.ix (.var 3) (.var 6)) (.cst (.int 1)))])] []) (sR (wl a c k) R x2 TS t none) = some (.nx (sR (wl a2 c k2) R' x2 TS t (some (.int j, false)))) := by
  have a0 : atI [D.int u, D.bl b] 0 = some (.int u) := rfl
  have a1 : atI [D.int u, D.bl b] 1 = some (.bl b) := rfl
  have st2 : Option.map (fun j => D.lst (R.set j (.tup [.int u, .bl !b]))) (ixN R.length j) = some (.lst R') := st
  simp [DV.SC, DV.SX, c1, e1, c2, e2, hN, g, a0, a1, st2, sizeLine]
theorem ne_e (E : List (Int × Bool)) (ne : E ≠ []) : cmpD .ne (.lst (E.map eD)) (.lst []) = some true := by
  have e12 : okB 12 (.lst []) = true := rfl
  have o := okB_e E
  unfold EL at o
  simp only [cmpD, o, e12, Bool.and_self, if_true, Option.some.injEq]
  have q : eqds (E.map eD) [] = decide (E = []) := eqds_e E []
  rw [decide_eq_false ne] at q
  show (!eqds (E.map eD) []) = true
  rw [q]
  rfl
theorem sn_ok (a c k : Int) (E : List (Int × Bool)) (hz : E.length ≤ 12) (x2 : Sl) (TS : D) (t : Int) (h0 : 0 ≤ k) (h1 : k < 2 ^ 30) : ∃ (a' k' : Int) (E' : List (Int × Bool)) (x6 : Sl), ex fsS [0] (.ite (.and (.cmp .ne (.var 3) (.lst [])) (.cmp .eq (.call 0 [.var 0, .cst (.int 3)]) (.cst (.int 0)))) [.asg (.nm 6) (.call 0 [.var 0, .bi .len [.var 3]]),
  .seti 3 (.var 6) (.tup [.ix (.ix (.var 3) (.var 6)) (.cst (.int 0)), .not (.ix (.ix (.var 3) (.var 6)) (.cst (.int 1)))])] []) (sR (wl a c k) (E.map eD) x2 TS t none) = some (.nx (sR (wl a' c k') (E'.map eD) x2 TS t x6)) ∧ 0 ≤ k' ∧ k' ≤ k + 2 ∧ E'.map (·.1) = E.map (·.1) := by
  by_cases ne : E = []
  · subst ne
    exact ⟨a, k, [], none, sn_a _ _ _ _, h0, by omega, rfl⟩
  · have c1 := ne_e E ne
    obtain ⟨r, a1, k1, e1, p1, q1, l1, b1⟩ := draw_ok a c k 3 h0 (by omega) (by decide) (by decide)
    by_cases hr : r = 0
    · subst hr
      have n1 : 1 ≤ E.length := by cases E with | nil => exact absurd rfl ne | cons => simp
      obtain ⟨j, a2, k2, e2, p2, q2, l2, b2⟩ := draw_ok a1 c k1 (E.length : Int) l1 (by omega) (by omega) (by omega)
      obtain ⟨n, rfl⟩ : ∃ n : Nat, j = n := ⟨j.toNat, by omega⟩
      have hj : n < E.length := by omega
      have hj2 : n < (E.map eD).length := by rw [List.length_map]; exact hj
      have g : atI (E.map eD) (n : Int) = some (.tup [.int E[n].1, .bl E[n].2]) := by
        refine atI_nat ?_
        rw [List.getElem?_eq_getElem hj2, List.getElem_map]
      have st : setD (.lst (E.map eD)) (.int (n : Int)) (.tup [.int E[n].1, .bl !E[n].2]) = some (.lst ((E.set n (E[n].1, !E[n].2)).map eD)) := by
        have : ixN (E.map eD).length (n : Int) = some n := by
          simp [ixN]
          omega
        rw [setD, this, List.map_set]
        rfl
      refine ⟨a2, k2, E.set n (E[n].1, !E[n].2), _, sn_c a c k a1 k1 a2 k2 (n : Int) _ _ (E.map eD) _ (E.length : Int) (by rw [List.length_map]) x2 TS t c1 e1 rfl e2 g st, l2, by omega, ?_⟩
      rw [List.map_set]
      show (E.map (·.1)).set n E[n].1 = _
      have : E[n].1 = (E.map (·.1))[n]'(by rw [List.length_map]; exact hj) := by rw [List.getElem_map]
      rw [this, List.set_getElem_self]
    · refine ⟨a1, k1, E, none, sn_b a c k a1 k1 r (E.map eD) x2 TS t c1 e1 ?_, l1, by omega, rfl⟩
      have : cmpD .eq (.int r) (.int 0) = some (decide (r = 0)) := by simp [DV.SC, DV.SE, DV.SX]; rfl
      rw [this, decide_eq_false hr]
theorem seen_ok (a c k : Int) (h0 : 0 ≤ k) (h1 : k < 2 ^ 25) : ∃ (a' k' : Int) (E : List (Int × Bool)), F__law_seen [some (wl a c k, true), some (.int 8, false)] = some (.nw (EL E), [some (wl a' c k', true), some (.int 8, false)]) ∧ 0 ≤ k' ∧ k' ≤ k + 40 ∧ RiseE (-1) E ∧ E.length ≤ 12 ∧ topE (-1) E ≤ 9000 := by
  obtain ⟨r1, a1, k1, e1, p1, q1, l1, b1⟩ := draw_ok a c k 3 h0 (by omega) (by decide) (by decide)
  obtain ⟨r2, a2, k2, e2, p2, q2, l2, b2⟩ := draw_ok a1 c k1 9 l1 (by omega) (by decide) (by decide)
  obtain ⟨n, rfl⟩ : ∃ n : Nat, r2 = n := ⟨r2.toNat, by omega⟩
  obtain ⟨a3, k3, t, ts, x2, e3, l3, b3, r3, t3, z3⟩ := seen_loop c 8 n 0 a2 k2 r1 [] none l2 (by omega) (by simp; omega) ⟨by omega, trivial⟩ (by simp; omega)
  have z3 : ts.length = n := by simpa using z3
  obtain ⟨r4, a4, k4, e4, p4, q4, l4, b4⟩ := draw_ok a3 c k3 5 l3 (by omega) (by decide) (by decide)
  obtain ⟨r5, a5, k5, e5, p5, q5, l5, b5⟩ := draw_ok a4 c k4 12 l4 (by omega) (by decide) (by decide)
  obtain ⟨f, hf⟩ : ∃ f : Nat, (f : Int) = 1 + r4 := ⟨(1 + r4).toNat, by omega⟩
  have le := law_log_ok f (1 + r5) (by omega) ts (by omega) true
  rw [hf] at le
  have rl := run_fst (1 + r5) ts f 0
  generalize runB (1 + r5) f 0 ts = E0 at le rl
  have ll : E0.length = ts.length := by rw [← rl, List.length_map]
  obtain ⟨a6, k6, E, x6, e6, l6, b6, hE⟩ := sn_ok a5 c k5 E0 (by omega) x2 (.lst (ts.map D.int)) t l5 (by omega)
  have lE : E.length = ts.length := by
    have := congrArg List.length hE
    simpa [ll] using this
  rw [rl] at hE
  have rr : Rise (-1) ts := r3.init
  refine ⟨a6, k6, E, ?_, l6, by omega, rise_e E (-1) (by rw [hE]; exact rr), by omega, top_le E (-1) 9000 (by decide) fun x m => ?_⟩
  · have hn := fun Γ => rngN1 Γ n (by omega)
    unfold EL
    generalize E.map eD = RE at *
    generalize E0.map eD = R0 at *
    generalize hTS : ts.map D.int = TS at *
    refine runF_by (o := .rt (.sl 3) (sR (wl a6 c k6) RE x2 (.lst TS) t x6)) rfl (?_ : exs _ [0] _ [some (wl a c k, true), some (.int 8, false), none, none, none, none, none] = _) rfl
    refine (exs_nx (Γ1 := [some (wl a1 c k1, true), some (.int 8, false), none, none, some (.lst [], true), some (.int r1, false), none]) (by simp [DV.SC, DV.SE, DV.SX, e1])).trans ?_
    refine (exs_nx (ex_for (Γ2 := [some (wl a2 c k2, true), some (.int 8, false), none, none, some (.lst [], true), some (.int r1, false), none]) (ds := rngD 0 1 n) (by simp [DV.SC, DV.SE, DV.SX, e2, hn]) rfl e3)).trans ?_
    refine (exs_nx (Γ1 := sR (wl a5 c k5) R0 x2 (.lst TS) t none) (by unfold sG; rw [hTS]; simp [DV.SC, DV.SE, DV.SX, e4, e5, le, sizeLine])).trans ?_
    refine (exs_nx e6).trans ?_
    simp [DV.SC, DV.SE, DV.SX]
  · rw [hE] at m
    have := (rise_lt ts (-1) t r3).2 x m
    omega
theorem topE_app (B : List (Int × Bool)) (e : Int × Bool) : ∀ lo, topE lo (B ++ [e]) = e.1 := by
  induction B with
  | nil => intro lo; rfl
  | cons x B ih => intro lo; exact ih x.1
/-- what is told of it -/
theorem said_log (j : Int) : SD__law_said 15 ["at"] [.int j] = some (.tup [.str "log", .int j]) := by
  have i0 : ∀ a b c d e f : D, atI [a, b, c, d, e, f] 0 = some a := fun _ _ _ _ _ _ => rfl
  have i1 : ∀ a b c d e f : D, atI [a, b, c, d, e, f] 1 = some b := fun _ _ _ _ _ _ => rfl
  have i2 : ∀ a b c d e f : D, atI [a, b, c, d, e, f] 2 = some c := fun _ _ _ _ _ _ => rfl
  have i3 : ∀ a b c d e f : D, atI [a, b, c, d, e, f] 3 = some d := fun _ _ _ _ _ _ => rfl
  have i5 : ∀ a b c d e f : D, atI [a, b, c, d, e, f] 5 = some f := fun _ _ _ _ _ _ => rfl
  simp [SD__law_said, saidX, IS__law_said, IQ__law_said, DV.SC, DV.SE, DV.SX, xisD, xfldD, fldL, plainG, retD, fre, DV.ev.eq_42, DV.ev.eq_43, sizeLine, i0, i1, i2, i3, i5]
  exact ⟨rfl, rfl, rfl⟩
/-! ### right -/
abbrev fsR : List FS := [F__law_seen, F__law_conflict, F_first_conflict, F__law_draw, F_forecast_x, F_forecast, F__law_next]
abbrev rG (W : D) (x1 x2 x3 x4 x5 x6 : Sl) : Ct := [some (W, true), x1, x2, x3, x4, x5, x6]
section
variable (W : D) (x1 x2 x3 x4 x5 x6 : Sl)
theorem r1 (W1 : D) (L : List D) (e : F__law_seen [some (W, true), some (.int 8, false)] = some (.nw (.lst L), [some (W1, true), some (.int 8, false)])) :
    ex fsR [0] (.asg (.nm 1) (.call 0 [.var 0, .cst (.int 8)])) (rG W x1 x2 x3 x4 x5 x6) = some (.nx (rG W1 (some (.lst L, false)) x2 x3 x4 x5 x6)) := by
  simp [DV.SC, DV.SE, DV.SX, e]
theorem r2 {E : List (Int × Bool)} {T : Int} (hT : T = if E = [] then 0 else topE (-1) E) :
    ex fsR [0] (.asg (.nm 2) (.ite (.cmp .ne (.var 1) (.lst [])) (.ix (.ix (.var 1) (.neg (.cst (.int 1)))) (.cst (.int 0))) (.cst (.int 0)))) (rG W (some (EL E, false)) x2 x3 x4 x5 x6) = some (.nx (rG W (some (EL E, false)) (some (.int T, false)) x3 x4 x5 x6)) := by
  rcases eq_or_snoc E with rfl | ⟨A, e, rfl⟩
  · rw [if_pos rfl] at hT
    have c0 : cmpD .ne (.lst []) (.lst []) = some false := cmp_ne_self rfl
    subst hT
    show ex _ _ _ (rG W (some (.lst [], false)) x2 x3 x4 x5 x6) = _
    simp [DV.SC, DV.SX, c0, sizeLine]
  · have ne : A ++ [e] ≠ [] := by simp
    rw [if_neg ne, topE_app] at hT
    subst hT
    have c0 := (cn_e ne).2
    have al : ixD (.lst ((A ++ [e]).map eD)) (.int (-1)) = some (.tup [.int e.1, .bl e.2]) := by
      rw [List.map_append]
      exact at_lastE _ _
    unfold EL
    generalize D.lst ((A ++ [e]).map eD) = L at *
    simp [DV.SC, DV.SX, c0, al, e2_0, sizeLine]
theorem r3 (T : Int) : ex fsR [0] (.asgO 3 (.bin .add (.var 2) (.cst (.int 40)))) (rG W x1 (some (.int T, false)) x3 x4 x5 x6) = some (.nx (rG W x1 (some (.int T, false)) (some (.int (T + 40), false)) x4 x5 x6)) := by
  simp [DV.SC, DV.SE, DV.SX]
theorem r4 (L C : D) (top : Int) (e : F__law_conflict [some (L, false), some (.int top, false)] = some (.fz C, [some (L, false), some (.int top, false)])) :
    ex fsR [0] (.asg (.nm 4) (.call 1 [.var 1, .var 3])) (rG W (some (L, false)) x2 (some (.int top, false)) x4 x5 x6) = some (.nx (rG W (some (L, false)) x2 (some (.int top, false)) (some (C, false)) x5 x6)) := by
  simp [DV.SC, DV.SE, DV.SX, e]
theorem r5 (L C : D) (hc : cmpD .ne C C = some false) (e : F_first_conflict [some (L, false)] = some (.fz C, [some (L, false)])) :
    ex fsR [0] (.ite (.cmp .ne (.call 2 [.var 1]) (.var 4)) [.ret (.cst (.bl false))] []) (rG W (some (L, false)) x2 x3 (some (C, false)) x5 x6) = some (.nx (rG W (some (L, false)) x2 x3 (some (C, false)) x5 x6)) := by
  simp [DV.SC, DV.SX, e, hc]
/-- a later time, where no breaker explains the log -/
theorem b_yes (L : D) (T i m : Int) (e : F_forecast_x [some (L, false), some (.int (T + m), false)] = some (.fz (.exc 15 ["at"] [.int i]), [none, none])) :
    exs fsR [0] B__law_right_1 (rG W (some (L, false)) (some (.int T, false)) x3 (some (.int i, false)) (some (.int m, false)) x6) = some (.nx (rG W (some (L, false)) (some (.int T, false)) x3 (some (.int i, false)) (some (.int m, false)) (some (.int (T + m), false)))) := by
  have cn : cmpD .ne (.tup [.str "log", .int i]) (.tup [.str "log", .int i]) = some false := cmp_ne_self (by simp [okB]; try decide +kernel)
  have sl := said_log i
  have c1 : cmpD .isnot (.int i) .non = some true := rfl
  have c2 : cmpD .is (.int i) .non = some false := rfl
  simp [B__law_right_1, DV.SC, DV.SX, c1, c2, e, saidD, sl, cn, sizeLine, DV.ev.eq_44]
theorem b_no (L : D) (T top m : Int) (s : Str) (hs : PyData.strOk s = true) (e1 : F_forecast [some (L, false), some (.int (T + m), false)] = some (.fz (.str s), [some (L, false), some (.int (T + m), false)]))
    (e2 : F__law_next [some (L, false), some (.int top, false), some (.int (T + m), false)] = some (.fz (.str s), [some (L, false), some (.int top, false), some (.int (T + m), false)])) :
    exs fsR [0] B__law_right_1 (rG W (some (L, false)) (some (.int T, false)) (some (.int top, false)) (some (.non, false)) (some (.int m, false)) x6) = some (.nx (rG W (some (L, false)) (some (.int T, false)) (some (.int top, false)) (some (.non, false)) (some (.int m, false)) (some (.int (T + m), false)))) := by
  have cn : cmpD .ne (.str s) (.str s) = some false := cmp_ne_self (by simp [okB, hs])
  have c1 : cmpD .isnot .non .non = some false := rfl
  have c2 : cmpD .is .non .non = some true := rfl
  simp [B__law_right_1, DV.SC, DV.SX, c1, c2, e1, e2, cn]
theorem i6 (W1 W2 : D) (q1 q2 : Int) (e1 : F__law_draw [some (W, true), some (.int 4, false)] = some (.fz (.int q1), [some (W1, true), some (.int 4, false)])) (e2 : F__law_draw [some (W1, true), some (.int 9, false)] = some (.fz (.int q2), [some (W2, true), some (.int 9, false)])) :
    (evs fsR [.tup [.cst (.int 1), .cst (.int 2), .bin .add (.cst (.int 3)) (.call 3 [.var 0, .cst (.int 4)]), .bin .add (.cst (.int 7)) (.call 3 [.var 0, .cst (.int 9)])]] (rG W x1 x2 x3 x4 x5 x6)).bind (fun q => iterD .seq q.1 q.2) = some ([.int 1, .int 2, .int (3 + q1), .int (7 + q2)], rG W2 x1 x2 x3 x4 x5 x6) := by
  simp [DV.SC, DV.SE, DV.SX, e1, e2, sizeLine]
end

/-! ### right, the law -/
theorem word_str (b : Prop) [Decidable b] (n N lo hi d : Int) : PyData.strOk (if b then ("pass" : Str) else wordF n N lo hi d) = true := by
  unfold wordF
  split
  · decide +kernel
  · split
    · split <;> decide +kernel
    · decide +kernel
theorem later_ok {E : List (Int × Bool)} (r : RiseE (-1) E) (hz : E.length ≤ 12) (W : D) (T : Int) (top : Nat) (c : Option Int) (hT : T = if E = [] then 0 else topE (-1) E) (T1 : T ≤ 9000) (ht : (top : Int) = T + 40) (h : Cf E c) (m : Int) (m1 : 1 ≤ m) (m2 : m ≤ 15) (x6 : Sl) :
    exs fsR [0] B__law_right_1 (rG W (some (EL E, false)) (some (.int T, false)) (some (.int top, false)) (some (cD c, false)) (some (.int m, false)) x6) = some (.nx (rG W (some (EL E, false)) (some (.int T, false)) (some (.int top, false)) (some (cD c, false)) (some (.int m, false)) (some (.int (T + m), false)))) := by
  have tt := rise_top E (-1) r
  have T0 : 0 ≤ T := by
    by_cases ne : E = []
    · rw [if_pos ne] at hT; omega
    · rw [if_neg ne] at hT
      have : 0 < E.length := List.length_pos_iff.mpr ne
      have := rise_get E (-1) r 0 this
      omega
  have hL : ∀ B e, E = B ++ [e] → e.1 < T + m := fun B e he => by
    rw [if_neg (by rw [he]; simp), he, topE_app] at hT
    omega
  cases c with
  | some i => exact b_yes W _ _ (EL E) T i m (forecast_no r (by omega) h (by omega) hL)
  | none =>
    have e1 := forecast_is r (by omega) h (by omega) hL
    have e2 := law_next_ok (by omega) top (by omega) (by omega) (T + m) (E := E)
    have ew : wordN ((fitP E top).map (bfN E (T + m - lpT 0 E))) = (if E = [] then ("pass" : Str) else wordF (fpN E : Nat) (E.length : Nat) (bE E).1 (bE E).2 (T + m - lpT 0 E)) := by
      by_cases ne : E = []
      · subst ne
        rw [if_pos rfl]
        exact word_nil top _
      · rw [if_neg ne]
        rw [if_neg ne] at hT
        exact (word_eq ne r (cf_full h ne) (by omega) (by omega) (by omega) (by omega)).symm
    rw [ew] at e2
    exact b_no W _ (EL E) T top m _ (word_str _ _ _ _ _ _) e1 e2
theorem right_ok (a c : Int) {k0 : Int} (h0 : 0 ≤ k0) (h1 : k0 < 2 ^ 20) : ∃ W', F__law_right [some (wl a c k0, true)] = some (.fz (.bl true), [some (W', true)]) := by
  obtain ⟨a1, k1, E, e1, l1, b1, r, hz, hT9⟩ := seen_ok a c k0 h0 (by omega)
  obtain ⟨T, hT⟩ : ∃ T : Int, T = if E = [] then 0 else topE (-1) E := ⟨_, rfl⟩
  have tt := rise_top E (-1) r
  have T0 : 0 ≤ T ∧ T ≤ 9000 ∧ topE (-1) E ≤ T := by
    by_cases ne : E = []
    · rw [if_pos ne] at hT
      subst ne
      have : topE (-1) [] = -1 := rfl
      omega
    · rw [if_neg ne] at hT
      have : 0 < E.length := List.length_pos_iff.mpr ne
      have := rise_get E (-1) r 0 this
      omega
  obtain ⟨top, ht⟩ : ∃ top : Nat, (top : Int) = T + 40 := ⟨(T + 40).toNat, by omega⟩
  obtain ⟨cc, e4, h⟩ := law_conflict_ok r (by omega) top (by omega) (by omega) (by omega)
  have e5 := first_conflict_ok E r (by omega) h false
  have cn : cmpD .ne (cD cc) (cD cc) = some false := cmp_ne_self (by cases cc <;> rfl)
  obtain ⟨q1, a2, k2, e6, p0, p1, l2, b2⟩ := draw_ok a1 c k1 4 l1 (by omega) (by decide) (by decide)
  obtain ⟨q2, a3, k3, e7, q0, q3, l3, b3⟩ := draw_ok a2 c k2 9 l2 (by omega) (by decide) (by decide)
  have s1 := r1 (wl a c k0) none none none none none none (wl a1 c k1) (E.map eD) e1
  have s2 := r2 (wl a1 c k1) none none none none none hT
  have s3 := r3 (wl a1 c k1) (some (EL E, false)) none none none none T
  rw [← ht] at s3
  have s4 := r4 (wl a1 c k1) (some (.int T, false)) none none none (EL E) (cD cc) top e4
  have s5 := r5 (wl a1 c k1) (some (.int T, false)) (some (.int top, false)) none none (EL E) (cD cc) cn e5
  have s6 := i6 (wl a1 c k1) (some (EL E, false)) (some (.int T, false)) (some (.int top, false)) (some (cD cc, false)) none none (wl a2 c k2) (wl a3 c k3) q1 q2 e6 e7
  have bd := later_ok r hz (wl a3 c k3) T top cc hT T0.2.1 ht h
  have lp : forLoop (.nm 5) (exs fsR [0] B__law_right_1) [.int 1, .int 2, .int (3 + q1), .int (7 + q2)] (rG (wl a3 c k3) (some (EL E, false)) (some (.int T, false)) (some (.int top, false)) (some (cD cc, false)) none none) = some (.nx (rG (wl a3 c k3) (some (EL E, false)) (some (.int T, false)) (some (.int top, false)) (some (cD cc, false)) (some (.int (7 + q2), false)) (some (.int (T + (7 + q2)), false)))) := by
    rw [forLoop_step rfl (bd 1 (by decide) (by decide) _), forLoop_step rfl (bd 2 (by decide) (by decide) _), forLoop_step rfl (bd (3 + q1) (by omega) (by omega) _), forLoop_step rfl (bd (7 + q2) (by omega) (by omega) _)]
    simp only [forLoop]
  refine ⟨wl a3 c k3, ?_⟩
  refine runF_by (o := .rt (.fz (.bl true)) (rG (wl a3 c k3) (some (EL E, false)) (some (.int T, false)) (some (.int top, false)) (some (cD cc, false)) (some (.int (7 + q2), false)) (some (.int (T + (7 + q2)), false)))) rfl (?_ : exs _ [0] _ (rG (wl a c k0) none none none none none none) = _) rfl
  refine (exs_nx s1).trans ?_
  refine (exs_nx s2).trans ?_
  refine (exs_nx s3).trans ?_
  refine (exs_nx s4).trans ?_
  refine (exs_nx s5).trans ?_
  refine (exs_nx (ex_for s6 rfl lp)).trans ?_
  exact exs_rt (by simp only [DV.ex.eq_13, DV.ev.eq_3, Option.map_some])
abbrev lwG (S : D) (x1 : Sl) : Ct := [some (S, false), x1]
theorem law_body (S : D) (c : Int) : exs [F__law_well, F__law_right] [] B_law_1 (lwG S (some (.int c, false))) = some (.nx (lwG S (some (.int c, false)))) := by
  obtain ⟨a, e1⟩ := well_ok c
  obtain ⟨W', e2⟩ := right_ok a c (k0 := 0) (by decide) (by decide)
  generalize wl a c 0 = W0 at *
  simp [B_law_1, DV.SC, DV.SE, DV.SX, e1, e2]
theorem law_loop (S : D) : ∀ (cs : List Int) (x1 : Sl), ∃ y1, forLoop (.nm 1) (exs [F__law_well, F__law_right] [] B_law_1) (cs.map D.int) (lwG S x1) = some (.nx (lwG S y1))
  | [], x1 => ⟨x1, by simp [forLoop]⟩
  | c :: cs, x1 => by
    obtain ⟨y1, e2⟩ := law_loop S cs (some (.int c, false))
    refine ⟨y1, ?_⟩
    rw [List.map_cons, ← e2]
    exact forLoop_step (Γ1 := lwG S (some (.int c, false))) (by simp [DV.SC, DV.SE, DV.SX]) (law_body S c)
theorem law_true (ns : List Int) (hl : ns.length ≤ 63) (hb : ∀ z ∈ ns, Builtin.Int.intBits z ≤ 1048576) : ∃ os, F_law [some (.scr ns, false)] = some (.fz (.bl true), os) := by
  obtain ⟨cs, e1, l1⟩ : ∃ cs : List Int, cutD (ns.map D.int) none (some 3) = cs.map D.int ∧ cs.length ≤ 3 := by
    refine ⟨ns.take 3, ?_, by rw [List.length_take]; omega⟩
    show cutD (ns.map D.int) none (some ((3 : Nat) : Int)) = _
    rw [cut_to, List.map_take]
  obtain ⟨y1, e⟩ := law_loop (.scr ns) (cs ++ [0]) none
  rw [List.map_append] at e
  refine ⟨[some (.scr ns, false)], ?_⟩
  refine runF_by (o := .rt (.fz (.bl true)) (lwG (.scr ns) y1)) rfl (?_ : exs _ [] _ (lwG (.scr ns) none) = _) rfl
  have hz : cs.length + 1 ≤ 16777216 := by omega
  refine (exs_nx (ex_for (Γ2 := lwG (.scr ns) none) (ds := cs.map D.int ++ [D.int 0]) (by simp [DV.SC, DV.SE, DV.SX, e1, hz, sizeLine]) rfl e)).trans (by simp [DV.SC, DV.SE, DV.SX])

end L
open PySem PySem.W PyProof.Rows
set_option maxHeartbeats 0 in
theorem PySem.Challenge.cw_breakerrow_k47_conflicts_and_forecasts_holds : PySem.Challenge.rw_breakerrow_k47_conflicts_and_forecasts.Holds := by
  refine L_top ?_
  k_fill
  refine DV.walkT (l := PySem.Challenge.rw_breakerrow_k47_conflicts_and_forecasts) (n := 63) (k := 10) (x := "_law_script") (CX := fun _ => L2.CX0) rfl (by decide) rfl ⟨rfl, by decide, by decide⟩ (fun w h Y => PySem.W.kIn_of Y) ?F (fun _ _ _ _ _ h => h)
  case F =>
    intro w mg mb mean fa h TP KX hmg
    refine' L.all_mk KX TP hmg (fun ns hl hb => L.law_true ns hl hb) ?aC8 ?aC9 ?aC10 ?aC11 ?aC12 ?aC13 ?aC14 ?aC15 ?aC16 ?aC17 ?aC18 ?a0 ?l0 ?e0 ?k0 ?a1 ?l1 ?e1 ?k1 ?a2 ?l2 ?e2 ?k2 ?a3 ?l3 ?e3 ?k3 ?a4 ?l4 ?e4 ?k4 ?a5 ?l5 ?e5 ?k5 ?a6 ?l6 ?e6 ?k6 ?a7 ?l7 ?e7 ?k7 ?a8 ?l8 ?e8 ?k8 ?a9 ?l9 ?e9 ?k9 ?a10 ?l10 ?e10 ?k10 ?a11 ?l11 ?e11 ?k11 ?a12 ?l12 ?e12 ?k12 ?a13 ?l13 ?e13 ?k13 ?a14 ?i14 ?l14 ?e14 ?ti14 ?k14 ?a15 ?l15 ?e15 ?k15 ?a16 ?i16 ?l16 ?e16 ?ti16 ?k16 ?a17 ?l17 ?e17 ?k17 ?a18 ?l18 ?e18 ?k18 ?a19 ?l19 ?e19 ?k19 ?a20 ?l20 ?e20 ?k20 ?a21 ?l21 ?e21 ?tb21 ?np21 ?rc21 ?k21 ?a22 ?l22 ?e22 ?k22 ?z_ArithmeticError ?z_bool ?z_enumerate ?z_int ?z_isinstance ?z_len ?z_list ?z_max ?z_min ?z_range ?z_tuple ?g_MOST_ENTRIES ?g_MOST_WAIT ?qin15 ?qov15 ?qhd15 ?qsa15 ?qsb15 ?qty15 ?qkc15 ?qtg8 ?qrd8 ?qat8 ?tx_InvalidLog_at ?qin10 ?qov10 ?qhd10 ?qsa10 ?qsb10 ?qty10 ?qkc10 ?tx_InvalidTime_time ?qcl15 ?qga15 ?qgt15 ?qha15 ?qhn ?qtk ?qhm15 ?xk_InvalidLog_InvalidRow ?qcl10 ?qga10 ?qgt10 ?qha10 ?qhm10 ?xk_InvalidTime_InvalidRow ?xk_InvalidLog_InvalidTime ?xk_InvalidTime_InvalidTime ?xk_InvalidLog_InvalidOutages ?xk_InvalidTime_InvalidOutages ?xk_InvalidLog_InvalidIndex ?xk_InvalidTime_InvalidIndex ?xk_InvalidLog_InvalidBound ?xk_InvalidTime_InvalidBound ?xk_InvalidLog_InvalidLog ?xk_InvalidTime_InvalidLog ?xt_InvalidLog__InvalidTrains_InvalidCall_InvalidText_LimitExceeded ?xt_InvalidTime__InvalidTrains_InvalidCall_InvalidText_LimitExceeded ?xk_InvalidLog_ArithmeticError ?xk_InvalidTime_ArithmeticError ?xn_InvalidLog_at ?xm_InvalidLog_BreakerError ?xm_InvalidTime_BreakerError
    (case aC8 => k_is)
    (case aC9 => k_is)
    (case aC10 => k_is)
    (case aC11 => k_is)
    (case aC12 => k_is)
    (case aC13 => k_is)
    (case aC14 => k_is)
    (case aC15 => k_is)
    (case aC16 => k_is)
    (case aC17 => k_is)
    (case aC18 => k_is)
    (case a0 => k_is)
    (case l0 => k_is)
    (case e0 => k_is)
    (case k0 => k_is)
    (case a1 => k_is)
    (case l1 => k_is)
    (case e1 => k_is)
    (case k1 => k_is)
    (case a2 => k_is)
    (case l2 => k_is)
    (case e2 => k_is)
    (case k2 => k_is)
    (case a3 => k_is)
    (case l3 => k_is)
    (case e3 => k_is)
    (case k3 => k_is)
    (case a4 => k_is)
    (case l4 => k_is)
    (case e4 => k_is)
    (case k4 => k_is)
    (case a5 => k_is)
    (case l5 => k_is)
    (case e5 => k_is)
    (case k5 => k_is)
    (case a6 => k_is)
    (case l6 => k_is)
    (case e6 => k_is)
    (case k6 => k_is)
    (case a7 => k_is)
    (case l7 => k_is)
    (case e7 => k_is)
    (case k7 => k_is)
    (case a8 => k_is)
    (case l8 => k_is)
    (case e8 => k_is)
    (case k8 => k_is)
    (case a9 => k_is)
    (case l9 => k_is)
    (case e9 => k_is)
    (case k9 => k_is)
    (case a10 => k_is)
    (case l10 => k_is)
    (case e10 => k_is)
    (case k10 => k_is)
    (case a11 => k_is)
    (case l11 => k_is)
    (case e11 => k_is)
    (case k11 => k_is)
    (case a12 => k_is)
    (case l12 => k_is)
    (case e12 => k_is)
    (case k12 => k_is)
    (case a13 => k_is)
    (case l13 => k_is)
    (case e13 => k_is)
    (case k13 => k_is)
    (case a14 => k_is)
    (case i14 => k_is)
    (case l14 => k_is)
    (case e14 => k_is)
    (case ti14 => k_is)
    (case k14 => k_is)
    (case a15 => k_is)
    (case l15 => k_is)
    (case e15 => k_is)
    (case k15 => k_is)
    (case a16 => k_is)
    (case i16 => k_is)
    (case l16 => k_is)
    (case e16 => k_is)
    (case ti16 => k_is)
    (case k16 => k_is)
    (case a17 => k_is)
    (case l17 => k_is)
    (case e17 => k_is)
    (case k17 => k_is)
    (case a18 => k_is)
    (case l18 => k_is)
    (case e18 => k_is)
    (case k18 => k_is)
    (case a19 => k_is)
    (case l19 => k_is)
    (case e19 => k_is)
    (case k19 => k_is)
    (case a20 => k_is)
    (case l20 => k_is)
    (case e20 => k_is)
    (case k20 => k_is)
    (case a21 => k_is)
    (case l21 => k_is)
    (case e21 => k_is)
    (case tb21 => (refine' DV.tabIn_of ?ta ?tb ?tc ?td ?te; (case ta => k_is); (case tb => k_is); (case tc => rfl); (case td => k_is); (case te => rfl)))
    (case np21 => kernel_rfl)
    (case rc21 => rfl)
    (case k21 => k_is)
    (case a22 => k_is)
    (case l22 => k_is)
    (case e22 => k_is)
    (case k22 => k_is)
    (case z_ArithmeticError => k_is)
    (case z_bool => k_is)
    (case z_enumerate => k_is)
    (case z_int => k_is)
    (case z_isinstance => k_is)
    (case z_len => k_is)
    (case z_list => k_is)
    (case z_max => k_is)
    (case z_min => k_is)
    (case z_range => k_is)
    (case z_tuple => k_is)
    (case g_MOST_ENTRIES => k_is)
    (case g_MOST_WAIT => k_is)
    (case qin15 => kx_is)
    (case qov15 => kx_is)
    (case qhd15 => k_is)
    (case qsa15 => k_is)
    (case qsb15 => k_is)
    (case qty15 => k_is)
    (case qkc15 => k_is)
    (case qtg8 => k_is)
    (case qrd8 => k_is)
    (case qat8 => k_is)
    (case tx_InvalidLog_at => k_is)
    (case qin10 => kx_is)
    (case qov10 => kx_is)
    (case qhd10 => k_is)
    (case qsa10 => k_is)
    (case qsb10 => k_is)
    (case qty10 => k_is)
    (case qkc10 => k_is)
    (case tx_InvalidTime_time => k_is)
    (case qcl15 => kernel_rfl)
    (case qga15 => k_is)
    (case qgt15 => k_is)
    (case qha15 => k_is)
    (case qhn => k_is)
    (case qtk => k_is)
    (case qhm15 => k_is)
    (case xk_InvalidLog_InvalidRow => kit_is)
    (case qcl10 => kernel_rfl)
    (case qga10 => k_is)
    (case qgt10 => k_is)
    (case qha10 => k_is)
    (case qhm10 => k_is)
    (case xk_InvalidTime_InvalidRow => kit_is)
    (case xk_InvalidLog_InvalidTime => kit_is)
    (case xk_InvalidTime_InvalidTime => kit_is)
    (case xk_InvalidLog_InvalidOutages => kit_is)
    (case xk_InvalidTime_InvalidOutages => kit_is)
    (case xk_InvalidLog_InvalidIndex => kit_is)
    (case xk_InvalidTime_InvalidIndex => kit_is)
    (case xk_InvalidLog_InvalidBound => kit_is)
    (case xk_InvalidTime_InvalidBound => kit_is)
    (case xk_InvalidLog_InvalidLog => kit_is)
    (case xk_InvalidTime_InvalidLog => kit_is)
    (case xt_InvalidLog__InvalidTrains_InvalidCall_InvalidText_LimitExceeded => kit_is)
    (case xt_InvalidTime__InvalidTrains_InvalidCall_InvalidText_LimitExceeded => kit_is)
    (case xk_InvalidLog_ArithmeticError => kit_is)
    (case xk_InvalidTime_ArithmeticError => kit_is)
    (case xn_InvalidLog_at => k_is)
    (case xm_InvalidLog_BreakerError => kernel_rfl)
    (case xm_InvalidTime_BreakerError => kernel_rfl)
